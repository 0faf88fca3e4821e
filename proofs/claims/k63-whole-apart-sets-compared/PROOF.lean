import PyProof.Rows.All
import PySem.Challenge.RW_tallsits_k63_whole_apart_sets_compared
import HandS.ForMost
import HandS.IsInst
import HandS.SortInts
import HandS.Strs
import HandS.SetFor
import HandS.Conv
import HandS.Wide
import HandS.Deep
import HandS.TupLe
import HandS.Lambda
import KE.SortData
import KE.DataMinMax
import KE.DataEq
import KE.DataFind
import KE.KDictKeyed
import HandS.TupAny
import HandS.Defaults
import KE.GoesMore
import HandS.Style
import PyProof.TupleOps
import HandS.Star
import KE.KDictDisplayH
import HandS.TupLen
import HandS.WordsDict
import HandS.TupSets
import HandS.HeadHook2
import KE.KDictWalk
import KE.KDictCopyH
import HandS.TupMul
import KE.KDictItemsList
import HandS.Nested
import HandS.HeadHook4
import HandS.HeadWalk
import HandS.ExcOwn
import HandS.ExcIs
import HandS.HeadHook1
import PyProof.ExcBaseAll.ValueError
import HandS.DictComp
import KE.KEqDict
import KE.KeyNested
import HandS.Text
import HandS.ReplaceLit
import HandS.ReplaceList
import HandS.SortKw
import KE.SortKeyHeap
import KE.KIndexOf
import HandS.Head0
import HandS.Head1
import HandS.Head2
import HandS.HeadEnd
set_option Elab.async false
set_option linter.all false
set_option maxRecDepth 100000
set_option maxHeartbeats 4000000
namespace L2.P
open PySem PySem.Spec PyProof.Rows L2

abbrev D := PyData
abbrev Fg := PySem.W.Frag

theorem sqL_same {K : Fg} {F F' : Hp} {a : Addr} {xs : List V} (e : Same F F') (h : SqL K F a xs) : SqL K F' a xs := e.seq h
theorem sqT_same {K : Fg} {F F' : Hp} {a : Addr} {xs : List V} (e : Same F F') (h : SqT K F a xs) : SqT K F' a xs := by
  rcases h with (h | ⟨o, h⟩) | h
  · exact .inl (.inl (e _ _ h))
  · exact .inl (.inr ⟨o, e _ _ h⟩)
  · exact .inr h
/-- a mark that no value stands for -/
def mkD : D := .dict [(.none, .none)]
/-- a tuple of two ints that the module binds: read, but no key of a dict that is filled -/
def rqD (i j : Int) : D := .dict [(.int i, mkD), (.int j, mkD)]
structure LamD where
  params : Arguments
  body : Expr
  scope : Scope
def lamSt : Stmt → Option LamD
  | .Return (some (.Call _ es _ _)) _ => match es.getLast? with
    | some (.Lambda p b sc _) => some ⟨p, b, sc⟩
    | _ => none
  | _ => none
/-- a lambda handed on within a statement -/
def lamArg : Expr → Option LamD
  | .Call _ es _ _ => match es.getLast? with
    | some (.Lambda p b sc _) => some ⟨p, b, sc⟩
    | some (.Call _ fs _ _) => match fs.getLast? with
      | some (.Lambda p b sc _) => some ⟨p, b, sc⟩
      | _ => none
    | _ => none
  | _ => none
def lamIn : Stmt → Option LamD
  | .Assign _ e _ => lamArg e
  | .If (.UnaryOp _ e _) _ _ _ => lamArg e
  | _ => none
/-- law0, law1, law2: the law's own lambdas -/
def lamB (q : Str) : Str := if q = "law0" then "law" else if q = "law1" then "law" else if q = "law2" then "law" else q
def lamI (q : Str) : Option Nat := if q = "law0" then some 0 else if q = "law1" then some 1 else if q = "law2" then some 2 else none
/-- the lambda of the def q -/
def lamOf (K : Fg) (q : Str) : Option LamD := match PySem.W.nsIn K mainGlobals (lamB q) with
  | some (some (.ref g)) => match K.lookup g with
    | some ⟨_, _, .func fd, _⟩ => match fd.body with
      | .stmts b => match lamI q with
        | none => b.getLast?.bind lamSt
        | some j => (b.filterMap lamIn)[j]?
      | _ => none
    | _ => none
  | _ => none
def LamD.fr (L : LamD) : List Str := L.scope.names.filterMap fun y => match y.2 with
  | .free => some y.1
  | _ => none
/-- exactly this object -/
def exO (a : Addr) (o : Obj) : HO := .ext fun h => h.get? a = some o
def lamQ (q : Str) : Str := lamB q ++ ".<locals>." ++ "<lambda>"
/-- at a stands q's lambda, its captured names hold vs -/
structure LamAt (K : Fg) (F : Hp) (a : Addr) (q : Str) (vs : List V) (L : LamD) (cl : List (Str × Addr)) (c' : Addr) (pm ctv : Value) : Prop where
  of : lamOf K q = some L
  obj : F a = some (exO a (PySem.W.kla_obj "<lambda>" (lamQ q) L.params L.body L.scope cl pm c' ctv))
  code : F c' = some (LamX.CodeO c' (lamQ q))
  cell : ∀ y c, cl.lookup y = some c → ∃ o v, F c = some (exO c o) ∧ o.data = .cell v
  inj : ∀ x y c, cl.lookup x = some c → cl.lookup y = some c → x = y
  len : vs.length = L.fr.length
  has : ∀ (i : Nat) (y : Str), L.fr[i]? = some y → ∃ c o u v, cl.lookup y = some c ∧ F c = some (exO c o) ∧ o.data = .cell (some u) ∧ vs[i]? = some v ∧ RelV v u
def LamHere (K : Fg) (F : Hp) (a : Addr) (q : Str) (vs : List V) : Prop := ∃ L cl c' pm ctv, LamAt K F a q vs L cl c' pm ctv
theorem LamAt.same {K : Fg} {F F' : Hp} {a : Addr} {q : Str} {vs : List V} {L : LamD} {cl : List (Str × Addr)} {c' : Addr} {pm ctv : Value} (h : LamAt K F a q vs L cl c' pm ctv) (e : Same F F') : LamAt K F' a q vs L cl c' pm ctv where
  of := h.of
  obj := e _ _ h.obj
  code := e _ _ h.code
  cell := fun y c hc => by
    obtain ⟨o, v, e1, e2⟩ := h.cell y c hc
    exact ⟨o, v, e _ _ e1, e2⟩
  inj := h.inj
  len := h.len
  has := fun i y hy => by
    obtain ⟨c, o, u, v, e1, e2, e3, e4, e5⟩ := h.has i y hy
    exact ⟨c, o, u, v, e1, e _ _ e2, e3, e4, e5⟩
theorem LamHere.same {K : Fg} {F F' : Hp} {a : Addr} {q : Str} {vs : List V} (h : LamHere K F a q vs) (e : Same F F') : LamHere K F' a q vs := by
  obtain ⟨L, cl, c', pm, ctv, z⟩ := h
  exact ⟨L, cl, c', pm, ctv, z.same e⟩
mutual
/-- the data is that key -/
inductive NkD : NestedKey → D → Prop
  | none : NkD .none .none
  | num (i : Int) : NkD (.num i) (.int i)
  | bool (b : Bool) : NkD (.num (if b = true then 1 else 0)) (.bool b)
  | tup {ks : List NestedKey} {ds : List D} : NkDs ks ds → NkD (.tup ks) (.tuple ds)
inductive NkDs : List NestedKey → List D → Prop
  | nil : NkDs [] []
  | cons {k : NestedKey} {d : D} {ks : List NestedKey} {ds : List D} : NkD k d → NkDs ks ds → NkDs (k :: ks) (d :: ds)
end
abbrev NEnt := NestedKey × Addr × V
def NRel (p : NEnt) (q : NestedKey × Addr × Value) : Prop := p.1 = q.1 ∧ p.2.1 = q.2.1 ∧ RelV p.2.2 q.2.2
def DictNF (h : Heap) (a : Addr) (L : List NEnt) : Prop := ∃ (P : Program) (w : World) (xs : List (NestedKey × Addr × Value)) (o : Obj) (es : Array DictEntry) (ep : Nat), Paired NRel L xs ∧ h.get? a = some o ∧ o.ExactDict ∧ o.data = .dict es ep ∧ es.toList = xs.map (entryOfKey (nestedKind P w)) ∧ (xs.map (·.1)).Nodup
/-- the object at a is a dict with those entries -/
def DictNO (a : Addr) (L : List NEnt) : HO := .ext fun h => DictNF h a L
/-- a function: whose lambda, what it captured -/
def fnD (q : Str) (ps : List D) : D := .dict [(.none, .tuple (.str q :: ps))]
/-- a tuple of ints whose object is known to have no dict of its own -/
def kD (ns : List Int) : D := .dict [(.none, .int 0), (.none, .tuple (ns.map .int))]
/-- the lenient mode: K's first entry stands twice -/
def lenK (K : Fg) : Prop := ∃ p l, K = p :: p :: l
def Kz : Fg → Fg
  | [] => []
  | p :: l => p :: p :: l
theorem Kz_look (K : Fg) (a : Addr) : (Kz K).lookup a = K.lookup a := by
  cases K with
  | nil => rfl
  | cons p l =>
    obtain ⟨b, o⟩ := p
    show List.lookup a ((b, o) :: (b, o) :: l) = List.lookup a ((b, o) :: l)
    by_cases h : (a == b) = true
    · simp [List.lookup, h]
    · simp [List.lookup, h]
theorem Kz_len {K : Fg} (h : K ≠ []) : lenK (Kz K) := by
  cases K with
  | nil => exact absurd rfl h
  | cons p l => exact ⟨p, l, rfl⟩
mutual
/-- v stands for the data p, and will -/
inductive Dp (K : Fg) (F : Hp) : V → D → Prop
  | non : Dp K F .non .none
  | bl (b : Bool) : Dp K F (.bl b) (.bool b)
  | int (i : Int) : Dp K F (.int i) (.int i)
  | str (x : Str) : Dp K F (.str x) (.str x)
  | lst {a : Addr} {xs : List V} {ps : List D} : SqL K F a xs → DpAll K F xs ps → Dp K F (.ref a) (.list ps)
  | tup {a : Addr} {xs : List V} {ps : List D} : F a = some (.tup xs) → DpAll K F xs ps → Dp K F (.ref a) (.tuple ps)
  | tupZ {a : Addr} {o : Obj} {xs : List V} {ps : List D} : lenK K → F a = some (.frz o (.tup xs)) → DpAll K F xs ps → Dp K F (.ref a) (.tuple ps)
  | kt {a : Addr} {o : Obj} {ns : List Int} : lenK K → F a = some (.frz o (.tup (ns.map V.int))) → o.dict = none → Dp K F (.ref a) (kD ns)
  | tupK {a : Addr} {o : Obj} {its : Array Value} {n : Nat} {xs : List V} {ps : List D} : K.lookup a = some o → o.cls = .type "tuple" → o.data = .seq its n → its.size ≤ sizeLine → Vals xs its.toList → (∃ z, PyData.str z ∈ ps) → DpAll K F xs ps → Dp K F (.ref a) (.tuple ps)
  | dk {a : Addr} {o : Obj} {es : List (Key × V)} {kvs : List (D × D)} : F a = some (.frz o (.dK es)) → DkAll K F es kvs → Dp K F (.ref a) (.dict kvs)
  | dt {a : Addr} {o : Obj} {e : List Key × V} {es : List (List Key × V)} {kvs : List (D × D)} : F a = some (.frz o (.dT (e :: es))) → DtAll K F (e :: es) kvs → Dp K F (.ref a) (.dict kvs)
  | q {a : Addr} {o : Obj} {its : Array Value} {n : Nat} {i j : Int} : K.lookup a = some o → o.cls = .type "tuple" → o.data = .seq its n → its.size ≤ sizeLine → Vals [.int i, .int j] its.toList → Dp K F (.ref a) (rqD i j)
  | fn {a : Addr} {q : Str} {vs : List V} {ps : List D} : LamHere K F a q vs → DpAll K F vs ps → Dp K F (.ref a) (fnD q ps)
  | nd {a : Addr} {o : Obj} {L : List NEnt} {zs : List D} : (a == sysModules) = false → F a = some (.frz o (DictNO a L)) → DnAll K F L zs → Dp K F (.ref a) (.dict [(.none, .list zs)])
/-- a dict's items, its keys nested tuples -/
inductive DnAll (K : Fg) (F : Hp) : List NEnt → List D → Prop
  | nil : DnAll K F [] []
  | cons {k : NestedKey} {b : Addr} {v : V} {d p : D} {L : List NEnt} {zs : List D} : NkD k d → k.depth ≤ 8 → d.plain = true → Dp K F (.ref b) d → Dp K F v p → DnAll K F L zs → DnAll K F ((k, b, v) :: L) (.tuple [d, p] :: zs)
inductive DpAll (K : Fg) (F : Hp) : List V → List D → Prop
  | nil : DpAll K F [] []
  | cons {v : V} {vs : List V} {p : D} {ps : List D} : Dp K F v p → DpAll K F vs ps → DpAll K F (v :: vs) (p :: ps)
/-- a dict's items, its keys ints -/
inductive DkAll (K : Fg) (F : Hp) : List (Key × V) → List (D × D) → Prop
  | nil : DkAll K F [] []
  | cons {k : Int} {v : V} {p : D} {es : List (Key × V)} {kvs : List (D × D)} : Dp K F v p → DkAll K F es kvs → DkAll K F ((.inl k, v) :: es) ((.int k, p) :: kvs)
/-- .. its keys tuples of ints -/
inductive DtAll (K : Fg) (F : Hp) : List (List Key × V) → List (D × D) → Prop
  | nil : ¬ lenK K → DtAll K F [] []
  | cons {ks : List Int} {v : V} {p : D} {es : List (List Key × V)} {kvs : List (D × D)} : Dp K F v p → DtAll K F es kvs → DtAll K F ((ks.map Sum.inl, v) :: es) ((.tuple (ks.map .int), p) :: kvs)
end
mutual
theorem Dp.same {K : Fg} {F F' : Hp} (e : Same F F') : ∀ {v : V} {p : D}, Dp K F v p → Dp K F' v p
  | _, _, .non => .non
  | _, _, .bl b => .bl b
  | _, _, .int i => .int i
  | _, _, .str i => .str i
  | _, _, .tup s r => .tup (e _ _ s) (DpAll.same e r)
  | _, _, .tupK a b c d f g r => .tupK a b c d f g (DpAll.same e r)
  | _, _, .tupZ l s r => .tupZ l (e _ _ s) (DpAll.same e r)
  | _, _, .kt l s d => .kt l (e _ _ s) d
  | _, _, .lst s r => .lst (sqL_same e s) (DpAll.same e r)
  | _, _, .dk s r => .dk (e _ _ s) (DkAll.same e r)
  | _, _, .dt s r => .dt (e _ _ s) (DtAll.same e r)
  | _, _, .q a b c d f => .q a b c d f
  | _, _, .fn h r => .fn (h.same e) (DpAll.same e r)
  | _, _, .nd m s r => .nd m (e _ _ s) (DnAll.same e r)
theorem DnAll.same {K : Fg} {F F' : Hp} (e : Same F F') : ∀ {L : List NEnt} {zs : List D}, DnAll K F L zs → DnAll K F' L zs
  | _, _, .nil => .nil
  | _, _, .cons a b c d f g => .cons a b c (Dp.same e d) (Dp.same e f) (DnAll.same e g)
theorem DpAll.same {K : Fg} {F F' : Hp} (e : Same F F') : ∀ {vs : List V} {ps : List D}, DpAll K F vs ps → DpAll K F' vs ps
  | _, _, .nil => .nil
  | _, _, .cons a b => .cons (Dp.same e a) (DpAll.same e b)
theorem DkAll.same {K : Fg} {F F' : Hp} (e : Same F F') : ∀ {vs : List (Key × V)} {ps : List (D × D)}, DkAll K F vs ps → DkAll K F' vs ps
  | _, _, .nil => .nil
  | _, _, .cons a b => .cons (Dp.same e a) (DkAll.same e b)
theorem DtAll.same {K : Fg} {F F' : Hp} (e : Same F F') : ∀ {vs : List (List Key × V)} {ps : List (D × D)}, DtAll K F vs ps → DtAll K F' vs ps
  | _, _, .nil l => .nil l
  | _, _, .cons a b => .cons (Dp.same e a) (DtAll.same e b)
end
mutual
/-- plain data, as the library says it -/
theorem Dp.lib {K : Fg} {F : Hp} : ∀ {v : V} {p : D}, Dp K F v p → p.plain = true → L2.Dp K F v p
  | _, _, .non, _ => .non
  | _, _, .bl b, _ => .bl b
  | _, _, .int i, _ => .int i
  | _, _, .str i, _ => .str i
  | _, _, .tup s r, h => .tup (.inl (.inl s)) (DpAll.lib r (by simpa [PyData.plain] using h))
  | _, _, .tupK a b c d f _ r, h => .tup (.inr ⟨_, _, _, a, b, c, d, f⟩) (DpAll.lib r (by simpa [PyData.plain] using h))
  | _, _, .tupZ _ s r, h => .tup (.inl (.inr ⟨_, s⟩)) (DpAll.lib r (by simpa [PyData.plain] using h))
  | _, _, .kt _ _ _, h => by simp [kD, PyData.plain] at h
  | _, _, .lst s r, h => .lst s (DpAll.lib r (by simpa [PyData.plain] using h))
  | _, _, .dk s r, h => by simp [PyData.plain] at h
  | _, _, .dt s r, h => by simp [PyData.plain] at h
  | _, _, .q a b c d f, h => by simp [rqD, PyData.plain] at h
  | _, _, .fn _ _, h => by simp [fnD, PyData.plain] at h
  | _, _, .nd _ _ _, h => by simp [PyData.plain] at h
theorem DpAll.lib {K : Fg} {F : Hp} : ∀ {vs : List V} {ps : List D}, DpAll K F vs ps → PyData.plainAll ps = true → L2.DpAll K F vs ps
  | _, _, .nil, _ => .nil
  | _, _, .cons a b, h => by
    rw [PyData.plainAll, Bool.and_eq_true] at h
    exact .cons (Dp.lib a h.1) (DpAll.lib b h.2)
end
theorem Dp.reads {X : Cx} {pins : List (Addr × Obj)} {σ : St} {H : Hp} {s : Shared} (I : L2.Inv X pins σ H s) (d : D) (v : V) (u : Value) (h : Dp X.K H v d) (hp : d.plain = true) (r : RelV v u) : ∃ as, Reads s.heap u d as := L2.Dp.reads I d v u (h.lib hp) r
theorem Dp.readsAll {X : Cx} {pins : List (Addr × Obj)} {σ : St} {H : Hp} {s : Shared} (I : L2.Inv X pins σ H s) (ds : List D) (vs : List V) (us : List Value) (h : DpAll X.K H vs ds) (hp : PyData.plainAll ds = true) (r : Vals vs us) : ∃ as, ReadsAll s.heap us ds as := L2.Dp.readsAll I ds vs us (h.lib hp) r
theorem DpAll.length {K : Fg} {F : Hp} : ∀ {vs : List V} {ps : List D}, DpAll K F vs ps → vs.length = ps.length
  | _, _, .nil => rfl
  | _, _, .cons _ b => congrArg (· + 1) (DpAll.length b)
theorem DpAll.append {K : Fg} {F : Hp} : ∀ {vs us : List V} {ps qs : List D}, DpAll K F vs ps → DpAll K F us qs → DpAll K F (vs ++ us) (ps ++ qs)
  | _, _, _, _, .nil, h => h
  | _, _, _, _, .cons a b, h => .cons a (DpAll.append b h)
theorem DpAll.get {K : Fg} {F : Hp} : ∀ {vs : List V} {ps : List D} {i : Nat} {p : D}, DpAll K F vs ps → ps[i]? = some p → ∃ v, vs[i]? = some v ∧ Dp K F v p
  | _, _, _, _, .nil, h => by simp at h
  | _, _, 0, _, .cons a _, h => by simp at h; subst h; exact ⟨_, rfl, a⟩
  | _, _, i + 1, _, .cons _ b, h => by simpa using DpAll.get (i := i) b (by simpa using h)
theorem DpAll.getV {K : Fg} {F : Hp} : ∀ {vs : List V} {ps : List D} {i : Nat} {v : V}, DpAll K F vs ps → vs[i]? = some v → ∃ p, ps[i]? = some p ∧ Dp K F v p
  | _, _, _, _, .nil, h => by simp at h
  | _, _, 0, _, .cons a _, h => by simp at h; subst h; exact ⟨_, rfl, a⟩
  | _, _, i + 1, _, .cons _ b, h => by simpa using DpAll.getV (i := i) b (by simpa using h)
theorem DpAll.set {K : Fg} {F : Hp} {v : V} {p : D} (r : Dp K F v p) : ∀ {vs : List V} {ps : List D} (i : Nat), DpAll K F vs ps → DpAll K F (vs.set i v) (ps.set i p)
  | _, _, _, .nil => .nil
  | _, _, 0, .cons _ b => .cons r b
  | _, _, i + 1, .cons a b => .cons a (DpAll.set r i b)
theorem DpAll.drop {K : Fg} {F : Hp} : ∀ {vs : List V} {ps : List D} (n : Nat), DpAll K F vs ps → DpAll K F (vs.drop n) (ps.drop n)
  | _, _, 0, r => r
  | _, _, _ + 1, .nil => .nil
  | _, _, n + 1, .cons _ t => DpAll.drop n t
theorem DpAll.take {K : Fg} {F : Hp} : ∀ {vs : List V} {ps : List D} (n : Nat), DpAll K F vs ps → DpAll K F (vs.take n) (ps.take n)
  | _, _, 0, _ => .nil
  | _, _, _ + 1, .nil => .nil
  | _, _, n + 1, .cons a t => .cons a (DpAll.take n t)
theorem DpAll.uncons {K : Fg} {F : Hp} {vs : List V} {p : D} {ps : List D} (h : DpAll K F vs (p :: ps)) : ∃ v us, vs = v :: us ∧ Dp K F v p ∧ DpAll K F us ps := by
  cases h with
  | cons a b => exact ⟨_, _, rfl, a, b⟩
theorem DpAll.unnil {K : Fg} {F : Hp} {vs : List V} (h : DpAll K F vs []) : vs = [] := by cases h; rfl
section
variable {K : Fg} {F : Hp} {v : V}
theorem Dp.inv_bl {b : Bool} (h : Dp K F v (.bool b)) : v = .bl b := by cases h; rfl
theorem Dp.inv_int {i : Int} (h : Dp K F v (.int i)) : v = .int i := by cases h; rfl
theorem Dp.inv_str {x : Str} (h : Dp K F v (.str x)) : v = .str x := by cases h; rfl
theorem Dp.inv_tup {ps : List D} (h : Dp K F v (.tuple ps)) : ∃ a xs, v = .ref a ∧ SqT K F a xs ∧ DpAll K F xs ps := by
  cases h with
  | tup s r => exact ⟨_, _, rfl, .inl (.inl s), r⟩
  | tupK a b c d f _ r => exact ⟨_, _, rfl, .inr ⟨_, _, _, a, b, c, d, f⟩, r⟩
  | tupZ _ s r => exact ⟨_, _, rfl, .inl (.inr ⟨_, s⟩), r⟩
theorem DtAll.strict : ∀ {es : List (List Key × V)} {kvs : List (D × D)}, DtAll K F es kvs → ¬ lenK K
  | _, _, .nil l => l
  | _, _, .cons _ t => DtAll.strict t
theorem Dp.inv_dictQ {kvs : List (D × D)} (h : Dp K F v (.dict kvs)) (nz : ∀ zs, kvs ≠ [(.none, .list zs)] := by intro _ z; cases z) (nk : ∀ ns : List Int, kvs ≠ [(.none, .int 0), (.none, .tuple (ns.map .int))] := by intro _ z; cases z) : ∃ a, v = .ref a ∧ ((∃ o es, F a = some (.frz o (.dK es)) ∧ DkAll K F es kvs) ∨ (∃ o e es, F a = some (.frz o (.dT (e :: es))) ∧ DtAll K F (e :: es) kvs) ∨ (∃ i j, kvs = [(.int i, mkD), (.int j, mkD)] ∧ ∀ F, SqT K F a [.int i, .int j]) ∨ ∃ q vs ps, kvs = [(.none, .tuple (.str q :: ps))] ∧ LamHere K F a q vs ∧ DpAll K F vs ps) := by
  generalize hp : PyData.dict kvs = p at h
  cases h with
  | dk s r => cases hp; exact ⟨_, rfl, .inl ⟨_, _, s, r⟩⟩
  | dt s r => cases hp; exact ⟨_, rfl, .inr (.inl ⟨_, _, _, s, r⟩)⟩
  | q a b c d f => cases hp; exact ⟨_, rfl, .inr (.inr (.inl ⟨_, _, rfl, fun _ => .inr ⟨_, _, _, a, b, c, d, f⟩⟩))⟩
  | fn h r => cases hp; exact ⟨_, rfl, .inr (.inr (.inr ⟨_, _, _, rfl, h, r⟩))⟩
  | nd _ s r => cases hp; exact absurd rfl (nz _)
  | kt _ _ _ => unfold kD at hp; cases hp; exact absurd rfl (nk _)
  | _ => cases hp
theorem Dp.inv_lst {ps : List D} (h : Dp K F v (.list ps)) : ∃ a xs, v = .ref a ∧ SqL K F a xs ∧ DpAll K F xs ps := by
  cases h with
  | lst s r => exact ⟨_, _, rfl, s, r⟩
end
theorem dpAll_ints {K : Fg} {F : Hp} : ∀ {vs : List V} (ns : List Int), DpAll K F vs (ns.map PyData.int) → vs = ns.map V.int
  | _, [], h => DpAll.unnil h
  | _, n :: ns, h => by
    obtain ⟨v, us, rfl, r, t⟩ := DpAll.uncons h
    rw [Dp.inv_int r, dpAll_ints ns t]
    rfl
theorem dpAll_of_ints {K : Fg} {F : Hp} : ∀ (ns : List Int), DpAll K F (ns.map V.int) (ns.map PyData.int)
  | [] => .nil
  | n :: ns => .cons (.int n) (dpAll_of_ints ns)
theorem dpAll_bls {K : Fg} {F : Hp} : ∀ {vs : List V} (ns : List Bool), DpAll K F vs (ns.map PyData.bool) → vs = ns.map V.bl
  | _, [], h => DpAll.unnil h
  | _, n :: ns, h => by
    obtain ⟨v, us, rfl, r, t⟩ := DpAll.uncons h
    rw [Dp.inv_bl r, dpAll_bls ns t]
    rfl

/-- what a memo dict holds: its keys tuples of ints (t), nested tuples of ints and bools (n) -/
inductive MG where
  | t (G : D → D → Prop) | n (G : D → D → Prop) | x (zs : List D) | o (a : Addr) (u : HO)
instance : Coe (D → D → Prop) MG := ⟨MG.t⟩
/-- entries that stand for data -/
def NEnts (K : Fg) (F : Hp) : List NEnt → List (D × D) → Prop := Paired fun p e => NkD p.1 e.1 ∧ p.1.depth ≤ 8 ∧ e.1.plain = true ∧ Dp K F (.ref p.2.1) e.1 ∧ Dp K F p.2.2 e.2
theorem NEnts.same {K : Fg} {F F' : Hp} {L : List NEnt} {kvs : List (D × D)} (h : NEnts K F L kvs) (e : Same F F') : NEnts K F' L kvs := Paired.mapP h fun _ _ z => ⟨z.1, z.2.1, z.2.2.1, z.2.2.2.1.same e, z.2.2.2.2.same e⟩
/-- exactly these entries -/
def ExactOk (K : Fg) (zs : List D) (F H : Hp) (r : Addr) : Prop := ∃ L : List NEnt, (r == sysModules) = false ∧ H r = some (DictNO r L) ∧ DnAll K F L zs ∧ (L.map (·.1)).Nodup ∧ L.length ≤ sizeLine
def NestOk (K : Fg) (G : D → D → Prop) (F H : Hp) (r : Addr) : Prop := ∃ (L : List NEnt) (kvs : List (D × D)), (r == sysModules) = false ∧ H r = some (DictNO r L) ∧ NEnts K F L kvs ∧ (L.map (·.1)).Nodup ∧ L.length ≤ sizeLine ∧ ∀ e ∈ kvs, G e.1 e.2
theorem dict_ne_code (a : Addr) (L : List NEnt) (c : Addr) (q : Str) : DictNO a L ≠ LamX.CodeO c q := fun z => by
  unfold DictNO LamX.CodeO at z
  injection z with z
  obtain ⟨oc, hoc⟩ : ∃ oc : Obj, oc = { cls := .none, data := .fields #[.none, .str q default] } := ⟨_, rfl⟩
  obtain ⟨h, hh⟩ : ∃ h : Heap, h = { objs := (Array.replicate c ({ cls := .none } : Obj)).push oc } := ⟨_, rfl⟩
  have e1 : h.get? c = some oc := by
    unfold Heap.get?
    have e : h.objs[c]? = some oc := by
      rw [hh, Array.getElem?_push]
      simp
    rw [e, hoc]
  have hp := (congrFun z h).mpr ⟨oc, #[.none, .str q default], default, e1, by rw [hoc], rfl⟩
  obtain ⟨P, w, xs, o, es, ep, _, g, _, dd, _⟩ := hp
  by_cases ac : a = c
  · rw [ac, e1] at g
    cases g
    rw [hoc] at dd
    cases dd
  · unfold Heap.get? at g
    have e : h.objs[a]? = none ∨ h.objs[a]? = some ({ cls := .none } : Obj) := by
      rw [hh, Array.getElem?_push]
      simp only [Array.size_replicate]
      rw [if_neg ac, Array.getElem?_replicate]
      split
      · exact .inr rfl
      · exact .inl rfl
    rcases e with e | e
    · rw [e] at g; cases g
    · rw [e] at g
      cases g
      cases dd
/-- what is known of a slot: nothing; a value that never changes; a list that this frame alone holds; the row of draws -/
inductive Sl where
  | no | v (p : D) | ol (xs : List D) | rw (m : Option MG) | od (t : Bool) (kvs : List (D × D))
abbrev Sl.row : Sl := .rw none
inductive Sl.IsRw : Sl → Prop
  | mk (m : Option MG) : Sl.IsRw (.rw m)
abbrev Rho := List Sl

/-- the row of draws: the script (frozen), the place, a number, a rest -/
def RowOk (K : Fg) (m : Option MG) (F H : Hp) (r : Addr) : Prop := match m with
  | none => ∃ (sa : Addr) (ns : List Int) (b c d : Int), H r = some (.lst [.ref sa, .int b, .int c, .int d]) ∧ SqL K F sa (ns.map V.int) ∧ ns.length ≤ 63 ∧ 0 ≤ b ∧ 0 ≤ c ∧ 0 ≤ d
  | some (.n G) => NestOk K G F H r
  | some (.x zs) => ExactOk K zs F H r
  | some (.o a u) => r = a ∧ H r = some u ∧ (∀ xs, u ≠ HO.tup xs) ∧ ¬ ((∃ ps, u = HO.tbl ps) ∨ ∃ c q, u = LamX.CodeO c q)
  | some (.t G) => ∃ (es : List (List Key × V)) (kvs : List (List Int × D)), H r = some (.dT es) ∧ DtAll K F es (kvs.map fun e => (.tuple (e.1.map .int), e.2)) ∧ (kvs.map fun e => e.1).Nodup ∧ ∀ e ∈ kvs, G (.tuple (e.1.map .int)) e.2

/-- no dict of this frame alone -/
def noX : Option MG → Prop
  | some (.x _) => False
  | _ => True
/-- a frame's base: the frozen heap and the heap at its entry, the row that it was handed -/
structure Bs where
  Fa : Hp
  Ha : Hp
  r : Option Addr
  m : Option MG

def tbNames : List Str := ["law", "calls_to_end", "calls_to_sit", "calls_to_sit_all", "calls_to_alone", "calls_to_end_with", "calls_to_size", "seen_person", "seen_numbers", "seen_tallest", "calm_row"]
/-- the code object of the def x, its table -/
def cdOf (K : Fg) (x : Str) : Option (Addr × Addr) := match PySem.W.nsIn K mainGlobals x with
  | some (some (.ref g)) => match K.lookup g with
    | some ⟨_, _, .func fd, _⟩ => match fd.code with
      | .ref c => match K.lookup c with
        | some ⟨_, _, .fields vs, _⟩ => match (show Option Value from vs[11]?) with
          | some (.ref P) => some (c, P)
          | _ => none
        | _ => none
      | _ => none
    | _ => none
  | _ => none
/-- .. if the table isn't part of K -/
def tbOf (K : Fg) (x : Str) : Option (Addr × Str) := match cdOf K x with
  | some (_, P) => if (K.lookup P).isNone = true then some (P, x ++ ".<locals>.<lambda>") else none
  | none => none
def tbT (K : Fg) : List (Addr × Str) := tbNames.filterMap (tbOf K)
def isTE (o : HO) : Prop := (∃ ps, o = .tbl ps) ∨ ∃ c q, o = LamX.CodeO c q
/-- no table is frozen -/
def NoTb (F : Hp) : Prop := ∀ b ps, F b ≠ some (.tbl ps)
def TbOk (K : Fg) (F H : Hp) : Prop := (∀ p ∈ tbT K, F p.1 = none) ∧ LamX.Tabs (tbT K) H ∧ NoTb F
theorem NoTb.up {F : Hp} {a : Addr} {o : HO} (h : NoTb F) (no : ∀ ps, o ≠ .tbl ps) : NoTb (upd F a o) := fun b ps e => by
  by_cases q : b = a
  · subst q; rw [upd_same] at e; exact no ps (Option.some.inj e)
  · rw [upd_ne q] at e; exact h b ps e
theorem nte_tbl {o : HO} (h : ¬ isTE o) : ∀ ps, o ≠ .tbl ps := fun ps z => h (.inl ⟨ps, z⟩)
/-- b stays as it is -/
def Ex (K : Fg) (r : Option Addr) (b : Addr) : Prop := some b ≠ r ∧ ∀ p ∈ tbT K, p.1 ≠ b
theorem not_te {o : HO} (h : (match o with | .tbl _ => false | .ext _ => false | _ => true) = true) : ¬ isTE o := by
  rintro (⟨ps, rfl⟩ | ⟨c, q, rfl⟩)
  · cases h
  · unfold LamX.CodeO at h
    cases h
theorem dict_te (a : Addr) (L : List NEnt) : ¬ isTE (DictNO a L) := by
  rintro (⟨ps, z⟩ | ⟨c, q, z⟩)
  · unfold DictNO at z; cases z
  · exact dict_ne_code a L c q z
theorem dict_nt (a : Addr) (L : List NEnt) : ∀ xs, DictNO a L ≠ HO.tup xs := fun xs z => by unfold DictNO at z; cases z
theorem tabs_ext {T : List (Addr × Str)} {H H' : Hp} (t : LamX.Tabs T H) (e : ∀ b o, H b = some o → isTE o → H' b = some o) : LamX.Tabs T H' := fun p hp => by
  obtain ⟨ps, h1, h2, h3⟩ := t p hp
  refine ⟨ps, e _ _ h1 (.inl ⟨_, rfl⟩), h2, fun pos cv hc => ?_⟩
  obtain ⟨c, e1, e2⟩ := h3 pos cv hc
  exact ⟨c, e1, e _ _ e2 (.inr ⟨_, _, rfl⟩)⟩
section
variable {K : Fg} {F F' H H' : Hp} {a : Addr} {o o0 o1 : HO}
theorem TbOk.ne (h : TbOk K F H) (e : H a = some o) (nt : ¬ isTE o) : ∀ p ∈ tbT K, p.1 ≠ a := fun p hp z => by
  obtain ⟨ps, h1, _⟩ := h.2.1 p hp
  rw [z, e] at h1
  exact nt (.inl ⟨ps, Option.some.inj h1⟩)
theorem TbOk.ne0 (h : TbOk K F H) (e : H a = none) : ∀ p ∈ tbT K, p.1 ≠ a := fun p hp z => by
  obtain ⟨ps, h1, _⟩ := h.2.1 p hp
  rw [z, e] at h1
  cases h1
theorem TbOk.up (h : TbOk K F H) (n : H a = none) (no : ∀ ps, o ≠ .tbl ps) : TbOk K (upd F a o) (upd H a o) :=
  ⟨fun p hp => by rw [upd_ne (h.ne0 n p hp)]; exact h.1 p hp, tabs_ext h.2.1 fun b u e _ => by rw [upd_ne (ne_of_none e n)]; exact e, h.2.2.up no⟩
theorem TbOk.lay (h : TbOk K F H) (n : H a = none) : TbOk K F (upd H a o) :=
  ⟨h.1, tabs_ext h.2.1 (fun b u e _ => by rw [upd_ne (ne_of_none e n)]; exact e), h.2.2⟩
theorem TbOk.chg (h : TbOk K F H) (e : H a = some o0) (nt : ¬ isTE o0) : TbOk K F (upd H a o) :=
  ⟨h.1, tabs_ext h.2.1 (fun b u e2 t => by
    have ne : b ≠ a := fun z => by
      rw [z, e] at e2
      exact nt (by rw [Option.some.inj e2]; exact t)
    rw [upd_ne ne]; exact e2), h.2.2⟩
theorem TbOk.frz (h : TbOk K F H) (e : H a = some o) (nt : ¬ isTE o) : TbOk K (upd F a o) H :=
  ⟨fun p hp => by rw [upd_ne (h.ne e nt p hp)]; exact h.1 p hp, h.2.1, h.2.2.up (nte_tbl nt)⟩
theorem TbOk.both (h : TbOk K F H) (e : H a = some o0) (nt : ¬ isTE o0) (n1 : ∀ ps, o1 ≠ .tbl ps := by intro _ z; cases z) : TbOk K (upd F a o1) (upd H a o) :=
  ⟨fun p hp => by rw [upd_ne (h.ne e nt p hp)]; exact h.1 p hp, (h.chg e nt).2.1, h.2.2.up n1⟩
end
def SameX (K : Fg) (r : Option Addr) (H H' : Hp) : Prop := ∀ b o, Ex K r b → H b = some o → H' b = some o
theorem SameX.refl {K : Fg} {r : Option Addr} (H : Hp) : SameX K r H H := fun _ _ _ h => h
theorem SameX.trans {K : Fg} {r : Option Addr} {H H1 H2 : Hp} (a : SameX K r H H1) (b : SameX K r H1 H2) : SameX K r H H2 := fun c o n h => b c o n (a c o n h)
theorem sameX_of {K : Fg} {r : Option Addr} {H H' : Hp} (a : Same H H') : SameX K r H H' := fun b o _ h => a b o h
theorem SameX.any {K : Fg} {r : Option Addr} {H H' : Hp} (a : SameX K none H H') : SameX K r H H' := fun b o n h => a b o ⟨by simp, n.2⟩ h

/-- a dict stands at a; t: its keys are tuples of ints (else ints) -/
def DAt (K : Fg) (F H : Hp) (t : Bool) (a : Addr) (kvs : List (D × D)) : Prop := match t with
  | false => ∃ es, H a = some (.dK es) ∧ DkAll K F es kvs
  | true => ∃ es, H a = some (.dT es) ∧ DtAll K F es kvs
theorem DAt.mono {K : Fg} {F F' H H' : Hp} {t : Bool} {a : Addr} {kvs : List (D × D)} (h : DAt K F H t a kvs) (eF : Same F F') (eH : ∀ o, H a = some o → H' a = some o) : DAt K F' H' t a kvs := by
  cases t with
  | false => obtain ⟨es, e, d⟩ := h; exact ⟨es, eH _ e, d.same eF⟩
  | true => obtain ⟨es, e, d⟩ := h; exact ⟨es, eH _ e, d.same eF⟩
theorem DAt.there {K : Fg} {F H : Hp} {t : Bool} {a : Addr} {kvs : List (D × D)} (h : DAt K F H t a kvs) : ∃ o, H a = some o ∧ ∀ xs, o ≠ .tup xs := by
  cases t with
  | false => obtain ⟨es, e, d⟩ := h; exact ⟨_, e, fun xs z => by cases z⟩
  | true => obtain ⟨es, e, d⟩ := h; exact ⟨_, e, fun xs z => by cases z⟩
/-- nothing, or a tuple -/
def Fz (o : Option HO) : Prop := o = none ∨ ∃ xs, o = some (.tup xs)
inductive SlOk (K : Fg) (B : Bs) (F H : Hp) : Option (Option V) → Sl → Prop
  | no {x : Option (Option V)} : SlOk K B F H x .no
  | v {x : V} {p : D} : Dp K F x p → SlOk K B F H (some (some x)) (.v p)
  | ol {a : Addr} {xs : List V} {ps : List D} : F a = none → B.Ha a = none → H a = some (.lst xs) → DpAll K F xs ps → SlOk K B F H (some (some (.ref a))) (.ol ps)
  | row {a : Addr} {m : Option MG} : F a = none → (B.Ha a = none ∨ (B.r = some a ∧ B.m = m ∧ noX m)) → RowOk K m F H a → SlOk K B F H (some (some (.ref a))) (.rw m)
  | od {t : Bool} {a : Addr} {kvs : List (D × D)} : F a = none → B.Ha a = none → DAt K F H t a kvs → SlOk K B F H (some (some (.ref a))) (.od t kvs)

def Sl.owns : Sl → Bool
  | .ol _ => true
  | .rw _ => true
  | .od _ _ => true
  | _ => false

structure Rs (K : Fg) (B : Bs) (F H : Hp) (σ : St) (ρ : Rho) : Prop where
  sub : Same F H
  ext : Same B.Fa F
  new : ∀ b, B.Fa b = none → F b ≠ none → Fz (B.Ha b)
  old : SameX K B.r B.Ha H
  hrow : ∀ r, B.r = some r → F r = none ∧ RowOk K B.m F H r
  hr2 : ∀ r, B.r = some r → B.Ha r ≠ none
  len : σ.length = ρ.length
  at_ : ∀ (i : Nat) (s : Sl), ρ[i]? = some s → SlOk K B F H σ[i]? s
  apart : ∀ (i j : Nat) (a : Addr) (s t : Sl), i ≠ j → ρ[i]? = some s → ρ[j]? = some t → s.owns = true → t.owns = true → σ[i]? = some (some (.ref a)) → σ[j]? = some (some (.ref a)) → False
  tb : TbOk K F H
  tbh : ∀ p ∈ tbT K, ∃ ps, B.Ha p.1 = some (.tbl ps)

theorem same_upd {H : Hp} {p : Addr} {o : HO} (h : H p = none) : Same H (upd H p o) := fun b x e => by
  rw [upd_ne (ne_of_none e h)]
  exact e
theorem same_upd2 {F H : Hp} {p : Addr} {o : HO} (h : Same F H) (n : F p = none) : Same F (upd H p o) := fun b x e => by
  rw [upd_ne (ne_of_none e n)]
  exact h _ _ e
theorem same_upd3 {F H : Hp} {p : Addr} {o : HO} (h : Same F H) : Same (upd F p o) (upd H p o) := fun b x e => by
  by_cases q : b = p
  · subst q; rw [upd_same] at e ⊢; exact e
  · rw [upd_ne q] at e ⊢; exact h _ _ e

section
variable {K : Fg} {B : Bs} {F F' H H' : Hp} {σ : St} {ρ : Rho}
theorem RowOk.thereX {m : Option MG} {r : Addr} (R : RowOk K m F H r) : ∃ o, H r = some o ∧ (∀ xs, o ≠ HO.tup xs) ∧ ¬ isTE o := by
  cases m with
  | none =>
    obtain ⟨_, _, _, _, _, h, _⟩ := R
    exact ⟨_, h, (fun _ z => by cases z), not_te rfl⟩
  | some G =>
    cases G with
    | t G =>
      obtain ⟨_, _, h, _⟩ := R
      exact ⟨_, h, (fun _ z => by cases z), not_te rfl⟩
    | n G =>
      obtain ⟨_, _, _, h, _⟩ := R
      exact ⟨_, h, dict_nt _ _, dict_te _ _⟩
    | x zs =>
      obtain ⟨_, _, h, _⟩ := R
      exact ⟨_, h, dict_nt _ _, dict_te _ _⟩
    | o a u =>
      obtain ⟨_, h, n1, n2⟩ := R
      exact ⟨_, h, n1, n2⟩
theorem RowOk.there {m : Option MG} {r : Addr} (R : RowOk K m F H r) : ∃ o, H r = some o := by
  obtain ⟨o, h, _⟩ := R.thereX
  exact ⟨_, h⟩
theorem RowOk.thereN {m : Option MG} {r : Addr} (R : RowOk K m F H r) : ∃ o, H r = some o ∧ ∀ xs, o ≠ HO.tup xs := by
  obtain ⟨o, h, n, _⟩ := R.thereX
  exact ⟨_, h, n⟩
theorem RowOk.mono {m : Option MG} {r : Addr} (R : RowOk K m F H r) (eF : Same F F') (eH : ∀ o, H r = some o → H' r = some o) : RowOk K m F' H' r := by
  cases m with
  | none =>
    obtain ⟨sa, ns, b, c, d, h, s, q⟩ := R
    exact ⟨sa, ns, b, c, d, eH _ h, sqL_same eF s, q⟩
  | some G =>
    cases G with
    | t G =>
      obtain ⟨es, kvs, h, d, g⟩ := R
      exact ⟨es, kvs, eH _ h, d.same eF, g⟩
    | n G =>
      obtain ⟨L, kvs, sm, h, d, g⟩ := R
      exact ⟨L, kvs, sm, eH _ h, d.same eF, g⟩
    | x zs =>
      obtain ⟨L, sm, h, d, g⟩ := R
      exact ⟨L, sm, eH _ h, d.same eF, g⟩
    | o a u =>
      obtain ⟨e, h, g⟩ := R
      exact ⟨e, eH _ h, g⟩
theorem SlOk.mono {x : Option (Option V)} {s : Sl} (h : SlOk K B F H x s) (eF : Same F F') (fr : ∀ a, F a = none → (∃ o, H a = some o ∧ ∀ xs, o ≠ HO.tup xs) → F' a = none) (eH : ∀ a o, F a = none → H a = some o → H' a = some o) : SlOk K B F' H' x s := by
  cases h with
  | no => exact .no
  | v r => exact .v (r.same eF)
  | ol f h0 h1 r => exact .ol (fr _ f ⟨_, h1, fun _ z => by cases z⟩) h0 (eH _ _ f h1) (r.same eF)
  | row f h0 h1 => exact .row (fr _ f h1.thereN) h0 (h1.mono eF fun o => eH _ o f)
  | od f h0 h1 => exact .od (fr _ f h1.there) h0 (h1.mono eF fun o => eH _ o f)
theorem DAt.nob {t : Bool} {a : Addr} {kvs : List (D × D)} (h : DAt K F' H t a kvs) (tb : TbOk K F H) : ∀ p ∈ tbT K, p.1 ≠ a := by
  cases t with
  | false => obtain ⟨es, e, d⟩ := h; exact tb.ne e (not_te rfl)
  | true => obtain ⟨es, e, d⟩ := h; exact tb.ne e (not_te rfl)
theorem RowOk.nob {m : Option MG} {r : Addr} (h : RowOk K m F' H r) (tb : TbOk K F H) : ∀ p ∈ tbT K, p.1 ≠ r := by
  obtain ⟨_, h9, _, nt⟩ := h.thereX
  exact tb.ne h9 nt
theorem SlOk.monoT {x : Option (Option V)} {s : Sl} (h : SlOk K B F H x s) (eF : Same F F') (fr : ∀ a, F a = none → (∃ o, H a = some o ∧ ∀ xs, o ≠ HO.tup xs) → F' a = none) (eH : ∀ a o, F a = none → ¬ isTE o → H a = some o → H' a = some o) : SlOk K B F' H' x s := by
  cases h with
  | no => exact .no
  | v r => exact .v (r.same eF)
  | ol f h0 h1 r => exact .ol (fr _ f ⟨_, h1, fun _ z => by cases z⟩) h0 (eH _ _ f (not_te rfl) h1) (r.same eF)
  | row f h0 h1 =>
    obtain ⟨u, h, _, nt⟩ := h1.thereX
    exact .row (fr _ f h1.thereN) h0 (h1.mono eF fun o e => by
      rw [h] at e
      cases e
      exact eH _ _ f nt h)
  | @od t a kvs f h0 h1 =>
    refine .od (fr _ f h1.there) h0 ?_
    cases t with
    | false => obtain ⟨es, e, d⟩ := h1; exact ⟨es, eH _ _ f (not_te rfl) e, d.same eF⟩
    | true => obtain ⟨es, e, d⟩ := h1; exact ⟨es, eH _ _ f (not_te rfl) e, d.same eF⟩
theorem Rs.fresh (R : Rs K B F H σ ρ) {p : Addr} (h : H p = none) : B.Ha p = none ∧ F p = none ∧ B.r ≠ some p := by
  have hr : B.r ≠ some p := fun e => by
    obtain ⟨_, o, q⟩ := And.intro (R.hrow p e).1 (R.hrow p e).2.there
    rw [q] at h; cases h
  refine ⟨?_, R.sub.free h, hr⟩
  cases q : B.Ha p with
  | none => rfl
  | some u =>
    rw [R.old _ _ ⟨fun e => hr e.symm, R.tb.ne0 h⟩ q] at h; cases h
theorem Rs.fz (R : Rs K B F H σ ρ) {b : Addr} (h : Fz (H b)) : Fz (B.Ha b) := by
  cases q : B.Ha b with
  | none => exact .inl rfl
  | some o =>
    have ne : some b ≠ B.r := fun e => by
      obtain ⟨u, hu, nt⟩ := (R.hrow b e.symm).2.thereN
      rcases h with h | ⟨xs, h⟩
      · rw [hu] at h; cases h
      · rw [hu] at h; exact nt xs (Option.some.inj h)
    have nb : ∀ p ∈ tbT K, p.1 ≠ b := by
      rcases h with h | ⟨xs, h⟩
      · exact R.tb.ne0 h
      · exact R.tb.ne h (not_te rfl)
    have e := R.old b o ⟨ne, nb⟩ q
    rcases h with h | ⟨xs, h⟩
    · rw [e] at h; cases h
    · rw [e] at h; exact .inr ⟨xs, h⟩
/-- the heap grows by a frozen object -/
theorem Rs.grow {p : Addr} {o : HO} (R : Rs K B F H σ ρ) (h : H p = none) (no : ∀ ps, o ≠ .tbl ps := by intro _ z; cases z) : Rs K B (upd F p o) (upd H p o) σ ρ where
  sub := same_upd3 R.sub
  ext := fun b x e => by rw [upd_ne (ne_of_none (R.sub _ _ (R.ext _ _ e)) h)]; exact R.ext _ _ e
  new := fun b hb hF => by
    by_cases e : b = p
    · subst e; exact .inl (R.fresh h).1
    · rw [upd_ne e] at hF; exact R.new b hb hF
  old := fun b x hb e => by
    have := R.old b x hb e
    rw [upd_ne (ne_of_none this h)]; exact this
  hrow := fun r hr => by
    obtain ⟨h1, h2⟩ := R.hrow r hr
    obtain ⟨u, hu⟩ := h2.there
    have ne : r ≠ p := ne_of_none hu h
    exact ⟨by rw [upd_ne ne]; exact h1, h2.mono (same_upd (R.sub.free h)) fun o e => by rw [upd_ne ne]; exact e⟩
  hr2 := R.hr2
  tb := R.tb.up h no
  tbh := R.tbh
  len := R.len
  at_ := fun i s hs => (R.at_ i s hs).mono (same_upd (R.sub.free h)) (fun a f ⟨o, q, _⟩ => by rw [upd_ne (ne_of_none q h)]; exact f) (fun a o f q => by rw [upd_ne (ne_of_none q h)]; exact q)
  apart := R.apart
/-- the heap grows by an object that isn't frozen (yet) -/
theorem Rs.lay {p : Addr} {o : HO} (R : Rs K B F H σ ρ) (h : H p = none) : Rs K B F (upd H p o) σ ρ where
  sub := same_upd2 R.sub (R.sub.free h)
  ext := R.ext
  new := R.new
  old := fun b x hb e => by
    have := R.old b x hb e
    rw [upd_ne (ne_of_none this h)]; exact this
  hrow := fun r hr => by
    obtain ⟨h1, h2⟩ := R.hrow r hr
    obtain ⟨u, hu⟩ := h2.there
    have ne : r ≠ p := ne_of_none hu h
    exact ⟨h1, h2.mono (Same.refl _) fun o e => by rw [upd_ne ne]; exact e⟩
  hr2 := R.hr2
  tb := R.tb.lay h
  tbh := R.tbh
  len := R.len
  at_ := fun i s hs => (R.at_ i s hs).mono (Same.refl _) (fun a f _ => f) (fun a o f q => by rw [upd_ne (ne_of_none q h)]; exact q)
  apart := R.apart
/-- a slot takes a frozen value (or is forgotten) -/
theorem Rs.put {i : Nat} {x : V} {s : Sl} (R : Rs K B F H σ ρ) (hs : SlOk K B F H (some (some x)) s) (ho : s.owns = false) : Rs K B F H (σ.set i (some x)) (ρ.set i s) where
  sub := R.sub
  ext := R.ext
  new := R.new
  old := R.old
  hrow := R.hrow
  hr2 := R.hr2
  tb := R.tb
  tbh := R.tbh
  len := by rw [List.length_set, List.length_set]; exact R.len
  at_ := fun j t ht => by
    by_cases e : i = j
    · subst e
      by_cases hl : i < ρ.length
      · rw [List.getElem?_set_self hl] at ht
        cases ht
        rw [List.getElem?_set_self (by rw [R.len]; exact hl)]
        exact hs
      · rw [List.getElem?_eq_none (by simpa using hl)] at ht; cases ht
    · rw [List.getElem?_set_ne e] at ht ⊢
      exact R.at_ j t ht
  apart := fun j k a s' t hjk h1 h2 o1 o2 e1 e2 => by
    have n1 : i ≠ j := fun e => by
      subst e
      by_cases hl : i < ρ.length
      · rw [List.getElem?_set_self hl] at h1
        cases h1; rw [ho] at o1; cases o1
      · rw [List.getElem?_eq_none (by simpa using hl)] at h1; cases h1
    have n2 : i ≠ k := fun e => by
      subst e
      by_cases hl : i < ρ.length
      · rw [List.getElem?_set_self hl] at h2
        cases h2; rw [ho] at o2; cases o2
      · rw [List.getElem?_eq_none (by simpa using hl)] at h2; cases h2
    rw [List.getElem?_set_ne n1] at h1 e1
    rw [List.getElem?_set_ne n2] at h2 e2
    exact R.apart j k a s' t hjk h1 h2 o1 o2 e1 e2
end

abbrev PK := D → Prop
abbrev TW := Rho → PK → Prop
/-- a value that is read at once: frozen, or the list that a slot owns -/
def Pk (K : Fg) (F : Hp) (σ : St) (ρ : Rho) (v : V) (p : D) : Prop := Dp K F v p ∨ ∃ (i : Nat) (ps : List D), ρ[i]? = some (Sl.ol ps) ∧ σ[i]? = some (some v) ∧ p = .list ps
theorem Pk.dp {K : Fg} {B : Bs} {F F' H' : Hp} {σ : St} {ρ : Rho} {v : V} {p : D} (h : Pk K F σ ρ v p) (e : Same F F') (R : Rs K B F' H' σ ρ) : Dp K H' v p := by
  rcases h with h | ⟨i, ps, h1, h2, rfl⟩
  · exact (h.same e).same R.sub
  · have q := R.at_ i _ h1
    rw [h2] at q
    cases q with
    | ol f h0 h3 r => exact .lst (.inl (.inl h3)) (r.same R.sub)

def LenOk (K : Fg) (H : Hp) : Prop := ∀ a xs, (SqL K H a xs ∨ SqT K H a xs) → xs.length ≤ sizeLine

def tW (K : Fg) (T : TW) : TE := fun σ H Q => ∃ B F ρ, Rs K B F H σ ρ ∧ T ρ (fun p => ∀ F' H' v, Rs K B F' H' σ ρ → Same F F' → Dp K F' v p → Q v H')
def tX (K : Fg) (T : TW) : TE := fun σ H Q => ∃ B F ρ, Rs K B F H σ ρ ∧ T ρ (fun p => ∀ F' H' v, Rs K B F' H' σ ρ → Same F F' → Pk K F' σ ρ v p → Q v H')
/-- a new list -/
def tN (K : Fg) (T : Rho → (List D → Prop) → Prop) : TE := fun σ H Q => ∃ B F ρ, Rs K B F H σ ρ ∧ T ρ (fun ps => ∀ F' H' a xs, Rs K B F' H' σ ρ → Same F F' → H' a = none → DpAll K F' xs ps → Q (.ref a) (upd H' a (.lst xs)))

structure EW (X : Cx) (e : Expr) (T : TW) : Prop where
  mono : ∀ ρ K K', (∀ p, K p → K' p) → T ρ K → T ρ K'
  pe : PE X e (tW X.K T)
structure XW (X : Cx) (e : Expr) (T : TW) : Prop where
  mono : ∀ ρ K K', (∀ p, K p → K' p) → T ρ K → T ρ K'
  pe : PE X e (tX X.K T)
structure NW (X : Cx) (e : Expr) (T : Rho → (List D → Prop) → Prop) : Prop where
  mono : ∀ ρ K K', (∀ p, K p → K' p) → T ρ K → T ρ K'
  pe : PE X e (tN X.K T)
/-- by a function -/
abbrev fW {α : Type} (f : Rho → Option α) : Rho → (α → Prop) → Prop := fun ρ K => ∃ p, f ρ = some p ∧ K p
theorem fW_mono {α : Type} {f : Rho → Option α} : ∀ ρ K K', (∀ p, K p → K' p) → fW f ρ K → fW f ρ K' := fun _ _ _ h ⟨p, e, q⟩ => ⟨p, e, h p q⟩
abbrev EF (X : Cx) (e : Expr) (f : Rho → Option D) : Prop := EW X e (fW f)
abbrev XF (X : Cx) (e : Expr) (f : Rho → Option D) : Prop := XW X e (fW f)
abbrev NF (X : Cx) (e : Expr) (f : Rho → Option (List D)) : Prop := NW X e (fW f)

theorem _root_.L2.PE.imp {X : Cx} {e : Expr} {t t' : TE} (h : PE X e t) (k : ∀ σ H Q, t' σ H Q → t σ H Q) : PE X e t' := ⟨fun pins s σ H Q I hw => h.run pins s σ H Q I (k _ _ _ hw)⟩
theorem _root_.L2.PT.imp {X : Cx} {e : Expr} {t t' : TT} (h : PT X e t) (k : ∀ σ H Q, t' σ H Q → t σ H Q) : PT X e t' := ⟨fun pins s σ H Q I hw => h.run pins s σ H Q I (k _ _ _ hw)⟩
theorem _root_.L2.PS.imp {X : Cx} {e : Stmt} {t t' : TS} (h : PS X e t) (k : ∀ D σ H, t' D σ H → t D σ H) : PS X e t' := ⟨fun pins s σ H Q I hw => h.run pins s σ H Q I (k _ _ _ hw)⟩
theorem _root_.L2.PSs.imp {X : Cx} {e : List Stmt} {t t' : TS} (h : PSs X e t) (k : ∀ D σ H, t' D σ H → t D σ H) : PSs X e t' := ⟨fun pins s σ H Q I hw => h.run pins s σ H Q I (k _ _ _ hw)⟩
/-- what comes knows that no list is too long -/
theorem _root_.L2.PE.lens {X : Cx} {e : Expr} {t : TE} (h : PE X e t) : PE X e (fun σ H Q => t σ H fun v H' => LenOk X.K H' → Q v H') := ⟨fun pins s σ H Q I hw =>
  thn (h.run pins s σ H _ I hw) fun u s' ⟨v, H', I', r, q⟩ => ⟨v, H', I', r, q fun a xs hx => by
    rcases hx with hx | hx
    · obtain ⟨_, _, _, z⟩ := I'.list hx
      exact z
    · obtain ⟨_, _, _, z⟩ := I'.tuple hx
      exact z⟩⟩
theorem EW.imp {X : Cx} {e : Expr} {T T' : TW} (h : EW X e T) (m : ∀ ρ K K', (∀ p, K p → K' p) → T' ρ K → T' ρ K') (k : ∀ ρ K, T' ρ K → T ρ K) : EW X e T' := ⟨m, h.pe.imp fun _ _ _ ⟨B, F, ρ, R, q⟩ => ⟨B, F, ρ, R, k _ _ q⟩⟩
theorem XW.imp {X : Cx} {e : Expr} {T T' : TW} (h : XW X e T) (m : ∀ ρ K K', (∀ p, K p → K' p) → T' ρ K → T' ρ K') (k : ∀ ρ K, T' ρ K → T ρ K) : XW X e T' := ⟨m, h.pe.imp fun _ _ _ ⟨B, F, ρ, R, q⟩ => ⟨B, F, ρ, R, k _ _ q⟩⟩
theorem NW.imp {X : Cx} {e : Expr} {T T' : Rho → (List D → Prop) → Prop} (h : NW X e T) (m : ∀ ρ K K', (∀ p, K p → K' p) → T' ρ K → T' ρ K') (k : ∀ ρ K, T' ρ K → T ρ K) : NW X e T' := ⟨m, h.pe.imp fun _ _ _ ⟨B, F, ρ, R, q⟩ => ⟨B, F, ρ, R, k _ _ q⟩⟩
theorem EW.x {X : Cx} {e : Expr} {T : TW} (h : EW X e T) : XW X e T := ⟨h.mono, h.pe.imp fun _ _ _ ⟨B, F, ρ, R, q⟩ => ⟨B, F, ρ, R, h.mono _ _ _ (fun p k F' H' v R' e r => k F' H' v R' e (.inl r)) q⟩⟩
/-- a new list is frozen -/
theorem NW.e {X : Cx} {e : Expr} {T : Rho → (List D → Prop) → Prop} (h : NW X e T) : EW X e (fun ρ K => T ρ fun ps => K (.list ps)) :=
  ⟨fun ρ K K' i q => h.mono _ _ _ (fun ps => i _) q, h.pe.imp fun _ _ _ ⟨B, F, ρ, R, q⟩ => ⟨B, F, ρ, R, h.mono _ _ _ (fun ps k F' H' a xs R' e n r => by
    have n' : F' a = none := R'.sub.free n
    exact k (upd F' a (.lst xs)) _ _ (R'.grow n) (e.trans (same_upd n')) (.lst (.inl (.inl upd_same)) (r.same (same_upd n')))) q⟩⟩
theorem NF.e {X : Cx} {e : Expr} {f : Rho → Option (List D)} (h : NF X e f) : EF X e (fun ρ => (f ρ).map PyData.list) := (NW.e h).imp fW_mono fun ρ K ⟨p, e, q⟩ => by
  obtain ⟨ps, e', rfl⟩ := Option.map_eq_some_iff.mp e
  exact ⟨ps, e', q⟩

def gV (i : Nat) : Rho → Option D := fun ρ => match ρ[i]? with
  | some (.v p) => some p
  | _ => none
def gX (i : Nat) : Rho → Option D := fun ρ => match ρ[i]? with
  | some (.v p) => some p
  | some (.ol ps) => some (.list ps)
  | _ => none
section
variable {X : Cx}
theorem ef_var {i : Nat} {x : Str} {pos : Pos} (hN : X.N[i]? = some x) (hv : Vis X.env.scope x) (hd : (x == ("__debug__" : Str)) = false := by decide) (hcd : (x == ("__classdict__" : Str)) = false := by decide) : EF X (.Name x pos) (gV i) :=
  ⟨fW_mono, (pe_var hN hv hd hcd).imp fun σ H Q ⟨B, F, ρ, R, p, e, q⟩ => by
    unfold gV at e
    split at e
    · rename_i s hs
      cases e
      have z := R.at_ i _ hs
      generalize hσ : σ[i]? = o at z
      cases z with
      | v r => exact ⟨_, hσ, q F H _ R (Same.refl _) r⟩
    · cases e⟩
theorem xf_var {i : Nat} {x : Str} {pos : Pos} (hN : X.N[i]? = some x) (hv : Vis X.env.scope x) (hd : (x == ("__debug__" : Str)) = false := by decide) (hcd : (x == ("__classdict__" : Str)) = false := by decide) : XF X (.Name x pos) (gX i) :=
  ⟨fW_mono, (pe_var hN hv hd hcd).imp fun σ H Q ⟨B, F, ρ, R, p, e, q⟩ => by
    unfold gX at e
    split at e
    · rename_i s hs
      cases e
      have z := R.at_ i _ hs
      generalize hσ : σ[i]? = o at z
      cases z with
      | v r => exact ⟨_, hσ, q F H _ R (Same.refl _) (.inl r)⟩
    · rename_i s hs
      cases e
      have z := R.at_ i _ hs
      generalize hσ : σ[i]? = o at z
      cases z with
      | ol f h0 h1 r => exact ⟨_, hσ, q F H _ R (Same.refl _) (.inr ⟨i, _, hs, hσ, rfl⟩)⟩
    · cases e⟩
def gC (p : D) : Rho → Option D := fun _ => some p
theorem ef_con {e : Expr} {v : V} {p : D} (h : PE X e (tC v)) (r : ∀ K F, Dp K F v p) : EF X e (gC p) :=
  ⟨fW_mono, h.imp fun σ H Q ⟨B, F, ρ, R, p', e, q⟩ => by
    cases e
    exact q F H v R (Same.refl _) (r _ _)⟩
theorem ef_int {i j pos} : EF X (.Constant (.int i) j pos) (gC (.int i)) := ef_con pe_int fun _ _ => .int i
theorem ef_bl {b j pos} : EF X (.Constant (.bool b) j pos) (gC (.bool b)) := ef_con pe_bl fun _ _ => .bl b
end
end L2.P


set_option Elab.async false
set_option linter.all false
set_option maxRecDepth 100000
set_option maxHeartbeats 4000000
namespace L2.P
open PySem PySem.Spec PyProof.Rows L2

theorem Pk.mono {K : Fg} {F F' : Hp} {σ : St} {ρ : Rho} {v : V} {p : D} (h : Pk K F σ ρ v p) (e : Same F F') : Pk K F' σ ρ v p := by
  rcases h with h | h
  · exact .inl (h.same e)
  · exact .inr h

/-- the room that every frame has -/
def Rm (X : Cx) : Prop := X.A.units + 130 < cLine
theorem rm_of {X : Cx} {k : Nat} (r : Room k X.A) : Rm X := by have := r.un; unfold Rm; omega

abbrev G2 := D → D → Option D
/-- an operation on values does what g says of data -/
def OpG (X : Cx) (f : Value → Value → Sem Value) (g : G2) : Prop :=
  ∃ r : R2, OpR X f r ∧ ∀ (B : Bs) (F H : Hp) (σ : St) (ρ : Rho) (x y : V) (p q z : D) (Q : VK), Rs X.K B F H σ ρ → Pk X.K F σ ρ x p → Pk X.K F σ ρ y q → g p q = some z →
    (∀ F' H' v, Rs X.K B F' H' σ ρ → Same F F' → Dp X.K F' v z → Q v H') → r x y H Q
theorem OpG.of {X : Cx} {f : Value → Value → Sem Value} {g : G2} (h : ∃ r : R2, OpR X f r ∧ ∀ (B : Bs) (F H : Hp) (σ : St) (ρ : Rho) (x y : V) (p q z : D) (Q : VK), Rs X.K B F H σ ρ → Dp X.K H x p → Dp X.K H y q → g p q = some z →
    (∀ F' H' v, Rs X.K B F' H' σ ρ → Same F F' → Dp X.K F' v z → Q v H') → r x y H Q) : OpG X f g := by
  obtain ⟨r, h1, h2⟩ := h
  exact ⟨r, h1, fun B F H σ ρ x y p q z Q R hx hy e k => h2 B F H σ ρ x y p q z Q R (hx.dp (Same.refl _) R) (hy.dp (Same.refl _) R) e k⟩
def b2 (g : G2) (f1 f2 : Rho → Option D) : Rho → Option D := fun ρ => (f1 ρ).bind fun x => (f2 ρ).bind fun y => g x y
def w2 (g : G2) (T1 T2 : TW) : TW := fun ρ K => T1 ρ fun x => T2 ρ fun y => ∃ z, g x y = some z ∧ K z
theorem w2_mono {g : G2} {T1 T2 : TW} (m1 : ∀ ρ K K', (∀ p, K p → K' p) → T1 ρ K → T1 ρ K') (m2 : ∀ ρ K K', (∀ p, K p → K' p) → T2 ρ K → T2 ρ K') :
    ∀ ρ K K', (∀ p, K p → K' p) → w2 g T1 T2 ρ K → w2 g T1 T2 ρ K' := fun ρ K K' h q => m1 _ _ _ (fun x => m2 _ _ _ fun y ⟨z, e, k⟩ => ⟨z, e, h z k⟩) q
theorem b2_w {g : G2} {f1 f2 : Rho → Option D} (ρ : Rho) (K : PK) (h : fW (b2 g f1 f2) ρ K) : w2 g (fW f1) (fW f2) ρ K := by
  obtain ⟨z, e, k⟩ := h
  unfold b2 at e
  obtain ⟨x, e1, e⟩ := Option.bind_eq_some_iff.mp e
  obtain ⟨y, e2, e⟩ := Option.bind_eq_some_iff.mp e
  exact ⟨x, e1, y, e2, z, e, k⟩
section
variable {X : Cx} {a b c : Expr} {pos : Pos}
/-- the reading that both operands' readings make -/
theorem two_ok {f : Value → Value → Sem Value} {g : G2} {T1 T2 : TW} {r : R2}
    (hr : ∀ (B : Bs) (F H : Hp) (σ : St) (ρ : Rho) (x y : V) (p q z : D) (Q : VK), Rs X.K B F H σ ρ → Pk X.K F σ ρ x p → Pk X.K F σ ρ y q → g p q = some z → (∀ F' H' v, Rs X.K B F' H' σ ρ → Same F F' → Dp X.K F' v z → Q v H') → r x y H Q)
    (m1 : ∀ ρ K K', (∀ p, K p → K' p) → T1 ρ K → T1 ρ K') (m2 : ∀ ρ K K', (∀ p, K p → K' p) → T2 ρ K → T2 ρ K') {σ : St} {H : Hp} {Q : VK} (h : tW X.K (w2 g T1 T2) σ H Q) :
    tOp r (tX X.K T1) (tX X.K T2) σ H Q := by
  obtain ⟨B, F, ρ, R, q⟩ := h
  refine ⟨B, F, ρ, R, m1 _ _ _ (fun x qx F1 H1 v1 R1 e1 d1 => ?_) q⟩
  refine ⟨B, F1, ρ, R1, m2 _ _ _ (fun y ⟨z, ez, qz⟩ F2 H2 v2 R2 e2 d2 => ?_) qx⟩
  exact hr B F2 H2 σ ρ v1 v2 x y z Q R2 (d1.mono e2) d2 ez fun F3 H3 v R3 e3 d3 => qz F3 H3 v R3 ((e1.trans e2).trans e3) d3
theorem ew_bin {op : Operator} {g : G2} {T1 T2 : TW} (o : OpG X (binaryOp op) g) (ha : XW X a T1) (hb : XW X b T2) : EW X (.BinOp a op b pos) (w2 g T1 T2) := by
  obtain ⟨r, ho, hr⟩ := o
  exact ⟨w2_mono ha.mono hb.mono, (pe_op ho ha.pe hb.pe).imp fun σ H Q h => two_ok (f := binaryOp op) hr ha.mono hb.mono h⟩
theorem ef_bin {op : Operator} {g : G2} {f1 f2 : Rho → Option D} (o : OpG X (binaryOp op) g) (ha : XF X a f1) (hb : XF X b f2) : EF X (.BinOp a op b pos) (b2 g f1 f2) :=
  (ew_bin o ha hb).imp fW_mono b2_w
theorem ew_cmp {op : CmpOp} {g : G2} {T1 T2 : TW} (o : OpG X (compareOp op) g) (ha : XW X a T1) (hb : XW X b T2) (hm : behindInMarks op b = false) : EW X (.Compare a [op] [b] pos) (w2 g T1 T2) := by
  obtain ⟨r, ho, hr⟩ := o
  exact ⟨w2_mono ha.mono hb.mono, (pe_cmpR ho ha.pe hb.pe hm).imp fun σ H Q h => two_ok (f := compareOp op) hr ha.mono hb.mono h⟩
theorem ef_cmp {op : CmpOp} {g : G2} {f1 f2 : Rho → Option D} (o : OpG X (compareOp op) g) (ha : XF X a f1) (hb : XF X b f2) (hm : behindInMarks op b = false) : EF X (.Compare a [op] [b] pos) (b2 g f1 f2) :=
  (ew_cmp o ha hb hm).imp fW_mono b2_w
end

abbrev TB := Rho → (Bool → Prop) → Prop
def tT (K : Fg) (T : TB) : TT := fun σ H Q => ∃ B F ρ, Rs K B F H σ ρ ∧ T ρ (fun b => ∀ F' H', Rs K B F' H' σ ρ → Same F F' → Q b H')
structure TWT (X : Cx) (e : Expr) (T : TB) : Prop where
  mono : ∀ ρ K K', (∀ p, K p → K' p) → T ρ K → T ρ K'
  pt : PT X e (tT X.K T)
abbrev TF (X : Cx) (e : Expr) (f : Rho → Option Bool) : Prop := TWT X e (fW f)
theorem TWT.imp {X : Cx} {e : Expr} {T T' : TB} (h : TWT X e T) (m : ∀ ρ K K', (∀ p, K p → K' p) → T' ρ K → T' ρ K') (k : ∀ ρ K, T' ρ K → T ρ K) : TWT X e T' := ⟨m, h.pt.imp fun _ _ _ ⟨B, F, ρ, R, q⟩ => ⟨B, F, ρ, R, k _ _ q⟩⟩
def isB : D → Option Bool
  | .bool b => some b
  | _ => none
def bB (f : Rho → Option D) : Rho → Option Bool := fun ρ => (f ρ).bind isB
def wB (T : TW) : TB := fun ρ K => T ρ fun p => ∃ b, isB p = some b ∧ K b
theorem isB_some {p : D} {b : Bool} (h : isB p = some b) : p = .bool b := by
  cases p with
  | bool c => cases h; rfl
  | _ => cases h
section
variable {X : Cx} {a b c : Expr} {pos : Pos}
theorem wB_mono {T : TW} (m : ∀ ρ K K', (∀ p, K p → K' p) → T ρ K → T ρ K') : ∀ ρ K K', (∀ p, K p → K' p) → wB T ρ K → wB T ρ K' := fun ρ K K' h q => m _ _ _ (fun p ⟨b, e, k⟩ => ⟨b, e, h b k⟩) q
theorem bB_w {f : Rho → Option D} (ρ : Rho) (K : Bool → Prop) (h : fW (bB f) ρ K) : wB (fW f) ρ K := by
  obtain ⟨z, e, k⟩ := h
  obtain ⟨x, e1, e⟩ := Option.bind_eq_some_iff.mp e
  exact ⟨x, e1, z, e, k⟩
/-- an expression whose value is a truth value, as a test -/
theorem tw_val {T : TW} (h : EW X a T) (he : ∀ whole, isTrue a X.env whole = (do let v ← whole; standAt a.pos; holding [v] (truthy v)) := by intro _; rfl) : TWT X a (wB T) :=
  ⟨wB_mono h.mono, (pt_val h.pe he).imp fun σ H Q ⟨B, F, ρ, R, q⟩ => ⟨B, F, ρ, R, h.mono _ _ _ (fun p ⟨b, e, k⟩ F' H' v R' e' d => by
    rw [isB_some e] at d
    exact ⟨b, Dp.inv_bl d, k F' H' R' e'⟩) q⟩⟩
theorem tf_val {f : Rho → Option D} (h : EF X a f) (he : ∀ whole, isTrue a X.env whole = (do let v ← whole; standAt a.pos; holding [v] (truthy v)) := by intro _; rfl) : TF X a (bB f) := (tw_val h he).imp fW_mono bB_w
theorem tw_cmp {op : CmpOp} {g : G2} {T1 T2 : TW} (o : OpG X (compareOp op) g) (ha : XW X a T1) (hb : XW X b T2) (hm : behindInMarks op b = false) : TWT X (.Compare a [op] [b] pos) (wB (w2 g T1 T2)) := by
  obtain ⟨r, ho, hr⟩ := o
  exact ⟨wB_mono (w2_mono ha.mono hb.mono), (pt_cmpR ho ha.pe hb.pe hm).imp fun σ H Q ⟨B, F, ρ, R, q⟩ => by
    refine two_ok (f := compareOp op) (g := g) (T1 := T1) (T2 := T2) hr ha.mono hb.mono ⟨B, F, ρ, R, w2_mono ha.mono hb.mono _ _ _ (fun p ⟨b, e, k⟩ F' H' v R' e' d => ?_) q⟩
    rw [isB_some e] at d
    exact ⟨b, Dp.inv_bl d, k F' H' R' e'⟩⟩
theorem tf_cmp {op : CmpOp} {g : G2} {f1 f2 : Rho → Option D} (o : OpG X (compareOp op) g) (ha : XF X a f1) (hb : XF X b f2) (hm : behindInMarks op b = false) : TF X (.Compare a [op] [b] pos) (bB (b2 g f1 f2)) :=
  (tw_cmp o ha hb hm).imp fW_mono fun ρ K h => wB_mono (fun _ _ _ i z => by obtain ⟨p, e, q⟩ := z; exact ⟨p, e, i p q⟩) _ _ _ (fun _ z => z) (bB_w ρ K h) |> fun ⟨p, e, q⟩ => b2_w ρ _ ⟨p, e, q⟩
def bNot (f : Rho → Option Bool) : Rho → Option Bool := fun ρ => (f ρ).map (!·)
def wNot (T : TB) : TB := fun ρ K => T ρ fun b => K (!b)
theorem tw_not {T : TB} (h : TWT X a T) : TWT X (.UnaryOp .Not a pos) (wNot T) :=
  ⟨fun ρ K K' i q => h.mono _ _ _ (fun b => i _) q, (pt_not h.pt).imp fun σ H Q ⟨B, F, ρ, R, q⟩ => ⟨B, F, ρ, R, q⟩⟩
theorem tf_not {f : Rho → Option Bool} (h : TF X a f) : TF X (.UnaryOp .Not a pos) (bNot f) := (tw_not h).imp fW_mono fun ρ K ⟨b, e, k⟩ => by
  obtain ⟨c, e', rfl⟩ := Option.map_eq_some_iff.mp e
  exact ⟨c, e', k⟩
def bAnd (f g : Rho → Option Bool) : Rho → Option Bool := fun ρ => (f ρ).bind fun b => if b = true then g ρ else some false
def bOr (f g : Rho → Option Bool) : Rho → Option Bool := fun ρ => (f ρ).bind fun b => if b = true then some true else g ρ
def wAnd (T U : TB) : TB := fun ρ K => T ρ fun b => if b = true then U ρ K else K false
def wOr (T U : TB) : TB := fun ρ K => T ρ fun b => if b = true then K true else U ρ K
structure TWW (X : Cx) (e : Expr) (T : TB) : Prop where
  mono : ∀ ρ K K', (∀ p, K p → K' p) → T ρ K → T ρ K'
  pw : PW X e (tT X.K T)
theorem TWW.t {e : Expr} {T : TB} (h : TWW X e T) : TWT X e T := ⟨h.mono, h.pw.pt⟩
theorem PW.imp {e : Expr} {t t' : TT} (h : PW X e t) (k : ∀ σ H Q, t' σ H Q → t σ H Q) : PW X e t' := ⟨fun w pins s σ H Q I hw => h.run w pins s σ H Q I (k _ _ _ hw)⟩
theorem tw_and1 {T : TB} (h : TWT X a T) : TWW X (.BoolOp .And [a] pos) T := ⟨h.mono, pw_and1 h.pt⟩
theorem tw_or1 {T : TB} (h : TWT X a T) : TWW X (.BoolOp .Or [a] pos) T := ⟨h.mono, pw_or1 h.pt⟩
theorem tw_and {T U : TB} {rest : List Expr} (h : TWT X a T) (h2 : TWW X (.BoolOp .And (b :: rest) pos) U) : TWW X (.BoolOp .And (a :: b :: rest) pos) (wAnd T U) :=
  ⟨fun ρ K K' i q => h.mono _ _ _ (fun b k => by
      cases b with
      | true => exact h2.mono _ _ _ i k
      | false => exact i _ k) q, PW.imp (pw_and h.pt h2.pw) fun σ H Q ⟨B, F, ρ, R, q⟩ => ⟨B, F, ρ, R, h.mono _ _ _ (fun b k F' H' R' e' => by
      cases b with
      | true => exact ⟨B, F', ρ, R', h2.mono _ _ _ (fun c kc F2 H2 R2 e2 => kc F2 H2 R2 (e'.trans e2)) k⟩
      | false => exact k F' H' R' e') q⟩⟩
theorem tw_or {T U : TB} {rest : List Expr} (h : TWT X a T) (h2 : TWW X (.BoolOp .Or (b :: rest) pos) U) : TWW X (.BoolOp .Or (a :: b :: rest) pos) (wOr T U) :=
  ⟨fun ρ K K' i q => h.mono _ _ _ (fun b k => by
      cases b with
      | false => exact h2.mono _ _ _ i k
      | true => exact i _ k) q, PW.imp (pw_or h.pt h2.pw) fun σ H Q ⟨B, F, ρ, R, q⟩ => ⟨B, F, ρ, R, h.mono _ _ _ (fun b k F' H' R' e' => by
      cases b with
      | false => exact ⟨B, F', ρ, R', h2.mono _ _ _ (fun c kc F2 H2 R2 e2 => kc F2 H2 R2 (e'.trans e2)) k⟩
      | true => exact k F' H' R' e') q⟩⟩
abbrev TFW (X : Cx) (e : Expr) (f : Rho → Option Bool) : Prop := TWW X e (fW f)
theorem TWW.imp {e : Expr} {T T' : TB} (h : TWW X e T) (m : ∀ ρ K K', (∀ p, K p → K' p) → T' ρ K → T' ρ K') (k : ∀ ρ K, T' ρ K → T ρ K) : TWW X e T' := ⟨m, PW.imp h.pw fun _ _ _ ⟨B, F, ρ, R, q⟩ => ⟨B, F, ρ, R, k _ _ q⟩⟩
theorem tf_and1 {f : Rho → Option Bool} (h : TF X a f) : TFW X (.BoolOp .And [a] pos) f := tw_and1 h
theorem tf_or1 {f : Rho → Option Bool} (h : TF X a f) : TFW X (.BoolOp .Or [a] pos) f := tw_or1 h
theorem tf_and {f g : Rho → Option Bool} {rest : List Expr} (h : TF X a f) (h2 : TFW X (.BoolOp .And (b :: rest) pos) g) : TFW X (.BoolOp .And (a :: b :: rest) pos) (bAnd f g) := (tw_and h h2).imp fW_mono fun ρ K ⟨c, e, k⟩ => by
  obtain ⟨d, e1, e2⟩ := Option.bind_eq_some_iff.mp e
  refine ⟨d, e1, ?_⟩
  cases d with
  | true => exact ⟨c, e2, k⟩
  | false => cases e2; exact k
theorem tf_or {f g : Rho → Option Bool} {rest : List Expr} (h : TF X a f) (h2 : TFW X (.BoolOp .Or (b :: rest) pos) g) : TFW X (.BoolOp .Or (a :: b :: rest) pos) (bOr f g) := (tw_or h h2).imp fW_mono fun ρ K ⟨c, e, k⟩ => by
  obtain ⟨d, e1, e2⟩ := Option.bind_eq_some_iff.mp e
  refine ⟨d, e1, ?_⟩
  cases d with
  | false => exact ⟨c, e2, k⟩
  | true => cases e2; exact k
def vAnd (f g : Rho → Option D) : Rho → Option D := fun ρ => (f ρ).bind fun x => (isB x).bind fun b => if b = true then g ρ else some (.bool false)
def vNot (f : Rho → Option D) : Rho → Option D := fun ρ => (f ρ).bind fun x => (isB x).map fun b => .bool (!b)
theorem ef_one {op} {f : Rho → Option D} (h : EF X a f) : EF X (.BoolOp op [a] pos) f := ⟨fW_mono, pe_one h.pe⟩
theorem ef_and {f g : Rho → Option D} {rest : List Expr} (h : EF X a f) (h2 : EF X (.BoolOp .And (b :: rest) pos) g) : EF X (.BoolOp .And (a :: b :: rest) pos) (vAnd f g) :=
  ⟨fW_mono, (pe_and h.pe h2.pe).imp fun σ H Q ⟨B, F, ρ, R, p, e, q⟩ => by
    obtain ⟨x, e1, e⟩ := Option.bind_eq_some_iff.mp e
    obtain ⟨c, e2, e⟩ := Option.bind_eq_some_iff.mp e
    refine ⟨B, F, ρ, R, x, e1, fun F' H' v R' e' d => ?_⟩
    rw [isB_some e2] at d
    refine ⟨c, Dp.inv_bl d, ?_⟩
    cases c with
    | true => exact ⟨B, F', ρ, R', p, e, fun F2 H2 v2 R2 s2 d2 => q F2 H2 v2 R2 (e'.trans s2) d2⟩
    | false => cases e; exact q F' H' _ R' e' (.bl false)⟩
theorem ef_not {f : Rho → Option D} (h : EF X a f) : EF X (.UnaryOp .Not a pos) (vNot f) :=
  ⟨fW_mono, (pe_not h.pe).imp fun σ H Q ⟨B, F, ρ, R, p, e, q⟩ => by
    obtain ⟨x, e1, e⟩ := Option.bind_eq_some_iff.mp e
    obtain ⟨c, e2, rfl⟩ := Option.map_eq_some_iff.mp e
    refine ⟨B, F, ρ, R, x, e1, fun F' H' v R' e' d => ?_⟩
    rw [isB_some e2] at d
    exact ⟨c, Dp.inv_bl d, q F' H' _ R' e' (.bl (!c))⟩⟩
def b3 (g g' : G2) (f1 f2 f3 : Rho → Option D) : Rho → Option D := fun ρ => (f1 ρ).bind fun x => (f2 ρ).bind fun y => (g x y).bind fun r => (isB r).bind fun k => if k = true then (f3 ρ).bind fun z => g' y z else some (.bool false)
theorem ef_chain {op op' : CmpOp} {g g' : G2} {f1 f2 f3 : Rho → Option D} (o : OpG X (compareOp op) g) (o' : OpG X (compareOp op') g') (ha : XF X a f1) (hb : XF X b f2) (hc : XF X c f3)
    (hm : lastMarks [op, op'] [b, c] = false := by with_unfolding_all rfl) : EF X (.Compare a [op, op'] [b, c] pos) (b3 g g' f1 f2 f3) := by
  obtain ⟨r, ho, hr⟩ := o
  obtain ⟨r', ho', hr'⟩ := o'
  refine ⟨fW_mono, (pe_chain ho ho' ha.pe hb.pe hc.pe hm).imp fun σ H Q ⟨B, F, ρ, R, p, e, q⟩ => ?_⟩
  obtain ⟨x, e1, e⟩ := Option.bind_eq_some_iff.mp e
  obtain ⟨y, e2, e⟩ := Option.bind_eq_some_iff.mp e
  obtain ⟨z, e3, e⟩ := Option.bind_eq_some_iff.mp e
  obtain ⟨k, e4, e⟩ := Option.bind_eq_some_iff.mp e
  refine ⟨B, F, ρ, R, x, e1, fun F1 H1 v1 R1 s1 d1 => ⟨B, F1, ρ, R1, y, e2, fun F2 H2 v2 R2 s2 d2 => ?_⟩⟩
  refine hr B F2 H2 σ ρ v1 v2 x y z _ R2 (d1.mono s2) d2 e3 fun F3 H3 v3 R3 s3 d3 => ?_
  rw [isB_some e4] at d3
  refine ⟨k, Dp.inv_bl d3, ?_⟩
  cases k with
  | false => cases e; exact q F3 H3 _ R3 ((s1.trans s2).trans s3) (.bl false)
  | true =>
    obtain ⟨w, e5, e6⟩ := Option.bind_eq_some_iff.mp (show ((f3 ρ).bind fun z => g' y z) = some p from e)
    exact ⟨B, F3, ρ, R3, w, e5, fun F4 H4 v4 R4 s4 d4 => hr' B F4 H4 σ ρ v2 v4 y w p _ R4 (d2.mono (s3.trans s4)) d4 e6 fun F5 H5 v5 R5 s5 d5 => q F5 H5 v5 R5 ((((s1.trans s2).trans s3).trans s4).trans s5) d5⟩
end

section
variable {X : Cx}
theorem og_int {f : Value → Value → Sem Value} {C : Int → Int → Prop} {g : Int → Int → V} {gd : G2} (ho : OpR X f (rI C g)) (h : ∀ p q z, gd p q = some z → ∃ i j, p = .int i ∧ q = .int j ∧ C i j ∧ ∀ K F, Dp K F (g i j) z) : OpG X f gd :=
  OpG.of ⟨_, ho, fun B F H σ ρ x y p q z Q R hx hy e k => by
    obtain ⟨i, j, rfl, rfl, c, d⟩ := h p q z e
    exact ⟨i, j, Dp.inv_int hx, Dp.inv_int hy, c, k F H _ R (Same.refl _) (d _ _)⟩⟩
theorem og_int0 {f : Value → Value → Sem Value} {g : Int → Int → V} {gd : G2} (ho : OpR X f (rI0 g)) (h : ∀ p q z, gd p q = some z → ∃ i j, p = .int i ∧ q = .int j ∧ ∀ K F, Dp K F (g i j) z) : OpG X f gd :=
  OpG.of ⟨_, ho, fun B F H σ ρ x y p q z Q R hx hy e k => by
    obtain ⟨i, j, rfl, rfl, d⟩ := h p q z e
    exact ⟨i, j, Dp.inv_int hx, Dp.inv_int hy, k F H _ R (Same.refl _) (d _ _)⟩⟩
def iB (f : Int → Int → Bool) : G2
  | .int i, .int j => some (.bool (f i j))
  | _, _ => none
def iI (f : Int → Int → Int) : G2
  | .int i, .int j => some (.int (f i j))
  | _, _ => none
theorem iB_some {f : Int → Int → Bool} {p q z : D} (h : iB f p q = some z) : ∃ i j, p = .int i ∧ q = .int j ∧ z = .bool (f i j) := by
  unfold iB at h
  split at h
  · cases h; exact ⟨_, _, rfl, rfl, rfl⟩
  · cases h
theorem iI_some {f : Int → Int → Int} {p q z : D} (h : iI f p q = some z) : ∃ i j, p = .int i ∧ q = .int j ∧ z = .int (f i j) := by
  unfold iI at h
  split at h
  · cases h; exact ⟨_, _, rfl, rfl, rfl⟩
  · cases h
def dLt : G2 := iB fun i j => decide (i < j)
def dLe : G2 := iB fun i j => decide (i ≤ j)
def dGt : G2 := iB fun i j => decide (j < i)
def dGe : G2 := iB fun i j => decide (j ≤ i)
theorem og_lt : OpG X (compareOp .Lt) dLt := og_int0 op_lt fun p q z h => by obtain ⟨i, j, rfl, rfl, rfl⟩ := iB_some h; exact ⟨i, j, rfl, rfl, fun _ _ => .bl _⟩
theorem og_le : OpG X (compareOp .LtE) dLe := og_int0 op_le fun p q z h => by obtain ⟨i, j, rfl, rfl, rfl⟩ := iB_some h; exact ⟨i, j, rfl, rfl, fun _ _ => .bl _⟩
theorem og_gt : OpG X (compareOp .Gt) dGt := og_int0 op_gt fun p q z h => by obtain ⟨i, j, rfl, rfl, rfl⟩ := iB_some h; exact ⟨i, j, rfl, rfl, fun _ _ => .bl _⟩
theorem og_ge : OpG X (compareOp .GtE) dGe := og_int0 op_ge fun p q z h => by obtain ⟨i, j, rfl, rfl, rfl⟩ := iB_some h; exact ⟨i, j, rfl, rfl, fun _ _ => .bl _⟩
def dSub : G2 := iI fun i j => i - j
theorem og_sub : OpG X (binaryOp .Sub) dSub := og_int0 op_sub fun p q z h => by obtain ⟨i, j, rfl, rfl, rfl⟩ := iI_some h; exact ⟨i, j, rfl, rfl, fun _ _ => .int _⟩
/-- a // b, a % b, b a small positive number -/
def dFdiv : G2
  | .int i, .int j => if 0 < j ∧ j < 18446744073709551616 then some (.int (i / j)) else none
  | _, _ => none
def dMul : G2
  | .int i, .int j => if (-(2 ^ 64) < i ∧ i < 2 ^ 64) ∨ (-(2 ^ 64) < j ∧ j < 2 ^ 64) then some (.int (i * j)) else none
  | _, _ => none
theorem og_fdiv : OpG X (binaryOp .FloorDiv) dFdiv := og_int op_fdivW fun p q z h => by
  unfold dFdiv at h
  split at h
  · split at h
    · rename_i hh
      cases h; exact ⟨_, _, rfl, rfl, wide_div (b := 64) hh.1 (by omega) (by decide) (by decide), fun _ _ => .int _⟩
    · cases h
  · cases h
theorem og_mul : OpG X (binaryOp .Mult) dMul := og_int op_mul fun p q z h => by
  unfold dMul at h
  split at h
  · split at h
    · cases h; exact ⟨_, _, rfl, rfl, by assumption, fun _ _ => .int _⟩
    · cases h
  · cases h
/-- data that may be compared -/
def okD (p : D) : Bool := p.plain && decide (p.depth ≤ 64)
def okDs (ps : List D) : Bool := PyData.plainAll ps && decide (PyData.depthAll ps ≤ 64)
def dEq : G2 := fun p q => if okD p = true ∧ okD q = true then some (.bool (PyData.eqv p q)) else none
def dNe : G2 := fun p q => if okD p = true ∧ okD q = true then some (.bool (!PyData.eqv p q)) else none
def rEqP (K : Fg) (n : Bool) : R2 := fun x y H Q => ∃ d e, Dp K H x d ∧ Dp K H y e ∧ okD d = true ∧ okD e = true ∧ Q (.bl (if n = true then !PyData.eqv d e else PyData.eqv d e)) H
theorem okD_iff {p : D} : okD p = true ↔ p.plain = true ∧ p.depth ≤ 64 := by unfold okD; simp
theorem okDs_iff {p : List D} : okDs p = true ↔ PyData.plainAll p = true ∧ PyData.depthAll p ≤ 64 := by unfold okDs; simp
theorem or_eqP (hu : Rm X) : OpR X (compareOp .Eq) (rEqP X.K false) := by
  intro pins s σ H x y v u Q I rx ry h
  obtain ⟨d, e, hd, he, sd, se, q⟩ := h
  obtain ⟨p1, z1⟩ := okD_iff.mp sd
  obtain ⟨p2, z2⟩ := okD_iff.mp se
  obtain ⟨as, r1⟩ := Dp.reads I d x v hd p1 rx
  obtain ⟨bs, r2⟩ := Dp.reads I e y u he p2 ry
  exact SeqAt.eq_plain r1 r2 p1 p2 (by unfold Rm at hu; omega) ⟨.bl _, H, I, rfl, q⟩
theorem or_neP (hu : Rm X) : OpR X (compareOp .NotEq) (rEqP X.K true) := by
  intro pins s σ H x y v u Q I rx ry h
  obtain ⟨d, e, hd, he, sd, se, q⟩ := h
  obtain ⟨p1, z1⟩ := okD_iff.mp sd
  obtain ⟨p2, z2⟩ := okD_iff.mp se
  obtain ⟨as, r1⟩ := Dp.reads I d x v hd p1 rx
  obtain ⟨bs, r2⟩ := Dp.reads I e y u he p2 ry
  exact SeqAt.ne_plain r1 r2 p1 p2 (by unfold Rm at hu; omega) ⟨.bl _, H, I, rfl, q⟩
theorem og_eq (hu : Rm X) : OpG X (compareOp .Eq) dEq := OpG.of ⟨_, or_eqP hu, fun B F H σ ρ x y p q z Q R hx hy e k => by
  unfold dEq at e
  split at e
  · rename_i h; cases e
    exact ⟨p, q, hx, hy, h.1, h.2, k F H _ R (Same.refl _) (.bl _)⟩
  · cases e⟩
theorem og_ne (hu : Rm X) : OpG X (compareOp .NotEq) dNe := OpG.of ⟨_, or_neP hu, fun B F H σ ρ x y p q z Q R hx hy e k => by
  unfold dNe at e
  split at e
  · rename_i h; cases e
    exact ⟨p, q, hx, hy, h.1, h.2, k F H _ R (Same.refl _) (.bl _)⟩
  · cases e⟩
/-- in, not in -/
def items : D → Option (List D)
  | .list xs => some xs
  | .tuple xs => some xs
  | _ => none
theorem items_plain {e : D} {xs : List D} (h : items e = some xs) (hp : PyData.plainAll xs = true) : e.plain = true := by
  unfold items at h
  split at h
  · cases h; simpa [PyData.plain] using hp
  · cases h; simpa [PyData.plain] using hp
  · cases h
def dIn : G2 := fun p q => (items q).bind fun xs => if okD p = true ∧ okDs xs = true then some (.bool (xs.any fun y => PyData.eqv y p)) else none
def dNotIn : G2 := fun p q => (items q).bind fun xs => if okD p = true ∧ okDs xs = true then some (.bool (!xs.any fun y => PyData.eqv y p)) else none
def rInP (K : Fg) (n : Bool) : R2 := fun x y H Q => ∃ d e xs, Dp K H x d ∧ Dp K H y e ∧ items e = some xs ∧ okD d = true ∧ okDs xs = true ∧ Q (.bl (if n = true then !xs.any fun y => PyData.eqv y d else xs.any fun y => PyData.eqv y d)) H
theorem or_inP (hu : Rm X) : OpR X (compareOp .In) (rInP X.K false) := by
  intro pins s σ H x y v u Q I rx ry h
  obtain ⟨d, e, xs, hd, he, hi, sd, se, q⟩ := h
  obtain ⟨p1, z1⟩ := okD_iff.mp sd
  obtain ⟨p2, z2⟩ := okDs_iff.mp se
  obtain ⟨as, r1⟩ := Dp.reads I d x v hd p1 rx
  obtain ⟨bs, r2⟩ := Dp.reads I e y u he (items_plain hi p2) ry
  unfold items at hi
  split at hi
  · cases hi; exact SeqAt.in_list_data r2 r1 p2 p1 (by unfold Rm at hu; omega) ⟨.bl _, H, I, rfl, q⟩
  · cases hi; exact SeqAt.in_tuple_data r2 r1 p2 p1 (by unfold Rm at hu; omega) ⟨.bl _, H, I, rfl, q⟩
  · cases hi
theorem or_notInP (hu : Rm X) : OpR X (compareOp .NotIn) (rInP X.K true) := by
  intro pins s σ H x y v u Q I rx ry h
  obtain ⟨d, e, xs, hd, he, hi, sd, se, q⟩ := h
  obtain ⟨p1, z1⟩ := okD_iff.mp sd
  obtain ⟨p2, z2⟩ := okDs_iff.mp se
  obtain ⟨as, r1⟩ := Dp.reads I d x v hd p1 rx
  obtain ⟨bs, r2⟩ := Dp.reads I e y u he (items_plain hi p2) ry
  unfold items at hi
  split at hi
  · cases hi; exact SeqAt.notIn_list_data r2 r1 p2 p1 (by unfold Rm at hu; omega) ⟨.bl _, H, I, rfl, q⟩
  · cases hi; exact SeqAt.notIn_tuple_data r2 r1 p2 p1 (by unfold Rm at hu; omega) ⟨.bl _, H, I, rfl, q⟩
  · cases hi
theorem og_in (hu : Rm X) : OpG X (compareOp .In) dIn := OpG.of ⟨_, or_inP hu, fun B F H σ ρ x y p q z Q R hx hy e k => by
  obtain ⟨xs, e1, e⟩ := Option.bind_eq_some_iff.mp e
  split at e
  · rename_i h; cases e
    exact ⟨p, q, xs, hx, hy, e1, h.1, h.2, k F H _ R (Same.refl _) (.bl _)⟩
  · cases e⟩
theorem og_notIn (hu : Rm X) : OpG X (compareOp .NotIn) dNotIn := OpG.of ⟨_, or_notInP hu, fun B F H σ ρ x y p q z Q R hx hy e k => by
  obtain ⟨xs, e1, e⟩ := Option.bind_eq_some_iff.mp e
  split at e
  · rename_i h; cases e
    exact ⟨p, q, xs, hx, hy, e1, h.1, h.2, k F H _ R (Same.refl _) (.bl _)⟩
  · cases e⟩
end
end L2.P


set_option Elab.async false
set_option linter.all false
set_option maxRecDepth 100000
set_option maxHeartbeats 4000000
namespace L2.P
open PySem PySem.Spec PyProof.Rows L2

inductive PkAll (K : Fg) (F : Hp) (σ : St) (ρ : Rho) : List V → List D → Prop
  | nil : PkAll K F σ ρ [] []
  | cons {v : V} {vs : List V} {p : D} {ps : List D} : Pk K F σ ρ v p → PkAll K F σ ρ vs ps → PkAll K F σ ρ (v :: vs) (p :: ps)
theorem PkAll.mono {K : Fg} {F F' : Hp} {σ : St} {ρ : Rho} (e : Same F F') : ∀ {vs : List V} {ps : List D}, PkAll K F σ ρ vs ps → PkAll K F' σ ρ vs ps
  | _, _, .nil => .nil
  | _, _, .cons a b => .cons (a.mono e) (PkAll.mono e b)
theorem PkAll.dp {K : Fg} {B : Bs} {F H : Hp} {σ : St} {ρ : Rho} (R : Rs K B F H σ ρ) : ∀ {vs : List V} {ps : List D}, PkAll K F σ ρ vs ps → DpAll K H vs ps
  | _, _, .nil => .nil
  | _, _, .cons a b => .cons (a.dp (Same.refl _) R) (PkAll.dp R b)
theorem PkAll.of {K : Fg} {F : Hp} {σ : St} {ρ : Rho} : ∀ {vs : List V} {ps : List D}, DpAll K F vs ps → PkAll K F σ ρ vs ps
  | _, _, .nil => .nil
  | _, _, .cons a b => .cons (.inl a) (PkAll.of b)
abbrev TL := Rho → (List D → Prop) → Prop
def tXA (K : Fg) (T : TL) : TA := fun σ H Q => ∃ B F ρ, Rs K B F H σ ρ ∧ T ρ (fun ps => ∀ F' H' vs, Rs K B F' H' σ ρ → Same F F' → PkAll K F' σ ρ vs ps → Q vs H')
def tEA (K : Fg) (T : TL) : TA := fun σ H Q => ∃ B F ρ, Rs K B F H σ ρ ∧ T ρ (fun ps => ∀ F' H' vs, Rs K B F' H' σ ρ → Same F F' → DpAll K F' vs ps → Q vs H')
structure XA (X : Cx) (es : List Expr) (T : TL) : Prop where
  mono : ∀ ρ K K', (∀ p, K p → K' p) → T ρ K → T ρ K'
  pa : PA X es (tXA X.K T)
structure EA (X : Cx) (es : List Expr) (T : TL) : Prop where
  mono : ∀ ρ K K', (∀ p, K p → K' p) → T ρ K → T ρ K'
  pa : PA X es (tEA X.K T)
abbrev XAF (X : Cx) (es : List Expr) (f : Rho → Option (List D)) : Prop := XA X es (fW f)
abbrev EAF (X : Cx) (es : List Expr) (f : Rho → Option (List D)) : Prop := EA X es (fW f)
def aNil : Rho → Option (List D) := fun _ => some []
def aCons (f : Rho → Option D) (g : Rho → Option (List D)) : Rho → Option (List D) := fun ρ => (f ρ).bind fun x => (g ρ).map fun xs => x :: xs
def wNil : TL := fun _ K => K []
def wCons (T : TW) (U : TL) : TL := fun ρ K => T ρ fun x => U ρ fun xs => K (x :: xs)
section
variable {X : Cx} {e : Expr} {es : List Expr} {pos : Pos}
theorem PA.imp {es : List Expr} {t t' : TA} (h : PA X es t) (k : ∀ σ H Q, t' σ H Q → t σ H Q) : PA X es t' := ⟨fun p pins s σ H Q I hw => h.run p pins s σ H Q I (k _ _ _ hw)⟩
theorem XA.imp {T T' : TL} (h : XA X es T) (m : ∀ ρ K K', (∀ p, K p → K' p) → T' ρ K → T' ρ K') (k : ∀ ρ K, T' ρ K → T ρ K) : XA X es T' := ⟨m, PA.imp h.pa fun _ _ _ ⟨B, F, ρ, R, q⟩ => ⟨B, F, ρ, R, k _ _ q⟩⟩
theorem EA.imp {T T' : TL} (h : EA X es T) (m : ∀ ρ K K', (∀ p, K p → K' p) → T' ρ K → T' ρ K') (k : ∀ ρ K, T' ρ K → T ρ K) : EA X es T' := ⟨m, PA.imp h.pa fun _ _ _ ⟨B, F, ρ, R, q⟩ => ⟨B, F, ρ, R, k _ _ q⟩⟩
theorem xa_nilw : XA X [] wNil := ⟨fun _ _ _ h q => h _ q, PA.imp pa_nil fun σ H Q ⟨B, F, ρ, R, q⟩ => q F H [] R (Same.refl _) .nil⟩
theorem ea_nilw : EA X [] wNil := ⟨fun _ _ _ h q => h _ q, PA.imp pa_nil fun σ H Q ⟨B, F, ρ, R, q⟩ => q F H [] R (Same.refl _) .nil⟩
theorem xa_consw {T : TW} {U : TL} (ha : XW X e T) (hr : XA X es U) (hs : starEach (e :: es) X.env = (false, eval e X.env) :: starEach es X.env := by rfl) : XA X (e :: es) (wCons T U) :=
  ⟨fun ρ K K' h q => ha.mono _ _ _ (fun x => hr.mono _ _ _ fun xs => h _) q, PA.imp (pa_cons ha.pe hr.pa hs) fun σ H Q ⟨B, F, ρ, R, q⟩ => ⟨B, F, ρ, R, ha.mono _ _ _ (fun x k F1 H1 v R1 e1 d1 =>
    ⟨B, F1, ρ, R1, hr.mono _ _ _ (fun xs k2 F2 H2 vs R2 e2 d2 => k2 F2 H2 (v :: vs) R2 (e1.trans e2) (.cons (d1.mono e2) d2)) k⟩) q⟩⟩
theorem ea_consw {T : TW} {U : TL} (ha : EW X e T) (hr : EA X es U) (hs : starEach (e :: es) X.env = (false, eval e X.env) :: starEach es X.env := by rfl) : EA X (e :: es) (wCons T U) :=
  ⟨fun ρ K K' h q => ha.mono _ _ _ (fun x => hr.mono _ _ _ fun xs => h _) q, PA.imp (pa_cons ha.pe hr.pa hs) fun σ H Q ⟨B, F, ρ, R, q⟩ => ⟨B, F, ρ, R, ha.mono _ _ _ (fun x k F1 H1 v R1 e1 d1 =>
    ⟨B, F1, ρ, R1, hr.mono _ _ _ (fun xs k2 F2 H2 vs R2 e2 d2 => k2 F2 H2 (v :: vs) R2 (e1.trans e2) (.cons (d1.same e2) d2)) k⟩) q⟩⟩
theorem aCons_w {f : Rho → Option D} {g : Rho → Option (List D)} (ρ : Rho) (K : List D → Prop) (h : fW (aCons f g) ρ K) : wCons (fW f) (fW g) ρ K := by
  obtain ⟨z, e, k⟩ := h
  obtain ⟨x, e1, e⟩ := Option.bind_eq_some_iff.mp e
  obtain ⟨xs, e2, rfl⟩ := Option.map_eq_some_iff.mp e
  exact ⟨x, e1, xs, e2, k⟩
theorem xa_nil : XAF X [] aNil := xa_nilw.imp fW_mono fun ρ K ⟨p, e, k⟩ => by cases e; exact k
theorem ea_nil : EAF X [] aNil := ea_nilw.imp fW_mono fun ρ K ⟨p, e, k⟩ => by cases e; exact k
theorem xa_cons {f : Rho → Option D} {g : Rho → Option (List D)} (ha : XF X e f) (hr : XAF X es g) (hs : starEach (e :: es) X.env = (false, eval e X.env) :: starEach es X.env := by rfl) : XAF X (e :: es) (aCons f g) := (xa_consw ha hr hs).imp fW_mono aCons_w
theorem ea_cons {f : Rho → Option D} {g : Rho → Option (List D)} (ha : EF X e f) (hr : EAF X es g) (hs : starEach (e :: es) X.env = (false, eval e X.env) :: starEach es X.env := by rfl) : EAF X (e :: es) (aCons f g) := (ea_consw ha hr hs).imp fW_mono aCons_w
end

abbrev GA := List D → Option D
/-- a call does what g says of data -/
def CallG (X : Cx) (f : Value) (g : GA) : Prop :=
  ∃ r : List V → Hp → VK → Prop, CallR X f r ∧ ∀ (B : Bs) (F H : Hp) (σ : St) (ρ : Rho) (vs : List V) (ps : List D) (z : D) (Q : VK), Rs X.K B F H σ ρ → PkAll X.K F σ ρ vs ps → g ps = some z →
    (∀ F' H' v, Rs X.K B F' H' σ ρ → Same F F' → Dp X.K F' v z → Q v H') → r vs H Q
/-- .. makes a new list -/
def CallN (X : Cx) (f : Value) (g : List D → Option (List D)) : Prop :=
  ∃ r : List V → Hp → VK → Prop, CallR X f r ∧ ∀ (B : Bs) (F H : Hp) (σ : St) (ρ : Rho) (vs : List V) (ps zs : List D) (Q : VK), Rs X.K B F H σ ρ → PkAll X.K F σ ρ vs ps → g ps = some zs →
    (∀ F' H' a xs, Rs X.K B F' H' σ ρ → Same F F' → H' a = none → DpAll X.K F' xs zs → Q (.ref a) (upd H' a (.lst xs))) → r vs H Q
def aOf {α : Type} (g : List D → Option α) (f : Rho → Option (List D)) : Rho → Option α := fun ρ => (f ρ).bind g
def wOf {α : Type} (g : List D → Option α) (T : TL) : Rho → (α → Prop) → Prop := fun ρ K => T ρ fun ps => ∃ z, g ps = some z ∧ K z
theorem wOf_mono {α : Type} {g : List D → Option α} {T : TL} (m : ∀ ρ K K', (∀ p, K p → K' p) → T ρ K → T ρ K') : ∀ ρ K K', (∀ p, K p → K' p) → wOf g T ρ K → wOf g T ρ K' := fun ρ K K' h q => m _ _ _ (fun p ⟨b, e, k⟩ => ⟨b, e, h b k⟩) q
theorem aOf_w {α : Type} {g : List D → Option α} {f : Rho → Option (List D)} (ρ : Rho) (K : α → Prop) (h : fW (aOf g f) ρ K) : wOf g (fW f) ρ K := by
  obtain ⟨z, e, k⟩ := h
  obtain ⟨x, e1, e⟩ := Option.bind_eq_some_iff.mp e
  exact ⟨x, e1, z, e, k⟩
section
variable {X : Cx} {x : Str} {p pos : Pos} {e : Expr} {es : List Expr} {id T : String}
theorem call_ok {g : GA} {U : TL} (m : ∀ ρ K K', (∀ p, K p → K' p) → U ρ K → U ρ K') {r : List V → Hp → VK → Prop}
    (hr : ∀ (B : Bs) (F H : Hp) (σ : St) (ρ : Rho) (vs : List V) (ps : List D) (z : D) (Q : VK), Rs X.K B F H σ ρ → PkAll X.K F σ ρ vs ps → g ps = some z → (∀ F' H' v, Rs X.K B F' H' σ ρ → Same F F' → Dp X.K F' v z → Q v H') → r vs H Q)
    {σ : St} {H : Hp} {Q : VK} (h : tW X.K (wOf g U) σ H Q) : tCB r (tXA X.K U) σ H Q := by
  obtain ⟨B, F, ρ, R, q⟩ := h
  exact ⟨B, F, ρ, R, m _ _ _ (fun ps ⟨z, ez, k⟩ F1 H1 vs R1 e1 d1 => hr B F1 H1 σ ρ vs ps z Q R1 d1 ez fun F2 H2 v R2 e2 d2 => k F2 H2 v R2 (e1.trans e2) d2) q⟩
theorem callN_ok {g : List D → Option (List D)} {U : TL} (m : ∀ ρ K K', (∀ p, K p → K' p) → U ρ K → U ρ K') {r : List V → Hp → VK → Prop}
    (hr : ∀ (B : Bs) (F H : Hp) (σ : St) (ρ : Rho) (vs : List V) (ps zs : List D) (Q : VK), Rs X.K B F H σ ρ → PkAll X.K F σ ρ vs ps → g ps = some zs → (∀ F' H' a xs, Rs X.K B F' H' σ ρ → Same F F' → H' a = none → DpAll X.K F' xs zs → Q (.ref a) (upd H' a (.lst xs))) → r vs H Q)
    {σ : St} {H : Hp} {Q : VK} (h : tN X.K (wOf g U) σ H Q) : tCB r (tXA X.K U) σ H Q := by
  obtain ⟨B, F, ρ, R, q⟩ := h
  exact ⟨B, F, ρ, R, m _ _ _ (fun ps ⟨z, ez, k⟩ F1 H1 vs R1 e1 d1 => hr B F1 H1 σ ρ vs ps z Q R1 d1 ez fun F2 H2 a xs R2 e2 n d2 => k F2 H2 a xs R2 (e1.trans e2) n d2) q⟩
/-- f(e, ..), f a built-in function; a built-in class -/
theorem ew_callB {g : GA} {U : TL} (c : CallG X (.builtin id) g) (ha : XA X (e :: es) U) (hg : Gl X x) (hm : X.mg x = none) (hv : bootBuiltins x = some (.builtin id)) (hn : x ≠ "__name__" := by decide) (hdb : (x == ("__debug__" : Str)) = false := by decide)
    (he : starEach (e :: es) X.env = (false, eval e X.env) :: starEach es X.env := by rfl) (hpl : (backTo pos (starEach es X.env)).any (·.1) = false := by rfl) : EW X (.Call (.Name x p) (e :: es) [] pos) (wOf g U) := by
  obtain ⟨r, hc, hr⟩ := c
  exact ⟨wOf_mono ha.mono, (pe_callB hc hg hm hv ha.pa hn hdb he hpl).imp fun _ _ _ h => call_ok ha.mono hr h⟩
theorem ew_callT {g : GA} {U : TL} (c : CallG X (.type T) g) (ha : XA X (e :: es) U) (hg : Gl X x) (hm : X.mg x = none) (hv : bootBuiltins x = some (.type T)) (hn : x ≠ "__name__" := by decide) (hdb : (x == ("__debug__" : Str)) = false := by decide)
    (he : starEach (e :: es) X.env = (false, eval e X.env) :: starEach es X.env := by rfl) (hpl : (backTo pos (starEach es X.env)).any (·.1) = false := by rfl) : EW X (.Call (.Name x p) (e :: es) [] pos) (wOf g U) := by
  obtain ⟨r, hc, hr⟩ := c
  exact ⟨wOf_mono ha.mono, (pe_callTy hc hg hm hv ha.pa hn hdb he hpl).imp fun _ _ _ h => call_ok ha.mono hr h⟩
theorem nw_callB {g : List D → Option (List D)} {U : TL} (c : CallN X (.builtin id) g) (ha : XA X (e :: es) U) (hg : Gl X x) (hm : X.mg x = none) (hv : bootBuiltins x = some (.builtin id)) (hn : x ≠ "__name__" := by decide) (hdb : (x == ("__debug__" : Str)) = false := by decide)
    (he : starEach (e :: es) X.env = (false, eval e X.env) :: starEach es X.env := by rfl) (hpl : (backTo pos (starEach es X.env)).any (·.1) = false := by rfl) : NW X (.Call (.Name x p) (e :: es) [] pos) (wOf g U) := by
  obtain ⟨r, hc, hr⟩ := c
  exact ⟨wOf_mono ha.mono, (pe_callB hc hg hm hv ha.pa hn hdb he hpl).imp fun _ _ _ h => callN_ok ha.mono hr h⟩
theorem nw_callT {g : List D → Option (List D)} {U : TL} (c : CallN X (.type T) g) (ha : XA X (e :: es) U) (hg : Gl X x) (hm : X.mg x = none) (hv : bootBuiltins x = some (.type T)) (hn : x ≠ "__name__" := by decide) (hdb : (x == ("__debug__" : Str)) = false := by decide)
    (he : starEach (e :: es) X.env = (false, eval e X.env) :: starEach es X.env := by rfl) (hpl : (backTo pos (starEach es X.env)).any (·.1) = false := by rfl) : NW X (.Call (.Name x p) (e :: es) [] pos) (wOf g U) := by
  obtain ⟨r, hc, hr⟩ := c
  exact ⟨wOf_mono ha.mono, (pe_callTy hc hg hm hv ha.pa hn hdb he hpl).imp fun _ _ _ h => callN_ok ha.mono hr h⟩
theorem EW.f {g : GA} {f : Rho → Option (List D)} {e : Expr} (h : EW X e (wOf g (fW f))) : EF X e (aOf g f) := h.imp fW_mono aOf_w
theorem NW.f {g : List D → Option (List D)} {f : Rho → Option (List D)} {e : Expr} (h : NW X e (wOf g (fW f))) : NF X e (aOf g f) := h.imp fW_mono aOf_w
end

def intsD : List D → Option (List Int)
  | [] => some []
  | .int i :: r => (intsD r).map fun ns => i :: ns
  | _ :: _ => none
def boolsD : List D → Option (List Bool)
  | [] => some []
  | .bool i :: r => (boolsD r).map fun ns => i :: ns
  | _ :: _ => none
theorem intsD_some : ∀ {ps : List D} {ns : List Int}, intsD ps = some ns → ps = ns.map PyData.int
  | [], _, h => by cases h; rfl
  | .int i :: r, _, h => by
    obtain ⟨ns, e, rfl⟩ := Option.map_eq_some_iff.mp (show (intsD r).map _ = _ from h)
    rw [intsD_some e]
    rfl
  | .none :: _, _, h => by cases h
  | .bool _ :: _, _, h => by cases h
  | .str _ :: _, _, h => by cases h
  | .list _ :: _, _, h => by cases h
  | .tuple _ :: _, _, h => by cases h
  | .dict _ :: _, _, h => by cases h
theorem boolsD_some : ∀ {ps : List D} {ns : List Bool}, boolsD ps = some ns → ps = ns.map PyData.bool
  | [], _, h => by cases h; rfl
  | .bool i :: r, _, h => by
    obtain ⟨ns, e, rfl⟩ := Option.map_eq_some_iff.mp (show (boolsD r).map _ = _ from h)
    rw [boolsD_some e]
    rfl
  | .none :: _, _, h => by cases h
  | .int _ :: _, _, h => by cases h
  | .str _ :: _, _, h => by cases h
  | .list _ :: _, _, h => by cases h
  | .tuple _ :: _, _, h => by cases h
  | .dict _ :: _, _, h => by cases h
@[simp] theorem intsD_map (ns : List Int) : intsD (ns.map PyData.int) = some ns := by
  induction ns with
  | nil => rfl
  | cons n ns ih => rw [List.map_cons]; show (intsD (ns.map PyData.int)).map _ = _; rw [ih]; rfl
@[simp] theorem boolsD_map (ns : List Bool) : boolsD (ns.map PyData.bool) = some ns := by
  induction ns with
  | nil => rfl
  | cons n ns ih => rw [List.map_cons]; show (boolsD (ns.map PyData.bool)).map _ = _; rw [ih]; rfl

section
variable {X : Cx}
theorem dp1 {K : Fg} {F : Hp} {vs : List V} {p : D} (h : DpAll K F vs [p]) : ∃ v, vs = [v] ∧ Dp K F v p := by
  obtain ⟨v, us, rfl, d, t⟩ := DpAll.uncons h
  rw [DpAll.unnil t]
  exact ⟨v, rfl, d⟩
theorem dp2 {K : Fg} {F : Hp} {vs : List V} {p q : D} (h : DpAll K F vs [p, q]) : ∃ v u, vs = [v, u] ∧ Dp K F v p ∧ Dp K F u q := by
  obtain ⟨v, us, rfl, d, t⟩ := DpAll.uncons h
  obtain ⟨u, rfl, d2⟩ := dp1 t
  exact ⟨v, u, rfl, d, d2⟩
theorem pk1 {K : Fg} {F : Hp} {σ : St} {ρ : Rho} {vs : List V} {p : D} (h : PkAll K F σ ρ vs [p]) : ∃ v, vs = [v] ∧ Pk K F σ ρ v p := by
  cases h with
  | cons a b => cases b; exact ⟨_, rfl, a⟩
/-- the items of what is read at once are frozen -/
theorem pk_items {K : Fg} {B : Bs} {F H : Hp} {σ : St} {ρ : Rho} {v : V} {p : D} {ps : List D} (R : Rs K B F H σ ρ) (h : Pk K F σ ρ v p) (e : items p = some ps) : ∃ a xs, v = .ref a ∧ DpAll K F xs ps ∧ ((p = .list ps ∧ SqL K H a xs) ∨ (p = .tuple ps ∧ SqT K F a xs)) := by
  rcases h with h | ⟨i, qs, h1, h2, rfl⟩
  · unfold items at e
    split at e
    · cases e
      obtain ⟨a, xs, rfl, s, r⟩ := Dp.inv_lst h
      exact ⟨a, xs, rfl, r, .inl ⟨rfl, sqL_same R.sub s⟩⟩
    · cases e
      obtain ⟨a, xs, rfl, s, r⟩ := Dp.inv_tup h
      exact ⟨a, xs, rfl, r, .inr ⟨rfl, s⟩⟩
    · cases e
  · cases e
    have q := R.at_ i _ h1
    rw [h2] at q
    cases q with
    | ol f h0 h3 r => exact ⟨_, _, rfl, r, .inl ⟨rfl, .inl (.inl h3)⟩⟩
theorem pk_tup {K : Fg} {F : Hp} {σ : St} {ρ : Rho} {v : V} {ps : List D} (h : Pk K F σ ρ v (.tuple ps)) : Dp K F v (.tuple ps) := by
  rcases h with h | ⟨_, _, _, _, z⟩
  · exact h
  · cases z
theorem sq_of {K : Fg} {F H : Hp} {a : Addr} {xs : List V} {p : D} {ps : List D} (s : Same F H) (h : (p = .list ps ∧ SqL K H a xs) ∨ (p = .tuple ps ∧ SqT K F a xs)) : SqL K H a xs ∨ SqT K H a xs := by
  rcases h with ⟨_, h⟩ | ⟨_, h⟩
  · exact .inl h
  · exact .inr (sqT_same s h)
def gLen : GA
  | [.list xs] => some (.int xs.length)
  | [.tuple xs] => some (.int xs.length)
  | [.str z] => if z.length ≤ sizeLine then some (.int z.length) else none
  | _ => none
theorem cg_len : CallG X (.builtin "len") gLen := ⟨_, CallR.or call_len_seq call_len_str, fun B F H σ ρ vs ps z Q R d e k => by
  unfold gLen at e
  split at e
  · cases e
    obtain ⟨v, rfl, h⟩ := pk1 d
    obtain ⟨a, xs, rfl, r, q⟩ := pk_items R h rfl
    exact .inl ⟨a, xs, rfl, sq_of R.sub q, by rw [r.length]; exact k F H _ R (Same.refl _) (.int _)⟩
  · cases e
    obtain ⟨v, rfl, h⟩ := pk1 d
    obtain ⟨a, xs, rfl, r, q⟩ := pk_items R h rfl
    exact .inl ⟨a, xs, rfl, sq_of R.sub q, by rw [r.length]; exact k F H _ R (Same.refl _) (.int _)⟩
  · split at e
    · rename_i hz
      cases e
      obtain ⟨v, rfl, h⟩ := dp1 (d.dp R)
      exact .inr ⟨_, by rw [Dp.inv_str h], hz, k F H _ R (Same.refl _) (.int _)⟩
    · cases e
  · cases e⟩
def gTup : GA
  | [.list xs] => some (.tuple xs)
  | [.tuple xs] => some (.tuple xs)
  | _ => none
theorem cg_tuple : CallG X (.type "tuple") gTup := ⟨_, call_tuple_of, fun B F H σ ρ vs ps z Q R d e k => by
  unfold gTup at e
  split at e
  · cases e
    obtain ⟨v, rfl, h⟩ := pk1 d
    obtain ⟨a, xs, rfl, r, q⟩ := pk_items R h rfl
    rcases q with ⟨_, q⟩ | ⟨q, _⟩
    · refine ⟨a, xs, rfl, .inl ⟨q, fun l hl => ?_⟩⟩
      have n := R.sub.free hl
      exact k (upd F l (.tup xs)) _ _ (R.grow hl) (same_upd n) (.tup upd_same (r.same (same_upd n)))
    · cases q
  · cases e
    obtain ⟨v, rfl, h⟩ := pk1 d
    have d := pk_tup h
    obtain ⟨a, xs, rfl, q, r⟩ := Dp.inv_tup d
    exact ⟨a, xs, rfl, .inr ⟨sqT_same R.sub q, k F H _ R (Same.refl _) d⟩⟩
  · cases e⟩
def gLst : List D → Option (List D)
  | [p] => items p
  | _ => none
theorem cn_list : CallN X (.type "list") gLst := ⟨_, call_list_of, fun B F H σ ρ vs ps zs Q R d e k => by
  unfold gLst at e
  split at e
  · obtain ⟨v, rfl, h⟩ := pk1 d
    obtain ⟨a, xs, rfl, r, q⟩ := pk_items R h e
    exact ⟨a, xs, rfl, sq_of R.sub q, fun l hl => k F H l xs R (Same.refl _) hl r⟩
  · cases e⟩
def gAny : GA
  | [.list xs] => (boolsD xs).map fun bs => .bool (bs.any id)
  | _ => none
def gAll : GA
  | [.list xs] => (boolsD xs).map fun bs => .bool (bs.all id)
  | _ => none
theorem cg_any (hc : X.calm = true) : CallG X (.builtin "any") gAny := ⟨_, cr_any hc, fun B F H σ ρ vs ps z Q R d e k => by
  unfold gAny at e
  split at e
  · obtain ⟨bs, e1, rfl⟩ := Option.map_eq_some_iff.mp e
    obtain ⟨v, rfl, h⟩ := dp1 (d.dp R)
    rw [boolsD_some e1] at h
    obtain ⟨a, xs, rfl, s, r⟩ := Dp.inv_lst h
    exact ⟨a, bs, rfl, by rw [dpAll_bls bs r] at s; exact s, k F H _ R (Same.refl _) (.bl _)⟩
  · cases e⟩
theorem cg_all (hc : X.calm = true) : CallG X (.builtin "all") gAll := ⟨_, cr_all hc, fun B F H σ ρ vs ps z Q R d e k => by
  unfold gAll at e
  split at e
  · obtain ⟨bs, e1, rfl⟩ := Option.map_eq_some_iff.mp e
    obtain ⟨v, rfl, h⟩ := dp1 (d.dp R)
    rw [boolsD_some e1] at h
    obtain ⟨a, xs, rfl, s, r⟩ := Dp.inv_lst h
    exact ⟨a, bs, rfl, by rw [dpAll_bls bs r] at s; exact s, k F H _ R (Same.refl _) (.bl _)⟩
  · cases e⟩
theorem tyL {K : Fg} {H : Hp} {a : Addr} {xs : List V} (h : SqL K H a xs) : TyX K H (.ref a) (.type "list") := by
  rcases h with (h | ⟨o, h⟩) | ⟨o, its, n, h, hc, _⟩
  · exact .base (.lst h)
  · exact .base (.frz h)
  · exact .kList h hc
theorem tyT {K : Fg} {H : Hp} {a : Addr} {xs : List V} (h : SqT K H a xs) : TyX K H (.ref a) (.type "tuple") := by
  rcases h with (h | ⟨o, h⟩) | ⟨o, its, n, h, hc, _⟩
  · exact .base (.tup h)
  · exact .fTuple h
  · exact .kTuple h hc
def tyD : List (D × D) → String
  | [(.int _, .dict [(.none, .none)]), _] => "tuple"
  | _ => "dict"
theorem tyD_or (kvs : List (D × D)) : tyD kvs = "tuple" ∨ tyD kvs = "dict" := by
  unfold tyD
  split
  · exact .inl rfl
  · exact .inr rfl
def tyN : D → String
  | .none => "NoneType"
  | .bool _ => "bool"
  | .int _ => "int"
  | .str _ => "str"
  | .list _ => "list"
  | .tuple _ => "tuple"
  | .dict kvs => tyD kvs
/-- what isinstance has no rule for: functions, dicts whose keys are tuples -/
def noIs : D → Bool
  | .dict ((.none, .tuple _) :: _) => true
  | .dict ((.none, .list _) :: _) => true
  | .dict ((.none, .int _) :: _) => true
  | .dict ((.tuple _, _) :: _) => true
  | _ => false
theorem ty_of {K : Fg} {H : Hp} {v : V} {p : D} (h : Dp K H v p) (nf : noIs p = false) : TyX K H v (.type (tyN p)) := by
  cases h with
  | non => exact .base .non
  | bl b => exact .base (.bl b)
  | int b => exact .base (.int b)
  | str b => exact .base (.str b)
  | lst s _ => exact tyL s
  | tup s _ => exact tyT (.inl (.inl s))
  | tupK a b c d f _ _ => exact tyT (.inr ⟨_, _, _, a, b, c, d, f⟩)
  | tupZ _ s _ => exact tyT (.inl (.inr ⟨_, s⟩))
  | kt _ _ _ => cases nf
  | dk s r =>
    cases r with
    | nil => exact .fDict s
    | cons d r =>
      rename_i k _ p _ kvs
      have : tyN (.dict ((.int k, p) :: kvs)) = "dict" := by
        show tyD _ = _
        unfold tyD
        split
        · rename_i h
          cases h
          cases d with
          | dk _ r => cases r
          | dt _ r => cases r
        · rfl
      rw [this]
      exact .fDict s
  | dt s r =>
    cases r with
    | cons d r => cases nf
  | q a b c d f => exact tyT (.inr ⟨_, _, _, a, b, c, d, f⟩)
  | fn _ _ => cases nf
  | nd _ _ _ => cases nf
/-- isinstance(x, T), T a built-in class's name -/
def isiB (t T : String) : Bool := t == T || (t == "bool" && T == "int")
def gIsi (T : String) : D → D := fun p => .bool (isiB (tyN p) T)
theorem kit_isi (T : String) (h : T = "int" ∨ T = "bool" ∨ T = "str" ∨ T = "list" ∨ T = "tuple") (p : D) : kitB (tyN p) T = some (isiB (tyN p) T) := by
  have key : tyN p ∈ ["NoneType", "bool", "int", "str", "list", "tuple", "dict"] := by
    cases p with
    | dict kvs => rcases tyD_or kvs with e | e <;> (show tyD kvs ∈ _; rw [e]; decide)
    | _ => simp [tyN]
  generalize tyN p = t at key
  have all : (["NoneType", "bool", "int", "str", "list", "tuple", "dict"].all fun t => ["int", "bool", "str", "list", "tuple"].all fun T => kitB t T == some (isiB t T)) = true := by decide +kernel
  have hT : T ∈ ["int", "bool", "str", "list", "tuple"] := by rcases h with rfl | rfl | rfl | rfl | rfl <;> decide
  exact eq_of_beq (List.all_eq_true.mp (List.all_eq_true.mp all t key) T hT)
end

section
variable {X : Cx}
def rCatG (K : Fg) : R2 := fun x y H Q => ∃ l b xs zs, x = .ref l ∧ y = .ref b ∧ SqL K H l xs ∧ SqL K H b zs ∧ xs.length + zs.length ≤ sizeLine ∧ ∀ p, H p = none → Q (.ref p) (upd H p (.lst (xs ++ zs)))
theorem or_catL : OpR X (binaryOp .Add) (rCatG X.K) := by
  intro pins s σ H x y v u Q I rx ry h
  obtain ⟨l, b, xs, zs, rfl, rfl, hH, hB, hz, q⟩ := h
  cases rx
  cases ry
  obtain ⟨its, r, ⟨o1, n1, e1, c1, d1, f1⟩, _⟩ := I.list hH
  obtain ⟨its2, r2, ⟨o2, n2, e2, c2, d2, f2⟩, _⟩ := I.list hB
  obtain ⟨cls, dd, data, sl⟩ := o1
  obtain ⟨cls2, dd2, data2, sl2⟩ := o2
  simp only at c1 d1 f1 c2 d2 f2
  subst c1 d1 f1 c2 d2 f2
  have hl := r.length
  have hl2 := r2.length
  have ea : its.toArray ++ its2.toArray = (its ++ its2).toArray := by simp
  refine concat_meets ⟨_, e1, rfl⟩ ⟨_, e2, rfl⟩ noFill_list_add seq_list_add PySem.F.slot_list_add PySem.F.entry_list_add (PySem.F.args_list_add_2 _ _) (list_addW l b its.toArray its2.toArray n1 n2 _ _ sl sl2 (by simp only [List.size_toArray]; omega)) ⟨e1, e2, ?_⟩
  rw [ea]
  exact ⟨.ref _, _, I.lnew (t' := s.toks) (r.append r2) (by rw [List.length_append]; omega), rfl, q _ I.fresh⟩
end
end L2.P


set_option Elab.async false
set_option linter.all false
set_option maxRecDepth 100000
set_option maxHeartbeats 4000000
namespace L2.P
open PySem PySem.Spec PyProof.Rows L2

def Bs.pin (B : Bs) (a : Addr) (o : HO) : Bs := { B with Ha := upd B.Ha a o }
section
variable {K : Fg} {B : Bs} {F F' H H' : Hp} {σ σ' : St} {ρ ρ' : Rho} {a : Addr} {o : HO}
/-- from a new object on: it is pinned -/
theorem Rs.pin (R : Rs K B F H σ ρ) (h : H a = none) (o : HO) : Rs K (B.pin a o) F (upd H a o) σ ρ where
  sub := (R.lay h).sub
  ext := R.ext
  new := fun b h1 h2 => by
    have ne : b ≠ a := fun e => by subst e; exact h2 (R.sub.free h)
    show Fz ((upd B.Ha a o) b)
    rw [upd_ne ne]
    exact R.new b h1 h2
  old := fun b x hb e => by
    by_cases q : b = a
    · subst q
      have e' : (upd B.Ha b o) b = some x := e
      rw [upd_same] at e'
      rw [upd_same]; exact e'
    · have e' : (upd B.Ha a o) b = some x := e
      rw [upd_ne q] at e'
      rw [upd_ne q]; exact R.old b x hb e'
  hrow := (R.lay h).hrow
  hr2 := fun r h => by
    show (upd B.Ha a o) r ≠ none
    by_cases e : r = a
    · subst e; rw [upd_same]; simp
    · rw [upd_ne e]; exact R.hr2 r h
  len := R.len
  at_ := fun i s hs => by
    have q := (R.lay h (o := o)).at_ i s hs
    have q0 := R.at_ i s hs
    generalize σ[i]? = x at q q0
    cases q with
    | no => exact .no
    | v r => exact .v r
    | @ol c xs ps f h0 h1 r =>
      refine .ol f ?_ h1 r
      cases q0 with
      | ol _ _ g _ =>
        show (upd B.Ha a o) c = none
        rw [upd_ne (ne_of_none g h)]; exact h0
    | @row c _ f h0 h1 =>
      refine .row f ?_ h1
      cases q0 with
      | row _ _ g =>
        obtain ⟨u, hu⟩ := g.there
        rcases h0 with h0 | h0
        · refine .inl ?_
          show (upd B.Ha a o) c = none
          rw [upd_ne (ne_of_none hu h)]; exact h0
        · exact .inr h0
    | @od t c kvs f h0 h1 =>
      refine .od f ?_ h1
      cases q0 with
      | od _ _ g =>
        obtain ⟨u, hu, _⟩ := g.there
        show (upd B.Ha a o) c = none
        rw [upd_ne (ne_of_none hu h)]; exact h0
  apart := R.apart
  tb := (R.lay h).tb
  tbh := fun p hp => by
    obtain ⟨ps, q⟩ := R.tbh p hp
    exact ⟨ps, by show (upd B.Ha a o) p.1 = _; rw [upd_ne (R.tb.ne0 h p hp)]; exact q⟩
theorem Rs.pin_ne (R : Rs K (B.pin a o) F H σ ρ) (nb : ¬ isTE o) : ∀ p ∈ tbT K, p.1 ≠ a := fun p hp z => by
  obtain ⟨ps, q⟩ := R.tbh p hp
  have e : (B.pin a o).Ha a = some o := upd_same
  rw [z, e] at q
  exact nb (.inl ⟨ps, Option.some.inj q⟩)
theorem Rs.pinned (R : Rs K (B.pin a o) F H σ ρ) (hr : B.r ≠ some a) (hF : B.Fa a = none) (nt : ∀ xs, o ≠ HO.tup xs := by intro _ h; cases h) (nb : ¬ isTE o := by exact not_te rfl) : H a = some o ∧ F a = none := by
  have e : (B.pin a o).Ha a = some o := upd_same
  refine ⟨R.old a o ⟨fun z => hr z.symm, R.pin_ne nb⟩ e, ?_⟩
  cases q : F a with
  | none => rfl
  | some u =>
    have := R.new a hF (by rw [q]; simp)
    rw [e] at this
    rcases this with z | ⟨xs, z⟩
    · cases z
    · exact absurd (Option.some.inj z) (nt xs)
/-- the pin is taken off -/
theorem Rs.unpin (R : Rs K (B.pin a o) F H σ ρ) (hr : B.r ≠ some a) (hF : B.Fa a = none) (hH : B.Ha a = none) (nb : ¬ isTE o := by exact not_te rfl) : Rs K B F H σ ρ where
  tb := R.tb
  tbh := fun p hp => by
    obtain ⟨ps, q⟩ := R.tbh p hp
    have e : (upd B.Ha a o) p.1 = some (.tbl ps) := q
    rw [upd_ne (R.pin_ne nb p hp)] at e
    exact ⟨ps, e⟩
  sub := R.sub
  ext := R.ext
  new := fun b h1 h2 => by
    have q : Fz ((upd B.Ha a o) b) := R.new b h1 h2
    by_cases e : b = a
    · subst e; exact .inl hH
    · rw [upd_ne e] at q; exact q
  old := fun b x hb e => R.old b x hb (by
    show (upd B.Ha a o) b = some x
    rw [upd_ne (ne_of_none e hH)]; exact e)
  hrow := R.hrow
  hr2 := fun r h q => by
    have z := R.hr2 r h
    have ne : r ≠ a := fun e => hr (by rw [h, e])
    exact z (by show (upd B.Ha a o) r = none; rw [upd_ne ne]; exact q)
  len := R.len
  at_ := fun i s hs => by
    have q := R.at_ i s hs
    generalize σ[i]? = x at q
    cases q with
    | no => exact .no
    | v r => exact .v r
    | @ol c xs ps f h0 h1 r =>
      refine .ol f ?_ h1 r
      have z : (upd B.Ha a o) c = none := h0
      by_cases e : c = a
      · subst e; exact hH
      · rw [upd_ne e] at z; exact z
    | @row c _ f h0 h1 =>
      refine .row f ?_ h1
      rcases h0 with h0 | h0
      · have z : (upd B.Ha a o) c = none := h0
        refine .inl ?_
        by_cases e : c = a
        · subst e; exact hH
        · rw [upd_ne e] at z; exact z
      · exact .inr h0
    | @od t c kvs f h0 h1 =>
      refine .od f ?_ h1
      have z : (upd B.Ha a o) c = none := h0
      by_cases e : c = a
      · subst e; exact hH
      · rw [upd_ne e] at z; exact z
  apart := R.apart
/-- what is pinned is written -/
theorem Rs.repin (R : Rs K (B.pin a o) F H σ ρ) (hr : B.r ≠ some a) (hF : B.Fa a = none) (u : HO) (nt : ∀ xs, o ≠ HO.tup xs := by intro _ h; cases h) (nb : ¬ isTE o := by exact not_te rfl) : Rs K (B.pin a u) F (upd H a u) σ ρ := by
  obtain ⟨p1, p2⟩ := R.pinned hr hF nt nb
  refine ⟨same_upd2 R.sub p2, R.ext, fun b h1 h2 => ?_, fun b x hb e => ?_, fun r h => ?_, fun r h => ?_, R.len, fun i s hs => ?_, R.apart, R.tb.chg p1 nb, fun p hp => ?_⟩
  rotate_right
  · obtain ⟨ps, q⟩ := R.tbh p hp
    have e : (upd B.Ha a o) p.1 = some (.tbl ps) := q
    rw [upd_ne (R.pin_ne nb p hp)] at e
    exact ⟨ps, by show (upd B.Ha a u) p.1 = _; rw [upd_ne (R.pin_ne nb p hp)]; exact e⟩
  · have q : Fz ((upd B.Ha a o) b) := R.new b h1 h2
    have ne : b ≠ a := fun e => by subst e; exact h2 p2
    rw [upd_ne ne] at q
    show Fz ((upd B.Ha a u) b)
    rw [upd_ne ne]; exact q
  · have e' : (upd B.Ha a u) b = some x := e
    by_cases q : b = a
    · subst q; rw [upd_same] at e' ⊢; exact e'
    · rw [upd_ne q] at e' ⊢
      exact R.old b x hb (by show (upd B.Ha a o) b = some x; rw [upd_ne q]; exact e')
  · obtain ⟨h1, h2⟩ := R.hrow r h
    have ne : r ≠ a := fun e => by subst e; exact hr h
    exact ⟨h1, h2.mono (Same.refl _) fun x e => by rw [upd_ne ne]; exact e⟩
  · show (upd B.Ha a u) r ≠ none
    have ne : r ≠ a := fun e => by subst e; exact hr h
    have z : (upd B.Ha a o) r ≠ none := R.hr2 r h
    rw [upd_ne ne] at z ⊢; exact z
  · have q := R.at_ i s hs
    generalize σ[i]? = x at q
    have far : ∀ c, (B.pin a o).Ha c = none ∨ B.r = some c → c ≠ a := fun c h e => by
      subst e
      rcases h with h | h
      · have z : (upd B.Ha c o) c = none := h
        rw [upd_same] at z; cases z
      · exact hr h
    cases q with
    | no => exact .no
    | v r => exact .v r
    | @ol c xs ps f h0 h1 r =>
      have ne := far c (.inl h0)
      have z : (upd B.Ha a o) c = none := h0
      rw [upd_ne ne] at z
      exact .ol f (by show (upd B.Ha a u) c = none; rw [upd_ne ne]; exact z) (by rw [upd_ne ne]; exact h1) r
    | @row c _ f h0 h1 =>
      have ne := far c (h0.imp id And.left)
      refine .row f ?_ (h1.mono (Same.refl _) fun x e => by rw [upd_ne ne]; exact e)
      rcases h0 with h0 | h0
      · have z : (upd B.Ha a o) c = none := h0
        rw [upd_ne ne] at z
        exact .inl (by show (upd B.Ha a u) c = none; rw [upd_ne ne]; exact z)
      · exact .inr h0
    | @od t c kvs f h0 h1 =>
      have ne := far c (.inl h0)
      have z : (upd B.Ha a o) c = none := h0
      rw [upd_ne ne] at z
      exact .od f (by show (upd B.Ha a u) c = none; rw [upd_ne ne]; exact z) (h1.mono (Same.refl _) fun x e => by rw [upd_ne ne]; exact e)
end

def wipeR (ρ : Rho) : List Nat → Rho
  | [] => ρ
  | i :: is => (wipeR ρ is).set i .no
theorem wipeR_length (ρ : Rho) : ∀ is : List Nat, (wipeR ρ is).length = ρ.length
  | [] => rfl
  | i :: is => by unfold wipeR; rw [List.length_set, wipeR_length ρ is]
theorem wipeR_out {ρ : Rho} {i : Nat} : ∀ {is : List Nat}, i ∉ is → (wipeR ρ is)[i]? = ρ[i]?
  | [], _ => rfl
  | v :: vs, h => by
    have h1 : v ≠ i := fun e => h (by rw [e]; exact List.mem_cons_self)
    have h2 : i ∉ vs := fun m => h (List.mem_cons_of_mem _ m)
    unfold wipeR
    rw [List.getElem?_set_ne h1]
    exact wipeR_out h2
theorem wipeR_in {ρ : Rho} {i : Nat} {s : Sl} : ∀ {is : List Nat}, i ∈ is → (wipeR ρ is)[i]? = some s → s = .no
  | v :: vs, h, e => by
    unfold wipeR at e
    by_cases q : v = i
    · subst q
      by_cases hl : v < (wipeR ρ vs).length
      · rw [List.getElem?_set_self hl] at e; cases e; rfl
      · rw [List.getElem?_eq_none (by simpa using hl)] at e; cases e
    · rw [List.getElem?_set_ne q] at e
      rcases List.mem_cons.mp h with z | z
      · exact absurd z.symm q
      · exact wipeR_in z e
/-- no slot of is owns anything -/
def noOwn (ρ : Rho) (is : List Nat) : Bool := is.all fun i => match ρ[i]? with
  | some s => !s.owns
  | none => true
section
variable {K : Fg} {B : Bs} {F F' H H' : Hp} {σ σ' σ2 : St} {ρ ρ2 : Rho} {is : List Nat}
theorem Rs.wipe (R : Rs K B F H σ ρ) (is : List Nat) : Rs K B F H (L2.wipe σ is) (wipeR ρ is) where
  sub := R.sub
  ext := R.ext
  new := R.new
  old := R.old
  hrow := R.hrow
  hr2 := R.hr2
  tb := R.tb
  tbh := R.tbh
  len := by rw [wipe_length, wipeR_length]; exact R.len
  at_ := fun i s hs => by
    by_cases h : i ∈ is
    · rw [wipeR_in h hs]; exact .no
    · rw [wipeR_out h] at hs
      rw [wipe_out h]; exact R.at_ i s hs
  apart := fun i j a s t hij h1 h2 o1 o2 e1 e2 => by
    have n1 : i ∉ is := fun h => by rw [wipeR_in h h1] at o1; cases o1
    have n2 : j ∉ is := fun h => by rw [wipeR_in h h2] at o2; cases o2
    rw [wipeR_out n1] at h1
    rw [wipeR_out n2] at h2
    rw [wipe_out n1] at e1
    rw [wipe_out n2] at e2
    exact R.apart i j a s t hij h1 h2 o1 o2 e1 e2
theorem noOwn_at (h : noOwn ρ is = true) {i : Nat} {s : Sl} (hi : i ∈ is) (e : ρ[i]? = some s) : s.owns = false := by
  have q := List.all_eq_true.mp h i hi
  rw [e] at q
  simpa using q
/-- behind a block: what the block's own slots held is what they held ahead of it -/
theorem Rs.back (R : Rs K B F H σ ρ) (R2 : Rs K B F' H' σ2 ρ2) (e : Same F F') (no : noOwn ρ is = true) (hσ : ∀ j, j ∉ is → σ2[j]? = σ[j]?) (hρ : ∀ j, j ∉ is → ρ2[j]? = ρ[j]?) : Rs K B F' H' σ ρ where
  sub := R2.sub
  ext := R2.ext
  new := R2.new
  old := R2.old
  hrow := R2.hrow
  hr2 := R2.hr2
  tb := R2.tb
  tbh := R2.tbh
  len := R.len
  at_ := fun i s hs => by
    by_cases h : i ∈ is
    · have o := noOwn_at no h hs
      have q := R.at_ i s hs
      generalize σ[i]? = x at q
      cases q with
      | no => exact .no
      | v r => exact .v (r.same e)
      | ol f h0 h1 r => cases o
      | row f h0 h1 => cases o
      | od f h0 h1 => cases o
    · rw [← hσ i h]
      exact R2.at_ i s (by rw [hρ i h]; exact hs)
  apart := fun i j a s t hij h1 h2 o1 o2 e1 e2 => by
    have n1 : i ∉ is := fun h => by rw [noOwn_at no h h1] at o1; cases o1
    have n2 : j ∉ is := fun h => by rw [noOwn_at no h h2] at o2; cases o2
    exact R2.apart i j a s t hij (by rw [hρ i n1]; exact h1) (by rw [hρ j n2]; exact h2) o1 o2 (by rw [hσ i n1]; exact e1) (by rw [hσ j n2]; exact e2)
theorem wipe_eq (hl : σ2.length = σ.length) (h : ∀ j, j ∉ is → σ2[j]? = σ[j]?) : L2.wipe σ2 is = L2.wipe σ is := by
  apply List.ext_getElem?
  intro j
  by_cases hj : j ∈ is
  · have q : ∀ (τ : St) (vs : List Nat), j ∈ vs → (L2.wipe τ vs)[j]? = if j < τ.length then some none else none := fun τ vs => by
      induction vs with
      | nil => intro h; cases h
      | cons v vs ih =>
        intro hm
        unfold L2.wipe
        by_cases e : v = j
        · subst e
          rw [List.getElem?_set]
          simp [wipe_length]
        · rw [List.getElem?_set_ne e]
          rcases List.mem_cons.mp hm with z | z
          · exact absurd z.symm e
          · exact ih z
    rw [q σ2 is hj, q σ is hj, hl]
  · rw [wipe_out hj, wipe_out hj]; exact h j hj
end

abbrev Tg := D → Rho → Option Rho
/-- a target that stores into the slots is alone -/
def tG (K : Fg) (g : Tg) (is : List Nat) : TG := fun x σ H Q => ∃ B F ρ p ρ', Rs K B F H σ ρ ∧ Dp K F x p ∧ g p ρ = some ρ' ∧
  ∀ σ', Rs K B F H σ' ρ' → σ'.length = σ.length → (∀ j, j ∉ is → σ'[j]? = σ[j]?) → (∀ j, j ∉ is → ρ'[j]? = ρ[j]?) → Q σ' H
def GW (X : Cx) (tg : Expr) (g : Tg) (is : List Nat) : Prop := PG X tg (tG X.K g is)
def tgN (i : Nat) : Tg := fun p ρ => some (ρ.set i (.v p))
def tg2 (i j : Nat) : Tg := fun p ρ => match p with
  | .tuple [a, b] => some ((ρ.set i (.v a)).set j (.v b))
  | _ => none
section
variable {X : Cx} {pos : Pos}
theorem PG.imp {e : Expr} {t t' : TG} (h : PG X e t) (k : ∀ x σ H Q, t' x σ H Q → t x σ H Q) : PG X e t' := ⟨fun pins s σ H v u Q I r hw => h.run pins s σ H v u Q I r (k _ _ _ _ hw)⟩
theorem gw_name {i : Nat} {x : Str} (hN : X.N.Nodup) (hi : X.N[i]? = some x) (hx : Loc X.env.scope x) (hf : X.fn x = true ∨ X.env.scope.names.lookup x = some .local := by first | exact .inl rfl | exact .inr rfl | assumption) : GW X (.Name x pos) (tgN i) [i] :=
  PG.imp (pg_name hN hi hx hf) fun x σ H Q ⟨B, F, ρ, p, ρ', R, d, e, q⟩ => by
    cases e
    exact q _ (R.put (.v d) rfl) (List.length_set ..) (fun j hj => List.getElem?_set_ne (fun z => hj (by simp [z]))) fun j hj => List.getElem?_set_ne (fun z => hj (by simp [z]))
theorem gw_two {i j : Nat} {x y : Str} {p1 p2 : Pos} {k : Nat} (hc : X.calm = true) (hN : X.N.Nodup) (hi : X.N[i]? = some x) (hx : Loc X.env.scope x) (hj : X.N[j]? = some y) (hy : Loc X.env.scope y)
    (hf : X.fn x = true ∨ X.env.scope.names.lookup x = some .local := by first | exact .inl rfl | exact .inr rfl | assumption) (hf2 : X.fn y = true ∨ X.env.scope.names.lookup y = some .local := by first | exact .inl rfl | exact .inr rfl | assumption) : GW X (.Tuple [.Name x p1, .Name y p2] k pos) (tg2 i j) [i, j] :=
  PG.imp (pg_tup (n := 2) hc (pgs_cons (pg_name hN hi hx hf) (pgs_cons (pg_name hN hj hy hf2) pgs_nil))) fun v σ H Q ⟨B, F, ρ, p, ρ', R, d, e, q⟩ => by
    unfold tg2 at e
    split at e
    · cases e
      obtain ⟨a, xs, rfl, s, r⟩ := Dp.inv_tup d
      obtain ⟨u, us, rfl, d1, t⟩ := DpAll.uncons r
      obtain ⟨w, rfl, d2⟩ := dp1 t
      refine ⟨a, _, rfl, sqT_same R.sub s, rfl, u, _, rfl, w, _, rfl, rfl, ?_⟩
      refine q _ ((R.put (.v d1) rfl).put (.v d2) rfl) (by simp) (fun l hl => ?_) fun l hl => ?_
      · rw [List.getElem?_set_ne (fun z => hl (by simp [z])), List.getElem?_set_ne (fun z => hl (by simp [z]))]
      · rw [List.getElem?_set_ne (fun z => hl (by simp [z])), List.getElem?_set_ne (fun z => hl (by simp [z]))]
    · cases e
end

/-- what a turn brings: a frozen item, or a new pair of frozen items -/
def Yl (K : Fg) (F H H' : Hp) (x : V) (p : D) : Prop := (H' = H ∧ Dp K F x p) ∨
  ∃ T a b q1 q2, x = .ref T ∧ H T = none ∧ H' = upd H T (.tup [a, b]) ∧ p = .tuple [q1, q2] ∧ Dp K F a q1 ∧ Dp K F b q2
structure Wlk (K : Fg) (F : Hp) (J : It) (ps : List D) : Prop where
  go : ∀ i H, i < ps.length → Same F H → J.go i H
  stop : ∀ H, Same F H → J.stop ps.length H
  yld : ∀ i H x H', i < ps.length → Same F H → J.yld i H x H' → ∃ p, ps[i]? = some p ∧ Yl K F H H' x p
theorem yl_step {K : Fg} {B : Bs} {F F0 H H' : Hp} {σ : St} {ρ : Rho} {x : V} {p : D} (R : Rs K B F H σ ρ) (e : Same F0 F) (y : Yl K F0 H H' x p) : ∃ F1, Rs K B F1 H' σ ρ ∧ Same F F1 ∧ Dp K F1 x p := by
  rcases y with ⟨rfl, d⟩ | ⟨T, a, b, q1, q2, rfl, n, rfl, rfl, d1, d2⟩
  · exact ⟨F, R, Same.refl _, d.same e⟩
  · have n' := R.sub.free n
    exact ⟨_, R.grow n, same_upd n', .tup upd_same (.cons ((d1.same e).same (same_upd n')) (.cons ((d2.same e).same (same_upd n')) .nil))⟩
def tI (K : Fg) (T : TL) : TI := fun σ H R => ∃ B F ρ, Rs K B F H σ ρ ∧ T ρ (fun ps => ∀ F' H' J, Rs K B F' H' σ ρ → Same F F' → ps.length ≤ sizeLine → Wlk K F' J ps → R J H')
structure IW (X : Cx) (tg iter : Expr) (T : TL) : Prop where
  mono : ∀ ρ K K', (∀ p, K p → K' p) → T ρ K → T ρ K'
  pi : PI X tg iter (tI X.K T)
abbrev IF (X : Cx) (tg iter : Expr) (f : Rho → Option (List D)) : Prop := IW X tg iter (fW f)
theorem PI.imp {X : Cx} {tg e : Expr} {t t' : TI} (h : PI X tg e t) (k : ∀ σ H R, t' σ H R → t σ H R) : PI X tg e t' := ⟨fun pins s σ H Q I hw => h.run pins s σ H Q I (k _ _ _ hw)⟩
theorem IW.imp {X : Cx} {tg e : Expr} {T T' : TL} (h : IW X tg e T) (m : ∀ ρ K K', (∀ p, K p → K' p) → T' ρ K → T' ρ K') (k : ∀ ρ K, T' ρ K → T ρ K) : IW X tg e T' := ⟨m, PI.imp h.pi fun _ _ _ ⟨B, F, ρ, R, q⟩ => ⟨B, F, ρ, R, k _ _ q⟩⟩
section
variable {X : Cx} {tg : Expr}
def iSeq (K : Fg) (tl : TE) : TI := fun σ H R => tl σ H fun x H1 => ∃ a, x = .ref a ∧ (((∃ xs, SqL K H1 a xs) ∧ R (Itl K a) H1) ∨ ((∃ xs, SqT K H1 a xs) ∧ R (Itt K a) H1))
theorem pi_seq {l : Expr} {tl : TE} (hl : PE X l tl) : PI X tg l (iSeq X.K tl) := by
  refine ⟨fun pins s σ H R I h => ?_⟩
  refine thn (hl.run pins s σ H _ I h) fun v s1 ⟨x, H1, I1, r1, q1⟩ => ?_
  obtain ⟨a, e, q⟩ := q1
  subst e
  cases r1
  rcases q with ⟨⟨xs, hq⟩, q⟩ | ⟨⟨xs, hq⟩, q⟩
  · obtain ⟨its, rv, p, hz⟩ := I1.list hq
    refine wpAny_pyIter_list p.isList ?_
    refine ⟨s1.heap.objs.size, [s1.heap.objs.size], _, _, H1, rfl, I1.kept (t' := s1.toks) fun b o e => Heap.get?_push_of_some _ e, turn_list a _, ⟨_, Heap.get?_push_size _ rfl, rfl, rfl⟩, fun b hb => ?_, q⟩
    have e : b = s1.heap.objs.size := by simpa using hb
    subst e
    exact I1.fpOk (Nat.le_refl _) (I1.hok.fresh (Nat.le_refl _))
  · obtain ⟨its, rv, p, hz⟩ := I1.tuple hq
    refine wpAny_pyIter_tuple (show s1.heap.IsTuple a its.toArray from p) ?_
    refine ⟨s1.heap.objs.size, [s1.heap.objs.size], _, _, H1, rfl, I1.kept (t' := s1.toks) fun b o e => Heap.get?_push_of_some _ e, turn_tuple a _, ⟨_, Heap.get?_push_size _ rfl, rfl, rfl⟩, fun b hb => ?_, q⟩
    have e : b = s1.heap.objs.size := by simpa using hb
    subst e
    exact I1.fpOk (Nat.le_refl _) (I1.hok.fresh (Nat.le_refl _))
theorem wlk_list {K : Fg} {F : Hp} {a : Addr} {xs : List V} {ps : List D} (s : SqL K F a xs) (d : DpAll K F xs ps) : Wlk K F (Itl K a) ps where
  go := fun i H hi e => by
    have hl := d.length
    exact ⟨xs, xs[i], sqL_same e s, by simp⟩
  stop := fun H e => ⟨xs, sqL_same e s, by rw [d.length]; exact Nat.le_refl _⟩
  yld := fun i H x H' hi e ⟨y1, y2⟩ => by
    obtain ⟨p, hp, dp⟩ := d.getV (y2 xs (sqL_same e s))
    exact ⟨p, hp, .inl ⟨y1, dp⟩⟩
theorem wlk_tup {K : Fg} {F : Hp} {a : Addr} {xs : List V} {ps : List D} (s : SqT K F a xs) (d : DpAll K F xs ps) : Wlk K F (Itt K a) ps where
  go := fun i H hi e => by
    have hl := d.length
    exact ⟨xs, xs[i], sqT_same e s, by simp⟩
  stop := fun H e => ⟨xs, sqT_same e s, by rw [d.length]; exact Nat.le_refl _⟩
  yld := fun i H x H' hi e ⟨y1, y2⟩ => by
    obtain ⟨p, hp, dp⟩ := d.getV (y2 xs (sqT_same e s))
    exact ⟨p, hp, .inl ⟨y1, dp⟩⟩
def wItems (T : TW) : TL := fun ρ K => T ρ fun p => ∃ ps, items p = some ps ∧ K ps
def fItems (f : Rho → Option D) : Rho → Option (List D) := fun ρ => (f ρ).bind items
theorem iw_seq {e : Expr} {T : TW} (h : EW X e T) : IW X tg e (wItems T) :=
  ⟨fun ρ K K' i q => h.mono _ _ _ (fun p ⟨ps, e, k⟩ => ⟨ps, e, i ps k⟩) q, PI.imp (pi_seq (PE.lens h.pe)) fun σ H R ⟨B, F, ρ, R0, q⟩ => ⟨B, F, ρ, R0, h.mono _ _ _ (fun p ⟨ps, e, k⟩ F' H' v R' s' d hL => by
    unfold items at e
    split at e
    · cases e
      obtain ⟨a, xs, rfl, s, r⟩ := Dp.inv_lst d
      refine ⟨a, rfl, .inl ⟨⟨xs, sqL_same R'.sub s⟩, k F' H' _ R' s' ?_ (wlk_list s r)⟩⟩
      rw [← r.length]
      exact hL a xs (.inl (sqL_same R'.sub s))
    · cases e
      obtain ⟨a, xs, rfl, s, r⟩ := Dp.inv_tup d
      refine ⟨a, rfl, .inr ⟨⟨xs, sqT_same R'.sub s⟩, k F' H' _ R' s' ?_ (wlk_tup s r)⟩⟩
      rw [← r.length]
      exact hL a xs (.inr (sqT_same R'.sub s))
    · cases e) q⟩⟩
theorem if_seq {e : Expr} {f : Rho → Option D} (h : EF X e f) : IF X tg e (fItems f) := (iw_seq h).imp fW_mono fun ρ K ⟨ps, e, k⟩ => by
  obtain ⟨p, e1, e2⟩ := Option.bind_eq_some_iff.mp e
  exact ⟨p, e1, ps, e2, k⟩
/-- lo, lo + 1, .. -/
def rngD (lo : Int) (n : Nat) : List D := (List.range n).map fun i => PyData.int (lo + (i : Nat))
theorem rngD_length (lo : Int) (n : Nat) : (rngD lo n).length = n := by unfold rngD; rw [List.length_map, List.length_range]
def gRng1 : List D → Option (List D)
  | [.int j] => if j ≤ 16777216 ∧ -4611686018427387904 ≤ j then some (rngD 0 j.toNat) else none
  | _ => none
def gRng2 : List D → Option (List D)
  | [.int i, .int j] => if (-4611686018427387904 ≤ i ∧ i < 4611686018427387904 ∧ -4611686018427387904 ≤ j ∧ j < 4611686018427387904) ∧ j - i ≤ 16777216 then some (rngD i (j - i).toNat) else none
  | _ => none
theorem wlk_rng {K : Fg} {F : Hp} {lo : Int} {n : Nat} : Wlk K F (Itr lo n) (rngD lo n) where
  go := fun i H hi e => by rw [rngD_length] at hi; exact hi
  stop := fun H e => by rw [rngD_length]; exact Nat.le_refl _
  yld := fun i H x H' hi e ⟨y1, y2⟩ => by
    rw [rngD_length] at hi
    refine ⟨.int (lo + (i : Nat)), ?_, .inl ⟨y1, by rw [y2]; exact .int _⟩⟩
    unfold rngD
    rw [List.getElem?_map, List.getElem?_range hi]
    rfl
theorem iw_rng1 {a : Expr} {T : TL} {p pos : Pos} (hg : Gl X "range") (hm : X.mg "range" = none) (ha : XA X [a] T) (hs : starEach [a] X.env = [(false, eval a X.env)] := by rfl) : IW X tg (.Call (.Name "range" p) [a] [] pos) (wOf gRng1 T) :=
  ⟨wOf_mono ha.mono, PI.imp (pi_range1 hg hm ha.pa hs) fun σ H R ⟨B, F, ρ, R0, q⟩ => ⟨B, F, ρ, R0, ha.mono _ _ _ (fun ps ⟨zs, e, k⟩ F' H' vs R' s' d => by
    unfold gRng1 at e
    split at e
    · split at e
      · rename_i hj
        cases e
        obtain ⟨v, rfl, h⟩ := dp1 (d.dp R')
        refine ⟨_, by rw [Dp.inv_int h], by have := hj.2; omega, by have := hj.1; omega, k F' H' _ R' s' ?_ wlk_rng⟩
        rw [rngD_length, sizeLine_eq]; omega
      · cases e
    · cases e) q⟩⟩
theorem iw_rng2 {a b : Expr} {T : TL} {p pos : Pos} (hg : Gl X "range") (hm : X.mg "range" = none) (ha : XA X [a, b] T) (hs : starEach [a, b] X.env = [(false, eval a X.env), (false, eval b X.env)] := by rfl) (hs2 : starEach [b] X.env = [(false, eval b X.env)] := by rfl) : IW X tg (.Call (.Name "range" p) [a, b] [] pos) (wOf gRng2 T) :=
  ⟨wOf_mono ha.mono, PI.imp (pi_range2 hg hm ha.pa hs hs2) fun σ H R ⟨B, F, ρ, R0, q⟩ => ⟨B, F, ρ, R0, ha.mono _ _ _ (fun ps ⟨zs, e, k⟩ F' H' vs R' s' d => by
    unfold gRng2 at e
    split at e
    · split at e
      · rename_i hj
        cases e
        obtain ⟨v, u, rfl, h1, h2⟩ := dp2 (d.dp R')
        refine ⟨_, _, by rw [Dp.inv_int h1, Dp.inv_int h2], ?_, k F' H' _ R' s' ?_ wlk_rng⟩
        · obtain ⟨⟨a1, a2, a3, a4⟩, _⟩ := hj
          exact ⟨by omega, by omega, by omega, by omega⟩
        · rw [rngD_length, sizeLine_eq]; omega
      · cases e
    · cases e) q⟩⟩
theorem if_rng1 {a : Expr} {f : Rho → Option (List D)} {p pos : Pos} (hg : Gl X "range") (hm : X.mg "range" = none) (ha : XAF X [a] f) (hs : starEach [a] X.env = [(false, eval a X.env)] := by rfl) : IF X tg (.Call (.Name "range" p) [a] [] pos) (aOf gRng1 f) :=
  (iw_rng1 hg hm ha hs).imp fW_mono aOf_w
theorem if_rng2 {a b : Expr} {f : Rho → Option (List D)} {p pos : Pos} (hg : Gl X "range") (hm : X.mg "range" = none) (ha : XAF X [a, b] f) (hs : starEach [a, b] X.env = [(false, eval a X.env), (false, eval b X.env)] := by rfl) (hs2 : starEach [b] X.env = [(false, eval b X.env)] := by rfl) : IF X tg (.Call (.Name "range" p) [a, b] [] pos) (aOf gRng2 f) :=
  (iw_rng2 hg hm ha hs hs2).imp fW_mono aOf_w
end
end L2.P


set_option Elab.async false
set_option linter.all false
set_option maxRecDepth 100000
set_option maxHeartbeats 4000000
namespace L2.P
open PySem PySem.Spec PyProof.Rows L2
def minusH (H : Hp) (a : Addr) : Hp := fun b => if b = a then none else H b
theorem minusH_same (H : Hp) (a : Addr) : minusH H a a = none := by unfold minusH; rw [if_pos rfl]
theorem minusH_ne {H : Hp} {a b : Addr} (h : b ≠ a) : minusH H a b = H b := by unfold minusH; rw [if_neg h]
theorem upd_minus {H : Hp} {a : Addr} {o : HO} (h : H a = some o) : upd (minusH H a) a o = H := by
  funext b
  by_cases e : b = a
  · subst e; rw [upd_same, h]
  · rw [upd_ne e, minusH_ne e]
section
variable {K : Fg} {B : Bs} {F F' H H' : Hp} {σ σ' : St} {ρ ρ' : Rho} {a : Addr} {o : HO}
/-- what is pinned is taken away -/
theorem Rs.minus (R : Rs K (B.pin a o) F H σ ρ) (hr : B.r ≠ some a) (hF : B.Fa a = none) (hH : B.Ha a = none) (nt : ∀ xs, o ≠ HO.tup xs := by intro _ h; cases h) (nb : ¬ isTE o := by exact not_te rfl) : Rs K B F (minusH H a) σ ρ := by
  obtain ⟨p1, p2⟩ := R.pinned hr hF nt nb
  have U := R.unpin hr hF hH nb
  have far : ∀ c, (B.pin a o).Ha c = none ∨ B.r = some c → c ≠ a := fun c h e => by
    subst e
    rcases h with h | h
    · have z : (upd B.Ha c o) c = none := h
      rw [upd_same] at z; cases z
    · exact hr h
  refine ⟨fun b x e => ?_, U.ext, U.new, fun b x hb e => ?_, fun r h => ?_, U.hr2, U.len, fun i s hs => ?_, U.apart, ⟨U.tb.1, tabs_ext U.tb.2.1 fun b x e t => ?_, U.tb.2.2⟩, U.tbh⟩
  rotate_right
  · have ne : b ≠ a := fun z => by
      rw [z, p1] at e
      exact nb (by rw [Option.some.inj e]; exact t)
    rw [minusH_ne ne]; exact e
  · have ne : b ≠ a := fun q => by subst q; rw [p2] at e; cases e
    rw [minusH_ne ne]; exact U.sub b x e
  · have ne : b ≠ a := fun q => by subst q; rw [hH] at e; cases e
    rw [minusH_ne ne]; exact U.old b x hb e
  · obtain ⟨h1, h2⟩ := U.hrow r h
    have ne : r ≠ a := fun e => by subst e; exact hr h
    exact ⟨h1, h2.mono (Same.refl _) fun x e => by rw [minusH_ne ne]; exact e⟩
  · have q := R.at_ i s hs
    have q2 := U.at_ i s hs
    generalize σ[i]? = x at q q2
    cases q with
    | no => exact .no
    | v r => exact .v r
    | @ol c xs ps f h0 h1 r =>
      have ne := far c (.inl h0)
      cases q2 with
      | ol f' g0 g1 r' => exact .ol f g0 (by rw [minusH_ne ne]; exact h1) r
    | @row c _ f h0 h1 =>
      have ne := far c (h0.imp id And.left)
      cases q2 with
      | row f' g0 g1 => exact .row f g0 (h1.mono (Same.refl _) fun x e => by rw [minusH_ne ne]; exact e)
    | @od t c kvs f h0 h1 =>
      have ne := far c (.inl h0)
      cases q2 with
      | od f' g0 g1 => exact .od f g0 (h1.mono (Same.refl _) fun x e => by rw [minusH_ne ne]; exact e)
end

/-- over the items: the list that has come so far, what is wanted of the whole -/
def lcW (is : List Nat) (g : Tg) (T : TB) (E : TW) (ρ : Rho) : List D → List D → (List D → Prop) → Prop
  | [], acc, K => K acc
  | p :: ps, acc, K => ∃ ρ', g p (wipeR ρ is) = some ρ' ∧ T ρ' (fun b => if b = true then E ρ' (fun y => acc.length < sizeLine ∧ lcW is g T E ρ ps (acc ++ [y]) K) else lcW is g T E ρ ps acc K)
/-- .. where it can't get too long -/
def lcV (is : List Nat) (g : Tg) (T : TB) (E : TW) (ρ : Rho) : List D → List D → (List D → Prop) → Prop
  | [], acc, K => K acc
  | p :: ps, acc, K => ∃ ρ', g p (wipeR ρ is) = some ρ' ∧ T ρ' (fun b => if b = true then E ρ' (fun y => lcV is g T E ρ ps (acc ++ [y]) K) else lcV is g T E ρ ps acc K)
section
variable {is : List Nat} {g : Tg} {T : TB} {E : TW} {ρ : Rho}
theorem lcV_mono (mt : ∀ ρ K K', (∀ p, K p → K' p) → T ρ K → T ρ K') (me : ∀ ρ K K', (∀ p, K p → K' p) → E ρ K → E ρ K') : ∀ (ps acc : List D) (K K' : List D → Prop), (∀ p, K p → K' p) → lcV is g T E ρ ps acc K → lcV is g T E ρ ps acc K'
  | [], _, _, _, h, q => h _ q
  | p :: ps, acc, K, K', h, ⟨ρ', e, q⟩ => ⟨ρ', e, mt _ _ _ (fun b k => by
      cases b with
      | true => exact me _ _ _ (fun y k2 => lcV_mono mt me ps _ K K' h k2) k
      | false => exact lcV_mono mt me ps _ K K' h k) q⟩
theorem lcW_mono (mt : ∀ ρ K K', (∀ p, K p → K' p) → T ρ K → T ρ K') (me : ∀ ρ K K', (∀ p, K p → K' p) → E ρ K → E ρ K') : ∀ (ps acc : List D) (K K' : List D → Prop), (∀ p, K p → K' p) → lcW is g T E ρ ps acc K → lcW is g T E ρ ps acc K'
  | [], _, _, _, h, q => h _ q
  | p :: ps, acc, K, K', h, ⟨ρ', e, q⟩ => ⟨ρ', e, mt _ _ _ (fun b k => by
      cases b with
      | true => exact me _ _ _ (fun y k2 => ⟨k2.1, lcW_mono mt me ps _ K K' h k2.2⟩) k
      | false => exact lcW_mono mt me ps _ K K' h k) q⟩
theorem lcV_W (mt : ∀ ρ K K', (∀ p, K p → K' p) → T ρ K → T ρ K') (me : ∀ ρ K K', (∀ p, K p → K' p) → E ρ K → E ρ K') : ∀ (ps acc : List D) (K : List D → Prop), acc.length + ps.length ≤ sizeLine → lcV is g T E ρ ps acc K → lcW is g T E ρ ps acc K
  | [], _, _, _, q => q
  | p :: ps, acc, K, h, ⟨ρ', e, q⟩ => ⟨ρ', e, mt _ _ _ (fun b k => by
      rw [List.length_cons] at h
      cases b with
      | true => exact me _ _ _ (fun y k2 => ⟨by omega, lcV_W mt me ps _ K (by rw [List.length_append, List.length_singleton]; omega) k2⟩) k
      | false => exact lcV_W mt me ps _ K (by omega) k) q⟩
end

section
variable {X : Cx}
/-- the tests of a clause -/
structure TsW (X : Cx) (ifs : List Expr) (T : TB) : Prop where
  mono : ∀ ρ K K', (∀ p, K p → K' p) → T ρ K → T ρ K'
  pts : PTs X ifs (tT X.K T)
theorem PTs.imp {ifs : List Expr} {t t' : TT} (h : PTs X ifs t) (k : ∀ σ H Q, t' σ H Q → t σ H Q) : PTs X ifs t' := ⟨fun pins s σ H Q I hw => h.run pins s σ H Q I (k _ _ _ hw)⟩
def fYes : Rho → Option Bool := fun _ => some true
theorem ts_nil : TsW X [] (fW fYes) := ⟨fW_mono, PTs.imp pts_nil fun σ H Q ⟨B, F, ρ, R, p, e, q⟩ => by cases e; exact q F H R (Same.refl _)⟩
theorem ts_one {c : Expr} {T : TB} (h : TWT X c T) : TsW X [c] T := ⟨h.mono, pts_one h.pt⟩

/-- what the turns of one clause keep -/
def LcInv (K : Fg) (B : Bs) (F1 : Hp) (D : Addr) (σ : St) (ρ : Rho) (P : List PyData → Prop) (H : Hp) : Prop :=
  ∃ F acc ad, Rs K (B.pin D (.lst acc)) F H σ ρ ∧ Same F1 F ∧ DpAll K F acc ad ∧ P ad
/-- one clause's walk, from what it keeps to what is wanted -/
theorem lc_walk {K : Fg} {is : List Nat} {g : Tg} {T : TB} {E : TW} {B : Bs} {F1 : Hp} {D : Addr} {σ : St} {ρ : Rho} {ps : List PyData} {Kc : List PyData → Prop} {J : It} {Qd : Hp → Prop} {H1 : Hp} {ad : List PyData}
    (mt : ∀ ρ K K', (∀ p, K p → K' p) → T ρ K → T ρ K') (me : ∀ ρ K K', (∀ p, K p → K' p) → E ρ K → E ρ K') (hr : B.r ≠ some D) (hF : B.Fa D = none) (no : noOwn ρ is = true) (wk : Wlk K F1 J ps)
    (h : LcInv K B F1 D σ ρ (fun ad => lcW is g T E ρ ps ad Kc) H1) (hd : ∀ H, LcInv K B F1 D σ ρ Kc H → Qd H) :
    ∃ W : Nat → Nat → Hp → Prop, (∃ m, W 0 m H1) ∧ ∀ i m H, W i m H →
      (J.stop i H ∧ Qd H) ∨ (J.go i H ∧ ∃ Nx : Hp → Prop, (∀ H', Nx H' → ∃ m', m' < m ∧ W (i + 1) m' H') ∧ ∀ x H', J.yld i H x H' → tG K g is x (L2.wipe σ is) H' fun σ2 H2 => L2.wipe σ2 is = L2.wipe σ is ∧ tT K T σ2 H2 fun b H3 =>
        if b = true then tW K E σ2 H3 fun y H4 => ∃ acc, H4 D = some (.lst acc) ∧ acc.length < sizeLine ∧ Nx (upd H4 D (.lst (acc ++ [y]))) else Nx H3) := by
  refine ⟨fun i m H => m = ps.length - i ∧ i ≤ ps.length ∧ LcInv K B F1 D σ ρ (fun ad => lcW is g T E ρ (ps.drop i) ad Kc) H, ⟨ps.length, by simp, Nat.zero_le _, h⟩, ?_⟩
  rintro i m H ⟨rfl, hi, F, acc, ad, R, s, d, q⟩
  have sH : Same F1 H := s.trans R.sub
  by_cases hlt : i < ps.length
  · refine .inr ⟨wk.go i H hlt sH, fun H' => LcInv K B F1 D σ ρ (fun ad => lcW is g T E ρ (ps.drop (i + 1)) ad Kc) H', fun H' n => ⟨ps.length - (i + 1), by omega, rfl, hlt, n⟩, fun x H' hy => ?_⟩
    obtain ⟨p, hp, y⟩ := wk.yld i H x H' hlt sH hy
    have e0 : ps.drop i = p :: ps.drop (i + 1) := by
      rw [List.drop_eq_getElem_cons hlt]
      obtain ⟨_, e⟩ := List.getElem?_eq_some_iff.mp hp
      rw [e]
    rw [e0] at q
    obtain ⟨ρ', eg, q⟩ := q
    obtain ⟨F2, R2, s2, d2⟩ := yl_step (R.wipe is) s y
    refine ⟨_, F2, _, p, ρ', R2, d2, eg, fun σ' R3 hl hσ hρ => ⟨?_, ?_⟩⟩
    · have := wipe_eq (is := is) hl hσ
      rw [this]
      exact wipe_eq (wipe_length _ _) fun j hj => wipe_out hj
    · have hσ' : ∀ j, j ∉ is → σ'[j]? = σ[j]? := fun j hj => (hσ j hj).trans (wipe_out hj)
      have hρ' : ∀ j, j ∉ is → ρ'[j]? = ρ[j]? := fun j hj => (hρ j hj).trans (wipeR_out hj)
      refine ⟨_, F2, ρ', R3, mt _ _ _ (fun b k F3 H3 R4 s4 => ?_) q⟩
      cases b with
      | false => exact ⟨F3, acc, ad, R.back R4 (s2.trans s4) no hσ' hρ', (s.trans s2).trans s4, (d.same s2).same s4, k⟩
      | true =>
        refine ⟨_, F3, ρ', R4, me _ _ _ (fun z k2 F4 H4 v R5 s5 d5 => ?_) k⟩
        have s25 : Same F F4 := (s2.trans s4).trans s5
        have hacc : acc.length = ad.length := d.length
        refine ⟨acc, (R5.pinned hr hF).1, by rw [hacc]; exact k2.1, F4, acc ++ [v], ad ++ [z], (R.back R5 s25 no hσ' hρ').repin hr hF _, s.trans s25, (d.same s25).append (.cons d5 .nil), k2.2⟩
  · have e : i = ps.length := by omega
    subst e
    refine .inl ⟨wk.stop H sH, hd H ⟨F, acc, ad, R, s, d, ?_⟩⟩
    rw [List.drop_length] at q
    exact q

variable {elt tg iter tg1 iter1 : Expr} {ifs ifs1 : List Expr} {scope : Scope} {own : List (Str × Nat)} {vs1 : List Nat} {pos : Pos} {U U1 : TL} {g g1 : Tg} {T T1 : TB} {E : TW}
def wLc (is : List Nat) (g : Tg) (T : TB) (E : TW) (U : TL) : TL := fun ρ K => noOwn ρ is = true ∧ U ρ fun ps => lcV is g T E ρ ps [] K
theorem wLc_mono {is : List Nat} (mu : ∀ ρ K K', (∀ p, K p → K' p) → U ρ K → U ρ K') (mt : ∀ ρ K K', (∀ p, K p → K' p) → T ρ K → T ρ K') (me : ∀ ρ K K', (∀ p, K p → K' p) → E ρ K → E ρ K') :
    ∀ ρ K K', (∀ p, K p → K' p) → wLc is g T E U ρ K → wLc is g T E U ρ K' := fun ρ K K' h ⟨n, q⟩ => ⟨n, mu _ _ _ (fun ps k => lcV_mono mt me ps _ K K' h k) q⟩
theorem lc_conv {K : Fg} {is : List Nat} (mu : ∀ ρ K K', (∀ p, K p → K' p) → U ρ K → U ρ K') (mt : ∀ ρ K K', (∀ p, K p → K' p) → T ρ K → T ρ K') (me : ∀ ρ K K', (∀ p, K p → K' p) → E ρ K → E ρ K')
    {σ : St} {H : Hp} {Q : VK} (h : tN K (wLc is g T E U) σ H Q) : tLc (tI K U) (tG K g is) (tT K T) (tW K E) is σ H Q := by
  obtain ⟨B, F, ρ, R, no, q⟩ := h
  refine ⟨B, F, ρ, R, mu _ _ _ (fun ps k F1 H1 J R1 s1 hz wk D hD => ?_) q⟩
  obtain ⟨p1, p2, p3⟩ := R1.fresh hD
  have hF : B.Fa D = none := R1.ext.free p2
  refine lc_walk (Kc := fun ps => ∀ F' H' a xs, Rs K B F' H' σ ρ → Same F F' → H' a = none → DpAll K F' xs ps → Q (.ref a) (upd H' a (.lst xs))) (ad := []) mt me p3 hF no wk
    ⟨F1, [], [], R1.pin hD _, Same.refl _, .nil, lcV_W mt me ps [] _ (by simpa using hz) k⟩ fun H2 ⟨F2, acc, ad, R2, s2, d2, k2⟩ => ?_
  have e := upd_minus (R2.pinned p3 hF).1
  rw [← e]
  exact k2 F2 _ D acc (R2.minus p3 hF p1) (s1.trans s2) (minusH_same _ _) d2
theorem nw_lc (hc : X.calm = true) (hN : X.N.Nodup) (hi : IW X tg iter U) (ok : BlkOk X.N X.env.scope scope own)
    (hg : ∀ (s : Shared) (H : Hp) (C : Addr) (cl : List (Str × Addr)) (fp : List Addr), GW (X.blk s H scope (compEnvC scope cl C X.env) fp) tg g (own.map (·.2)))
    (ht : ∀ (s : Shared) (H : Hp) (C : Addr) (cl : List (Str × Addr)) (fp : List Addr), TsW (X.blk s H scope (compEnvC scope cl C X.env) fp) ifs T)
    (he : ∀ (s : Shared) (H : Hp) (C : Addr) (cl : List (Str × Addr)) (fp : List Addr), EW (X.blk s H scope (compEnvC scope cl C X.env) fp) elt E)
    (s0 : Shared) (hs : ∀ x, foldedSetIterable iter X.env x = pure x := by intro _; rfl) : NW X (.ListComp elt [⟨tg, iter, ifs, 0⟩] scope pos) (wLc (own.map (·.2)) g T E U) := by
  have mt := (ht s0 (fun _ => none) 0 [] []).mono
  have me := (he s0 (fun _ => none) 0 [] []).mono
  exact ⟨wLc_mono hi.mono mt me, (pe_lc (g := tG X.K g (List.map (fun (z : Str × Nat) => z.2) own)) (tt := tT X.K T) (te := tW X.K E) hc hN hi.pi ok hg (fun s H C cl fp => (ht s H C cl fp).pts) (fun s H C cl fp => (he s H C cl fp).pe) hs).imp fun σ H Q h => lc_conv hi.mono mt me h⟩
/-- name = a new list -/
structure NS (X : Cx) (st : Stmt) (i : Nat) (T : TL) : Prop where
  mono : ∀ ρ K K', (∀ p, K p → K' p) → T ρ K → T ρ K'
  ps : PS X st (tAsg (tN X.K T) (gName i))
theorem tAsg_imp {t t' : TE} {g : TG} (k : ∀ σ H Q, t' σ H Q → t σ H Q) (D : Ends) (σ : St) (H : Hp) (h : tAsg t' g D σ H) : tAsg t g D σ H := k _ _ _ h
theorem ns_lc {i : Nat} {y : Str} {py spos : Pos} (hc : X.calm = true) (hN : X.N.Nodup) (hy : X.N[i]? = some y) (hyl : X.env.scope.names.lookup y = some .local)
    (hi : IW X tg iter U) (ok : BlkOk X.N X.env.scope scope own)
    (hg : ∀ (s : Shared) (H : Hp) (C : Addr) (cl : List (Str × Addr)) (fp : List Addr), GW (X.blk s H scope (compEnvC scope cl C X.env) fp) tg g (own.map (·.2)))
    (ht : ∀ (s : Shared) (H : Hp) (C : Addr) (cl : List (Str × Addr)) (fp : List Addr), TsW (X.blk s H scope (compEnvC scope cl C X.env) fp) ifs T)
    (he : ∀ (s : Shared) (H : Hp) (C : Addr) (cl : List (Str × Addr)) (fp : List Addr), EW (X.blk s H scope (compEnvC scope cl C X.env) fp) elt E)
    (s0 : Shared) (hsw : swapsWith (.ListComp elt [⟨tg, iter, ifs, 0⟩] scope pos) (some (.Name y py)) spos.line X.env = pure true) (hs : ∀ x, foldedSetIterable iter X.env x = pure x := by intro _; rfl) :
    NS X (.Assign [.Name y py] (.ListComp elt [⟨tg, iter, ifs, 0⟩] scope pos) spos) i (wLc (own.map (·.2)) g T E U) := by
  have mt := (ht s0 (fun _ => none) 0 [] []).mono
  have me := (he s0 (fun _ => none) 0 [] []).mono
  refine ⟨wLc_mono hi.mono mt me, ?_⟩
  have z := ps_setLc (py := py) (pos := pos) (spos := spos) (i := i) (g := tG X.K g (List.map (fun (z : Str × Nat) => z.2) own)) (tt := tT X.K T) (te := tW X.K E) hc hN hy hyl hsw hi.pi ok hg (fun s H C cl fp => (ht s H C cl fp).pts) (fun s H C cl fp => (he s H C cl fp).pe) hs
  exact z.imp fun D σ H h => tAsg_imp (fun σ H Q q => lc_conv hi.mono mt me q) D σ H h

/-- two clauses -/
def lcW2 (is is1 : List Nat) (g g1 : Tg) (T T1 : TB) (E : TW) (U1 : TL) (ρ : Rho) : List D → List D → (List D → Prop) → Prop
  | [], acc, K => K acc
  | p :: ps, acc, K => ∃ ρ', g p (wipeR ρ is) = some ρ' ∧ T ρ' (fun b => if b = true then noOwn ρ' is1 = true ∧ U1 ρ' (fun qs => lcW is1 g1 T1 E ρ' qs acc fun acc' => lcW2 is is1 g g1 T T1 E U1 ρ ps acc' K) else lcW2 is is1 g g1 T T1 E U1 ρ ps acc K)
theorem lcW2_mono {is is1 : List Nat} {ρ : Rho} (mu : ∀ ρ K K', (∀ p, K p → K' p) → U1 ρ K → U1 ρ K') (mt : ∀ ρ K K', (∀ p, K p → K' p) → T ρ K → T ρ K') (mt1 : ∀ ρ K K', (∀ p, K p → K' p) → T1 ρ K → T1 ρ K') (me : ∀ ρ K K', (∀ p, K p → K' p) → E ρ K → E ρ K') :
    ∀ (ps acc : List D) (K K' : List D → Prop), (∀ p, K p → K' p) → lcW2 is is1 g g1 T T1 E U1 ρ ps acc K → lcW2 is is1 g g1 T T1 E U1 ρ ps acc K'
  | [], _, _, _, h, q => h _ q
  | p :: ps, acc, K, K', h, ⟨ρ', e, q⟩ => ⟨ρ', e, mt _ _ _ (fun b k => by
      cases b with
      | true => exact ⟨k.1, mu _ _ _ (fun qs k2 => lcW_mono mt1 me qs _ _ _ (fun acc' k3 => lcW2_mono mu mt mt1 me ps _ K K' h k3) k2) k.2⟩
      | false => exact lcW2_mono mu mt mt1 me ps _ K K' h k) q⟩
def wLc2 (is is1 : List Nat) (g g1 : Tg) (T T1 : TB) (E : TW) (U U1 : TL) : TL := fun ρ K => noOwn ρ is = true ∧ U ρ fun ps => lcW2 is is1 g g1 T T1 E U1 ρ ps [] K
theorem lc2_conv {K : Fg} {is : List Nat} (mu : ∀ ρ K K', (∀ p, K p → K' p) → U ρ K → U ρ K') (mu1 : ∀ ρ K K', (∀ p, K p → K' p) → U1 ρ K → U1 ρ K') (mt : ∀ ρ K K', (∀ p, K p → K' p) → T ρ K → T ρ K') (mt1 : ∀ ρ K K', (∀ p, K p → K' p) → T1 ρ K → T1 ρ K') (me : ∀ ρ K K', (∀ p, K p → K' p) → E ρ K → E ρ K')
    {σ : St} {H : Hp} {Q : VK} (h : tN K (wLc2 is vs1 g g1 T T1 E U U1) σ H Q) : tLc2 (tI K U) (tG K g is) (tT K T) (tI K U1) (tG K g1 vs1) (tT K T1) (tW K E) is vs1 σ H Q := by
  obtain ⟨B, F, ρ, R, no, q⟩ := h
  refine ⟨B, F, ρ, R, mu _ _ _ (fun ps k F1 H1 J R1 s1 hz wk D hD => ?_) q⟩
  obtain ⟨p1, p2, p3⟩ := R1.fresh hD
  have hF : B.Fa D = none := R1.ext.free p2
  generalize hKc : (fun ps => ∀ F' H' a xs, Rs K B F' H' σ ρ → Same F F' → H' a = none → DpAll K F' xs ps → Q (.ref a) (upd H' a (.lst xs))) = Kc at k
  refine ⟨fun i m H => m = ps.length - i ∧ i ≤ ps.length ∧ LcInv K B F1 D σ ρ (fun ad => lcW2 is vs1 g g1 T T1 E U1 ρ (ps.drop i) ad Kc) H, ⟨ps.length, by simp, Nat.zero_le _, F1, [], [], R1.pin hD _, Same.refl _, .nil, k⟩, ?_⟩
  rintro i m H ⟨rfl, hi, F, acc, ad, R, s, d, q⟩
  have sH : Same F1 H := s.trans R.sub
  by_cases hlt : i < ps.length
  · refine .inr ⟨wk.go i H hlt sH, fun H' => LcInv K B F1 D σ ρ (fun ad => lcW2 is vs1 g g1 T T1 E U1 ρ (ps.drop (i + 1)) ad Kc) H', fun H' n => ⟨ps.length - (i + 1), by omega, rfl, hlt, n⟩, fun x H' hy => ?_⟩
    obtain ⟨p, hp, y⟩ := wk.yld i H x H' hlt sH hy
    have e0 : ps.drop i = p :: ps.drop (i + 1) := by
      rw [List.drop_eq_getElem_cons hlt]
      obtain ⟨_, e⟩ := List.getElem?_eq_some_iff.mp hp
      rw [e]
    rw [e0] at q
    obtain ⟨ρ', eg, q⟩ := q
    obtain ⟨F2, R2, s2, d2⟩ := yl_step (R.wipe is) s y
    refine ⟨_, F2, _, p, ρ', R2, d2, eg, fun σ' R3 hl hσ hρ => ⟨?_, ?_⟩⟩
    · have := wipe_eq (is := is) hl hσ
      rw [this]
      exact wipe_eq (wipe_length _ _) fun j hj => wipe_out hj
    · have hσ' : ∀ j, j ∉ is → σ'[j]? = σ[j]? := fun j hj => (hσ j hj).trans (wipe_out hj)
      have hρ' : ∀ j, j ∉ is → ρ'[j]? = ρ[j]? := fun j hj => (hρ j hj).trans (wipeR_out hj)
      refine ⟨_, F2, ρ', R3, mt _ _ _ (fun b k F3 H3 R4 s4 => ?_) q⟩
      cases b with
      | false => exact ⟨F3, acc, ad, R.back R4 (s2.trans s4) no hσ' hρ', (s.trans s2).trans s4, (d.same s2).same s4, k⟩
      | true =>
        obtain ⟨no1, k⟩ := k
        refine ⟨_, F3, ρ', R4, mu1 _ _ _ (fun qs k2 F4 H4 J1 R5 s5 hz1 wk1 => ?_) k⟩
        have s25 : Same F F4 := (s2.trans s4).trans s5
        have hpin := R5
        refine lc_walk (Kc := fun ad' => lcW2 is vs1 g g1 T T1 E U1 ρ (ps.drop (i + 1)) ad' Kc) (ad := ad) mt1 me p3 hF no1 wk1 (σ := σ') (ρ := ρ') (F1 := F4)
          ⟨F4, acc, ad, R5, Same.refl _, d.same s25, k2⟩ fun H6 ⟨F6, acc6, ad6, R6, s6, d6, k6⟩ => ?_
        have R' : Rs K (B.pin D (.lst acc6)) F H6 σ ρ → True := fun _ => trivial
        refine ⟨F6, acc6, ad6, ?_, (s.trans s25).trans s6, d6, k6⟩
        have U0 := R.unpin p3 hF p1
        have U6 := R6.unpin p3 hF p1
        have back := U0.back U6 (s25.trans s6) no hσ' hρ'
        -- the pin is put on again
        have q6 := R6.pinned p3 hF
        have z := (Rs.minus (R6) p3 hF p1)
        have bz := (U0.back (σ2 := σ') (ρ2 := ρ') (H' := minusH H6 D) (F' := F6) z (s25.trans s6) no hσ' hρ').pin (minusH_same H6 D) (.lst acc6)
        rw [upd_minus q6.1] at bz
        exact bz
  · have e : i = ps.length := by omega
    subst e
    rw [List.drop_length] at q
    refine .inl ⟨wk.stop H sH, ?_⟩
    subst hKc
    have e := upd_minus (R.pinned p3 hF).1
    rw [← e]
    exact q F _ D acc (R.minus p3 hF p1) (s1.trans s) (minusH_same _ _) d
theorem nw_lc2 (hc : X.calm = true) (hN : X.N.Nodup) (hi : IW X tg iter U) (ok : BlkOk X.N X.env.scope scope own) (hv : ∀ i ∈ vs1, i ∈ own.map (·.2))
    (hg : ∀ (s : Shared) (H : Hp) (C : Addr) (cl : List (Str × Addr)) (fp : List Addr), GW (X.blk s H scope (compEnvC scope cl C X.env) fp) tg g (own.map (·.2)))
    (ht : ∀ (s : Shared) (H : Hp) (C : Addr) (cl : List (Str × Addr)) (fp : List Addr), TsW (X.blk s H scope (compEnvC scope cl C X.env) fp) ifs T)
    (hi1 : ∀ (s : Shared) (H : Hp) (C : Addr) (cl : List (Str × Addr)) (fp : List Addr), IW (X.blk s H scope (compEnvC scope cl C X.env) fp) tg1 iter1 U1)
    (hg1 : ∀ (s : Shared) (H : Hp) (C : Addr) (cl : List (Str × Addr)) (fp : List Addr), GW (X.blk s H scope (compEnvC scope cl C X.env) fp) tg1 g1 vs1)
    (ht1 : ∀ (s : Shared) (H : Hp) (C : Addr) (cl : List (Str × Addr)) (fp : List Addr), TsW (X.blk s H scope (compEnvC scope cl C X.env) fp) ifs1 T1)
    (he : ∀ (s : Shared) (H : Hp) (C : Addr) (cl : List (Str × Addr)) (fp : List Addr), EW (X.blk s H scope (compEnvC scope cl C X.env) fp) elt E)
    (s0 : Shared) (hs : ∀ x, foldedSetIterable iter X.env x = pure x := by intro _; rfl) (hs1 : ∀ env x, foldedSetIterable iter1 env x = pure x := by intro _ _; rfl) :
    NW X (.ListComp elt [⟨tg, iter, ifs, 0⟩, ⟨tg1, iter1, ifs1, 0⟩] scope pos) (wLc2 (own.map (·.2)) vs1 g g1 T T1 E U U1) := by
  have mt := (ht s0 (fun _ => none) 0 [] []).mono
  have mt1 := (ht1 s0 (fun _ => none) 0 [] []).mono
  have mu1 := (hi1 s0 (fun _ => none) 0 [] []).mono
  have me := (he s0 (fun _ => none) 0 [] []).mono
  exact ⟨fun ρ K K' h ⟨n, q⟩ => ⟨n, hi.mono _ _ _ (fun ps k => lcW2_mono mu1 mt mt1 me ps _ K K' h k) q⟩,
    (pe_lc2 (g := tG X.K g (List.map (fun (z : Str × Nat) => z.2) own)) (tt := tT X.K T) (te := tW X.K E) (wi1 := tI X.K U1) (g1 := tG X.K g1 vs1) (tt1 := tT X.K T1) hc hN hi.pi ok hv hg (fun s H C cl fp => (ht s H C cl fp).pts) (fun s H C cl fp => (hi1 s H C cl fp).pi) hg1 (fun s H C cl fp => (ht1 s H C cl fp).pts) (fun s H C cl fp => (he s H C cl fp).pe) hs hs1).imp
      fun σ H Q h => lc2_conv hi.mono mu1 mt mt1 me h⟩
end

def lcF (is : List Nat) (g : Tg) (t : Rho → Option Bool) (f : Rho → Option D) (ρ : Rho) : List D → Option (List D)
  | [] => some []
  | p :: ps => (g p (wipeR ρ is)).bind fun ρ' => (t ρ').bind fun b => if b = true then (f ρ').bind fun y => (lcF is g t f ρ ps).map fun ys => y :: ys else lcF is g t f ρ ps
theorem lcF_V {is : List Nat} {g : Tg} {t : Rho → Option Bool} {f : Rho → Option D} {ρ : Rho} : ∀ (ps acc out : List D) (K : List D → Prop), lcF is g t f ρ ps = some out → K (acc ++ out) → lcV is g (fW t) (fW f) ρ ps acc K
  | [], acc, out, K, e, k => by
    cases e
    rw [List.append_nil] at k
    exact k
  | p :: ps, acc, out, K, e, k => by
    unfold lcF at e
    obtain ⟨ρ', e1, e⟩ := Option.bind_eq_some_iff.mp e
    obtain ⟨b, e2, e⟩ := Option.bind_eq_some_iff.mp e
    refine ⟨ρ', e1, b, e2, ?_⟩
    cases b with
    | true =>
      obtain ⟨y, e3, e⟩ := Option.bind_eq_some_iff.mp e
      obtain ⟨ys, e4, rfl⟩ := Option.map_eq_some_iff.mp e
      exact ⟨y, e3, lcF_V ps _ ys K e4 (by rw [List.append_assoc]; exact k)⟩
    | false => exact lcF_V ps _ out K e k
def cLc (is : List Nat) (g : Tg) (t : Rho → Option Bool) (f : Rho → Option D) (u : Rho → Option (List D)) : Rho → Option (List D) := fun ρ => if noOwn ρ is = true then (u ρ).bind fun ps => lcF is g t f ρ ps else none
theorem cLc_w {is : List Nat} {g : Tg} {t : Rho → Option Bool} {f : Rho → Option D} {u : Rho → Option (List D)} (ρ : Rho) (K : List D → Prop) (h : fW (cLc is g t f u) ρ K) : wLc is g (fW t) (fW f) (fW u) ρ K := by
  obtain ⟨out, e, k⟩ := h
  unfold cLc at e
  split at e
  · rename_i no
    obtain ⟨ps, e1, e2⟩ := Option.bind_eq_some_iff.mp e
    exact ⟨no, ps, e1, lcF_V ps [] out K e2 k⟩
  · cases e
theorem NW.lc {X : Cx} {e : Expr} {is : List Nat} {g : Tg} {t : Rho → Option Bool} {f : Rho → Option D} {u : Rho → Option (List D)} (h : NW X e (wLc is g (fW t) (fW f) (fW u))) : NF X e (cLc is g t f u) := h.imp fW_mono cLc_w

def lcF2 (is is1 : List Nat) (g g1 : Tg) (t t1 : Rho → Option Bool) (f : Rho → Option D) (u1 : Rho → Option (List D)) (ρ : Rho) : List D → Option (List D)
  | [] => some []
  | p :: ps => (g p (wipeR ρ is)).bind fun ρ' => (t ρ').bind fun b => if b = true then (cLc is1 g1 t1 f u1 ρ').bind fun ys => (lcF2 is is1 g g1 t t1 f u1 ρ ps).map fun zs => ys ++ zs else lcF2 is is1 g g1 t t1 f u1 ρ ps
theorem lcF_W {is : List Nat} {g : Tg} {t : Rho → Option Bool} {f : Rho → Option D} {ρ : Rho} : ∀ (ps acc out : List D) (K : List D → Prop), lcF is g t f ρ ps = some out → acc.length + out.length ≤ sizeLine → K (acc ++ out) → lcW is g (fW t) (fW f) ρ ps acc K
  | [], acc, out, K, e, _, k => by
    cases e
    rw [List.append_nil] at k
    exact k
  | p :: ps, acc, out, K, e, hz, k => by
    unfold lcF at e
    obtain ⟨ρ', e1, e⟩ := Option.bind_eq_some_iff.mp e
    obtain ⟨b, e2, e⟩ := Option.bind_eq_some_iff.mp e
    refine ⟨ρ', e1, b, e2, ?_⟩
    cases b with
    | true =>
      obtain ⟨y, e3, e⟩ := Option.bind_eq_some_iff.mp e
      obtain ⟨ys, e4, rfl⟩ := Option.map_eq_some_iff.mp e
      rw [List.length_cons] at hz
      exact ⟨y, e3, by omega, lcF_W ps _ ys K e4 (by rw [List.length_append, List.length_singleton]; omega) (by rw [List.append_assoc]; exact k)⟩
    | false => exact lcF_W ps _ out K e hz k
theorem lcF2_W {is is1 : List Nat} {g g1 : Tg} {t t1 : Rho → Option Bool} {f : Rho → Option D} {u1 : Rho → Option (List D)} {ρ : Rho} : ∀ (ps acc out : List D) (K : List D → Prop), lcF2 is is1 g g1 t t1 f u1 ρ ps = some out → acc.length + out.length ≤ sizeLine → K (acc ++ out) →
    lcW2 is is1 g g1 (fW t) (fW t1) (fW f) (fW u1) ρ ps acc K
  | [], acc, out, K, e, _, k => by
    cases e
    rw [List.append_nil] at k
    exact k
  | p :: ps, acc, out, K, e, hz, k => by
    unfold lcF2 at e
    obtain ⟨ρ', e1, e⟩ := Option.bind_eq_some_iff.mp e
    obtain ⟨b, e2, e⟩ := Option.bind_eq_some_iff.mp e
    refine ⟨ρ', e1, b, e2, ?_⟩
    cases b with
    | true =>
      obtain ⟨ys, e3, e⟩ := Option.bind_eq_some_iff.mp e
      obtain ⟨zs, e4, rfl⟩ := Option.map_eq_some_iff.mp e
      rw [List.length_append] at hz
      unfold cLc at e3
      split at e3
      · rename_i no
        obtain ⟨qs, e5, e6⟩ := Option.bind_eq_some_iff.mp e3
        refine ⟨no, qs, e5, lcF_W qs _ ys _ e6 (by omega) (lcF2_W ps _ zs K e4 (by rw [List.length_append]; omega) (by rw [List.append_assoc]; exact k))⟩
      · cases e3
    | false => exact lcF2_W ps _ out K e hz k
def cLc2 (is is1 : List Nat) (g g1 : Tg) (t t1 : Rho → Option Bool) (f : Rho → Option D) (u u1 : Rho → Option (List D)) : Rho → Option (List D) := fun ρ => if noOwn ρ is = true then (u ρ).bind fun ps => (lcF2 is is1 g g1 t t1 f u1 ρ ps).bind fun out => if out.length ≤ sizeLine then some out else none else none
theorem NW.lc2 {X : Cx} {e : Expr} {is is1 : List Nat} {g g1 : Tg} {t t1 : Rho → Option Bool} {f : Rho → Option D} {u u1 : Rho → Option (List D)} (h : NW X e (wLc2 is is1 g g1 (fW t) (fW t1) (fW f) (fW u) (fW u1))) : NF X e (cLc2 is is1 g g1 t t1 f u u1) := h.imp fW_mono fun ρ K ⟨out, e, k⟩ => by
  unfold cLc2 at e
  split at e
  · rename_i no
    obtain ⟨ps, e1, e2⟩ := Option.bind_eq_some_iff.mp e
    obtain ⟨o, e3, e4⟩ := Option.bind_eq_some_iff.mp e2
    split at e4
    · rename_i hz
      cases e4
      exact ⟨no, ps, e1, lcF2_W ps [] out K e3 (by simpa using hz) k⟩
    · cases e4
  · cases e
end L2.P


set_option Elab.async false
set_option linter.all false
set_option maxRecDepth 100000
set_option maxHeartbeats 4000000
namespace L2.P
open PySem PySem.Spec PyProof.Rows L2

/-- the argument lists have so many items -/
def LenA (f : Rho → Option (List D)) (n : Nat) : Prop := ∀ ρ xs, f ρ = some xs → xs.length = n
theorem lenA_nil : LenA aNil 0 := fun _ _ e => by cases e; rfl
theorem lenA_cons {f : Rho → Option D} {g : Rho → Option (List D)} {n : Nat} (h : LenA g n) : LenA (aCons f g) (n + 1) := fun ρ xs e => by
  obtain ⟨x, e1, e⟩ := Option.bind_eq_some_iff.mp e
  obtain ⟨ys, e2, rfl⟩ := Option.map_eq_some_iff.mp e
  rw [List.length_cons, h ρ ys e2]
def LenW (T : TL) (n : Nat) : Prop := ∀ ρ K, T ρ K → T ρ fun ps => ps.length = n ∧ K ps
theorem lenW_nil : LenW wNil 0 := fun _ _ k => ⟨rfl, k⟩
theorem lenW_cons {X : Cx} {e : Expr} {T : TW} {U : TL} {n : Nat} (m : EW X e T) (h : LenW U n) (mu : ∀ ρ K K', (∀ p, K p → K' p) → U ρ K → U ρ K') : LenW (wCons T U) (n + 1) := fun ρ K q =>
  m.mono _ _ _ (fun x k => mu _ _ _ (fun xs (z : xs.length = n ∧ K (x :: xs)) => ⟨by rw [List.length_cons, z.1], z.2⟩) (h _ _ k)) q
def vTup (f : Rho → Option (List D)) : Rho → Option D := fun ρ => (f ρ).map PyData.tuple
section
variable {X : Cx} {e a b : Expr} {es : List Expr} {pos : Pos}
theorem ew_tup {T : TL} {x1} {n : Nat} (h : EA X es T) (hl : LenW T n) (hn : n ≤ 1000 := by decide) : EW X (.Tuple es x1 pos) (fun ρ K => T ρ fun ps => K (.tuple ps)) :=
  ⟨fun ρ K K' i q => h.mono _ _ _ (fun ps => i _) q, (pe_tup h.pa).imp fun σ H Q ⟨B, F, ρ, R, q⟩ => ⟨B, F, ρ, R, h.mono _ _ _ (fun ps k F1 H1 vs R1 s1 d1 => by
    refine ⟨?_, fun p hp => ?_⟩
    · rw [d1.length, k.1, sizeLine_eq]; omega
    · have n' := R1.sub.free hp
      exact k.2 _ _ _ (R1.grow hp) (s1.trans (same_upd n')) (.tup upd_same (d1.same (same_upd n')))) (hl _ _ q)⟩⟩
theorem ef_tup {f : Rho → Option (List D)} {x1} {n : Nat} (h : EAF X es f) (hl : LenA f n) (hn : n ≤ 1000 := by decide) : EF X (.Tuple es x1 pos) (vTup f) :=
  (ew_tup h (fun ρ K ⟨p, e, k⟩ => ⟨p, e, hl _ _ e, k⟩) hn).imp fW_mono fun ρ K ⟨p, e, k⟩ => by
    obtain ⟨ps, e1, rfl⟩ := Option.map_eq_some_iff.mp e
    exact ⟨ps, e1, k⟩
theorem nw_lst {T : TL} {n : Nat} (h : EA X es T) (hl : LenW T n) (hn : n ≤ 1000 := by decide) : NW X (.List es pos) T :=
  ⟨h.mono, (pe_lst h.pa).imp fun σ H Q ⟨B, F, ρ, R, q⟩ => ⟨B, F, ρ, R, h.mono _ _ _ (fun ps k F1 H1 vs R1 s1 d1 => by
    refine ⟨?_, fun p hp => k.2 F1 H1 p vs R1 s1 hp d1⟩
    rw [d1.length, k.1, sizeLine_eq]; omega) (hl _ _ q)⟩⟩
theorem nf_lst {f : Rho → Option (List D)} {n : Nat} (h : EAF X es f) (hl : LenA f n) (hn : n ≤ 1000 := by decide) : NF X (.List es pos) f := nw_lst h (fun ρ K ⟨p, e, k⟩ => ⟨p, e, hl _ _ e, k⟩) hn

def dIx : G2
  | .list xs, .int i => atI xs i
  | .tuple xs, .int i => atI xs i
  | .str z, .int i => if z.length ≤ sizeLine then (atI z.cps.toList i).map fun c => .str ⟨#[c]⟩ else none
  | _, _ => none
theorem atI_len {α β : Type} {xs : List α} {ys : List β} (h : xs.length = ys.length) {i : Int} {y : β} (e : atI ys i = some y) : ∃ j : Nat, ys[j]? = some y ∧ ∀ x, xs[j]? = some x → atI xs i = some x := by
  unfold atI at e ⊢
  obtain ⟨j, e1, e2⟩ := Option.bind_eq_some_iff.mp e
  refine ⟨j, e2, fun x hx => ?_⟩
  rw [h, e1]
  exact hx
theorem ix_ok {K : Fg} {B : Bs} {F H : Hp} {σ : St} {ρ : Rho} {x y : V} {p q z : D} {Q : VK} (R : Rs K B F H σ ρ) (hx : Pk K F σ ρ x p) (hy : Dp K H y q) (e : dIx p q = some z) (k : ∀ v, Dp K F v z → Q v H) : rIx K x y H Q := by
  unfold dIx at e
  split at e
  · obtain ⟨a, xs, rfl, r, h⟩ := pk_items R hx rfl
    obtain ⟨j, e1, e2⟩ := atI_len r.length e
    obtain ⟨v, hv, d⟩ := r.get e1
    rcases h with ⟨_, h⟩ | ⟨h, _⟩
    · exact .inl ⟨a, xs, _, v, rfl, Dp.inv_int hy, h, e2 v hv, k v d⟩
    · cases h
  · obtain ⟨a, xs, rfl, r, h⟩ := pk_items R hx rfl
    obtain ⟨j, e1, e2⟩ := atI_len r.length e
    obtain ⟨v, hv, d⟩ := r.get e1
    rcases h with ⟨h, _⟩ | ⟨_, h⟩
    · cases h
    · exact .inr (.inl ⟨a, xs, _, v, rfl, Dp.inv_int hy, sqT_same R.sub h, e2 v hv, k v d⟩)
  · split at e
    · rename_i hz
      obtain ⟨c, e1, rfl⟩ := Option.map_eq_some_iff.mp e
      exact .inr (.inr ⟨_, _, c, Dp.inv_str (hx.dp (Same.refl _) R), Dp.inv_int hy, hz, e1, k _ (.str _)⟩)
    · cases e
  · cases e
theorem ew_ix {T1 T2 : TW} (ha : XW X a T1) (hb : XW X b T2) (hs : PlainIx b := by intro _ _; rfl) : EW X (.Subscript a b pos) (w2 dIx T1 T2) :=
  ⟨w2_mono ha.mono hb.mono, (pe_ix ix_seq ha.pe hb.pe hs).imp fun σ H Q ⟨B, F, ρ, R, q⟩ => by
    refine ⟨B, F, ρ, R, ha.mono _ _ _ (fun x qx F1 H1 v1 R1 e1 d1 => ?_) q⟩
    refine ⟨B, F1, ρ, R1, hb.mono _ _ _ (fun y ⟨z, ez, qz⟩ F2 H2 v2 R2 e2 d2 => ?_) qx⟩
    exact ix_ok R2 (d1.mono e2) (d2.dp (Same.refl _) R2) ez fun v d => qz F2 H2 v R2 (e1.trans e2) d⟩
theorem ef_ix {f1 f2 : Rho → Option D} (ha : XF X a f1) (hb : XF X b f2) (hs : PlainIx b := by intro _ _; rfl) : EF X (.Subscript a b pos) (b2 dIx f1 f2) := (ew_ix ha hb hs).imp fW_mono b2_w
def dNeg : D → Option D
  | .int i => some (.int (-i))
  | _ => none
def vNeg (f : Rho → Option D) : Rho → Option D := fun ρ => (f ρ).bind dNeg
theorem ef_neg {f : Rho → Option D} (h : EF X a f) : EF X (.UnaryOp .USub a pos) (vNeg f) :=
  ⟨fW_mono, (pe_un un_neg h.pe).imp fun σ H Q ⟨B, F, ρ, R, p, e, q⟩ => by
    obtain ⟨x, e1, e2⟩ := Option.bind_eq_some_iff.mp e
    unfold dNeg at e2
    split at e2
    · cases e2
      exact ⟨B, F, ρ, R, _, e1, fun F' H' v R' e' d => ⟨_, Dp.inv_int d, q F' H' _ R' e' (.int _)⟩⟩
    · cases e2⟩
def dAdd : G2
  | .int i, .int j => some (.int (i + j))
  | .list xs, .list ys => if xs.length + ys.length ≤ sizeLine then some (.list (xs ++ ys)) else none
  | .tuple xs, .tuple ys => if xs.length + ys.length ≤ sizeLine then some (.tuple (xs ++ ys)) else none
  | .str x, .str y => if x.length + y.length ≤ sizeLine then some (.str (x ++ y)) else none
  | _, _ => none
theorem OpR.or {f : Value → Value → Sem Value} {r r' : R2} (h : OpR X f r) (h' : OpR X f r') : OpR X f (fun x y H Q => r x y H Q ∨ r' x y H Q) := by
  intro pins s σ H x y v u Q I rx ry q
  rcases q with q | q
  · exact h pins s σ H x y v u Q I rx ry q
  · exact h' pins s σ H x y v u Q I rx ry q
theorem og_add : OpG X (binaryOp .Add) dAdd := ⟨_, OpR.or op_add (OpR.or or_catL (OpR.or op_catA op_add_str)), fun B F H σ ρ x y p q z Q R hx hy e k => by
  unfold dAdd at e
  split at e
  · cases e
    exact .inl ⟨_, _, Dp.inv_int (hx.dp (Same.refl _) R), Dp.inv_int (hy.dp (Same.refl _) R), k F H _ R (Same.refl _) (.int _)⟩
  · split at e
    · rename_i hz
      cases e
      obtain ⟨a, xs, rfl, r1, h1⟩ := pk_items R hx rfl
      obtain ⟨b, ys, rfl, r2, h2⟩ := pk_items R hy rfl
      rcases h1 with ⟨_, h1⟩ | ⟨h1, _⟩
      · rcases h2 with ⟨_, h2⟩ | ⟨h2, _⟩
        · refine .inr (.inl ⟨a, b, xs, ys, rfl, rfl, h1, h2, by rw [r1.length, r2.length]; exact hz, fun p hp => ?_⟩)
          have n := R.sub.free hp
          exact k _ _ _ (R.grow hp) (same_upd n) (.lst (.inl (.inl upd_same)) ((r1.append r2).same (same_upd n)))
        · cases h2
      · cases h1
    · cases e
  · split at e
    · rename_i hz
      cases e
      obtain ⟨a, xs, rfl, r1, h1⟩ := pk_items R hx rfl
      obtain ⟨b, ys, rfl, r2, h2⟩ := pk_items R hy rfl
      rcases h1 with ⟨h1, _⟩ | ⟨_, h1⟩
      · cases h1
      · rcases h2 with ⟨h2, _⟩ | ⟨_, h2⟩
        · cases h2
        · refine .inr (.inr (.inl ⟨a, b, xs, ys, rfl, rfl, sqT_same R.sub h1, sqT_same R.sub h2, by rw [r1.length, r2.length]; exact hz, fun e => ?_, fun n e => ?_, fun _ _ p hp => ?_⟩))
          · subst e
            cases r1
            exact k F H _ R (Same.refl _) (pk_tup hy)
          · subst e
            cases r2
            rw [List.append_nil] at k
            exact k F H _ R (Same.refl _) (pk_tup hx)
          · have n := R.sub.free hp
            exact k _ _ _ (R.grow hp) (same_upd n) (.tup upd_same ((r1.append r2).same (same_upd n)))
    · cases e
  · split at e
    · rename_i hz
      cases e
      exact .inr (.inr (.inr ⟨_, _, Dp.inv_str (hx.dp (Same.refl _) R), Dp.inv_str (hy.dp (Same.refl _) R), hz, k F H _ R (Same.refl _) (.str _)⟩))
    · cases e
  · cases e⟩
def vIsi (T : String) (f : Rho → Option D) : Rho → Option D := fun ρ => (f ρ).bind fun p => if noIs p = true then none else some (gIsi T p)
theorem ef_isi {f : Rho → Option D} {T : String} {n : Str} {p p2 : Pos} (h : XF X a f) (hg : Gl X "isinstance") (hm : X.mg "isinstance" = none) (hgT : Gl X n) (hmT : X.mg n = none) (hvT : bootBuiltins n = some (.type T))
    (hT : T = "int" ∨ T = "bool" ∨ T = "str" ∨ T = "list" ∨ T = "tuple" := by decide) (hv : bootBuiltins "isinstance" = some (.builtin "isinstance") := by decide +kernel) (hn : n ≠ "__name__" := by decide) (hdb : (n == ("__debug__" : Str)) = false := by decide)
    (hs : starEach [a, .Name n p2] X.env = (false, eval a X.env) :: starEach [.Name n p2] X.env := by rfl) :
    EF X (.Call (.Name "isinstance" p) [a, .Name n p2] [] pos) (vIsi T f) :=
  ⟨fW_mono, (pe_callB call_isi hg hm hv (pa_cons h.pe (pa_cons (pe_bltn (v := .ty T) hgT hmT hvT rfl hn hdb) pa_nil) hs) (he := hs)).imp fun σ H Q ⟨B, F, ρ, R, z, e, q⟩ => by
    obtain ⟨x, e1, e2⟩ := Option.bind_eq_some_iff.mp e
    have nf : noIs x = false := by
      cases hx : noIs x with
      | false => rfl
      | true => rw [if_pos hx] at e2; cases e2
    rw [if_neg (by rw [nf]; simp)] at e2
    cases e2
    refine ⟨B, F, ρ, R, x, e1, fun F' H' v R' s' d => ?_⟩
    exact ⟨v, .ty T, _, _, _, rfl, .ty T, ty_of (d.dp (Same.refl _) R') nf, kit_ty (kit_isi T hT x), q F' H' _ R' s' (.bl _)⟩⟩
end
end L2.P


set_option Elab.async false
set_option linter.all false
set_option maxRecDepth 100000
set_option maxHeartbeats 4000000
namespace L2.P
open PySem PySem.Spec PyProof.Rows L2

/-- how a statement ends -/
inductive Fl where
  | nx (ρ : Rho) | rt (p : D) | bk (ρ : Rho) | ct (ρ : Rho)
abbrev TSt := Rho → (Fl → Prop) → Prop
def endOk (K : Fg) (B : Bs) (F : Hp) (En : Ends) : Fl → Prop
  | .nx ρ' => ∀ F' H' σ', Rs K B F' H' σ' ρ' → Same F F' → En.nx σ' H'
  | .rt p => ∀ F' H' v, (∃ σ' ρ', Rs K B F' H' σ' ρ') → Same F F' → Dp K F' v p → En.rt v H'
  | .bk ρ' => ∀ F' H' σ', Rs K B F' H' σ' ρ' → Same F F' → En.bk σ' H'
  | .ct ρ' => ∀ F' H' σ', Rs K B F' H' σ' ρ' → Same F F' → En.ct σ' H'
theorem endOk.mono {K : Fg} {B : Bs} {F F' : Hp} {En : Ends} (s : Same F F') : ∀ {fl : Fl}, endOk K B F En fl → endOk K B F' En fl
  | .nx _, h => fun F2 H2 σ2 R2 s2 => h F2 H2 σ2 R2 (s.trans s2)
  | .rt _, h => fun F2 H2 v R2 s2 d => h F2 H2 v R2 (s.trans s2) d
  | .bk _, h => fun F2 H2 σ2 R2 s2 => h F2 H2 σ2 R2 (s.trans s2)
  | .ct _, h => fun F2 H2 σ2 R2 s2 => h F2 H2 σ2 R2 (s.trans s2)
def tS (K : Fg) (T : TSt) : TS := fun En σ H => ∃ B F ρ, Rs K B F H σ ρ ∧ T ρ (endOk K B F En)
structure SW (X : Cx) (st : Stmt) (T : TSt) : Prop where
  mono : ∀ ρ K K', (∀ p, K p → K' p) → T ρ K → T ρ K'
  ps : PS X st (tS X.K T)
structure SWs (X : Cx) (sts : List Stmt) (T : TSt) : Prop where
  mono : ∀ ρ K K', (∀ p, K p → K' p) → T ρ K → T ρ K'
  pss : PSs X sts (tS X.K T)
abbrev SF (X : Cx) (st : Stmt) (f : Rho → Option Fl) : Prop := SW X st (fW f)
abbrev SFs (X : Cx) (sts : List Stmt) (f : Rho → Option Fl) : Prop := SWs X sts (fW f)
theorem SW.imp {X : Cx} {st : Stmt} {T T' : TSt} (h : SW X st T) (m : ∀ ρ K K', (∀ p, K p → K' p) → T' ρ K → T' ρ K') (k : ∀ ρ K, T' ρ K → T ρ K) : SW X st T' := ⟨m, h.ps.imp fun _ _ _ ⟨B, F, ρ, R, q⟩ => ⟨B, F, ρ, R, k _ _ q⟩⟩
theorem SWs.imp {X : Cx} {st : List Stmt} {T T' : TSt} (h : SWs X st T) (m : ∀ ρ K K', (∀ p, K p → K' p) → T' ρ K → T' ρ K') (k : ∀ ρ K, T' ρ K → T ρ K) : SWs X st T' := ⟨m, h.pss.imp fun _ _ _ ⟨B, F, ρ, R, q⟩ => ⟨B, F, ρ, R, k _ _ q⟩⟩

section
variable {K : Fg} {B : Bs} {F F' H H' : Hp} {σ σ' : St} {ρ ρ' : Rho}
theorem set_some {α : Type} {l : List α} {i j : Nat} {x y : α} (h : (l.set i x)[j]? = some y) : (i = j ∧ i < l.length ∧ y = x) ∨ (i ≠ j ∧ l[j]? = some y) := by
  by_cases e : i = j
  · subst e
    by_cases hl : i < l.length
    · rw [List.getElem?_set_self hl] at h
      cases h; exact .inl ⟨rfl, hl, rfl⟩
    · rw [List.getElem?_eq_none (by simpa using hl)] at h; cases h
  · rw [List.getElem?_set_ne e] at h
    exact .inr ⟨e, h⟩
/-- the object o is what the slot s tells, s a slot that owns a list or a dict -/
def Holds (K : Fg) (F : Hp) (o : HO) : Sl → Prop
  | .ol ps => ∃ xs, o = .lst xs ∧ DpAll K F xs ps
  | .od false kvs => ∃ es, o = .dK es ∧ DkAll K F es kvs
  | .od true kvs => ∃ es, o = .dT es ∧ DtAll K F es kvs
  | _ => False
theorem Holds.ok {o : HO} {s : Sl} {a : Addr} (h : Holds K F o s) (f : F a = none) (h0 : B.Ha a = none) (e : H a = some o) : SlOk K B F H (some (some (.ref a))) s := by
  cases s with
  | no => exact h.elim
  | v _ => exact h.elim
  | rw _ => exact h.elim
  | ol ps => obtain ⟨xs, rfl, d⟩ := h; exact .ol f h0 e d
  | od t kvs =>
    cases t with
    | false => obtain ⟨es, rfl, d⟩ := h; exact .od f h0 ⟨es, e, d⟩
    | true => obtain ⟨es, rfl, d⟩ := h; exact .od f h0 ⟨es, e, d⟩
theorem Holds.owns {o : HO} {s : Sl} (h : Holds K F o s) : s.owns = true := by
  cases s with
  | no => exact h.elim
  | v _ => exact h.elim
  | rw _ => exact h.elim
  | ol ps => rfl
  | od t kvs => rfl
theorem Holds.nt {o : HO} {s : Sl} (h : Holds K F o s) : ∀ xs, o ≠ .tup xs := by
  cases s with
  | no => exact h.elim
  | v _ => exact h.elim
  | rw _ => exact h.elim
  | ol ps => obtain ⟨xs, rfl, d⟩ := h; intro _ z; cases z
  | od t kvs =>
    cases t with
    | false => obtain ⟨es, rfl, d⟩ := h; intro _ z; cases z
    | true => obtain ⟨es, rfl, d⟩ := h; intro _ z; cases z
theorem Holds.same {o : HO} {s : Sl} (h : Holds K F o s) (e : Same F F') : Holds K F' o s := by
  cases s with
  | no => exact h.elim
  | v _ => exact h.elim
  | rw _ => exact h.elim
  | ol ps => obtain ⟨xs, rfl, d⟩ := h; exact ⟨xs, rfl, d.same e⟩
  | od t kvs =>
    cases t with
    | false => obtain ⟨es, rfl, d⟩ := h; exact ⟨es, rfl, d.same e⟩
    | true => obtain ⟨es, rfl, d⟩ := h; exact ⟨es, rfl, d.same e⟩
theorem Holds.nte {o : HO} {s : Sl} (h : Holds K F o s) : ¬ isTE o := by
  cases s with
  | no => exact h.elim
  | v _ => exact h.elim
  | rw _ => exact h.elim
  | ol ps => obtain ⟨xs, rfl, d⟩ := h; exact not_te rfl
  | od t kvs =>
    cases t with
    | false => obtain ⟨es, rfl, d⟩ := h; exact not_te rfl
    | true => obtain ⟨es, rfl, d⟩ := h; exact not_te rfl
/-- a slot takes a new list that it alone holds -/
theorem Rs.putG {i : Nat} {a : Addr} {o : HO} {s0 : Sl} (R : Rs K B F H σ ρ) (n : H a = none) (hh : Holds K F o s0) : Rs K B F (upd H a o) (σ.set i (some (.ref a))) (ρ.set i s0) := by
  have L := R.lay n (o := o)
  obtain ⟨f1, f2, f3⟩ := R.fresh n
  refine ⟨L.sub, L.ext, L.new, L.old, L.hrow, L.hr2, by rw [List.length_set, List.length_set]; exact R.len, fun j s hs => ?_, fun j k c s t hjk h1 h2 o1 o2 e1 e2 => ?_, L.tb, L.tbh⟩
  · rcases set_some hs with ⟨rfl, hl, rfl⟩ | ⟨ne, hs⟩
    · rw [List.getElem?_set_self (by rw [R.len]; exact hl)]
      exact hh.ok f2 f1 upd_same
    · rw [List.getElem?_set_ne ne]; exact L.at_ j s hs
  · have far : ∀ (l : Nat) (s : Sl), ρ[l]? = some s → s.owns = true → σ[l]? = some (some (V.ref a)) → False := fun l s hs o e => by
      have q := R.at_ l s hs
      rw [e] at q
      cases q with
      | no => cases o
      | v _ => cases o
      | ol _ _ h _ => rw [n] at h; cases h
      | row _ _ h =>
        obtain ⟨u, hu⟩ := h.there
        rw [n] at hu; cases hu
      | od _ _ h =>
        obtain ⟨u, hu, _⟩ := h.there
        rw [n] at hu; cases hu
    rcases set_some h1 with ⟨rfl, hl, _⟩ | ⟨ne, h1n⟩
    · rw [List.getElem?_set_self (by rw [R.len]; exact hl)] at e1
      cases e1
      rcases set_some h2 with ⟨rfl, _⟩ | ⟨ne, h2n⟩
      · exact hjk rfl
      · rw [List.getElem?_set_ne ne] at e2
        exact far k t h2n o2 e2
    · rw [List.getElem?_set_ne ne] at e1
      rcases set_some h2 with ⟨rfl, hl, _⟩ | ⟨ne2, h2n⟩
      · rw [List.getElem?_set_self (by rw [R.len]; exact hl)] at e2
        cases e2
        exact far j s h1n o1 e1
      · rw [List.getElem?_set_ne ne2] at e2
        exact R.apart j k c s t hjk h1n h2n o1 o2 e1 e2
theorem Rs.putO {i : Nat} {a : Addr} {xs : List V} {ps : List D} (R : Rs K B F H σ ρ) (n : H a = none) (d : DpAll K F xs ps) : Rs K B F (upd H a (.lst xs)) (σ.set i (some (.ref a))) (ρ.set i (.ol ps)) := R.putG n ⟨xs, rfl, d⟩
/-- what a slot owns -/
theorem Rs.own {i : Nat} {ps : List D} (R : Rs K B F H σ ρ) (h : ρ[i]? = some (.ol ps)) : ∃ a xs, σ[i]? = some (some (.ref a)) ∧ F a = none ∧ B.Ha a = none ∧ H a = some (.lst xs) ∧ DpAll K F xs ps := by
  have q := R.at_ i _ h
  generalize hσ : σ[i]? = x at q
  cases q with
  | ol f h0 h1 r => exact ⟨_, _, rfl, f, h0, h1, r⟩
/-- .. in one word -/
theorem Rs.ownG {i : Nat} {s : Sl} (R : Rs K B F H σ ρ) (h : ρ[i]? = some s) (hs : s.owns = true) (nr : ¬ s.IsRw) : ∃ a o, σ[i]? = some (some (.ref a)) ∧ F a = none ∧ B.Ha a = none ∧ H a = some o ∧ Holds K F o s := by
  have q := R.at_ i _ h
  generalize hσ : σ[i]? = x at q
  cases q with
  | no => cases hs
  | v _ => cases hs
  | row _ _ _ => exact absurd (.mk _) nr
  | ol f h0 h1 r => exact ⟨_, _, rfl, f, h0, h1, _, rfl, r⟩
  | @od t a kvs f h0 h1 =>
    cases t with
    | false => obtain ⟨es, e, d⟩ := h1; exact ⟨a, _, rfl, f, h0, e, es, rfl, d⟩
    | true => obtain ⟨es, e, d⟩ := h1; exact ⟨a, _, rfl, f, h0, e, es, rfl, d⟩
/-- .. is changed -/
theorem Rs.setG {i : Nat} {a : Addr} {o : HO} {s0 s1 : Sl} (R : Rs K B F H σ ρ) (h : ρ[i]? = some s0) (hs0 : s0.owns = true) (nr0 : ¬ s0.IsRw) (hσ : σ[i]? = some (some (.ref a))) (hh : Holds K F o s1) :
    Rs K B F (upd H a o) σ (ρ.set i s1) := by
  obtain ⟨a', o', e, f, h0, h1, r⟩ := R.ownG h hs0 nr0
  rw [hσ] at e; cases e
  have hil : i < ρ.length := (List.getElem?_eq_some_iff.mp h).1
  have nr : B.r ≠ some a := fun e => by
    exact R.hr2 a e h0
  refine ⟨same_upd2 R.sub f, R.ext, R.new, fun b x hb e => ?_, fun r hr => ?_, R.hr2, by rw [List.length_set]; exact R.len, fun j s hs => ?_, fun j k c s t hjk h1' h2' o1 o2 e1 e2 => ?_, R.tb.chg h1 r.nte, R.tbh⟩
  · rw [upd_ne (ne_of_none e h0)]; exact R.old b x hb e
  · obtain ⟨g1, g2⟩ := R.hrow r hr
    have ne : r ≠ a := fun e => nr (by rw [hr, e])
    exact ⟨g1, g2.mono (Same.refl _) fun o e => by rw [upd_ne ne]; exact e⟩
  · rcases set_some hs with ⟨rfl, hl, rfl⟩ | ⟨ne, hs⟩
    · rw [hσ]; exact hh.ok f h0 upd_same
    · have q := R.at_ j s hs
      have far : s.owns = true → σ[j]? = some (some (.ref a)) → False := fun o e => R.apart i j a _ s ne h hs hs0 o hσ e
      generalize hx : σ[j]? = x at q far
      cases q with
      | no => exact .no
      | v r => exact .v r
      | @ol c zs rs g1 g2 g3 g4 => exact .ol g1 g2 (by rw [upd_ne (fun e => far rfl (by rw [e]))]; exact g3) g4
      | @od t c kvs g1 g2 g3 => exact .od g1 g2 (g3.mono (Same.refl _) fun o e => by rw [upd_ne (fun e => far rfl (by rw [e]))]; exact e)
      | @row c _ g1 g2 g3 => exact .row g1 g2 (g3.mono (Same.refl _) fun o e => by rw [upd_ne (fun e => far rfl (by rw [e]))]; exact e)
  · rcases set_some h1' with ⟨rfl, hl, _⟩ | ⟨ne, h1n⟩
    · rcases set_some h2' with ⟨rfl, _⟩ | ⟨ne, h2n⟩
      · exact hjk rfl
      · exact R.apart i k c _ t hjk h h2n hs0 o2 e1 e2
    · rcases set_some h2' with ⟨rfl, hl, _⟩ | ⟨ne2, h2n⟩
      · exact R.apart j i c s _ hjk h1n h o1 hs0 e1 e2
      · exact R.apart j k c s t hjk h1n h2n o1 o2 e1 e2
theorem Rs.setO {i : Nat} {a : Addr} {xs ys : List V} {ps qs : List D} (R : Rs K B F H σ ρ) (h : ρ[i]? = some (.ol ps)) (hσ : σ[i]? = some (some (.ref a))) (hH : H a = some (.lst xs)) (d : DpAll K F ys qs) :
    Rs K B F (upd H a (.lst ys)) σ (ρ.set i (.ol qs)) := R.setG h rfl (fun z => by cases z) hσ ⟨ys, rfl, d⟩
end
end L2.P


set_option Elab.async false
set_option linter.all false
set_option maxRecDepth 100000
set_option maxHeartbeats 4000000
namespace L2.P
open PySem PySem.Spec PyProof.Rows L2
section
variable {X : Cx} {st : Stmt} {rest : List Stmt} {e : Expr} {pos spos : Pos}
def wSeq (T U : TSt) : TSt := fun ρ K => T ρ fun fl => match fl with
  | .nx ρ' => U ρ' K
  | fl => K fl
def sSeq (f g : Rho → Option Fl) : Rho → Option Fl := fun ρ => match f ρ with
  | some (.nx ρ') => g ρ'
  | r => r
theorem sws_one {T : TSt} (h : SW X st T) : SWs X [st] T := ⟨h.mono, pss_one h.ps⟩
theorem sws_cons {T U : TSt} (h : SW X st T) (h2 : SWs X rest U) : SWs X (st :: rest) (wSeq T U) :=
  ⟨fun ρ K K' i q => h.mono _ _ _ (fun fl k => by
    cases fl with
    | nx ρ' => exact h2.mono _ _ _ i k
    | rt p => exact i _ k
    | bk p => exact i _ k
    | ct p => exact i _ k) q, (pss_cons h.ps h2.pss).imp fun En σ H ⟨B, F, ρ, R, q⟩ => ⟨B, F, ρ, R, h.mono _ _ _ (fun fl k => by
    cases fl with
    | nx ρ' => exact fun F' H' σ' R' s' => ⟨B, F', ρ', R', h2.mono _ _ _ (fun fl2 k2 => k2.mono s') k⟩
    | rt p => exact k
    | bk p => exact k
    | ct p => exact k) q⟩⟩
theorem sfs_cons {f g : Rho → Option Fl} (h : SF X st f) (h2 : SFs X rest g) : SFs X (st :: rest) (sSeq f g) := (sws_cons h h2).imp fW_mono fun ρ K ⟨p, e, k⟩ => by
  unfold sSeq at e
  cases q : f ρ with
  | none => rw [q] at e; cases e
  | some fl =>
    rw [q] at e
    refine ⟨fl, q, ?_⟩
    cases fl with
    | nx ρ' => exact ⟨p, e, k⟩
    | rt p => cases e; exact k
    | bk p => cases e; exact k
    | ct p => cases e; exact k
def sNil : Rho → Option Fl := fun ρ => some (.nx ρ)
theorem sfs_nil : SFs X [] sNil := ⟨fW_mono, pss_nil.imp fun En σ H ⟨B, F, ρ, R, p, e, q⟩ => by cases e; exact q F H σ R (Same.refl _)⟩
def sNever : Rho → Option Fl := fun _ => none
theorem sf_never : SF X st sNever := ⟨fW_mono, ps_never.imp fun En σ H ⟨B, F, ρ, R, p, e, q⟩ => by cases e⟩
def wRet (T : TW) : TSt := fun ρ K => T ρ fun p => K (.rt p)
def sRet (f : Rho → Option D) : Rho → Option Fl := fun ρ => (f ρ).map Fl.rt
theorem sw_ret {T : TW} (h : EW X e T) : SW X (.Return (some e) pos) (wRet T) :=
  ⟨fun ρ K K' i q => h.mono _ _ _ (fun p k => i _ k) q, (ps_ret h.pe).imp fun En σ H ⟨B, F, ρ, R, q⟩ => ⟨B, F, ρ, R, h.mono _ _ _ (fun p k F' H' v R' s d => k F' H' v ⟨σ, ρ, R'⟩ s d) q⟩⟩
theorem sf_ret {f : Rho → Option D} (h : EF X e f) : SF X (.Return (some e) pos) (sRet f) := (sw_ret h).imp fW_mono fun ρ K ⟨p, e, k⟩ => by
  obtain ⟨q, e1, rfl⟩ := Option.map_eq_some_iff.mp e
  exact ⟨q, e1, k⟩
/-- a slot's list is frozen -/
theorem Rs.freezeG {K : Fg} {B : Bs} {F H : Hp} {σ : St} {ρ : Rho} {i : Nat} {s0 : Sl} {p : D} (R : Rs K B F H σ ρ) (h : ρ[i]? = some s0) (hs0 : s0.owns = true) (nr0 : ¬ s0.IsRw) (hp : ∀ (a : Addr) (o : HO) (F' : Hp), F' a = some o → Holds K F' o s0 → Dp K F' (.ref a) p) : ∃ F' v, Rs K B F' H σ (ρ.set i (.v p)) ∧ Same F F' ∧ σ[i]? = some (some v) ∧ Dp K F' v p := by
  obtain ⟨a, o, hσ, f, h0, h1, r⟩ := R.ownG h hs0 nr0
  have hil : i < ρ.length := (List.getElem?_eq_some_iff.mp h).1
  have s : Same F (upd F a o) := same_upd f
  have dd : Dp K (upd F a o) (.ref a) p := hp a o _ upd_same (r.same s)
  refine ⟨upd F a o, .ref a, ⟨fun b x e => ?_, fun b x e => s b x (R.ext b x e), fun b h2 h3 => ?_, R.old, fun r hr => ?_, R.hr2, by rw [List.length_set]; exact R.len, fun j t ht => ?_, fun j k c t u hjk h1' h2' o1 o2 e1 e2 => ?_, R.tb.frz h1 r.nte, R.tbh⟩, s, hσ, dd⟩
  · by_cases q : b = a
    · subst q; rw [upd_same] at e; rw [h1]; exact e
    · rw [upd_ne q] at e; exact R.sub b x e
  · by_cases q : b = a
    · subst q; exact .inl h0
    · rw [upd_ne q] at h3; exact R.new b h2 h3
  · obtain ⟨g1, g2⟩ := R.hrow r hr
    have ne : r ≠ a := fun e => R.hr2 r hr (by rw [e]; exact h0)
    exact ⟨by rw [upd_ne ne]; exact g1, g2.mono s fun o e => e⟩
  · rcases set_some ht with ⟨rfl, hl, rfl⟩ | ⟨ne, ht⟩
    · rw [hσ]; exact .v dd
    · have q := R.at_ j t ht
      have far : t.owns = true → σ[j]? = some (some (V.ref a)) → False := fun o e => R.apart i j a _ t ne h ht hs0 o hσ e
      generalize hx : σ[j]? = x at q far
      cases q with
      | no => exact .no
      | v r => exact .v (r.same s)
      | @ol c zs rs g1 g2 g3 g4 => exact .ol (by rw [upd_ne (fun e => far rfl (by rw [e]))]; exact g1) g2 g3 (g4.same s)
      | @od t c kvs g1 g2 g3 => exact .od (by rw [upd_ne (fun e => far rfl (by rw [e]))]; exact g1) g2 (g3.mono s fun o e => e)
      | @row c _ g1 g2 g3 => exact .row (by rw [upd_ne (fun e => far rfl (by rw [e]))]; exact g1) g2 (g3.mono s fun o e => e)
  · rcases set_some h1' with ⟨rfl, hl, rfl⟩ | ⟨ne, h1'⟩
    · cases o1
    · rcases set_some h2' with ⟨rfl, hl, rfl⟩ | ⟨ne2, h2'⟩
      · cases o2
      · exact R.apart j k c t u hjk h1' h2' o1 o2 e1 e2
theorem Rs.freeze {K : Fg} {B : Bs} {F H : Hp} {σ : St} {ρ : Rho} {i : Nat} {ps : List D} (R : Rs K B F H σ ρ) (h : ρ[i]? = some (.ol ps)) : ∃ F' v, Rs K B F' H σ (ρ.set i (.v (.list ps))) ∧ Same F F' ∧ σ[i]? = some (some v) ∧ Dp K F' v (.list ps) :=
  R.freezeG h rfl (fun z => by cases z) fun a o F' e hh => by obtain ⟨xs, rfl, d⟩ := hh; exact .lst (.inl (.inl e)) d
/-- return x, x a list of this def's own -/
theorem sw_retx {T : TW} (h : XW X e T) : SW X (.Return (some e) pos) (wRet T) :=
  ⟨fun ρ K K' i q => h.mono _ _ _ (fun p k => i _ k) q, (ps_ret h.pe).imp fun En σ H ⟨B, F, ρ, R, q⟩ => ⟨B, F, ρ, R, h.mono _ _ _ (fun p k F' H' v R' s d => by
    rcases d with d | ⟨i, ps, h1, h2, rfl⟩
    · exact k F' H' v ⟨σ, ρ, R'⟩ s d
    · obtain ⟨F2, v2, R2, s2, e2, d2⟩ := R'.freeze h1
      rw [h2] at e2
      cases e2
      exact k F2 H' v ⟨σ, _, R2⟩ (s.trans s2) d2) q⟩⟩
theorem sf_retx {f : Rho → Option D} (h : XF X e f) : SF X (.Return (some e) pos) (sRet f) := (sw_retx h).imp fW_mono fun ρ K ⟨p, e, k⟩ => by
  obtain ⟨q, e1, rfl⟩ := Option.map_eq_some_iff.mp e
  exact ⟨q, e1, k⟩
/-- ahead of a block: lists of this def's own are frozen from here on -/
def frz (ρ : Rho) : List Nat → Rho
  | [] => ρ
  | i :: is => match (frz ρ is)[i]? with
    | some (.ol ps) => (frz ρ is).set i (.v (.list ps))
    | _ => frz ρ is
theorem Rs.frz {K : Fg} {B : Bs} {F H : Hp} {σ : St} {ρ : Rho} (R : Rs K B F H σ ρ) : ∀ is : List Nat, ∃ F', Rs K B F' H σ (frz ρ is) ∧ Same F F'
  | [] => ⟨F, R, Same.refl _⟩
  | i :: is => by
    obtain ⟨F', R', s⟩ := Rs.frz R is
    unfold P.frz
    split
    · rename_i ps h
      obtain ⟨F2, v, R2, s2, _⟩ := R'.freeze h
      exact ⟨F2, R2, s.trans s2⟩
    · exact ⟨F', R', s⟩
theorem sws_frz {T : TSt} (is : List Nat) (h : SWs X rest T) : SWs X rest (fun ρ K => T (frz ρ is) K) :=
  ⟨fun ρ K K' i q => h.mono _ _ _ i q, h.pss.imp fun En σ H ⟨B, F, ρ, R, q⟩ => by
    obtain ⟨F', R', s⟩ := R.frz is
    exact ⟨B, F', _, R', h.mono _ _ _ (fun fl k => k.mono s) q⟩⟩
theorem sfs_frz {f : Rho → Option Fl} (is : List Nat) (h : SFs X rest f) : SFs X rest (fun ρ => f (frz ρ is)) := (sws_frz is h).imp fW_mono fun ρ K q => q
def wSet (i : Nat) (T : TW) : TSt := fun ρ K => T ρ fun p => K (.nx (ρ.set i (.v p)))
def sSet (i : Nat) (f : Rho → Option D) : Rho → Option Fl := fun ρ => (f ρ).map fun p => .nx (ρ.set i (.v p))
theorem sw_set {i : Nat} {x : Str} {T : TW} {p' : Pos} (hN : X.N.Nodup) (hi : X.N[i]? = some x) (hx : Loc X.env.scope x) (h : EW X e T) (hs : swapsWith e (some (.Name x p')) pos.line X.env = pure false := by rfl)
    (hf : X.fn x = true ∨ X.env.scope.names.lookup x = some .local := by first | exact .inl rfl | exact .inr rfl | assumption) : SW X (.Assign [.Name x p'] e pos) (wSet i T) :=
  ⟨fun ρ K K' k q => h.mono _ _ _ (fun p => k _) q, (ps_set hN hi hx h.pe hs hf).imp fun En σ H ⟨B, F, ρ, R, q⟩ => ⟨B, F, ρ, R, h.mono _ _ _ (fun p k F' H' v R' s d => k F' H' _ (R'.put (.v d) rfl) s) q⟩⟩
theorem sf_set {i : Nat} {x : Str} {f : Rho → Option D} {p' : Pos} (hN : X.N.Nodup) (hi : X.N[i]? = some x) (hx : Loc X.env.scope x) (h : EF X e f) (hs : swapsWith e (some (.Name x p')) pos.line X.env = pure false := by rfl)
    (hf : X.fn x = true ∨ X.env.scope.names.lookup x = some .local := by first | exact .inl rfl | exact .inr rfl | assumption) : SF X (.Assign [.Name x p'] e pos) (sSet i f) := (sw_set hN hi hx h hs hf).imp fW_mono fun ρ K ⟨p, e, k⟩ => by
  obtain ⟨q, e1, rfl⟩ := Option.map_eq_some_iff.mp e
  exact ⟨q, e1, k⟩
theorem ns_set {i : Nat} {x : Str} {T : TL} {p' : Pos} (hN : X.N.Nodup) (hi : X.N[i]? = some x) (hx : Loc X.env.scope x) (h : NW X e T) (hs : swapsWith e (some (.Name x p')) pos.line X.env = pure false := by rfl)
    (hf : X.fn x = true ∨ X.env.scope.names.lookup x = some .local := by first | exact .inl rfl | exact .inr rfl | assumption) : NS X (.Assign [.Name x p'] e pos) i T := ⟨h.mono, ps_set hN hi hx h.pe hs hf⟩
def wSetO (i : Nat) (T : TL) : TSt := fun ρ K => T ρ fun p => K (.nx (ρ.set i (.ol p)))
def sSetO (i : Nat) (f : Rho → Option (List D)) : Rho → Option Fl := fun ρ => (f ρ).map fun p => .nx (ρ.set i (.ol p))
def wSetL (i : Nat) (T : TL) : TSt := fun ρ K => T ρ fun p => K (.nx (ρ.set i (.v (.list p))))
def sSetL (i : Nat) (f : Rho → Option (List D)) : Rho → Option Fl := fun ρ => (f ρ).map fun p => .nx (ρ.set i (.v (.list p)))
theorem NS.o {i : Nat} {T : TL} (h : NS X st i T) : SW X st (wSetO i T) :=
  ⟨fun ρ K K' k q => h.mono _ _ _ (fun p => k _) q, h.ps.imp fun En σ H ⟨B, F, ρ, R, q⟩ => ⟨B, F, ρ, R, h.mono _ _ _ (fun p k F' H' a xs R' s n d => k F' _ _ (R'.putO n d) s) q⟩⟩
theorem NS.l {i : Nat} {T : TL} (h : NS X st i T) : SW X st (wSetL i T) :=
  ⟨fun ρ K K' k q => h.mono _ _ _ (fun p => k _) q, h.ps.imp fun En σ H ⟨B, F, ρ, R, q⟩ => ⟨B, F, ρ, R, h.mono _ _ _ (fun p k F' H' a xs R' s n d => by
    have n' := R'.sub.free n
    exact k _ _ _ ((R'.grow n).put (.v (.lst (.inl (.inl upd_same)) (d.same (same_upd n')))) rfl) (s.trans (same_upd n'))) q⟩⟩
theorem NS.imp {i : Nat} {T T' : TL} (h : NS X st i T) (m : ∀ ρ K K', (∀ p, K p → K' p) → T' ρ K → T' ρ K') (k : ∀ ρ K, T' ρ K → T ρ K) : NS X st i T' := ⟨m, h.ps.imp fun D σ H q => tAsg_imp (t := tN X.K T) (t' := tN X.K T') (fun _ _ _ ⟨B, F, ρ, R, q⟩ => ⟨B, F, ρ, R, k _ _ q⟩) D σ H q⟩
abbrev NSF (X : Cx) (st : Stmt) (i : Nat) (f : Rho → Option (List D)) : Prop := NS X st i (fW f)
theorem NS.lc {i : Nat} {is : List Nat} {g : Tg} {t : Rho → Option Bool} {f : Rho → Option D} {u : Rho → Option (List D)} (h : NS X st i (wLc is g (fW t) (fW f) (fW u))) : NSF X st i (cLc is g t f u) := h.imp fW_mono cLc_w
theorem NSF.so {i : Nat} {f : Rho → Option (List D)} (h : NSF X st i f) : SF X st (sSetO i f) := (NS.o h).imp fW_mono fun ρ K ⟨p, e, k⟩ => by
  obtain ⟨q, e1, rfl⟩ := Option.map_eq_some_iff.mp e
  exact ⟨q, e1, k⟩
theorem NSF.sl {i : Nat} {f : Rho → Option (List D)} (h : NSF X st i f) : SF X st (sSetL i f) := (NS.l h).imp fW_mono fun ρ K ⟨p, e, k⟩ => by
  obtain ⟨q, e1, rfl⟩ := Option.map_eq_some_iff.mp e
  exact ⟨q, e1, k⟩
def wAsg (g : Tg) (T : TW) : TSt := fun ρ K => T ρ fun p => ∃ ρ', g p ρ = some ρ' ∧ K (.nx ρ')
def sAsg (g : Tg) (f : Rho → Option D) : Rho → Option Fl := fun ρ => (f ρ).bind fun p => (g p ρ).map Fl.nx
theorem sw_asg {tg : Expr} {g : Tg} {is : List Nat} {T : TW} (h : EW X e T) (hg : GW X tg g is) (hs : swapsWithSole [tg] e pos.line X.env = pure false := by rfl) (hw : swappedStores [tg] e X.env = pure none := by rfl)
    (h1 : (assignEach [tg] X.env).map (·.2) = [assign tg X.env] := by rfl) : SW X (.Assign [tg] e pos) (wAsg g T) :=
  ⟨fun ρ K K' k q => h.mono _ _ _ (fun p ⟨ρ', e, z⟩ => ⟨ρ', e, k _ z⟩) q, (ps_asg h.pe hg hs hw h1).imp fun En σ H ⟨B, F, ρ, R, q⟩ => ⟨B, F, ρ, R, h.mono _ _ _ (fun p ⟨ρ', eg, k⟩ F' H' v R' s d =>
    ⟨B, F', ρ, p, ρ', R', d, eg, fun σ' R2 _ _ _ => k F' H' σ' R2 s⟩) q⟩⟩
theorem sf_asg {tg : Expr} {g : Tg} {is : List Nat} {f : Rho → Option D} (h : EF X e f) (hg : GW X tg g is) (hs : swapsWithSole [tg] e pos.line X.env = pure false := by rfl) (hw : swappedStores [tg] e X.env = pure none := by rfl)
    (h1 : (assignEach [tg] X.env).map (·.2) = [assign tg X.env] := by rfl) : SF X (.Assign [tg] e pos) (sAsg g f) := (sw_asg h hg hs hw h1).imp fW_mono fun ρ K ⟨p, e, k⟩ => by
  obtain ⟨q, e1, e2⟩ := Option.bind_eq_some_iff.mp e
  obtain ⟨ρ', e3, rfl⟩ := Option.map_eq_some_iff.mp e2
  exact ⟨q, e1, ρ', e3, k⟩
def wPar (i j : Nat) (T : TL) : TSt := fun ρ K => T ρ fun ps => ∃ a b, ps = [a, b] ∧ K (.nx ((ρ.set i (.v a)).set j (.v b)))
theorem sw_par {i j : Nat} {x y : Str} {a b : Expr} {T : TL} {px py pt : Pos} {kt k2 pt2} (hc : X.calm = true) (hN : X.N.Nodup) (hi : X.N[i]? = some x) (hj : X.N[j]? = some y) (hij : i ≠ j)
    (hx : X.env.scope.names.lookup x = some .local) (hy : X.env.scope.names.lookup y = some .local) (h : EA X [a, b] T)
    (hw : swappedStores [.Tuple [.Name x px, .Name y py] kt pt] (.Tuple [a, b] k2 pt2) X.env = pure (some [x, y]))
    (hs : swapsWithSole [.Tuple [.Name x px, .Name y py] kt pt] (.Tuple [a, b] k2 pt2) pos.line X.env = pure false := by rfl) :
    SW X (.Assign [.Tuple [.Name x px, .Name y py] kt pt] (.Tuple [a, b] k2 pt2) pos) (wPar i j T) :=
  ⟨fun ρ K K' k q => h.mono _ _ _ (fun p ⟨a, b, e, z⟩ => ⟨a, b, e, k _ z⟩) q, (ps_par hc hN hi hj hij hx hy h.pa hw hs).imp fun En σ H ⟨B, F, ρ, R, q⟩ => ⟨B, F, ρ, R, h.mono _ _ _ (fun p ⟨a, b, e, k⟩ F' H' vs R' s d => by
    subst e
    obtain ⟨v, u, rfl, d1, d2⟩ := dp2 d
    exact ⟨v, u, rfl, k F' H' _ ((R'.put (.v d1) rfl).put (.v d2) rfl) s⟩) q⟩⟩
def sDrop (f : Rho → Option D) : Rho → Option Fl := fun ρ => (f ρ).map fun _ => .nx ρ
theorem sf_expr {f : Rho → Option D} (h : EF X e f) (hs : swapsWith e none pos.line X.env = pure false := by rfl) : SF X (.Expr e pos) (sDrop f) :=
  ⟨fW_mono, (ps_expr h.pe hs).imp fun En σ H ⟨B, F, ρ, R, p, e, q⟩ => by
    obtain ⟨z, e1, rfl⟩ := Option.map_eq_some_iff.mp e
    exact ⟨B, F, ρ, R, z, e1, fun F' H' v R' s d => q F' H' σ R' s⟩⟩
def wApp (i : Nat) (T : TW) : TSt := fun ρ K => ∃ ps, ρ[i]? = some (.ol ps) ∧ T ρ fun p => ps.length < sizeLine ∧ K (.nx (ρ.set i (.ol (ps ++ [p]))))
def sApp (i : Nat) (f : Rho → Option D) : Rho → Option Fl := fun ρ => match ρ[i]? with
  | some (.ol ps) => (f ρ).bind fun p => if ps.length < sizeLine then some (.nx (ρ.set i (.ol (ps ++ [p])))) else none
  | _ => none
theorem sw_app {i : Nat} {x : Str} {T : TW} {p1 p2 p3 : Pos} (hN : X.N[i]? = some x) (hv : Vis X.env.scope x) (h : EW X e T) (hd : (x == ("__debug__" : Str)) = false := by decide) (hcd : (x == ("__classdict__" : Str)) = false := by decide)
    (hbase : attributeBase (.Name x p1) "append" X.env (eval (.Name x p1) X.env) = eval (.Name x p1) X.env := by rfl)
    (hfew : ((backTo p3 (starEach [e] X.env)).all (fun x => !x.1) && (backToKw p3 (keywordEach [] X.env)).all (fun x => x.1.isSome) && decide (([e] : List Expr).length + ([] : List Keyword).length + (if ([] : List Keyword).isEmpty then 0 else 1) < 30)) = true := by rfl)
    (hline : (p2.endLine == p3.line) = true := by rfl) (hs : starEach [e] X.env = (false, eval e X.env) :: starEach [] X.env := by rfl) (hs2 : swapsWith (.Call (.Attribute (.Name x p1) "append" p2) [e] [] p3) none pos.line X.env = pure false := by rfl) :
    SW X (.Expr (.Call (.Attribute (.Name x p1) "append" p2) [e] [] p3) pos) (wApp i T) :=
  ⟨fun ρ K K' k ⟨ps, e1, q⟩ => ⟨ps, e1, h.mono _ _ _ (fun p z => ⟨z.1, k _ z.2⟩) q⟩,
    (ps_expr (pe_bm PySem.F.plainAttrs_list PySem.F.slot_list_append PySem.F.type_list_append mt_append (pe_var hN hv hd hcd) (pa_cons h.pe pa_nil hs) hbase hfew hline hs rfl) hs2).imp fun En σ H ⟨B, F, ρ, R, ps, ei, q⟩ => by
      obtain ⟨a, xs, hσ, f, h0, h1, r⟩ := R.own ei
      refine ⟨.ref a, hσ, .inl ⟨rfl, xs, .inl (.inl h1)⟩, B, F, ρ, R, h.mono _ _ _ (fun p k F' H' v R' s d => ?_) q⟩
      obtain ⟨a', xs', hσ', f', h0', h1', r'⟩ := R'.own ei
      rw [hσ] at hσ'; cases hσ'
      have hl := r'.length
      exact ⟨a, xs', v, rfl, rfl, h1', by rw [hl]; exact k.1, k.2 F' _ σ (R'.setO ei hσ h1' (r'.append (.cons d .nil))) s⟩⟩
theorem sf_app {i : Nat} {x : Str} {fe : Rho → Option D} {p1 p2 p3 : Pos} (hN : X.N[i]? = some x) (hv : Vis X.env.scope x) (h : EF X e fe) (hd : (x == ("__debug__" : Str)) = false := by decide) (hcd : (x == ("__classdict__" : Str)) = false := by decide)
    (hbase : attributeBase (.Name x p1) "append" X.env (eval (.Name x p1) X.env) = eval (.Name x p1) X.env := by rfl)
    (hfew : ((backTo p3 (starEach [e] X.env)).all (fun x => !x.1) && (backToKw p3 (keywordEach [] X.env)).all (fun x => x.1.isSome) && decide (([e] : List Expr).length + ([] : List Keyword).length + (if ([] : List Keyword).isEmpty then 0 else 1) < 30)) = true := by rfl)
    (hline : (p2.endLine == p3.line) = true := by rfl) (hs : starEach [e] X.env = (false, eval e X.env) :: starEach [] X.env := by rfl) (hs2 : swapsWith (.Call (.Attribute (.Name x p1) "append" p2) [e] [] p3) none pos.line X.env = pure false := by rfl) :
    SF X (.Expr (.Call (.Attribute (.Name x p1) "append" p2) [e] [] p3) pos) (sApp i fe) := (sw_app hN hv h hd hcd hbase hfew hline hs hs2).imp fW_mono fun ρ K ⟨p, e, k⟩ => by
  unfold sApp at e
  split at e
  · rename_i ps hp
    obtain ⟨z, e1, e2⟩ := Option.bind_eq_some_iff.mp e
    split at e2
    · rename_i hz
      cases e2
      exact ⟨ps, hp, z, e1, hz, k⟩
    · cases e2
  · cases e
def wIfS (t : TB) (T U : TSt) : TSt := fun ρ K => t ρ fun b => if b = true then T ρ K else U ρ K
def sIf (t : Rho → Option Bool) (f g : Rho → Option Fl) : Rho → Option Fl := fun ρ => (t ρ).bind fun b => if b = true then f ρ else g ρ
theorem sw_if {c : Expr} {a b : List Stmt} {t : TB} {T U : TSt} (h : TWT X c t) (h1 : SWs X a T) (h2 : SWs X b U) : SW X (.If c a b pos) (wIfS t T U) :=
  ⟨fun ρ K K' i q => h.mono _ _ _ (fun b k => by
    cases b with
    | true => exact h1.mono _ _ _ i k
    | false => exact h2.mono _ _ _ i k) q, (ps_if h.pt h1.pss h2.pss).imp fun En σ H ⟨B, F, ρ, R, q⟩ => ⟨B, F, ρ, R, h.mono _ _ _ (fun b k F' H' R' s => by
      cases b with
      | true => exact ⟨B, F', ρ, R', h1.mono _ _ _ (fun fl z => z.mono s) k⟩
      | false => exact ⟨B, F', ρ, R', h2.mono _ _ _ (fun fl z => z.mono s) k⟩) q⟩⟩
theorem sf_if {c : Expr} {a b : List Stmt} {t : Rho → Option Bool} {f g : Rho → Option Fl} (h : TF X c t) (h1 : SFs X a f) (h2 : SFs X b g) : SF X (.If c a b pos) (sIf t f g) := (sw_if h h1 h2).imp fW_mono fun ρ K ⟨p, e, k⟩ => by
  obtain ⟨d, e1, e2⟩ := Option.bind_eq_some_iff.mp e
  refine ⟨d, e1, ?_⟩
  cases d with
  | true => exact ⟨p, e2, k⟩
  | false => exact ⟨p, e2, k⟩
def forW (g : Tg) (T : TSt) : List D → Rho → (Fl → Prop) → Prop
  | [], ρ, K => K (.nx ρ)
  | p :: ps, ρ, K => ∃ ρ', g p ρ = some ρ' ∧ T ρ' fun fl => match fl with
    | .nx ρ2 => forW g T ps ρ2 K
    | .ct ρ2 => forW g T ps ρ2 K
    | .bk ρ2 => K (.nx ρ2)
    | .rt v => K (.rt v)
theorem forW_mono {g : Tg} {T : TSt} (m : ∀ ρ K K', (∀ p, K p → K' p) → T ρ K → T ρ K') : ∀ (ps : List D) (ρ : Rho) (K K' : Fl → Prop), (∀ p, K p → K' p) → forW g T ps ρ K → forW g T ps ρ K'
  | [], _, _, _, h, q => h _ q
  | p :: ps, ρ, K, K', h, ⟨ρ', e, q⟩ => ⟨ρ', e, m _ _ _ (fun fl k => by
      cases fl with
      | nx ρ2 => exact forW_mono m ps ρ2 K K' h k
      | ct ρ2 => exact forW_mono m ps ρ2 K K' h k
      | bk ρ2 => exact h _ k
      | rt v => exact h _ k) q⟩
def forF (g : Tg) (f : Rho → Option Fl) : List D → Rho → Option Fl
  | [], ρ => some (.nx ρ)
  | p :: ps, ρ => (g p ρ).bind fun ρ' => match f ρ' with
    | some (.nx ρ2) => forF g f ps ρ2
    | some (.ct ρ2) => forF g f ps ρ2
    | some (.bk ρ2) => some (.nx ρ2)
    | some (.rt v) => some (.rt v)
    | none => none
theorem forF_W {g : Tg} {f : Rho → Option Fl} : ∀ (ps : List D) (ρ : Rho) (out : Fl) (K : Fl → Prop), forF g f ps ρ = some out → K out → forW g (fW f) ps ρ K
  | [], ρ, out, K, e, k => by cases e; exact k
  | p :: ps, ρ, out, K, e, k => by
    unfold forF at e
    obtain ⟨ρ', e1, e⟩ := Option.bind_eq_some_iff.mp e
    refine ⟨ρ', e1, ?_⟩
    split at e
    · rename_i ρ2 h; exact ⟨_, h, forF_W ps ρ2 out K e k⟩
    · rename_i ρ2 h; exact ⟨_, h, forF_W ps ρ2 out K e k⟩
    · rename_i ρ2 h; cases e; exact ⟨_, h, k⟩
    · rename_i v h; cases e; exact ⟨_, h, k⟩
    · cases e
def wFor (g : Tg) (U : TL) (T : TSt) : TSt := fun ρ K => U ρ fun ps => forW g T ps ρ K
def sFor (g : Tg) (u : Rho → Option (List D)) (f : Rho → Option Fl) : Rho → Option Fl := fun ρ => (u ρ).bind fun ps => forF g f ps ρ
theorem sw_for {tg iter : Expr} {body : List Stmt} {g : Tg} {is : List Nat} {U : TL} {T : TSt} (hp : PassesOwn (model X.prog X.w) X.A X.env X.xe) (hc : X.calm = true) (hi : IW X tg iter U) (hg : GW X tg g is) (hb : SWs X body T)
    (hs : ∀ x, foldedSetIterable iter X.env x = pure x := by intro _; rfl) : SW X (.For tg iter body [] pos) (wFor g U T) := by
  refine ⟨fun ρ K K' h q => hi.mono _ _ _ (fun ps k => forW_mono hb.mono ps ρ K K' h k) q, (ps_for hp hc hi.pi hg hb.pss hs).imp fun En σ H ⟨B, F, ρ, R, q⟩ => ⟨B, F, ρ, R, hi.mono _ _ _ (fun ps k F1 H1 J R1 s1 hz wk => ?_) q⟩⟩
  refine ⟨fun i m σ H => m = ps.length - i ∧ i ≤ ps.length ∧ ∃ F2 ρ2, Rs X.K B F2 H σ ρ2 ∧ Same F1 F2 ∧ forW g T (ps.drop i) ρ2 (endOk X.K B F En), ⟨ps.length, by simp, Nat.zero_le _, F1, ρ, R1, Same.refl _, k⟩, ?_⟩
  rintro i m σ2 H2 ⟨rfl, hi2, F2, ρ2, R2, s2, q2⟩
  have sH : Same F1 H2 := s2.trans R2.sub
  by_cases hlt : i < ps.length
  · refine .inr ⟨wk.go i H2 hlt sH, fun σ' H' => ∃ F3 ρ3, Rs X.K B F3 H' σ' ρ3 ∧ Same F1 F3 ∧ forW g T (ps.drop (i + 1)) ρ3 (endOk X.K B F En), fun σ' H' n => ⟨ps.length - (i + 1), by omega, rfl, hlt, n⟩, fun x H' hy => ?_⟩
    obtain ⟨p, hp', y⟩ := wk.yld i H2 x H' hlt sH hy
    have e0 : ps.drop i = p :: ps.drop (i + 1) := by
      rw [List.drop_eq_getElem_cons hlt]
      obtain ⟨_, e⟩ := List.getElem?_eq_some_iff.mp hp'
      rw [e]
    rw [e0] at q2
    obtain ⟨ρ', eg, q2⟩ := q2
    obtain ⟨F3, R3, s3, d3⟩ := yl_step R2 s2 y
    refine ⟨B, F3, ρ2, p, ρ', R3, d3, eg, fun σ' R4 _ _ _ => ⟨B, F3, ρ', R4, hb.mono _ _ _ (fun fl k => ?_) q2⟩⟩
    have sF : Same F F3 := (s1.trans s2).trans s3
    cases fl with
    | nx ρ3 => exact fun F4 H4 σ4 R5 s5 => ⟨F4, ρ3, R5, (s2.trans s3).trans s5, k⟩
    | ct ρ3 => exact fun F4 H4 σ4 R5 s5 => ⟨F4, ρ3, R5, (s2.trans s3).trans s5, k⟩
    | bk ρ3 => exact fun F4 H4 σ4 R5 s5 => k F4 H4 σ4 R5 (sF.trans s5)
    | rt v => exact fun F4 H4 u R5 s5 d5 => k F4 H4 u R5 (sF.trans s5) d5
  · have e : i = ps.length := by omega
    subst e
    rw [List.drop_length] at q2
    exact .inl ⟨wk.stop H2 sH, q2 F2 H2 σ2 R2 (s1.trans s2)⟩
theorem sf_for {tg iter : Expr} {body : List Stmt} {g : Tg} {is : List Nat} {u : Rho → Option (List D)} {f : Rho → Option Fl} (hp : PassesOwn (model X.prog X.w) X.A X.env X.xe) (hc : X.calm = true) (hi : IF X tg iter u) (hg : GW X tg g is) (hb : SFs X body f)
    (hs : ∀ x, foldedSetIterable iter X.env x = pure x := by intro _; rfl) : SF X (.For tg iter body [] pos) (sFor g u f) := (sw_for hp hc hi hg hb hs).imp fW_mono fun ρ K ⟨p, e, k⟩ => by
  obtain ⟨ps, e1, e2⟩ := Option.bind_eq_some_iff.mp e
  exact ⟨ps, e1, forF_W ps ρ p K e2 k⟩
def whW (t : TB) (T : TSt) : Nat → Rho → (Fl → Prop) → Prop
  | 0, _, _ => False
  | n + 1, ρ, K => t ρ fun b => if b = true then T ρ fun fl => match fl with
      | .nx ρ2 => whW t T n ρ2 K
      | .ct ρ2 => whW t T n ρ2 K
      | .bk ρ2 => K (.nx ρ2)
      | .rt v => K (.rt v)
    else K (.nx ρ)
theorem whW_mono {t : TB} {T : TSt} (mt : ∀ ρ K K', (∀ p, K p → K' p) → t ρ K → t ρ K') (m : ∀ ρ K K', (∀ p, K p → K' p) → T ρ K → T ρ K') : ∀ (n : Nat) (ρ : Rho) (K K' : Fl → Prop), (∀ p, K p → K' p) → whW t T n ρ K → whW t T n ρ K'
  | 0, _, _, _, _, q => q
  | n + 1, ρ, K, K', h, q => mt _ _ _ (fun b k => by
    cases b with
    | false => exact h _ k
    | true => exact m _ _ _ (fun fl z => by
      cases fl with
      | nx ρ2 => exact whW_mono mt m n ρ2 K K' h z
      | ct ρ2 => exact whW_mono mt m n ρ2 K K' h z
      | bk ρ2 => exact h _ z
      | rt v => exact h _ z) k) q
def whF (t : Rho → Option Bool) (f : Rho → Option Fl) : Nat → Rho → Option Fl
  | 0, _ => none
  | n + 1, ρ => (t ρ).bind fun b => if b = true then match f ρ with
      | some (.nx ρ2) => whF t f n ρ2
      | some (.ct ρ2) => whF t f n ρ2
      | some (.bk ρ2) => some (.nx ρ2)
      | some (.rt v) => some (.rt v)
      | none => none
    else some (.nx ρ)
theorem whF_W {t : Rho → Option Bool} {f : Rho → Option Fl} : ∀ (n : Nat) (ρ : Rho) (out : Fl) (K : Fl → Prop), whF t f n ρ = some out → K out → whW (fW t) (fW f) n ρ K
  | 0, _, _, _, e, _ => by cases e
  | n + 1, ρ, out, K, e, k => by
    unfold whF at e
    obtain ⟨b, e1, e⟩ := Option.bind_eq_some_iff.mp e
    refine ⟨b, e1, ?_⟩
    cases b with
    | false => cases e; exact k
    | true =>
      rw [if_pos rfl] at e
      show fW f ρ _
      split at e
      · rename_i ρ2 h; exact ⟨_, h, whF_W n ρ2 out K e k⟩
      · rename_i ρ2 h; exact ⟨_, h, whF_W n ρ2 out K e k⟩
      · rename_i ρ2 h; cases e; exact ⟨_, h, k⟩
      · rename_i v h; cases e; exact ⟨_, h, k⟩
      · cases e
def wWh (t : TB) (T : TSt) : TSt := fun ρ K => ∃ n, whW t T n ρ K
theorem sw_while {c : Expr} {body : List Stmt} {t : TB} {T : TSt} (hp : PassesOwn (model X.prog X.w) X.A X.env X.xe) (hc : TWT X c t) (hb : SWs X body T) : SW X (.While c body [] pos) (wWh t T) := by
  refine ⟨fun ρ K K' h ⟨n, q⟩ => ⟨n, whW_mono hc.mono hb.mono n ρ K K' h q⟩, (ps_while hp hc.pt hb.pss).imp fun En σ H ⟨B, F, ρ, R, n, q⟩ => ?_⟩
  refine ⟨fun m σ H => ∃ F2 ρ2, Rs X.K B F2 H σ ρ2 ∧ Same F F2 ∧ whW t T m ρ2 (endOk X.K B F En), ⟨n, F, ρ, R, Same.refl _, q⟩, ?_⟩
  rintro m σ2 H2 ⟨F2, ρ2, R2, s2, q2⟩
  cases m with
  | zero => exact q2.elim
  | succ m =>
    refine ⟨B, F2, ρ2, R2, hc.mono _ _ _ (fun b k F3 H3 R3 s3 => ?_) q2⟩
    cases b with
    | false => exact k F3 H3 σ2 R3 (s2.trans s3)
    | true =>
      refine ⟨fun σ' H' => ∃ F3 ρ3, Rs X.K B F3 H' σ' ρ3 ∧ Same F F3 ∧ whW t T m ρ3 (endOk X.K B F En), fun σ' H' z => ⟨m, Nat.lt_succ_self _, z⟩, B, F3, ρ2, R3, hb.mono _ _ _ (fun fl z => ?_) k⟩
      have sF : Same F F3 := s2.trans s3
      cases fl with
      | nx ρ3 => exact fun F4 H4 σ4 R5 s5 => ⟨F4, ρ3, R5, sF.trans s5, z⟩
      | ct ρ3 => exact fun F4 H4 σ4 R5 s5 => ⟨F4, ρ3, R5, sF.trans s5, z⟩
      | bk ρ3 => exact fun F4 H4 σ4 R5 s5 => z F4 H4 σ4 R5 (sF.trans s5)
      | rt v => exact fun F4 H4 u R5 s5 d5 => z F4 H4 u R5 (sF.trans s5) d5
theorem sf_while (n : Nat) {c : Expr} {body : List Stmt} {t : Rho → Option Bool} {f : Rho → Option Fl} (hp : PassesOwn (model X.prog X.w) X.A X.env X.xe) (hc : TF X c t) (hb : SFs X body f) : SF X (.While c body [] pos) (whF t f n) :=
  (sw_while hp hc hb).imp fW_mono fun ρ K ⟨p, e, k⟩ => ⟨n, whF_W n ρ p K e k⟩
end
end L2.P


set_option Elab.async false
set_option linter.all false
set_option maxRecDepth 100000
set_option maxHeartbeats 4000000
namespace L2.P
open PySem PySem.Spec PyProof.Rows L2

/-- a def of n parameters: its result is a function of its arguments' data -/
def spF (K : Fg) (n : Nat) (T : List D → (D → Prop) → Prop) : Sp := fun vs H Q _ => vs.length = n ∧ ∃ F ps, Same F H ∧ TbOk K F H ∧ DpAll K F vs ps ∧
  T ps fun p => ∀ F' H' v, Same F F' → SameX K none H H' → Same F' H' → TbOk K F' H' → (∀ b, F b = none → F' b ≠ none → Fz (H b)) → Dp K F' v p → Q v H'
/-- a def whose first argument is the row of draws -/
def spR (K : Fg) (n : Nat) (T : List D → (D → Prop) → Prop) : Sp := fun vs H Q _ => vs.length = n + 1 ∧ ∃ r us F ps, vs = .ref r :: us ∧ Same F H ∧ TbOk K F H ∧ F r = none ∧ RowOk K none F H r ∧ DpAll K F us ps ∧
  T ps fun p => ∀ F' H' v, Same F F' → SameX K (some r) H H' → Same F' H' → TbOk K F' H' → (∀ b, F b = none → F' b ≠ none → Fz (H b)) → RowOk K none F' H' r → Dp K F' v p → Q v H'
/-- a def that may be called: its level k -/
def Cal (P : Program) (w : World) (K : Fg) (mg : Str → Option Value) (base : Heap) (A : Around) (x : Str) (sp : Sp) : Prop :=
  ∃ (k : Nat) (f : Addr) (fd : FuncData) (ps : List Str), FnOk P w K mg base CX0 k f fd ps sp ∧ Room k A ∧ mg x = some (.ref f) ∧ PySem.W.keepIn K (.ref f) = true ∧ Binds K fd ps []
abbrev CalX (X : Cx) (x : Str) (sp : Sp) : Prop := Cal X.prog X.w X.K X.mg X.base X.A x sp
section
variable {K : Fg} {B : Bs} {F F' H H' : Hp} {σ : St} {ρ : Rho}
/-- behind a call of a def -/
theorem Rs.call (R : Rs K B F H σ ρ) (s : Same F F') (sH : SameX K none H H') (sF : Same F' H') (tb : TbOk K F' H') (fr : ∀ b, F b = none → F' b ≠ none → Fz (H b)) : Rs K B F' H' σ ρ where
  tb := tb
  tbh := R.tbh
  sub := sF
  ext := R.ext.trans s
  new := fun b h1 h2 => by
    cases q : F b with
    | none => exact R.fz (fr b q h2)
    | some u => exact R.new b h1 (by rw [q]; simp)
  old := fun b x hb e => sH.any b x hb (R.old b x hb e)
  hrow := fun r hr => by
    obtain ⟨h1, h2⟩ := R.hrow r hr
    obtain ⟨u, hu, nt⟩ := h2.thereN
    have nr : ∀ p ∈ tbT K, p.1 ≠ r := h2.nob R.tb
    refine ⟨?_, h2.mono s fun o e => sH _ _ ⟨by simp, nr⟩ e⟩
    cases q : F' r with
    | none => rfl
    | some z =>
      rcases fr r h1 (by rw [q]; simp) with this | ⟨xs, this⟩
      · rw [hu] at this; cases this
      · rw [hu] at this; exact absurd (Option.some.inj this) (nt xs)
  hr2 := R.hr2
  len := R.len
  at_ := fun i t ht => (R.at_ i t ht).monoT s (fun a f ⟨o, q, nt⟩ => by
    cases z : F' a with
    | none => rfl
    | some u =>
      rcases fr a f (by rw [z]; simp) with this | ⟨xs, this⟩
      · rw [q] at this; cases this
      · rw [q] at this; exact absurd (Option.some.inj this) (nt xs)) fun a o f nt q => sH _ _ ⟨by simp, R.tb.ne q nt⟩ q
  apart := R.apart
/-- behind a call of a def that draws: the row is r -/
theorem Rs.callR {m : Option MG} {r : Addr} {i : Nat} (R : Rs K B F H σ ρ) (hi : ρ[i]? = some (.rw m)) (hσ : σ[i]? = some (some (.ref r))) (s : Same F F') (sH : SameX K (some r) H H') (sF : Same F' H') (tb : TbOk K F' H') (fr : ∀ b, F b = none → F' b ≠ none → Fz (H b)) (ok : RowOk K m F' H' r) : Rs K B F' H' σ ρ := by
  have q := R.at_ i _ hi
  rw [hσ] at q
  obtain ⟨f0, h0, ok0⟩ : F r = none ∧ (B.Ha r = none ∨ (B.r = some r ∧ B.m = m ∧ noX m)) ∧ RowOk K m F H r := by
    cases q with
    | row a b c => exact ⟨a, b, c⟩
  have fre : ∀ a, F a = none → (∃ o, H a = some o ∧ ∀ xs, o ≠ HO.tup xs) → F' a = none := fun a f ⟨o, q, nt⟩ => by
    cases z : F' a with
    | none => rfl
    | some u =>
      rcases fr a f (by rw [z]; simp) with this | ⟨xs, this⟩
      · rw [q] at this; cases this
      · rw [q] at this; exact absurd (Option.some.inj this) (nt xs)
  refine ⟨sF, R.ext.trans s, fun b h1 h2 => ?_, fun b x hb e => ?_, fun r' hr => ?_, R.hr2, R.len, fun j t ht => ?_, R.apart, tb, R.tbh⟩
  · cases q : F b with
    | none => exact R.fz (fr b q h2)
    | some u => exact R.new b h1 (by rw [q]; simp)
  · refine sH b x ⟨fun z => ?_, hb.2⟩ (R.old b x hb e)
    cases z
    rcases h0 with h0 | h0
    · rw [h0] at e; cases e
    · exact hb.1 h0.1.symm
  · obtain ⟨h1, h2⟩ := R.hrow r' hr
    refine ⟨fre r' h1 h2.thereN, ?_⟩
    by_cases e : r' = r
    · subst e
      rcases h0 with h0 | h0
      · exact absurd h0 (R.hr2 _ hr)
      · rw [h0.2.1]; exact ok
    · exact h2.mono s fun o z => sH _ _ ⟨fun y => e (by cases y; rfl), h2.nob R.tb⟩ z
  · by_cases e : i = j
    · subst e
      rw [hi] at ht; cases ht
      rw [hσ]
      exact .row (fre r f0 ok0.thereN) h0 ok
    · have q2 := R.at_ j t ht
      have far : t.owns = true → σ[j]? = some (some (V.ref r)) → False := fun o e2 => R.apart i j r _ t e hi ht rfl o hσ e2
      generalize hx : σ[j]? = x at q2 far
      cases q2 with
      | no => exact .no
      | v d => exact .v (d.same s)
      | @ol c zs rs g1 g2 g3 g4 => exact .ol (fre _ g1 ⟨_, g3, fun _ z => by cases z⟩) g2 (sH _ _ ⟨fun y => far rfl (by cases y; rfl), R.tb.ne g3 (not_te rfl)⟩ g3) (g4.same s)
      | @od t c kvs g1 g2 g3 => exact .od (fre _ g1 g3.there) g2 (g3.mono s fun o z => sH _ _ ⟨fun y => far rfl (by cases y; rfl), g3.nob R.tb⟩ z)
      | @row c _ g1 g2 g3 => exact .row (fre _ g1 g3.thereN) g2 (g3.mono s fun o z => sH _ _ ⟨fun y => far rfl (by cases y; rfl), g3.nob R.tb⟩ z)
end

section
variable {X : Cx} {x : Str} {p pos : Pos} {e : Expr} {es : List Expr} {n : Nat}
def wCal (T : List D → (D → Prop) → Prop) (U : TL) : TW := fun ρ K => U ρ fun ps => T ps K
theorem sp_ok {K : Fg} {U : TL} {T : List D → (D → Prop) → Prop} (mt : ∀ ps K K', (∀ p, K p → K' p) → T ps K → T ps K') (mu : ∀ ρ K K', (∀ p, K p → K' p) → U ρ K → U ρ K') (hl : LenW U n) {σ : St} {H : Hp} {Q : VK} (h : tW K (wCal T U) σ H Q) : tCall (spF K n T) [] E0 (tEA K U) σ H Q := by
  obtain ⟨B, F, ρ, R, q⟩ := h
  refine ⟨B, F, ρ, R, mu _ _ _ (fun ps k F1 H1 vs R1 s1 d1 => ?_) (hl _ _ q)⟩
  refine ⟨by rw [List.append_nil, d1.length]; exact k.1, F1, ps, R1.sub, R1.tb, by rw [List.append_nil]; exact d1, mt _ _ _ (fun z kz F2 H2 v s2 sH sF tb fr d2 => kz F2 H2 v (R1.call s2 sH sF tb fr) (s1.trans s2) d2) k.2⟩
theorem ew_call {T : List D → (D → Prop) → Prop} {U : TL} (c : CalX X x (spF X.K n T)) (mt : ∀ ps K K', (∀ p, K p → K' p) → T ps K → T ps K') (ha : EA X (e :: es) U) (hl : LenW U n) (hg : Gl X x) (hdb : (x == ("__debug__" : Str)) = false := by decide)
    (he : starEach (e :: es) X.env = (false, eval e X.env) :: starEach es X.env := by rfl) (hpl : (backTo pos (starEach es X.env)).any (·.1) = false := by rfl) : EW X (.Call (.Name x p) (e :: es) [] pos) (wCal T U) := by
  obtain ⟨k, f, fd, ps, F, hr, hm, hk, hb⟩ := c
  exact ⟨fun ρ K K' h q => ha.mono _ _ _ (fun ps => mt ps _ _ h) q, (pe_call F hr hg hm hk hb .nil pass0 ha.pa hdb he hpl).imp fun σ H Q h => sp_ok mt ha.mono hl h⟩
theorem ef_call {g : GA} {f : Rho → Option (List D)} (c : CalX X x (spF X.K n (fun ps K => ∃ z, g ps = some z ∧ K z))) (ha : EAF X (e :: es) f) (hl : LenA f n) (hg : Gl X x) (hdb : (x == ("__debug__" : Str)) = false := by decide)
    (he : starEach (e :: es) X.env = (false, eval e X.env) :: starEach es X.env := by rfl) (hpl : (backTo pos (starEach es X.env)).any (·.1) = false := by rfl) : EF X (.Call (.Name x p) (e :: es) [] pos) (aOf g f) :=
  EW.f ((ew_call c (fun ps K K' h ⟨z, e, k⟩ => ⟨z, e, h z k⟩) ha (fun ρ K ⟨p, e, k⟩ => ⟨p, e, hl _ _ e, k⟩) hg hdb he hpl).imp (wOf_mono fW_mono) fun ρ K q => q)
/-- f(row, e, ..): the row stands at slot i -/
theorem ew_callR {T : List D → (D → Prop) → Prop} {U : TL} {i : Nat} {y : Str} {py : Pos} (c : CalX X x (spR X.K n T)) (mt : ∀ ps K K', (∀ p, K p → K' p) → T ps K → T ps K') (hN : X.N[i]? = some y) (hv : Vis X.env.scope y) (ha : EA X es U) (hl : LenW U n) (hg : Gl X x) (hdb : (x == ("__debug__" : Str)) = false := by decide)
    (hd : (y == ("__debug__" : Str)) = false := by decide) (hcd : (y == ("__classdict__" : Str)) = false := by decide)
    (he : starEach (.Name y py :: es) X.env = (false, eval (.Name y py) X.env) :: starEach es X.env := by rfl) (hpl : (backTo pos (starEach es X.env)).any (·.1) = false := by rfl) : EW X (.Call (.Name x p) (.Name y py :: es) [] pos) (fun ρ K => ρ[i]? = some .row ∧ wCal T U ρ K) := by
  obtain ⟨k, f, fd, ps, F, hr, hm, hk, hb⟩ := c
  refine ⟨fun ρ K K' h ⟨z, q⟩ => ⟨z, ha.mono _ _ _ (fun ps => mt ps _ _ h) q⟩, (pe_call F hr hg hm hk hb .nil pass0 (pa_cons (pe_var hN hv hd hcd) ha.pa he) hdb he hpl).imp fun σ H Q ⟨B, F, ρ, R, hi, q⟩ => ?_⟩
  have z := R.at_ i _ hi
  generalize hσ : σ[i]? = o at z
  cases z with
  | @row r _ f0 h0 ok =>
    refine ⟨_, hσ, B, F, ρ, R, ha.mono _ _ _ (fun ps k F1 H1 vs R1 s1 d1 => ?_) (hl _ _ q)⟩
    have z1 := R1.at_ i _ hi
    rw [hσ] at z1
    cases z1 with
    | row f1 h1 ok1 =>
      refine ⟨by rw [List.append_nil, List.length_cons, d1.length]; rw [k.1], r, vs, F1, ps, by rw [List.append_nil], R1.sub, R1.tb, f1, ok1, d1, mt _ _ _ (fun z kz F2 H2 v s2 sH sF tb fr ok2 d2 => kz F2 H2 v (R1.callR hi hσ s2 sH sF tb fr ok2) (s1.trans s2) d2) k.2⟩
end

/-- the slots at the entry -/
def rho0 (n : Nat) (ps : List D) : Rho := ps.map Sl.v ++ List.replicate (n - ps.length) .no
/-- what the body makes of the arguments -/
def runW (n : Nat) (T : TSt) : List D → (D → Prop) → Prop := fun ps K => T (rho0 n ps) fun fl => match fl with
  | .rt p => K p
  | .nx _ => K .none
  | _ => False
def runF (n : Nat) (f : Rho → Option Fl) : GA := fun ps => match f (rho0 n ps) with
  | some (.rt p) => some p
  | some (.nx _) => some .none
  | _ => none
theorem start_at {N : List Str} {vs : List V} {i : Nat} {v : V} (h : vs[i]? = some v) : (start N vs)[i]? = some (some v) := by
  unfold start
  have hl : i < vs.length := (List.getElem?_eq_some_iff.mp h).1
  rw [List.getElem?_append_left (by simpa using hl), List.getElem?_map, h]
  rfl
theorem rho0_at {n : Nat} {ps : List D} {i : Nat} {s : Sl} (h : (rho0 n ps)[i]? = some s) : s = .no ∨ ∃ p, ps[i]? = some p ∧ s = .v p := by
  unfold rho0 at h
  by_cases hl : i < ps.length
  · rw [List.getElem?_append_left (by simpa using hl), List.getElem?_map, List.getElem?_eq_getElem hl] at h
    cases h
    exact .inr ⟨_, List.getElem?_eq_getElem hl, rfl⟩
  · rw [List.getElem?_append_right (by simpa using hl), List.getElem?_replicate] at h
    split at h
    · cases h; exact .inl rfl
    · cases h
section
variable {P : Program} {w : World} {K : Fg} {mg : Str → Option Value} {base : Heap} {x qual : Str} {params : Arguments} {body : List Stmt} {scope : Scope} {f : Addr} {fd : FuncData} {N ps : List Str} {k : Nat}
theorem rs_start {F H : Hp} {vs : List V} {ds : List D} (s : Same F H) (tb : TbOk K F H) (d : DpAll K F vs ds) (hl : vs.length ≤ N.length) : Rs K ⟨F, H, none, none⟩ F H (start N vs) (rho0 N.length ds) where
  sub := s
  ext := Same.refl _
  new := fun b h1 h2 => absurd h1 h2
  old := SameX.refl _
  hrow := fun r h => by cases h
  hr2 := fun r h => by cases h
  tb := tb
  tbh := fun p hp => by obtain ⟨ps, h1, _⟩ := tb.2.1 p hp; exact ⟨ps, h1⟩
  len := by unfold start rho0; have := d.length; simp only [List.length_append, List.length_map, List.length_replicate]; omega
  at_ := fun i t ht => by
    rcases rho0_at ht with rfl | ⟨p, hp, rfl⟩
    · exact .no
    · obtain ⟨v, hv, dv⟩ := d.get hp
      rw [start_at hv]
      exact .v dv
  apart := fun i j a s t hij h1 h2 o1 o2 e1 e2 => by
    rcases rho0_at h1 with rfl | ⟨p, hp, rfl⟩ <;> cases o1
/-- THE RULE: a def without draws -/
theorem fn_pure {T : TSt} {n : Nat} (Fd : FunD K x qual params body scope [] [] f fd) (S : FnScope N ps scope) (hn : ps.length = n) (hnN : n ≤ N.length)
    (hb : ∀ (cdv : Value) (A : Around) (outer : List Env) (s : Shared) (H : Hp) (E : XK), Room k (A.deeper (envOfC qual scope s.heap.objs.size f cdv)) → SWs (cxOf CX0 P w K mg base N qual scope f cdv A outer s H E).nox body T) :
    FnOk P w K mg base CX0 (k + 1) f fd ps (spF K n (runW N.length T)) := by
  refine Fd.ok S (fun vs H Q E h => by rw [h.1, hn]) fun cdv A outer s H vs Q E hr h => ?_
  have W := hb cdv A outer s H E hr
  refine ⟨_, PSs.nox W.pss, ?_⟩
  obtain ⟨hl, F, ds, sF, tb, d, q⟩ := h
  refine ⟨⟨F, H, none, none⟩, F, rho0 N.length ds, rs_start sF tb d (by omega), W.mono _ _ _ (fun fl k => ?_) q⟩
  cases fl with
  | nx ρ' => exact fun F' H' σ' R' s' => k F' H' .non s' R'.old R'.sub R'.tb R'.new .non
  | rt p => exact fun F' H' v ⟨σ', ρ', R'⟩ s' d' => k F' H' v s' R'.old R'.sub R'.tb R'.new d'
  | bk ρ' => exact k.elim
  | ct ρ' => exact k.elim
theorem fn_pureF {g : Rho → Option Fl} {n : Nat} (Fd : FunD K x qual params body scope [] [] f fd) (S : FnScope N ps scope) (hn : ps.length = n) (hnN : n ≤ N.length)
    (hb : ∀ (cdv : Value) (A : Around) (outer : List Env) (s : Shared) (H : Hp) (E : XK), Room k (A.deeper (envOfC qual scope s.heap.objs.size f cdv)) → SFs (cxOf CX0 P w K mg base N qual scope f cdv A outer s H E).nox body g) :
    FnOk P w K mg base CX0 (k + 1) f fd ps (spF K n (fun ds Kc => ∃ z, runF N.length g ds = some z ∧ Kc z)) := by
  refine FnOk.imp (fn_pure Fd S hn hnN hb) fun vs H Q E ⟨h0, F, ds, s, tb, d, z, e, q⟩ => ⟨h0, F, ds, s, tb, d, ?_⟩
  unfold runF at e
  split at e
  · rename_i p h; cases e; exact ⟨_, h, q⟩
  · rename_i p h; cases e; exact ⟨_, h, q⟩
  · cases e
/-- a weaker promise: by another function -/
theorem FnOk.fn {n : Nat} {g g' : GA} (h : FnOk P w K mg base CX0 k f fd ps (spF K n (fun ds Kc => ∃ z, g ds = some z ∧ Kc z))) (e : ∀ ds z, g' ds = some z → g ds = some z) : FnOk P w K mg base CX0 k f fd ps (spF K n (fun ds Kc => ∃ z, g' ds = some z ∧ Kc z)) :=
  FnOk.imp h fun vs H Q E ⟨h0, F, ds, s, tb, d, z, e1, q⟩ => ⟨h0, F, ds, s, tb, d, z, e ds z e1, q⟩
end
end L2.P


set_option Elab.async false
set_option linter.all false
set_option maxRecDepth 100000
set_option maxHeartbeats 4000000
namespace L2.P
open PySem PySem.Spec PyProof.Rows L2
/-- built-in names that the module does not bind -/
structure Bi (mg : Str → Option Value) : Prop where
  len : mg "len" = none
  range : mg "range" = none
  tuple : mg "tuple" = none
  list : mg "list" = none
  sorted : mg "sorted" = none
  set : mg "set" = none
  any : mg "any" = none
  all : mg "all" = none
  min : mg "min" = none
  max : mg "max" = none
  sum : mg "sum" = none
  abs : mg "abs" = none
  int : mg "int" = none
  str : mg "str" = none
  bool : mg "bool" = none
  isinstance : mg "isinstance" = none
  enumerate : mg "enumerate" = none
  zip : mg "zip" = none
/-- a def that stands behind the top -/
def DefOk (P : Program) (w : World) (K : Fg) (mg : Str → Option Value) (base : Heap) (x : Str) (k : Nat) (sp : Sp) : Prop :=
  ∃ (f : Addr) (fd : FuncData) (ps : List Str), FnOk P w K mg base CX0 k f fd ps sp ∧ mg x = some (.ref f) ∧ PySem.W.keepIn K (.ref f) = true ∧ Binds K fd ps []
theorem DefOk.cal {P : Program} {w : World} {K : Fg} {mg : Str → Option Value} {base : Heap} {x : Str} {k j : Nat} {sp : Sp} {A : Around} (h : DefOk P w K mg base x k sp) (hr : Room j A) (hk : k ≤ j := by decide) : Cal P w K mg base A x sp := by
  obtain ⟨f, fd, ps, F, m, kp, b⟩ := h
  exact ⟨k, f, fd, ps, F, hr.mono hk, m, kp, b⟩
abbrev spG (K : Fg) (n : Nat) (g : GA) : Sp := spF K n (fun ps Kc => ∃ z, g ps = some z ∧ Kc z)
abbrev DG (P : Program) (w : World) (K : Fg) (mg : Str → Option Value) (base : Heap) (x : Str) (k n : Nat) (g : GA) : Prop := DefOk P w K mg base x k (spG K n g)
section
variable {X : Cx} {a b e : Expr} {es : List Expr} {p pos : Pos}
theorem ev (i : Nat) {x : Str} {pos : Pos} (hN : X.N[i]? = some x := by rfl) (hv : Vis X.env.scope x := by first | exact Or.inl rfl | exact Or.inr (Or.inl rfl) | exact Or.inr (Or.inr rfl)) (hd : (x == ("__debug__" : Str)) = false := by decide)
    (hcd : (x == ("__classdict__" : Str)) = false := by decide) : EF X (.Name x pos) (gV i) := ef_var hN hv hd hcd
theorem xv (i : Nat) {x : Str} {pos : Pos} (hN : X.N[i]? = some x := by rfl) (hv : Vis X.env.scope x := by first | exact Or.inl rfl | exact Or.inr (Or.inl rfl) | exact Or.inr (Or.inr rfl)) (hd : (x == ("__debug__" : Str)) = false := by decide)
    (hcd : (x == ("__classdict__" : Str)) = false := by decide) : XF X (.Name x pos) (gX i) := xf_var hN hv hd hcd
theorem ef_gint {i : Int} {x : Str} {pos : Pos} (h : ∃ t, X.mg x = some (.int i t)) (hg : Gl X x := by rfl) (hd : (x == ("__debug__" : Str)) = false := by decide) : EF X (.Name x pos) (gC (.int i)) := by
  obtain ⟨t, h⟩ := h
  exact ef_con (pe_glob (v := .int i) hg h ⟨_, rfl⟩ hd) fun _ _ => .int i
theorem c_len {f : Rho → Option (List D)} (B : Bi X.mg) (h : XAF X [a] f) (hg : Gl X "len" := by rfl) (he : starEach [a] X.env = (false, eval a X.env) :: starEach [] X.env := by rfl) : EF X (.Call (.Name "len" p) [a] [] pos) (aOf gLen f) := EW.f (ew_callB cg_len h hg B.len boot_len (he := he) (hpl := rfl))
theorem c_tuple {f : Rho → Option (List D)} (B : Bi X.mg) (h : XAF X [a] f) (hg : Gl X "tuple" := by rfl) (he : starEach [a] X.env = (false, eval a X.env) :: starEach [] X.env := by rfl) : EF X (.Call (.Name "tuple" p) [a] [] pos) (aOf gTup f) := EW.f (ew_callT cg_tuple h hg B.tuple (by decide +kernel) (he := he) (hpl := rfl))
theorem n_list {f : Rho → Option (List D)} (B : Bi X.mg) (h : XAF X [a] f) (hg : Gl X "list" := by rfl) (he : starEach [a] X.env = (false, eval a X.env) :: starEach [] X.env := by rfl) : NF X (.Call (.Name "list" p) [a] [] pos) (aOf gLst f) := NW.f (nw_callT cn_list h hg B.list (by decide +kernel) (he := he) (hpl := rfl))
theorem c_any {f : Rho → Option (List D)} (B : Bi X.mg) (h : XAF X [a] f) (hc : X.calm = true := by rfl) (hg : Gl X "any" := by rfl) (he : starEach [a] X.env = (false, eval a X.env) :: starEach [] X.env := by rfl) : EF X (.Call (.Name "any" p) [a] [] pos) (aOf gAny f) := EW.f (ew_callB (cg_any hc) h hg B.any (by decide +kernel) (he := he) (hpl := rfl))
theorem c_all {f : Rho → Option (List D)} (B : Bi X.mg) (h : XAF X [a] f) (hc : X.calm = true := by rfl) (hg : Gl X "all" := by rfl) (he : starEach [a] X.env = (false, eval a X.env) :: starEach [] X.env := by rfl) : EF X (.Call (.Name "all" p) [a] [] pos) (aOf gAll f) := EW.f (ew_callB (cg_all hc) h hg B.all (by decide +kernel) (he := he) (hpl := rfl))
end
end L2.P
namespace L2.P
open PySem PySem.Spec PyProof.Rows L2
theorem gw_sub {X : Cx} {tg : Expr} {g : Tg} {is is' : List Nat} (h : GW X tg g is) (hs : ∀ i ∈ is, i ∈ is' := by decide) : GW X tg g is' :=
  PG.imp h fun x σ H Q ⟨B, F, ρ, p, ρ', R, d, e, q⟩ => ⟨B, F, ρ, p, ρ', R, d, e, fun σ' R' hl h1 h2 => q σ' R' hl (fun j hj => h1 j fun z => hj (hs j z)) fun j hj => h2 j fun z => hj (hs j z)⟩
end L2.P
namespace L2.P
open PySem PySem.Spec PyProof.Rows L2
theorem bt_int : bootBuiltins "int" = some (.type "int") := by decide +kernel
theorem bt_bool : bootBuiltins "bool" = some (.type "bool") := by decide +kernel
theorem bt_list : bootBuiltins "list" = some (.type "list") := by decide +kernel
theorem bt_tuple : bootBuiltins "tuple" = some (.type "tuple") := by decide +kernel
theorem bt_isi : bootBuiltins "isinstance" = some (.builtin "isinstance") := by decide +kernel
end L2.P


set_option Elab.async false
set_option linter.all false
set_option maxRecDepth 100000
set_option maxHeartbeats 4000000
namespace PySem
open Sem (wp)
open AutoSeq1 (wpAny_loadPart')
theorem meets_enumerate_newT_P (l : Addr) (items : Array Value) (n : Nat) (dct : Option Addr) (sl : Array (Option Value)) :
    Meets (Builtin.«enumerate.__new__» ⟨[.type "enumerate", .ref l], []⟩) (fun _ R s => s.heap.get? l = some { cls := .type "tuple", dict := dct, data := .seq items n, slots := sl } ∧
      R (.ok (.ret (.ref (s.heap.push { cls := .type "tuple_iterator", data := .fields #[.ref l, .int 0 0] }).objs.size)))
        { s with heap := (s.heap.push { cls := .type "tuple_iterator", data := .fields #[.ref l, .int 0 0] }).push { cls := .type "enumerate", data := .fields #[.none, .bool false, .ref s.heap.objs.size, rawInt 0, .none, .none] } }) :=
  .of_wp fun prog w A R s h => by
    obtain ⟨hp, g, d, tk, os⟩ := s; obtain ⟨hl, h⟩ := h
    have hsub := sub_enumerate
    have hL : Heap.IsTuple (Shared.heap ⟨hp, g, d, tk, os⟩) l items := ⟨_, hl, rfl, n, rfl⟩
    wp_walk using wpAny_loadPart' hl
    refine wpAny_stack_any fun st => wpAny_pure ?_
    split
    · rename_i c _ _ _ _ _
      cases (c == Value.type "enumerate")
      · wp_walk using wpAny_loadPart' hl, wpAny_pyIter_tuple hL
        exact ⟨_, rfl, h⟩
      · wp_walk using wpAny_loadPart' hl, wpAny_pyIter_tuple hL
        exact ⟨_, rfl, h⟩
    · wp_walk using wpAny_loadPart' hl, wpAny_pyIter_tuple hL
      exact ⟨_, rfl, h⟩
section
variable {prog : Program} {w : World} {A : Around} {E : Value → Shared → Prop} {s : Shared}
theorem call_enumerate_tuple_P {l : Addr} {items : Array Value} {Q : Value → Shared → Prop} (hL : s.heap.IsTuple l items)
    (h : ∀ h', IsEnum h' (s.heap.objs.size + 1) s.heap.objs.size 0 .none → h'.IsTupleIter s.heap.objs.size l 0 → h'.objs.size = s.heap.objs.size + 2 →
      (∀ b o, s.heap.get? b = some o → h'.get? b = some o) → Q (.ref (s.heap.objs.size + 1)) { s with heap := h' }) :
    wpAny (model prog w) A (call (.type "enumerate") [.ref l]) Q E s := by
  obtain ⟨⟨c, dct, dt, sl⟩, hl, hc, n, hd⟩ := hL
  replace hc : c = .type "tuple" := hc
  replace hd : dt = .seq items n := hd
  subst hc hd
  refine callType_new F.called_enumerate (by decide) (F.typeCall_enumerate_1 _) (F.newCall_enumerate_1 _) (fun obj => F.args_object_init_2 obj _) F.entry_enumerate_new
    (meets_enumerate_newT_P l items n dct sl) ⟨hl, ?_⟩
  have hz : (s.heap.push { cls := .type "tuple_iterator", data := .fields #[.ref l, .int 0 0] }).objs.size = s.heap.objs.size + 1 := Heap.size_push ..
  show _ ∧ _
  rw [hz]
  have he : IsEnum ((s.heap.push { cls := .type "tuple_iterator", data := .fields #[.ref l, .int 0 0] }).push
      { cls := .type "enumerate", data := .fields #[.none, .bool false, .ref s.heap.objs.size, rawInt 0, .none, .none] }) (s.heap.objs.size + 1) s.heap.objs.size 0 .none := by
    have := Heap.get?_push_size (s.heap.push { cls := .type "tuple_iterator", data := .fields #[.ref l, .int 0 0] })
      (o := { cls := .type "enumerate", data := .fields #[.none, .bool false, .ref s.heap.objs.size, rawInt 0, .none, .none] }) rfl
    rw [hz] at this; exact this
  refine ⟨⟨_, he, rfl⟩, h _ he ⟨_, Heap.get?_push_of_some _ (Heap.get?_push_size _ rfl), rfl, rfl⟩ (by rw [Heap.size_push, hz]) fun b o x => Heap.get?_push_of_some _ (Heap.get?_push_of_some _ x)⟩
end
end PySem
namespace L2.P
open PySem PySem.Spec PyProof.Rows L2
/-- the tuple at a, each item in a new pair -/
def ItetP (K : Fg) (a : Addr) : It :=
  ⟨fun i H => ∃ (xs : List V) (x : V), SqT K H a xs ∧ xs[i]? = some x, fun i H v H' => ∃ T x, v = .ref T ∧ H T = none ∧ H' = upd H T (.tup [.int (i : Nat), x]) ∧ ∀ xs, SqT K H a xs → xs[i]? = some x, fun i H => ∃ xs : List V, SqT K H a xs ∧ xs.length = i⟩
theorem turn_enumT {P : Program} {w : World} {K : Fg} {elts : List Expr} {kk : Nat} {tpos : Pos} (a e it : Addr) (hae : a ≠ e) (hai : a ≠ it) :
    Turn P w K (.Tuple elts kk tpos) (ItetP K a) [e, it] e (fun i h => (∃ old, IsEnum h e it ((i : Nat) : Int) old) ∧ h.IsTupleIter it a i ∧ e ≠ it) where
  mem := by simp
  obj := fun i h st b hb => by
    obtain ⟨⟨old, he⟩, ⟨o, ho, hc, hd⟩, _⟩ := st
    have e' : b = e ∨ b = it := by simpa using hb
    rcases e' with z | z
    · rw [z]; exact ⟨_, he, fun v q => nomatch q⟩
    · rw [z]; exact ⟨o, ho, fun v q => by rw [hd] at q; cases q⟩
  keep := fun i h h' st k => let ⟨⟨old, he⟩, hi, hne⟩ := st; ⟨⟨old, k e (by simp) _ he⟩, hi.at fun o q => k it (by simp) o q, hne⟩
  item := by
    intro X hP hw hK hc i pins s σ H E I hf st hg
    subst hP hw hK
    obtain ⟨⟨old, he⟩, hit, hne⟩ := st
    obtain ⟨xs, x, hq, hx⟩ := hg
    obtain ⟨its, rv, p, hz⟩ := I.tuple hq
    obtain ⟨u, hu, ru⟩ := rv.get hx
    have hel : e < s.heap.objs.size := Heap.lt_size he
    have hil : it < s.heap.objs.size := by obtain ⟨_, q, _⟩ := hit; exact Heap.lt_size q
    have hii : i < its.toArray.size := by
      have := (List.getElem?_eq_some_iff.mp hu).1
      simpa using this
    refine wpAny_pyNext_enum_itemD (Draws.tuple (A := X.A.in1) (I.ok.hd hc) it a hai its.toArray) he ⟨hit, p⟩ hii hne (by simp [hne, hae.symm]) fun y h' tk hy ho hst hT hsz hk => ?_
    have ey : y = u := by
      have : its.toArray[i]? = some u := by simpa using hu
      rw [this] at hy; exact (Option.some.inj hy).symm
    subst ey
    refine ⟨_, rfl, wpAny_letOwnedTupleGo_enum (s := { s with heap := h', toks := tk + 1 }) ho fun h'' he' sb => ?_⟩
    have hT2 : h''.get? s.heap.objs.size = some { cls := .type "tuple", data := .seq #[.int i tk, y] } := (sb.2 _ (Nat.ne_of_gt hel)).trans hT
    have new : ObjOk X.prog X.w (upd H s.heap.objs.size (.tup [.int (i : Nat), x])) h'' s.heap.objs.size (.tup [.int (i : Nat), x]) :=
      ⟨by show 2 ≤ sizeLine; decide, [.int i tk, y], .cons ⟨_, rfl⟩ (.cons ru .nil), ⟨_, hT2, rfl, _, rfl⟩⟩
    have I1 : Inv X pins σ (upd H s.heap.objs.size (.tup [.int (i : Nat), x])) { s with heap := h'', toks := tk + 1 } :=
      I.turnedNew (ch := [e, it]) (fun b ob hb q => (sb.2 b (fun z => hb (by simp [z]))).trans (hk b ob (fun z => hb (by simp [z])) (fun z => hb (by simp [z])) q)) hf (Nat.le_refl _) new
    refine ⟨.ref s.heap.objs.size, _, I1, rfl, ⟨_, x, rfl, I.hok.fresh (Nat.le_refl _), rfl, fun ys hy => by rw [I.tuple_inj hy hq]; exact hx⟩, ⟨⟨y, ?_⟩, hst.1.at fun o q => (sb.2 it (Ne.symm hne)).trans q, hne⟩, fun b hb => ?_⟩
    · have e1 : ((i + 1 : Nat) : Int) = (i : Int) + 1 := by omega
      rw [e1]; exact he'
    · have hb' : b < s.heap.objs.size := by
        have e' : b = e ∨ b = it := by simpa using hb
        rcases e' with z | z
        · rw [z]; exact hel
        · rw [z]; exact hil
      rw [upd_ne (Nat.ne_of_lt hb')]
      exact (hf b hb).1
  done := by
    intro X hP hw hK hc i pins s σ H E I hf st hg
    subst hP hw hK
    obtain ⟨⟨old, he⟩, hit, hne⟩ := st
    obtain ⟨xs, hq, hx⟩ := hg
    obtain ⟨its, rv, p, hz⟩ := I.tuple hq
    obtain ⟨f0, f1, f2, f3, f4, f5⟩ := hf it (by simp)
    have hl := rv.length
    have hi : its.toArray.size = i := by rw [List.size_toArray]; omega
    subst hi
    exact wpAny_pyNext_enum_endD (Draws.tuple (A := X.A.in1) (I.ok.hd hc) it a hai its.toArray) he ⟨hit, p⟩ fun h' eb => ⟨rfl, I.turned (t' := s.toks) (fun b o hb q => eb b o hb q) f0 f1 f3 f4 f5⟩
  self := fun A i s Q E st h => let ⟨⟨_, he⟩, _⟩ := st; wpAny_pyIter_enum he h
def iEnumG (K : Fg) (ta : TA) : TI := fun σ H R => ta σ H fun vs H1 => ∃ a xs, vs = [.ref a] ∧ ((SqL K H1 a xs ∧ R (Ite K a) H1) ∨ (SqT K H1 a xs ∧ R (ItetP K a) H1))
theorem pi_enumG {X : Cx} {e : Expr} {ta : TA} {p pos tpos : Pos} {elts : List Expr} {kk : Nat} (hg : Gl X "enumerate") (hm : X.mg "enumerate" = none) (ha : PA X [e] ta) (hs : starEach [e] X.env = [(false, eval e X.env)] := by rfl) :
    PI X (.Tuple elts kk tpos) (.Call (.Name "enumerate" p) [e] [] pos) (iEnumG X.K ta) := by
  refine ⟨fun pins s σ H R I h => ?_⟩
  refine Call_ (ld_blt I hg hm boot_enumerate (PyProof.Rows.callWith_type1 (thn (ha.run pos pins s σ H _ I h) fun us s1 ⟨vs, H1, I1, r1, q1⟩ => ?_) hs rfl))
  obtain ⟨a, xs, ex, q⟩ := q1
  subst ex
  have fpk : ∀ b ∈ [s1.heap.objs.size + 1, s1.heap.objs.size], FpOk X pins H1 b := fun b hb => by
    have e' : b = s1.heap.objs.size + 1 ∨ b = s1.heap.objs.size := by simpa using hb
    have hle : s1.heap.objs.size ≤ b := by
      rcases e' with z | z
      · rw [z]; exact Nat.le_add_right _ _
      · rw [z]; exact Nat.le_refl _
    exact I1.fpOk hle (I1.hok.fresh hle)
  cases r1 with
  | cons r rr =>
    cases rr
    cases r
    rcases q with ⟨hq, q⟩ | ⟨hq, q⟩
    · obtain ⟨its, rv, p', hz⟩ := I1.list hq
      refine call_enumerate_list p'.isList fun h' he hit hsz hk => wpAny_pyIter_enum he ?_
      have I2 : Inv X pins σ H1 { s1 with heap := h' } := I1.kept (t' := s1.toks) hk
      exact ⟨s1.heap.objs.size + 1, [s1.heap.objs.size + 1, s1.heap.objs.size], _, _, H1, rfl, I2, turn_enum a (s1.heap.objs.size + 1) s1.heap.objs.size, ⟨⟨.none, he⟩, hit, Nat.succ_ne_self _⟩, fpk, q⟩
    · obtain ⟨its, rv, p', hz⟩ := I1.tuple hq
      have hla : a < s1.heap.objs.size := p'.lt
      refine call_enumerate_tuple_P (show s1.heap.IsTuple a its.toArray from p') fun h' he hit hsz hk => wpAny_pyIter_enum he ?_
      have I2 : Inv X pins σ H1 { s1 with heap := h' } := I1.kept (t' := s1.toks) hk
      exact ⟨s1.heap.objs.size + 1, [s1.heap.objs.size + 1, s1.heap.objs.size], _, _, H1, rfl, I2, turn_enumT a (s1.heap.objs.size + 1) s1.heap.objs.size (Nat.ne_of_lt (Nat.lt_succ_of_lt hla)) (Nat.ne_of_lt hla), ⟨⟨.none, he⟩, hit, Nat.succ_ne_self _⟩, fpk, q⟩
/-- the items with their places -/
def enumD (ps : List D) : List D := (List.range ps.length).map fun i => .tuple [.int (i : Nat), ps.getD i .none]
theorem enumD_length (ps : List D) : (enumD ps).length = ps.length := by unfold enumD; rw [List.length_map, List.length_range]
theorem enumD_at {ps : List D} {i : Nat} {p : D} (h : ps[i]? = some p) : (enumD ps)[i]? = some (.tuple [.int (i : Nat), p]) := by
  unfold enumD
  have hl : i < ps.length := (List.getElem?_eq_some_iff.mp h).1
  rw [List.getElem?_map, List.getElem?_range hl, Option.map_some, List.getD_eq_getElem?_getD, h]
  rfl
section
variable {X : Cx}
theorem wlk_enumL {K : Fg} {F : Hp} {a : Addr} {xs : List V} {ps : List D} (s : SqL K F a xs) (d : DpAll K F xs ps) : Wlk K F (Ite K a) (enumD ps) where
  go := fun i H hi e => by
    rw [enumD_length] at hi
    have hl := d.length
    exact ⟨xs, xs[i], sqL_same e s, by simp⟩
  stop := fun H e => ⟨xs, sqL_same e s, by rw [enumD_length, d.length]; exact Nat.le_refl _⟩
  yld := fun i H x H' hi e ⟨T, y, ev, n, eH, y2⟩ => by
    obtain ⟨p, hp, dp⟩ := d.getV (y2 xs (sqL_same e s))
    exact ⟨_, enumD_at hp, .inr ⟨T, _, _, _, _, ev, n, eH, rfl, .int _, dp⟩⟩
theorem wlk_enumT {K : Fg} {F : Hp} {a : Addr} {xs : List V} {ps : List D} (s : SqT K F a xs) (d : DpAll K F xs ps) : Wlk K F (ItetP K a) (enumD ps) where
  go := fun i H hi e => by
    rw [enumD_length] at hi
    have hl := d.length
    exact ⟨xs, xs[i], sqT_same e s, by simp⟩
  stop := fun H e => ⟨xs, sqT_same e s, by rw [enumD_length, d.length]⟩
  yld := fun i H x H' hi e ⟨T, y, ev, n, eH, y2⟩ => by
    obtain ⟨p, hp, dp⟩ := d.getV (y2 xs (sqT_same e s))
    exact ⟨_, enumD_at hp, .inr ⟨T, _, _, _, _, ev, n, eH, rfl, .int _, dp⟩⟩
def fEnum (f : Rho → Option D) : Rho → Option (List D) := fun ρ => (f ρ).bind fun p => (items p).map enumD
theorem if_enum {e : Expr} {f : Rho → Option D} {p pos tpos : Pos} {elts : List Expr} {kk : Nat} (bi : Bi X.mg) (h : EF X e f) (hg : Gl X "enumerate" := by rfl) (hs : starEach [e] X.env = [(false, eval e X.env)] := by rfl) :
    IF X (.Tuple elts kk tpos) (.Call (.Name "enumerate" p) [e] [] pos) (fEnum f) :=
  ⟨fW_mono, PI.imp (pi_enumG hg bi.enumerate (pa_cons (PE.lens h.pe) pa_nil hs) hs) fun σ H R ⟨B, F, ρ, R0, qs, e, k⟩ => by
    obtain ⟨x, e1, e2⟩ := Option.bind_eq_some_iff.mp e
    obtain ⟨ps, e3, rfl⟩ := Option.map_eq_some_iff.mp e2
    refine ⟨B, F, ρ, R0, x, e1, fun F' H' v R' s' d hL => ?_⟩
    unfold items at e3
    split at e3
    · cases e3
      obtain ⟨a, xs, rfl, s, r⟩ := Dp.inv_lst d
      refine ⟨a, xs, rfl, .inl ⟨sqL_same R'.sub s, k F' H' _ R' s' ?_ (wlk_enumL s r)⟩⟩
      rw [enumD_length, ← r.length]
      exact hL a xs (.inl (sqL_same R'.sub s))
    · cases e3
      obtain ⟨a, xs, rfl, s, r⟩ := Dp.inv_tup d
      refine ⟨a, xs, rfl, .inr ⟨sqT_same R'.sub s, k F' H' _ R' s' ?_ (wlk_enumT s r)⟩⟩
      rw [enumD_length, ← r.length]
      exact hL a xs (.inr (sqT_same R'.sub s))
    · cases e3⟩

def tRG (K : Fg) (f : Rho → Option (Int × Int)) : St → Hp → (Int → Int → Hp → Prop) → Prop := fun σ H Q => ∃ B F ρ, Rs K B F H σ ρ ∧ ∃ z, f ρ = some z ∧ ∀ F' H', Rs K B F' H' σ ρ → Same F F' → Q z.1 z.2 H'
def RG (X : Cx) (e : Expr) (f : Rho → Option (Int × Int)) : Prop := PRg X e (tRG X.K f)
def gR1 : List D → Option (Int × Int)
  | [.int j] => some (0, j)
  | _ => none
theorem rg_1 {a : Expr} {g : Rho → Option D} {p pos : Pos} (bi : Bi X.mg) (hx : XF X a g) (hg : Gl X "range" := by rfl) (na : starEach [a] X.env = (false, eval a X.env) :: starEach [] X.env := by rfl) : RG X (.Call (.Name "range" p) [a] [] pos) (aOf gR1 (aCons g aNil)) := by
  intro pins s σ H Q I ⟨B, F, ρ, R, z, e, k⟩
  refine prg_1 hg bi.range hx.pe na pins s σ H Q I ?_
  obtain ⟨ps, e1, e2⟩ := Option.bind_eq_some_iff.mp e
  obtain ⟨y, e3, e4⟩ := Option.bind_eq_some_iff.mp e1
  obtain ⟨ys, e5, rfl⟩ := Option.map_eq_some_iff.mp e4
  cases e5
  unfold gR1 at e2
  split at e2
  · rename_i j hj
    cases e2
    cases hj
    exact ⟨B, F, ρ, R, _, e3, fun F' H' v R' s' d => ⟨j, Dp.inv_int (d.dp (Same.refl _) R'), k F' H' R' s'⟩⟩
  · cases e2
theorem dpAll_rg {K : Fg} {F : Hp} (a b : Int) : DpAll K F (rgV a b) (rngD a (b - a).toNat) := by
  unfold rgV rngD
  induction List.range (b - a).toNat with
  | nil => exact .nil
  | cons i r ih => exact .cons (.int _) ih
def RgB (z : Int × Int) : Bool := decide (0 ≤ z.1) && decide (z.1 ≤ 16777216) && decide (0 ≤ z.2) && decide (z.2 ≤ 16777216)
theorem RgB.ok {z : Int × Int} (h : RgB z = true) : RgOk z.1 z.2 := by
  unfold RgB at h
  simp only [Bool.and_eq_true, decide_eq_true_eq] at h
  exact RgOk.of_le h.1.1.1 h.2 h.1.1.2 h.1.2
def vTupRg (f : Rho → Option (Int × Int)) : Rho → Option D := fun ρ => (f ρ).bind fun z => if RgB z = true then some (.tuple (rngD z.1 (z.2 - z.1).toNat)) else none
theorem c_tupRg {a : Expr} {f : Rho → Option (Int × Int)} {p pos : Pos} (bi : Bi X.mg) (h : RG X a f) (hc : X.calm = true := by rfl) (hg : Gl X "tuple" := by rfl) (na : starEach [a] X.env = (false, eval a X.env) :: starEach [] X.env := by rfl) : EF X (.Call (.Name "tuple" p) [a] [] pos) (vTupRg f) :=
  ⟨fW_mono, (pe_tupRg hc hg bi.tuple h na).imp fun σ H Q ⟨B, F, ρ, R, ps, e, k⟩ => by
    obtain ⟨z, e1, e2⟩ := Option.bind_eq_some_iff.mp e
    split at e2
    · rename_i hz
      cases e2
      exact ⟨B, F, ρ, R, z, e1, fun F' H' R' s' => ⟨RgB.ok hz, fun q hq => k _ _ _ (R'.grow hq) (s'.trans (same_upd (R'.sub.free hq))) (.tup upd_same (dpAll_rg _ _))⟩⟩
    · cases e2⟩

def rSetT (w : World) (K : Fg) : List V → Hp → VK → Prop := fun xs H Q => ∃ (a : Addr) (ns : List Int), xs = [.ref a] ∧ SqT K H a (ns.map V.int) ∧ ns.length ≤ 1000 ∧
  ∀ (p : Addr) (c : Nat), H p = none → c ≤ ns.length → Q (.ref p) (upd H p (SetO w p (fun j => decide (j ∈ ns)) c))
theorem cr_setT (hc : X.calm = true) : CallR X (.type "set") (rSetT X.w X.K) := by
  intro pins s σ H xs us Q I r h
  obtain ⟨a, ns, rfl, hs, hl, q⟩ := h
  obtain ⟨its, rv, ht, hz⟩ := I.tuple hs
  rw [Vals.ref1 r]
  have hsb : ns.length + 1 < scanBound := Nat.lt_of_le_of_lt (Nat.add_le_add_right hl 1) (by decide)
  refine call_set_tupI ns (I.ok.hd hc) ht (by simpa using rv.ints) hsb fun h' tk c R hcl hk => ?_
  exact ⟨.ref _, upd H s.heap.objs.size (SetO X.w s.heap.objs.size (fun j => decide (j ∈ ns)) c), I.laid (t' := tk) hk (Nat.le_refl _) (setO_new R), rfl, q _ c (I.hok.fresh (Nat.le_refl _)) hcl⟩
/-- the ints of ns, each once, in order -/
def insI (n : Int) : List Int → List Int
  | [] => [n]
  | m :: ms => if n < m then n :: m :: ms else if n = m then m :: ms else m :: insI n ms
def sortD : List Int → List Int
  | [] => []
  | n :: ns => insI n (sortD ns)
theorem mem_insI {n k : Int} : ∀ {ms : List Int}, k ∈ insI n ms ↔ k = n ∨ k ∈ ms
  | [] => by simp [insI]
  | m :: ms => by
    unfold insI
    split
    · simp
    · split
      · rename_i h1 h2; subst h2; simp
      · simp only [List.mem_cons, mem_insI]
        constructor
        · rintro (h | h | h)
          · exact .inr (.inl h)
          · exact .inl h
          · exact .inr (.inr h)
        · rintro (h | h | h)
          · exact .inr (.inl h)
          · exact .inl h
          · exact .inr (.inr h)
theorem mem_sortD {k : Int} : ∀ {ns : List Int}, k ∈ sortD ns ↔ k ∈ ns
  | [] => by simp [sortD]
  | n :: ns => by unfold sortD; rw [mem_insI, mem_sortD]; simp
theorem pw_insI {n : Int} : ∀ {ms : List Int}, ms.Pairwise (· < ·) → (insI n ms).Pairwise (· < ·)
  | [], _ => List.pairwise_singleton _ _
  | m :: ms, h => by
    obtain ⟨h1, h2⟩ := List.pairwise_cons.mp h
    unfold insI
    split
    · rename_i hn
      refine List.pairwise_cons.mpr ⟨fun k hk => ?_, h⟩
      rcases List.mem_cons.mp hk with rfl | hk
      · exact hn
      · have := h1 k hk; omega
    · split
      · exact h
      · rename_i h3 h4
        refine List.pairwise_cons.mpr ⟨fun k hk => ?_, pw_insI h2⟩
        rcases mem_insI.mp hk with rfl | hk
        · omega
        · exact h1 k hk
theorem pw_sortD : ∀ ns : List Int, (sortD ns).Pairwise (· < ·)
  | [] => List.Pairwise.nil
  | n :: ns => pw_insI (pw_sortD ns)
theorem pw_unique : ∀ {xs ys : List Int}, xs.Pairwise (· < ·) → ys.Pairwise (· < ·) → (∀ k, k ∈ xs ↔ k ∈ ys) → xs = ys
  | [], [], _, _, _ => rfl
  | [], y :: ys, _, _, h => absurd ((h y).mpr List.mem_cons_self) (by simp)
  | x :: xs, [], _, _, h => absurd ((h x).mp List.mem_cons_self) (by simp)
  | x :: xs, y :: ys, hx, hy, h => by
    obtain ⟨a1, a2⟩ := List.pairwise_cons.mp hx
    obtain ⟨b1, b2⟩ := List.pairwise_cons.mp hy
    have e : x = y := by
      rcases List.mem_cons.mp ((h x).mp List.mem_cons_self) with e | e
      · exact e
      · rcases List.mem_cons.mp ((h y).mpr List.mem_cons_self) with e2 | e2
        · exact e2.symm
        · have := b1 x e; have := a1 y e2; omega
    subst e
    rw [pw_unique a2 b2 fun k => ?_]
    constructor
    · intro hk
      rcases List.mem_cons.mp ((h k).mp (List.mem_cons_of_mem _ hk)) with e | e
      · subst e; have := a1 k hk; omega
      · exact e
    · intro hk
      rcases List.mem_cons.mp ((h k).mpr (List.mem_cons_of_mem _ hk)) with e | e
      · subst e; have := b1 k hk; omega
      · exact e
def dSortSet : D → Option (List D)
  | .tuple xs => (intsD xs).bind fun ns => if ns.length < 64 then some ((sortD ns).map PyData.int) else none
  | _ => none
def nSortSet (f : Rho → Option D) : Rho → Option (List D) := fun ρ => (f ρ).bind dSortSet
theorem bt_sorted : bootBuiltins "sorted" = some (.builtin "sorted") := by decide +kernel
theorem bt_set : bootBuiltins "set" = some (.type "set") := by decide +kernel
theorem n_sortSet {e : Expr} {f : Rho → Option D} {p p2 pos pos2 : Pos} (bi : Bi X.mg) (h : XF X e f) (hc : X.calm = true := by rfl) (hg : Gl X "sorted" := by rfl) (hg2 : Gl X "set" := by rfl)
    (he2 : starEach [e] X.env = (false, eval e X.env) :: starEach [] X.env := by rfl) (he : starEach [.Call (.Name "set" p2) [e] [] pos2] X.env = (false, eval (.Call (.Name "set" p2) [e] [] pos2) X.env) :: starEach [] X.env := by rfl) :
    NF X (.Call (.Name "sorted" p) [.Call (.Name "set" p2) [e] [] pos2] [] pos) (nSortSet f) :=
  ⟨fW_mono, (pe_callB (cr_sortedSet hc) hg bi.sorted bt_sorted (pa_cons (pe_callTy (cr_setT hc) hg2 bi.set bt_set (pa_cons h.pe pa_nil he2) (he := he2) (hpl := rfl)) pa_nil he) (he := he) (hpl := rfl)).imp fun σ H Q ⟨B, F, ρ, R, ps, e, k⟩ => by
    obtain ⟨x, e1, e2⟩ := Option.bind_eq_some_iff.mp e
    unfold dSortSet at e2
    split at e2
    · obtain ⟨ns, e3, e4⟩ := Option.bind_eq_some_iff.mp e2
      split at e4
      · rename_i h64
        cases e4
        refine ⟨B, F, ρ, R, _, e1, fun F' H' v R' s' d => ?_⟩
        obtain ⟨a, xs, rfl, s, r⟩ := Dp.inv_tup (d.dp (Same.refl _) R')
        rw [intsD_some e3] at r
        rw [dpAll_ints ns r] at s
        refine ⟨a, ns, rfl, s, by omega, fun q c hq hcl => ?_⟩
        refine ⟨q, _, c, rfl, upd_same, by omega, fun ms l hp hm hl hn => ?_⟩
        have em : ms = sortD ns := pw_unique hp (pw_sortD ns) fun z => by rw [hm z, mem_sortD]; simp
        subst em
        exact k F' _ l _ (R'.lay hq) s' hn (dpAll_of_ints _)
      · cases e4
    · cases e2⟩
end
end L2.P


set_option Elab.async false
set_option linter.all false
set_option maxRecDepth 100000
set_option maxHeartbeats 4000000
namespace L2.P
open PySem PySem.Spec PyProof.Rows L2
/-- a number from 0 on below the argument -/
def wTaken : List D → (D → Prop) → Prop := fun ps K => ∃ m : Int, ps = [.int m] ∧ 0 < m ∧ m < 1073741824 ∧ ∀ k : Int, 0 ≤ k → k < m → K (.int k)
theorem wTaken_mono (ps : List D) (K K' : D → Prop) (h : ∀ p, K p → K' p) (q : wTaken ps K) : wTaken ps K' := by
  obtain ⟨m, e, h1, h2, k⟩ := q
  exact ⟨m, e, h1, h2, fun i a b => h _ (k i a b)⟩
theorem upd_self {H : Hp} {a : Addr} {o : HO} (h : H a = some o) : upd H a o = H := by
  funext b
  by_cases e : b = a
  · subst e; rw [upd_same, h]
  · rw [upd_ne e]
/-- row[j] -/
theorem row_at {K : Fg} {σ : St} {H : Hp} {Q : VK} {r : Addr} {L : List V} {j : Int} {v : V} (hσ : σ[0]? = some (some (.ref r))) (e : atI L j = some v) (q : Q v (upd H r (.lst L))) : tOp (rIxL K) (tVar 0) (tC (.int j)) σ (upd H r (.lst L)) Q :=
  ⟨.ref r, hσ, r, L, j, v, rfl, rfl, .inl (.inl upd_same), e, q⟩
/-- row[j] = v -/
theorem row_set {σ : St} {H : Hp} {Q : St → Hp → Prop} {r : Addr} {L : List V} {j : Int} {n : Nat} {v : V} (hσ : σ[0]? = some (some (.ref r))) (e : ixN L.length j = some n) (q : Q σ (upd H r (.lst (L.set n v)))) : gSub (tVar 0) (tC (.int j)) rSetL v σ (upd H r (.lst L)) Q :=
  ⟨.ref r, hσ, r, L, j, n, rfl, rfl, upd_same, e, by rw [upd_upd]; exact q⟩
def tTaken (K : Fg) : TS :=
  let ix (j : Int) : TE := tOp (rIxL K) (tVar 0) (tC (.int j))
  let intOf (t : TE) : TE := tCB (fun xs H Q => (∃ i, xs = [.int i] ∧ Q (.int i) H) ∨ ∃ k, xs = [.bl k] ∧ Q (.int (if k then 1 else 0)) H) (tCons t tNil)
  let md (a b : TE) : TE := tOp (rI (fun _ j => 0 < j) fun i j => .int (i % j)) a b
  let dv (a b : TE) : TE := tOp (rI CDiv fun i j => .int (i / j)) a b
  let ad (a b : TE) : TE := tOp (rI0 fun i j => .int (i + j)) a b
  let ml (a b : TE) : TE := tOp (rI CMul fun i j => .int (i * j)) a b
  let st (j : Int) : TG := gSub (tVar 0) (tC (.int j)) rSetL
  tSeq (tIfS (tTest (tOp (rI0 fun i j => .bl (decide (j < i))) (ix 3) (tC (.int 0)))) (tSeq (tAsg (md (intOf (ix 3)) (tVar 1)) (gName 2)) (tSeq (tAsg (dv (ix 3) (tVar 1)) (st 3)) (tRet (tVar 2)))) tNext)
  (tSeq (tAsg (ad (ix 1) (tC (.int 1))) (st 1))
  (tSeq (tIfS (tTest (tOp (rI0 fun i j => .bl (decide (j < i))) (ix 1) (tCB (fun xs H Q => ∃ p ys, xs = [.ref p] ∧ (SqL K H p ys ∨ SqT K H p ys) ∧ Q (.int ys.length) H) (tCons (ix 0) tNil))))
      (tSeq (tAsg (md (intOf (ad (ml (ix 2) (tC (.int 48271))) (tC (.int 11)))) (tC (.int 2147483647))) (st 2)) (tRet (md (intOf (dv (ix 2) (tC (.int 7)))) (tVar 1)))) tNext)
  (tSeq (tAsg (tOp (rIxL K) (ix 0) (tOp (rI0 fun i j => .int (i - j)) (ix 1) (tC (.int 1)))) (gName 3))
  (tSeq (tAsg (md (intOf (ad (ad (ml (ix 2) (tC (.int 48271))) (tVar 3)) (tC (.int 11)))) (tC (.int 2147483647))) (st 2))
  (tSeq (tIfS (tTest (tOp (rI0 fun i j => .bl (decide (j ≤ i))) (tVar 3) (tOp (rI CPow fun i j => .int (i ^ j.toNat)) (tC (.int 10)) (tC (.int 18))))) (tAsg (dv (tVar 3) (tVar 1)) (st 3)) tNext)
  (tRet (md (intOf (tVar 3)) (tVar 1))))))))
theorem cmul_r {i j : Int} (h1 : -(2 ^ 64) < j) (h2 : j < 2 ^ 64) : CMul i j := .inr ⟨h1, h2⟩
/-- what the row's turn makes -/
theorem taken_ok {K : Fg} {En : Ends} {H : Hp} {r sa : Addr} {ns : List Int} {b c d m : Int} {Q : Int → Hp → Prop} (hS : ∀ L, SqL K (upd H r (.lst L)) sa (ns.map V.int)) (hb : 0 ≤ b) (hc : 0 ≤ c) (hd : 0 ≤ d) (hm : 0 < m) (hm2 : m < 1073741824)
    (hrt : ∀ k H', Q k H' → En.rt (.int k) H')
    (q : ∀ (k b' c' d' : Int), 0 ≤ k → k < m → 0 ≤ b' → 0 ≤ c' → 0 ≤ d' → Q k (upd H r (.lst [.ref sa, .int b', .int c', .int d']))) :
    tTaken K En [some (.ref r), some (.int m), none, none] (upd H r (.lst [.ref sa, .int b, .int c, .int d])) := by
  have mod0 : ∀ x : Int, 0 ≤ x % m ∧ x % m < m := fun x => ⟨Int.emod_nonneg _ (by omega), Int.emod_lt_of_pos _ hm⟩
  have big : (0 : Int) < 2147483647 := by decide
  have mod1 : ∀ x : Int, 0 ≤ x % 2147483647 := fun x => Int.emod_nonneg _ (by decide)
  refine row_at rfl rfl ⟨_, _, rfl, rfl, _, rfl, ?_⟩
  refine ite2 (fun h => ?_) (fun h => ?_)
  · -- a rest is left
    refine row_at rfl rfl (.inl ⟨_, rfl, ?_⟩)
    refine ⟨_, rfl, _, _, rfl, rfl, hm, ?_⟩
    refine row_at rfl rfl ⟨_, rfl, _, _, rfl, rfl, ⟨hm, hm2⟩, ?_⟩
    refine row_set rfl rfl ⟨_, rfl, hrt _ _ (q _ _ _ _ (mod0 d).1 (mod0 d).2 hb hc (Int.ediv_nonneg hd (by omega)))⟩
  · refine row_at rfl rfl ⟨_, _, rfl, rfl, ?_⟩
    refine row_set rfl rfl ?_
    refine row_at rfl rfl (row_at rfl rfl ⟨sa, _, rfl, .inl (hS _), ?_⟩)
    refine ⟨_, _, rfl, rfl, _, rfl, ?_⟩
    refine ite2 (fun h2 => ?_) (fun h2 => ?_)
    · -- the script is at its end
      refine row_at rfl rfl ⟨_, _, rfl, rfl, cmul_r (by decide) (by decide), ⟨_, _, rfl, rfl, .inl ⟨_, rfl, _, _, rfl, rfl, big, ?_⟩⟩⟩
      refine row_set rfl rfl ?_
      refine row_at rfl rfl ⟨_, _, rfl, rfl, ⟨by decide, by decide⟩, .inl ⟨_, rfl, _, rfl, _, _, rfl, rfl, hm, ?_⟩⟩
      exact hrt _ _ (q _ _ _ _ (mod0 _).1 (mod0 _).2 (by omega) (mod1 _) hd)
    · have hlt : ¬ ((ns.length : Int) < b + 1) := by
        intro z
        apply h2
        rw [List.length_map]
        exact decide_eq_true z
      have hi : b.toNat < ns.length := by omega
      refine row_at rfl rfl (row_at rfl rfl ⟨_, _, rfl, rfl, ?_⟩)
      refine ⟨sa, _, b + 1 - 1, .int ns[b.toNat], rfl, rfl, hS _, ?_, ?_⟩
      · have e : b + 1 - 1 = (b.toNat : Int) := by omega
        rw [e]
        exact atI_nat (by rw [List.getElem?_map, List.getElem?_eq_getElem hi]; rfl)
      · generalize ns[b.toNat] = x
        refine row_at rfl rfl ⟨_, _, rfl, rfl, cmul_r (by decide) (by decide), ⟨_, rfl, _, _, rfl, rfl, ⟨_, _, rfl, rfl, .inl ⟨_, rfl, _, _, rfl, rfl, big, ?_⟩⟩⟩⟩
        refine row_set rfl rfl ?_
        refine ⟨_, rfl, _, _, rfl, rfl, ⟨by decide, by decide, by decide⟩, ⟨_, _, rfl, rfl, ⟨_, rfl, ?_⟩⟩⟩
        refine ite2 (fun h3 => ?_) (fun h3 => ?_)
        · refine ⟨_, rfl, _, rfl, _, _, rfl, rfl, ⟨hm, hm2⟩, ?_⟩
          refine row_set rfl rfl ?_
          have hx : (0 : Int) ≤ x := by
            have := of_decide_eq_true h3
            have e : ((10 : Int) ^ (18 : Int).toNat) = 1000000000000000000 := by decide
            rw [e] at this; omega
          exact ⟨_, rfl, .inl ⟨_, rfl, _, rfl, _, _, rfl, rfl, hm, hrt _ _ (q _ _ _ _ (mod0 _).1 (mod0 _).2 (by omega) (mod1 _) (Int.ediv_nonneg hx (by omega)))⟩⟩
        · exact ⟨_, rfl, .inl ⟨_, rfl, _, rfl, _, _, rfl, rfl, hm, hrt _ _ (q _ _ _ _ (mod0 _).1 (mod0 _).2 (by omega) (mod1 _) hd)⟩⟩
end L2.P
namespace L2.P
open PySem PySem.Spec PyProof.Rows L2
theorem taken_sp {K : Fg} {vs : List V} {H : Hp} {Q : VK} {E : XK} {a b c d : Str} (h : spR K 1 wTaken vs H Q E) : tTaken K { nx := fun _ H' => Q .non H', rt := Q } (start [a, b, c, d] vs) H := by
  obtain ⟨hl, r, us, F, ps, rfl, sF, tb, fr, ⟨sa, ns, b, c, d, hr, hS, hlen, hb, hc, hd⟩, dd, m, rfl, h1, h2, k⟩ := h
  obtain ⟨v, rfl, dv⟩ := dp1 dd
  obtain rfl := Dp.inv_int dv
  have hS' : ∀ L, SqL K (upd H r (.lst L)) sa (ns.map V.int) := fun L => sqL_same (fun x o e => by
    have ne : x ≠ r := fun z => by subst z; rw [fr] at e; cases e
    rw [upd_ne ne]; exact sF x o e) hS
  have key := taken_ok (K := K) (En := { nx := fun _ H' => Q .non H', rt := Q }) (Q := fun k H' => Q (.int k) H') hS' hb hc hd h1 h2 (fun _ _ z => z) (fun k' b' c' d' g1 g2 g3 g4 g5 => by
    refine k k' g1 g2 F _ _ (Same.refl _) (fun x o ne e => ?_) (fun x o e => ?_) (tb.chg hr (not_te rfl)) (fun x e1 e2 => absurd e1 e2) ⟨sa, ns, b', c', d', upd_same, hS, hlen, g3, g4, g5⟩ (.int _)
    · have ne' : x ≠ r := fun z => ne.1 (by rw [z])
      rw [upd_ne ne']; exact e
    · have ne : x ≠ r := fun z => by subst z; rw [fr] at e; cases e
      rw [upd_ne ne]; exact sF x o e)
  rw [upd_self hr] at key
  exact key
end L2.P


set_option Elab.async false
set_option linter.all false
set_option maxRecDepth 100000
set_option maxHeartbeats 4000000
namespace L2.P
open PySem PySem.Spec PyProof.Rows L2
def insF (j : Int) (r : List Int) : List Int := if j ∈ r then r else r ++ [j]
def modR (rows : List (List Int)) (i : Nat) (j : Int) : List (List Int) := rows.modify i (insF j)
def addE (rows : List (List Int)) (e : Int × Int) : List (List Int) := modR (modR rows e.1.toNat e.2) e.2.toNat e.1
def byRows (n : Nat) (es : List (Int × Int)) : List (List Int) := es.foldl addE (List.replicate n [])
theorem insF_nodup {j : Int} {r : List Int} (h : r.Nodup) : (insF j r).Nodup := by
  unfold insF
  split
  · exact h
  · rename_i hj
    exact List.nodup_append.mpr ⟨h, by simp, fun a ha b hb e => hj (by simp at hb; subst hb; subst e; exact ha)⟩
theorem mem_insF {j k : Int} {r : List Int} : k ∈ insF j r ↔ k = j ∨ k ∈ r := by
  unfold insF
  split
  · rename_i h
    exact ⟨.inr, fun z => z.elim (fun e => e ▸ h) id⟩
  · simp [or_comm]
def dkOf (r : List Int) : List (Key × V) := r.map fun j => ((Sum.inl j : Key), V.bl true)
theorem dk_any (r : List Int) (j : Int) : ((dkOf r).any fun kv => decide (kv.1 = (Sum.inl j : Key))) = decide (j ∈ r) := by
  induction r with
  | nil => rfl
  | cons i r ih =>
    unfold dkOf at ih ⊢
    rw [List.map_cons, List.any_cons, ih]
    by_cases e : i = j
    · subst e; simp
    · have e2 : ¬ (Sum.inl i : Key) = Sum.inl j := fun q => e (Sum.inl.inj q)
      have e3 : ¬ j = i := fun q => e q.symm
      simp [e2, e3]
theorem putK_dk (r : List Int) (j : Int) : putK (dkOf r) (Sum.inl j) (V.bl true) = dkOf (insF j r) := by
  unfold putK insF
  rw [dk_any]
  by_cases h : j ∈ r
  · rw [if_pos (decide_eq_true h), if_pos h]
    unfold dkOf
    rw [List.map_map]
    apply List.map_congr_left
    intro i _
    show (if (Sum.inl i : Key) = Sum.inl j then _ else _) = _
    split <;> rfl
  · rw [if_neg (by simp [h]), if_neg h]
    unfold dkOf
    rw [List.map_append]
    rfl
/-- the dicts stand -/
structure Grid (H0 H : Hp) (L : Addr) (ds : List Addr) (rows : List (List Int)) : Prop where
  lst : H L = some (.lst (ds.map V.ref))
  nd : ds.Nodup
  nL : L ∉ ds
  len : rows.length = ds.length
  row : ∀ (i : Nat) (a : Addr) (r : List Int), ds[i]? = some a → rows[i]? = some r → H a = some (.dK (dkOf r))
  old : ∀ b o, H0 b = some o → H b = some o
  fre : ∀ a ∈ ds, H0 a = none
  freL : H0 L = none
theorem Grid.put {H0 H : Hp} {L : Addr} {ds : List Addr} {rows : List (List Int)} (G : Grid H0 H L ds rows) {i : Nat} {a : Addr} {r : List Int} (ha : ds[i]? = some a) (hr : rows[i]? = some r) (j : Int) :
    Grid H0 (upd H a (.dK (dkOf (insF j r)))) L ds (modR rows i j) where
  lst := by
    have ne : L ≠ a := fun e => G.nL (e ▸ List.mem_of_getElem? ha)
    rw [upd_ne ne]; exact G.lst
  nd := G.nd
  nL := G.nL
  len := by unfold modR; rw [List.length_modify]; exact G.len
  row := fun k b r' hb hr' => by
    unfold modR at hr'
    rw [List.getElem?_modify] at hr'
    by_cases e : i = k
    · subst e
      rw [ha] at hb; cases hb
      rw [hr] at hr'
      simp at hr'
      subst hr'
      exact upd_same
    · simp only [if_neg e] at hr'
      have ne : b ≠ a := fun q => by
        subst q
        exact e ((nodup_ix_addr G.nd ha hb))
      rw [upd_ne ne]
      exact G.row k b r' hb (by simpa using hr')
  old := fun b o e => by
    have ne : b ≠ a := fun q => by
      subst q
      rw [G.fre b (List.mem_of_getElem? ha)] at e; cases e
    rw [upd_ne ne]; exact G.old b o e
  fre := G.fre
  freL := G.freL
where
  nodup_ix_addr {l : List Addr} (h : l.Nodup) {i j : Nat} {x : Addr} (a : l[i]? = some x) (b : l[j]? = some x) : i = j := by
    obtain ⟨h1, e1⟩ := List.getElem?_eq_some_iff.mp a
    obtain ⟨h2, e2⟩ := List.getElem?_eq_some_iff.mp b
    exact (List.getElem_inj h).mp (e1.trans e2.symm)
/-- the edges are of people -/
def EdgesOk (n : Nat) (es : List (Int × Int)) : Prop := ∀ e ∈ es, 0 ≤ e.1 ∧ e.1 < n ∧ 0 ≤ e.2 ∧ e.2 < n
def rTupOf (K : Fg) : List V → Hp → VK → Prop := fun xs H Q => ∃ p ys, xs = [.ref p] ∧ ((SqL K H p ys ∧ ∀ l, H l = none → Q (.ref l) (upd H l (.tup ys))) ∨ (SqT K H p ys ∧ Q (.ref p) H))
def tBy1 : TE := tLc (iRng1 (tCons (tVar 0) tNil)) (gName 5) tYes tDNewK [5]
def tBy2 (K : Fg) : TS := tFor (iList K (tVar 1)) (L2.gTup K 2 (gCons (gName 3) (gCons (gName 4) gNil))) (tSeq (sDPut (tOp (rIxL K) (tVar 2) (tVar 3)) (tVar 4) (tC (.bl true))) (sDPut (tOp (rIxL K) (tVar 2) (tVar 4)) (tVar 3) (tC (.bl true))))
def tBy3 (K : Fg) : TE := tCB (rTupOf K) (tCons (tLc (iList K (tVar 2)) (gName 6) tYes (tCB (rTupOf K) (tCons (tCB (rSortedI K) (tCons (tCB rListD (tCons (tVar 6) tNil)) tNil)) tNil)) [6]) tNil)
def tBy (K : Fg) : TS := tSeq (tAsg tBy1 (gName 2)) (tSeq (tBy2 K) (tRet (tBy3 K)))
theorem by1_ok {H : Hp} {n : Nat} {c : V} {Q : VK} (hn : n ≤ 1000) (q : ∀ L ds H', Grid H H' L ds (List.replicate n []) → Q (.ref L) H') : tBy1 [some (.int (n : Int)), some c, none, none, none, none, none] H Q := by
  refine ⟨_, rfl, (n : Int), rfl, by omega, by omega, fun D hD => ?_⟩
  refine lc_range (lo := 0) (n := (n : Int).toNat) (fun i H' => ∃ ds : List Addr, ds.length = i ∧ Grid H H' D ds (List.replicate i [])) ⟨[], rfl, ?_⟩ (fun i H' hi ⟨ds, hl, G⟩ => ⟨rfl, fun p hp => ⟨ds.map V.ref, ?_, ?_, ds ++ [p], ?_, ?_⟩⟩) fun H' ⟨ds, hl, G⟩ => ?_
  · refine ⟨upd_same, List.nodup_nil, by simp, rfl, fun i a r h => by simp at h, fun b o e => ?_, fun a h => by simp at h, hD⟩
    rw [upd_ne (ne_of_none e hD)]; exact e
  · rw [upd_ne (ne_of_none G.lst hp)]; exact G.lst
  · rw [List.length_map, hl, sizeLine_eq]; omega
  · rw [List.length_append, hl]; rfl
  · have neD : D ≠ p := ne_of_none G.lst hp
    have pnd : p ∉ ds := fun hm => by
      obtain ⟨k, hk⟩ := List.getElem?_of_mem hm
      have hkl : k < (List.replicate i ([] : List Int)).length := by
        rw [List.length_replicate, ← hl]; exact (List.getElem?_eq_some_iff.mp hk).1
      have := G.row k p [] hk (by rw [List.getElem?_replicate]; rw [List.length_replicate] at hkl; rw [if_pos hkl])
      rw [hp] at this; cases this
    refine ⟨by rw [upd_same, List.map_append]; rfl, List.nodup_append.mpr ⟨G.nd, by simp, fun a ha b hb e => pnd (by simp at hb; subst hb; subst e; exact ha)⟩, ?_, by simp [hl], fun k a r hk hr => ?_, fun b o e => ?_, fun a ha => ?_, G.freL⟩
    · intro hm
      rcases List.mem_append.mp hm with hm | hm
      · exact G.nL hm
      · simp at hm; exact neD hm
    · rw [List.getElem?_replicate] at hr
      split at hr
      · cases hr
        rw [List.getElem?_append] at hk
        split at hk
        · rename_i hkl
          have ne1 : a ≠ D := fun e => G.nL (e ▸ List.mem_of_getElem? hk)
          have ne2 : a ≠ p := fun e => pnd (e ▸ List.mem_of_getElem? hk)
          rw [upd_ne ne1, upd_ne ne2]
          exact G.row k a [] hk (by rw [List.getElem?_replicate, if_pos (by omega)])
        · have ea : a = p := by
            have := List.mem_of_getElem? hk
            simpa using this
          subst ea
          rw [upd_ne (Ne.symm neD), upd_same]; rfl
      · cases hr
    · have h1 := G.old b o e
      rw [upd_ne (fun z => by subst z; rw [G.freL] at e; cases e), upd_ne (ne_of_none h1 hp)]; exact h1
    · rcases List.mem_append.mp ha with ha | ha
      · exact G.fre a ha
      · simp at ha
        subst ha
        cases z : H a with
        | none => rfl
        | some o => rw [G.old a o z] at hp; cases hp
  · rw [Int.toNat_natCast] at hl G
    exact q D ds H' G
theorem rows_len (rows : List (List Int)) (e : Int × Int) : (addE rows e).length = rows.length := by unfold addE modR; rw [List.length_modify, List.length_modify]
theorem by2_ok {K : Fg} {H H1 : Hp} {n : Nat} {cs : Addr} {xs : List V} {es : List (Int × Int)} {L : Addr} {ds : List Addr} {rows : List (List Int)} {a : V} {En : Ends} (hz : es.length ≤ 1000) (hl : rows.length = n) (hrl : ∀ r ∈ rows, r.length = 0)
    (hS : SqL K H cs xs) (hx : DpAll K H xs (es.map fun e => .tuple [.int e.1, .int e.2])) (he : EdgesOk n es) (hnd : ∀ r ∈ rows, r.Nodup) (hin : ∀ r ∈ rows, ∀ k ∈ r, 0 ≤ k ∧ k < n) (G : Grid H H1 L ds rows)
    (q : ∀ (y3 y4 : Option V) H', Grid H H' L ds (es.foldl addE rows) → En.nx [some a, some (.ref cs), some (.ref L), y3, y4, none, none] H') : tBy2 K En [some a, some (.ref cs), some (.ref L), none, none, none, none] H1 := by
  refine ⟨_, rfl, cs, rfl, ⟨xs, sqL_same G.old hS⟩, ?_⟩
  refine for_list (xs := xs) (fun i σ H' => ∃ y3 y4, σ = [some a, some (.ref cs), some (.ref L), y3, y4, none, none] ∧ ∃ rs : List (List Int), rs = (es.take i).foldl addE rows ∧ rs.length = n ∧ (∀ r ∈ rs, r.length ≤ 2 * i) ∧ (∀ r ∈ rs, r.Nodup) ∧ (∀ r ∈ rs, ∀ k ∈ r, 0 ≤ k ∧ k < n) ∧ Grid H H' L ds rs)
    ⟨none, none, rfl, rows, rfl, hl, fun r hr => by rw [hrl r hr]; exact Nat.zero_le _, hnd, hin, G⟩ (fun i σ H' _ ⟨_, _, _, rs, _, _, _, _, _, G'⟩ => sqL_same G'.old hS) (fun i x σ H' hxi ⟨y3, y4, eσ, rs, ers, hlr, hzr, hnr, hir, G'⟩ => ?_) fun σ H' ⟨y3, y4, eσ, rs, ers, _, _, _, _, G'⟩ => ?_
  · obtain ⟨p, hp, dp⟩ := hx.getV hxi
    rw [List.getElem?_map] at hp
    obtain ⟨e, hei, rfl⟩ := Option.map_eq_some_iff.mp hp
    obtain ⟨t, ys, rfl, st, ry⟩ := Dp.inv_tup dp
    obtain ⟨v1, v2, rfl, d1, d2⟩ := dp2 ry
    obtain rfl := Dp.inv_int d1
    obtain rfl := Dp.inv_int d2
    obtain ⟨e1, e2, e3, e4⟩ := he e (List.mem_of_getElem? hei)
    subst eσ
    refine ⟨t, _, rfl, sqT_same G'.old st, rfl, _, _, rfl, _, _, rfl, rfl, ?_⟩
    have hld := G'.len
    have at_ : ∀ (k : Int), 0 ≤ k → k < n → ∃ b, ds[k.toNat]? = some b ∧ atI (ds.map V.ref) k = some (.ref b) := fun k h1 h2 => by
      have hk : k.toNat < ds.length := by omega
      refine ⟨ds[k.toNat], List.getElem?_eq_getElem hk, ?_⟩
      have ek : k = (k.toNat : Int) := by omega
      have := atI_nat (xs := ds.map V.ref) (j := k.toNat) (v := .ref ds[k.toNat]) (by rw [List.getElem?_map]; simp [hk])
      rw [← ek] at this
      exact this
    have putR : ∀ (rs : List (List Int)) (k j : Int), rs.length = n → (∀ r ∈ rs, r.Nodup) → (∀ r ∈ rs, ∀ k ∈ r, 0 ≤ k ∧ k < n) → 0 ≤ j → j < n → (∀ r ∈ modR rs k.toNat j, r.Nodup) ∧ (∀ r ∈ modR rs k.toNat j, ∀ k ∈ r, 0 ≤ k ∧ k < n) := fun rs k j _ h1 h2 h3 h4 => by
      unfold modR
      refine ⟨fun r hr => ?_, fun r hr z hz => ?_⟩
      · obtain ⟨m, hm⟩ := List.getElem?_of_mem hr
        rw [List.getElem?_modify] at hm
        obtain ⟨r0, hr0, rfl⟩ := Option.map_eq_some_iff.mp hm
        have := h1 r0 (List.mem_of_getElem? hr0)
        split
        · exact insF_nodup this
        · exact this
      · obtain ⟨m, hm⟩ := List.getElem?_of_mem hr
        rw [List.getElem?_modify] at hm
        obtain ⟨r0, hr0, rfl⟩ := Option.map_eq_some_iff.mp hm
        have := h2 r0 (List.mem_of_getElem? hr0)
        split at hz
        · rcases mem_insF.mp hz with rfl | hz
          · exact ⟨h3, h4⟩
          · exact this z hz
        · exact this z hz
    have hil : i < es.length := (List.getElem?_eq_some_iff.mp hei).1
    have grow : ∀ (qs : List (List Int)) (k : Nat) (j : Int) (m : Nat), (∀ r ∈ qs, r.length ≤ m) → ∀ r ∈ modR qs k j, r.length ≤ m + 1 := fun qs k j m h r hr => by
      unfold modR at hr
      obtain ⟨w, hw⟩ := List.getElem?_of_mem hr
      rw [List.getElem?_modify] at hw
      obtain ⟨r0, hr0, rfl⟩ := Option.map_eq_some_iff.mp hw
      have := h r0 (List.mem_of_getElem? hr0)
      split
      · unfold insF
        split
        · omega
        · rw [List.length_append, List.length_singleton]; omega
      · omega
    have small : ∀ (qs : List (List Int)) (m : Nat), m ≤ 3000 → (∀ r ∈ qs, r.length ≤ m) → ∀ r ∈ qs, (dkOf r).length < sizeLine := fun qs m hm h r hr => by
      have := h r hr
      unfold dkOf
      rw [List.length_map, sizeLine_eq]; omega
    -- found[one][other] = True
    obtain ⟨b1, hb1, at1⟩ := at_ e.1 e1 e2
    have hr1 : e.1.toNat < rs.length := by omega
    have g1 := G'.put hb1 (List.getElem?_eq_getElem hr1) e.2
    refine ⟨_, rfl, _, rfl, L, ds.map V.ref, e.1, _, rfl, rfl, .inl (.inl G'.lst), at1, ?_⟩
    refine ⟨_, rfl, b1, _, rfl, DPut.k (k := Sum.inl e.2) (G'.row _ _ _ hb1 (List.getElem?_eq_getElem hr1)) (small rs (2 * i) (by omega) hzr _ (List.getElem_mem hr1)), ?_⟩
    rw [putK_dk]
    obtain ⟨n1, i1⟩ := putR rs e.1 e.2 hlr hnr hir e3 e4
    have hl1 : (modR rs e.1.toNat e.2).length = n := by unfold modR; rw [List.length_modify]; exact hlr
    -- found[other][one] = True
    obtain ⟨b2, hb2, at2⟩ := at_ e.2 e3 e4
    have hr2 : e.2.toNat < (modR rs e.1.toNat e.2).length := by omega
    refine ⟨_, rfl, _, rfl, L, ds.map V.ref, e.2, _, rfl, rfl, .inl (.inl g1.lst), at2, ?_⟩
    refine ⟨_, rfl, b2, _, rfl, DPut.k (k := Sum.inl e.1) (g1.row _ _ _ hb2 (List.getElem?_eq_getElem hr2)) (small _ (2 * i + 1) (by omega) (grow rs _ _ _ hzr) _ (List.getElem_mem hr2)), ?_⟩
    rw [putK_dk]
    obtain ⟨n2, i2⟩ := putR _ e.2 e.1 hl1 n1 i1 e1 e2
    refine ⟨_, _, rfl, addE rs e, ?_, by rw [rows_len]; exact hlr, fun r hr => by have := grow _ _ _ _ (grow rs e.1.toNat e.2 _ hzr) r hr; omega, n2, i2, g1.put hb2 (List.getElem?_eq_getElem hr2) e.1⟩
    rw [List.take_add_one, hei, ers]
    simp [List.foldl_append]
  · subst eσ
    have hxl : xs.length = es.length := by rw [hx.length, List.length_map]
    rw [hxl, List.take_length] at ers
    subst ers
    exact q y3 y4 H' G'
end L2.P
namespace L2.P
open PySem PySem.Spec PyProof.Rows L2
theorem nodup_lt {ns : List Int} (h : ns.Pairwise (· ≤ ·)) (n : ns.Nodup) : ns.Pairwise (· < ·) := by
  induction ns with
  | nil => exact List.Pairwise.nil
  | cons x r ih =>
    obtain ⟨h1, h2⟩ := List.pairwise_cons.mp h
    obtain ⟨n1, n2⟩ := List.nodup_cons.mp n
    refine List.pairwise_cons.mpr ⟨fun y hy => ?_, ih h2 n2⟩
    have := h1 y hy
    have ne : x ≠ y := fun e => n1 (e ▸ hy)
    omega
theorem sorted_is {r ns : List Int} (p : ns.Perm r) (h : ns.Pairwise (· ≤ ·)) (n : r.Nodup) : ns = sortD r :=
  pw_unique (nodup_lt h (p.nodup_iff.mpr n)) (pw_sortD r) fun k => by rw [p.mem_iff, mem_sortD]
theorem keys_dk (r : List Int) : (dkOf r).map (fun kv => kV kv.1) = r.map V.int := by
  unfold dkOf
  rw [List.map_map]
  rfl
theorem by3_ok {K : Fg} {H0 H1 : Hp} {L : Addr} {ds : List Addr} {rows : List (List Int)} {a c : V} {y3 y4 : Option V} {Q : VK} (hn : rows.length ≤ 1000) (hnd : ∀ r ∈ rows, r.Nodup) (G : Grid H0 H1 L ds rows)
    (q : ∀ (l : Addr) (ts : List Addr) (H' : Hp), Same H1 H' → H0 l = none → H' l = some (.tup (ts.map V.ref)) → ts.length = rows.length → (∀ (k : Nat) (t : Addr), ts[k]? = some t → H0 t = none ∧ ∃ r, rows[k]? = some r ∧ H' t = some (.tup ((sortD r).map V.int))) → Q (.ref l) H') :
    tBy3 K [some a, some c, some (.ref L), y3, y4, none, none] H1 Q := by
  refine ⟨.ref L, rfl, L, rfl, ⟨_, .inl (.inl G.lst)⟩, fun D hD => ?_⟩
  have none0 : ∀ {H' : Hp} {p : Addr}, Same H1 H' → H' p = none → H0 p = none := fun {H' p} s e => by
    cases z : H0 p with
    | none => rfl
    | some o => rw [s p o (G.old p o z)] at e; cases e
  refine lc_list (K := K) (a := L) (xs := ds.map V.ref) (fun i H' => Same H1 H' ∧ ∃ ts : List Addr, ts.length = i ∧ H' D = some (.lst (ts.map V.ref)) ∧ ∀ (k : Nat) (t : Addr), ts[k]? = some t → H0 t = none ∧ ∃ r, rows[k]? = some r ∧ H' t = some (.tup ((sortD r).map V.int)))
    ⟨same_upd hD, [], rfl, upd_same, fun k t h => by simp at h⟩ (fun i H' _ ⟨s, _⟩ => .inl (.inl (s _ _ G.lst))) (fun i x H' hx ⟨s, ts, hl, hDl, hts⟩ => ?_) fun H' ⟨s, ts, hl, hDl, hts⟩ => ?_
  · refine ⟨rfl, ?_⟩
    rw [List.getElem?_map] at hx
    obtain ⟨b, hb, rfl⟩ := Option.map_eq_some_iff.mp hx
    have hi : i < rows.length := by rw [G.len]; exact (List.getElem?_eq_some_iff.mp hb).1
    have hri := List.getElem?_eq_getElem hi
    generalize rows[i] = r at hri
    have hrn := hnd r (List.mem_of_getElem? hri)
    refine ⟨.ref b, rfl, b, _, rfl, s _ _ (G.row i b r hb hri), fun p hp => ?_⟩
    rw [keys_dk]
    refine ⟨p, r, rfl, .inl (.inl upd_same), fun ns w hperm hle hw => ?_⟩
    have en := sorted_is hperm hle hrn
    subst en
    refine ⟨w, _, rfl, .inl ⟨.inl (.inl upd_same), fun t ht => ?_⟩⟩
    have s1 : Same H' (upd H' p (.lst (r.map V.int))) := same_upd hp
    have s2 := same_upd (o := .lst ((sortD r).map V.int)) hw
    have s3 := same_upd (o := .tup ((sortD r).map V.int)) ht
    have s13 := (s1.trans s2).trans s3
    have t0 : H' t = none := by
      cases z : H' t with
      | none => rfl
      | some o => rw [s2 _ _ (s1 _ _ z)] at ht; cases ht
    have tD : t ≠ D := fun e => by subst e; rw [hDl] at t0; cases t0
    refine ⟨ts.map V.ref, s13 _ _ hDl, ?_, fun b' o e => ?_, ts ++ [t], by simp [hl], ?_, fun k u hu => ?_⟩
    · rw [List.length_map, hl, sizeLine_eq]; omega
    · have neD : b' ≠ D := fun z => by subst z; rw [hD] at e; cases e
      rw [upd_ne neD]; exact s13 _ _ (s _ _ e)
    · rw [upd_same, List.map_append]; rfl
    · rw [List.getElem?_append] at hu
      split at hu
      · obtain ⟨g1, r', g2, g3⟩ := hts k u hu
        have uD : u ≠ D := fun e => by subst e; rw [hDl] at g3; cases g3
        exact ⟨g1, r', g2, by rw [upd_ne uD]; exact s13 _ _ g3⟩
      · rename_i hk
        have eu : u = t := by
          have := List.mem_of_getElem? hu
          simpa using this
        have ek : k = i := by
          have := (List.getElem?_eq_some_iff.mp hu).1
          simp at this; omega
        subst eu; subst ek
        exact ⟨none0 s t0, r, hri, by rw [upd_ne tD, upd_same]⟩
  · rw [List.length_map] at hl
    refine ⟨D, _, rfl, .inl ⟨.inl (.inl hDl), fun l hlf => ?_⟩⟩
    have s1 := same_upd (o := .tup (ts.map V.ref)) hlf
    exact q l ts _ (s.trans s1) (none0 s hlf) upd_same (by rw [hl, G.len]) fun k t hk => by
      obtain ⟨g1, r, g2, g3⟩ := hts k t hk
      exact ⟨g1, r, g2, s1 _ _ g3⟩
/-- the new part of a heap, over what was frozen -/
def joinH (F H H' : Hp) : Hp := fun b => match F b with
  | some o => some o
  | none => match H b with
    | none => match H' b with
      | some (.tbl _) => none
      | o => o
    | some _ => none
theorem joinH_old {F H H' : Hp} : Same F (joinH F H H') := fun b o e => by unfold joinH; rw [e]
theorem joinH_new {F H H' : Hp} {b : Addr} {xs : List V} (s : Same F H) (h : H b = none) (e : H' b = some (.tup xs)) : joinH F H H' b = some (.tup xs) := by
  unfold joinH
  rw [s.free h, h, e]
theorem TbOk.join {K : Fg} {F H H' : Hp} (tb : TbOk K F H) (s : Same H H') : TbOk K (joinH F H H') H' :=
  ⟨fun p hp => by
    obtain ⟨ps, h1, _⟩ := tb.2.1 p hp
    unfold joinH
    rw [tb.1 p hp, h1], tabs_ext tb.2.1 (fun b o e _ => s b o e), fun b ps z => by
    unfold joinH at z
    split at z
    · rename_i u hu; cases z; exact tb.2.2 b ps hu
    · split at z
      · split at z
        · cases z
        · rename_i n; exact n ps z
      · cases z⟩
theorem joinH_sub {F H H' : Hp} (s : Same F H) (s' : Same H H') : Same (joinH F H H') H' := fun b o e => by
  unfold joinH at e
  split at e
  · rename_i u hu; cases e; exact s' _ _ (s _ _ hu)
  · split at e
    · split at e
      · cases e
      · exact e
    · cases e
theorem joinH_fre {F H H' : Hp} (b : Addr) (h : F b = none) (h' : joinH F H H' b ≠ none) : H b = none := by
  cases z : H b with
  | none => rfl
  | some o => exact absurd (by unfold joinH; rw [h, z]) h'
/-- the web of the rows -/
def webD (rows : List (List Int)) : D := .tuple (rows.map fun r => .tuple (r.map .int))
def edgeD (e : Int × Int) : D := .tuple [.int e.1, .int e.2]
/-- _law_by -/
def wBy : List D → (D → Prop) → Prop := fun ps K => ∃ (n : Nat) (es : List (Int × Int)), ps = [.int (n : Int), .list (es.map edgeD)] ∧ n ≤ 1000 ∧ es.length ≤ 1000 ∧ EdgesOk n es ∧ K (webD ((byRows n es).map sortD))
theorem wBy_mono (ps : List D) (K K' : D → Prop) (h : ∀ p, K p → K' p) (q : wBy ps K) : wBy ps K' := by
  obtain ⟨n, es, e, h1, h2, h3, k⟩ := q
  exact ⟨n, es, e, h1, h2, h3, h _ k⟩
theorem byRows_facts {n : Nat} : ∀ (es : List (Int × Int)) (rows : List (List Int)), rows.length = n → (∀ r ∈ rows, r.Nodup) → (es.foldl addE rows).length = n ∧ ∀ r ∈ es.foldl addE rows, r.Nodup
  | [], rows, h1, h2 => ⟨h1, h2⟩
  | e :: es, rows, h1, h2 => by
    rw [List.foldl_cons]
    have m : ∀ (qs : List (List Int)) (k : Nat) (j : Int), (∀ r ∈ qs, r.Nodup) → ∀ r ∈ modR qs k j, r.Nodup := fun qs k j h r hr => by
      unfold modR at hr
      obtain ⟨w, hw⟩ := List.getElem?_of_mem hr
      rw [List.getElem?_modify] at hw
      obtain ⟨r0, hr0, rfl⟩ := Option.map_eq_some_iff.mp hw
      have := h r0 (List.mem_of_getElem? hr0)
      split
      · exact insF_nodup this
      · exact this
    exact byRows_facts es _ (by rw [rows_len]; exact h1) (m _ _ _ (m _ _ _ h2))
theorem by_sp {K : Fg} {vs : List V} {H : Hp} {Q : VK} {E : XK} {a b c d e f g : Str} (h : spF K 2 wBy vs H Q E) : tBy K { nx := fun _ H' => Q .non H', rt := Q } (start [a, b, c, d, e, f, g] vs) H := by
  obtain ⟨hl, F, ps, sF, tb, dd, n, es, rfl, h1, h2, h3, k⟩ := h
  obtain ⟨v, u, rfl, d1, d2⟩ := dp2 dd
  obtain rfl := Dp.inv_int d1
  obtain ⟨cs, xs, rfl, sL, r⟩ := Dp.inv_lst d2
  have e0 : start [a, b, c, d, e, f, g] [V.int (n : Int), V.ref cs] = [some (.int (n : Int)), some (.ref cs), none, none, none, none, none] := rfl
  rw [e0]
  unfold tBy tSeq tAsg
  refine by1_ok h1 fun L ds H1 G => ?_
  refine by2_ok (rows := List.replicate n []) h2 List.length_replicate (fun r hr => by rw [List.eq_of_mem_replicate hr]; rfl) (sqL_same sF sL) (r.same sF) h3 (fun r hr => by rw [List.eq_of_mem_replicate hr]; exact List.nodup_nil) (fun r hr => by rw [List.eq_of_mem_replicate hr]; intro k hk; cases hk) G fun y3 y4 H2 G2 => ?_
  obtain ⟨hlen, hnd⟩ := byRows_facts es (List.replicate n []) List.length_replicate fun r hr => by rw [List.eq_of_mem_replicate hr]; exact List.nodup_nil
  refine by3_ok (by rw [hlen]; exact h1) hnd G2 fun l ts H3 s hl0 hlt hts htt => ?_
  have sH : Same H H3 := fun b o z => s _ _ (G2.old b o z)
  refine k (joinH F H H3) H3 (.ref l) joinH_old (sameX_of sH) (joinH_sub sF sH) (tb.join sH) (fun b h1 h2 => .inl (joinH_fre b h1 h2)) ?_
  refine .tup (joinH_new sF hl0 hlt) ?_
  -- item by item
  have items : ∀ (ts : List Addr) (rows : List (List Int)), ts.length = rows.length → (∀ (k : Nat) (t : Addr), ts[k]? = some t → H t = none ∧ ∃ r, rows[k]? = some r ∧ H3 t = some (.tup ((sortD r).map V.int))) →
      DpAll K (joinH F H H3) (ts.map V.ref) ((rows.map sortD).map fun r => .tuple (r.map .int)) := fun ts => by
    induction ts with
    | nil =>
      intro rows hl _
      cases rows with
      | nil => exact .nil
      | cons _ _ => cases hl
    | cons t ts ih =>
      intro rows hl h
      cases rows with
      | nil => cases hl
      | cons r rows =>
        obtain ⟨g1, r', g2, g3⟩ := h 0 t rfl
        obtain rfl : r = r' := by simpa using g2
        exact .cons (.tup (joinH_new sF g1 g3) (dpAll_of_ints _)) (ih rows (by simpa using hl) fun k u hu => h (k + 1) u (by simpa using hu))
  exact items ts _ hts htt
end L2.P


set_option Elab.async false
set_option linter.all false
set_option maxRecDepth 100000
set_option maxHeartbeats 4000000
namespace L2.P
open PySem PySem.Spec PyProof.Rows L2
section
variable {X : Cx} {e a b : Expr} {es : List Expr} {p pos spos : Pos} {n : Nat}
/-- arguments of a known number -/
structure EAL (X : Cx) (es : List Expr) (T : TL) (n : Nat) : Prop where
  ea : EA X es T
  len : LenW T n
theorem eal_nil : EAL X [] wNil 0 := ⟨ea_nilw, lenW_nil⟩
theorem eal_cons {T : TW} {U : TL} (ha : EW X e T) (hr : EAL X es U n) (hs : starEach (e :: es) X.env = (false, eval e X.env) :: starEach es X.env := by rfl) : EAL X (e :: es) (wCons T U) (n + 1) :=
  ⟨ea_consw ha hr.ea hs, lenW_cons ha hr.len hr.ea.mono⟩
def wLst (T : TL) : TW := fun ρ K => T ρ fun ps => K (.list ps)
theorem NW.eL {T : TL} (h : NW X e T) : EW X e (wLst T) := h.e
def wDraw (i : Nat) (w : List D → (D → Prop) → Prop) (U : TL) : TW := fun ρ K => ρ[i]? = some .row ∧ wCal w U ρ K
theorem ew_draw {T : List D → (D → Prop) → Prop} {U : TL} {i : Nat} {x y : Str} {py : Pos} (c : CalX X x (spR X.K n T)) (mt : ∀ ps K K', (∀ p, K p → K' p) → T ps K → T ps K') (hN : X.N[i]? = some y) (hv : Vis X.env.scope y) (h : EAL X es U n) (hg : Gl X x) (hdb : (x == ("__debug__" : Str)) = false := by decide)
    (hd : (y == ("__debug__" : Str)) = false := by decide) (hcd : (y == ("__classdict__" : Str)) = false := by decide)
    (he : starEach (.Name y py :: es) X.env = (false, eval (.Name y py) X.env) :: starEach es X.env := by rfl) (hpl : (backTo pos (starEach es X.env)).any (·.1) = false := by rfl) : EW X (.Call (.Name x p) (.Name y py :: es) [] pos) (wDraw i T U) :=
  ew_callR c mt hN hv h.ea h.len hg hdb hd hcd he hpl
theorem ew_callL {T : List D → (D → Prop) → Prop} {U : TL} {x : Str} (c : CalX X x (spF X.K n T)) (mt : ∀ ps K K', (∀ p, K p → K' p) → T ps K → T ps K') (ha : EAL X (e :: es) U n) (hg : Gl X x) (hdb : (x == ("__debug__" : Str)) = false := by decide)
    (he : starEach (e :: es) X.env = (false, eval e X.env) :: starEach es X.env := by rfl) (hpl : (backTo pos (starEach es X.env)).any (·.1) = false := by rfl) : EW X (.Call (.Name x p) (e :: es) [] pos) (wCal T U) := ew_call c mt ha.ea ha.len hg hdb he hpl
theorem sw_parL {i j : Nat} {x y : Str} {T : TL} {px py pt : Pos} {kt k2 pt2} (hc : X.calm = true) (hN : X.N.Nodup) (hi : X.N[i]? = some x) (hj : X.N[j]? = some y) (hij : i ≠ j)
    (hx : X.env.scope.names.lookup x = some .local) (hy : X.env.scope.names.lookup y = some .local) (h : EAL X [a, b] T n)
    (hw : swappedStores [.Tuple [.Name x px, .Name y py] kt pt] (.Tuple [a, b] k2 pt2) X.env = pure (some [x, y]))
    (hs : swapsWithSole [.Tuple [.Name x px, .Name y py] kt pt] (.Tuple [a, b] k2 pt2) pos.line X.env = pure false := by rfl) :
    SW X (.Assign [.Tuple [.Name x px, .Name y py] kt pt] (.Tuple [a, b] k2 pt2) pos) (wPar i j T) := sw_par hc hN hi hj hij hx hy h.ea hw hs
theorem Rs.toRow {K : Fg} {B : Bs} {F H : Hp} {σ : St} {ρ : Rho} {i : Nat} {ns : List Int} {b c d : Int} (R : Rs K B F H σ ρ) (h : ρ[i]? = some (.ol [.list (ns.map .int), .int b, .int c, .int d])) (hl : ns.length ≤ 63) (hb : 0 ≤ b) (hc : 0 ≤ c) (hd : 0 ≤ d) :
    Rs K B F H σ (ρ.set i .row) := by
  obtain ⟨a, xs, hσ, f, h0, h1, r⟩ := R.own h
  have ok : RowOk K none F H a := by
    obtain ⟨v1, u1, rfl, d1, r1⟩ := r.uncons
    obtain ⟨v2, u2, rfl, d2, r2⟩ := r1.uncons
    obtain ⟨v3, u3, rfl, d3, r3⟩ := r2.uncons
    obtain ⟨v4, u4, rfl, d4, r4⟩ := r3.uncons
    obtain rfl := r4.unnil
    obtain ⟨sa, ys, rfl, s, ry⟩ := Dp.inv_lst d1
    rw [dpAll_ints ns ry] at s
    rw [Dp.inv_int d2, Dp.inv_int d3, Dp.inv_int d4] at h1
    exact ⟨sa, ns, b, c, d, h1, s, hl, hb, hc, hd⟩
  refine ⟨R.sub, R.ext, R.new, R.old, R.hrow, R.hr2, by rw [List.length_set]; exact R.len, fun j s hs => ?_, fun j k c s t hjk h1' h2' o1 o2 e1 e2 => ?_, R.tb, R.tbh⟩
  · rcases set_some hs with ⟨rfl, hl, rfl⟩ | ⟨ne, hs⟩
    · rw [hσ]; exact .row f (.inl h0) ok
    · exact R.at_ j s hs
  · rcases set_some h1' with ⟨rfl, hl, rfl⟩ | ⟨ne, h1'⟩
    · rcases set_some h2' with ⟨rfl, _⟩ | ⟨ne, h2'⟩
      · exact hjk rfl
      · exact R.apart i k c _ t hjk h h2' rfl o2 e1 e2
    · rcases set_some h2' with ⟨rfl, hl, rfl⟩ | ⟨ne2, h2'⟩
      · exact R.apart j i c s _ hjk h1' h o1 rfl e1 e2
      · exact R.apart j k c s t hjk h1' h2' o1 o2 e1 e2
def wRow (i : Nat) (T : TL) : TSt := fun ρ K => i < ρ.length ∧ T ρ fun ps => ∃ (ns : List Int) (b c d : Int), ps = [.list (ns.map .int), .int b, .int c, .int d] ∧ ns.length ≤ 63 ∧ 0 ≤ b ∧ 0 ≤ c ∧ 0 ≤ d ∧ K (.nx (ρ.set i .row))
theorem sw_row {st : Stmt} {i : Nat} {T : TL} (h : NS X st i T) : SW X st (wRow i T) :=
  ⟨fun ρ K K' k ⟨hl, q⟩ => ⟨hl, h.mono _ _ _ (fun p ⟨ns, b, c, d, e, h1, h2, h3, h4, z⟩ => ⟨ns, b, c, d, e, h1, h2, h3, h4, k _ z⟩) q⟩, h.ps.imp fun En σ H ⟨B, F, ρ, R, hl, q⟩ => ⟨B, F, ρ, R, h.mono _ _ _ (fun p ⟨ns, b, c, d, e, h1, h2, h3, h4, k⟩ F' H' a xs R' s n d' => by
    subst e
    have z := (R'.putO (i := i) n d').toRow (by rw [List.getElem?_set_self hl]) h1 h2 h3 h4
    rw [List.set_set] at z
    exact k F' _ _ z s) q⟩⟩
end
def rho0R (n : Nat) (ps : List D) : Rho := Sl.row :: rho0 (n - 1) ps
def runR (n : Nat) (T : TSt) : List D → (D → Prop) → Prop := fun ps K => T (rho0R n ps) fun fl => match fl with
  | .rt p => K p
  | .nx _ => K .none
  | _ => False
theorem runR_mono {n : Nat} {T : TSt} (m : ∀ ρ K K', (∀ p, K p → K' p) → T ρ K → T ρ K') (ps : List D) (K K' : D → Prop) (h : ∀ p, K p → K' p) (q : runR n T ps K) : runR n T ps K' := m _ _ _ (fun fl k => by
  cases fl with
  | rt p => exact h _ k
  | nx _ => exact h _ k
  | bk _ => exact k
  | ct _ => exact k) q
section
variable {P : Program} {w : World} {K : Fg} {mg : Str → Option Value} {base : Heap} {x qual : Str} {params : Arguments} {body : List Stmt} {scope : Scope} {f : Addr} {fd : FuncData} {N ps : List Str} {k : Nat}
theorem rs_startR {F H : Hp} {r : Addr} {vs : List V} {ds : List D} (s : Same F H) (tb : TbOk K F H) (fr : F r = none) (ok : RowOk K none F H r) (d : DpAll K F vs ds) (hl : vs.length + 1 ≤ N.length) : Rs K ⟨F, H, some r, none⟩ F H (start N (.ref r :: vs)) (rho0R N.length ds) where
  sub := s
  ext := Same.refl _
  new := fun b h1 h2 => absurd h1 h2
  old := SameX.refl _
  hrow := fun r' h => by cases h; exact ⟨fr, ok⟩
  tb := tb
  tbh := fun p hp => by obtain ⟨ps, h1, _⟩ := tb.2.1 p hp; exact ⟨ps, h1⟩
  hr2 := fun r' h => by cases h; obtain ⟨o, e⟩ := ok.there; show H r ≠ none; rw [e]; simp
  len := by unfold start rho0R rho0; have := d.length; simp only [List.length_append, List.length_map, List.length_replicate, List.length_cons]; omega
  at_ := fun i t ht => by
    cases i with
    | zero =>
      unfold rho0R at ht
      simp at ht
      subst ht
      rw [start_at (vs := .ref r :: vs) (i := 0) rfl]
      exact .row fr (.inr ⟨rfl, rfl, True.intro⟩) ok
    | succ i =>
      unfold rho0R at ht
      rw [List.getElem?_cons_succ] at ht
      rcases rho0_at ht with rfl | ⟨p, hp, rfl⟩
      · exact .no
      · obtain ⟨v, hv, dv⟩ := d.get hp
        rw [start_at (vs := .ref r :: vs) (i := i + 1) (by simpa using hv)]
        exact .v dv
  apart := fun i j a s t hij h1 h2 o1 o2 e1 e2 => by
    have z : ∀ (k : Nat) (u : Sl), (rho0R N.length ds)[k]? = some u → u.owns = true → k = 0 := fun k u h o => by
      cases k with
      | zero => rfl
      | succ k =>
        unfold rho0R at h
        rw [List.getElem?_cons_succ] at h
        rcases rho0_at h with rfl | ⟨p, hp, rfl⟩ <;> cases o
    exact hij ((z i s h1 o1).trans (z j t h2 o2).symm)
/-- closed upward -/
def clo (w : List D → (D → Prop) → Prop) : List D → (D → Prop) → Prop := fun ps K => ∃ K0, (∀ p, K0 p → K p) ∧ w ps K0
theorem clo_mono {w : List D → (D → Prop) → Prop} : ∀ ps K K', (∀ p, K p → K' p) → clo w ps K → clo w ps K' := fun ps K K' h ⟨K0, a, b⟩ => ⟨K0, fun p z => h p (a p z), b⟩
theorem clo_in {w : List D → (D → Prop) → Prop} {ps : List D} {K : D → Prop} (h : w ps K) : clo w ps K := ⟨K, fun _ z => z, h⟩
/-- THE RULE: a def that draws -/
theorem fn_row {T : TSt} {n : Nat} (Fd : FunD K x qual params body scope [] [] f fd) (S : FnScope N ps scope) (hn : ps.length = n + 1) (hnN : n + 1 ≤ N.length)
    (hb : ∀ (cdv : Value) (A : Around) (outer : List Env) (s : Shared) (H : Hp) (E : XK), Room k (A.deeper (envOfC qual scope s.heap.objs.size f cdv)) → SWs (cxOf CX0 P w K mg base N qual scope f cdv A outer s H E).nox body T) :
    FnOk P w K mg base CX0 (k + 1) f fd ps (spR K n (clo (runR N.length T))) := by
  refine Fd.ok S (fun vs H Q E h => by rw [h.1, hn]) fun cdv A outer s H vs Q E hr h => ?_
  have W := hb cdv A outer s H E hr
  refine ⟨_, PSs.nox W.pss, ?_⟩
  obtain ⟨hl, r, us, F, ds, rfl, sF, tb, fr, ok, d, K0, hK, q⟩ := h
  replace q := runR_mono W.mono ds K0 _ hK q
  refine ⟨⟨F, H, some r, none⟩, F, rho0R N.length ds, rs_startR sF tb fr ok d (by rw [List.length_cons] at hl; omega), W.mono _ _ _ (fun fl k => ?_) q⟩
  cases fl with
  | nx ρ' => exact fun F' H' σ' R' s' => k F' H' .non s' R'.old R'.sub R'.tb R'.new (R'.hrow r rfl).2 .non
  | rt p => exact fun F' H' v ⟨σ', ρ', R'⟩ s' d' => k F' H' v s' R'.old R'.sub R'.tb R'.new (R'.hrow r rfl).2 d'
  | bk ρ' => exact k.elim
  | ct ρ' => exact k.elim
end
end L2.P


set_option Elab.async false
set_option linter.all false
set_option maxRecDepth 100000
set_option maxHeartbeats 4000000
namespace L2.P
open PySem PySem.Spec PyProof.Rows L2
/-- values of α as data, compared as α's own -/
structure EncOk {α : Type} [DecidableEq α] (enc : α → D) (n : Nat) : Prop where
  eqv : ∀ a b, PyData.eqv (enc a) (enc b) = decide (a = b)
  plain : ∀ a, (enc a).plain = true
  depth : ∀ a, (enc a).depth ≤ n
section
variable {α β : Type} [DecidableEq α] [DecidableEq β] {enc : α → D} {enc' : β → D} {n m : Nat}
theorem encInt : EncOk PyData.int 0 := ⟨fun a b => by simp only [PyData.eqv]; rw [Bool.eq_iff_iff, beq_iff_eq, decide_eq_true_eq], fun _ => rfl, fun _ => Nat.le_refl _⟩
theorem encBool : EncOk PyData.bool 0 := ⟨fun a b => by simp only [PyData.eqv]; rw [Bool.eq_iff_iff, beq_iff_eq, decide_eq_true_eq], fun _ => rfl, fun _ => Nat.le_refl _⟩
theorem EncOk.plainAll (h : EncOk enc n) : ∀ xs : List α, PyData.plainAll (xs.map enc) = true
  | [] => rfl
  | x :: xs => by rw [List.map_cons, PyData.plainAll, h.plain x, EncOk.plainAll h xs]; rfl
theorem EncOk.depthAll (h : EncOk enc n) : ∀ xs : List α, PyData.depthAll (xs.map enc) ≤ n
  | [] => Nat.zero_le _
  | x :: xs => by rw [List.map_cons, PyData.depthAll]; exact Nat.max_le.mpr ⟨h.depth x, EncOk.depthAll h xs⟩
theorem EncOk.eqvAll (h : EncOk enc n) : ∀ xs ys : List α, PyData.eqvAll (xs.map enc) (ys.map enc) = decide (xs = ys)
  | [], [] => by simp only [List.map_nil, PyData.eqvAll, decide_true]
  | [], _ :: _ => by simp [PyData.eqvAll]
  | _ :: _, [] => by simp [PyData.eqvAll]
  | x :: xs, y :: ys => by
    rw [List.map_cons, List.map_cons, PyData.eqvAll, h.eqv x y, EncOk.eqvAll h xs ys, ← Bool.decide_and]
    exact decide_eq_decide.mpr (by rw [List.cons.injEq])
theorem EncOk.list (h : EncOk enc n) : EncOk (fun xs : List α => PyData.list (xs.map enc)) (n + 1) :=
  ⟨fun a b => by simp only [PyData.eqv]; exact h.eqvAll a b, fun a => by simp only [PyData.plain]; exact h.plainAll a, fun a => by simp only [PyData.depth]; exact Nat.succ_le_succ (h.depthAll a)⟩
theorem EncOk.tup (h : EncOk enc n) : EncOk (fun xs : List α => PyData.tuple (xs.map enc)) (n + 1) :=
  ⟨fun a b => by simp only [PyData.eqv]; exact h.eqvAll a b, fun a => by simp only [PyData.plain]; exact h.plainAll a, fun a => by simp only [PyData.depth]; exact Nat.succ_le_succ (h.depthAll a)⟩
theorem EncOk.ok (h : EncOk enc n) (a : α) (hn : n ≤ 64 := by decide) : okD (enc a) = true := okD_iff.mpr ⟨h.plain a, Nat.le_trans (h.depth a) hn⟩
theorem EncOk.oks (h : EncOk enc n) (a : List α) (hn : n ≤ 64 := by decide) : okDs (a.map enc) = true := okDs_iff.mpr ⟨h.plainAll a, Nat.le_trans (h.depthAll a) hn⟩
theorem EncOk.eq (h : EncOk enc n) (a b : α) (hn : n ≤ 64 := by decide) : dEq (enc a) (enc b) = some (.bool (decide (a = b))) := by
  unfold dEq; rw [if_pos ⟨h.ok a hn, h.ok b hn⟩, h.eqv]
theorem EncOk.ne (h : EncOk enc n) (a b : α) (hn : n ≤ 64 := by decide) : dNe (enc a) (enc b) = some (.bool (!decide (a = b))) := by
  unfold dNe; rw [if_pos ⟨h.ok a hn, h.ok b hn⟩, h.eqv]
theorem EncOk.any (h : EncOk enc n) (a : α) : ∀ xs : List α, ((xs.map enc).any fun y => PyData.eqv y (enc a)) = decide (a ∈ xs)
  | [] => rfl
  | x :: xs => by
    rw [List.map_cons, List.any_cons, EncOk.any h a xs, h.eqv, ← Bool.decide_or]
    exact decide_eq_decide.mpr (by rw [List.mem_cons, eq_comm])
theorem EncOk.inT (h : EncOk enc n) (a : α) (xs : List α) (hn : n ≤ 64 := by decide) : dIn (enc a) (.tuple (xs.map enc)) = some (.bool (decide (a ∈ xs))) := by
  unfold dIn; rw [items, Option.bind_some, if_pos ⟨h.ok a hn, h.oks xs hn⟩, h.any]
theorem EncOk.inL (h : EncOk enc n) (a : α) (xs : List α) (hn : n ≤ 64 := by decide) : dIn (enc a) (.list (xs.map enc)) = some (.bool (decide (a ∈ xs))) := by
  unfold dIn; rw [items, Option.bind_some, if_pos ⟨h.ok a hn, h.oks xs hn⟩, h.any]
theorem EncOk.niT (h : EncOk enc n) (a : α) (xs : List α) (hn : n ≤ 64 := by decide) : dNotIn (enc a) (.tuple (xs.map enc)) = some (.bool (!decide (a ∈ xs))) := by
  unfold dNotIn; rw [items, Option.bind_some, if_pos ⟨h.ok a hn, h.oks xs hn⟩, h.any]
theorem EncOk.niL (h : EncOk enc n) (a : α) (xs : List α) (hn : n ≤ 64 := by decide) : dNotIn (enc a) (.list (xs.map enc)) = some (.bool (!decide (a ∈ xs))) := by
  unfold dNotIn; rw [items, Option.bind_some, if_pos ⟨h.ok a hn, h.oks xs hn⟩, h.any]
end
@[simp] theorem e_lt (i j : Int) : dLt (.int i) (.int j) = some (.bool (decide (i < j))) := rfl
@[simp] theorem e_le (i j : Int) : dLe (.int i) (.int j) = some (.bool (decide (i ≤ j))) := rfl
@[simp] theorem e_gt (i j : Int) : dGt (.int i) (.int j) = some (.bool (decide (j < i))) := rfl
@[simp] theorem e_ge (i j : Int) : dGe (.int i) (.int j) = some (.bool (decide (j ≤ i))) := rfl
@[simp] theorem e_sub (i j : Int) : dSub (.int i) (.int j) = some (.int (i - j)) := rfl
@[simp] theorem e_add (i j : Int) : dAdd (.int i) (.int j) = some (.int (i + j)) := rfl
@[simp] theorem e_eq (i j : Int) : dEq (.int i) (.int j) = some (.bool (decide (i = j))) := encInt.eq i j
@[simp] theorem e_ne (i j : Int) : dNe (.int i) (.int j) = some (.bool (!decide (i = j))) := encInt.ne i j
@[simp] theorem e_eqb (i j : Bool) : dEq (.bool i) (.bool j) = some (.bool (decide (i = j))) := encBool.eq i j
@[simp] theorem e_neb (i j : Bool) : dNe (.bool i) (.bool j) = some (.bool (!decide (i = j))) := encBool.ne i j
@[simp] theorem e_inT (i : Int) (xs : List Int) : dIn (.int i) (.tuple (xs.map .int)) = some (.bool (decide (i ∈ xs))) := encInt.inT i xs
@[simp] theorem e_inL (i : Int) (xs : List Int) : dIn (.int i) (.list (xs.map .int)) = some (.bool (decide (i ∈ xs))) := encInt.inL i xs
@[simp] theorem e_niT (i : Int) (xs : List Int) : dNotIn (.int i) (.tuple (xs.map .int)) = some (.bool (!decide (i ∈ xs))) := encInt.niT i xs
@[simp] theorem e_niL (i : Int) (xs : List Int) : dNotIn (.int i) (.list (xs.map .int)) = some (.bool (!decide (i ∈ xs))) := encInt.niL i xs
@[simp] theorem e_isB (b : Bool) : isB (.bool b) = some b := rfl
@[simp] theorem e_b2 (g : G2) (f1 f2 : Rho → Option D) (ρ : Rho) : b2 g f1 f2 ρ = (f1 ρ).bind fun x => (f2 ρ).bind fun y => g x y := rfl
@[simp] theorem e_b3 (g g' : G2) (f1 f2 f3 : Rho → Option D) (ρ : Rho) : b3 g g' f1 f2 f3 ρ = (f1 ρ).bind fun x => (f2 ρ).bind fun y => (g x y).bind fun r => (isB r).bind fun k => if k = true then (f3 ρ).bind fun z => g' y z else some (.bool false) := rfl
@[simp] theorem e_bB (f : Rho → Option D) (ρ : Rho) : bB f ρ = (f ρ).bind isB := rfl
@[simp] theorem e_bNot (f : Rho → Option Bool) (ρ : Rho) : bNot f ρ = (f ρ).map (!·) := rfl
@[simp] theorem e_bAnd (f g : Rho → Option Bool) (ρ : Rho) : bAnd f g ρ = (f ρ).bind fun b => if b = true then g ρ else some false := rfl
@[simp] theorem e_bOr (f g : Rho → Option Bool) (ρ : Rho) : bOr f g ρ = (f ρ).bind fun b => if b = true then some true else g ρ := rfl
@[simp] theorem e_vAnd (f g : Rho → Option D) (ρ : Rho) : vAnd f g ρ = (f ρ).bind fun x => (isB x).bind fun b => if b = true then g ρ else some (.bool false) := rfl
@[simp] theorem e_vNot (f : Rho → Option D) (ρ : Rho) : vNot f ρ = (f ρ).bind fun x => (isB x).map fun b => .bool (!b) := rfl
@[simp] theorem e_aNil (ρ : Rho) : aNil ρ = some [] := rfl
@[simp] theorem e_aCons (f : Rho → Option D) (g : Rho → Option (List D)) (ρ : Rho) : aCons f g ρ = (f ρ).bind fun x => (g ρ).map fun xs => x :: xs := rfl
@[simp] theorem e_aOf {α : Type} (g : List D → Option α) (f : Rho → Option (List D)) (ρ : Rho) : aOf g f ρ = (f ρ).bind g := rfl
@[simp] theorem e_vTup (f : Rho → Option (List D)) (ρ : Rho) : vTup f ρ = (f ρ).map PyData.tuple := rfl
@[simp] theorem e_gC (p : D) (ρ : Rho) : gC p ρ = some p := rfl
@[simp] theorem e_wipe0 (ρ : Rho) : wipeR ρ [] = ρ := rfl
@[simp] theorem e_wipe (ρ : Rho) (i : Nat) (is : List Nat) : wipeR ρ (i :: is) = (wipeR ρ is).set i .no := rfl
@[simp] theorem e_fYes (ρ : Rho) : fYes ρ = some true := rfl
@[simp] theorem e_fItems (f : Rho → Option D) (ρ : Rho) : fItems f ρ = (f ρ).bind items := rfl
@[simp] theorem e_itT (xs : List D) : items (.tuple xs) = some xs := rfl
@[simp] theorem e_itL (xs : List D) : items (.list xs) = some xs := rfl
@[simp] theorem e_gTupL (xs : List D) : gTup [.list xs] = some (.tuple xs) := rfl
@[simp] theorem e_gTupT (xs : List D) : gTup [.tuple xs] = some (.tuple xs) := rfl
@[simp] theorem e_gLst (p : D) : gLst [p] = items p := rfl
@[simp] theorem e_gLenL (xs : List D) : gLen [.list xs] = some (.int xs.length) := rfl
@[simp] theorem e_gLenT (xs : List D) : gLen [.tuple xs] = some (.int xs.length) := rfl
@[simp] theorem e_gR1 (j : Int) : gR1 [.int j] = some (0, j) := rfl
@[simp] theorem e_vIsi (T : String) (f : Rho → Option D) (ρ : Rho) : vIsi T f ρ = (f ρ).bind fun p => if noIs p = true then none else some (gIsi T p) := rfl
@[simp] theorem e_gIsi (T : String) (p : D) : gIsi T p = .bool (isiB (tyN p) T) := rfl
@[simp] theorem e_gAny (bs : List Bool) : gAny [.list (bs.map .bool)] = some (.bool (bs.any id)) := by show (boolsD _).map _ = _; rw [boolsD_map]; rfl
@[simp] theorem e_gAll (bs : List Bool) : gAll [.list (bs.map .bool)] = some (.bool (bs.all id)) := by show (boolsD _).map _ = _; rw [boolsD_map]; rfl
@[simp] theorem e_gAnyC {α : Type} (xs : List α) (Q : α → Bool) : gAny [.list (xs.map (PyData.bool ∘ Q))] = some (.bool (xs.any Q)) := by rw [← List.map_map, e_gAny, List.any_map]; rfl
@[simp] theorem e_gAllC {α : Type} (xs : List α) (Q : α → Bool) : gAll [.list (xs.map (PyData.bool ∘ Q))] = some (.bool (xs.all Q)) := by rw [← List.map_map, e_gAll, List.all_map]; rfl
/-- statements -/
@[simp] theorem e_sSeq (f g : Rho → Option Fl) (ρ : Rho) : sSeq f g ρ = (match f ρ with | some (.nx ρ') => g ρ' | r => r) := rfl
@[simp] theorem e_sNil (ρ : Rho) : sNil ρ = some (.nx ρ) := rfl
@[simp] theorem e_sRet (f : Rho → Option D) (ρ : Rho) : sRet f ρ = (f ρ).map Fl.rt := rfl
@[simp] theorem e_sSet (i : Nat) (f : Rho → Option D) (ρ : Rho) : sSet i f ρ = (f ρ).map fun p => .nx (ρ.set i (.v p)) := rfl
@[simp] theorem e_sSetO (i : Nat) (f : Rho → Option (List D)) (ρ : Rho) : sSetO i f ρ = (f ρ).map fun p => .nx (ρ.set i (.ol p)) := rfl
@[simp] theorem e_sSetL (i : Nat) (f : Rho → Option (List D)) (ρ : Rho) : sSetL i f ρ = (f ρ).map fun p => .nx (ρ.set i (.v (.list p))) := rfl
@[simp] theorem e_sAsg (g : Tg) (f : Rho → Option D) (ρ : Rho) : sAsg g f ρ = (f ρ).bind fun p => (g p ρ).map Fl.nx := rfl
@[simp] theorem e_sDrop (f : Rho → Option D) (ρ : Rho) : sDrop f ρ = (f ρ).map fun _ => .nx ρ := rfl
@[simp] theorem e_sIf (t : Rho → Option Bool) (f g : Rho → Option Fl) (ρ : Rho) : sIf t f g ρ = (t ρ).bind fun b => if b = true then f ρ else g ρ := rfl
@[simp] theorem e_sFor (g : Tg) (u : Rho → Option (List D)) (f : Rho → Option Fl) (ρ : Rho) : sFor g u f ρ = (u ρ).bind fun ps => forF g f ps ρ := rfl
@[simp] theorem e_tgN (i : Nat) (p : D) (ρ : Rho) : tgN i p ρ = some (ρ.set i (.v p)) := rfl
@[simp] theorem e_tg2 (i j : Nat) (a b : D) (ρ : Rho) : tg2 i j (.tuple [a, b]) ρ = some ((ρ.set i (.v a)).set j (.v b)) := rfl
theorem e_sApp {i : Nat} {f : Rho → Option D} {ρ : Rho} {ps : List D} {p : D} (h : ρ[i]? = some (.ol ps)) (e : f ρ = some p) (hl : ps.length < sizeLine) : sApp i f ρ = some (.nx (ρ.set i (.ol (ps ++ [p])))) := by
  unfold sApp; rw [h]; show (f ρ).bind _ = _; rw [e, Option.bind_some, if_pos hl]
theorem atI_ix {α : Type} (xs : List α) (i : Int) (h0 : 0 ≤ i) (h1 : i < xs.length) : ∃ x, xs[i.toNat]? = some x ∧ atI xs i = some x := by
  have hi : i.toNat < xs.length := by omega
  refine ⟨xs[i.toNat], List.getElem?_eq_getElem hi, ?_⟩
  have e : i = (i.toNat : Int) := by omega
  have z := atI_nat (List.getElem?_eq_getElem hi)
  rw [← e] at z
  exact z
/-- a comprehension -/
theorem lcF_map {α : Type} {enc : α → D} {P : α → Bool} {E : α → D} {is : List Nat} {g : Tg} {t : Rho → Option Bool} {f : Rho → Option D} {ρ : Rho} : ∀ (xs : List α),
    (∀ x ∈ xs, ∃ ρ', g (enc x) (wipeR ρ is) = some ρ' ∧ t ρ' = some (P x) ∧ (P x = true → f ρ' = some (E x))) → lcF is g t f ρ (xs.map enc) = some ((xs.filter P).map E)
  | [], _ => rfl
  | x :: xs, h => by
    obtain ⟨ρ', h1, h2, h3⟩ := h x List.mem_cons_self
    rw [List.map_cons, lcF, h1, Option.bind_some, h2, Option.bind_some, lcF_map xs fun y hy => h y (List.mem_cons_of_mem _ hy)]
    cases hP : P x with
    | true => rw [if_pos rfl, h3 hP, Option.bind_some, List.filter_cons_of_pos hP]; rfl
    | false => rw [if_neg (by simp), List.filter_cons_of_neg (by rw [hP]; simp)]
theorem cLc_map {α : Type} (xs : List α) (enc : α → D) (P : α → Bool) (E : α → D) {is : List Nat} {g : Tg} {t : Rho → Option Bool} {f : Rho → Option D} {u : Rho → Option (List D)} {ρ : Rho} (hu : u ρ = some (xs.map enc)) (no : noOwn ρ is = true)
    (h : ∀ x ∈ xs, ∃ ρ', g (enc x) (wipeR ρ is) = some ρ' ∧ t ρ' = some (P x) ∧ (P x = true → f ρ' = some (E x))) : cLc is g t f u ρ = some ((xs.filter P).map E) := by
  unfold cLc; rw [if_pos no, hu, Option.bind_some, lcF_map xs h]
/-- .. of two clauses, no tests -/
theorem lcF2_map {α β : Type} {enc : α → D} {ys : α → List β} {E : α → β → D} {is is1 : List Nat} {g g1 : Tg} {t t1 : Rho → Option Bool} {f : Rho → Option D} {u1 : Rho → Option (List D)} {ρ : Rho} : ∀ (xs : List α),
    (∀ x ∈ xs, ∃ ρ', g (enc x) (wipeR ρ is) = some ρ' ∧ t ρ' = some true ∧ cLc is1 g1 t1 f u1 ρ' = some ((ys x).map (E x))) → lcF2 is is1 g g1 t t1 f u1 ρ (xs.map enc) = some (xs.flatMap fun x => (ys x).map (E x))
  | [], _ => rfl
  | x :: xs, h => by
    obtain ⟨ρ', h1, h2, h3⟩ := h x List.mem_cons_self
    rw [List.map_cons, lcF2, h1, Option.bind_some, h2, Option.bind_some, if_pos rfl, h3, Option.bind_some, lcF2_map (enc := enc) (ys := ys) (E := E) xs fun y hy => h y (List.mem_cons_of_mem _ hy), List.flatMap_cons]
    rfl
theorem cLc2_map {α β : Type} (xs : List α) (enc : α → D) (ys : α → List β) (E : α → β → D) {is is1 : List Nat} {g g1 : Tg} {t t1 : Rho → Option Bool} {f : Rho → Option D} {u u1 : Rho → Option (List D)} {ρ : Rho} (hu : u ρ = some (xs.map enc)) (no : noOwn ρ is = true)
    (h : ∀ x ∈ xs, ∃ ρ', g (enc x) (wipeR ρ is) = some ρ' ∧ t ρ' = some true ∧ cLc is1 g1 t1 f u1 ρ' = some ((ys x).map (E x))) (hl : (xs.flatMap fun x => (ys x).map (E x)).length ≤ sizeLine) : cLc2 is is1 g g1 t t1 f u u1 ρ = some (xs.flatMap fun x => (ys x).map (E x)) := by
  unfold cLc2; rw [if_pos no, hu, Option.bind_some, lcF2_map xs h, Option.bind_some, if_pos hl]
/-- a loop that adds to a list -/
theorem forF_app {α S : Type} {enc : α → D} (add : α → List D) (st : List D → S → Rho) {g : Tg} {f : Rho → Option Fl} (N : Nat) : ∀ (xs : List α) (acc : List D) (v : S),
    (∀ (acc : List D) (v : S) (x : α), x ∈ xs → acc.length + (add x).length ≤ N → ∃ ρ' v', g (enc x) (st acc v) = some ρ' ∧ f ρ' = some (.nx (st (acc ++ add x) v'))) → acc.length + (xs.flatMap add).length ≤ N →
    ∃ v', forF g f (xs.map enc) (st acc v) = some (.nx (st (acc ++ xs.flatMap add) v'))
  | [], acc, v, _, _ => ⟨v, by simp [forF]⟩
  | x :: xs, acc, v, h, hN => by
    rw [List.flatMap_cons, List.length_append] at hN
    obtain ⟨ρ', v1, h1, h2⟩ := h acc v x List.mem_cons_self (by omega)
    obtain ⟨v2, h3⟩ := forF_app add st N xs (acc ++ add x) v1 (fun a w y hy => h a w y (List.mem_cons_of_mem _ hy)) (by rw [List.length_append]; omega)
    refine ⟨v2, ?_⟩
    rw [List.map_cons, forF, h1, Option.bind_some, h2]
    show forF g f (xs.map enc) _ = _
    rw [h3, List.append_assoc, List.flatMap_cons]
/-- a loop that only looks -/
theorem forF_chk {α S : Type} {enc : α → D} (st : S → Rho) {g : Tg} {f : Rho → Option Fl} (xs : List α) (v : S) (h : ∀ (v : S) (x : α), x ∈ xs → ∃ ρ' v', g (enc x) (st v) = some ρ' ∧ f ρ' = some (.nx (st v'))) : ∃ v', forF g f (xs.map enc) (st v) = some (.nx (st v')) := by
  induction xs generalizing v with
  | nil => exact ⟨v, rfl⟩
  | cons x xs ih =>
    obtain ⟨ρ', v1, h1, h2⟩ := h v x List.mem_cons_self
    obtain ⟨v2, h3⟩ := ih v1 fun a y hy => h a y (List.mem_cons_of_mem _ hy)
    refine ⟨v2, ?_⟩
    rw [List.map_cons, forF, h1, Option.bind_some, h2]
    exact h3
theorem flatMap_if {α β : Type} (P : α → Bool) (E : α → β) (xs : List α) : (xs.flatMap fun x => if P x = true then [E x] else []) = (xs.filter P).map E := by
  induction xs with
  | nil => rfl
  | cons x xs ih =>
    rw [List.flatMap_cons, ih]
    cases hP : P x with
    | true => rw [if_pos rfl, List.filter_cons_of_pos hP]; rfl
    | false => rw [if_neg (by simp), List.filter_cons_of_neg (by rw [hP]; simp)]; rfl
/-- range(n) -/
def upI (n : Nat) : List Int := (List.range n).map fun i => ((i : Nat) : Int)
theorem mem_upI {n : Nat} {k : Int} : k ∈ upI n ↔ 0 ≤ k ∧ k < n := by
  unfold upI
  rw [List.mem_map]
  constructor
  · rintro ⟨i, hi, rfl⟩; rw [List.mem_range] at hi; omega
  · rintro ⟨h1, h2⟩; exact ⟨k.toNat, List.mem_range.mpr (by omega), by omega⟩
theorem upI_length (n : Nat) : (upI n).length = n := by unfold upI; rw [List.length_map, List.length_range]
theorem rngD_upI (n : Nat) : rngD 0 n = (upI n).map PyData.int := by unfold rngD upI; rw [List.map_map]; apply List.map_congr_left; intro i _; show PyData.int _ = PyData.int _; rw [Int.zero_add]
theorem gRng1_upI (n : Nat) (h : n ≤ 16777216) : gRng1 [.int (n : Int)] = some ((upI n).map PyData.int) := by
  show (if _ then some (rngD 0 ((n : Int)).toNat) else none) = _; rw [if_pos (by omega), Int.toNat_natCast, rngD_upI]
/-- range(a, b) -/
def frTo (a b : Int) : List Int := (List.range (b - a).toNat).map fun i => a + ((i : Nat) : Int)
theorem mem_frTo {a b k : Int} : k ∈ frTo a b ↔ a ≤ k ∧ k < b := by
  unfold frTo
  rw [List.mem_map]
  constructor
  · rintro ⟨i, hi, rfl⟩; rw [List.mem_range] at hi; omega
  · rintro ⟨h1, h2⟩; exact ⟨(k - a).toNat, List.mem_range.mpr (by omega), by omega⟩
theorem gRng2_frTo (a b : Int) (h1 : 0 ≤ a) (h2 : a ≤ 16777216) (h3 : 0 ≤ b) (h4 : b ≤ 16777216) : gRng2 [.int a, .int b] = some ((frTo a b).map PyData.int) := by
  show (if _ then some (rngD a (b - a).toNat) else none) = _
  rw [if_pos (by omega)]
  unfold rngD frTo
  rw [List.map_map]; rfl
end L2.P


set_option Elab.async false
set_option linter.all false
set_option maxRecDepth 100000
set_option maxHeartbeats 4000000
namespace L2.P
open PySem PySem.Spec PyProof.Rows L2
theorem runF_rt {n : Nat} {f : Rho → Option Fl} {ps : List D} {p : D} (h : f (rho0 n ps) = some (.rt p)) : runF n f ps = some p := by unfold runF; rw [h]
theorem runF_nx {n : Nat} {f : Rho → Option Fl} {ps : List D} {ρ : Rho} (h : f (rho0 n ps) = some (.nx ρ)) : runF n f ps = some .none := by unfold runF; rw [h]
abbrev tR (r : List Int) : D := .tuple (r.map .int)
theorem webD_tR (w : List (List Int)) : webD w = .tuple (w.map tR) := rfl
@[simp] theorem e_gLenW (w : List (List Int)) : gLen [webD w] = some (.int w.length) := by show some (PyData.int ((w.map tR).length : Int)) = _; rw [List.length_map]
@[simp] theorem e_gLenR (r : List Int) : gLen [tR r] = some (.int r.length) := by show some (PyData.int ((r.map PyData.int).length : Int)) = _; rw [List.length_map]
/-- the friends of i -/
def fr (w : List (List Int)) (i : Int) : List Int := w.getD i.toNat []
theorem fr_get {w : List (List Int)} {i : Int} (h0 : 0 ≤ i) (h1 : i < w.length) : w[i.toNat]? = some (fr w i) := by
  have hi : i.toNat < w.length := by omega
  unfold fr
  rw [List.getD_eq_getElem?_getD, List.getElem?_eq_getElem hi]
  rfl
theorem ix_web {w : List (List Int)} {i : Int} (h0 : 0 ≤ i) (h1 : i < w.length) : dIx (webD w) (.int i) = some (tR (fr w i)) := by
  show atI (w.map tR) i = _
  have hi : i.toNat < w.length := by omega
  have z := atI_nat (xs := w.map tR) (j := i.toNat) (v := tR (fr w i)) (by rw [List.getElem?_map, fr_get h0 h1]; rfl)
  have e : ((i.toNat : Nat) : Int) = i := by omega
  rw [e] at z
  exact z
structure Web (w : List (List Int)) : Prop where
  pos : 1 ≤ w.length
  le : w.length ≤ 7
  up : ∀ i : Int, 0 ≤ i → i < w.length → (fr w i).Pairwise (· < ·)
  inn : ∀ i k : Int, 0 ≤ i → i < w.length → k ∈ fr w i → 0 ≤ k ∧ k < w.length ∧ k ≠ i
  sym : ∀ i k : Int, 0 ≤ i → i < w.length → k ∈ fr w i → i ∈ fr w k
/-- people of a web of n, each once, from the shortest up -/
structure Ppl (n : Nat) (st : List Int) : Prop where
  up : st.Pairwise (· < ·)
  inn : ∀ k ∈ st, 0 ≤ k ∧ k < (n : Int)
theorem len_span : ∀ {l : List Int} {a b : Int}, a ≤ b → l.Pairwise (· < ·) → (∀ k ∈ l, a ≤ k ∧ k < b) → (l.length : Int) ≤ b - a
  | [], a, b, h, _, _ => by simp; omega
  | x :: t, a, b, h, p, q => by
    have hx := q x List.mem_cons_self
    obtain ⟨p1, p2⟩ := List.pairwise_cons.mp p
    have := len_span (a := x + 1) (b := b) (by omega) p2 fun k hk => ⟨by have := p1 k hk; omega, (q k (List.mem_cons_of_mem _ hk)).2⟩
    rw [List.length_cons]; omega
theorem len_hole : ∀ {l : List Int} {a b i : Int}, a ≤ i → i < b → l.Pairwise (· < ·) → (∀ k ∈ l, a ≤ k ∧ k < b ∧ k ≠ i) → (l.length : Int) ≤ b - a - 1
  | [], a, b, i, h1, h2, _, _ => by simp; omega
  | x :: t, a, b, i, h1, h2, p, q => by
    have hx := q x List.mem_cons_self
    obtain ⟨p1, p2⟩ := List.pairwise_cons.mp p
    rw [List.length_cons]
    by_cases c : i < x
    · have := len_span (a := x + 1) (b := b) (by omega) p2 fun k hk => ⟨by have := p1 k hk; omega, (q k (List.mem_cons_of_mem _ hk)).2.1⟩
      omega
    · have := len_hole (a := x + 1) (b := b) (i := i) (by omega) h2 p2 fun k hk => ⟨by have := p1 k hk; omega, (q k (List.mem_cons_of_mem _ hk)).2⟩
      omega
theorem Ppl.len {n : Nat} {st : List Int} (h : Ppl n st) : st.length ≤ n := by
  have := len_span (a := 0) (b := n) (by omega) h.up h.inn
  omega
theorem Web.frlen {w : List (List Int)} (h : Web w) {i : Int} (h0 : 0 ≤ i) (h1 : i < w.length) : ((fr w i).length : Int) ≤ w.length - 1 := by
  have := len_hole (a := 0) (b := w.length) h0 h1 (h.up i h0 h1) fun k hk => h.inn i k h0 h1 hk
  omega
theorem sortD_self {r : List Int} (h : r.Pairwise (· < ·)) : sortD r = r := pw_unique (pw_sortD r) h fun k => mem_sortD
@[simp] theorem e_sortSet (r : List Int) (h : r.length < 64) : dSortSet (tR r) = some ((sortD r).map PyData.int) := by
  show (intsD _).bind _ = _
  rw [intsD_map, Option.bind_some, if_pos h]
/-- the rows of a web with their places -/
theorem enum_web (w : List (List Int)) : enumD (w.map tR) = (upI w.length).map fun i => .tuple [.int i, tR (fr w i)] := by
  unfold enumD upI
  rw [List.length_map, List.map_map]
  apply List.map_congr_left
  intro i hi
  rw [List.mem_range] at hi
  have e : (w.map tR).getD i .none = tR (fr w (i : Int)) := by
    rw [List.getD_eq_getElem?_getD, List.getElem?_map]
    unfold fr
    rw [Int.toNat_natCast, List.getD_eq_getElem?_getD, List.getElem?_eq_getElem hi]
    rfl
  show PyData.tuple [.int (i : Nat), _] = _
  rw [e]
  rfl
end L2.P
namespace L2.P
open PySem PySem.Spec PyProof.Rows L2
/-- a comprehension of truth values -/
theorem cLc_all {α : Type} (xs : List α) (enc : α → D) (Q : α → Bool) {is : List Nat} {g : Tg} {t : Rho → Option Bool} {f : Rho → Option D} {u : Rho → Option (List D)} {ρ : Rho} (hu : u ρ = some (xs.map enc)) (no : noOwn ρ is = true)
    (h : ∀ x ∈ xs, ∃ ρ', g (enc x) (wipeR ρ is) = some ρ' ∧ t ρ' = some true ∧ f ρ' = some (.bool (Q x))) : cLc is g t f u ρ = some ((xs.map Q).map PyData.bool) := by
  rw [cLc_map xs enc (fun _ => true) (fun x => .bool (Q x)) hu no fun x hx => by
    obtain ⟨ρ', a, b, c⟩ := h x hx
    exact ⟨ρ', a, b, fun _ => c⟩]
  rw [List.filter_eq_self.mpr fun _ _ => rfl, List.map_map]
  rfl
theorem Web.all {w : List (List Int)} (h : Web w) {i : Int} (h0 : 0 ≤ i) (h1 : i < w.length) : ((fr w i).all fun k => decide (0 ≤ k) && decide (k ≤ (w.length : Int) - 1)) = true := by
  rw [List.all_eq_true]
  intro k hk
  have := h.inn i k h0 h1 hk
  simp; omega
theorem Ppl.all {n : Nat} {st : List Int} (h : Ppl n st) : (st.all fun k => decide (0 ≤ k) && decide (k ≤ (n : Int) - 1)) = true := by
  rw [List.all_eq_true]
  intro k hk
  have := h.inn k hk
  simp; omega
end L2.P

namespace L2.P
open PySem PySem.Spec PyProof.Rows L2
section
variable {f g a b : Rho → Option Fl} {e : Rho → Option D} {es : Rho → Option (List D)} {t : Rho → Option Bool} {u : Rho → Option (List D)} {tg : Tg} {ρ : Rho} {K : Fl → Prop} {i : Nat}
theorem run_rt {n : Nat} {ps : List D} {p : D} (h : fW f (rho0 n ps) fun fl => fl = .rt p) : runF n f ps = some p := by
  obtain ⟨fl, e, rfl⟩ := h
  exact runF_rt e
theorem run_nx {n : Nat} {ps : List D} (h : fW f (rho0 n ps) fun fl => ∃ ρ, fl = .nx ρ) : runF n f ps = some .none := by
  obtain ⟨fl, e, ρ, rfl⟩ := h
  exact runF_nx e
theorem s_seq (h : fW f ρ (fun fl => match fl with | .nx ρ' => fW g ρ' K | fl => K fl)) : fW (sSeq f g) ρ K := by
  obtain ⟨fl, e, k⟩ := h
  unfold fW
  rw [e_sSeq, e]
  cases fl with
  | nx ρ' => exact k
  | rt p => exact ⟨_, rfl, k⟩
  | bk p => exact ⟨_, rfl, k⟩
  | ct p => exact ⟨_, rfl, k⟩
theorem s_nil (k : K (.nx ρ)) : fW sNil ρ K := ⟨_, rfl, k⟩
theorem s_ret (p : D) (h : e ρ = some p) (k : K (.rt p)) : fW (sRet e) ρ K := ⟨.rt p, by rw [e_sRet, h]; rfl, k⟩
theorem s_set (p : D) (h : e ρ = some p) (k : K (.nx (ρ.set i (.v p)))) : fW (sSet i e) ρ K := ⟨_, by rw [e_sSet, h]; rfl, k⟩
theorem s_seto (p : List D) (h : es ρ = some p) (k : K (.nx (ρ.set i (.ol p)))) : fW (sSetO i es) ρ K := ⟨_, by rw [e_sSetO, h]; rfl, k⟩
theorem s_setl (p : List D) (h : es ρ = some p) (k : K (.nx (ρ.set i (.v (.list p))))) : fW (sSetL i es) ρ K := ⟨_, by rw [e_sSetL, h]; rfl, k⟩
theorem s_drop (p : D) (h : e ρ = some p) (k : K (.nx ρ)) : fW (sDrop e) ρ K := ⟨_, by rw [e_sDrop, h]; rfl, k⟩
theorem s_asg (p : D) {ρ' : Rho} (h : e ρ = some p) (hg : tg p ρ = some ρ') (k : K (.nx ρ')) : fW (sAsg tg e) ρ K := ⟨_, by rw [e_sAsg, h, Option.bind_some, hg]; rfl, k⟩
theorem s_if (c : Bool) (h : t ρ = some c) (ka : c = true → fW a ρ K) (kb : c = false → fW b ρ K) : fW (sIf t a b) ρ K := by
  unfold fW
  rw [e_sIf, h, Option.bind_some]
  cases c with
  | true => exact ka rfl
  | false => exact kb rfl
theorem s_no (h : t ρ = some false) (k : fW b ρ K) : fW (sIf t a b) ρ K := s_if false h (fun z => by cases z) fun _ => k
theorem s_yes (h : t ρ = some true) (k : fW a ρ K) : fW (sIf t a b) ρ K := s_if true h (fun _ => k) fun z => by cases z
/-- .. ahead of more -/
theorem q_set (p : D) (h : e ρ = some p) (k : fW g (ρ.set i (.v p)) K) : fW (sSeq (sSet i e) g) ρ K := s_seq (s_set p h k)
theorem q_seto (p : List D) (h : es ρ = some p) (k : fW g (ρ.set i (.ol p)) K) : fW (sSeq (sSetO i es) g) ρ K := s_seq (s_seto p h k)
theorem q_setl (p : List D) (h : es ρ = some p) (k : fW g (ρ.set i (.v (.list p))) K) : fW (sSeq (sSetL i es) g) ρ K := s_seq (s_setl p h k)
theorem q_drop (p : D) (h : e ρ = some p) (k : fW g ρ K) : fW (sSeq (sDrop e) g) ρ K := s_seq (s_drop p h k)
theorem q_asg (p : D) {ρ' : Rho} (h : e ρ = some p) (hg : tg p ρ = some ρ') (k : fW g ρ' K) : fW (sSeq (sAsg tg e) g) ρ K := s_seq (s_asg p h hg k)
theorem q_no (h : t ρ = some false) (k : fW g ρ K) : fW (sSeq (sIf t a sNil) g) ρ K := s_seq (s_no h (s_nil k))
/-- loops -/
theorem s_chk {α S : Type} (st : S → Rho) (xs : List α) (enc : α → D) (v : S) (hu : u ρ = some (xs.map enc)) (hρ : ρ = st v) (h : ∀ (v : S) (x : α), x ∈ xs → ∃ ρ', tg (enc x) (st v) = some ρ' ∧ fW f ρ' fun fl => ∃ v', fl = .nx (st v')) (k : ∀ v', K (.nx (st v'))) : fW (sFor tg u f) ρ K := by
  subst hρ
  obtain ⟨v', e⟩ := forF_chk (g := tg) (f := f) st xs v (fun v x hx => by
    obtain ⟨ρ', h1, fl, h2, v', rfl⟩ := h v x hx
    exact ⟨ρ', v', h1, h2⟩)
  exact ⟨_, by rw [e_sFor, hu, Option.bind_some, e], k v'⟩
theorem q_chk {α S : Type} (st : S → Rho) (xs : List α) (enc : α → D) (v : S) (hu : u ρ = some (xs.map enc)) (hρ : ρ = st v) (h : ∀ (v : S) (x : α), x ∈ xs → ∃ ρ', tg (enc x) (st v) = some ρ' ∧ fW f ρ' fun fl => ∃ v', fl = .nx (st v')) (k : ∀ v', fW g (st v') K) : fW (sSeq (sFor tg u f) g) ρ K := s_seq (s_chk st xs enc v hu hρ h k)
theorem s_app {α S : Type} (st : List D → S → Rho) (xs : List α) (enc : α → D) (add : α → List D) (N : Nat) (acc : List D) (v : S) (hu : u ρ = some (xs.map enc)) (hρ : ρ = st acc v) (hN : acc.length + (xs.flatMap add).length ≤ N)
    (h : ∀ (acc : List D) (v : S) (x : α), x ∈ xs → acc.length + (add x).length ≤ N → ∃ ρ', tg (enc x) (st acc v) = some ρ' ∧ fW f ρ' fun fl => ∃ v', fl = .nx (st (acc ++ add x) v')) (k : ∀ v', K (.nx (st (acc ++ xs.flatMap add) v'))) : fW (sFor tg u f) ρ K := by
  subst hρ
  obtain ⟨v', e⟩ := forF_app (g := tg) (f := f) (enc := enc) add st N xs acc v (fun acc v x hx hl => by
    obtain ⟨ρ', h1, fl, h2, v', rfl⟩ := h acc v x hx hl
    exact ⟨ρ', v', h1, h2⟩) hN
  exact ⟨_, by rw [e_sFor, hu, Option.bind_some, e], k v'⟩
theorem q_app {α S : Type} (st : List D → S → Rho) (xs : List α) (enc : α → D) (add : α → List D) (N : Nat) (acc : List D) (v : S) (hu : u ρ = some (xs.map enc)) (hρ : ρ = st acc v) (hN : acc.length + (xs.flatMap add).length ≤ N)
    (h : ∀ (acc : List D) (v : S) (x : α), x ∈ xs → acc.length + (add x).length ≤ N → ∃ ρ', tg (enc x) (st acc v) = some ρ' ∧ fW f ρ' fun fl => ∃ v', fl = .nx (st (acc ++ add x) v')) (k : ∀ v', fW g (st (acc ++ xs.flatMap add) v') K) : fW (sSeq (sFor tg u f) g) ρ K := s_seq (s_app st xs enc add N acc v hu hρ hN h k)
theorem s_app1 {ps : List D} (p : D) (hi : ρ[i]? = some (.ol ps)) (h : e ρ = some p) (hl : ps.length < sizeLine) (k : K (.nx (ρ.set i (.ol (ps ++ [p]))))) : fW (sApp i e) ρ K := ⟨_, e_sApp hi h hl, k⟩
theorem q_app1 {ps : List D} (p : D) (hi : ρ[i]? = some (.ol ps)) (h : e ρ = some p) (hl : ps.length < sizeLine) (k : fW g (ρ.set i (.ol (ps ++ [p]))) K) : fW (sSeq (sApp i e) g) ρ K := s_seq (s_app1 p hi h hl k)
end
end L2.P


set_option Elab.async false
set_option linter.all false
set_option maxRecDepth 100000
set_option maxHeartbeats 4000000
namespace L2.P
open PySem PySem.Spec PyProof.Rows L2
theorem forW_inv {α S : Type} {enc : α → D} (st : S → Rho) (J : Nat → S → Prop) {g : Tg} {T : TSt} {K : Fl → Prop} (N : Nat) : ∀ (xs : List α) (i : Nat) (s : S), i + xs.length ≤ N → J i s →
    (∀ (i : Nat) (s : S) (x : α) (K' : Fl → Prop), x ∈ xs → i < N → J i s → (∀ s', J (i + 1) s' → K' (.nx (st s'))) → ∃ ρ', g (enc x) (st s) = some ρ' ∧ T ρ' K') → (∀ s, J (i + xs.length) s → K (.nx (st s))) → forW g T (xs.map enc) (st s) K
  | [], i, s, _, hJ, _, k => k s hJ
  | x :: xs, i, s, hN, hJ, h, k => by
    rw [List.length_cons] at hN
    obtain ⟨ρ', h1, h2⟩ := h i s x (fun fl => match fl with
      | .nx ρ2 => forW g T (xs.map enc) ρ2 K
      | .ct ρ2 => forW g T (xs.map enc) ρ2 K
      | .bk ρ2 => K (.nx ρ2)
      | .rt v => K (.rt v)) List.mem_cons_self (by omega) hJ (fun s' hs' => forW_inv st J N xs (i + 1) s' (by omega) hs' (fun i s y K' hy => h i s y K' (List.mem_cons_of_mem _ hy)) fun s2 hs2 => k s2 (by rw [List.length_cons]; rw [Nat.add_assoc, Nat.add_comm 1] at hs2; exact hs2))
    exact ⟨ρ', h1, h2⟩
/-- a comprehension whose test draws -/
theorem lcV_sub {α : Type} {enc : α → D} {E : α → D} {is : List Nat} {g : Tg} {T : TB} {El : TW} {ρ : Rho} {K : List D → Prop} : ∀ (xs : List α) (acc : List D),
    (∀ x ∈ xs, ∃ ρ', g (enc x) (wipeR ρ is) = some ρ' ∧ (∀ K' : Bool → Prop, (∀ b, K' b) → T ρ' K') ∧ ∀ K' : D → Prop, K' (E x) → El ρ' K') → (∀ ys : List α, ys.Sublist xs → K (acc ++ ys.map E)) → lcV is g T El ρ (xs.map enc) acc K
  | [], acc, _, k => by
    have := k [] (List.Sublist.refl _)
    rw [List.map_nil, List.append_nil] at this
    exact this
  | x :: xs, acc, h, k => by
    obtain ⟨ρ', h1, h2, h3⟩ := h x List.mem_cons_self
    refine ⟨ρ', h1, h2 _ fun b => ?_⟩
    cases b with
    | true =>
      rw [if_pos rfl]
      refine h3 _ (lcV_sub xs _ (fun y hy => h y (List.mem_cons_of_mem _ hy)) fun ys hys => ?_)
      have := k (x :: ys) (List.Sublist.cons₂ x hys)
      rw [List.append_assoc]
      exact this
    | false =>
      rw [if_neg (by simp)]
      exact lcV_sub xs acc (fun y hy => h y (List.mem_cons_of_mem _ hy)) fun ys hys => k ys (List.Sublist.cons x hys)
theorem pw_upI (n : Nat) : (upI n).Pairwise (· < ·) := by
  unfold upI
  rw [List.pairwise_map]
  exact List.Pairwise.imp (fun h => by omega) (List.pairwise_lt_range)
theorem modR_get {rows : List (List Int)} {a : Nat} {b : Int} {i : Nat} : (modR rows a b)[i]? = if a = i then rows[i]?.map (insF b) else rows[i]? := by
  unfold modR
  rw [List.getElem?_modify]
  split <;> simp_all
theorem mem_addE {rows : List (List Int)} {e : Int × Int} {i : Nat} {k : Int} (hl : i < rows.length) (h1 : 0 ≤ e.1) (h2 : 0 ≤ e.2) : k ∈ ((addE rows e).getD i []) ↔ k ∈ rows.getD i [] ∨ (e.1 = i ∧ e.2 = k) ∨ (e.2 = i ∧ e.1 = k) := by
  unfold addE
  rw [List.getD_eq_getElem?_getD, List.getD_eq_getElem?_getD, modR_get, modR_get, List.getElem?_eq_getElem hl]
  by_cases c1 : e.2.toNat = i <;> by_cases c2 : e.1.toNat = i
  · rw [if_pos c1, if_pos c2]
    simp only [Option.map_some, Option.getD_some, mem_insF]
    constructor
    · rintro (h | h | h)
      · exact .inr (.inr ⟨by omega, h.symm⟩)
      · exact .inr (.inl ⟨by omega, h.symm⟩)
      · exact .inl h
    · rintro (h | ⟨_, h⟩ | ⟨_, h⟩)
      · exact .inr (.inr h)
      · exact .inr (.inl h.symm)
      · exact .inl h.symm
  · rw [if_pos c1, if_neg c2]
    simp only [Option.map_some, Option.getD_some, mem_insF]
    constructor
    · rintro (h | h)
      · exact .inr (.inr ⟨by omega, h.symm⟩)
      · exact .inl h
    · rintro (h | ⟨q, h⟩ | ⟨_, h⟩)
      · exact .inr h
      · exact absurd q (by omega)
      · exact .inl h.symm
  · rw [if_neg c1, if_pos c2]
    simp only [Option.map_some, Option.getD_some, mem_insF]
    constructor
    · rintro (h | h)
      · exact .inr (.inl ⟨by omega, h.symm⟩)
      · exact .inl h
    · rintro (h | ⟨q, h⟩ | ⟨q, h⟩)
      · exact .inr h
      · exact .inl h.symm
      · exact absurd q (by omega)
  · rw [if_neg c1, if_neg c2]
    simp only [Option.getD_some]
    constructor
    · exact .inl
    · rintro (h | ⟨q, h⟩ | ⟨q, h⟩)
      · exact h
      · exact absurd q (by omega)
      · exact absurd q (by omega)
theorem mem_foldE {i : Nat} {k : Int} : ∀ (es : List (Int × Int)) (rows : List (List Int)), i < rows.length → (∀ e ∈ es, 0 ≤ e.1 ∧ 0 ≤ e.2) → (k ∈ (es.foldl addE rows).getD i [] ↔ k ∈ rows.getD i [] ∨ ∃ e ∈ es, (e.1 = i ∧ e.2 = k) ∨ (e.2 = i ∧ e.1 = k))
  | [], rows, _, _ => by simp
  | e :: es, rows, hl, h => by
    have he := h e List.mem_cons_self
    rw [List.foldl_cons, mem_foldE es (addE rows e) (by rw [rows_len]; exact hl) fun x hx => h x (List.mem_cons_of_mem _ hx), mem_addE hl he.1 he.2]
    constructor
    · rintro ((h | h) | ⟨x, hx, h⟩)
      · exact .inl h
      · exact .inr ⟨e, List.mem_cons_self, h⟩
      · exact .inr ⟨x, List.mem_cons_of_mem _ hx, h⟩
    · rintro (q | ⟨x, hx, q⟩)
      · exact .inl (.inl q)
      · rcases List.mem_cons.mp hx with e1 | hx
        · rw [e1] at q; exact .inl (.inr q)
        · exact .inr ⟨x, hx, q⟩
/-- the web of n people and these couples -/
def webBy (n : Nat) (es : List (Int × Int)) : List (List Int) := (byRows n es).map sortD
theorem webBy_len (n : Nat) (es : List (Int × Int)) : (webBy n es).length = n := by
  unfold webBy byRows
  rw [List.length_map]
  exact (byRows_facts es (List.replicate n []) List.length_replicate fun r hr => by rw [List.eq_of_mem_replicate hr]; exact List.nodup_nil).1
theorem mem_webBy {n : Nat} {es : List (Int × Int)} {i k : Int} (h0 : 0 ≤ i) (h1 : i < n) (h : ∀ e ∈ es, 0 ≤ e.1 ∧ 0 ≤ e.2) : k ∈ fr (webBy n es) i ↔ (i, k) ∈ es ∨ (k, i) ∈ es := by
  have e1 : fr (webBy n es) i = sortD ((byRows n es).getD i.toNat []) := by
    unfold fr webBy
    rw [List.getD_eq_getElem?_getD, List.getD_eq_getElem?_getD, List.getElem?_map]
    have : i.toNat < (byRows n es).length := by
      unfold byRows
      rw [(byRows_facts es (List.replicate n []) List.length_replicate fun r hr => by rw [List.eq_of_mem_replicate hr]; exact List.nodup_nil).1]
      omega
    rw [List.getElem?_eq_getElem this]
    rfl
  rw [e1, mem_sortD]
  unfold byRows
  rw [mem_foldE es _ (by rw [List.length_replicate]; omega) h]
  have e2 : (List.replicate n ([] : List Int)).getD i.toNat [] = [] := by
    rw [List.getD_eq_getElem?_getD, List.getElem?_replicate]
    split <;> rfl
  rw [e2]
  constructor
  · rintro (h | ⟨e, he, ⟨a, b⟩ | ⟨a, b⟩⟩)
    · cases h
    · have : e = (i, k) := Prod.ext (by omega) b
      exact .inl (this ▸ he)
    · have : e = (k, i) := Prod.ext b (by omega)
      exact .inr (this ▸ he)
  · rintro (h | h)
    · exact .inr ⟨_, h, .inl ⟨by simp; omega, rfl⟩⟩
    · exact .inr ⟨_, h, .inr ⟨by simp; omega, rfl⟩⟩
theorem web_webBy {n : Nat} {es : List (Int × Int)} (h1 : 1 ≤ n) (h2 : n ≤ 7) (h : ∀ e ∈ es, 0 ≤ e.1 ∧ e.1 < n ∧ 0 ≤ e.2 ∧ e.2 < n ∧ e.1 ≠ e.2) : Web (webBy n es) := by
  have h' : ∀ e ∈ es, 0 ≤ e.1 ∧ 0 ≤ e.2 := fun e he => ⟨(h e he).1, (h e he).2.2.1⟩
  have inn : ∀ i k : Int, 0 ≤ i → i < n → k ∈ fr (webBy n es) i → 0 ≤ k ∧ k < n ∧ k ≠ i := fun i k a b c => by
    rcases (mem_webBy a b h').mp c with c | c
    · have := h _ c; simp only at this; omega
    · have := h _ c; simp only at this; omega
  refine ⟨by rw [webBy_len]; exact h1, by rw [webBy_len]; exact h2, fun i a b => ?_, fun i k a b c => ?_, fun i k a b c => ?_⟩
  · unfold fr webBy
    rw [List.getD_eq_getElem?_getD, List.getElem?_map]
    cases (byRows n es)[i.toNat]? with
    | none => exact List.Pairwise.nil
    | some r => exact pw_sortD r
  · rw [webBy_len] at b ⊢
    exact inn i k a b c
  · rw [webBy_len] at b
    have := inn i k a b c
    exact (mem_webBy this.1 this.2.1 h').mpr ((mem_webBy a b h').mp c).symm
end L2.P


set_option Elab.async false
set_option linter.all false
set_option maxRecDepth 100000
set_option maxHeartbeats 4000000
namespace L2.P
open PySem PySem.Spec PyProof.Rows L2
inductive Pv where
  | f (p : D) | o (ps : List D) | d (t : Bool) (kvs : List (D × D))
def Pv.sl : Pv → Sl
  | .f p => .v p
  | .o ps => .ol ps
  | .d t kvs => .od t kvs
/-- values beside one another: frozen ones, and new lists that nobody else holds -/
inductive OwAll (K : Fg) (B : Bs) (F H : Hp) (σ : St) (ρ : Rho) : List V → List Pv → List Addr → Prop
  | nil : OwAll K B F H σ ρ [] [] []
  | f {v : V} {p : D} {vs : List V} {ps : List Pv} {as : List Addr} : Dp K F v p → OwAll K B F H σ ρ vs ps as → OwAll K B F H σ ρ (v :: vs) (.f p :: ps) as
  | o {a : Addr} {ob : HO} {q : Pv} {vs : List V} {ps : List Pv} {as : List Addr} : F a = none → B.Ha a = none → H a = some ob → Holds K F ob q.sl → (∀ (l : Nat) (s : Sl), ρ[l]? = some s → s.owns = true → σ[l]? = some (some (V.ref a)) → False) → a ∉ as →
      OwAll K B F H σ ρ vs ps as → OwAll K B F H σ ρ (.ref a :: vs) (q :: ps) (a :: as)
abbrev TP := Rho → (List Pv → Prop) → Prop
def tOA (K : Fg) (T : TP) : TA := fun σ H Q => ∃ B F ρ, Rs K B F H σ ρ ∧ T ρ (fun ps => ∀ F' H' vs as, Rs K B F' H' σ ρ → Same F F' → OwAll K B F' H' σ ρ vs ps as → Q vs H')
structure OA (X : Cx) (es : List Expr) (T : TP) : Prop where
  mono : ∀ ρ K K', (∀ p, K p → K' p) → T ρ K → T ρ K'
  pa : PA X es (tOA X.K T)
section
variable {X : Cx} {e : Expr} {es : List Expr} {pos : Pos}
def oNil : TP := fun _ K => K []
def oF (T : TW) (U : TP) : TP := fun ρ K => T ρ fun p => U ρ fun ps => K (.f p :: ps)
def oO (T : TL) (U : TP) : TP := fun ρ K => T ρ fun p => U ρ fun ps => K (.o p :: ps)
theorem oa_nil : OA X [] oNil := ⟨fun _ _ _ h q => h _ q, PA.imp pa_nil fun σ H Q ⟨B, F, ρ, R, q⟩ => q F H [] [] R (Same.refl _) .nil⟩
theorem oa_f {T : TW} {U : TP} (ha : EW X e T) (hr : OA X es U) (hs : starEach (e :: es) X.env = (false, eval e X.env) :: starEach es X.env := by rfl) : OA X (e :: es) (oF T U) :=
  ⟨fun ρ K K' h q => ha.mono _ _ _ (fun x => hr.mono _ _ _ fun xs => h _) q, PA.imp (pa_cons ha.pe hr.pa hs) fun σ H Q ⟨B, F, ρ, R, q⟩ => ⟨B, F, ρ, R, ha.mono _ _ _ (fun x k F1 H1 v R1 e1 d1 =>
    ⟨B, F1, ρ, R1, hr.mono _ _ _ (fun xs k2 F2 H2 vs as R2 e2 d2 => k2 F2 H2 (v :: vs) as R2 (e1.trans e2) (.f (d1.same e2) d2)) k⟩) q⟩⟩
theorem OwAll.unpin {K : Fg} {B : Bs} {F H : Hp} {σ : St} {ρ : Rho} {a : Addr} {o : HO} (hH : B.Ha a = none) : ∀ {vs : List V} {ps : List Pv} {as : List Addr}, OwAll K (B.pin a o) F H σ ρ vs ps as → OwAll K B F H σ ρ vs ps as ∧ a ∉ as
  | _, _, _, .nil => ⟨.nil, by simp⟩
  | _, _, _, .f d r => ⟨.f d (OwAll.unpin hH r).1, (OwAll.unpin hH r).2⟩
  | _, _, _, .o (a := b) h1 h2 h3 h4 h5 h6 r => by
    obtain ⟨r1, r2⟩ := OwAll.unpin hH r
    have z : (upd B.Ha a o) b = none := h2
    have ne : b ≠ a := fun e => by subst e; rw [upd_same] at z; cases z
    rw [upd_ne ne] at z
    refine ⟨.o h1 z h3 h4 h5 h6 r1, fun m => ?_⟩
    rcases List.mem_cons.mp m with e | m
    · exact ne e.symm
    · exact r2 m
theorem oa_o {T : TL} {U : TP} (ha : NW X e T) (hr : OA X es U) (hs : starEach (e :: es) X.env = (false, eval e X.env) :: starEach es X.env := by rfl) : OA X (e :: es) (oO T U) :=
  ⟨fun ρ K K' h q => ha.mono _ _ _ (fun x => hr.mono _ _ _ fun xs => h _) q, PA.imp (pa_cons ha.pe hr.pa hs) fun σ H Q ⟨B, F, ρ, R, q⟩ => ⟨B, F, ρ, R, ha.mono _ _ _ (fun x k F1 H1 a xs R1 e1 n d1 => by
    obtain ⟨p1, p2, p3⟩ := R1.fresh n
    have hF : B.Fa a = none := R1.ext.free p2
    refine ⟨B.pin a (.lst xs), F1, ρ, R1.pin n _, hr.mono _ _ _ (fun ys k2 F2 H2 vs as R2 e2 d2 => ?_) k⟩
    obtain ⟨q1, q2⟩ := R2.pinned p3 hF
    obtain ⟨o1, o2⟩ := d2.unpin p1
    refine k2 F2 H2 (.ref a :: vs) (a :: as) (R2.unpin p3 hF p1) (e1.trans e2) (.o q2 p1 q1 ⟨xs, rfl, d1.same e2⟩ (fun l s hs ho hσ => ?_) o2 o1)
    have at_l := R1.at_ l s hs
    rw [hσ] at at_l
    cases at_l with
    | no => cases ho
    | v _ => cases ho
    | ol _ _ h _ => rw [n] at h; cases h
    | row _ _ h =>
      obtain ⟨u, hu⟩ := h.there
      rw [n] at hu; cases hu
    | od _ _ h =>
      obtain ⟨u, hu, _⟩ := h.there
      rw [n] at hu; cases hu) q⟩⟩
theorem Rs.putA {K : Fg} {B : Bs} {F H : Hp} {σ : St} {ρ : Rho} {i : Nat} {a : Addr} {ob : HO} {s0 : Sl} (R : Rs K B F H σ ρ) (f : F a = none) (h0 : B.Ha a = none) (h1 : H a = some ob) (d : Holds K F ob s0) (far : ∀ (l : Nat) (s : Sl), ρ[l]? = some s → s.owns = true → σ[l]? = some (some (V.ref a)) → False) :
    Rs K B F H (σ.set i (some (.ref a))) (ρ.set i s0) := by
  refine ⟨R.sub, R.ext, R.new, R.old, R.hrow, R.hr2, by rw [List.length_set, List.length_set]; exact R.len, fun j s hs => ?_, fun j k c s t hjk h1' h2 o1 o2 e1 e2 => ?_, R.tb, R.tbh⟩
  · rcases set_some hs with ⟨rfl, hl, rfl⟩ | ⟨ne, hs⟩
    · rw [List.getElem?_set_self (by rw [R.len]; exact hl)]
      exact d.ok f h0 h1
    · rw [List.getElem?_set_ne ne]; exact R.at_ j s hs
  · rcases set_some h1' with ⟨rfl, hl, _⟩ | ⟨ne, h1n⟩
    · rw [List.getElem?_set_self (by rw [R.len]; exact hl)] at e1
      cases e1
      rcases set_some h2 with ⟨rfl, _⟩ | ⟨ne, h2n⟩
      · exact hjk rfl
      · rw [List.getElem?_set_ne ne] at e2
        exact far k t h2n o2 e2
    · rw [List.getElem?_set_ne ne] at e1
      rcases set_some h2 with ⟨rfl, hl, _⟩ | ⟨ne2, h2n⟩
      · rw [List.getElem?_set_self (by rw [R.len]; exact hl)] at e2
        cases e2
        exact far j s h1n o1 e1
      · rw [List.getElem?_set_ne ne2] at e2
        exact R.apart j k c s t hjk h1n h2n o1 o2 e1 e2
def putsS (σ : St) : List Nat → List V → St
  | i :: is, v :: vs => putsS (σ.set i (some v)) is vs
  | _, _ => σ
def putsR (ρ : Rho) : List Nat → List Pv → Rho
  | i :: is, p :: ps => putsR (ρ.set i p.sl) is ps
  | _, _ => ρ
theorem OwAll.put {K : Fg} {B : Bs} {F H : Hp} {σ : St} {ρ : Rho} {i : Nat} {v : V} {s : Sl} {vs : List V} {ps : List Pv} {as : List Addr} (g : ∀ a, v = .ref a → s.owns = true → a ∉ as) (d : OwAll K B F H σ ρ vs ps as) (hl : ρ.length = σ.length) : OwAll K B F H (σ.set i (some v)) (ρ.set i s) vs ps as := by
  induction d with
  | nil => exact .nil
  | f d _ ih => exact .f d (ih g)
  | @o b ob q vs ps as h1 h2 h3 h4 h5 h6 r ih =>
    refine .o h1 h2 h3 h4 (fun l t ht ho e => ?_) h6 (ih fun a e1 e2 m => g a e1 e2 (List.mem_cons_of_mem _ m))
    rcases set_some ht with ⟨rfl, hl2, rfl⟩ | ⟨ne, ht⟩
    · rw [List.getElem?_set_self (by rw [← hl]; exact hl2)] at e
      cases e
      exact g b rfl ho List.mem_cons_self
    · rw [List.getElem?_set_ne ne] at e
      exact h5 l t ht ho e
theorem Rs.puts {K : Fg} {B : Bs} {F H : Hp} : ∀ (is : List Nat) {σ : St} {ρ : Rho} {vs : List V} {ps : List Pv} {as : List Addr}, Rs K B F H σ ρ → OwAll K B F H σ ρ vs ps as → Rs K B F H (putsS σ is vs) (putsR ρ is ps)
  | [], σ, ρ, vs, ps, as, R, o => by cases vs <;> cases ps <;> exact R
  | i :: is, σ, ρ, _, _, _, R, .nil => R
  | i :: is, σ, ρ, _, _, _, R, .f (v := v) (p := p) d r => by
    have R' := R.put (i := i) (x := v) (s := .v p) (.v d) rfl
    exact Rs.puts is R' (r.put (fun _ _ z => by cases z) R.len.symm)
  | i :: is, σ, ρ, _, _, _, R, .o (a := b) (q := qv) h1 h2 h3 h4 h5 h6 r => by
    have R' := R.putA (i := i) h1 h2 h3 h4 h5
    exact Rs.puts is R' (r.put (fun a e _ m => by cases e; exact h6 m) R.len.symm)
theorem OwAll.len {K : Fg} {B : Bs} {F H : Hp} {σ : St} {ρ : Rho} : ∀ {vs : List V} {ps : List Pv} {as : List Addr}, OwAll K B F H σ ρ vs ps as → vs.length = ps.length
  | _, _, _, .nil => rfl
  | _, _, _, .f _ r => congrArg (· + 1) (OwAll.len r)
  | _, _, _, .o _ _ _ _ _ _ r => congrArg (· + 1) (OwAll.len r)
theorem len2 {α : Type} {l : List α} (h : l.length = 2) : ∃ a b, l = [a, b] := by
  match l, h with
  | [a, b], _ => exact ⟨a, b, rfl⟩
def wPuts (is : List Nat) (n : Nat) (T : TP) : TSt := fun ρ K => T ρ fun ps => ps.length = n ∧ K (.nx (putsR ρ is ps))
/-- both at once -/
theorem sw_own2 {i j : Nat} {x y : Str} {a b : Expr} {T : TP} {px py pt : Pos} {kt k2 pt2} (hc : X.calm = true) (hN : X.N.Nodup) (hi : X.N[i]? = some x) (hj : X.N[j]? = some y) (hij : i ≠ j)
    (hx : X.env.scope.names.lookup x = some .local) (hy : X.env.scope.names.lookup y = some .local) (h : OA X [a, b] T)
    (hw : swappedStores [.Tuple [.Name x px, .Name y py] kt pt] (.Tuple [a, b] k2 pt2) X.env = pure (some [x, y]))
    (hs : swapsWithSole [.Tuple [.Name x px, .Name y py] kt pt] (.Tuple [a, b] k2 pt2) pos.line X.env = pure false := by rfl) :
    SW X (.Assign [.Tuple [.Name x px, .Name y py] kt pt] (.Tuple [a, b] k2 pt2) pos) (wPuts [i, j] 2 T) :=
  ⟨fun ρ K K' k q => h.mono _ _ _ (fun p z => ⟨z.1, k _ z.2⟩) q, (ps_par hc hN hi hj hij hx hy h.pa hw hs).imp fun En σ H ⟨B, F, ρ, R, q⟩ => ⟨B, F, ρ, R, h.mono _ _ _ (fun p k F' H' vs as R' s d => by
    obtain ⟨u, v, rfl⟩ := len2 (d.len.trans k.1)
    exact ⟨u, v, rfl, k.2 F' H' _ (R'.puts [i, j] d) s⟩) q⟩⟩
/-- through a tuple: any number of names -/
inductive Nms (X : Cx) : List Expr → List Nat → Prop
  | nil : Nms X [] []
  | cons {i : Nat} {x : Str} {p : Pos} {es : List Expr} {is : List Nat} (hi : X.N[i]? = some x) (hx : Loc X.env.scope x) (hf : X.fn x = true ∨ X.env.scope.names.lookup x = some .local) : Nms X es is → Nms X (.Name x p :: es) (i :: is)
def gNms : List Nat → TGs
  | [] => gNil
  | i :: is => gCons (gName i) (gNms is)
theorem assignEach_nm {X : Cx} : ∀ {es : List Expr} {is : List Nat}, Nms X es is → (assignEach es X.env).length = es.length ∧ (assignEach es X.env).findIdx? (·.1) = none
  | _, _, .nil => ⟨rfl, rfl⟩
  | _, _, .cons (x := x) (p := p) (es := es) _ _ _ r => by
    obtain ⟨h1, h2⟩ := assignEach_nm r
    refine ⟨?_, ?_⟩
    · show (assignEach es X.env).length + 1 = _
      rw [h1]; rfl
    · show List.findIdx? _ ((false, assign (.Name x p) X.env) :: assignEach es X.env) = none
      rw [List.findIdx?_cons]
      show (if false = true then some 0 else Option.map _ _) = none
      rw [if_neg (by simp), h2]; rfl
theorem pgs_nm {X : Cx} (hN : X.N.Nodup) : ∀ {es : List Expr} {is : List Nat}, Nms X es is → PGs X es (gNms is)
  | _, _, .nil => pgs_nil
  | _, _, .cons hi hx hf r => pgs_cons (pg_name hN hi hx hf) (pgs_nm hN r)
theorem gNms_puts : ∀ (is : List Nat) (vs : List V) (σ : St) (H : Hp) (Q : St → Hp → Prop), is.length = vs.length → Q (putsS σ is vs) H → gNms is vs σ H Q
  | [], [], σ, H, Q, _, q => ⟨rfl, q⟩
  | i :: is, v :: vs, σ, H, Q, hl, q => ⟨v, vs, rfl, gNms_puts is vs (σ.set i (some v)) H Q (by simpa using hl) q⟩
theorem Rs.layAny {K : Fg} {B : Bs} {F H : Hp} {σ : St} {ρ : Rho} {p : Addr} {o : HO} {vs : List V} {ps : List Pv} {as : List Addr} (R : Rs K B F H σ ρ) (h : H p = none) (d : OwAll K B F H σ ρ vs ps as) : Rs K B F (upd H p o) σ ρ ∧ OwAll K B F (upd H p o) σ ρ vs ps as := by
  refine ⟨R.lay h, ?_⟩
  induction d with
  | nil => exact .nil
  | f d _ ih => exact .f d ih
  | o h1 h2 h3 h4 h5 h6 _ ih => exact .o h1 h2 (by rw [upd_ne (ne_of_none h3 h)]; exact h3) h4 h5 h6 ih
theorem sw_ownT {es ts : List Expr} {is : List Nat} {n : Nat} {T : TP} {pt : Pos} {kt k2 pt2} (hc : X.calm = true) (hN : X.N.Nodup) (hn : Nms X ts is) (h : OA X es T) (hl : is.length = n) (hl2 : ts.length = n) (hn2 : n ≤ 1000)
    (hs : swapsWithSole [.Tuple ts kt pt] (.Tuple es k2 pt2) pos.line X.env = pure false := by rfl) (hw : swappedStores [.Tuple ts kt pt] (.Tuple es k2 pt2) X.env = pure none := by rfl) (h1 : (assignEach [.Tuple ts kt pt] X.env).map (·.2) = [assign (.Tuple ts kt pt) X.env] := by rfl) :
    SW X (.Assign [.Tuple ts kt pt] (.Tuple es k2 pt2) pos) (wPuts is n T) :=
  ⟨fun ρ K K' k q => h.mono _ _ _ (fun p z => ⟨z.1, k _ z.2⟩) q, (ps_asg (pe_tup h.pa) (pg_tup (n := n) hc (pgs_nm hN hn) ((assignEach_nm hn).1.trans hl2) (assignEach_nm hn).2) hs hw h1).imp fun En σ H ⟨B, F, ρ, R, q⟩ => ⟨B, F, ρ, R, h.mono _ _ _ (fun p k F' H' vs as R' s d => by
    have hv := d.len.trans k.1
    refine ⟨by rw [hv, sizeLine_eq]; omega, fun l hlf => ?_⟩
    obtain ⟨R2, d2⟩ := R'.layAny (o := .tup vs) hlf d
    refine ⟨l, vs, rfl, .inl (.inl upd_same), hv, gNms_puts is vs σ _ _ (hl.trans hv.symm) ?_⟩
    exact k.2 F' _ _ (R2.puts is d2) s) q⟩⟩
end
end L2.P
namespace L2.P
open PySem PySem.Spec PyProof.Rows L2
def pNil : Rho → Option (List Pv) := fun _ => some []
def pF (f : Rho → Option D) (g : Rho → Option (List Pv)) : Rho → Option (List Pv) := fun ρ => (f ρ).bind fun x => (g ρ).map fun xs => .f x :: xs
def pO (f : Rho → Option (List D)) (g : Rho → Option (List Pv)) : Rho → Option (List Pv) := fun ρ => (f ρ).bind fun x => (g ρ).map fun xs => .o x :: xs
section
variable {X : Cx} {e : Expr} {es : List Expr} {pos : Pos} {st : Stmt}
theorem OA.imp {T T' : TP} (h : OA X es T) (m : ∀ ρ K K', (∀ p, K p → K' p) → T' ρ K → T' ρ K') (k : ∀ ρ K, T' ρ K → T ρ K) : OA X es T' := ⟨m, PA.imp h.pa fun _ _ _ ⟨B, F, ρ, R, q⟩ => ⟨B, F, ρ, R, k _ _ q⟩⟩
theorem of_nil : OA X [] (fW pNil) := oa_nil.imp fW_mono fun ρ K ⟨p, e, k⟩ => by cases e; exact k
theorem of_f {f : Rho → Option D} {g : Rho → Option (List Pv)} (ha : EF X e f) (hr : OA X es (fW g)) (hs : starEach (e :: es) X.env = (false, eval e X.env) :: starEach es X.env := by rfl) : OA X (e :: es) (fW (pF f g)) := (oa_f ha hr hs).imp fW_mono fun ρ K ⟨z, e, k⟩ => by
  obtain ⟨x, e1, e⟩ := Option.bind_eq_some_iff.mp e
  obtain ⟨xs, e2, rfl⟩ := Option.map_eq_some_iff.mp e
  exact ⟨x, e1, xs, e2, k⟩
theorem of_o {f : Rho → Option (List D)} {g : Rho → Option (List Pv)} (ha : NF X e f) (hr : OA X es (fW g)) (hs : starEach (e :: es) X.env = (false, eval e X.env) :: starEach es X.env := by rfl) : OA X (e :: es) (fW (pO f g)) := (oa_o ha hr hs).imp fW_mono fun ρ K ⟨z, e, k⟩ => by
  obtain ⟨x, e1, e⟩ := Option.bind_eq_some_iff.mp e
  obtain ⟨xs, e2, rfl⟩ := Option.map_eq_some_iff.mp e
  exact ⟨x, e1, xs, e2, k⟩
def sPuts (is : List Nat) (n : Nat) (f : Rho → Option (List Pv)) : Rho → Option Fl := fun ρ => (f ρ).bind fun ps => if ps.length = n then some (.nx (putsR ρ is ps)) else none
theorem SW.puts {is : List Nat} {n : Nat} {f : Rho → Option (List Pv)} (h : SW X st (wPuts is n (fW f))) : SF X st (sPuts is n f) := h.imp fW_mono fun ρ K ⟨p, e, k⟩ => by
  obtain ⟨z, e1, e2⟩ := Option.bind_eq_some_iff.mp e
  split at e2
  · rename_i hz; cases e2; exact ⟨z, e1, hz, k⟩
  · cases e2
end
@[simp] theorem e_pNil (ρ : Rho) : pNil ρ = some [] := rfl
@[simp] theorem e_pF (f : Rho → Option D) (g : Rho → Option (List Pv)) (ρ : Rho) : pF f g ρ = (f ρ).bind fun x => (g ρ).map fun xs => .f x :: xs := rfl
@[simp] theorem e_pO (f : Rho → Option (List D)) (g : Rho → Option (List Pv)) (ρ : Rho) : pO f g ρ = (f ρ).bind fun x => (g ρ).map fun xs => .o x :: xs := rfl
theorem s_puts {is : List Nat} {n : Nat} {f : Rho → Option (List Pv)} {ρ : Rho} {K : Fl → Prop} (ps : List Pv) (h : f ρ = some ps) (hn : ps.length = n) (k : K (.nx (putsR ρ is ps))) : fW (sPuts is n f) ρ K := ⟨_, by unfold sPuts; show (f ρ).bind _ = _; rw [h, Option.bind_some, if_pos hn], k⟩
theorem q_puts {is : List Nat} {n : Nat} {f : Rho → Option (List Pv)} {g : Rho → Option Fl} {ρ : Rho} {K : Fl → Prop} (ps : List Pv) (h : f ρ = some ps) (hn : ps.length = n) (k : fW g (putsR ρ is ps) K) : fW (sSeq (sPuts is n f) g) ρ K := s_seq (s_puts ps h hn k)
end L2.P


set_option Elab.async false
set_option linter.all false
set_option maxRecDepth 100000
set_option maxHeartbeats 4000000
namespace L2.P
open PySem PySem.Spec PyProof.Rows L2
def notN : D → Bool
  | .none => false
  | _ => true
def okM (ps : List D) : Bool := (ps.all fun x => notN x && ps.all fun y => PySem.W.alike x y) && okDs ps
theorem okM_alike {ps : List D} (h : okM ps = true) : PySem.W.AlikeAll ps := by
  unfold okM at h
  rw [Bool.and_eq_true, List.all_eq_true] at h
  refine ⟨fun x hx y hy => ?_, fun x hx e => ?_⟩
  · have := h.1 x hx
    rw [Bool.and_eq_true, List.all_eq_true] at this
    exact this.2 y hy
  · have := h.1 x hx
    subst e
    rw [Bool.and_eq_true] at this
    exact absurd this.1 (by simp [notN])
theorem okM_oks {ps : List D} (h : okM ps = true) : okDs ps = true := by
  unfold okM at h
  rw [Bool.and_eq_true] at h
  exact h.2
/-- one of the items is what g makes of them -/
def rPick (K : Fg) (g : D → List D → D) : List V → Hp → VK → Prop := fun vs H Q => ∃ (a : Addr) (ys : List V) (x : D) (xs : List D), vs = [.ref a] ∧ SqL K H a ys ∧ DpAll K H ys (x :: xs) ∧ okM (x :: xs) = true ∧
  ∀ (i : Nat) (u : V), ys[i]? = some u → (x :: xs)[i]? = some (g x xs) → Q u H
theorem read_one {h : Heap} {v : Value} {d e : D} {as bs : List Addr} (hd : d.plain = true) (he : e.plain = true) (r1 : Reads h v d as) (r2 : Reads h v e bs) : d = e := by
  rw [← SeqAt.readOf_plain hd r1, SeqAt.readOf_plain he r2]
theorem plain_mem : ∀ {ps : List D} {p : D}, PyData.plainAll ps = true → p ∈ ps → p.plain = true
  | x :: xs, p, h, m => by
    rw [PyData.plainAll, Bool.and_eq_true] at h
    rcases List.mem_cons.mp m with rfl | m
    · exact h.1
    · exact plain_mem h.2 m
theorem minD_mem (x : D) (xs : List D) : PySem.W.minD x xs ∈ x :: xs := by
  unfold PySem.W.minD
  induction xs generalizing x with
  | nil => simp
  | cons y ys ih =>
    rw [List.foldl_cons]
    split
    · have := ih y
      rcases List.mem_cons.mp this with e | m
      · rw [e]; simp
      · exact List.mem_cons_of_mem _ (List.mem_cons_of_mem _ m)
    · have := ih x
      rcases List.mem_cons.mp this with e | m
      · rw [e]; simp
      · exact List.mem_cons_of_mem _ (List.mem_cons_of_mem _ m)
theorem maxD_mem (x : D) (xs : List D) : PySem.W.maxD x xs ∈ x :: xs := by
  unfold PySem.W.maxD
  induction xs generalizing x with
  | nil => simp
  | cons y ys ih =>
    rw [List.foldl_cons]
    split
    · have := ih y
      rcases List.mem_cons.mp this with e | m
      · rw [e]; simp
      · exact List.mem_cons_of_mem _ (List.mem_cons_of_mem _ m)
    · have := ih x
      rcases List.mem_cons.mp this with e | m
      · rw [e]; simp
      · exact List.mem_cons_of_mem _ (List.mem_cons_of_mem _ m)
section
variable {X : Cx}
theorem vals_at {vs : List V} {us : List Value} (r : Vals vs us) : ∀ {i : Nat} {u : Value}, us[i]? = some u → ∃ v, vs[i]? = some v ∧ RelV v u := by
  induction r with
  | nil => intro i u h; simp at h
  | cons a _ ih =>
    intro i u h
    cases i with
    | zero => simp at h; subst h; exact ⟨_, rfl, a⟩
    | succ i => exact ih (by simpa using h)
theorem pick_fin {H : Hp} {pins : List (Addr × Obj)} {σ : St} {s : Shared} {ys : List V} {its : List Value} {ps : List D} {m : D} {as : List Addr} {Q : VK} (I : L2.Inv X pins σ H s) (rv : Vals ys its) (hpl : PyData.plainAll ps = true) (hr : ReadsAll s.heap its ps as) (hm : m ∈ ps)
    (q : ∀ (i : Nat) (u : V), ys[i]? = some u → ps[i]? = some m → Q u H) (i : Nat) (v : Value) (h' : Heap) (tk : Nat) (bs : List Addr) (hv : its.toArray[i]? = some v) (r : Reads h' v m bs) (hk : ∀ b o, s.heap.get? b = some o → h'.get? b = some o) : EP X pins σ Q v { s with heap := h', toks := tk } := by
  have hv' : its[i]? = some v := by simpa using hv
  obtain ⟨u, hu, ru⟩ := vals_at rv hv'
  obtain ⟨cs, r2, h3, h4, _⟩ := PySem.W.readsAll_at hr i v hv'
  have e1 : ps.getD i .none = m := read_one (plain_mem hpl h4) (plain_mem hpl hm) (Reads.keeps hk r2) r
  have e2 : ps[i]? = some m := by
    rw [List.getD_eq_getElem?_getD, List.getElem?_eq_getElem h3] at e1
    rw [List.getElem?_eq_getElem h3]
    exact congrArg some e1
  exact ⟨u, H, I.kept hk, ru, q i u hu e2⟩
theorem cr_minP (hc : X.calm = true) (hu : Rm X) : CallR X (.builtin "min") (rPick X.K PySem.W.minD) := by
  intro pins s σ H vs us Q I r h
  obtain ⟨a, ys, x, xs, rfl, hs, hd, ok, q⟩ := h
  rw [Vals.ref1 r]
  obtain ⟨hpl, hdep⟩ := okDs_iff.mp (okM_oks ok)
  obtain ⟨its, rv, hl, _⟩ := I.list hs
  obtain ⟨as, hr⟩ := Dp.readsAll I _ ys its hd hpl rv
  exact PySem.W.min_list_data (I.ok.hd hc) hl.isList hr (okM_alike ok) (by unfold Rm at hu; omega) fun i v h' tk bs hv r hk => pick_fin I rv hpl hr (minD_mem x xs) q i v h' tk bs hv r hk
theorem cr_maxP (hc : X.calm = true) (hu : Rm X) : CallR X (.builtin "max") (rPick X.K PySem.W.maxD) := by
  intro pins s σ H vs us Q I r h
  obtain ⟨a, ys, x, xs, rfl, hs, hd, ok, q⟩ := h
  rw [Vals.ref1 r]
  obtain ⟨hpl, hdep⟩ := okDs_iff.mp (okM_oks ok)
  obtain ⟨its, rv, hl, _⟩ := I.list hs
  obtain ⟨as, hr⟩ := Dp.readsAll I _ ys its hd hpl rv
  exact PySem.W.max_list_data (I.ok.hd hc) hl.isList hr (okM_alike ok) (by unfold Rm at hu; omega) fun i v h' tk bs hv r hk => pick_fin I rv hpl hr (maxD_mem x xs) q i v h' tk bs hv r hk
def gPick (g : D → List D → D) : GA
  | [.list (x :: xs)] => if okM (x :: xs) = true then some (g x xs) else none
  | _ => none
def gMin : GA := gPick PySem.W.minD
def gMax : GA := gPick PySem.W.maxD
theorem pk_lst {K : Fg} {B : Bs} {F H : Hp} {σ : St} {ρ : Rho} {v : V} {ps : List D} (R : Rs K B F H σ ρ) (d : Pk K F σ ρ v (.list ps)) : ∃ a ys, v = .ref a ∧ SqL K H a ys ∧ DpAll K F ys ps := by
  rcases d with d | ⟨i, qs, h1, h2, e⟩
  · obtain ⟨a, xs, rfl, s, r⟩ := Dp.inv_lst d
    exact ⟨a, xs, rfl, sqL_same R.sub s, r⟩
  · cases e
    obtain ⟨a, xs, e, f, h0, h3, r⟩ := R.own h1
    rw [h2] at e; cases e
    exact ⟨a, xs, rfl, .inl (.inl h3), r⟩
theorem cg_pick {id : String} {g : D → List D → D} (c : CallR X (.builtin id) (rPick X.K g)) : CallG X (.builtin id) (gPick g) := ⟨_, c, fun B F H σ ρ vs ps z Q R d e k => by
  unfold gPick at e
  split at e
  · rename_i x xs
    split at e
    · rename_i ok
      cases e
      cases d with
      | cons d t =>
        cases t
        obtain ⟨a, ys, rfl, hs, r⟩ := pk_lst R d
        refine ⟨a, ys, x, xs, rfl, hs, r.same R.sub, ok, fun i u hu hp => ?_⟩
        obtain ⟨u', hu', du⟩ := r.get hp
        rw [hu] at hu'; cases hu'
        exact k F H u R (Same.refl _) du
    · cases e
  · cases e⟩
theorem bt_min : bootBuiltins "min" = some (.builtin "min") := by decide +kernel
theorem bt_max : bootBuiltins "max" = some (.builtin "max") := by decide +kernel
variable {a : Expr} {p pos : Pos}
theorem c_min {f : Rho → Option (List D)} (B : Bi X.mg) (hu : Rm X) (h : XAF X [a] f) (hc : X.calm = true := by rfl) (hg : Gl X "min" := by rfl) (he : starEach [a] X.env = (false, eval a X.env) :: starEach [] X.env := by rfl) : EF X (.Call (.Name "min" p) [a] [] pos) (aOf gMin f) := EW.f (ew_callB (cg_pick (cr_minP hc hu)) h hg B.min bt_min (he := he) (hpl := rfl))
theorem c_max {f : Rho → Option (List D)} (B : Bi X.mg) (hu : Rm X) (h : XAF X [a] f) (hc : X.calm = true := by rfl) (hg : Gl X "max" := by rfl) (he : starEach [a] X.env = (false, eval a X.env) :: starEach [] X.env := by rfl) : EF X (.Call (.Name "max" p) [a] [] pos) (aOf gMax f) := EW.f (ew_callB (cg_pick (cr_maxP hc hu)) h hg B.max bt_max (he := he) (hpl := rfl))
end
end L2.P


set_option Elab.async false
set_option linter.all false
set_option maxRecDepth 100000
set_option maxHeartbeats 4000000
namespace L2.P
open PySem PySem.Spec PyProof.Rows L2
/-- pairs of friends, the shorter first -/
def prs (w : List (List Int)) : List (Int × Int) := (upI w.length).flatMap fun i => ((fr w i).filter fun k => decide (i < k)).map fun k => (i, k)
theorem flatMap_len {α β : Type} (f : α → List β) (m : Nat) : ∀ xs : List α, (∀ x ∈ xs, (f x).length ≤ m) → (xs.flatMap f).length ≤ xs.length * m
  | [], _ => by simp
  | x :: xs, h => by
    rw [List.flatMap_cons, List.length_append, List.length_cons, Nat.succ_mul]
    have := flatMap_len f m xs fun y hy => h y (List.mem_cons_of_mem _ hy)
    have := h x List.mem_cons_self
    omega
theorem prs_len {w : List (List Int)} (h : Web w) : (prs w).length ≤ 49 := by
  have := flatMap_len (fun i => ((fr w i).filter fun k => decide (i < k)).map fun k => (i, k)) 7 (upI w.length) (fun i hi => by
    obtain ⟨h0, h1⟩ := mem_upI.mp hi
    have a := h.frlen h0 h1
    have b := List.length_filter_le (fun k => decide (i < k)) (fr w i)
    have c := h.le
    rw [List.length_map]; omega)
  rw [upI_length] at this
  have c := h.le
  have : w.length * 7 ≤ 7 * 7 := Nat.mul_le_mul_right 7 c
  unfold prs
  omega
theorem mem_prs {w : List (List Int)} {e : Int × Int} : e ∈ prs w ↔ (0 ≤ e.1 ∧ e.1 < w.length) ∧ e.2 ∈ fr w e.1 ∧ e.1 < e.2 := by
  unfold prs
  rw [List.mem_flatMap]
  constructor
  · rintro ⟨i, hi, hm⟩
    obtain ⟨k, hk, rfl⟩ := List.mem_map.mp hm
    rw [List.mem_filter] at hk
    exact ⟨mem_upI.mp hi, hk.1, of_decide_eq_true hk.2⟩
  · rintro ⟨h1, h2, h3⟩
    exact ⟨e.1, mem_upI.mpr h1, List.mem_map.mpr ⟨e.2, List.mem_filter.mpr ⟨h2, decide_eq_true h3⟩, rfl⟩⟩
theorem prs_map (w : List (List Int)) : (prs w).map edgeD = (upI w.length).flatMap fun i => ((fr w i).filter fun k => decide (i < k)).map fun k => edgeD (i, k) := by
  unfold prs
  rw [List.map_flatMap]
  congr 1
  funext i
  rw [List.map_map]; rfl
/-- who of st has a friend in st that q tells -/
def has (w : List (List Int)) (st : List Int) (q : Int → Int → Bool) (x : Int) : Bool := (fr w x).any fun k => q x k && decide (k ∈ st)
theorem tupRg_upI {n : Nat} (h : n ≤ 1000) {f : Rho → Option (Int × Int)} {ρ : Rho} (e : f ρ = some (0, (n : Int))) : vTupRg f ρ = some (tR (upI n)) := by
  unfold vTupRg
  have hr : RgB (0, (n : Int)) = true := by unfold RgB; simp; omega
  rw [e, Option.bind_some, if_pos hr]
  show some (PyData.tuple (rngD 0 ((n : Int) - 0).toNat)) = _
  rw [Int.sub_zero, Int.toNat_natCast, rngD_upI]
theorem ixE0 (e : Int × Int) : dIx (edgeD e) (.int 0) = some (.int e.1) := rfl
theorem ixE1 (e : Int × Int) : dIx (edgeD e) (.int 1) = some (.int e.2) := rfl
def both (st : List Int) (e : Int × Int) : Bool := decide (e.1 ∈ st) && decide (e.2 ∈ st)
end L2.P


set_option Elab.async false
set_option linter.all false
set_option maxRecDepth 100000
set_option maxHeartbeats 4000000
namespace L2.P
open PySem PySem.Spec PyProof.Rows L2
section
variable {f g : Rho → Option Fl} {u : Rho → Option (List D)} {tg : Tg} {ρ : Rho} {K : Fl → Prop}
theorem forF_inv {α S : Type} {enc : α → D} (st : S → Rho) (xs : List α) (J : Nat → S → Prop) (K : Fl → Prop) (k : ∀ s, J xs.length s → K (.nx (st s))) : ∀ (ys : List α) (i : Nat) (s : S), xs.drop i = ys → i ≤ xs.length → J i s →
    (∀ (i : Nat) (s : S) (x : α), xs[i]? = some x → J i s → ∃ ρ', tg (enc x) (st s) = some ρ' ∧ fW f ρ' fun fl => (∃ s', fl = .nx (st s') ∧ J (i + 1) s') ∨ ∃ v, fl = .rt v ∧ K (.rt v)) → ∃ fl, forF tg f (ys.map enc) (st s) = some fl ∧ K fl
  | [], i, s, e, hi, hJ, _ => by
    have : i = xs.length := by
      have := congrArg List.length e
      rw [List.length_drop] at this
      simp at this; omega
    subst this
    exact ⟨_, rfl, k s hJ⟩
  | y :: ys, i, s, e, hi, hJ, h => by
    have hlt : i < xs.length := by
      have := congrArg List.length e
      rw [List.length_drop, List.length_cons] at this
      omega
    have hx : xs[i]? = some y := by
      rw [List.drop_eq_getElem_cons hlt] at e
      rw [List.getElem?_eq_getElem hlt]
      exact congrArg some (List.cons.inj e).1
    have hd : xs.drop (i + 1) = ys := by
      rw [List.drop_eq_getElem_cons hlt] at e
      exact (List.cons.inj e).2
    obtain ⟨ρ', h1, fl, h2, h3⟩ := h i s y hx hJ
    rw [List.map_cons, forF, h1, Option.bind_some, h2]
    rcases h3 with ⟨s', rfl, h4⟩ | ⟨v, rfl, h4⟩
    · exact forF_inv st xs J K k ys (i + 1) s' hd hlt h4 h
    · exact ⟨_, rfl, h4⟩
/-- a loop that keeps J, and may return -/
theorem s_invr {α S : Type} (st : S → Rho) (xs : List α) (enc : α → D) (J : Nat → S → Prop) (s0 : S) (hu : u ρ = some (xs.map enc)) (hρ : ρ = st s0) (h0 : J 0 s0)
    (h : ∀ (i : Nat) (s : S) (x : α), xs[i]? = some x → J i s → ∃ ρ', tg (enc x) (st s) = some ρ' ∧ fW f ρ' fun fl => (∃ s', fl = .nx (st s') ∧ J (i + 1) s') ∨ ∃ v, fl = .rt v ∧ K (.rt v)) (k : ∀ s, J xs.length s → K (.nx (st s))) : fW (sFor tg u f) ρ K := by
  subst hρ
  obtain ⟨fl, e, q⟩ := forF_inv (tg := tg) (f := f) (enc := enc) st xs J K k xs 0 s0 rfl (Nat.zero_le _) h0 h
  exact ⟨fl, by rw [e_sFor, hu, Option.bind_some, e], q⟩
theorem s_inv {α S : Type} (st : S → Rho) (xs : List α) (enc : α → D) (J : Nat → S → Prop) (s0 : S) (hu : u ρ = some (xs.map enc)) (hρ : ρ = st s0) (h0 : J 0 s0)
    (h : ∀ (i : Nat) (s : S) (x : α), xs[i]? = some x → J i s → ∃ ρ', tg (enc x) (st s) = some ρ' ∧ fW f ρ' fun fl => ∃ s', fl = .nx (st s') ∧ J (i + 1) s') (k : ∀ s, J xs.length s → K (.nx (st s))) : fW (sFor tg u f) ρ K :=
  s_invr st xs enc J s0 hu hρ h0 (fun i s x hx hJ => by
    obtain ⟨ρ', h1, fl, h2, h3⟩ := h i s x hx hJ
    exact ⟨ρ', h1, fl, h2, .inl h3⟩) k
theorem q_inv {α S : Type} (st : S → Rho) (xs : List α) (enc : α → D) (J : Nat → S → Prop) (s0 : S) (hu : u ρ = some (xs.map enc)) (hρ : ρ = st s0) (h0 : J 0 s0)
    (h : ∀ (i : Nat) (s : S) (x : α), xs[i]? = some x → J i s → ∃ ρ', tg (enc x) (st s) = some ρ' ∧ fW f ρ' fun fl => ∃ s', fl = .nx (st s') ∧ J (i + 1) s') (k : ∀ s, J xs.length s → fW g (st s) K) : fW (sSeq (sFor tg u f) g) ρ K := s_seq (s_inv st xs enc J s0 hu hρ h0 h k)
end
@[simp] theorem e_putsC (ρ : Rho) (i : Nat) (is : List Nat) (p : Pv) (ps : List Pv) : putsR ρ (i :: is) (p :: ps) = putsR (ρ.set i p.sl) is ps := rfl
@[simp] theorem e_putsN (ρ : Rho) (ps : List Pv) : putsR ρ [] ps = ρ := by cases ps <;> rfl
@[simp] theorem e_slF (p : D) : (Pv.f p).sl = .v p := rfl
@[simp] theorem e_slO (p : List D) : (Pv.o p).sl = .ol p := rfl
/-- a slot that owns nothing -/
def nv : Option D → Sl
  | none => .no
  | some p => .v p
@[simp] theorem e_nvS (p : D) : nv (some p) = .v p := rfl
@[simp] theorem e_nvN : nv none = .no := rfl
@[simp] theorem e_fEnum (f : Rho → Option D) (ρ : Rho) : fEnum f ρ = (f ρ).bind fun p => (items p).map enumD := rfl
@[simp] theorem e_vNeg (f : Rho → Option D) (ρ : Rho) : vNeg f ρ = (f ρ).bind dNeg := rfl
@[simp] theorem e_dNeg (i : Int) : dNeg (.int i) = some (.int (-i)) := rfl
theorem ix_last {α : Type} (enc : α → D) (xs : List α) (x : α) : dIx (.list ((xs ++ [x]).map enc)) (.int (-1)) = some (enc x) := by
  show atI _ (-1) = _
  have hl : ((xs ++ [x]).map enc).length = xs.length + 1 := by simp
  unfold atI ixN
  rw [hl]
  have hc : (1 : Int) ≤ (xs.length : Int) + 1 := by omega
  have e : (-1 + ((xs.length : Int) + 1)).toNat = xs.length := by omega
  simp [hc, e]
theorem ix_ints {cs : List Int} {i : Int} (h0 : 0 ≤ i) (h1 : i < cs.length) : dIx (tR cs) (.int i) = some (.int (cs.getD i.toNat 0)) := by
  show atI _ i = _
  have hi : i.toNat < cs.length := by omega
  have e : ((i.toNat : Nat) : Int) = i := by omega
  have z := atI_nat (xs := cs.map PyData.int) (j := i.toNat) (v := .int (cs.getD i.toNat 0)) (by rw [List.getElem?_map, List.getElem?_eq_getElem hi, List.getD_eq_getElem?_getD, List.getElem?_eq_getElem hi]; rfl)
  rw [e] at z
  exact z
theorem upI_get {n i : Nat} {x : Int} (h : (upI n)[i]? = some x) : x = (i : Int) ∧ i < n := by
  unfold upI at h
  rw [List.getElem?_map] at h
  obtain ⟨k, hk, rfl⟩ := Option.map_eq_some_iff.mp h
  have := List.getElem?_eq_some_iff.mp hk
  obtain ⟨hl, e⟩ := this
  rw [List.length_range] at hl
  rw [List.getElem_range] at e
  exact ⟨by omega, hl⟩
/-- people of a web -/
def Row (n : Nat) (cs : List Int) : Prop := ∀ c ∈ cs, 0 ≤ c ∧ c < (n : Int)
/-- p calls -/
def callM (w : List (List Int)) (st : List Int) (p : Int) : List Int := if p ∈ st then st.filter fun o => decide (p ≤ o) || !decide (o ∈ fr w p) else st
theorem callM_sub (w : List (List Int)) (st : List Int) (p : Int) : (callM w st p).Sublist st := by
  unfold callM
  split
  · exact List.filter_sublist
  · exact List.Sublist.refl _
theorem callM_ppl {w : List (List Int)} {st : List Int} {p : Int} {n : Nat} (h : Ppl n st) : Ppl n (callM w st p) := ⟨h.up.sublist (callM_sub w st p), fun k hk => h.inn k ((callM_sub w st p).subset hk)⟩
/-- who stands behind i calls -/
def stAt (w : List (List Int)) (st cs : List Int) (i : Nat) : List Int := (cs.take i).foldl (callM w) st
theorem stAt_succ {w : List (List Int)} {st cs : List Int} {i : Nat} {c : Int} (h : cs[i]? = some c) : stAt w st cs (i + 1) = callM w (stAt w st cs i) c := by
  unfold stAt
  rw [List.take_add_one, h]
  simp
/-- the story -/
def stories (w : List (List Int)) (st cs : List Int) (m : Nat) : List D := (List.range m).map fun i => tR (stAt w st cs i)
theorem stories_succ (w : List (List Int)) (st cs : List Int) (m : Nat) : stories w st cs (m + 1) = stories w st cs m ++ [tR (stAt w st cs m)] := by
  unfold stories
  rw [List.range_succ, List.map_append]; rfl
theorem stories_len (w : List (List Int)) (st cs : List Int) (m : Nat) : (stories w st cs m).length = m := by unfold stories; simp
theorem ix_storiesL (w : List (List Int)) (st cs : List Int) (m : Nat) : dIx (.list (stories w st cs (m + 1))) (.int (-1)) = some (tR (stAt w st cs m)) := by
  have := ix_last (fun i => tR (stAt w st cs i)) (List.range m) m
  rw [← List.range_succ] at this
  exact this
def moversM (w : List (List Int)) (st : List Int) : List Int := st.filter fun p => has w st (fun x k => decide (k < x)) p
/-- who makes somebody sit -/
theorem movers_iff {w : List (List Int)} {st : List Int} {p : Int} (hp : p ∈ st) : callM w st p ≠ st ↔ has w st (fun x k => decide (k < x)) p = true := by
  unfold callM has
  rw [if_pos hp, List.any_eq_true]
  constructor
  · intro h
    apply Classical.byContradiction
    intro q
    apply h
    rw [List.filter_eq_self]
    intro o ho
    rw [Bool.or_eq_true, decide_eq_true_eq, Bool.not_eq_true', decide_eq_false_iff_not]
    by_cases c : p ≤ o
    · exact .inl c
    · refine .inr fun hf => q ⟨o, hf, ?_⟩
      rw [Bool.and_eq_true, decide_eq_true_eq, decide_eq_true_eq]
      exact ⟨by omega, ho⟩
  · rintro ⟨k, hk, q⟩ e
    rw [Bool.and_eq_true, decide_eq_true_eq, decide_eq_true_eq] at q
    rw [List.filter_eq_self] at e
    have := e k q.2
    rw [Bool.or_eq_true, decide_eq_true_eq, Bool.not_eq_true', decide_eq_false_iff_not] at this
    rcases this with c | c
    · omega
    · exact c hk
end L2.P
namespace L2.P
open PySem PySem.Spec PyProof.Rows L2
theorem rng_of {A : Rho → Option D} {ρ : Rho} {z : Int} {r : List D} (h1 : A ρ = some (.int z)) (h2 : gRng1 [.int z] = some r) : (aOf gRng1 (aCons A aNil)) ρ = some r := by simp [h1, h2]
theorem len_tup {A : Rho → Option D} {ρ : Rho} {xs : List D} {n : Nat} (h : A ρ = some (.tuple xs)) (hl : xs.length = n) : (aOf gLen (aCons A aNil)) ρ = some (.int (n : Int)) := by subst hl; simp [h]
end L2.P


set_option Elab.async false
set_option linter.all false
set_option maxRecDepth 100000
set_option maxHeartbeats 4000000
namespace L2.P
open PySem PySem.Spec PyProof.Rows L2
section
variable {prog : Program} {w : World} {A : Around} {E : Value → Shared → Prop} {s : Shared}
theorem fm_map {α β : Type} (f : α → Option β) (g : α → β) : ∀ l : List α, (∀ m ∈ l, f m = some (g m)) → l.filterMap f = l.map g
  | [], _ => rfl
  | x :: xs, h => by rw [List.filterMap_cons, h x List.mem_cons_self, List.map_cons, fm_map f g xs fun m hm => h m (List.mem_cons_of_mem _ hm)]
theorem pick_rev (xs : Array Value) : ((List.range xs.size).filterMap fun (m : Nat) => xs[(((xs.size : Int) - 1) + (m : Int) * (-1)).toNat]?).toArray = xs.toList.reverse.toArray := by
  congr 1
  apply List.ext_getElem?
  intro i
  have e : ((List.range xs.size).filterMap fun (m : Nat) => xs[(((xs.size : Int) - 1) + (m : Int) * (-1)).toNat]?) = (List.range xs.size).map fun m => xs.toList.reverse.getD m .none := by
    refine fm_map _ _ _ fun m hm => ?_
    rw [List.mem_range] at hm
    have e1 : (((xs.size : Int) - 1) + (m : Int) * (-1)).toNat = xs.size - 1 - m := by omega
    rw [e1]
    show _ = some _
    rw [List.getD_eq_getElem?_getD, List.getElem?_reverse (by simpa using hm)]
    rw [Array.length_toList, Array.getElem?_toList, Array.getElem?_eq_getElem (by omega)]
    rfl
  rw [e, List.getElem?_map]
  by_cases h : i < xs.size
  · rw [List.getElem?_range h]
    show some (xs.toList.reverse.getD i .none) = _
    rw [List.getD_eq_getElem?_getD, List.getElem?_eq_getElem (by simpa using h)]
    rfl
  · rw [List.getElem?_eq_none (by simpa using h), List.getElem?_eq_none (by simpa using h)]
    rfl
theorem sliceApplied_rev {sl : Addr} {vs : Value} {n : Nat} {Q : Int × Int × Nat → Shared → Prop} (hs : s.heap.IsSliceOf sl .none .none vs) (ps : IsPart vs (some (-1)))
    (h : Q (((n : Int) - 1), -1, n) s) : wpAny (model prog w) A (Builtin.Slice.sliceApplied (.ref sl) (pure (n : Int))) Q E s := by
  obtain ⟨os, hos, hcs, hds⟩ := id hs
  unfold Builtin.Slice.sliceApplied Builtin.Slice.sliceFields
  refine wpAny_bind (wpAny_bind (wpAny_field hos hds (x := .none) rfl (wpAny_bind (wpAny_field hos hds (x := .none) rfl (wpAny_bind (wpAny_field hos hds (x := vs) rfl (wpAny_pure ?_)))))))
  refine wpAny_bind (HT.slicePart_ ps ?_)
  show wpAny _ _ (if ((-1 : Int) == 0) = true then _ else _) _ _ s
  rw [if_neg (by decide)]
  refine wpAny_bind (slicePart_none (wpAny_bind (slicePart_none (wpAny_bind (wpAny_pure ?_)))))
  have e1 : Builtin.Slice.sliceAdjust none none (-1) (n : Int) = ((n : Int) - 1, -1) := by
    unfold Builtin.Slice.sliceAdjust
    simp
  have e2 : Builtin.Slice.slicePlaces ((n : Int) - 1) (-1) (-1) = n := by
    unfold Builtin.Slice.slicePlaces
    simp
    split <;> omega
  show wpAny _ _ (match Builtin.Slice.sliceAdjust none none (-1) (n : Int) with | (lo, hi) => pure (lo, (-1 : Int), Builtin.Slice.slicePlaces lo hi (-1))) _ _ s
  rw [e1]
  show wpAny _ _ (pure ((n : Int) - 1, (-1 : Int), Builtin.Slice.slicePlaces ((n : Int) - 1) (-1) (-1))) _ _ s
  rw [e2]
  exact wpAny_pure h
theorem getItem_tuple_rev {t sl : Addr} {items : Array Value} {vs : Value} {Q : Value → Shared → Prop} (ht : IsTup s.heap t items) (hs : s.heap.IsSliceOf sl .none .none vs) (ps : IsPart vs (some (-1)))
    (h : Q (.ref s.heap.objs.size) { s with heap := s.heap.push { cls := .type "tuple", data := .seq items.toList.reverse.toArray } })
    (hsz : items.size ≤ sizeLine) : wpAny (model prog w) A (getItem (.ref t) (.ref sl)) Q E s := by
  have htake : sizeOk (.seq items.toList.reverse.toArray) := by
    show items.toList.reverse.toArray.size ≤ sizeLine
    rw [List.size_toArray, List.length_reverse, Array.length_toList]
    exact hsz
  obtain ⟨os, hos, hcs, hds⟩ := id hs
  have hTs : s.TypeIs (.ref sl) "slice" := ⟨os, hos, hcs⟩
  unfold getItem
  try with_reducible refine wpAny_holding ?_
  first | refine wpAny_bind (wpAny_pure ?_) | skip
  refine wpAny_bind (wpAny_sequenceKey ht.typeIs (by decide) ?_)
  refine wpAny_bind (wpAny_callSpecial?_slot (name := Str.ofString "__getitem__") ht.typeIs PyProof.Rows.slot_tuple_getitem
    (wpAny_call_entry PyProof.Rows.slot_tuple_getitem ht.typeIs entry_tuple_getitem ?_ (args_tuple_getitem _ _)))
  show wpAny _ _ (Builtin.Tuple.tupleItemsOf (.ref t) >>= _) _ _ s
  refine wpAny_bind (tupleItemsOf_ ht ?_)
  refine wpAny_bind (wpAny_typeOf hTs ?_)
  rw [if_pos (by decide)]
  refine wpAny_bind (sliceApplied_rev hs ps ?_)
  have hno : ¬ ((((items.size : Int) - 1) == 0 && (-1 : Int) == 1 && items.size == items.size) = true) := by
    intro q
    rw [Bool.and_eq_true, Bool.and_eq_true] at q
    exact absurd q.1.2 (by decide)
  show wpAny _ _ (if (((items.size : Int) - 1) == 0 && (-1 : Int) == 1 && items.size == items.size) = true then _ else _) _ _ s
  rw [if_neg hno, pick_rev]
  first
    | exact wpAny_bind (m := Builtin.Tuple.tupleExact _) (wpAny_newObj_type (wpAny_pure ⟨_, rfl, wpAny_pure h⟩) htake)
    | exact wpAny_bind (m := Builtin.Tuple.tupleExact _) (wpAny_newObj_type (wpAny_bind (wpAny_pure (wpAny_pure ⟨_, rfl, wpAny_pure h⟩))) htake)
    | exact wpAny_bind (wpAny_bind (m := Builtin.Tuple.tupleExact _) (wpAny_newObj_type (wpAny_pure (wpAny_pure ⟨_, rfl, wpAny_pure h⟩)) htake))
    | exact wpAny_bind (wpAny_bind (m := Builtin.Tuple.tupleExact _) (wpAny_newObj_type (wpAny_pure ⟨_, rfl, wpAny_pure h⟩) htake))
end
end L2.P
namespace L2.P
open PySem PySem.Spec PyProof.Rows L2
section
variable {X : Cx} {e : Expr} {pos : Pos}
def tRevP (K : Fg) (te : TE) : TE := fun σ H Q => te σ H fun x H1 => ∃ a xs, x = .ref a ∧ ((SqL K H1 a xs ∧ ∀ p, H1 p = none → Q (.ref p) (upd H1 p (.lst xs.reverse))) ∨ (SqT K H1 a xs ∧ ∀ p, H1 p = none → Q (.ref p) (upd H1 p (.tup xs.reverse))))
theorem pe_revP {te : TE} {k : Nat} {p1 p2 p3 pos : Pos} (he : PE X e te) : PE X (.Subscript e (.Slice none none (some (.UnaryOp .USub (.Constant (.int 1) k p1) p2)) p3) pos) (tRevP X.K te) := by
  refine ⟨fun pins s σ H Q I h => ?_⟩
  refine Subscript_ (thn (he.run pins s σ H _ I h) fun v s1 ⟨x, H1, I1, r1, q1⟩ => ?_)
  obtain ⟨a, xs, ex, q1⟩ := q1
  subst ex
  cases r1
  have hst : PO X (some (.UnaryOp .USub (.Constant (.int 1) k p1) p2)) (tPart (tUn (rU fun i => .int (-i)) (tC (.int 1)))) := po_some (pe_un un_neg pe_int)
  refine wpAny_Slice (thn (po_none.run pins s1 σ H1 (fun o H2 => o = none ∧ H2 = H1) I1 ⟨rfl, rfl⟩) fun vl s2 ⟨l, H2, I2, pl, el, e2⟩ => ?_)
  subst el e2
  refine thn (po_none.run pins s2 σ H2 (fun o H3 => o = none ∧ H3 = H2) I2 ⟨rfl, rfl⟩) fun vu s3 ⟨u, H3, I3, pu, eu, e3⟩ => ?_
  subst eu e3
  refine thn (hst.run pins s3 σ H3 (fun o H4 => o = some (-1) ∧ H4 = H3) I3 ⟨1, rfl, -1, rfl, rfl, rfl⟩) fun vs s4 ⟨o, H4, I4, ps, eo, e4⟩ => ?_
  subst eo e4
  have I5 : L2.Inv X pins σ H4 { s4 with heap := s4.heap.push { cls := .type "slice", data := .fields #[vl, vu, vs] } } := I4.kept (t' := s4.toks) fun b ob q => Heap.get?_push_of_some _ q
  show wpAny (model X.prog X.w) X.A (subscriptTail e (.Slice none none (some (.UnaryOp .USub (.Constant (.int 1) k p1) p2)) p3) (.ref a) (.ref s4.heap.objs.size)) (EP X pins σ Q) X.xe { s4 with heap := s4.heap.push { cls := .type "slice", data := .fields #[vl, vu, vs] } }
  rcases q1 with ⟨hx, q⟩ | ⟨hx, q⟩
  · obtain ⟨its, r, ht, hz⟩ := I5.list hx
    have hlen := r.length
    refine tail_any (ops := [.ref a, .ref s4.heap.objs.size]) ht.isList.typeIs (PySem.slot_list_getitem.lookup) ?_ (by with_unfolding_all rfl)
    refine wpAny_getItem_list_slice ht.isList (Heap.IsSliceOf.new _ vl vu vs) pl pu ps (by decide) ?_ (by rw [List.size_toArray]; omega)
    rw [PySem.W.krv_pick]
    refine ⟨.ref _, _, I5.laid (t' := s4.toks) (o := .lst xs.reverse) (fun b ob q => Heap.get?_push_of_some _ q) (Nat.le_refl _) ?_, rfl, q _ (I5.hok.fresh (Nat.le_refl _))⟩
    exact ⟨by rw [List.length_reverse]; exact hz, _, 0, r.reverse, Heap.get?_push_size _ rfl⟩
  · obtain ⟨its, r, ht, hz⟩ := I5.tuple hx
    have hlen := r.length
    cases pl
    cases pu
    refine tail_any (ops := [.ref a, .ref s4.heap.objs.size]) ht.typeIs PyProof.Rows.slot_tuple_getitem.lookup ?_ (by with_unfolding_all rfl)
    refine getItem_tuple_rev ht (Heap.IsSliceOf.new _ _ _ vs) ps ?_ (by rw [List.size_toArray]; omega)
    refine ⟨.ref _, _, I5.laid (t' := s4.toks) (o := .tup xs.reverse) (fun b ob q => Heap.get?_push_of_some _ q) (Nat.le_refl _) ?_, rfl, q _ (I5.hok.fresh (Nat.le_refl _))⟩
    exact ⟨by rw [List.length_reverse]; exact hz, _, r.reverse, IsTup.new _ _⟩
def dRev : D → Option D
  | .list xs => some (.list xs.reverse)
  | .tuple xs => some (.tuple xs.reverse)
  | _ => none
def vRev (f : Rho → Option D) : Rho → Option D := fun ρ => (f ρ).bind dRev
theorem dpAll_rev {K : Fg} {F : Hp} : ∀ {vs : List V} {ps : List D}, DpAll K F vs ps → DpAll K F vs.reverse ps.reverse
  | _, _, .nil => .nil
  | _, _, .cons a b => by
    rw [List.reverse_cons, List.reverse_cons]
    exact (dpAll_rev b).append (.cons a .nil)
theorem ef_rev {f : Rho → Option D} {k : Nat} {p1 p2 p3 pos : Pos} (he : XF X e f) : EF X (.Subscript e (.Slice none none (some (.UnaryOp .USub (.Constant (.int 1) k p1) p2)) p3) pos) (vRev f) :=
  ⟨fW_mono, (pe_revP he.pe).imp fun σ H Q ⟨B, F, ρ, R, z, ez, q⟩ => by
    obtain ⟨p, e1, e2⟩ := Option.bind_eq_some_iff.mp ez
    refine ⟨B, F, ρ, R, p, e1, fun F1 H1 v R1 s1 d => ?_⟩
    unfold dRev at e2
    split at e2
    · cases e2
      obtain ⟨a, ys, rfl, hs, r⟩ := pk_lst R1 d
      refine ⟨a, ys, rfl, .inl ⟨hs, fun l hl => ?_⟩⟩
      have n' := R1.sub.free hl
      exact q _ _ _ (R1.grow hl) (s1.trans (same_upd n')) (.lst (.inl (.inl upd_same)) ((dpAll_rev r).same (same_upd n')))
    · cases e2
      rename_i ps
      have dd : Dp X.K F1 v (.tuple ps) := by
        exact pk_tup d
      obtain ⟨a, ys, rfl, hs, r⟩ := Dp.inv_tup dd
      refine ⟨a, ys, rfl, .inr ⟨sqT_same R1.sub hs, fun l hl => ?_⟩⟩
      have n' := R1.sub.free hl
      exact q _ _ _ (R1.grow hl) (s1.trans (same_upd n')) (.tup upd_same ((dpAll_rev r).same (same_upd n')))
    · cases e2⟩
@[simp] theorem e_vRev (f : Rho → Option D) (ρ : Rho) : vRev f ρ = (f ρ).bind dRev := rfl
@[simp] theorem e_dRevT (xs : List D) : dRev (.tuple xs) = some (.tuple xs.reverse) := rfl
@[simp] theorem e_dRevL (xs : List D) : dRev (.list xs) = some (.list xs.reverse) := rfl
end
end L2.P


set_option Elab.async false
set_option linter.all false
set_option maxRecDepth 100000
set_option maxHeartbeats 4000000
namespace L2.P
open PySem PySem.Spec PyProof.Rows L2
section
variable {X : Cx} {e : Expr} {pos : Pos}
end
end L2.P
namespace L2.P
open PySem PySem.Spec PyProof.Rows L2
end L2.P


set_option Elab.async false
set_option linter.all false
set_option maxRecDepth 100000
set_option maxHeartbeats 4000000
namespace L2.PS
open PySem PySem.Calls PySem.SeqAt PySem.W PyProof.Rows
section
variable {prog : Program} {w : World} {A : Around} {E : Value → Shared → Prop} {s : Shared}
theorem call_tuple_lt {Q : Value → Shared → Prop} {l b : Addr} {items items2 : Array Value} {e r : Nat → Bool} (hl : s.heap.IsTuple l items) (hb : s.heap.IsTuple b items2)
    (he : ∀ j (h1 : j < items.size) (h2 : j < items2.size), EqAt A.in1 s items[j] items2[j] (e j)) (hr : ∀ j (h1 : j < items.size) (h2 : j < items2.size), e j = false → RcLt A.in1 s items[j] items2[j] (r j))
    (h : Q (.bool (firstLt e r (decide (items.size < items2.size)) (List.range (min items.size items2.size)))) s) : wpAny (model prog w) A (call (.builtin "tuple.__lt__") [.ref l, .ref b]) Q E s := by
  obtain ⟨⟨cls, dd, data, sl⟩, ho, hc, n, hd⟩ := id hl
  obtain ⟨⟨cls2, dd2, data2, sl2⟩, ho2, hc2, n2, hd2⟩ := id hb
  simp only at hc hd hc2 hd2
  subst hc hd hc2 hd2
  exact call_meets F.slot_tuple_lt ⟨_, ho, rfl⟩ F.entry_tuple_lt (F.args_tuple_lt_2 _ _) (tuple_ltAt l b items items2 n n2 dd dd2 sl sl2 e r) ⟨ho, ho2, he, hr, h⟩
/-- one tuple against another, as sorting asks -/
theorem oneLt_tup {f : Bool} {xs ys : List PyData} {a b : Value} {as bs : List Addr} {Q : Bool → Shared → Prop} (ra : Reads s.heap a (.tuple xs) as) (rb : Reads s.heap b (.tuple ys) bs) (h : alike (.tuple xs) (.tuple ys) = true)
    (hu : A.units + min (PyData.tuple xs).depth (PyData.tuple ys).depth < cLine) (hq : Q (dataLt (.tuple xs) (.tuple ys)) s) : wpAny (model prog w) A (oneLt' f a b) Q E s := by
  cases f with
  | false =>
    rw [oneLt'_eq]
    simp only [Bool.false_eq_true, if_false]
    exact wpAny_bind (rcLt_alike _ _ A s a b as bs ra rb h (by simp) hu prog w E _ (wpAny_truthy_bool hq))
  | true =>
    have hal : alikeAll xs ys = true := by simpa [alike] using h
    cases ra with
    | @tuple l o vs n _ as₁ h1 h2 h3 h4 =>
      cases rb with
      | @tuple l' o' vs' n' _ bs₁ k1 k2 k3 k4 =>
        have n1 : vs.size = xs.length := by simpa using SeqAt.ReadsAll.length _ _ _ h4
        have n2 : vs'.size = ys.length := by simpa using SeqAt.ReadsAll.length _ _ _ k4
        rw [dataLt_tuple, ← firstLt_toks xs ys hal, ← n1, ← n2] at hq
        rw [oneLt'_eq]
        simp only [if_true]
        refine wpAny_bind (wpAny_cRoomFor (room_here hu) ?_)
        refine wpAny_bind (wpAny_callSpecialIfBound?_slot (T := "tuple") ⟨_, h1, h2⟩ F.slot_tuple_lt (call_tuple_lt (e := pairEq xs ys) (r := fun j => dataLt (xs.getD j .none) (ys.getD j .none)) ⟨_, h1, h2, _, h3⟩ ⟨_, k1, k2, _, k3⟩ (fun j j1 j2 => ?_) (fun j j1 j2 hj => ?_) ?_))
        · have := eqAt_alikeAll xs ys A.in1 s vs.toList vs'.toList _ _ h4 k4 hal (room_in hu) j (by simpa using j1) (by simpa using j2)
          simpa using this
        · have := rcLt_alikeAll xs ys A.in1 s vs.toList vs'.toList _ _ h4 k4 hal (room_in hu) j (by simpa using j1) (by simpa using j2) hj
          simpa using this
        · exact wpAny_truthy_bool hq
def neT : PyData → Bool
  | .tuple (_ :: _) => true
  | _ => false
theorem firsts {M : Model} : ∀ (vs : List Value) (ds : List PyData) {Q : List (Option Value) → Shared → Prop}, EachIs (fun v d => ∃ as, Reads s.heap v d as) vs ds → (∀ d ∈ ds, ∃ xs, d = .tuple xs) →
    (∀ fs : List (Option Value), EachIs (fun f d => f.isSome = neT d) fs ds → Q fs s) → wpAny M A (vs.mapM firstOfTuple') Q E s
  | _, _, _, .nil, _, h => by rw [List.mapM_nil]; exact wpAny_pure (h [] .nil)
  | _, _, Q, .cons (a := v) (as := vs) (b := d) (bs := ds) ⟨as, r⟩ t, ht, h => by
    obtain ⟨xs, rfl⟩ := ht d List.mem_cons_self
    cases r with
    | @tuple a o its n _ _ ho hc hd hr =>
      rw [List.mapM_cons]
      refine wpAny_bind ?_
      rw [kas_first_eq]
      refine wpAny_bind (Looks.here (show Looks M s.heap (typeOf (.ref a)) o.cls from (Looks.ld ho).andThen .now) ?_)
      rw [hc, if_neg (by first | decide | simp)]
      refine wpAny_bind (listItems_at ho hd (wpAny_pure ?_))
      refine wpAny_bind (firsts vs ds (Q := fun bs s' => wpAny M A (pure (its[0]? :: bs)) Q E s') t (fun d hd => ht d (List.mem_cons_of_mem _ hd)) fun fs hfs => wpAny_pure (h _ (.cons ?_ hfs)))
      rw [← Array.getElem?_toList]
      have hl : its.toList.length = xs.length := SeqAt.ReadsAll.length _ _ _ hr
      cases q : its.toList with
      | nil =>
        rw [q] at hl
        cases xs with
        | nil => rfl
        | cons x xs => simp at hl
      | cons z zs =>
        rw [q] at hl
        cases xs with
        | nil => simp at hl
        | cons x xs => rfl
theorem each_all {α β : Type} {R : α → β → Prop} {p : α → Bool} {q : β → Bool} (hR : ∀ a b, R a b → p a = q b) : ∀ {as : List α} {bs : List β}, EachIs R as bs → as.all p = bs.all q
  | _, _, .nil => rfl
  | _, _, .cons h t => by rw [List.all_cons, List.all_cons, hR _ _ h, each_all hR t]
theorem SortsAt.tups {vs : List Value} {ds : List PyData} (e : EachIs (fun v d => ∃ as, Reads s.heap v d as) vs ds) (hal : AllAlike ds) (ht : ∀ d ∈ ds, ∃ xs, d = .tuple xs) (hu : ∀ d, d ∈ ds → A.units + d.depth < cLine) (hne : ds.all neT = false) :
    SortsAt prog w A s (dataKind s.heap ds) vs := by
  have room : ∀ {d d' : PyData}, d ∈ ds → A.units + min d.depth d'.depth < cLine := fun {d d'} hd => Nat.lt_of_le_of_lt (Nat.add_le_add_left (Nat.min_le_left _ _) _) (hu d hd)
  refine ⟨fun v hv => ?_, ?_⟩
  · obtain ⟨d, hd, as, r⟩ := e.left v hv
    exact ⟨_, dataKind_some hal hd r⟩
  · have lt : ∀ (f : Bool) (kd : SortKind), (∀ x y, keyLt' kd x y = oneLt' f x y) → H.LtAt prog w A s (dataKind s.heap ds) kd := fun f kd hk => by
      intro E x y a b Q ha hb hq
      obtain ⟨d, as, hd, ra, rfl⟩ := dataKind_inv ha
      obtain ⟨d', as', hd', rb, rfl⟩ := dataKind_inv hb
      have hdd := hal d hd d' hd'
      have hroom := room (d' := d') hd
      obtain ⟨x1, rfl⟩ := ht d hd
      obtain ⟨x2, rfl⟩ := ht d' hd'
      rw [hk]
      exact oneLt_tup ra rb hdd hroom hq
    cases ds with
    | nil => simp at hne
    | cons d₀ ds₀ =>
      cases e with
      | @cons v₀ _ vs₀ _ r₀ e₀ =>
        have e : EachIs (fun v d => ∃ as, Reads s.heap v d as) (v₀ :: vs₀) (d₀ :: ds₀) := .cons r₀ e₀
        cases h0 : neT d₀ with
        | true =>
          refine ⟨general', lt false general' (fun _ _ => rfl), fun h2 E Q hq => ?_⟩
          rw [keyKind'_eq, List.mapM_toArray, map_eq_pure_bind]
          refine wpAny_bind (wpAny_bind (firsts _ _ e ht fun fs hfs => wpAny_pure ?_))
          have ha := each_all (p := Option.isSome) (q := neT) (fun _ _ h => h) hfs
          rw [hne] at ha
          rw [if_neg (by rw [List.all_toArray, ha]; decide)]
          cases hfs with
          | @cons f _ fs _ hf hfs =>
            rw [h0] at hf
            obtain ⟨z, rfl⟩ := Option.isSome_iff_exists.mp hf
            rw [if_pos (by simp)]
            exact wpAny_pure hq
        | false =>
          refine ⟨oneType', lt true oneType' (fun _ _ => keyLt'_oneType _ _), fun h2 E Q hq => ?_⟩
          rw [keyKind'_eq, List.mapM_toArray, map_eq_pure_bind]
          refine wpAny_bind (wpAny_bind (firsts _ _ e ht fun fs hfs => wpAny_pure ?_))
          have ha := each_all (p := Option.isSome) (q := neT) (fun _ _ h => h) hfs
          rw [hne] at ha
          rw [if_neg (by rw [List.all_toArray, ha]; decide)]
          cases hfs with
          | @cons f _ fs _ hf hfs =>
            rw [h0] at hf
            cases f with
            | some z => cases hf
            | none =>
              rw [if_neg (by simp)]
              rw [oneTypeOnly'_eq, List.mapM_toArray, map_eq_pure_bind]
              refine wpAny_bind (wpAny_bind (wpAny_bind (kas_mapM (r := Value.type "tuple") _ (fun v hv Q' hq' => ?_) (wpAny_pure ?_))))
              · obtain ⟨d, hd, as, r⟩ := e.left v hv
                obtain ⟨xs, rfl⟩ := ht d hd
                exact (looks_reads r).here hq'
              · have hall : ((List.map (fun _ => Value.type "tuple") (v₀ :: vs₀)).toArray.all fun x => x == Value.type "tuple") = true := by
                  simp only [List.all_toArray, List.all_map, List.all_eq_true]
                  intro _ _
                  exact beq_self_eq_true _
                have h0 : (List.map (fun _ => Value.type "tuple") (v₀ :: vs₀)).toArray[0]? = some (Value.type "tuple") := by simp
                rw [h0]
                simp only [hall, if_true]
                exact wpAny_pure (wpAny_pure hq)
theorem alike_tuple {d d' : PyData} (h : alike d d' = true) (ht : ∃ xs, d = .tuple xs) : ∃ xs, d' = .tuple xs := by
  obtain ⟨xs, rfl⟩ := ht
  cases d' <;> first | exact ⟨_, rfl⟩ | exact absurd h (by simp [alike])
/-- alike data but None can be sorted -/
theorem SortsAt.any {vs : List Value} {ds : List PyData} (e : EachIs (fun v d => ∃ as, Reads s.heap v d as) vs ds) (hal : AllAlike ds) (hn : ∀ d ∈ ds, d ≠ .none) (hu : ∀ d, d ∈ ds → A.units + d.depth < cLine) : SortsAt prog w A s (dataKind s.heap ds) vs := by
  by_cases h1 : ∀ d ∈ ds, ∀ xs, d ≠ .tuple xs
  · exact SortsAt.data e hal (.inr fun d hd => ⟨hn d hd, h1 d hd⟩) hu
  · have ⟨d, hd, xs, hx⟩ : ∃ d, d ∈ ds ∧ ∃ xs, d = .tuple xs := by
      apply Classical.byContradiction
      intro q
      exact h1 fun d hd xs hx => q ⟨d, hd, xs, hx⟩
    have ht : ∀ d ∈ ds, ∃ xs, d = .tuple xs := fun d' hd' => alike_tuple (hal d hd d' hd') ⟨xs, hx⟩
    cases hb : ds.all neT with
    | false => exact SortsAt.tups e hal ht hu hb
    | true =>
      rw [List.all_eq_true] at hb
      refine SortsAt.data e hal (.inl fun d hd => ?_) hu
      obtain ⟨ys, rfl⟩ := ht d hd
      have := hb _ hd
      cases ys with
      | nil => cases this
      | cons y ys => exact ⟨_, _, rfl⟩
theorem collect_tup {l : Addr} {vs : List Value} {Q : List Value → Shared → Prop} (hl : IsTup s.heap l vs.toArray)
    (h : Q vs { s with heap := (s.heap.push (seqObj "list" #[] 0)).update s.heap.objs.size (Obj.mapSeq (· ++ vs.toArray)) }) (hsz : vs.length ≤ sizeLine) :
    wpAny (model prog w) A (collect (.ref l)) Q E s := by
  obtain ⟨o, ho, hc, n, hd⟩ := id hl
  unfold collect
  refine wpAny_bind (wpAny_runValue (codeAny_builtin entry_proto_collect' ?_))
  show wpAny _ _ (do again (.builtin "list.__iadd__" ⟨[← newList [], .ref l], []⟩)) _ _ s
  refine wpAny_bind (wpAny_newList (wpAny_pure ⟨Code.quiet_builtin _ (by decide +kernel), codeAny_builtin entry_list_iadd' ?_⟩))
  show wpAny _ _ (Builtin.List.listExtendWith (.ref s.heap.objs.size) (.ref l) (.ref s.heap.objs.size)) _ _ { s with heap := s.heap.push (seqObj "list" #[] 0) }
  unfold Builtin.List.listExtendWith
  have ho' : (s.heap.push (seqObj "list" #[] 0)).get? l = some o := Heap.get?_push_of_some _ ho
  refine wpAny_bind (wpAny_typeOf (T := "tuple") ⟨o, ho', hc⟩ ?_)
  have ht : (Value.type "tuple" == Value.type "tuple") = true := by rfl
  rw [if_pos (by rw [ht]; simp)]
  refine wpAny_bind (listItems_at ho' hd ?_)
  refine wpAny_bind (listItems_at (xs := #[]) (n := 0) (Heap.get?_push_size _ rfl) rfl ?_)
  rw [if_neg (by simp)]
  refine wpAny_bind (listUpdate_at (xs := #[]) (n := 0) (Heap.get?_push_size _ rfl) rfl ?_ (Nat.zero_le _) (by show (#[] ++ vs.toArray).size ≤ sizeLine + 1; simp only [Array.size_append, List.size_toArray, List.length_nil]; omega))
  refine wpAny_pure ?_
  show wpAny (model prog w) A (do
      let o ← load s.heap.objs.size
      match o.data with
      | .seq xs _ => pure xs.toList
      | _ => unsupported "internal:collect") Q E { s with heap := (s.heap.push (seqObj "list" #[] 0)).update s.heap.objs.size (Obj.mapSeq (· ++ vs.toArray)) }
  refine wpAny_bind (wpAny_load (get?_update_seq (Heap.get?_push_size _ rfl) _) ?_)
  show wpAny _ _ (pure ((#[] : Array Value) ++ vs.toArray).toList) Q E _
  rw [show ((#[] : Array Value) ++ vs.toArray).toList = vs by simp]
  exact wpAny_pure h
theorem sorted_of {l : Addr} {vs : List Value} {kw : List (Str × Value)} {Q : Value → Shared → Prop} (hl : s.heap.IsList l vs.toArray ∨ IsTup s.heap l vs.toArray) (hL : vs.length ≤ sizeLine) (ha1 : argsOk "sorted" ⟨[.ref l], kw⟩) (ha2 : ∀ x, argsOk "list.sort" ⟨[.ref x], kw⟩)
    (body : ∀ E' : Value → Shared → Prop, wpAny (model prog w) A.in1.in1 (Builtin.«list.sort» ⟨[.ref (s.heap.objs.size + 1)], kw⟩) (fun f s' => f = .done (.ret .none) ∧ Q (.ref (s.heap.objs.size + 1)) s') E' { s with heap := copyHeap s.heap vs }) :
    wpAny (model prog w) A (call (.builtin "sorted") [.ref l] kw) Q E s := by
  refine call_function_entry_kw kind_sorted plain_sorted entry_sorted ha1 ?_
  unfold Builtin.«sorted»
  refine wpAny_bind (m := checkCount "sorted" 1 1 _) (wpAny_pure ?_)
  have cc : ∀ {Q' : List Value → Shared → Prop} {E' : Value → Shared → Prop}, Q' vs { s with heap := (s.heap.push (seqObj "list" #[] 0)).update s.heap.objs.size (Obj.mapSeq (· ++ vs.toArray)) } → wpAny (model prog w) A.in1 (collect (.ref l)) Q' E' s := fun q => by
    rcases hl with hl | hl
    · exact collect_list hl q hL
    · exact collect_tup hl q hL
  refine wpAny_bind (cc ?_)
  refine wpAny_bind (wpAny_newList ?_ hL)
  have hsz : ((s.heap.push (seqObj "list" #[] 0)).update s.heap.objs.size (Obj.mapSeq (· ++ vs.toArray))).objs.size = s.heap.objs.size + 1 := by
    rw [Heap.size_update, size_push']
  show wpAny _ _ _ _ _ { s with heap := copyHeap s.heap vs }
  rw [hsz]
  refine wpAny_bind (wpAny_holding (wpAny_call_entry_kw slot_list_sort ⟨_, copyHeap_at s.heap vs, rfl⟩ entry_list_sort ?body (ha2 _)))
  case body =>
    show wpAny (model prog w) A.in1.in1 (Builtin.«list.sort» ⟨[.ref (s.heap.objs.size + 1)], kw⟩) _ _ _
    refine wpAny_mono (body _) (fun f s' hf => ?_) fun _ _ e => e
    obtain ⟨rfl, hq⟩ := hf
    exact ⟨_, rfl, wpAny_pure ⟨_, rfl, hq⟩⟩
variable {β : Type} {R : Value → β → Prop} {enc : β → PyData} {vs : List Value} {bs : List β}
theorem sorted_any {l : Addr} {Q : Value → Shared → Prop} (hl : s.heap.IsList l vs.toArray ∨ IsTup s.heap l vs.toArray) (e : EachIs R vs bs) (er : EachIs (fun v b => ∃ as, Reads s.heap v (enc b) as) vs bs) (hal : AllAlike (bs.map enc)) (hk : ∀ d ∈ bs.map enc, d ≠ .none) (hL : bs.length ≤ sizeLine)
    (hu : ∀ b, b ∈ bs → A.units + 2 + (enc b).depth < cLine) (h : ∀ out, out.length = bs.length → EachIs R out (bs.mergeSort (dataLe false enc)) → Q (.ref (s.heap.objs.size + 1)) { s with heap := sortedAll s.heap vs (List.toArray out) }) :
    wpAny (model prog w) A (call (.builtin "sorted") [.ref l]) Q E s := by
  have er' : EachIs (fun v b => ∃ as, Reads (sortingHeap (copyHeap s.heap vs) (s.heap.objs.size + 1) vs) v (enc b) as) vs bs := er.mono fun _ _ ⟨as, r⟩ => ⟨as, PyProof.Rows.Reads.keeps (fun _ _ => sorting_copy_old) r⟩
  exact sorted_of hl (by rw [e.length]; exact hL) (args_sorted1 _) (fun _ => args_list_sort _) fun _ => list_sort_vals (s := { s with heap := copyHeap s.heap vs }) (copyHeap_at s.heap vs)
    (SortsAt.any (s := { s with heap := sortingHeap (copyHeap s.heap vs) (s.heap.objs.size + 1) vs }) (each_map (R := fun v d => ∃ as, Reads (sortingHeap (copyHeap s.heap vs) (s.heap.objs.size + 1) vs) v d as) enc er') hal hk (bound_map hu)) (by rw [e.length]; exact hL)
    ⟨rfl, h _ (by rw [sortVals_length false rfl]; exact e.length) (sortVals_data false e er' hal)⟩
end
end L2.PS
namespace L2.P
open PySem PySem.Spec PyProof.Rows L2
theorem depth_mem : ∀ {ps : List D} {p : D}, p ∈ ps → p.depth ≤ PyData.depthAll ps
  | x :: xs, p, h => by
    rw [PyData.depthAll]
    rcases List.mem_cons.mp h with rfl | h
    · exact Nat.le_max_left _ _
    · exact Nat.le_trans (depth_mem h) (Nat.le_max_right _ _)
def mgF {α : Type} (le : α → α → Bool) : Nat → List α → List α → List α
  | 0, _, _ => []
  | _ + 1, [], ys => ys
  | _ + 1, x :: xs, [] => x :: xs
  | k + 1, x :: xs, y :: ys => match le x y with
    | true => x :: mgF le k xs (y :: ys)
    | false => y :: mgF le k (x :: xs) ys
def msF {α : Type} (le : α → α → Bool) : Nat → List α → List α
  | 0, _ => []
  | _ + 1, [] => []
  | _ + 1, [a] => [a]
  | k + 1, a :: b :: xs => mgF le (xs.length + 3) (msF le k ((a :: b :: xs).take ((xs.length + 3) / 2))) (msF le k ((a :: b :: xs).drop ((xs.length + 3) / 2)))
theorem mgF_eq {α : Type} {le : α → α → Bool} : ∀ (k : Nat) (xs ys : List α), xs.length + ys.length < k → mgF le k xs ys = List.merge xs ys le
  | 0, _, _, h => absurd h (Nat.not_lt_zero _)
  | _ + 1, [], ys, _ => by simp [mgF]
  | _ + 1, x :: xs, [], _ => by simp [mgF]
  | k + 1, x :: xs, y :: ys, h => by
    simp only [List.length_cons] at h
    rw [List.cons_merge_cons]
    show (match le x y with | true => x :: mgF le k xs (y :: ys) | false => y :: mgF le k (x :: xs) ys) = _
    cases e : le x y with
    | true => rw [if_pos rfl]; exact congrArg _ (mgF_eq k xs (y :: ys) (by simp only [List.length_cons]; omega))
    | false => rw [if_neg (by simp)]; exact congrArg _ (mgF_eq k (x :: xs) ys (by simp only [List.length_cons]; omega))
theorem msF_eq {α : Type} {le : α → α → Bool} : ∀ (k : Nat) (xs : List α), xs.length < k → msF le k xs = xs.mergeSort le
  | 0, _, h => absurd h (Nat.not_lt_zero _)
  | _ + 1, [], _ => by simp [msF]
  | _ + 1, [a], _ => by simp [msF]
  | k + 1, a :: b :: xs, h => by
    simp only [List.length_cons] at h
    show mgF le _ (msF le k _) (msF le k _) = _
    have h1 : ((a :: b :: xs).take ((xs.length + 3) / 2)).length < k := by rw [List.length_take]; simp only [List.length_cons]; omega
    have h2 : ((a :: b :: xs).drop ((xs.length + 3) / 2)).length < k := by rw [List.length_drop]; simp only [List.length_cons]; omega
    rw [msF_eq k _ h1, msF_eq k _ h2, mgF_eq]
    · rw [List.mergeSort]
      simp only [List.MergeSort.Internal.splitInTwo_fst, List.MergeSort.Internal.splitInTwo_snd]
      have e : xs.length + 1 + 1 + 1 = xs.length + 3 := rfl
      simp only [List.length_cons, e]
    · rw [(List.mergeSort_perm _ _).length_eq, (List.mergeSort_perm _ _).length_eq, List.length_take, List.length_drop]
      simp only [List.length_cons]; omega
/-- a list in order -/
def sortP (ps : List D) : List D := msF (PySem.W.dataLe false id) (ps.length + 1) ps
theorem sortP_ms (ps : List D) : sortP ps = ps.mergeSort (PySem.W.dataLe false id) := msF_eq _ _ (Nat.lt_succ_self _)
def gSrt : List D → Option (List D)
  | [.list xs] => if okM xs = true then some (sortP xs) else none
  | [.tuple xs] => if okM xs = true then some (sortP xs) else none
  | _ => none
def rSort (K : Fg) : List V → Hp → VK → Prop := fun vs H Q => ∃ (a : Addr) (ys : List V) (ps : List D), vs = [.ref a] ∧ (SqL K H a ys ∨ SqT K H a ys) ∧ DpAll K H ys ps ∧ okM ps = true ∧ ∀ (bs : List (V × D)) (p : Addr), H p = none → bs.Perm (ys.zip ps) → bs.map (·.2) = sortP ps → Q (.ref p) (upd H p (.lst (bs.map (·.1))))
theorem each_zip {h : Heap} : ∀ {ys : List V} {its : List Value} {ps : List D}, Vals ys its → ys.length = ps.length → PySem.W.EachIs (fun (v : Value) (b : V × D) => RelV b.1 v) its (ys.zip ps)
  | _, _, [], .nil, _ => .nil
  | _, _, [], .cons _ _, h => by simp at h
  | _, _, _ :: _, .nil, h => by simp at h
  | _, _, _ :: _, .cons a r, h => .cons a (each_zip (h := ‹Heap›) r (by simpa using h))
theorem each_reads {h : Heap} : ∀ {ys : List V} {its : List Value} {ps : List D} {as : List Addr}, ReadsAll h its ps as → ys.length = ps.length → PySem.W.EachIs (fun (v : Value) (b : V × D) => ∃ as, Reads h v b.2 as) its (ys.zip ps)
  | [], _, _, _, .nil, _ => .nil
  | _ :: _, _, _, _, .nil, h => by simp at h
  | [], _, _, _, .cons _ _, h => by simp at h
  | _ :: _, _, _, _, .cons a r, h => .cons ⟨_, a⟩ (each_reads r (by simpa using h))
theorem vals_each : ∀ {out : List Value} {bs : List (V × D)}, PySem.W.EachIs (fun (v : Value) (b : V × D) => RelV b.1 v) out bs → Vals (bs.map (·.1)) out
  | _, _, .nil => .nil
  | _, _, .cons a r => .cons a (vals_each r)
theorem dpAll_zip {K : Fg} {F : Hp} : ∀ {ys : List V} {ps : List D}, DpAll K F ys ps → ∀ b ∈ ys.zip ps, Dp K F b.1 b.2
  | _, _, .nil, b, h => by simp at h
  | _, _, .cons a r, b, h => by
    rw [List.zip_cons_cons] at h
    rcases List.mem_cons.mp h with rfl | h
    · exact a
    · exact dpAll_zip r b h
theorem dpAll_of {K : Fg} {F : Hp} : ∀ {bs : List (V × D)}, (∀ b ∈ bs, Dp K F b.1 b.2) → DpAll K F (bs.map (·.1)) (bs.map (·.2))
  | [], _ => .nil
  | b :: bs, h => .cons (h b List.mem_cons_self) (dpAll_of fun c hc => h c (List.mem_cons_of_mem _ hc))
section
variable {X : Cx}
theorem cr_sort (hc : X.calm = true) (hu : Rm X) : CallR X (.builtin "sorted") (rSort X.K) := by
  intro pins s σ H vs us Q I r h
  obtain ⟨a, ys, ps, rfl, hs, hd, ok, q⟩ := h
  rw [Vals.ref1 r]
  obtain ⟨hpl, hdep⟩ := okDs_iff.mp (okM_oks ok)
  obtain ⟨its, rv, hl, hz⟩ : ∃ its : List Value, Vals ys its ∧ (s.heap.IsList a its.toArray ∨ IsTup s.heap a its.toArray) ∧ ys.length ≤ sizeLine := by
    rcases hs with hs | hs
    · obtain ⟨its, rv, hl, hz⟩ := I.list hs
      exact ⟨its, rv, .inl hl.isList, hz⟩
    · obtain ⟨its, rv, hl, hz⟩ := I.tuple hs
      exact ⟨its, rv, .inr hl, hz⟩
  obtain ⟨as, hr⟩ := Dp.readsAll I _ ys its hd hpl rv
  have hlen := hd.length
  have e2 : (ys.zip ps).map (·.2) = ps := List.map_snd_zip (by omega)
  have hal := okM_alike ok
  refine PS.sorted_any (R := fun (v : Value) (b : V × D) => RelV b.1 v) (enc := fun b : V × D => b.2) (bs := ys.zip ps) hl (each_zip (h := s.heap) rv hlen) (each_reads hr hlen) ?_ ?_ ?_ ?_ fun out ho hout => ?_
  · rw [e2]; exact hal.1
  · rw [e2]; exact hal.2
  · rw [List.length_zip]; omega
  · intro b hb
    have hb2 : b.2 ∈ ps := by rw [← e2]; exact List.mem_map_of_mem hb
    have := depth_mem hb2
    unfold Rm at hu
    omega
  · obtain ⟨e, he⟩ := sortedAll_at s.heap its (List.toArray out)
    have hperm := List.mergeSort_perm (ys.zip ps) (PySem.W.dataLe false fun b : V × D => b.2)
    have hv := vals_each hout
    have hsz : (List.map (·.1) ((ys.zip ps).mergeSort (PySem.W.dataLe false fun b : V × D => b.2))).length ≤ sizeLine := by
      rw [List.length_map, hperm.length_eq, List.length_zip]; omega
    refine ⟨.ref (s.heap.objs.size + 1), upd H (s.heap.objs.size + 1) (.lst (List.map (·.1) ((ys.zip ps).mergeSort (PySem.W.dataLe false fun b : V × D => b.2)))), I.laid (t' := s.toks) (fun b o hb => sortedAll_old hb) (Nat.le_succ _) ⟨hsz, out, e, hv, he⟩, rfl, q _ _ (I.hok.fresh (Nat.le_succ _)) hperm ?_⟩
    rw [sortP_ms]
    have z := List.map_mergeSort (f := fun b : V × D => b.2) (r := PySem.W.dataLe false fun b : V × D => b.2) (s := PySem.W.dataLe false id) (l := ys.zip ps) (fun a _ b _ => rfl)
    rw [z, e2]
theorem cn_sort (hc : X.calm = true) (hu : Rm X) : CallN X (.builtin "sorted") gSrt := ⟨_, cr_sort hc hu, fun B F H σ ρ vs ps zs Q R d e k => by
  have key : ∀ (p : D) (xs : List D), ps = [p] → items p = some xs → okM xs = true → zs = sortP xs → rSort X.K vs H Q := fun p xs e1 e2 ok e3 => by
    subst e1 e3
    obtain ⟨v, rfl, h⟩ := pk1 d
    obtain ⟨a, ys, rfl, r, q⟩ := pk_items R h e2
    refine ⟨a, ys, xs, rfl, sq_of R.sub q, r.same R.sub, ok, fun bs p hp hb hs => ?_⟩
    have := dpAll_of (K := X.K) (F := F) (bs := bs) fun b hb' => dpAll_zip r b (hb.mem_iff.mp hb')
    rw [hs] at this
    exact k F H p _ R (Same.refl _) hp this
  unfold gSrt at e
  split at e
  · split at e
    · exact key _ _ rfl rfl (by assumption) (Option.some.inj e).symm
    · cases e
  · split at e
    · exact key _ _ rfl rfl (by assumption) (Option.some.inj e).symm
    · cases e
  · cases e⟩
variable {a : Expr} {p pos : Pos}
theorem n_sorted {f : Rho → Option (List D)} (B : Bi X.mg) (hu : Rm X) (h : XAF X [a] f) (hc : X.calm = true := by rfl) (hg : Gl X "sorted" := by rfl) (he : starEach [a] X.env = (false, eval a X.env) :: starEach [] X.env := by rfl) : NF X (.Call (.Name "sorted" p) [a] [] pos) (aOf gSrt f) :=
  NW.f (nw_callB (cn_sort hc hu) h hg B.sorted bt_sorted (he := he) (hpl := rfl))
end
end L2.P
namespace L2.P
open PySem PySem.Spec PyProof.Rows L2
theorem wq_no {t : Rho → Option Bool} {a : Rho → Option Fl} {U : TSt} {ρ : Rho} {K : Fl → Prop} (h : t ρ = some false) (k : U ρ K) : wSeq (fW (sIf t a sNil)) U ρ K := ⟨.nx ρ, by rw [e_sIf, h]; rfl, k⟩
end L2.P


set_option Elab.async false
set_option linter.all false
set_option maxRecDepth 100000
set_option maxHeartbeats 4000000
namespace L2.P
open PySem PySem.Spec PyProof.Rows L2
section
variable {K : Fg} {B : Bs} {F F' H H' : Hp} {σ σ' : St} {ρ ρ' : Rho} {a : Addr} {o : HO} {i : Nat} {ps : List D} {xs : List V}
/-- the own list of slot i is held still -/
theorem Rs.hold (R : Rs K B F H σ ρ) (hi : ρ[i]? = some (.ol ps)) (hσ : σ[i]? = some (some (.ref a))) (hH : H a = some (.lst xs)) : Rs K (B.pin a (.lst xs)) F H σ (ρ.set i .no) := by
  obtain ⟨a', xs', e, f, h0, h1, r⟩ := R.own hi
  rw [hσ] at e; cases e
  have far : ∀ (j : Nat) (s : Sl) (c : Addr), j ≠ i → ρ[j]? = some s → s.owns = true → σ[j]? = some (some (.ref c)) → c ≠ a := fun j s c hj hs ho hc e => by
    subst e
    exact R.apart j i c s _ hj hs hi ho rfl hc hσ
  refine ⟨R.sub, R.ext, fun b g1 g2 => ?_, fun b x hb e => ?_, R.hrow, fun r h => ?_, by rw [List.length_set]; exact R.len, fun j s hs => ?_, fun j k c s t hjk h1' h2' o1 o2 e1 e2 => ?_, R.tb, fun p hp => ?_⟩
  rotate_right
  · obtain ⟨ps9, q9⟩ := R.tbh p hp
    exact ⟨ps9, by show (upd B.Ha a (.lst xs)) p.1 = _; rw [upd_ne (R.tb.ne hH (not_te rfl) p hp)]; exact q9⟩
  · have ne : b ≠ a := fun e => by subst e; exact g2 f
    show Fz ((upd B.Ha a _) b)
    rw [upd_ne ne]; exact R.new b g1 g2
  · have e' : (upd B.Ha a (.lst xs)) b = some x := e
    by_cases q : b = a
    · subst q
      rw [upd_same] at e'
      rw [hH]; exact e'
    · rw [upd_ne q] at e'; exact R.old b x hb e'
  · show (upd B.Ha a (.lst xs)) r ≠ none
    by_cases e : r = a
    · subst e; rw [upd_same]; simp
    · rw [upd_ne e]; exact R.hr2 r h
  · rcases set_some hs with ⟨rfl, hl, rfl⟩ | ⟨ne, hs⟩
    · exact .no
    · have q := R.at_ j s hs
      generalize hx : σ[j]? = x at q
      cases q with
      | no => exact .no
      | v r => exact .v r
      | @ol c xs ps f h0 h1 r =>
        refine .ol f ?_ h1 r
        show (upd B.Ha a _) c = none
        rw [upd_ne (far j _ c (fun e => ne e.symm) hs rfl hx)]; exact h0
      | @row c _ f h0 h1 =>
        refine .row f ?_ h1
        rcases h0 with h0 | h0
        · refine .inl ?_
          show (upd B.Ha a _) c = none
          rw [upd_ne (far j _ c (fun e => ne e.symm) hs rfl hx)]; exact h0
        · exact .inr h0
      | @od t c kvs f h0 h1 =>
        refine .od f ?_ h1
        show (upd B.Ha a _) c = none
        rw [upd_ne (far j _ c (fun e => ne e.symm) hs rfl hx)]; exact h0
  · rcases set_some h1' with ⟨rfl, hl, rfl⟩ | ⟨ne, h1'⟩
    · cases o1
    · rcases set_some h2' with ⟨rfl, hl, rfl⟩ | ⟨ne2, h2'⟩
      · cases o2
      · exact R.apart j k c s t hjk h1' h2' o1 o2 e1 e2
/-- .. and given back -/
theorem Rs.unhold (R : Rs K (B.pin a (.lst xs)) F H σ (ρ.set i .no)) (hi : ρ[i]? = some (.ol ps)) (hσ : σ[i]? = some (some (.ref a))) (hr : B.r ≠ some a) (hF : B.Fa a = none) (hH : B.Ha a = none) (d : DpAll K F xs ps) : Rs K B F H σ ρ := by
  obtain ⟨p1, p2⟩ := R.pinned hr hF
  have U := R.unpin hr hF hH
  have ne_of : ∀ (j : Nat) (s : Sl) (c : Addr), j ≠ i → ρ[j]? = some s → s.owns = true → σ[j]? = some (some (.ref c)) → c ≠ a := fun j s c hj hs ho hc e => by
    subst e
    have q := R.at_ j s (by rw [List.getElem?_set_ne (fun z => hj z.symm)]; exact hs)
    rw [hc] at q
    cases q with
    | no => cases ho
    | v r => cases ho
    | ol f h0 h1 r =>
      have z : (upd B.Ha c (.lst xs)) c = none := h0
      rw [upd_same] at z; cases z
    | row f h0 h1 =>
      rcases h0 with h0 | h0
      · have z : (upd B.Ha c (.lst xs)) c = none := h0
        rw [upd_same] at z; cases z
      · exact hr h0.1
    | od f h0 h1 =>
      have z : (upd B.Ha c (.lst xs)) c = none := h0
      rw [upd_same] at z; cases z
  refine ⟨U.sub, U.ext, U.new, U.old, U.hrow, U.hr2, by have := U.len; rw [List.length_set] at this; exact this, fun j s hs => ?_, fun j k c s t hjk h1' h2' o1 o2 e1 e2 => ?_, U.tb, U.tbh⟩
  · by_cases e : j = i
    · subst e
      rw [hi] at hs; cases hs
      rw [hσ]
      exact .ol p2 hH p1 d
    · exact U.at_ j s (by rw [List.getElem?_set_ne (fun z => e z.symm)]; exact hs)
  · by_cases e : j = i
    · subst e
      rw [hσ] at e1; cases e1
      exact ne_of k t a (fun z => hjk z.symm) h2' o2 e2 rfl
    · by_cases e' : k = i
      · subst e'
        rw [hσ] at e2; cases e2
        exact ne_of j s a e h1' o1 e1 rfl
      · exact U.apart j k c s t hjk (by rw [List.getElem?_set_ne (fun z => e z.symm)]; exact h1') (by rw [List.getElem?_set_ne (fun z => e' z.symm)]; exact h2') o1 o2 e1 e2
end
/-- what is walked, where P holds of the heap at each turn -/
structure WlkP (K : Fg) (F : Hp) (P : Hp → Prop) (J : It) (ps : List D) : Prop where
  go : ∀ i H, i < ps.length → P H → J.go i H
  stop : ∀ H, P H → J.stop ps.length H
  yld : ∀ i H x H', i < ps.length → P H → J.yld i H x H' → ∃ p, ps[i]? = some p ∧ Yl K F H H' x p
theorem wlkP_list {K : Fg} {F : Hp} {a : Addr} {xs : List V} {ps : List D} (d : DpAll K F xs ps) : WlkP K F (fun H => H a = some (.lst xs)) (Itl K a) ps where
  go := fun i H hi e => by
    have hl := d.length
    exact ⟨xs, xs[i], .inl (.inl e), by simp⟩
  stop := fun H e => ⟨xs, .inl (.inl e), by rw [d.length]; exact Nat.le_refl _⟩
  yld := fun i H x H' hi e ⟨y1, y2⟩ => by
    obtain ⟨p, hp, dp⟩ := d.getV (y2 xs (.inl (.inl e)))
    exact ⟨p, hp, .inl ⟨y1, dp⟩⟩
theorem lc_walkP {K : Fg} {is : List Nat} {g : Tg} {T : TB} {E : TW} {B : Bs} {F1 : Hp} {P : Hp → Prop} {D : Addr} {σ : St} {ρ : Rho} {ps : List PyData} {Kc : List PyData → Prop} {J : It} {Qd : Hp → Prop} {H1 : Hp} {ad : List PyData}
    (mt : ∀ ρ K K', (∀ p, K p → K' p) → T ρ K → T ρ K') (me : ∀ ρ K K', (∀ p, K p → K' p) → E ρ K → E ρ K') (hr : B.r ≠ some D) (hF : B.Fa D = none) (no : noOwn ρ is = true) (wk : WlkP K F1 P J ps) (hP : ∀ F H acc, Rs K (B.pin D (.lst acc)) F H σ ρ → P H)
    (h : LcInv K B F1 D σ ρ (fun ad => lcW is g T E ρ ps ad Kc) H1) (hd : ∀ H, LcInv K B F1 D σ ρ Kc H → Qd H) :
    ∃ W : Nat → Nat → Hp → Prop, (∃ m, W 0 m H1) ∧ ∀ i m H, W i m H →
      (J.stop i H ∧ Qd H) ∨ (J.go i H ∧ ∃ Nx : Hp → Prop, (∀ H', Nx H' → ∃ m', m' < m ∧ W (i + 1) m' H') ∧ ∀ x H', J.yld i H x H' → tG K g is x (L2.wipe σ is) H' fun σ2 H2 => L2.wipe σ2 is = L2.wipe σ is ∧ tT K T σ2 H2 fun b H3 =>
        if b = true then tW K E σ2 H3 fun y H4 => ∃ acc, H4 D = some (.lst acc) ∧ acc.length < sizeLine ∧ Nx (upd H4 D (.lst (acc ++ [y]))) else Nx H3) := by
  refine ⟨fun i m H => m = ps.length - i ∧ i ≤ ps.length ∧ LcInv K B F1 D σ ρ (fun ad => lcW is g T E ρ (ps.drop i) ad Kc) H, ⟨ps.length, by simp, Nat.zero_le _, h⟩, ?_⟩
  rintro i m H ⟨rfl, hi, F, acc, ad, R, s, d, q⟩
  have sH : P H := hP F H acc R
  by_cases hlt : i < ps.length
  · refine .inr ⟨wk.go i H hlt sH, fun H' => LcInv K B F1 D σ ρ (fun ad => lcW is g T E ρ (ps.drop (i + 1)) ad Kc) H', fun H' n => ⟨ps.length - (i + 1), by omega, rfl, hlt, n⟩, fun x H' hy => ?_⟩
    obtain ⟨p, hp, y⟩ := wk.yld i H x H' hlt sH hy
    have e0 : ps.drop i = p :: ps.drop (i + 1) := by
      rw [List.drop_eq_getElem_cons hlt]
      obtain ⟨_, e⟩ := List.getElem?_eq_some_iff.mp hp
      rw [e]
    rw [e0] at q
    obtain ⟨ρ', eg, q⟩ := q
    obtain ⟨F2, R2, s2, d2⟩ := yl_step (R.wipe is) s y
    refine ⟨_, F2, _, p, ρ', R2, d2, eg, fun σ' R3 hl hσ hρ => ⟨?_, ?_⟩⟩
    · have := wipe_eq (is := is) hl hσ
      rw [this]
      exact wipe_eq (wipe_length _ _) fun j hj => wipe_out hj
    · have hσ' : ∀ j, j ∉ is → σ'[j]? = σ[j]? := fun j hj => (hσ j hj).trans (wipe_out hj)
      have hρ' : ∀ j, j ∉ is → ρ'[j]? = ρ[j]? := fun j hj => (hρ j hj).trans (wipeR_out hj)
      refine ⟨_, F2, ρ', R3, mt _ _ _ (fun b k F3 H3 R4 s4 => ?_) q⟩
      cases b with
      | false => exact ⟨F3, acc, ad, R.back R4 (s2.trans s4) no hσ' hρ', (s.trans s2).trans s4, (d.same s2).same s4, k⟩
      | true =>
        refine ⟨_, F3, ρ', R4, me _ _ _ (fun z k2 F4 H4 v R5 s5 d5 => ?_) k⟩
        have s25 : Same F F4 := (s2.trans s4).trans s5
        have hacc : acc.length = ad.length := d.length
        refine ⟨acc, (R5.pinned hr hF).1, by rw [hacc]; exact k2.1, F4, acc ++ [v], ad ++ [z], (R.back R5 s25 no hσ' hρ').repin hr hF _, s.trans s25, (d.same s25).append (.cons d5 .nil), k2.2⟩
  · have e : i = ps.length := by omega
    subst e
    refine .inl ⟨wk.stop H sH, hd H ⟨F, acc, ad, R, s, d, ?_⟩⟩
    rw [List.drop_length] at q
    exact q
section
variable {X : Cx} {elt tg : Expr} {ifs : List Expr} {scope : Scope} {own : List (Str × Nat)} {pos : Pos} {g : Tg} {T : TB} {E : TW}
def wLcO (i : Nat) (is : List Nat) (g : Tg) (T : TB) (E : TW) : TL := fun ρ K => ∃ ps, ρ[i]? = some (.ol ps) ∧ noOwn (ρ.set i .no) is = true ∧ lcV is g T E (ρ.set i .no) ps [] K
theorem lc_convO {K : Fg} {i : Nat} {is : List Nat} (mt : ∀ ρ K K', (∀ p, K p → K' p) → T ρ K → T ρ K') (me : ∀ ρ K K', (∀ p, K p → K' p) → E ρ K → E ρ K')
    {σ : St} {H : Hp} {Q : VK} (h : tN K (wLcO i is g T E) σ H Q) : tLc (iSeq K fun σ H Q => tVar i σ H fun v H' => LenOk K H' → Q v H') (tG K g is) (tT K T) (tW K E) is σ H Q := by
  obtain ⟨B, F, ρ, R, ps, ei, no, q⟩ := h
  obtain ⟨a, xs, hσ, f, h0, h1, r⟩ := R.own ei
  have hra : B.r ≠ some a := fun e => R.hr2 a e h0
  have hFa : B.Fa a = none := R.ext.free f
  refine ⟨.ref a, hσ, fun hL => ⟨a, rfl, .inl ⟨⟨xs, .inl (.inl h1)⟩, fun D hD => ?_⟩⟩⟩
  have R1 := R.hold ei hσ h1
  obtain ⟨p1, p2, p3⟩ := R1.fresh hD
  have hF : (B.pin a (.lst xs)).Fa D = none := R1.ext.free p2
  have neD : a ≠ D := ne_of_none h1 hD
  have hz : ps.length ≤ sizeLine := by rw [← r.length]; exact hL a xs (.inl (.inl (.inl h1)))
  refine lc_walkP (Kc := fun ps => ∀ F' H' a xs, Rs K B F' H' σ ρ → Same F F' → H' a = none → DpAll K F' xs ps → Q (.ref a) (upd H' a (.lst xs))) (ad := []) mt me p3 hF no (wlkP_list r) (fun F' H' acc R' => ?_)
    ⟨F, [], [], R1.pin hD _, Same.refl _, .nil, lcV_W mt me ps [] _ (by simpa using hz) q⟩ fun H2 ⟨F2, acc, ad, R2, s2, d2, k2⟩ => ?_
  · refine R'.old a _ ⟨fun z => hra z.symm, R.tb.ne h1 (not_te rfl)⟩ ?_
    show (upd (upd B.Ha a (.lst xs)) D _) a = _
    rw [upd_ne neD, upd_same]
  · have e := upd_minus (R2.pinned p3 hF).1
    rw [← e]
    exact k2 F2 _ D acc ((R2.minus p3 hF p1).unhold ei hσ hra hFa h0 (r.same s2)) s2 (minusH_same _ _) d2
/-- [.. for .. in x ..], x a list of this def's own -/
theorem nw_lcO {i : Nat} {x : Str} {px : Pos} (hc : X.calm = true) (hN : X.N.Nodup) (hx : X.N[i]? = some x) (hv : Vis X.env.scope x) (ok : BlkOk X.N X.env.scope scope own)
    (hg : ∀ (s : Shared) (H : Hp) (C : Addr) (cl : List (Str × Addr)) (fp : List Addr), GW (X.blk s H scope (compEnvC scope cl C X.env) fp) tg g (own.map (·.2)))
    (ht : ∀ (s : Shared) (H : Hp) (C : Addr) (cl : List (Str × Addr)) (fp : List Addr), TsW (X.blk s H scope (compEnvC scope cl C X.env) fp) ifs T)
    (he : ∀ (s : Shared) (H : Hp) (C : Addr) (cl : List (Str × Addr)) (fp : List Addr), EW (X.blk s H scope (compEnvC scope cl C X.env) fp) elt E)
    (s0 : Shared) (hd : (x == ("__debug__" : Str)) = false := by decide) (hcd : (x == ("__classdict__" : Str)) = false := by decide) (hs : ∀ z, foldedSetIterable (.Name x px) X.env z = pure z := by intro _; rfl) : NW X (.ListComp elt [⟨tg, .Name x px, ifs, 0⟩] scope pos) (wLcO i (own.map (·.2)) g T E) := by
  have mt := (ht s0 (fun _ => none) 0 [] []).mono
  have me := (he s0 (fun _ => none) 0 [] []).mono
  exact ⟨fun ρ K K' h ⟨ps, e, n, q⟩ => ⟨ps, e, n, lcV_mono mt me ps _ K K' h q⟩, (pe_lc (g := tG X.K g (List.map (fun (z : Str × Nat) => z.2) own)) (tt := tT X.K T) (te := tW X.K E) hc hN (pi_seq (PE.lens (pe_var hx hv hd hcd))) ok hg (fun s H C cl fp => (ht s H C cl fp).pts) (fun s H C cl fp => (he s H C cl fp).pe) hs).imp fun σ H Q h => lc_convO mt me h⟩
def cLcO (i : Nat) (is : List Nat) (g : Tg) (t : Rho → Option Bool) (f : Rho → Option D) : Rho → Option (List D) := fun ρ => match ρ[i]? with
  | some (.ol ps) => if noOwn (ρ.set i .no) is = true then lcF is g t f (ρ.set i .no) ps else none
  | _ => none
theorem NW.lcO {e : Expr} {i : Nat} {is : List Nat} {t : Rho → Option Bool} {f : Rho → Option D} (h : NW X e (wLcO i is g (fW t) (fW f))) : NF X e (cLcO i is g t f) := h.imp fW_mono fun ρ K ⟨out, e, k⟩ => by
  unfold cLcO at e
  split at e
  · rename_i ps hp
    split at e
    · rename_i no
      exact ⟨ps, hp, no, lcF_V ps [] out K e k⟩
    · cases e
  · cases e
theorem cLcO_map {α : Type} (xs : List α) (enc : α → D) (P : α → Bool) (E : α → D) {i : Nat} {is : List Nat} {t : Rho → Option Bool} {f : Rho → Option D} {ρ : Rho} (hu : ρ[i]? = some (.ol (xs.map enc))) (no : noOwn (ρ.set i .no) is = true)
    (h : ∀ x ∈ xs, ∃ ρ', g (enc x) (wipeR (ρ.set i .no) is) = some ρ' ∧ t ρ' = some (P x) ∧ (P x = true → f ρ' = some (E x))) : cLcO i is g t f ρ = some ((xs.filter P).map E) := by
  unfold cLcO
  rw [hu]
  show (if _ then _ else _) = _
  rw [if_pos no]
  exact lcF_map xs h
variable {e : Expr}
def wExt (i : Nat) (T : TL) : TSt := fun ρ K => ∃ ps, ρ[i]? = some (.ol ps) ∧ T ρ fun zs => ps.length + zs.length ≤ sizeLine ∧ K (.nx (ρ.set i (.ol (ps ++ zs))))
def sExt (i : Nat) (f : Rho → Option (List D)) : Rho → Option Fl := fun ρ => match ρ[i]? with
  | some (.ol ps) => (f ρ).bind fun zs => if ps.length + zs.length ≤ sizeLine then some (.nx (ρ.set i (.ol (ps ++ zs)))) else none
  | _ => none
theorem sw_ext {i : Nat} {x : Str} {T : TL} {p1 p2 p3 : Pos} (hN : X.N[i]? = some x) (hv : Vis X.env.scope x) (h : NW X e T) (hd : (x == ("__debug__" : Str)) = false := by decide) (hcd : (x == ("__classdict__" : Str)) = false := by decide)
    (hbase : attributeBase (.Name x p1) "extend" X.env (eval (.Name x p1) X.env) = eval (.Name x p1) X.env := by rfl)
    (hfew : ((backTo p3 (starEach [e] X.env)).all (fun x => !x.1) && (backToKw p3 (keywordEach [] X.env)).all (fun x => x.1.isSome) && decide (([e] : List Expr).length + ([] : List Keyword).length + (if ([] : List Keyword).isEmpty then 0 else 1) < 30)) = true := by rfl)
    (hline : (p2.endLine == p3.line) = true := by rfl) (hs : starEach [e] X.env = (false, eval e X.env) :: starEach [] X.env := by rfl) (hs2 : swapsWith (.Call (.Attribute (.Name x p1) "extend" p2) [e] [] p3) none pos.line X.env = pure false := by rfl) :
    SW X (.Expr (.Call (.Attribute (.Name x p1) "extend" p2) [e] [] p3) pos) (wExt i T) :=
  ⟨fun ρ K K' k ⟨ps, e1, q⟩ => ⟨ps, e1, h.mono _ _ _ (fun p z => ⟨z.1, k _ z.2⟩) q⟩,
    (ps_expr (pe_bm PySem.F.plainAttrs_list PySem.F.slot_list_extend PySem.F.type_list_extend mt_extend (pe_var hN hv hd hcd) (pa_cons h.pe pa_nil hs) hbase hfew hline hs rfl) hs2).imp fun En σ H ⟨B, F, ρ, R, ps, ei, q⟩ => by
      obtain ⟨a, xs, hσ, f, h0, h1, r⟩ := R.own ei
      refine ⟨.ref a, hσ, .inl ⟨rfl, xs, .inl (.inl h1)⟩, B, F, ρ, R, h.mono _ _ _ (fun zs k F' H' b ys R' s nb d => ?_) q⟩
      have R2 := R'.lay nb (o := .lst ys)
      obtain ⟨a', xs', hσ', f', h0', h1', r'⟩ := R2.own ei
      rw [hσ] at hσ'; cases hσ'
      have hl := r'.length
      have hl2 := d.length
      exact ⟨a, b, xs', ys, rfl, rfl, h1', upd_same, by rw [hl, hl2]; exact k.1, k.2 F' _ σ (R2.setO ei hσ h1' (r'.append d)) s⟩⟩
theorem sf_ext {i : Nat} {x : Str} {fe : Rho → Option (List D)} {p1 p2 p3 : Pos} (hN : X.N[i]? = some x) (hv : Vis X.env.scope x) (h : NF X e fe) (hd : (x == ("__debug__" : Str)) = false := by decide) (hcd : (x == ("__classdict__" : Str)) = false := by decide)
    (hbase : attributeBase (.Name x p1) "extend" X.env (eval (.Name x p1) X.env) = eval (.Name x p1) X.env := by rfl)
    (hfew : ((backTo p3 (starEach [e] X.env)).all (fun x => !x.1) && (backToKw p3 (keywordEach [] X.env)).all (fun x => x.1.isSome) && decide (([e] : List Expr).length + ([] : List Keyword).length + (if ([] : List Keyword).isEmpty then 0 else 1) < 30)) = true := by rfl)
    (hline : (p2.endLine == p3.line) = true := by rfl) (hs : starEach [e] X.env = (false, eval e X.env) :: starEach [] X.env := by rfl) (hs2 : swapsWith (.Call (.Attribute (.Name x p1) "extend" p2) [e] [] p3) none pos.line X.env = pure false := by rfl) :
    SF X (.Expr (.Call (.Attribute (.Name x p1) "extend" p2) [e] [] p3) pos) (sExt i fe) := (sw_ext hN hv h hd hcd hbase hfew hline hs hs2).imp fW_mono fun ρ K ⟨p, e, k⟩ => by
  unfold sExt at e
  split at e
  · rename_i ps hp
    obtain ⟨z, e1, e2⟩ := Option.bind_eq_some_iff.mp e
    split at e2
    · cases e2
      exact ⟨ps, hp, z, e1, by assumption, k⟩
    · cases e2
  · cases e
theorem e_sExt {i : Nat} {f : Rho → Option (List D)} {ρ : Rho} {ps zs : List D} (h : ρ[i]? = some (.ol ps)) (e : f ρ = some zs) (hl : ps.length + zs.length ≤ sizeLine) : sExt i f ρ = some (.nx (ρ.set i (.ol (ps ++ zs)))) := by
  unfold sExt
  rw [h]
  show ((f ρ).bind _) = _
  rw [e, Option.bind_some, if_pos hl]
def wStar (T : TW) (U : TL) : TL := fun ρ K => T ρ fun p => ∃ xs, items p = some xs ∧ U ρ fun ys => K (xs ++ ys)
theorem ea_star {T : TW} {U : TL} {es : List Expr} {p : Pos} (ha : EW X e T) (hr : EA X es U) (hs : starEach (.Starred e p :: es) X.env = (true, eval e X.env) :: starEach es X.env := by rfl) : EA X (.Starred e p :: es) (wStar T U) :=
  ⟨fun ρ K K' h q => ha.mono _ _ _ (fun x ⟨xs, e, k⟩ => ⟨xs, e, hr.mono _ _ _ (fun ys => h _) k⟩) q, PA.imp (StX.pa_star ha.pe hr.pa hs) fun σ H Q ⟨B, F, ρ, R, q⟩ => ⟨B, F, ρ, R, ha.mono _ _ _ (fun x ⟨xs, ex, k⟩ F1 H1 v R1 e1 d1 => by
    have key : ∃ a vs, v = .ref a ∧ (SqT X.K F1 a vs ∨ SqL X.K F1 a vs) ∧ DpAll X.K F1 vs xs := by
      unfold items at ex
      split at ex
      · cases ex
        obtain ⟨a, vs, rfl, s, r⟩ := Dp.inv_lst d1
        exact ⟨a, vs, rfl, .inr s, r⟩
      · cases ex
        obtain ⟨a, vs, rfl, s, r⟩ := Dp.inv_tup d1
        exact ⟨a, vs, rfl, .inl s, r⟩
      · cases ex
    obtain ⟨a, vs, rfl, s, r⟩ := key
    refine ⟨a, vs, rfl, ?_, B, F1, ρ, R1, hr.mono _ _ _ (fun ys k2 F2 H2 ws R2 e2 d2 => k2 F2 H2 _ R2 (e1.trans e2) ((r.same e2).append d2)) k⟩
    rcases s with s | s
    · exact .inl (sqT_same R1.sub s)
    · exact .inr (sqL_same R1.sub s)) q⟩⟩
def vTupS (f : Rho → Option (List D)) : Rho → Option D := fun ρ => (f ρ).bind fun ps => if ps.length ≤ sizeLine then some (.tuple ps) else none
theorem ef_tupS {f : Rho → Option (List D)} {es : List Expr} {x1} (h : EAF X es f) : EF X (.Tuple es x1 pos) (vTupS f) :=
  ⟨fW_mono, (pe_tup h.pa).imp fun σ H Q ⟨B, F, ρ, R, p, e, q⟩ => by
    obtain ⟨ps, e1, e2⟩ := Option.bind_eq_some_iff.mp e
    split at e2
    · rename_i hl
      cases e2
      refine ⟨B, F, ρ, R, ps, e1, fun F1 H1 vs R1 s1 d1 => ⟨by rw [d1.length]; exact hl, fun p hp => ?_⟩⟩
      have n' := R1.sub.free hp
      exact q _ _ _ (R1.grow hp) (s1.trans (same_upd n')) (.tup upd_same (d1.same (same_upd n')))
    · cases e2⟩
def fStar (f : Rho → Option D) (g : Rho → Option (List D)) : Rho → Option (List D) := fun ρ => (f ρ).bind fun p => (items p).bind fun xs => (g ρ).map fun ys => xs ++ ys
theorem ea_starF {f : Rho → Option D} {gs : Rho → Option (List D)} {es : List Expr} {p : Pos} (ha : EF X e f) (hr : EAF X es gs) (hs : starEach (.Starred e p :: es) X.env = (true, eval e X.env) :: starEach es X.env := by rfl) : EAF X (.Starred e p :: es) (fStar f gs) :=
  (ea_star ha hr hs).imp fW_mono fun ρ K ⟨z, e, k⟩ => by
    obtain ⟨p, e1, e⟩ := Option.bind_eq_some_iff.mp e
    obtain ⟨xs, e2, e⟩ := Option.bind_eq_some_iff.mp e
    obtain ⟨ys, e3, rfl⟩ := Option.map_eq_some_iff.mp e
    exact ⟨p, e1, xs, e2, ys, e3, k⟩
@[simp] theorem e_vTupS (f : Rho → Option (List D)) (ρ : Rho) : vTupS f ρ = (f ρ).bind fun ps => if ps.length ≤ sizeLine then some (.tuple ps) else none := rfl
@[simp] theorem e_fStar (f : Rho → Option D) (g : Rho → Option (List D)) (ρ : Rho) : fStar f g ρ = (f ρ).bind fun p => (items p).bind fun xs => (g ρ).map fun ys => xs ++ ys := rfl
end
end L2.P


set_option Elab.async false
set_option linter.all false
set_option maxRecDepth 100000
set_option maxHeartbeats 4000000
namespace L2.P
open PySem PySem.Spec PyProof.Rows L2
theorem s_ext {i : Nat} {es : Rho → Option (List D)} {ρ : Rho} {K : Fl → Prop} {ps : List D} (zs : List D) (hi : ρ[i]? = some (.ol ps)) (h : es ρ = some zs) (hl : ps.length + zs.length ≤ sizeLine) (k : K (.nx (ρ.set i (.ol (ps ++ zs))))) : fW (sExt i es) ρ K := ⟨_, e_sExt hi h hl, k⟩
def chM (ps : List Int) : List (List Int) := ps.foldl (fun acc p => acc ++ acc.map (· ++ [p])) [[]]
theorem chM_snoc (ps : List Int) (p : Int) : chM (ps ++ [p]) = chM ps ++ (chM ps).map (· ++ [p]) := by unfold chM; rw [List.foldl_append]; rfl
theorem sub_snoc {α : Type} {r l : List α} {p : α} : r.Sublist (l ++ [p]) ↔ r.Sublist l ∨ ∃ s, r = s ++ [p] ∧ s.Sublist l := by
  rw [List.sublist_append_iff]
  constructor
  · rintro ⟨a, b, rfl, ha, hb⟩
    cases hb with
    | cons _ h =>
      cases h
      rw [List.append_nil]; exact .inl ha
    | cons_cons _ h =>
      cases h
      exact .inr ⟨a, rfl, ha⟩
  · rintro (h | ⟨s, rfl, h⟩)
    · exact ⟨r, [], by simp, h, List.nil_sublist _⟩
    · exact ⟨s, [p], rfl, h, List.Sublist.refl _⟩
theorem snoc_ind {α : Type} {P : List α → Prop} (h0 : P []) (h1 : ∀ l x, P l → P (l ++ [x])) : ∀ l, P l := fun l => by
  have : ∀ n (l : List α), l.length = n → P l := fun n => by
    induction n with
    | zero => intro l hl; rw [List.length_eq_zero_iff.mp hl]; exact h0
    | succ n ih =>
      intro l hl
      have hne : l ≠ [] := fun e => by rw [e] at hl; cases hl
      rw [← List.dropLast_concat_getLast hne]
      exact h1 _ _ (ih _ (by rw [List.length_dropLast]; omega))
  exact this _ l rfl
theorem mem_chM {r : List Int} : ∀ {ps : List Int}, r ∈ chM ps ↔ r.Sublist ps := fun {ps} => by
  revert r
  refine snoc_ind (P := fun ps => ∀ {r : List Int}, r ∈ chM ps ↔ r.Sublist ps) (fun {r} => ?_) (fun l x ih {r} => ?_) ps
  · show r ∈ [[]] ↔ _
    rw [List.mem_singleton, List.sublist_nil]
  · rw [chM_snoc, List.mem_append, List.mem_map, sub_snoc, ih]
    constructor
    · rintro (h | ⟨s, hs, rfl⟩)
      · exact .inl h
      · exact .inr ⟨s, rfl, ih.mp hs⟩
    · rintro (h | ⟨s, rfl, hs⟩)
      · exact .inl h
      · exact .inr ⟨s, ih.mpr hs, rfl⟩
theorem chM_len : ∀ ps : List Int, (chM ps).length = 2 ^ ps.length := snoc_ind rfl fun l x ih => by
  rw [chM_snoc, List.length_append, List.length_map, ih, List.length_append, List.length_singleton]
  omega
theorem Ppl.sub {n : Nat} {st r : List Int} (h : Ppl n st) (hr : r.Sublist st) : Ppl n r := ⟨h.up.sublist hr, fun k hk => h.inn k (hr.subset hk)⟩
/-- people in order are a sublist where they are among them -/
theorem sub_of_mem : ∀ {r st : List Int}, r.Pairwise (· < ·) → st.Pairwise (· < ·) → (∀ k ∈ r, k ∈ st) → r.Sublist st
  | [], st, _, _, _ => List.nil_sublist _
  | x :: r, [], _, _, h => absurd (h x List.mem_cons_self) (by simp)
  | x :: r, y :: st, hr, hs, h => by
    obtain ⟨r1, r2⟩ := List.pairwise_cons.mp hr
    obtain ⟨s1, s2⟩ := List.pairwise_cons.mp hs
    by_cases e : x = y
    · subst e
      refine List.Sublist.cons₂ _ (sub_of_mem r2 s2 fun k hk => ?_)
      rcases List.mem_cons.mp (h k (List.mem_cons_of_mem _ hk)) with rfl | h'
      · have := r1 k hk; omega
      · exact h'
    · refine List.Sublist.cons _ (sub_of_mem hr s2 fun k hk => ?_)
      rcases List.mem_cons.mp (h k hk) with rfl | h'
      · rcases List.mem_cons.mp hk with rfl | hk
        · exact absurd rfl e
        · have := r1 k hk
          rcases List.mem_cons.mp (h x List.mem_cons_self) with rfl | hx
          · exact absurd rfl e
          · have := s1 x hx; omega
      · exact h'
def apM (w : List (List Int)) (r : List Int) : Bool := !(r.flatMap fun x => r.map fun y => decide (y ∈ fr w x)).any id
theorem apM_iff {w : List (List Int)} {r : List Int} : apM w r = true ↔ ∀ x ∈ r, ∀ y ∈ r, y ∉ fr w x := by
  unfold apM
  rw [Bool.not_eq_true', List.any_eq_false]
  constructor
  · intro h x hx y hy hm
    exact h true (List.mem_flatMap.mpr ⟨x, hx, List.mem_map.mpr ⟨y, hy, by simp [hm]⟩⟩) rfl
  · intro h b hb e
    obtain ⟨x, hx, hb⟩ := List.mem_flatMap.mp hb
    obtain ⟨y, hy, rfl⟩ := List.mem_map.mp hb
    exact h x hx y hy (of_decide_eq_true e)
def mayM (w : List (List Int)) (st goal : List Int) : List Int := st.filter fun x => !has w goal (fun x k => decide (k < x)) x
theorem mem_mayM {w : List (List Int)} {st goal : List Int} {x : Int} : x ∈ mayM w st goal ↔ x ∈ st ∧ ∀ k ∈ fr w x, k < x → k ∉ goal := by
  unfold mayM has
  rw [List.mem_filter, Bool.not_eq_true', List.any_eq_false]
  simp only [Bool.and_eq_true, decide_eq_true_eq]
  exact ⟨fun ⟨a, b⟩ => ⟨a, fun k hk h1 h2 => b k hk ⟨h1, h2⟩⟩, fun ⟨a, b⟩ => ⟨a, fun k hk ⟨h1, h2⟩ => b k hk h1 h2⟩⟩
def fitM (w : List (List Int)) (st goal : List Int) : Bool := (goal.all fun x => decide (x ∈ st)) && ((st.filter fun x => !decide (x ∈ goal)).all fun x => ((fr w x).filter fun k => decide (x < k)).any fun k => decide (k ∈ mayM w st goal))
theorem fitM_iff {w : List (List Int)} {st goal : List Int} : fitM w st goal = true ↔ (∀ x ∈ goal, x ∈ st) ∧ ∀ x ∈ st, x ∉ goal → ∃ k ∈ fr w x, x < k ∧ k ∈ mayM w st goal := by
  unfold fitM
  simp only [Bool.and_eq_true, List.all_eq_true, List.any_eq_true, decide_eq_true_eq, List.mem_filter, Bool.not_eq_true', decide_eq_false_iff_not]
  constructor
  · rintro ⟨a, b⟩
    refine ⟨a, fun x hx hn => ?_⟩
    obtain ⟨k, ⟨h1, h2⟩, h3⟩ := b x ⟨hx, hn⟩
    exact ⟨k, h1, h2, h3⟩
  · rintro ⟨a, b⟩
    refine ⟨a, fun x ⟨hx, hn⟩ => ?_⟩
    obtain ⟨k, h1, h2, h3⟩ := b x hx hn
    exact ⟨k, ⟨h1, h2⟩, h3⟩
def sortR (rs : List (List Int)) : List (List Int) := rs.mergeSort (PySem.W.dataLe false tR)
theorem sortP_R (rs : List (List Int)) : sortP (rs.map tR) = (sortR rs).map tR := by
  rw [sortP_ms]
  unfold sortR
  have z := List.map_mergeSort (f := tR) (r := PySem.W.dataLe false tR) (s := PySem.W.dataLe false id) (l := rs) (fun a _ b _ => rfl)
  rw [z]
theorem sortR_perm (rs : List (List Int)) : (sortR rs).Perm rs := List.mergeSort_perm _ _
theorem mem_sortR {rs : List (List Int)} {r : List Int} : r ∈ sortR rs ↔ r ∈ rs := (sortR_perm rs).mem_iff
theorem alike_tR (r s : List Int) : PySem.W.alike (tR r) (tR s) = true := by
  show PySem.W.alikeAll (r.map .int) (s.map .int) = true
  exact PySem.W.alike_ints r s
theorem okM_R (rs : List (List Int)) : okM (rs.map tR) = true := by
  unfold okM
  rw [Bool.and_eq_true, List.all_eq_true]
  refine ⟨fun x hx => ?_, encInt.tup.oks rs⟩
  obtain ⟨e, _, rfl⟩ := List.mem_map.mp hx
  rw [Bool.and_eq_true, List.all_eq_true]
  refine ⟨rfl, fun y hy => ?_⟩
  obtain ⟨e', _, rfl⟩ := List.mem_map.mp hy
  exact alike_tR _ _
theorem srt_R (rs : List (List Int)) : gSrt [.list (rs.map tR)] = some ((sortR rs).map tR) := by
  show (if okM (rs.map tR) = true then _ else _) = _
  rw [if_pos (okM_R rs), sortP_R]
def endsM (w : List (List Int)) (st : List Int) : List (List Int) := sortR ((chM st).filter fun r => apM w r && fitM w st r)
theorem mem_endsM {w : List (List Int)} {st r : List Int} : r ∈ endsM w st ↔ r.Sublist st ∧ apM w r = true ∧ fitM w st r = true := by
  unfold endsM
  rw [mem_sortR, List.mem_filter, mem_chM, Bool.and_eq_true]
theorem endsM_len {w : List (List Int)} {st : List Int} : (endsM w st).length ≤ 2 ^ st.length := by
  unfold endsM
  rw [(sortR_perm _).length_eq, ← chM_len]
  exact List.length_filter_le _ _
end L2.P


set_option Elab.async false
set_option linter.all false
set_option maxRecDepth 100000
set_option maxHeartbeats 4000000
namespace L2.P
open PySem PySem.Spec PyProof.Rows L2
section
variable {X : Cx} {a b : Expr} {pos : Pos}
end
end L2.P


set_option Elab.async false
set_option linter.all false
set_option maxRecDepth 100000
set_option maxHeartbeats 4000000
namespace L2.P
open PySem PySem.Spec PyProof.Rows L2
def sortI (xs : List Int) : List Int := xs.mergeSort fun a b => decide (a ≤ b)
theorem sortP_I (xs : List Int) : sortP (xs.map .int) = (sortI xs).map .int := by
  rw [sortP_ms]
  unfold sortI
  have e : PySem.W.dataLe false PyData.int = fun a b : Int => decide (a ≤ b) := PySem.W.dataLe_int id
  rw [← e]
  have z := List.map_mergeSort (f := PyData.int) (r := PySem.W.dataLe false PyData.int) (s := PySem.W.dataLe false id) (l := xs) (fun a _ b _ => rfl)
  rw [z]
theorem sortI_perm (xs : List Int) : (sortI xs).Perm xs := List.mergeSort_perm _ _
theorem sortI_pw (xs : List Int) : (sortI xs).Pairwise (· ≤ ·) := by
  have := List.pairwise_mergeSort (le := fun a b : Int => decide (a ≤ b)) (fun a b c h1 h2 => by simp at *; omega) (fun a b => by simp; omega) xs
  exact this.imp fun h => by simpa using h
theorem pw_nodup {xs : List Int} (h : xs.Pairwise (· < ·)) : xs.Nodup := h.imp fun h => by omega
theorem pw_lt {xs : List Int} : xs.Pairwise (· ≤ ·) → xs.Nodup → xs.Pairwise (· < ·) := fun h n => by
  have := h.and n
  exact this.imp fun ⟨a, b⟩ => by omega
theorem sortI_uniq {xs st : List Int} (hp : xs.Perm st) (h : st.Pairwise (· < ·)) : sortI xs = st := by
  have hq := (sortI_perm xs).trans hp
  exact pw_unique (pw_lt (sortI_pw xs) (hq.nodup_iff.mpr (pw_nodup h))) h fun k => hq.mem_iff
theorem okM_I (xs : List Int) : okM (xs.map .int) = true := by
  unfold okM
  rw [Bool.and_eq_true, List.all_eq_true]
  refine ⟨fun x hx => ?_, encInt.oks xs⟩
  obtain ⟨e, _, rfl⟩ := List.mem_map.mp hx
  rw [Bool.and_eq_true, List.all_eq_true]
  refine ⟨rfl, fun y hy => ?_⟩
  obtain ⟨e', _, rfl⟩ := List.mem_map.mp hy
  rfl
theorem srt_IL {xs st : List Int} (hp : xs.Perm st) (h : st.Pairwise (· < ·)) : gSrt [.list (xs.map .int)] = some (st.map .int) := by
  show (if okM (xs.map .int) = true then _ else _) = _
  rw [if_pos (okM_I xs), sortP_I, sortI_uniq hp h]
theorem mem_callM {w : List (List Int)} {st : List Int} {p x : Int} : x ∈ callM w st p ↔ x ∈ st ∧ (p ∈ st → p ≤ x ∨ x ∉ fr w p) := by
  unfold callM
  split
  · rename_i h
    rw [List.mem_filter, Bool.or_eq_true, decide_eq_true_eq, Bool.not_eq_true', decide_eq_false_iff_not]
    exact ⟨fun a => ⟨a.1, fun _ => a.2⟩, fun a => ⟨a.1, a.2 h⟩⟩
  · rename_i h
    exact ⟨fun a => ⟨a, fun z => absurd z h⟩, fun a => a.1⟩
theorem mem_fold {w : List (List Int)} : ∀ (cs s : List Int), ∀ k ∈ cs.foldl (callM w) s, k ∈ s
  | [], s, k, h => h
  | c :: cs, s, k, h => (mem_callM.mp (mem_fold cs (callM w s c) k h)).1
/-- who has sat down had a taller friend whose lower friends have all sat down -/
theorem fold_gone {w : List (List Int)} (h : Web w) : ∀ (cs s : List Int), Ppl w.length s → ∀ x ∈ s, x ∉ cs.foldl (callM w) s → ∃ k ∈ fr w x, x < k ∧ k ∈ s ∧ ∀ j ∈ fr w k, j < k → j ∉ cs.foldl (callM w) s
  | [], s, _, x, hx, hn => absurd hx hn
  | c :: cs, s, hs, x, hx, hn => by
    by_cases e : x ∈ callM w s c
    · obtain ⟨k, k1, k2, k3, k4⟩ := fold_gone h cs (callM w s c) (callM_ppl hs) x e hn
      exact ⟨k, k1, k2, (mem_callM.mp k3).1, k4⟩
    · have hi := hs.inn x hx
      have hc : c ∈ s ∧ x < c ∧ x ∈ fr w c := by
        apply Classical.byContradiction
        intro q
        refine e (mem_callM.mpr ⟨hx, fun hcs => ?_⟩)
        by_cases e1 : c ≤ x
        · exact .inl e1
        · exact .inr fun e2 => q ⟨hcs, by omega, e2⟩
      obtain ⟨c1, c2, c3⟩ := hc
      have hci := hs.inn c c1
      refine ⟨c, h.sym c x hci.1 hci.2 c3, c2, c1, fun j hj hjc hjf => ?_⟩
      have := (mem_callM.mp (mem_fold cs (callM w s c) j hjf)).2 c1
      rcases this with q | q
      · omega
      · exact q hj
/-- what calls bring can come -/
theorem fit_fold {w : List (List Int)} (h : Web w) {st : List Int} (hs : Ppl w.length st) (cs : List Int) : fitM w st (cs.foldl (callM w) st) = true := by
  rw [fitM_iff]
  refine ⟨mem_fold cs st, fun x hx hn => ?_⟩
  obtain ⟨k, k1, k2, k3, k4⟩ := fold_gone h cs st hs x hx hn
  exact ⟨k, k1, k2, mem_mayM.mpr ⟨k3, k4⟩⟩
/-- who was called and stands has no lower friend who stands -/
theorem fold_called {w : List (List Int)} : ∀ (cs s : List Int), ∀ c ∈ cs, c ∈ cs.foldl (callM w) s → ∀ j ∈ fr w c, j < c → j ∉ cs.foldl (callM w) s
  | c :: cs, s, d, hd, hf, j, hj, hjd, hjf => by
    rcases List.mem_cons.mp hd with rfl | hd
    · have a := (mem_callM.mp (mem_fold cs _ d hf)).1
      rcases (mem_callM.mp (mem_fold cs _ j hjf)).2 a with q | q
      · omega
      · exact q hj
    · exact fold_called cs (callM w s c) d hd hf j hj hjd hjf
/-- all are called: an end -/
theorem ap_fold {w : List (List Int)} (h : Web w) {st : List Int} (hs : Ppl w.length st) {cs : List Int} (hc : ∀ p ∈ st, p ∈ cs) : apM w (cs.foldl (callM w) st) = true := by
  rw [apM_iff]
  intro x hx y hy hf
  have xs := mem_fold cs st x hx
  have ys := mem_fold cs st y hy
  have hi := hs.inn x xs
  have h2 := h.inn x y hi.1 hi.2 hf
  rcases Int.lt_or_gt_of_ne h2.2.2 with c | c
  · exact fold_called cs st x (hc x xs) hx y hf c hy
  · exact fold_called cs st y (hc y ys) hy x (h.sym x y hi.1 hi.2 hf) c hx
theorem stAt_all (w : List (List Int)) (st cs : List Int) : stAt w st cs cs.length = cs.foldl (callM w) st := by unfold stAt; rw [List.take_length]
end L2.P


set_option Elab.async false
set_option linter.all false
set_option maxRecDepth 100000
set_option maxHeartbeats 4000000
namespace L2.P
open PySem PySem.Spec PyProof.Rows L2
section
variable {X : Cx} {k v e : Expr} {pos : Pos}
end
end L2.P
namespace L2.P
open PySem PySem.Spec PyProof.Rows L2
def lookD (kvs : List (D × D)) (k : D) : Option D := (kvs.find? fun e => PyData.eqv e.1 k).map (·.2)
def putD (kvs : List (D × D)) (k v : D) : List (D × D) := if (kvs.any fun e => PyData.eqv e.1 k) = true then kvs.map (fun e => if PyData.eqv e.1 k = true then (e.1, v) else e) else kvs ++ [(k, v)]
def kindOf : List (D × D) → Option Bool
  | (.int _, .dict [(.none, .none)]) :: _ => none
  | (.int _, _) :: _ => some false
  | (.tuple _, _) :: _ => some true
  | [] => some false
  | _ => none
/-- a dict to be read: unlocked or locked -/
def DRd (K : Fg) (F H : Hp) (t : Bool) (a : Addr) (kvs : List (D × D)) : Prop := match t with
  | false => ∃ es, Rd H a (.dK es) ∧ DkAll K F es kvs
  | true => ∃ es, Rd H a (.dT es) ∧ DtAll K F es kvs
/-- a dict locked for good -/
def DLk (K : Fg) (F : Hp) (t : Bool) (a : Addr) (kvs : List (D × D)) : Prop := match t with
  | false => ∃ o es, F a = some (.frz o (.dK es)) ∧ DkAll K F es kvs
  | true => ∃ o es, F a = some (.frz o (.dT es)) ∧ DtAll K F es kvs
/-- both or none -/
inductive OpD (K : Fg) (F : Hp) : Option V → Option D → Prop
  | no : OpD K F none none
  | yes {v : V} {p : D} : Dp K F v p → OpD K F (some v) (some p)
theorem OpD.isSome {K : Fg} {F : Hp} {o : Option V} {p : Option D} (h : OpD K F o p) : o.isSome = p.isSome := by cases h <;> rfl
theorem eqv_int (a b : Int) : PyData.eqv (.int a) (.int b) = decide (a = b) := encInt.1 a b
theorem eqv_ints (a b : List Int) : PyData.eqv (.tuple (a.map .int)) (.tuple (b.map .int)) = decide (a = b) := encInt.tup.1 a b
theorem lookD_cons (q : D × D) (kvs : List (D × D)) (k : D) : lookD (q :: kvs) k = if PyData.eqv q.1 k = true then some q.2 else lookD kvs k := by
  unfold lookD
  rw [List.find?_cons]
  cases PyData.eqv q.1 k <;> rfl
theorem valV_cons {κ : Type} [DecidableEq κ] (q : κ × V) (kvs : List (κ × V)) (k : κ) : valV (q :: kvs) k = if q.1 = k then some q.2 else valV kvs k := by
  by_cases h : q.1 = k
  · rw [if_pos h]; exact valV_pos h
  · rw [if_neg h]; exact valV_neg h
theorem inlM_inj {a b : List Int} : a.map (Sum.inl (β := Str)) = b.map Sum.inl ↔ a = b := by
  constructor
  · intro h
    induction a generalizing b with
    | nil => cases b with
      | nil => rfl
      | cons _ _ => cases h
    | cons x a ih => cases b with
      | nil => cases h
      | cons y b =>
        rw [List.map_cons, List.map_cons] at h
        obtain ⟨h1, h2⟩ := List.cons.inj h
        rw [Sum.inl.inj h1, ih h2]
  · rintro rfl; rfl
section
variable {K : Fg} {F : Hp}
theorem DkAll.val (n : Int) : ∀ {es : List (Key × V)} {kvs : List (D × D)}, DkAll K F es kvs → OpD K F (valV es (.inl n)) (lookD kvs (.int n))
  | _, _, .nil => .no
  | _, _, .cons (k := k) d r => by
    rw [valV_cons, lookD_cons, eqv_int]
    by_cases h : k = n
    · subst h; rw [if_pos rfl, if_pos (by simp)]; exact .yes d
    · rw [if_neg (fun z => h (Sum.inl.inj z)), if_neg (by simpa using h)]; exact DkAll.val n r
theorem DtAll.val (ns : List Int) : ∀ {es : List (List Key × V)} {kvs : List (D × D)}, DtAll K F es kvs → OpD K F (valV es (ns.map .inl)) (lookD kvs (.tuple (ns.map .int)))
  | _, _, .nil _ => .no
  | _, _, .cons (ks := ks) d r => by
    rw [valV_cons, lookD_cons, eqv_ints]
    by_cases h : ks = ns
    · subst h; rw [if_pos rfl, if_pos (by simp)]; exact .yes d
    · rw [if_neg (fun z => h (inlM_inj.mp z)), if_neg (by simpa using h)]; exact DtAll.val ns r
theorem DkAll.append : ∀ {es es' : List (Key × V)} {kvs kvs' : List (D × D)}, DkAll K F es kvs → DkAll K F es' kvs' → DkAll K F (es ++ es') (kvs ++ kvs')
  | _, _, _, _, .nil, h => h
  | _, _, _, _, .cons d r, h => .cons d (DkAll.append r h)
theorem DtAll.append : ∀ {es es' : List (List Key × V)} {kvs kvs' : List (D × D)}, DtAll K F es kvs → DtAll K F es' kvs' → DtAll K F (es ++ es') (kvs ++ kvs')
  | _, _, _, _, .nil _, h => h
  | _, _, _, _, .cons d r, h => .cons d (DtAll.append r h)
theorem DkAll.len : ∀ {es : List (Key × V)} {kvs : List (D × D)}, DkAll K F es kvs → es.length = kvs.length
  | _, _, .nil => rfl
  | _, _, .cons _ r => congrArg (· + 1) (DkAll.len r)
theorem DtAll.len : ∀ {es : List (List Key × V)} {kvs : List (D × D)}, DtAll K F es kvs → es.length = kvs.length
  | _, _, .nil _ => rfl
  | _, _, .cons _ r => congrArg (· + 1) (DtAll.len r)
theorem DkAll.repl (n : Int) {v : V} {p : D} (d : Dp K F v p) : ∀ {es : List (Key × V)} {kvs : List (D × D)}, DkAll K F es kvs → DkAll K F (es.map fun kv => if kv.1 = Sum.inl n then (kv.1, v) else kv) (kvs.map fun e => if PyData.eqv e.1 (.int n) = true then (e.1, p) else e)
  | _, _, .nil => .nil
  | _, _, .cons (k := k) d0 r => by
    rw [List.map_cons, List.map_cons]
    by_cases h : k = n
    · subst h; rw [if_pos rfl, if_pos (by rw [eqv_int]; simp)]; exact .cons d (DkAll.repl k d r)
    · rw [if_neg (fun z => h (Sum.inl.inj z)), if_neg (by rw [eqv_int]; simpa using h)]; exact .cons d0 (DkAll.repl n d r)
theorem DtAll.repl (ns : List Int) {v : V} {p : D} (d : Dp K F v p) : ∀ {es : List (List Key × V)} {kvs : List (D × D)}, DtAll K F es kvs → DtAll K F (es.map fun kv => if kv.1 = ns.map Sum.inl then (kv.1, v) else kv) (kvs.map fun e => if PyData.eqv e.1 (.tuple (ns.map .int)) = true then (e.1, p) else e)
  | _, _, .nil l => .nil l
  | _, _, .cons (ks := ks) d0 r => by
    rw [List.map_cons, List.map_cons]
    by_cases h : ks = ns
    · subst h; rw [if_pos rfl, if_pos (by rw [eqv_ints]; simp)]; exact .cons d (DtAll.repl ks d r)
    · rw [if_neg (fun z => h (inlM_inj.mp z)), if_neg (by rw [eqv_ints]; simpa using h)]; exact .cons d0 (DtAll.repl ns d r)
theorem DkAll.any (n : Int) : ∀ {es : List (Key × V)} {kvs : List (D × D)}, DkAll K F es kvs → (es.any fun kv => decide (kv.1 = Sum.inl n)) = kvs.any fun e => PyData.eqv e.1 (.int n)
  | _, _, .nil => rfl
  | _, _, .cons (k := k) d0 r => by
    rw [List.any_cons, List.any_cons, DkAll.any n r, eqv_int]
    congr 1
    by_cases h : k = n
    · subst h; simp
    · simp [h]
theorem DtAll.any (ns : List Int) : ∀ {es : List (List Key × V)} {kvs : List (D × D)}, DtAll K F es kvs → (es.any fun kv => decide (kv.1 = ns.map Sum.inl)) = kvs.any fun e => PyData.eqv e.1 (.tuple (ns.map .int))
  | _, _, .nil _ => rfl
  | _, _, .cons (ks := ks) d0 r => by
    rw [List.any_cons, List.any_cons, DtAll.any ns r, eqv_ints]
    congr 1
    by_cases h : ks = ns
    · subst h; simp
    · have : ¬ ks.map (Sum.inl (β := Str)) = ns.map Sum.inl := fun z => h (inlM_inj.mp z)
      simp [h, this]
theorem DkAll.put (n : Int) {v : V} {p : D} (d : Dp K F v p) {es : List (Key × V)} {kvs : List (D × D)} (r : DkAll K F es kvs) : DkAll K F (putK es (.inl n) v) (putD kvs (.int n) p) := by
  unfold putK putD
  rw [r.any n]
  by_cases h : (kvs.any fun e => PyData.eqv e.1 (.int n)) = true
  · rw [if_pos h, if_pos h]; exact r.repl n d
  · rw [if_neg h, if_neg h]; exact r.append (.cons d .nil)
theorem DtAll.put (ns : List Int) {v : V} {p : D} (d : Dp K F v p) {es : List (List Key × V)} {kvs : List (D × D)} (r : DtAll K F es kvs) : DtAll K F (putK es (ns.map .inl) v) (putD kvs (.tuple (ns.map .int)) p) := by
  unfold putK putD
  rw [r.any ns]
  by_cases h : (kvs.any fun e => PyData.eqv e.1 (.tuple (ns.map .int))) = true
  · rw [if_pos h, if_pos h]; exact r.repl ns d
  · rw [if_neg h, if_neg h]; exact r.append (.cons d (.nil r.strict))
variable {B : Bs} {H : Hp} {σ : St} {ρ : Rho} {i : Nat} {t : Bool} {kvs : List (D × D)}
theorem DLk.same {F' : Hp} {a : Addr} (h : DLk K F t a kvs) (s : Same F F') : DLk K F' t a kvs := by
  cases t with
  | false => obtain ⟨o, es, e, d⟩ := h; exact ⟨o, es, s _ _ e, d.same s⟩
  | true => obtain ⟨o, es, e, d⟩ := h; exact ⟨o, es, s _ _ e, d.same s⟩
theorem DRd.same {F' : Hp} {a : Addr} (h : DRd K F H t a kvs) (s : Same F F') : DRd K F' H t a kvs := by
  cases t with
  | false => obtain ⟨es, e, d⟩ := h; exact ⟨es, e, d.same s⟩
  | true => obtain ⟨es, e, d⟩ := h; exact ⟨es, e, d.same s⟩
/-- a value that is a dict of a kind is locked -/
theorem Dp.lk {v : V} (d : Dp K F v (.dict kvs)) (hk : kindOf kvs = some t) : ∃ a, v = .ref a ∧ DLk K F t a kvs := by
  obtain ⟨a, rfl, hd⟩ := Dp.inv_dictQ d (fun _ z => by subst z; cases hk) (fun _ z => by subst z; cases hk)
  refine ⟨a, rfl, ?_⟩
  rcases hd with ⟨o, es, e, r⟩ | ⟨o, e1, es, e, r⟩ | ⟨i1, i2, e, _⟩ | ⟨q1, vs1, ps1, e, _⟩
  · cases r with
    | nil => cases hk; exact ⟨o, _, e, .nil⟩
    | cons d1 r1 =>
      have : t = false := by
        unfold kindOf at hk
        split at hk
        · cases hk
        · cases hk; rfl
        · rename_i h; cases h
        · rename_i h; cases h
        · cases hk
      subst this
      exact ⟨o, _, e, .cons d1 r1⟩
  · cases r with
    | cons d1 r1 => cases hk; exact ⟨o, _, e, .cons d1 r1⟩
  · subst e
    cases hk
  · subst e
    cases hk
end
end L2.P


set_option Elab.async false
set_option linter.all false
set_option maxRecDepth 100000
set_option maxHeartbeats 4000000
namespace L2.P
open PySem PySem.Spec PyProof.Rows L2
section
variable {X : Cx} {k v e : Expr} {pos : Pos} {i : Nat} {x : Str} {px : Pos}
end
end L2.P


set_option Elab.async false
set_option linter.all false
set_option maxRecDepth 100000
set_option maxHeartbeats 4000000
namespace L2.P
open PySem PySem.Spec PyProof.Rows L2
section
variable {X : Cx} {e : Expr} {pos : Pos} {i : Nat} {x : Str} {px p : Pos}
end
end L2.P
namespace L2.P
open PySem PySem.Spec PyProof.Rows L2
section
variable {X : Cx} {k : Expr} {pos : Pos} {i : Nat} {x : Str} {px : Pos}
end
end L2.P


set_option Elab.async false
set_option linter.all false
set_option maxRecDepth 100000
set_option maxHeartbeats 4000000
namespace L2.P
open PySem PySem.Spec PyProof.Rows L2
section
variable {X : Cx} {a b e : Expr} {pos : Pos}
end
theorem s_while {S : Type} {t : Rho → Option Bool} {f : Rho → Option Fl} {K : Fl → Prop} (st : S → Rho) (J : Nat → S → Prop) (N : Nat) : ∀ (n i : Nat) (s : S), N < i + n → J i s →
    (∀ i s, J i s → (i < N ∧ t (st s) = some true ∧ fW f (st s) fun fl => ∃ s', fl = .nx (st s') ∧ J (i + 1) s') ∨ (t (st s) = some false ∧ K (.nx (st s)))) → i ≤ N → fW (whF t f n) (st s) K
  | 0, i, s, hn, hJ, h, hi => by omega
  | n + 1, i, s, hn, hJ, h, hi => by
    rcases h i s hJ with ⟨hi', e, fl, e2, s', rfl, hJ'⟩ | ⟨e, k⟩
    · obtain ⟨fl, e3, k⟩ := s_while st J N n (i + 1) s' (by omega) hJ' h hi'
      refine ⟨fl, ?_, k⟩
      rw [whF, e, Option.bind_some, if_pos rfl, e2]
      exact e3
    · exact ⟨_, by rw [whF, e, Option.bind_some, if_neg (by simp)], k⟩
theorem le_tR : PySem.W.dataLe false tR = fun p q : List Int => decide (p ≤ q) := by
  have e : PySem.W.dataLe false tR = PySem.W.dataLe false (fun r : List Int => PyData.list (r.map .int)) := by
    funext p q
    unfold PySem.W.dataLe PySem.W.sortLe
    simp only [PySem.W.keyToks]
  rw [e]
  exact PySem.W.dataLe_rows id
theorem sortR_pw (rs : List (List Int)) : (sortR rs).Pairwise (· ≤ ·) := by
  have := List.pairwise_mergeSort (le := PySem.W.dataLe false tR) (fun a b c h1 h2 => by
    rw [le_tR] at *
    simp only [decide_eq_true_eq] at *
    exact List.le_trans h1 h2) (fun a b => by
    rw [le_tR]
    simp only [Bool.or_eq_true, decide_eq_true_eq]
    exact List.le_total a b) rs
  unfold sortR
  refine this.imp fun {a b} h => ?_
  rw [le_tR] at h
  simpa using h
theorem sortR_uniq {xs ys : List (List Int)} (hp : xs.Perm ys) (h : ys.Pairwise (· ≤ ·)) : sortR xs = ys :=
  ((sortR_perm xs).trans hp).eq_of_pairwise (fun a b _ _ h1 h2 => List.le_antisymm h1 h2) (sortR_pw xs) h
theorem sortR_congr {xs ys : List (List Int)} (hp : xs.Perm ys) : sortR xs = sortR ys := sortR_uniq (hp.trans (sortR_perm ys).symm) (sortR_pw ys)
theorem chM_nodup : ∀ {ps : List Int}, ps.Nodup → (chM ps).Nodup := fun {ps} => by
  refine snoc_ind (P := fun ps => ps.Nodup → (chM ps).Nodup) (fun _ => by show [[]].Nodup; simp) (fun l x ih h => ?_) ps
  have hl : l.Nodup := (List.nodup_append.mp h).1
  have hx : x ∉ l := fun hm => (List.nodup_append.mp h).2.2 x hm x (by simp) rfl
  rw [chM_snoc, List.nodup_append]
  refine ⟨ih hl, ?_, fun a ha b hb e => ?_⟩
  · exact List.Pairwise.map (S := (· ≠ ·)) (fun c => c ++ [x]) (fun a b hab z => hab (by simpa using z)) (ih hl)
  · subst e
    obtain ⟨c, hc, e⟩ := List.mem_map.mp hb
    have := (mem_chM.mp ha).subset (by rw [← e]; simp : x ∈ a)
    exact hx this
end L2.P


set_option Elab.async false
set_option linter.all false
set_option maxRecDepth 100000
set_option maxHeartbeats 4000000
namespace L2.P
open PySem PySem.Spec PyProof.Rows L2
/-- s is reached from st by calls -/
def Rch (w : List (List Int)) (st s : List Int) : Prop := ∃ cs : List Int, s = cs.foldl (callM w) st
theorem Rch.refl (w : List (List Int)) (st : List Int) : Rch w st st := ⟨[], rfl⟩
theorem Rch.step {w : List (List Int)} {st s : List Int} (h : Rch w st s) (p : Int) : Rch w st (callM w s p) := by
  obtain ⟨cs, rfl⟩ := h
  exact ⟨cs ++ [p], by rw [List.foldl_append]; rfl⟩
theorem fold_sublist {w : List (List Int)} : ∀ (cs st : List Int), (cs.foldl (callM w) st).Sublist st
  | [], st => List.Sublist.refl _
  | c :: cs, st => (fold_sublist cs (callM w st c)).trans (callM_sub w st c)
theorem Rch.sub {w : List (List Int)} {st s : List Int} (h : Rch w st s) : s.Sublist st := by
  obtain ⟨cs, rfl⟩ := h
  exact fold_sublist cs st
theorem call_not {w : List (List Int)} {st : List Int} {p : Int} (h : p ∉ st) : callM w st p = st := by unfold callM; rw [if_neg h]
/-- all that s brings at once is in ks -/
def Cl (w : List (List Int)) (ks : List (List Int)) (s : List Int) : Prop := ∀ p ∈ moversM w s, callM w s p ∈ ks
theorem Cl.mono {w : List (List Int)} {ks ks' : List (List Int)} {s : List Int} (h : Cl w ks s) (hk : ∀ x ∈ ks, x ∈ ks') : Cl w ks' s := fun p hp => hk _ (h p hp)
theorem mem_movers {w : List (List Int)} {s : List Int} {p : Int} : p ∈ moversM w s ↔ p ∈ s ∧ callM w s p ≠ s := by
  unfold moversM
  rw [List.mem_filter]
  exact ⟨fun ⟨a, b⟩ => ⟨a, (movers_iff a).mpr b⟩, fun ⟨a, b⟩ => ⟨a, (movers_iff a).mp b⟩⟩
theorem closed_rch {w : List (List Int)} {ks : List (List Int)} {st : List Int} (h0 : st ∈ ks) (h : ∀ s ∈ ks, Cl w ks s) : ∀ s, Rch w st s → s ∈ ks := by
  rintro s ⟨cs, rfl⟩
  revert cs
  refine snoc_ind (by exact h0) fun cs c ih => ?_
  rw [List.foldl_append]
  show callM w (cs.foldl (callM w) st) c ∈ ks
  by_cases e : callM w (cs.foldl (callM w) st) c = cs.foldl (callM w) st
  · rw [e]; exact ih
  · refine h _ ih c (mem_movers.mpr ⟨?_, e⟩)
    apply Classical.byContradiction
    intro hn
    exact e (call_not hn)
theorem call_len {w : List (List Int)} {s : List Int} {p : Int} (h : p ∈ moversM w s) : (callM w s p).length < s.length := by
  have h1 := (mem_movers.mp h).2
  have h2 := callM_sub w s p
  rcases Nat.lt_or_ge (callM w s p).length s.length with h | h
  · exact h
  · exact absurd (h2.eq_of_length_le h) h1
theorem nodup_len {α : Type} [DecidableEq α] : ∀ {ks ls : List α}, ks.Nodup → (∀ x ∈ ks, x ∈ ls) → ks.length ≤ ls.length
  | [], _, _, _ => Nat.zero_le _
  | k :: ks, ls, hn, hs => by
    obtain ⟨h1, h2⟩ := List.nodup_cons.mp hn
    have hk := hs k List.mem_cons_self
    have := nodup_len (ks := ks) (ls := ls.erase k) h2 fun x hx => (List.mem_erase_of_ne (by rintro rfl; exact h1 hx)).mpr (hs x (List.mem_cons_of_mem _ hx))
    rw [List.length_erase_of_mem hk] at this
    have hp : 0 < ls.length := List.length_pos_of_mem hk
    rw [List.length_cons]
    omega
/-- in the midst of a round of a search: j states of last are done -/
structure Mid (w : List (List Int)) (st : List Int) (c : Nat) (last : List (List Int)) (j : Nat) (ks fresh : List (List Int)) : Prop where
  nd : ks.Nodup
  rch : ∀ s ∈ ks, Rch w st s
  beg : st ∈ ks
  fk : ∀ s ∈ fresh, s ∈ ks
  lk : ∀ s ∈ last, s ∈ ks
  cl : ∀ s ∈ ks, s ∉ fresh → s ∉ last ∨ s ∈ last.take j → Cl w ks s
  szl : ∀ s ∈ last, s.length + c ≤ st.length
  sz : ∀ s ∈ fresh, s.length + (c + 1) ≤ st.length
  fl : fresh.length ≤ ks.length
theorem Mid.len {w : List (List Int)} {st : List Int} {c : Nat} {last : List (List Int)} {j : Nat} {ks fresh : List (List Int)} (M : Mid w st c last j ks fresh) : ks.length ≤ 2 ^ st.length := by
  rw [← chM_len]
  exact nodup_len M.nd fun s hs => mem_chM.mpr (M.rch s hs).sub
/-- .. m of here's movers, too -/
structure Mid2 (w : List (List Int)) (st : List Int) (c : Nat) (last : List (List Int)) (j : Nat) (here : List Int) (m : Nat) (ks fresh : List (List Int)) : Prop extends Mid w st c last j ks fresh where
  mv : ∀ q ∈ (moversM w here).take m, callM w here q ∈ ks
theorem Mid.start {w : List (List Int)} {st : List Int} {c : Nat} {last : List (List Int)} {j : Nat} {ks fresh : List (List Int)} (M : Mid w st c last j ks fresh) (here : List Int) : Mid2 w st c last j here 0 ks fresh := ⟨M, fun q hq => by cases hq⟩
theorem Mid2.done {w : List (List Int)} {st : List Int} {c : Nat} {last : List (List Int)} {j : Nat} {here : List Int} {ks fresh : List (List Int)} (M : Mid2 w st c last j here (moversM w here).length ks fresh) (hj : last[j]? = some here) : Mid w st c last (j + 1) ks fresh := by
  refine ⟨M.nd, M.rch, M.beg, M.fk, M.lk, fun s hs hf ho => ?_, M.szl, M.sz, M.fl⟩
  rcases ho with ho | ho
  · exact M.cl s hs hf (.inl ho)
  · rw [List.take_add_one, hj] at ho
    rcases List.mem_append.mp ho with ho | ho
    · exact M.cl s hs hf (.inr ho)
    · have : s = here := by simpa using ho
      subst this
      intro q hq
      refine M.mv q ?_
      rw [List.take_length]
      exact hq
theorem Mid2.old {w : List (List Int)} {st : List Int} {c : Nat} {last : List (List Int)} {j m : Nat} {here : List Int} {q : Int} {ks fresh : List (List Int)} (M : Mid2 w st c last j here m ks fresh) (hq : (moversM w here)[m]? = some q) (hin : callM w here q ∈ ks) : Mid2 w st c last j here (m + 1) ks fresh := by
  refine ⟨M.toMid, fun r hr => ?_⟩
  rw [List.take_add_one, hq] at hr
  rcases List.mem_append.mp hr with hr | hr
  · exact M.mv r hr
  · have : r = q := by simpa using hr
    subst this; exact hin
theorem Mid2.new {w : List (List Int)} {st : List Int} {c : Nat} {last : List (List Int)} {j m : Nat} {here : List Int} {q : Int} {ks fresh : List (List Int)} (M : Mid2 w st c last j here m ks fresh) (hq : (moversM w here)[m]? = some q) (hh : here ∈ last) (hin : callM w here q ∉ ks) : Mid2 w st c last j here (m + 1) (ks ++ [callM w here q]) (fresh ++ [callM w here q]) := by
  have up : ∀ x ∈ ks, x ∈ ks ++ [callM w here q] := fun x hx => List.mem_append_left _ hx
  have hqm := List.mem_of_getElem? hq
  refine ⟨⟨?_, fun s hs => ?_, up _ M.beg, fun s hs => ?_, fun s hs => up _ (M.lk s hs), fun s hs hf ho => ?_, M.szl, fun s hs => ?_, ?_⟩, fun r hr => ?_⟩
  · rw [List.nodup_append]
    refine ⟨M.nd, by simp, fun a ha b hb e => ?_⟩
    rw [List.mem_singleton] at hb
    subst hb; subst e
    exact hin ha
  · rcases List.mem_append.mp hs with hs | hs
    · exact M.rch s hs
    · rw [List.mem_singleton] at hs
      subst hs
      exact (M.rch here (M.lk here hh)).step q
  · rcases List.mem_append.mp hs with hs | hs
    · exact up _ (M.fk s hs)
    · exact List.mem_append_right _ hs
  · have hf' : s ∉ fresh := fun z => hf (List.mem_append_left _ z)
    rcases List.mem_append.mp hs with hs | hs
    · exact (M.cl s hs hf' ho).mono up
    · exact absurd (List.mem_append_right _ hs) hf
  · rcases List.mem_append.mp hs with hs | hs
    · exact M.sz s hs
    · rw [List.mem_singleton] at hs
      subst hs
      have a := call_len hqm
      have b := M.szl here hh
      omega
  · rw [List.length_append, List.length_append]
    have := M.fl
    simp only [List.length_singleton]; omega
  · rw [List.take_add_one, hq] at hr
    rcases List.mem_append.mp hr with hr | hr
    · exact up _ (M.mv r hr)
    · have : r = q := by simpa using hr
      subst this
      exact List.mem_append_right _ (List.mem_singleton.mpr rfl)
/-- ahead of a round -/
structure Rnd (w : List (List Int)) (st : List Int) (c : Nat) (ks last : List (List Int)) : Prop where
  nd : ks.Nodup
  rch : ∀ s ∈ ks, Rch w st s
  beg : st ∈ ks
  lk : ∀ s ∈ last, s ∈ ks
  cl : ∀ s ∈ ks, s ∉ last → Cl w ks s
  sz : ∀ s ∈ last, s.length + c ≤ st.length
  ll : last.length ≤ ks.length
theorem Rnd.start (w : List (List Int)) (st : List Int) : Rnd w st 0 [st] [st] :=
  ⟨by simp, fun s hs => by rw [List.mem_singleton] at hs; subst hs; exact Rch.refl _ _, List.mem_singleton.mpr rfl, fun s hs => hs, fun s hs hn => absurd hs hn, fun s hs => by rw [List.mem_singleton] at hs; subst hs; omega, Nat.le_refl _⟩
theorem Rnd.mid {w : List (List Int)} {st : List Int} {c : Nat} {ks last : List (List Int)} (R : Rnd w st c ks last) : Mid w st c last 0 ks [] := by
  refine ⟨R.nd, R.rch, R.beg, fun s hs => (by cases hs), R.lk, fun s hs _ ho => ?_, R.sz, fun s hs => (by cases hs), Nat.zero_le _⟩
  rcases ho with ho | ho
  · exact R.cl s hs ho
  · cases ho
theorem Rnd.full {w : List (List Int)} {st : List Int} {c : Nat} {ks : List (List Int)} (R : Rnd w st c ks []) (s : List Int) : s ∈ ks ↔ Rch w st s :=
  ⟨R.rch s, closed_rch R.beg (fun s hs => R.cl s hs (by simp)) s⟩
theorem Rnd.len {w : List (List Int)} {st : List Int} {c : Nat} {ks last : List (List Int)} (R : Rnd w st c ks last) : ks.length ≤ 2 ^ st.length := R.mid.len
theorem neL (r : List Int) : dNe (.list (r.map .int)) (.list []) = some (.bool (!decide (r = []))) := encInt.list.ne r []
theorem eqL (r : List Int) : dEq (.list (r.map .int)) (.list []) = some (.bool (decide (r = []))) := encInt.list.eq r []
theorem neT (r s : List Int) : dNe (tR r) (tR s) = some (.bool (!decide (r = s))) := encInt.tup.ne r s
theorem inLs (r : List Int) (rs : List (List Int)) : dIn (tR r) (.list (rs.map tR)) = some (.bool (decide (r ∈ rs))) := (encInt.tup.inL r rs).trans (by congr)
theorem niLs (r : List Int) (rs : List (List Int)) : dNotIn (tR r) (.list (rs.map tR)) = some (.bool (!decide (r ∈ rs))) := (encInt.tup.niL r rs).trans (by congr)
end L2.P


set_option Elab.async false
set_option linter.all false
set_option maxRecDepth 100000
set_option maxHeartbeats 4000000
namespace L2.P
open PySem PySem.Spec PyProof.Rows L2
/-- a number and a set -/
def irD (e : Int × List Int) : D := .tuple [.int e.1, tR e.2]
theorem encIR : EncOk irD 2 := ⟨fun a b => by
    obtain ⟨a1, a2⟩ := a
    obtain ⟨b1, b2⟩ := b
    show PyData.eqvAll [.int a1, tR a2] [.int b1, tR b2] = _
    simp only [PyData.eqvAll, encInt.1, eqv_ints, Bool.and_true]
    rw [Bool.eq_iff_iff]
    simp, fun a => by
    show PyData.plainAll [.int a.1, tR a.2] = true
    simp only [PyData.plainAll, Bool.and_true]
    rw [Bool.and_eq_true]
    exact ⟨rfl, encInt.tup.plain a.2⟩, fun a => by
    have := encInt.tup.depth a.2
    show PyData.depthAll [.int a.1, tR a.2] + 1 ≤ 2
    have e : PyData.depthAll [.int a.1, tR a.2] = max 0 (max (tR a.2).depth 0) := rfl
    rw [e]
    have : (tR a.2).depth ≤ 1 := this
    omega⟩
theorem alike_ir (a b : Int × List Int) : PySem.W.alike (irD a) (irD b) = true := by
  show PySem.W.alikeAll [.int a.1, tR a.2] [.int b.1, tR b.2] = true
  simp only [PySem.W.alikeAll, alike_tR, Bool.and_true]
  rfl
theorem okM_IR (es : List (Int × List Int)) : okM (es.map irD) = true := by
  unfold okM
  rw [Bool.and_eq_true, List.all_eq_true]
  refine ⟨fun x hx => ?_, encIR.oks es⟩
  obtain ⟨e, _, rfl⟩ := List.mem_map.mp hx
  rw [Bool.and_eq_true, List.all_eq_true]
  refine ⟨rfl, fun y hy => ?_⟩
  obtain ⟨e', _, rfl⟩ := List.mem_map.mp hy
  exact alike_ir _ _
/-- the order of pairs -/
def LtP (a b : Int × List Int) : Prop := a.1 < b.1 ∨ (a.1 = b.1 ∧ a.2 < b.2)
theorem lt_tR (r s : List Int) : PySem.W.dataLt (tR r) (tR s) = decide (r < s) := by
  rw [PySem.W.dataLt_tuple]
  exact PySem.W.dataLt_ints r s
theorem lt_ir (a b : Int × List Int) : PySem.W.dataLt (irD a) (irD b) = true ↔ LtP a b := by
  unfold irD LtP
  rw [PySem.W.dataLt_pair rfl (alike_tR _ _), encInt.1, eqv_ints, lt_tR, PySem.W.dataLt_int]
  by_cases h : a.1 = b.1
  · rw [if_pos (by simpa using h)]
    by_cases h2 : a.2 = b.2
    · rw [if_pos (by simpa using h2), h2]
      simp [h, List.lt_irrefl]
    · rw [if_neg (by simpa using h2)]
      simp [h]
  · rw [if_neg (by simpa using h)]
    simp [h]
theorem LtP.trans {a b c : Int × List Int} (h1 : LtP a b) (h2 : LtP b c) : LtP a c := by
  rcases h1 with h1 | ⟨h1, h1'⟩ <;> rcases h2 with h2 | ⟨h2, h2'⟩
  · exact .inl (by omega)
  · exact .inl (by omega)
  · exact .inl (by omega)
  · exact .inr ⟨by omega, List.lt_trans h1' h2'⟩
theorem LtP.negtrans {a b c : Int × List Int} (h1 : ¬ LtP a b) (h2 : ¬ LtP b c) : ¬ LtP a c := by
  unfold LtP at *
  rintro (h | ⟨h, h'⟩)
  · by_cases e : a.1 < b.1
    · exact h1 (.inl e)
    · by_cases e2 : b.1 < c.1
      · exact h2 (.inl e2)
      · omega
  · have e1 : ¬ a.1 < b.1 := fun z => h1 (.inl z)
    have e2 : ¬ b.1 < c.1 := fun z => h2 (.inl z)
    have e3 : a.1 = b.1 := by omega
    have e4 : b.1 = c.1 := by omega
    have l1 : b.2 ≤ a.2 := List.not_lt.mp fun z => h1 (.inr ⟨e3, z⟩)
    have l2 : c.2 ≤ b.2 := List.not_lt.mp fun z => h2 (.inr ⟨e4, z⟩)
    exact absurd h' (List.not_lt.mpr (List.le_trans l2 l1))
theorem LtP.irrefl (a : Int × List Int) : ¬ LtP a a := by
  rintro (h | ⟨_, h⟩)
  · omega
  · exact List.lt_irrefl _ h
theorem minD_ir : ∀ (es : List (Int × List Int)) (e : Int × List Int), ∃ m ∈ e :: es, PySem.W.minD (irD e) (es.map irD) = irD m ∧ ∀ y ∈ e :: es, ¬ LtP y m
  | [], e => ⟨e, List.mem_cons_self, rfl, fun y hy => by
    have : y = e := by simpa using hy
    subst this
    exact LtP.irrefl _⟩
  | f :: es, e => by
    have key : PySem.W.minD (irD e) ((f :: es).map irD) = PySem.W.minD (if PySem.W.dataLt (irD f) (irD e) = true then irD f else irD e) (es.map irD) := rfl
    by_cases h : PySem.W.dataLt (irD f) (irD e) = true
    · obtain ⟨m, hm, h1, h2⟩ := minD_ir es f
      refine ⟨m, List.mem_cons_of_mem _ hm, by rw [key, if_pos h]; exact h1, fun y hy => ?_⟩
      rcases List.mem_cons.mp hy with rfl | hy
      · intro z
        exact h2 f List.mem_cons_self (((lt_ir _ _).mp h).trans z)
      · exact h2 y hy
    · obtain ⟨m, hm, h1, h2⟩ := minD_ir es e
      refine ⟨m, ?_, by rw [key, if_neg h]; exact h1, fun y hy => ?_⟩
      · rcases List.mem_cons.mp hm with rfl | hm
        · exact List.mem_cons_self
        · exact List.mem_cons_of_mem _ (List.mem_cons_of_mem _ hm)
      · rcases List.mem_cons.mp hy with rfl | hy
        · exact h2 _ List.mem_cons_self
        · rcases List.mem_cons.mp hy with rfl | hy
          · exact LtP.negtrans (fun z => h ((lt_ir _ _).mpr z)) (h2 e List.mem_cons_self)
          · exact h2 y (List.mem_cons_of_mem _ hy)
/-- e is the widest of rs, the least of them in order -/
def Wid (rs : List (List Int)) (e : List Int) : Prop := e ∈ rs ∧ ∀ y ∈ rs, y.length < e.length ∨ (y.length = e.length ∧ e ≤ y)
theorem min_wide {rs : List (List Int)} (hne : rs ≠ []) : ∃ e, Wid rs e ∧ gMin [.list (rs.map fun r => irD (-(r.length : Int), r))] = some (irD (-(e.length : Int), e)) := by
  cases rs with
  | nil => exact absurd rfl hne
  | cons r rs =>
    obtain ⟨m, hm, h1, h2⟩ := minD_ir (rs.map fun r => (-(r.length : Int), r)) (-(r.length : Int), r)
    rw [← List.map_cons (f := fun r : List Int => (-(r.length : Int), r))] at hm h2
    obtain ⟨e, he, rfl⟩ := List.mem_map.mp hm
    refine ⟨e, ⟨he, fun y hy => ?_⟩, ?_⟩
    · have := h2 _ (List.mem_map_of_mem (f := fun r : List Int => (-(r.length : Int), r)) hy)
      unfold LtP at this
      simp only at this
      by_cases c : y.length < e.length
      · exact .inl c
      · have c1 : ¬ (-(y.length : Int) < -(e.length : Int)) := fun z => this (.inl z)
        have c2 : y.length = e.length := by omega
        exact .inr ⟨c2, List.not_lt.mp fun z => this (.inr ⟨by omega, z⟩)⟩
    · show (if okM _ = true then some (PySem.W.minD _ _) else none) = _
      have ok := okM_IR ((r :: rs).map fun r => (-(r.length : Int), r))
      rw [List.map_map] at ok h1
      rw [List.map_cons] at ok
      rw [if_pos (by exact ok)]
      exact congrArg some h1
theorem max_ints {ns : List Int} (hne : ns ≠ []) : ∃ M ∈ ns, gMax [.list (ns.map .int)] = some (.int M) ∧ ∀ n ∈ ns, n ≤ M := by
  cases ns with
  | nil => exact absurd rfl hne
  | cons n ns =>
    have key : ∀ (ns : List Int) (n : Int), ns.foldl max n ∈ n :: ns ∧ ∀ k ∈ n :: ns, k ≤ ns.foldl max n := fun ns => by
      induction ns with
      | nil => intro n; simp
      | cons k ns ih =>
        intro n
        obtain ⟨a, b⟩ := ih (max n k)
        rw [List.foldl_cons]
        refine ⟨?_, fun x hx => ?_⟩
        · rcases List.mem_cons.mp a with e | a
          · rw [e]
            by_cases c : n ≤ k
            · rw [Int.max_eq_right c]; simp
            · rw [Int.max_eq_left (by omega)]; simp
          · exact List.mem_cons_of_mem _ (List.mem_cons_of_mem _ a)
        · have b0 := b (max n k) List.mem_cons_self
          rcases List.mem_cons.mp hx with rfl | hx
          · omega
          · rcases List.mem_cons.mp hx with rfl | hx
            · omega
            · exact b x (List.mem_cons_of_mem _ hx)
    obtain ⟨a, b⟩ := key ns n
    refine ⟨_, a, ?_, b⟩
    show (if okM _ = true then some (PySem.W.maxD _ _) else none) = _
    have ok := okM_I (n :: ns)
    rw [List.map_cons] at ok
    rw [if_pos (by exact ok), PySem.W.maxD_ints]
end L2.P


set_option Elab.async false
set_option linter.all false
set_option maxRecDepth 100000
set_option maxHeartbeats 4000000
namespace L2.P
open PySem PySem.Spec PyProof.Rows L2
theorem ppl_upI (n : Nat) : Ppl n (upI n) := ⟨pw_upI _, fun k hk => mem_upI.mp hk⟩
theorem Ppl.row {n : Nat} {st : List Int} (h : Ppl n st) : Row n st := fun k hk => h.inn k hk
section
variable {κ β : Type} [DecidableEq κ]
def encK (ek : κ → D) (ev : β → D) (e : κ × β) : D × D := (ek e.1, ev e.2)
def EqK (ek : κ → D) : Prop := ∀ a b, PyData.eqv (ek a) (ek b) = decide (a = b)
def putM (kvs : List (κ × β)) (k : κ) (b : β) : List (κ × β) := if k ∈ kvs.map (·.1) then kvs.map (fun e => if e.1 = k then (e.1, b) else e) else kvs ++ [(k, b)]
def getM (kvs : List (κ × β)) (k : κ) : Option β := (kvs.find? fun e => decide (e.1 = k)).map (·.2)
theorem keys_putM {kvs : List (κ × β)} {k : κ} {b : β} : (putM kvs k b).map (·.1) = if k ∈ kvs.map (·.1) then kvs.map (·.1) else kvs.map (·.1) ++ [k] := by
  unfold putM
  split
  · rw [List.map_map]
    refine List.map_congr_left fun e he => ?_
    show (if e.1 = k then (e.1, b) else e).1 = e.1
    split <;> rfl
  · rw [List.map_append]; rfl
theorem getM_isSome {kvs : List (κ × β)} {k : κ} : (getM kvs k).isSome = decide (k ∈ kvs.map (·.1)) := by
  unfold getM
  rw [Option.isSome_map, Bool.eq_iff_iff, List.find?_isSome]
  simp
theorem putK {ek : κ → D} (he : EqK ek) (ev : β → D) (k : κ) (b : β) (kvs : List (κ × β)) : putD (kvs.map (encK ek ev)) (ek k) (ev b) = (putM kvs k b).map (encK ek ev) := by
  unfold putD putM
  have hc : ((kvs.map (encK ek ev)).any fun e => PyData.eqv e.1 (ek k)) = decide (k ∈ kvs.map (·.1)) := by
    rw [List.any_map, Bool.eq_iff_iff, List.any_eq_true]
    simp only [decide_eq_true_eq, List.mem_map]
    constructor
    · rintro ⟨e, h1, h2⟩
      refine ⟨e, h1, ?_⟩
      have : PyData.eqv (ek e.1) (ek k) = true := h2
      rw [he] at this
      exact of_decide_eq_true this
    · rintro ⟨e, h1, rfl⟩
      exact ⟨e, h1, (he _ _).trans (by simp)⟩
  rw [hc]
  by_cases h : k ∈ kvs.map (·.1)
  · rw [if_pos (by simpa using h), if_pos h, List.map_map, List.map_map]
    refine List.map_congr_left fun e _ => ?_
    show (if PyData.eqv (ek e.1) (ek k) = true then (ek e.1, ev b) else (ek e.1, ev e.2)) = encK ek ev (if e.1 = k then (e.1, b) else e)
    rw [he]
    by_cases h2 : e.1 = k
    · rw [if_pos (by simpa using h2), if_pos h2]; rfl
    · rw [if_neg (by simpa using h2), if_neg h2]; rfl
  · rw [if_neg (by simpa using h), if_neg h, List.map_append]; rfl
theorem putM_nodup {kvs : List (κ × β)} {k : κ} {b : β} (h : (kvs.map (·.1)).Nodup) : ((putM kvs k b).map (·.1)).Nodup := by
  rw [keys_putM]
  split
  · exact h
  · rename_i hk
    exact List.nodup_append.mpr ⟨h, by simp, fun a ha b hb e => hk (by
      have : b = k := by simpa using hb
      rw [← this, ← e]; exact ha)⟩
theorem mem_keys_putM {kvs : List (κ × β)} {k s : κ} {b : β} : s ∈ (putM kvs k b).map (·.1) ↔ s ∈ kvs.map (·.1) ∨ s = k := by
  rw [keys_putM]
  split
  · rename_i h
    exact ⟨.inl, fun z => z.elim id fun e => e ▸ h⟩
  · rw [List.mem_append, List.mem_singleton]
theorem getM_put {kvs : List (κ × β)} {k s : κ} {b : β} : getM (putM kvs k b) s = if k = s then some b else getM kvs s := by
  unfold putM
  split
  · rename_i hk
    induction kvs with
    | nil => cases hk
    | cons e kvs ih =>
      rw [List.map_cons]
      unfold getM
      rw [List.find?_cons, List.find?_cons]
      by_cases h1 : e.1 = k
      · rw [if_pos h1]
        by_cases h2 : k = s
        · rw [if_pos h2]
          simp [h1, h2]
        · rw [if_neg h2]
          have h3 : ¬ e.1 = s := fun z => h2 (h1 ▸ z)
          simp only [decide_eq_false h3]
          by_cases h4 : k ∈ kvs.map (·.1)
          · have := ih h4
            rw [if_neg h2] at this
            exact this
          · have : kvs.map (fun e => if e.1 = k then (e.1, b) else e) = kvs := by
              rw [List.map_congr_left (g := id), List.map_id]
              intro x hx
              rw [if_neg fun z => h4 (List.mem_map.mpr ⟨x, hx, z⟩)]; rfl
            rw [this]
      · rw [if_neg h1]
        have h4 : k ∈ kvs.map (·.1) := by
          rw [List.map_cons] at hk
          rcases List.mem_cons.mp hk with z | z
          · exact absurd z.symm h1
          · exact z
        by_cases h3 : e.1 = s
        · have h2 : ¬ k = s := fun z => h1 (h3.trans z.symm)
          rw [if_neg h2]
          simp [h3]
        · simp only [decide_eq_false h3]
          exact ih h4
  · rename_i hk
    unfold getM
    rw [List.find?_append]
    by_cases h2 : k = s
    · subst h2
      rw [if_pos rfl]
      have : kvs.find? (fun e => decide (e.1 = k)) = none := by
        rw [List.find?_eq_none]
        intro x hx
        simp only [decide_eq_true_eq]
        intro z
        exact hk (List.mem_map.mpr ⟨x, hx, z⟩)
      rw [this]
      simp
    · rw [if_neg h2]
      simp [h2]
theorem getM_mem {kvs : List (κ × β)} {k : κ} {b : β} (h : getM kvs k = some b) : (k, b) ∈ kvs := by
  unfold getM at h
  obtain ⟨e, h1, rfl⟩ := Option.map_eq_some_iff.mp h
  have h2 := List.find?_some h1
  have : e.1 = k := of_decide_eq_true h2
  subst this
  exact List.mem_of_find?_eq_some h1
end
end L2.P


set_option Elab.async false
set_option linter.all false
set_option maxRecDepth 100000
set_option maxHeartbeats 4000000
namespace L2.P
open PySem PySem.Spec PyProof.Rows L2
end L2.P


set_option Elab.async false
set_option linter.all false
set_option maxRecDepth 100000
set_option maxHeartbeats 3200000
namespace L2.PS
open PySem PySem.Calls PySem.SeqAt PySem.W PyProof.Rows L2
section
variable {P : Program} {w : World} {A : Around} {E : Value → Shared → Prop} {s : Shared}
abbrev set0 (w : World) : Obj := { cls := .type "set", dict := none, data := .set #[] 0 (.fresh 0 0 (!w.params.followText "set-order")) }
theorem call_set_listR {l : Addr} {items : Array Value} (ns : List Int) {Q : Value → Shared → Prop} (hh : A.handled = none) (hl : s.heap.IsList l items) (hit : IntsAre items.toList ns) (hb : ns.length + 1 < scanBound)
    (h : ∀ (h' : Heap) (tk c : Nat), SetR w h' s.heap.objs.size (fun j => decide (j ∈ ns)) c → c ≤ ns.length → (∀ b o, s.heap.get? b = some o → h'.get? b = some o) → Q (.ref s.heap.objs.size) { s with heap := h', toks := tk }) :
    wpAny (model P w) A (call (.type "set") [.ref l]) Q E s := by
  have hlen : items.size = ns.length := by rw [← Array.length_toList]; exact IntsAre.length hit
  have hlS : l < s.heap.objs.size := by obtain ⟨o, ho, _⟩ := id hl; exact Heap.lt_size ho
  have hS : (s.heap.push (set0 w)).get? s.heap.objs.size = some (set0 w) := Heap.get?_push_size _ rfl
  have hsz : (s.heap.push (set0 w)).objs.size = s.heap.objs.size + 1 := Heap.size_push ..
  obtain ⟨c, tl, hmro⟩ := F.called_set.mro
  have hmade := F.called_set.made
  have hsub := F.called_set.sub
  have h1 := F.called_set.notType
  have h2 := F.called_set.canCreate
  have hct := F.typeCall_set_1 (.ref l)
  have hli := F.called_set.init.lookup
  have hbi := F.called_set.init.bind (.ref s.heap.objs.size)
  have hT : Shared.TypeIs { s with heap := s.heap.push (set0 w) } (.ref s.heap.objs.size) "set" := ⟨_, hS, rfl⟩
  refine wpAny_call (codeAny_of_tree ?_)
  show wpAny _ _ (callAny (.type "set") _) _ _ _
  refine wpAny_pure ⟨Code.quiet_builtin _ (by decide +kernel), codeAny_builtin F.entry_type_call ?_⟩
  rw [Around.under_plain (weight_type_call_type "set" [.ref l] []) rfl]
  repeat (any_goals (first | assumption | wp_step))
  refine codeAny_mono (code_set_led1 (.ref l) (E := E) (Q₁ := fun obj s₁ => obj = .ref s.heap.objs.size ∧ s₁ = { s with heap := s.heap.push (set0 w) }) ⟨rfl, rfl⟩) fun r s₁ hr => ?_
  cases r with
  | error e => exact hr
  | ok fl =>
    cases fl with
    | ret obj =>
      obtain ⟨rfl, rfl⟩ := hr
      repeat (any_goals (first | assumption | wp_step))
      refine codeAny_mono (codeAny_call_builtin (R := wants (fun r s₂ => r = .none ∧ ∃ h' tk c, s₂ = { s with heap := h', toks := tk } ∧ SetR w h' s.heap.objs.size (fun j => decide (j ∈ ns)) c ∧ c ≤ ns.length ∧ (∀ b o, s.heap.get? b = some o → h'.get? b = some o)) E) F.called_set.init.plain F.entry_set_init (check_set_init_1 hT ?_)) fun r₂ s₂ hr₂ => ?_
      · obtain ⟨⟨ocls, odict, odata, oslots⟩, hol, hcl, nl, hdl⟩ := id hl
        simp only at hcl hdl
        subst hcl hdl
        have hol' : (s.heap.push (set0 w)).get? l = some { cls := .type "list", dict := odict, data := .seq items nl, slots := oslots } := Heap.get?_push_of_some _ hol
        have hsls := F.sub_list_set
        have hslf := F.sub_list_frozenset
        have hne : (Value.type "list" == Value.type "dict") = false := by decide
        have hl1 : (s.heap.push (set0 w)).IsList l items := ⟨_, hol', rfl, nl, rfl⟩
        unfold Builtin.«set.__init__» noKeywords Builtin.Frozenset.updateFrom
        generalize hPI : pyIter = PI
        wp_walk
        subst hPI
        refine wpAny_pyIter_list hl1 (wpAny_bind (wpAny_runValue ?_))
        have hh3 : A.in1.in1.in1.handled = none := by simp [hh]
        have hneI : l ≠ (s.heap.push (set0 w)).objs.size := Nat.ne_of_lt (hsz ▸ Nat.lt_succ_of_lt hlS)
        have hval : ∀ (i : Nat) (v : Value), items[i]? = some v → ∃ k t, ns[i]? = some k ∧ v = .int k t := fun i v hv => by
          have hi : i < ns.length := by rw [← hlen]; exact (Array.getElem?_eq_some_iff.mp hv).1
          obtain ⟨t, e⟩ := IntsAre.int_at hit i v (by rw [Array.getElem?_toList]; exact hv)
          exact ⟨ns[i], t, List.getElem?_eq_getElem hi, by rw [e, List.getD_eq_getElem?_getD, List.getElem?_eq_getElem hi]; rfl⟩
        refine set_update_ints (Walks.list hh3 _ l hneI items).toS s.heap.objs.size (by simp only [List.mem_cons, List.not_mem_nil, or_false, not_or]; exact ⟨Nat.ne_of_lt (hsz ▸ Nat.lt_succ_self _), Nat.ne_of_gt hlS⟩) ns hlen hb hval (items.size - 0) 0 _ (by omega) (Nat.zero_le _) ⟨⟨_, Heap.get?_push_size _ rfl, rfl, rfl⟩, hl1.push _⟩
          ⟨0, Nat.le_refl 0, setR_new_at (Heap.get?_push_of_some _ hS)⟩ fun s' c' hm hc' hS' => ?_
        obtain ⟨h', g2, d', tk', os'⟩ := s'
        have eg : g2 = s.gens := hm.gens
        have ed : d' = s.drawn := hm.drawn
        have eo : os' = s.os := hm.os
        subst eg ed eo
        show wpAny _ _ _ _ _ _
        refine wpAny_pure ?_
        show wpAny _ _ (ret Value.none) _ _ _
        refine wpAny_pure ⟨rfl, h', tk', c', rfl, hS', by omega, fun b o e => ?_⟩
        have hb0 : b < s.heap.objs.size := Heap.lt_size e
        exact hm.heap b o (by simp only [List.mem_cons, List.not_mem_nil, or_false, not_or]; exact ⟨Nat.ne_of_lt hb0, Nat.ne_of_lt (hsz ▸ Nat.lt_succ_of_lt hb0)⟩) (Heap.get?_push_of_some _ (Heap.get?_push_of_some _ e))
      · cases r₂ with
        | error e => exact hr₂
        | ok fl₂ =>
          cases fl₂ with
          | ret r =>
            obtain ⟨rfl, h', tk, c', rfl, hS', hc', hk'⟩ := hr₂
            repeat (any_goals (first | assumption | wp_step))
            exact h _ _ _ hS' hc' hk'
          | _ => exact hr₂.elim
    | _ => exact hr.elim
end
end L2.PS
namespace L2.P
open PySem PySem.Spec PyProof.Rows L2
variable {X : Cx}
def rSetL (w : World) (K : Fg) : List V → Hp → VK → Prop := fun xs H Q => ∃ (a : Addr) (ns : List Int), xs = [.ref a] ∧ SqL K H a (ns.map V.int) ∧ ns.length ≤ 1000 ∧
  ∀ (p : Addr), H p = none → Q (.ref p) (upd H p (SetO w p (fun j => decide (j ∈ ns)) (sortD ns).length))
theorem setR_len {w : World} {h : Heap} {a : Addr} {ns : List Int} {c : Nat} (R : SetR w h a (fun j => decide (j ∈ ns)) c) : c = (sortD ns).length := by
  obtain ⟨o, es, ep, t, _, _, _, g, nd, hm, _, _, hn, _⟩ := R
  have p : (es.toList.map keyOf).Perm (sortD ns) := (List.perm_ext_iff_of_nodup nd (pw_nodup (pw_sortD ns))).mpr fun k => by rw [← hm k, mem_sortD]; simp
  have := p.length_eq
  rw [List.length_map, Array.length_toList] at this
  omega
theorem cr_setL (hc : X.calm = true) : CallR X (.type "set") (rSetL X.w X.K) := by
  intro pins s σ H xs us Q I r h
  obtain ⟨a, ns, rfl, hs, hl, q⟩ := h
  obtain ⟨its, rv, pl, hz⟩ := I.list hs
  rw [Vals.ref1 r]
  have hsb : ns.length + 1 < scanBound := Nat.lt_of_le_of_lt (Nat.add_le_add_right hl 1) (by decide)
  refine PS.call_set_listR ns (I.ok.hd hc) pl.isList (by simpa using rv.ints) hsb fun h' tk c R hcl hk => ?_
  have hc := setR_len R
  subst hc
  exact ⟨.ref _, upd H s.heap.objs.size (SetO X.w s.heap.objs.size (fun j => decide (j ∈ ns)) (sortD ns).length), I.laid (t' := tk) hk (Nat.le_refl _) (setO_new R), rfl, q _ (I.hok.fresh (Nat.le_refl _))⟩
end L2.P
namespace L2.PS
open PySem PySem.Calls PySem.SeqAt PySem.W PyProof.Rows L2
section
variable {P : Program} {w : World} {A : Around} {E : Value → Shared → Prop} {s : Shared}
end
end L2.PS
namespace L2.P
open PySem PySem.Spec PyProof.Rows L2
section
variable {X : Cx}
/-- each once -/
def dedR : List (List Int) → List (List Int)
  | [] => []
  | r :: rs => if r ∈ rs then dedR rs else r :: dedR rs
theorem mem_dedR {x : List Int} : ∀ {rs : List (List Int)}, x ∈ dedR rs ↔ x ∈ rs
  | [] => Iff.rfl
  | r :: rs => by
    unfold dedR
    split
    · rename_i h
      rw [mem_dedR, List.mem_cons]
      exact ⟨.inr, fun z => z.elim (fun e => e ▸ h) id⟩
    · rw [List.mem_cons, List.mem_cons, mem_dedR]
theorem nodup_dedR : ∀ (rs : List (List Int)), (dedR rs).Nodup
  | [] => List.nodup_nil
  | r :: rs => by
    unfold dedR
    split
    · exact nodup_dedR rs
    · rename_i h
      exact List.nodup_cons.mpr ⟨fun z => h (mem_dedR.mp z), nodup_dedR rs⟩
end
end L2.P


set_option Elab.async false
set_option linter.all false
set_option maxRecDepth 100000
set_option maxHeartbeats 4000000
namespace L2.P
open PySem PySem.Spec PyProof.Rows L2
section
variable {o : G2} {A B : Rho → Option D} {ρ : Rho} {p q : D} {b c : Bool} {f g : Rho → Option Bool}
theorem b2_of (hA : A ρ = some p) (hB : B ρ = some q) : b2 o A B ρ = o p q := by simp [hA, hB]
theorem cmp_b (hA : A ρ = some p) (hB : B ρ = some q) (e : o p q = some (.bool b)) : bB (b2 o A B) ρ = some b := by
  rw [e_bB, b2_of hA hB, e]; rfl
theorem or_b (h1 : f ρ = some b) (h2 : b = false → g ρ = some c) : bOr f g ρ = some (b || c) := by
  rw [e_bOr, h1, Option.bind_some]
  cases b with
  | true => rfl
  | false => rw [if_neg (by simp), h2 rfl]; rfl
theorem or_no (h1 : f ρ = some false) (h2 : g ρ = some false) : bOr f g ρ = some false := or_b h1 fun _ => h2
theorem and_b (h1 : f ρ = some b) (h2 : b = true → g ρ = some c) : bAnd f g ρ = some (b && c) := by
  rw [e_bAnd, h1, Option.bind_some]
  cases b with
  | false => rfl
  | true => rw [if_pos rfl, h2 rfl]; rfl
theorem not_b (h : f ρ = some b) : bNot f ρ = some (!b) := by rw [e_bNot, h]; rfl
theorem bB_of (h : A ρ = some (.bool b)) : bB A ρ = some b := by rw [e_bB, h]; rfl
end
/-- an empty choice of a list -/
theorem filter_none {α : Type} {P : α → Bool} {xs : List α} (h : ∀ x ∈ xs, P x = false) : xs.filter P = [] := List.filter_eq_nil_iff.mpr fun x hx => by rw [h x hx]; simp
end L2.P
namespace L2.P
open PySem PySem.Spec PyProof.Rows L2
theorem it_L {A : Rho → Option D} {ρ : Rho} {ps : List D} (h : A ρ = some (.list ps)) : fItems A ρ = some ps := by simp [h]
theorem it_T {A : Rho → Option D} {ρ : Rho} {ps : List D} (h : A ρ = some (.tuple ps)) : fItems A ρ = some ps := by simp [h]
end L2.P


set_option Elab.async false
set_option linter.all false
set_option maxRecDepth 100000
set_option maxHeartbeats 4000000
namespace L2.P
open PySem PySem.Spec PyProof.Rows L2
section
variable {w : List (List Int)} {st s t : List Int}
end
end L2.P


set_option Elab.async false
set_option linter.all false
set_option maxRecDepth 100000
set_option maxHeartbeats 4000000
namespace L2.P
open PySem PySem.Spec PyProof.Rows L2
section
variable {X : Cx} {e : Expr} {lo hi : Option Expr} {pos p2 : Pos}
end
end L2.P
namespace L2.P
open PySem PySem.Spec PyProof.Rows L2
section
variable {X : Cx} {a b c : Expr} {pos : Pos}
end
end L2.P


set_option Elab.async false
set_option linter.all false
set_option maxRecDepth 100000
set_option maxHeartbeats 4000000
namespace L2.P
open PySem PySem.Spec PyProof.Rows L2
/-- weights of n people -/
structure Wts (n : Nat) (ws : List Int) : Prop where
  len : ws.length = n
  inn : ∀ k ∈ ws, 0 ≤ k ∧ k ≤ 99
def wtM (ws : List Int) (p : Int) : Int := ws.getD p.toNat 0
theorem Wts.get {n : Nat} {ws : List Int} (h : Wts n ws) {p : Int} (h0 : 0 ≤ p) (h1 : p < n) : wtM ws p ∈ ws := by
  have hl := h.len
  unfold wtM
  rw [List.getD_eq_getElem?_getD, List.getElem?_eq_getElem (by omega)]
  exact List.getElem_mem _
theorem Wts.ix {n : Nat} {ws : List Int} (h : Wts n ws) {p : Int} (h0 : 0 ≤ p) (h1 : p < n) : dIx (tR ws) (.int p) = some (.int (wtM ws p)) := ix_ints h0 (by rw [h.len]; exact h1)
/-- the cheapest -/
def Chp (f : List Int → Int) (rs : List (List Int)) (e : List Int) : Prop := e ∈ rs ∧ ∀ y ∈ rs, f e < f y ∨ (f e = f y ∧ e ≤ y)
theorem Chp.le {f : List Int → Int} {rs : List (List Int)} {e y : List Int} (h : Chp f rs e) (hy : y ∈ rs) : f e ≤ f y := by
  rcases h.2 y hy with c | ⟨c, _⟩ <;> omega
end L2.P
namespace L2.P
open PySem PySem.Spec PyProof.Rows L2
theorem tup2_of {A B : Rho → Option D} {ρ : Rho} {p q : D} (hA : A ρ = some p) (hB : B ρ = some q) : vTup (aCons A (aCons B aNil)) ρ = some (.tuple [p, q]) := by simp [hA, hB]
theorem call1_of {α : Type} {A : Rho → Option D} {ρ : Rho} {p : D} {g : List D → Option α} {z : Option α} (hA : A ρ = some p) (h : g [p] = z) : aOf g (aCons A aNil) ρ = z := by simp [hA, h]
end L2.P


set_option Elab.async false
set_option linter.all false
set_option maxRecDepth 100000
set_option maxHeartbeats 4000000
namespace L2.P
open PySem PySem.Spec PyProof.Rows L2
def dCountA : G2
  | .list xs, d => if okDs xs = true ∧ okD d = true then some (.int (xs.countP fun y => PyData.eqv y d : Nat)) else none
  | _, _ => none
theorem e_countI (ns : List Int) (k : Int) : dCountA (.list (ns.map .int)) (.int k) = some (.int (ns.count k : Nat)) := by
  show (if _ then _ else _) = _
  rw [if_pos ⟨encInt.oks ns, encInt.ok k (by decide)⟩, List.countP_map]
  congr 3
section
variable {X : Cx} {a b : Expr} {pos : Pos}
def rCntD (K : Fg) : V → List V → Hp → VK → Prop := fun x xs H Q => ∃ (v : V) (ys : List D) (d : D), xs = [v] ∧ Dp K H x (.list ys) ∧ Dp K H v d ∧ okDs ys = true ∧ okD d = true ∧ Q (.int (ys.countP fun y => PyData.eqv y d : Nat)) H
theorem mt_lcountD (hu : Rm X) : MtR X "list.count" (rCntD X.K) := by
  intro pins s σ H x xs v us Q I rx rxs h
  obtain ⟨v', ys, d, rfl, hx, hv, h1, h2, q⟩ := h
  obtain ⟨p1, z1⟩ := okDs_iff.mp h1
  obtain ⟨p2, z2⟩ := okD_iff.mp h2
  obtain ⟨u, rfl, ru⟩ := rxs.one
  obtain ⟨a, vs, rfl, hs, hd⟩ := Dp.inv_lst hx
  cases rx
  obtain ⟨its, rv, pl, hz⟩ := I.list hs
  obtain ⟨as, hr⟩ := Dp.readsAll I _ vs its hd p1 rv
  obtain ⟨bs, r2⟩ := Dp.reads I d v' u hv p2 ru
  refine SeqAt.count_list_data pl.isList hr r2 p1 p2 (by unfold Rm at hu; omega) ?_
  exact ⟨.int _, H, I.tok _, ⟨s.toks, rfl⟩, q⟩
theorem ef_countA {f g : Rho → Option D} {p2 cpos : Pos} (hu : Rm X) (ha : XF X a f) (hb : EF X b g) (hbase : attributeBase a "count" X.env (eval a X.env) = eval a X.env := by rfl)
    (hfew : ((backTo cpos (starEach [b] X.env)).all (fun x => !x.1) && (backToKw cpos (keywordEach [] X.env)).all (fun x => x.1.isSome) && decide (([b] : List Expr).length + ([] : List Keyword).length + (if ([] : List Keyword).isEmpty then 0 else 1) < 30)) = true := by rfl)
    (hline : (p2.endLine == cpos.line) = true := by rfl) (hs : starEach [b] X.env = (false, eval b X.env) :: starEach [] X.env := by rfl) : EF X (.Call (.Attribute a "count" p2) [b] [] cpos) (b2 dCountA f g) :=
  ⟨fW_mono, (pe_bm PySem.F.plainAttrs_list PySem.F.slot_list_count PySem.F.type_list_count (mt_lcountD hu) ha.pe (pa_cons hb.pe pa_nil hs) hbase hfew hline hs rfl).imp fun σ H Q ⟨B, F, ρ, R, z, e, k⟩ => by
    have ⟨x, y, e1, e2, e3⟩ : ∃ x y, f ρ = some x ∧ g ρ = some y ∧ dCountA x y = some z := by
      obtain ⟨x, e1, e⟩ := Option.bind_eq_some_iff.mp e
      obtain ⟨y, e2, e⟩ := Option.bind_eq_some_iff.mp e
      exact ⟨x, y, e1, e2, e⟩
    unfold dCountA at e3
    split at e3
    · split at e3
      · rename_i hok
        cases e3
        refine ⟨B, F, ρ, R, _, e1, fun F1 H1 v R1 s1 d => ?_⟩
        obtain ⟨c, ys, rfl, s, r⟩ := pk_lst R1 d
        refine ⟨.inl ⟨rfl, ys, s⟩, B, F1, ρ, R1, _, e2, fun F2 H2 u R2 s2 du => ?_⟩
        have d2 := (d.mono s2).dp (Same.refl _) R2
        exact ⟨u, _, _, rfl, d2, du.same R2.sub, hok.1, hok.2, k F2 H2 _ R2 (s1.trans s2) (.int _)⟩
      · cases e3
    · cases e3⟩
end
end L2.P


set_option Elab.async false
set_option linter.all false
set_option maxRecDepth 100000
set_option maxHeartbeats 4000000
namespace L2.P
open PySem PySem.Spec PyProof.Rows L2
theorem dpAll_dropLast {K : Fg} {F : Hp} : ∀ {vs : List V} {ps : List D}, DpAll K F vs ps → DpAll K F vs.dropLast ps.dropLast
  | _, _, .nil => .nil
  | _, _, .cons _ .nil => .nil
  | _, _, .cons a (.cons b t) => .cons a (dpAll_dropLast (.cons b t))
section
variable {X : Cx} {pos : Pos} {i j : Nat} {x y : Str} {e k v : Expr} {px : Pos}
def sPop (i j : Nat) : Rho → Option Fl := fun ρ => match ρ[j]? with
  | some (.ol ps) => (ps[ps.length - 1]?).map fun p => .nx ((ρ.set j (.ol ps.dropLast)).set i (.v p))
  | _ => none
theorem sf_pop {p' p1 p2 p3 : Pos} (hN : X.N.Nodup) (hi : X.N[i]? = some x) (hx : Loc X.env.scope x) (hN2 : X.N[j]? = some y) (hv2 : Vis X.env.scope y) (hd : (y == ("__debug__" : Str)) = false := by decide) (hcd : (y == ("__classdict__" : Str)) = false := by decide)
    (hs : swapsWith (.Call (.Attribute (.Name y p1) "pop" p2) [] [] p3) (some (.Name x p')) pos.line X.env = pure false := by rfl)
    (hf : X.fn x = true ∨ X.env.scope.names.lookup x = some .local := by first | exact .inl rfl | exact .inr rfl | assumption)
    (hbase : attributeBase (.Name y p1) "pop" X.env (eval (.Name y p1) X.env) = eval (.Name y p1) X.env := by rfl) (hline : (p2.endLine == p3.line) = true := by rfl) :
    SF X (.Assign [.Name x p'] (.Call (.Attribute (.Name y p1) "pop" p2) [] [] p3) pos) (sPop i j) :=
  ⟨fW_mono, (ps_set hN hi hx (pe_bm0 PySem.F.plainAttrs_list PySem.F.slot_list_pop PySem.F.type_list_pop mt_pop (pe_var hN2 hv2 hd hcd) hbase hline) hs hf).imp fun En σ H ⟨B, F, ρ, R, fl, e, q⟩ => by
    unfold sPop at e
    split at e
    · rename_i ps hp
      obtain ⟨p, hy, rfl⟩ := Option.map_eq_some_iff.mp e
      obtain ⟨a, xs, hσ, f, h0, h1, r⟩ := R.own hp
      have hl := r.length
      obtain ⟨u, hu, du⟩ := r.get hy
      refine ⟨.ref a, hσ, .inl ⟨rfl, xs, .inl (.inl h1)⟩, a, xs, u, rfl, rfl, h1, by rw [hl]; exact hu, ?_⟩
      exact q F _ _ ((R.setO hp hσ h1 (dpAll_dropLast r)).put (.v du) rfl) (Same.refl _)
    · cases e⟩
theorem e_sPop {ρ : Rho} {ps : List D} {p : D} (h : ρ[j]? = some (.ol (ps ++ [p]))) : sPop i j ρ = some (.nx ((ρ.set j (.ol ps)).set i (.v p))) := by
  unfold sPop
  rw [h]
  simp
end
end L2.P


set_option Elab.async false
set_option linter.all false
set_option maxRecDepth 100000
set_option maxHeartbeats 4000000
namespace L2.PS
open PySem PyProof.Rows L2
section
variable {prog : Program} {w : World} {A : Around} {E : Value → Shared → Prop} {s : Shared} {l : Addr} {xs : Array (Int × Tok)} {its : List Value} {ns : List Int}
theorem sum_intTup {Q : Value → Shared → Prop} (hh : A.handled = none) (hl : s.heap.IsTuple l (intItems xs))
    (h : ∀ h' tk t', (∀ b o, s.heap.get? b = some o → h'.get? b = some o) → Q (.int (preSum (numAt xs) xs.size) t') { s with heap := h', toks := tk }) :
    wpAny (model prog w) A (call (.builtin "sum") [.ref l]) Q E s := by
  have hlt : l < s.heap.objs.size := by obtain ⟨o, ho, _⟩ := id hl; exact Heap.lt_size ho
  have hli : l ≠ s.heap.objs.size := Nat.ne_of_lt hlt
  refine call_sum_walkG (wpAny_pyIter_tuple hl ?_)
  have hsz : (s.heap.push { cls := .type "tuple_iterator", data := .fields #[.ref l, .int 0 0] }).objs.size = s.heap.objs.size + 1 := Heap.size_push ..
  refine ⟨_, _, _, _, _, _, numAt xs, rfl, Walks.tuple (A := A.in1) hh _ l hli (intItems xs), ⟨⟨_, Heap.get?_push_size _ rfl, rfl, rfl⟩, hl.at fun o e => Heap.get?_push_of_some _ e⟩, fun b hb => ?_, (fun _ _ => intItems_at), fun h' tk t' hk => ?_⟩
  · rcases List.mem_cons.mp hb with rfl | hb
    · exact Nat.lt_of_lt_of_eq (Nat.lt_succ_self _) hsz.symm
    · have : b = l := by simpa using hb
      subst this
      exact Nat.lt_of_lt_of_eq (Nat.lt_succ_of_lt hlt) hsz.symm
  · have := h h' tk t' fun b o e => hk b o (fun z => Nat.ne_of_lt (Heap.lt_size e) (by simpa using z)) (Heap.get?_push_of_some _ e)
    simpa [intItems] using this
theorem sum_rawT {Q : Value → Shared → Prop} (hh : A.handled = none) (hl : s.heap.IsTuple l its.toArray) (hi : IntsAre its ns)
    (h : ∀ h' tk t', (∀ b o, s.heap.get? b = some o → h'.get? b = some o) → Q (.int ns.sum t') { s with heap := h', toks := tk }) : wpAny (model prog w) A (call (.builtin "sum") [.ref l]) Q E s := by
  obtain ⟨xs, e⟩ := hi.allInts.items
  have hn : numsOf (intItems xs).toList = ns := by rw [← e]; exact hi.numsOf
  rw [nums_intItems] at hn
  rw [e] at hl
  refine sum_intTup hh hl fun h' tk t' hk => ?_
  have := h h' tk t' hk
  rw [preSum_eq, List.take_of_length_le (by simp), hn]; exact this
end
end L2.PS
namespace L2.P
open PySem PySem.Spec PyProof.Rows L2
def rSumT (K : Fg) : List V → Hp → VK → Prop := fun vs H Q => ∃ (a : Addr) (ns : List Int), vs = [V.ref a] ∧ SqT K H a (ns.map V.int) ∧ Q (.int ns.sum) H
theorem cr_sumT {X : Cx} (hc : X.calm = true) : CallR X (.builtin "sum") (rSumT X.K) := by
  intro pins s σ H vs us Q I r h
  obtain ⟨a, ns, rfl, hs, q⟩ := h
  obtain ⟨its, rv, hl, _⟩ := I.tuple hs
  rw [Vals.ref1 r]
  exact PS.sum_rawT (I.ok.hd hc) hl rv.ints fun h' tk t' hk => ⟨.int _, H, I.kept hk, ⟨_, rfl⟩, q⟩
def gSumA : GA
  | [.list xs] => (intsD xs).map fun ns => .int ns.sum
  | [.tuple xs] => (intsD xs).map fun ns => .int ns.sum
  | _ => none
theorem cg_sumA {X : Cx} (hc : X.calm = true) : CallG X (.builtin "sum") gSumA := ⟨_, CallR.or (cr_sum hc) (cr_sumT hc), fun B F H σ ρ vs ps z Q R d e k => by
  unfold gSumA at e
  split at e
  · obtain ⟨bs, e1, rfl⟩ := Option.map_eq_some_iff.mp e
    obtain ⟨v, rfl, h⟩ := dp1 (d.dp R)
    rw [intsD_some e1] at h
    obtain ⟨a, xs, rfl, s, r⟩ := Dp.inv_lst h
    exact .inl ⟨a, bs, rfl, by rw [dpAll_ints bs r] at s; exact s, k F H _ R (Same.refl _) (.int _)⟩
  · obtain ⟨bs, e1, rfl⟩ := Option.map_eq_some_iff.mp e
    obtain ⟨v, rfl, h⟩ := dp1 (d.dp R)
    rw [intsD_some e1] at h
    obtain ⟨a, xs, rfl, s, r⟩ := Dp.inv_tup h
    exact .inr ⟨a, bs, rfl, by rw [dpAll_ints bs r] at s; exact s, k F H _ R (Same.refl _) (.int _)⟩
  · cases e⟩
theorem c_sumA {X : Cx} {a : Expr} {p pos : Pos} {f : Rho → Option (List D)} (B : Bi X.mg) (h : XAF X [a] f) (hc : X.calm = true := by rfl) (hg : Gl X "sum" := by rfl) (he : starEach [a] X.env = (false, eval a X.env) :: starEach [] X.env := by rfl) : EF X (.Call (.Name "sum" p) [a] [] pos) (aOf gSumA f) := EW.f (ew_callB (cg_sumA hc) h hg B.sum (by decide +kernel) (he := he) (hpl := rfl))
theorem e_gSumT (ns : List Int) : gSumA [tR ns] = some (.int ns.sum) := by
  show (intsD (ns.map PyData.int)).map _ = _
  rw [intsD_map]; rfl
end L2.P


set_option Elab.async false
set_option linter.all false
set_option maxRecDepth 100000
set_option maxHeartbeats 4000000
namespace L2.P
open PySem PySem.Spec PyProof.Rows L2
section
variable {X : Cx}
def gMaxA : GA
  | [.list (x :: xs)] => if okM (x :: xs) = true then some (PySem.W.maxD x xs) else none
  | [.tuple (x :: xs)] => if okM (x :: xs) = true then some (PySem.W.maxD x xs) else none
  | _ => none
variable {a : Expr} {p pos : Pos}
end
theorem maxA_L (xs : List D) : gMaxA [.list xs] = gMax [.list xs] := by cases xs <;> rfl
theorem max_intsL {ns : List Int} (hne : ns ≠ []) : ∃ M ∈ ns, gMaxA [.list (ns.map .int)] = some (.int M) ∧ ∀ n ∈ ns, n ≤ M := by rw [maxA_L]; exact max_ints hne
end L2.P


set_option Elab.async false
set_option linter.all false
set_option maxRecDepth 100000
set_option maxHeartbeats 4000000
namespace L2.P
open PySem PySem.Spec PyProof.Rows L2
section
variable {X : Cx} {e : Expr} {pos : Pos}
end
section
variable {w : List (List Int)} {st goal : List Int}
end
end L2.P


set_option Elab.async false
set_option linter.all false
set_option maxRecDepth 100000
set_option maxHeartbeats 4000000
namespace L2.P
open PySem PySem.Spec PyProof.Rows L2
def LtE (a b : Int × Int) : Prop := a.1 < b.1 ∨ (a.1 = b.1 ∧ a.2 < b.2)
section
variable {w : List (List Int)} {st cs : List Int}
end
end L2.P


set_option Elab.async false
set_option linter.all false
set_option maxRecDepth 100000
set_option maxHeartbeats 4000000
namespace L2.P
open PySem PySem.Spec PyProof.Rows L2
theorem count_sum : ∀ (n : Nat) (ls : List Int), (∀ x ∈ ls, 0 ≤ x ∧ x < n) → ((upI n).map fun k => ((ls.count k : Nat) : Int)).sum = (ls.length : Int)
  | n, [], _ => by
    have : ((upI n).map fun k => (((List.count k ([] : List Int)) : Nat) : Int)) = (upI n).map fun _ => (0 : Int) := List.map_congr_left fun k _ => by simp
    rw [this]
    induction (upI n) with
    | nil => rfl
    | cons a l ih => rw [List.map_cons, List.sum_cons, ih]; rfl
  | n, x :: ls, h => by
    have ih := count_sum n ls fun y hy => h y (List.mem_cons_of_mem _ hy)
    obtain ⟨h0, h1⟩ := h x List.mem_cons_self
    have key : ∀ l : List Int, l.Nodup → (l.map fun k => (((x :: ls).count k : Nat) : Int)).sum = (l.map fun k => ((ls.count k : Nat) : Int)).sum + (if x ∈ l then 1 else 0) := fun l => by
      induction l with
      | nil => intro _; rfl
      | cons a l ihl =>
        intro hn
        obtain ⟨n1, n2⟩ := List.nodup_cons.mp hn
        rw [List.map_cons, List.map_cons, List.sum_cons, List.sum_cons, ihl n2, List.count_cons]
        by_cases c : x = a
        · subst c
          rw [if_neg n1, if_pos List.mem_cons_self]
          simp; omega
        · by_cases d : x ∈ l
          · rw [if_pos d, if_pos (List.mem_cons_of_mem _ d), if_neg (by simpa using c)]; omega
          · rw [if_neg d, if_neg (fun z => (List.mem_cons.mp z).elim c d), if_neg (by simpa using c)]; omega
    rw [key _ (pw_nodup (pw_upI n)), ih, if_pos (mem_upI.mpr ⟨h0, h1⟩), List.length_cons]
    omega
section
variable {w : List (List Int)} {st cs : List Int}
end
end L2.P


set_option Elab.async false
set_option linter.all false
set_option maxRecDepth 100000
set_option maxHeartbeats 4000000
namespace L2.P
open PySem PySem.Spec PyProof.Rows L2
def modA (rows : List (List Int)) (i : Nat) (j : Int) : List (List Int) := rows.modify i (· ++ [j])
def addA (rows : List (List Int)) (e : Int × Int) : List (List Int) := modA (modA rows e.1.toNat e.2) e.2.toNat e.1
/-- the lists stand -/
structure GridL (H0 H : Hp) (L : Addr) (ds : List Addr) (rows : List (List Int)) : Prop where
  lst : H L = some (.lst (ds.map V.ref))
  nd : ds.Nodup
  nL : L ∉ ds
  len : rows.length = ds.length
  row : ∀ (i : Nat) (a : Addr) (r : List Int), ds[i]? = some a → rows[i]? = some r → H a = some (.lst (r.map V.int))
  old : ∀ b o, H0 b = some o → H b = some o
  fre : ∀ a ∈ ds, H0 a = none
  freL : H0 L = none
theorem GridL.put {H0 H : Hp} {L : Addr} {ds : List Addr} {rows : List (List Int)} (G : GridL H0 H L ds rows) {i : Nat} {a : Addr} {r : List Int} (ha : ds[i]? = some a) (hr : rows[i]? = some r) (j : Int) :
    GridL H0 (upd H a (.lst (r.map V.int ++ [V.int j]))) L ds (modA rows i j) where
  lst := by
    have ne : L ≠ a := fun e => G.nL (e ▸ List.mem_of_getElem? ha)
    rw [upd_ne ne]; exact G.lst
  nd := G.nd
  nL := G.nL
  len := by unfold modA; rw [List.length_modify]; exact G.len
  row := fun k b r' hb hr' => by
    unfold modA at hr'
    rw [List.getElem?_modify] at hr'
    by_cases e : i = k
    · subst e
      rw [ha] at hb; cases hb
      rw [hr] at hr'
      simp at hr'
      subst hr'
      rw [upd_same, List.map_append]; rfl
    · simp only [if_neg e] at hr'
      have ne : b ≠ a := fun q => by
        subst q
        exact e ((Grid.put.nodup_ix_addr G.nd ha hb))
      rw [upd_ne ne]
      exact G.row k b r' hb (by simpa using hr')
  old := fun b o e => by
    have ne : b ≠ a := fun q => by
      subst q
      rw [G.fre b (List.mem_of_getElem? ha)] at e; cases e
    rw [upd_ne ne]; exact G.old b o e
  fre := G.fre
  freL := G.freL
def tWBy1 : TE := tLc (iRng1 (tCons (tVar 0) tNil)) (gName 5) tYes (tLst tNil) [5]
def tWBy2 (K : Fg) : TS := tFor (iList K (tVar 1)) (L2.gTup K 2 (gCons (gName 3) (gCons (gName 4) gNil))) (tSeq (tDrop (tBM K "list" rAppend (tOp (rIxL K) (tVar 2) (tVar 3)) (tCons (tVar 4) tNil))) (tDrop (tBM K "list" rAppend (tOp (rIxL K) (tVar 2) (tVar 4)) (tCons (tVar 3) tNil))))
def tWBy3 (w : World) (K : Fg) : TE := tCB (rTupOf K) (tCons (tLc (iList K (tVar 2)) (gName 6) tYes (tCB (rTupOf K) (tCons (tCB (rSortedSet w) (tCons (tCB (rSetL w K) (tCons (tVar 6) tNil)) tNil)) tNil)) [6]) tNil)
def tWBy (w : World) (K : Fg) : TS := tSeq (tAsg tWBy1 (gName 2)) (tSeq (tWBy2 K) (tRet (tWBy3 w K)))
theorem wby1_ok {H : Hp} {n : Nat} {c : V} {Q : VK} (hn : n ≤ 1000) (q : ∀ L ds H', GridL H H' L ds (List.replicate n []) → Q (.ref L) H') : tWBy1 [some (.int (n : Int)), some c, none, none, none, none, none] H Q := by
  refine ⟨_, rfl, (n : Int), rfl, by omega, by omega, fun D hD => ?_⟩
  refine lc_range (lo := 0) (n := (n : Int).toNat) (fun i H' => ∃ ds : List Addr, ds.length = i ∧ GridL H H' D ds (List.replicate i [])) ⟨[], rfl, ?_⟩ (fun i H' hi ⟨ds, hl, G⟩ => ⟨rfl, by rw [sizeLine_eq]; simp, fun p hp => ⟨ds.map V.ref, ?_, ?_, ds ++ [p], ?_, ?_⟩⟩) fun H' ⟨ds, hl, G⟩ => ?_
  · refine ⟨upd_same, List.nodup_nil, by simp, rfl, fun i a r h => by simp at h, fun b o e => ?_, fun a h => by simp at h, hD⟩
    rw [upd_ne (ne_of_none e hD)]; exact e
  · rw [upd_ne (ne_of_none G.lst hp)]; exact G.lst
  · rw [List.length_map, hl, sizeLine_eq]; omega
  · rw [List.length_append, hl]; rfl
  · have neD : D ≠ p := ne_of_none G.lst hp
    have pnd : p ∉ ds := fun hm => by
      obtain ⟨k, hk⟩ := List.getElem?_of_mem hm
      have hkl : k < (List.replicate i ([] : List Int)).length := by
        rw [List.length_replicate, ← hl]; exact (List.getElem?_eq_some_iff.mp hk).1
      have := G.row k p [] hk (by rw [List.getElem?_replicate]; rw [List.length_replicate] at hkl; rw [if_pos hkl])
      rw [hp] at this; cases this
    refine ⟨by rw [upd_same, List.map_append]; rfl, List.nodup_append.mpr ⟨G.nd, by simp, fun a ha b hb e => pnd (by simp at hb; subst hb; subst e; exact ha)⟩, ?_, by simp [hl], fun k a r hk hr => ?_, fun b o e => ?_, fun a ha => ?_, G.freL⟩
    · intro hm
      rcases List.mem_append.mp hm with hm | hm
      · exact G.nL hm
      · simp at hm; exact neD hm
    · rw [List.getElem?_replicate] at hr
      split at hr
      · cases hr
        rw [List.getElem?_append] at hk
        split at hk
        · rename_i hkl
          have ne1 : a ≠ D := fun e => G.nL (e ▸ List.mem_of_getElem? hk)
          have ne2 : a ≠ p := fun e => pnd (e ▸ List.mem_of_getElem? hk)
          rw [upd_ne ne1, upd_ne ne2]
          exact G.row k a [] hk (by rw [List.getElem?_replicate, if_pos (by omega)])
        · have ea : a = p := by
            have := List.mem_of_getElem? hk
            simpa using this
          subst ea
          rw [upd_ne (Ne.symm neD), upd_same]; rfl
      · cases hr
    · have h1 := G.old b o e
      rw [upd_ne (fun z => by subst z; rw [G.freL] at e; cases e), upd_ne (ne_of_none h1 hp)]; exact h1
    · rcases List.mem_append.mp ha with ha | ha
      · exact G.fre a ha
      · simp at ha
        subst ha
        cases z : H a with
        | none => rfl
        | some o => rw [G.old a o z] at hp; cases hp
  · rw [Int.toNat_natCast] at hl G
    exact q D ds H' G
theorem addA_len (rows : List (List Int)) (e : Int × Int) : (addA rows e).length = rows.length := by unfold addA modA; rw [List.length_modify, List.length_modify]
theorem modA_all {P : List Int → Prop} {rows : List (List Int)} {k : Nat} {j : Int} (h : ∀ r ∈ rows, P r) (hp : ∀ r, P r → P (r ++ [j])) : ∀ r ∈ modA rows k j, P r := fun r hr => by
  unfold modA at hr
  obtain ⟨m, hm⟩ := List.getElem?_of_mem hr
  rw [List.getElem?_modify] at hm
  obtain ⟨r0, hr0, rfl⟩ := Option.map_eq_some_iff.mp hm
  have := h r0 (List.mem_of_getElem? hr0)
  split
  · exact hp _ this
  · exact this
theorem wby2_ok {K : Fg} {H H1 : Hp} {n : Nat} {cs : Addr} {xs : List V} {es : List (Int × Int)} {L : Addr} {ds : List Addr} {rows : List (List Int)} {a : V} {En : Ends} (hz : es.length ≤ 400) (hl : rows.length = n) (hrl : ∀ r ∈ rows, r.length = 0)
    (hS : SqL K H cs xs) (hx : DpAll K H xs (es.map fun e => .tuple [.int e.1, .int e.2])) (he : EdgesOk n es) (G : GridL H H1 L ds rows)
    (q : ∀ (y3 y4 : Option V) H', GridL H H' L ds (es.foldl addA rows) → (es.foldl addA rows).length = n → (∀ r ∈ es.foldl addA rows, r.length ≤ 2 * es.length ∧ ∀ k ∈ r, 0 ≤ k ∧ k < n) → En.nx [some a, some (.ref cs), some (.ref L), y3, y4, none, none] H') : tWBy2 K En [some a, some (.ref cs), some (.ref L), none, none, none, none] H1 := by
  refine ⟨_, rfl, cs, rfl, ⟨xs, sqL_same G.old hS⟩, ?_⟩
  refine for_list (xs := xs) (fun i σ H' => ∃ y3 y4, σ = [some a, some (.ref cs), some (.ref L), y3, y4, none, none] ∧ ∃ rs : List (List Int), rs = (es.take i).foldl addA rows ∧ rs.length = n ∧ (∀ r ∈ rs, r.length ≤ 2 * i ∧ ∀ k ∈ r, 0 ≤ k ∧ k < n) ∧ GridL H H' L ds rs)
    ⟨none, none, rfl, rows, rfl, hl, (fun r hr => by
      have := hrl r hr
      have e : r = [] := List.length_eq_zero_iff.mp this
      subst e
      exact ⟨Nat.zero_le _, fun k hk => by cases hk⟩), G⟩ (fun i σ H' _ ⟨_, _, _, rs, _, _, _, G'⟩ => sqL_same G'.old hS) (fun i x σ H' hxi ⟨y3, y4, eσ, rs, ers, hlr, hzr, G'⟩ => ?_) fun σ H' ⟨y3, y4, eσ, rs, ers, hlr, hzr, G'⟩ => ?_
  · obtain ⟨p, hp, dp⟩ := hx.getV hxi
    rw [List.getElem?_map] at hp
    obtain ⟨e, hei, rfl⟩ := Option.map_eq_some_iff.mp hp
    obtain ⟨t, ys, rfl, st, ry⟩ := Dp.inv_tup dp
    obtain ⟨v1, v2, rfl, d1, d2⟩ := dp2 ry
    obtain rfl := Dp.inv_int d1
    obtain rfl := Dp.inv_int d2
    obtain ⟨e1, e2, e3, e4⟩ := he e (List.mem_of_getElem? hei)
    subst eσ
    refine ⟨t, _, rfl, sqT_same G'.old st, rfl, _, _, rfl, _, _, rfl, rfl, ?_⟩
    have hld := G'.len
    have at_ : ∀ (k : Int), 0 ≤ k → k < n → ∃ b, ds[k.toNat]? = some b ∧ atI (ds.map V.ref) k = some (.ref b) := fun k h1 h2 => by
      have hk : k.toNat < ds.length := by omega
      refine ⟨ds[k.toNat], List.getElem?_eq_getElem hk, ?_⟩
      have ek : k = (k.toNat : Int) := by omega
      have := atI_nat (xs := ds.map V.ref) (j := k.toNat) (v := .ref ds[k.toNat]) (by rw [List.getElem?_map]; simp [hk])
      rw [← ek] at this
      exact this
    have hil : i < es.length := (List.getElem?_eq_some_iff.mp hei).1
    -- found[one].append(other)
    obtain ⟨b1, hb1, at1⟩ := at_ e.1 e1 e2
    have hr1 : e.1.toNat < rs.length := by omega
    have g1 := G'.put hb1 (List.getElem?_eq_getElem hr1) e.2
    have row1 := G'.row _ _ _ hb1 (List.getElem?_eq_getElem hr1)
    have z1 := (hzr _ (List.getElem_mem hr1)).1
    refine ⟨_, rfl, _, rfl, L, ds.map V.ref, e.1, _, rfl, rfl, .inl (.inl G'.lst), at1, .inl ⟨rfl, _, .inl (.inl row1)⟩, ?_⟩
    refine ⟨_, rfl, b1, _, _, rfl, rfl, row1, by rw [List.length_map, sizeLine_eq]; omega, ?_⟩
    have hl1 : (modA rs e.1.toNat e.2).length = n := by unfold modA; rw [List.length_modify]; exact hlr
    have hm1 := modA_all (P := fun r => r.length ≤ 2 * i + 1 ∧ ∀ k ∈ r, 0 ≤ k ∧ k < n) (k := e.1.toNat) (j := e.2) (rows := rs) (fun r hr => ⟨by have := (hzr r hr).1; omega, (hzr r hr).2⟩)
    -- found[other].append(one)
    obtain ⟨b2, hb2, at2⟩ := at_ e.2 e3 e4
    have hr2 : e.2.toNat < (modA rs e.1.toNat e.2).length := by omega
    have row2 := g1.row _ _ _ hb2 (List.getElem?_eq_getElem hr2)
    have all1 : ∀ r ∈ modA rs e.1.toNat e.2, r.length ≤ 2 * i + 1 ∧ ∀ k ∈ r, 0 ≤ k ∧ k < n := fun r hr => by
      unfold modA at hr
      obtain ⟨m, hm⟩ := List.getElem?_of_mem hr
      rw [List.getElem?_modify] at hm
      obtain ⟨r0, hr0, rfl⟩ := Option.map_eq_some_iff.mp hm
      obtain ⟨a1, a2⟩ := hzr r0 (List.mem_of_getElem? hr0)
      split
      · refine ⟨by rw [List.length_append, List.length_singleton]; omega, fun k hk => ?_⟩
        rcases List.mem_append.mp hk with hk | hk
        · exact a2 k hk
        · rw [List.mem_singleton.mp hk]; exact ⟨e3, e4⟩
      · exact ⟨by omega, a2⟩
    have all2 : ∀ r ∈ addA rs e, r.length ≤ 2 * (i + 1) ∧ ∀ k ∈ r, 0 ≤ k ∧ k < n := fun r hr => by
      unfold addA modA at hr
      obtain ⟨m, hm⟩ := List.getElem?_of_mem hr
      rw [List.getElem?_modify] at hm
      obtain ⟨r0, hr0, rfl⟩ := Option.map_eq_some_iff.mp hm
      obtain ⟨a1, a2⟩ := all1 r0 (List.mem_of_getElem? hr0)
      split
      · refine ⟨by rw [List.length_append, List.length_singleton]; omega, fun k hk => ?_⟩
        rcases List.mem_append.mp hk with hk | hk
        · exact a2 k hk
        · rw [List.mem_singleton.mp hk]; exact ⟨e1, e2⟩
      · exact ⟨by omega, a2⟩
    have z2 := (all1 _ (List.getElem_mem hr2)).1
    refine ⟨_, rfl, _, rfl, L, ds.map V.ref, e.2, _, rfl, rfl, .inl (.inl g1.lst), at2, .inl ⟨rfl, _, .inl (.inl row2)⟩, ?_⟩
    refine ⟨_, rfl, b2, _, _, rfl, rfl, row2, by rw [List.length_map, sizeLine_eq]; omega, ?_⟩
    refine ⟨_, _, rfl, addA rs e, ?_, by rw [addA_len]; exact hlr, all2, g1.put hb2 (List.getElem?_eq_getElem hr2) e.1⟩
    rw [List.take_add_one, hei, ers]
    simp [List.foldl_append]
  · subst eσ
    have hxl : xs.length = es.length := by rw [hx.length, List.length_map]
    rw [hxl, List.take_length] at ers
    rw [hxl] at hzr
    subst ers
    exact q y3 y4 H' G' hlr hzr
theorem wby3_ok {w : World} {K : Fg} {H0 H1 : Hp} {L : Addr} {ds : List Addr} {rows : List (List Int)} {a c : V} {y3 y4 : Option V} {Q : VK} (hn : rows.length ≤ 1000) (hsm : ∀ r ∈ rows, r.length ≤ 1000 ∧ (sortD r).length < 64) (G : GridL H0 H1 L ds rows)
    (q : ∀ (l : Addr) (ts : List Addr) (H' : Hp), Same H1 H' → H0 l = none → H' l = some (.tup (ts.map V.ref)) → ts.length = rows.length → (∀ (k : Nat) (t : Addr), ts[k]? = some t → H0 t = none ∧ ∃ r, rows[k]? = some r ∧ H' t = some (.tup ((sortD r).map V.int))) → Q (.ref l) H') :
    tWBy3 w K [some a, some c, some (.ref L), y3, y4, none, none] H1 Q := by
  refine ⟨.ref L, rfl, L, rfl, ⟨_, .inl (.inl G.lst)⟩, fun D hD => ?_⟩
  have none0 : ∀ {H' : Hp} {p : Addr}, Same H1 H' → H' p = none → H0 p = none := fun {H' p} s e => by
    cases z : H0 p with
    | none => rfl
    | some o => rw [s p o (G.old p o z)] at e; cases e
  refine lc_list (K := K) (a := L) (xs := ds.map V.ref) (fun i H' => Same H1 H' ∧ ∃ ts : List Addr, ts.length = i ∧ H' D = some (.lst (ts.map V.ref)) ∧ ∀ (k : Nat) (t : Addr), ts[k]? = some t → H0 t = none ∧ ∃ r, rows[k]? = some r ∧ H' t = some (.tup ((sortD r).map V.int)))
    ⟨same_upd hD, [], rfl, upd_same, fun k t h => by simp at h⟩ (fun i H' _ ⟨s, _⟩ => .inl (.inl (s _ _ G.lst))) (fun i x H' hx ⟨s, ts, hl, hDl, hts⟩ => ?_) fun H' ⟨s, ts, hl, hDl, hts⟩ => ?_
  · refine ⟨rfl, ?_⟩
    rw [List.getElem?_map] at hx
    obtain ⟨b, hb, rfl⟩ := Option.map_eq_some_iff.mp hx
    have hi : i < rows.length := by rw [G.len]; exact (List.getElem?_eq_some_iff.mp hb).1
    have hri := List.getElem?_eq_getElem hi
    generalize rows[i] = r at hri
    obtain ⟨hrl, hr64⟩ := hsm r (List.mem_of_getElem? hri)
    refine ⟨.ref b, rfl, b, r, rfl, .inl (.inl (s _ _ (G.row i b r hb hri))), hrl, fun p hp => ?_⟩
    refine ⟨p, _, _, rfl, upd_same, hr64, fun ns w' hpw hmem hlen hw => ?_⟩
    have en : ns = sortD r := pw_unique hpw (pw_sortD r) fun k => by rw [hmem k, mem_sortD]; simp
    subst en
    refine ⟨w', _, rfl, .inl ⟨.inl (.inl upd_same), fun t ht => ?_⟩⟩
    have s1 := same_upd (o := SetO w p (fun j => decide (j ∈ r)) (sortD r).length) hp
    have s2 := same_upd (o := .lst ((sortD r).map V.int)) hw
    have s3 := same_upd (o := .tup ((sortD r).map V.int)) ht
    have s13 := (s1.trans s2).trans s3
    have t0 : H' t = none := by
      cases z : H' t with
      | none => rfl
      | some o => rw [s2 _ _ (s1 _ _ z)] at ht; cases ht
    have tD : t ≠ D := fun e => by subst e; rw [hDl] at t0; cases t0
    refine ⟨ts.map V.ref, s13 _ _ hDl, ?_, fun b' o e => ?_, ts ++ [t], by simp [hl], ?_, fun k u hu => ?_⟩
    · rw [List.length_map, hl, sizeLine_eq]; omega
    · have neD : b' ≠ D := fun z => by subst z; rw [hD] at e; cases e
      rw [upd_ne neD]; exact s13 _ _ (s _ _ e)
    · rw [upd_same, List.map_append]; rfl
    · rw [List.getElem?_append] at hu
      split at hu
      · obtain ⟨g1, r', g2, g3⟩ := hts k u hu
        have uD : u ≠ D := fun e => by subst e; rw [hDl] at g3; cases g3
        exact ⟨g1, r', g2, by rw [upd_ne uD]; exact s13 _ _ g3⟩
      · rename_i hk
        have eu : u = t := by
          have := List.mem_of_getElem? hu
          simpa using this
        have ek : k = i := by
          have := (List.getElem?_eq_some_iff.mp hu).1
          simp at this; omega
        subst eu; subst ek
        exact ⟨none0 s t0, r, hri, by rw [upd_ne tD, upd_same]⟩
  · rw [List.length_map] at hl
    refine ⟨D, _, rfl, .inl ⟨.inl (.inl hDl), fun l hlf => ?_⟩⟩
    have s1 := same_upd (o := .tup (ts.map V.ref)) hlf
    exact q l ts _ (s.trans s1) (none0 s hlf) upd_same (by rw [hl, G.len]) fun k t hk => by
      obtain ⟨g1, r, g2, g3⟩ := hts k t hk
      exact ⟨g1, r, g2, s1 _ _ g3⟩
theorem sortD_congr {r s : List Int} (h : ∀ k, k ∈ r ↔ k ∈ s) : sortD r = sortD s := pw_unique (pw_sortD r) (pw_sortD s) fun k => by rw [mem_sortD, mem_sortD, h]
theorem rows_same : ∀ (es : List (Int × Int)) (rows qs : List (List Int)), rows.map sortD = qs.map sortD → (es.foldl addA rows).map sortD = (es.foldl addE qs).map sortD
  | [], _, _, h => h
  | e :: es, rows, qs, h => by
    have step : ∀ (rows qs : List (List Int)) (i : Nat) (j : Int), rows.map sortD = qs.map sortD → (modA rows i j).map sortD = (modR qs i j).map sortD := fun rows qs i j h => by
      apply List.ext_getElem?
      intro k
      have hk := congrArg (fun l => l[k]?) h
      simp only [List.getElem?_map] at hk
      unfold modA modR
      rw [List.getElem?_map, List.getElem?_map, List.getElem?_modify, List.getElem?_modify]
      cases e1 : rows[k]? with
      | none =>
        rw [e1] at hk
        cases e2 : qs[k]? with
        | none => rfl
        | some s => rw [e2] at hk; cases hk
      | some r =>
        rw [e1] at hk
        cases e2 : qs[k]? with
        | none => rw [e2] at hk; cases hk
        | some s =>
          rw [e2] at hk
          have hrs : sortD r = sortD s := Option.some.inj hk
          have hm : ∀ z, z ∈ r ↔ z ∈ s := fun z => by rw [← mem_sortD (ns := r), hrs, mem_sortD]
          show some (sortD (if i = k then r ++ [j] else r)) = some (sortD (if i = k then insF j s else s))
          by_cases c : i = k
          · rw [if_pos c, if_pos c]
            congr 1
            refine sortD_congr fun z => ?_
            show z ∈ r ++ [j] ↔ z ∈ insF j s
            rw [mem_insF, List.mem_append, List.mem_singleton, hm]
            exact or_comm
          · rw [if_neg c, if_neg c]
            exact congrArg some hrs
    rw [List.foldl_cons, List.foldl_cons]
    exact rows_same es _ _ (step _ _ _ _ (step _ _ _ _ h))
def edgesD : List D → Option (List (Int × Int))
  | [] => some []
  | .tuple [.int a, .int b] :: xs => (edgesD xs).map ((a, b) :: ·)
  | _ => none
theorem edgesD_map : ∀ es : List (Int × Int), edgesD (es.map edgeD) = some es
  | [] => rfl
  | e :: es => by
    show (edgesD (es.map edgeD)).map _ = _
    rw [edgesD_map es]; rfl
theorem edgesD_some : ∀ {xs : List D} {es : List (Int × Int)}, edgesD xs = some es → xs = es.map edgeD
  | [], es, h => by cases h; rfl
  | x :: xs, es, h => by
    unfold edgesD at h
    split at h
    · rename_i z; cases z
    · rename_i a b ys z
      cases z
      obtain ⟨es', h', rfl⟩ := Option.map_eq_some_iff.mp h
      rw [List.map_cons, ← edgesD_some h']; rfl
    · cases h
/-- web_by -/
def gWebBy : GA
  | [.int z, .list xs] => (edgesD xs).bind fun es => if (0 ≤ z ∧ z ≤ 60) ∧ es.length ≤ 400 ∧ (es.all fun e => decide ((0 ≤ e.1 ∧ e.1 < z) ∧ 0 ≤ e.2 ∧ e.2 < z)) = true then some (webD ((byRows z.toNat es).map sortD)) else none
  | _ => none
theorem e_gWebBy {n : Nat} {es : List (Int × Int)} (h1 : n ≤ 60) (h2 : es.length ≤ 400) (h3 : EdgesOk n es) : gWebBy [.int (n : Int), .list (es.map edgeD)] = some (webD ((byRows n es).map sortD)) := by
  show (edgesD (es.map edgeD)).bind _ = _
  rw [edgesD_map, Option.bind_some, if_pos ⟨by omega, h2, List.all_eq_true.mpr fun e he => by
    obtain ⟨a, b, c, d⟩ := h3 e he
    exact decide_eq_true ⟨⟨a, b⟩, c, d⟩⟩, Int.toNat_natCast]
theorem webby_sp {w : World} {K : Fg} {vs : List V} {H : Hp} {Q : VK} {E : XK} {a b c d e f g : Str} (h : spG K 2 gWebBy vs H Q E) : tWBy w K { nx := fun _ H' => Q .non H', rt := Q } (start [a, b, c, d, e, f, g] vs) H := by
  obtain ⟨hl, F, ps, sF, tb, dd, z0, hz0, k⟩ := h
  unfold gWebBy at hz0
  split at hz0
  · rename_i z xs0
    obtain ⟨es, hes, hz1⟩ := Option.bind_eq_some_iff.mp hz0
    split at hz1
    · rename_i hc
      cases hz1
      obtain ⟨⟨c0, c1⟩, c2, c3⟩ := hc
      have hxe := edgesD_some hes
      subst hxe
      have hn : z = ((z.toNat : Nat) : Int) := by omega
      generalize z.toNat = n at hn k
      subst hn
      have h3 : EdgesOk n es := fun e he => by
        have := of_decide_eq_true (List.all_eq_true.mp c3 e he)
        exact ⟨this.1.1, this.1.2, this.2.1, this.2.2⟩
      obtain ⟨v, u, rfl, d1, d2⟩ := dp2 dd
      obtain rfl := Dp.inv_int d1
      obtain ⟨cs, xs, rfl, sL, r⟩ := Dp.inv_lst d2
      have e0 : start [a, b, c, d, e, f, g] [V.int (n : Int), V.ref cs] = [some (.int (n : Int)), some (.ref cs), none, none, none, none, none] := rfl
      rw [e0]
      unfold tWBy tSeq tAsg
      refine wby1_ok (by omega) fun L ds H1 G => ?_
      refine wby2_ok (rows := List.replicate n []) c2 List.length_replicate (fun r hr => by rw [List.eq_of_mem_replicate hr]; rfl) (sqL_same sF sL) (r.same sF) h3 G fun y3 y4 H2 G2 hlen hall => ?_
      have hval : ((es.foldl addA (List.replicate n [])).map sortD) = (byRows n es).map sortD := rows_same es _ _ rfl
      refine wby3_ok (by rw [hlen]; omega) (fun r hr => ⟨by have := (hall r hr).1; omega, ?_⟩) G2 fun l ts H3 s hl0 hlt hts htt => ?_
      · have := nodup_len (pw_nodup (pw_sortD r)) (ls := upI n) fun k hk => mem_upI.mpr ((hall r hr).2 k (mem_sortD.mp hk))
        rw [upI_length] at this
        omega
      have sH : Same H H3 := fun b o z => s _ _ (G2.old b o z)
      refine k (joinH F H H3) H3 (.ref l) joinH_old (sameX_of sH) (joinH_sub sF sH) (tb.join sH) (fun b h1 h2 => .inl (joinH_fre b h1 h2)) ?_
      rw [← hval]
      refine .tup (joinH_new sF hl0 hlt) ?_
      have items : ∀ (ts : List Addr) (rows : List (List Int)), ts.length = rows.length → (∀ (k : Nat) (t : Addr), ts[k]? = some t → H t = none ∧ ∃ r, rows[k]? = some r ∧ H3 t = some (.tup ((sortD r).map V.int))) →
          DpAll K (joinH F H H3) (ts.map V.ref) ((rows.map sortD).map fun r => .tuple (r.map .int)) := fun ts => by
        induction ts with
        | nil =>
          intro rows hl _
          cases rows with
          | nil => exact .nil
          | cons _ _ => cases hl
        | cons t ts ih =>
          intro rows hl h
          cases rows with
          | nil => cases hl
          | cons r rows =>
            obtain ⟨g1, r', g2, g3⟩ := h 0 t rfl
            obtain rfl : r = r' := by simpa using g2
            exact .cons (.tup (joinH_new sF g1 g3) (dpAll_of_ints _)) (ih rows (by simpa using hl) fun k u hu => h (k + 1) u (by simpa using hu))
      exact items ts _ hts htt
    · cases hz1
  · cases hz0
end L2.P


set_option Elab.async false
set_option linter.all false
set_option maxRecDepth 100000
set_option maxHeartbeats 4000000
namespace L2.P
open PySem PySem.Spec PyProof.Rows L2
section
variable {X : Cx}
end
end L2.P


set_option Elab.async false
set_option linter.all false
set_option maxRecDepth 100000
set_option maxHeartbeats 4000000
namespace L2.P
open PySem PySem.Spec PyProof.Rows L2
section
variable {prog : Program} {w : World} {A : Around} {E : Value → Shared → Prop} {s : Shared}
end
section
variable {X : Cx} {e : Expr} {pos : Pos}
end
end L2.P


set_option Elab.async false
set_option linter.all false
set_option maxRecDepth 100000
set_option maxHeartbeats 4000000
namespace L2.P
open PySem PySem.Spec PyProof.Rows L2
theorem DtAll.getV {K : Fg} {F : Hp} : ∀ {es : List (List Key × V)} {kvs : List (D × D)} {i : Nat} {k : List Key} {v : V}, DtAll K F es kvs → es[i]? = some (k, v) → ∃ q, kvs[i]? = some q ∧ Dp K F v q.2
  | _, _, _, _, _, .nil _, h => by simp at h
  | _, _, 0, _, _, .cons a _, h => by
    simp at h
    obtain ⟨_, rfl⟩ := h
    exact ⟨_, rfl, a⟩
  | _, _, i + 1, _, _, .cons _ b, h => by simpa using DtAll.getV (i := i) b (by simpa using h)
theorem DkAll.getV {K : Fg} {F : Hp} : ∀ {es : List (Key × V)} {kvs : List (D × D)} {i : Nat} {k : Key} {v : V}, DkAll K F es kvs → es[i]? = some (k, v) → ∃ n q, k = .inl n ∧ kvs[i]? = some (.int n, q) ∧ Dp K F v q
  | _, _, _, _, _, .nil, h => by simp at h
  | _, _, 0, _, _, .cons (k := n) (p := p) a _, h => by
    simp at h
    obtain ⟨rfl, rfl⟩ := h
    exact ⟨n, p, rfl, rfl, a⟩
  | _, _, i + 1, _, _, .cons _ b, h => by simpa using DkAll.getV (i := i) b (by simpa using h)
/-- the dict that a value is -/
def dictT : D → Option (List (D × D))
  | .dict kvs => if (kindOf kvs).isSome = true then some kvs else none
  | _ => none
def hD (f : Rho → Option D) : Rho → Option (List (D × D)) := fun ρ => (f ρ).bind dictT
section
variable {X : Cx} {e : Expr}
end
end L2.P
namespace L2.P
open PySem PySem.Spec PyProof.Rows L2
section
variable {P : Program} {w : World} {K : PySem.W.Frag} {tg : Expr} {d : Addr} {o : Obj} {es : Array DictEntry} {ep : Nat}
end
section
variable {X : Cx} {tg e : Expr} {td : TE} {apos cpos : Pos}
theorem _root_.L2.PI.or {tg e : Expr} {t t' : TI} (h : PI X tg e t) (h' : PI X tg e t') : PI X tg e (fun σ H R => t σ H R ∨ t' σ H R) := ⟨fun pins s σ H R I hw => by
  rcases hw with hw | hw
  · exact h.run pins s σ H R I hw
  · exact h'.run pins s σ H R I hw⟩
end
section
end
section
variable {X : Cx} {tg e : Expr} {apos cpos : Pos}
end
end L2.P


set_option Elab.async false
set_option linter.all false
set_option maxRecDepth 100000
set_option maxHeartbeats 4000000
namespace L2.P
open PySem PySem.Spec PyProof.Rows L2
section
variable {X : Cx} {a b : Expr} {p pos : Pos}
end
section
variable {X : Cx} {e : Expr} {td : TE} {p pos apos cpos : Pos}
variable {x : Str} {i : Nat} {px : Pos}
end
end L2.P


set_option Elab.async false
set_option linter.all false
set_option maxRecDepth 100000
set_option maxHeartbeats 1000000
namespace L2.P
open PySem PySem.Spec PyProof.Rows L2
section
variable {X : Cx} {a b : Expr} {pos : Pos}
end
end L2.P


set_option Elab.async false
set_option linter.all false
set_option maxRecDepth 100000
set_option maxHeartbeats 4000000
namespace L2.P
open PySem PySem.Spec PyProof.Rows L2
section
variable {X : Cx}
variable {a b : Expr} {pos : Pos}
variable {p : Pos}
end
end L2.P


set_option Elab.async false
set_option linter.all false
set_option maxRecDepth 100000
set_option maxHeartbeats 4000000
namespace L2.PS
open PySem PySem.Spec PySem.Calls PySem.W PyProof.Rows L2
section
variable {prog : Program} {w : World} {A : Around} {E : Value → Shared → Prop} {s : Shared} {r d : Addr} {es : Array DictEntry} {ep : Nat}
end
end L2.PS
namespace L2.P
open PySem PySem.Spec PyProof.Rows L2
section
variable {X : Cx} {e : Expr} {te : TE} {p apos cpos pos : Pos}
end
section
variable {X : Cx} {e : Expr} {p apos cpos pos : Pos}
/-- a locked dict whose keys are tuples -/
def hT (h : Rho → Option (List (D × D))) : Rho → Option (List (D × D)) := fun ρ => (h ρ).bind fun kvs => if kindOf kvs = some true then some kvs else none
end
end L2.P


set_option Elab.async false
set_option linter.all false
set_option maxRecDepth 100000
set_option maxHeartbeats 4000000
namespace L2.P
open PySem PySem.Spec PyProof.Rows L2
theorem Rs.drop {K : Fg} {B : Bs} {F H : Hp} {σ : St} {ρ : Rho} (R : Rs K B F H σ ρ) (j : Nat) : Rs K B F H σ (ρ.set j .no) where
  sub := R.sub
  ext := R.ext
  new := R.new
  old := R.old
  hrow := R.hrow
  hr2 := R.hr2
  tb := R.tb
  tbh := R.tbh
  len := by rw [List.length_set]; exact R.len
  at_ := fun k t ht => by
    rcases set_some ht with ⟨rfl, hl, rfl⟩ | ⟨ne, ht⟩
    · exact .no
    · exact R.at_ k t ht
  apart := fun k l c t u hkl h1 h2 o1 o2 e1 e2 => by
    rcases set_some h1 with ⟨rfl, hl, rfl⟩ | ⟨ne, h1⟩
    · cases o1
    · rcases set_some h2 with ⟨rfl, hl, rfl⟩ | ⟨ne2, h2⟩
      · cases o2
      · exact R.apart k l c t u hkl h1 h2 o1 o2 e1 e2
section
variable {X : Cx} {x y : Str} {i j : Nat} {py p' pos : Pos}
end
section
variable {X : Cx}
end
end L2.P


set_option Elab.async false
set_option linter.all false
set_option maxRecDepth 100000
set_option maxHeartbeats 4000000
namespace L2.P
open PySem PySem.Spec PyProof.Rows L2
end L2.P


set_option Elab.async false
set_option linter.all false
set_option maxRecDepth 100000
set_option maxHeartbeats 4000000
namespace L2.P
open PySem PySem.Spec PyProof.Rows L2 NdefX LamX
section
variable {P : Program} {w : World} {H H' H0 : Hp} {h h' : Heap} {C : List Addr}
end
section
variable {CX : CXT} {P : Program} {w : World} {K : PySem.W.Frag} {mg : Str → Option Value} {base : Heap} {N fr : List Str} {F : NdefX.NF} {f : Addr} {A : Around} {outer : List Env} {s : Shared} {H : Hp} {E : XK} {u : Value} {v : V} {ws : List (Option V)} {z : Str} {cl : List (Str × Addr)} {rest : List (Str × NameKind)}
end
section
variable {X : Cx} {x : Str} {i k : Nat} {a : Expr} {ta : TA} {p pos : Pos}
end
end L2.P


set_option Elab.async false
set_option linter.all false
set_option maxRecDepth 100000
set_option maxHeartbeats 4000000
namespace L2.P
open PySem PySem.Spec PyProof.Rows L2 NdefX LamX
section
variable {P : Program} {w : World} {H H' : Hp} {h h' : Heap} {C fs : List Addr}
end
section
variable {X : Cx} {pins : List (Addr × Obj)} {σ : L2.St} {H : Hp} {s : Shared}
end
section
variable {X : Cx} {L : LamD} {q : Str} {c P : Addr} {pos : Pos}
end
section
variable {X : Cx} {k : Nat} {x : Str} {f : Addr} {fd : FuncData} {ps fr : List Str} {js : List Nat} {cl : List (Str × Addr)} {sp : Sp} {t : TA} {e : Expr} {es : List Expr} {p pos : Pos}
end
section
variable {X : Cx} {L : LamD} {q x : Str} {c P : Addr} {js : List Nat} {g : GA} {f1 f2 : Rho → Option D} {e1 e2 : Expr} {p pos lpos : Pos}
end
end L2.P


set_option Elab.async false
set_option linter.all false
set_option maxRecDepth 100000
set_option maxHeartbeats 4000000
namespace L2.P
open PySem PySem.Spec PyProof.Rows L2 NdefX LamX
section
variable {P : Program} {w : World} {K : Fg} {mg : Str → Option Value} {base : Heap} {x qual : Str} {params : Arguments} {body : List Stmt} {scope : Scope} {fd : FuncData} {N ps : List Str} {k : Nat} {dvs : List V} {kws : List (Str × V)}
end
def tabsOkB (K : Fg) (tf : List He.Defn) : Bool := (tbT K).all fun p => tf.any fun q => decide ((He.cT K q).2 = p.1)
def noTbH (H : Hp) : Hp := fun b => match H b with
  | some (.tbl _) => none
  | o => o
theorem noTbH_sub {H : Hp} : Same (noTbH H) H := fun b o e => by
  unfold noTbH at e
  split at e
  · cases e
  · exact e
theorem noTbH_at {H : Hp} {b : Addr} {o : HO} (e : H b = some o) (no : ∀ ps, o ≠ .tbl ps) : noTbH H b = some o := by
  unfold noTbH
  rw [e]
  split
  · rename_i z; cases z; exact absurd rfl (no _)
  · rfl
theorem noTbH_lst {K : Fg} {H : Hp} {a : Addr} {xs : List V} (h : SqL K H a xs) : SqL K (noTbH H) a xs := by
  rcases h with (h | ⟨o, h⟩) | h
  · exact .inl (.inl (noTbH_at h fun _ z => by cases z))
  · exact .inl (.inr ⟨o, noTbH_at h fun _ z => by cases z⟩)
  · exact .inr h
theorem TbOk.start {K : Fg} {H : Hp} {tf : List He.Defn} (hc : tabsOkB K tf = true) (hH : ∀ p ∈ tf.map (He.cT K), H p.2 = some (.tbl #[])) : TbOk K (noTbH H) H := by
  have key : ∀ p ∈ tbT K, H p.1 = some (.tbl #[]) := fun p hp => by
    have := List.all_eq_true.mp hc p hp
    obtain ⟨q, hq, e⟩ := List.any_eq_true.mp this
    rw [← of_decide_eq_true e]
    exact hH _ (List.mem_map.mpr ⟨q, hq, rfl⟩)
  refine ⟨fun p hp => by unfold noTbH; rw [key p hp], fun p hp => TabS.nil (key p hp), fun b ps e => ?_⟩
  unfold noTbH at e
  split at e
  · cases e
  · rename_i n; exact n ps e
end L2.P


set_option Elab.async false
set_option linter.all false
set_option maxRecDepth 100000
set_option maxHeartbeats 4000000
namespace L2.P
open PySem PySem.Spec PyProof.Rows L2
section
variable {X : Cx} {a : Expr} {p pos : Pos}
end
def rD (p : Nat × Nat) : D := .tuple [.int (p.1 : Int), .int (p.2 : Int)]
end L2.P


set_option Elab.async false
set_option linter.all false
set_option maxRecDepth 100000
set_option maxHeartbeats 4000000
namespace L2.P
open PySem PySem.Spec PyProof.Rows L2
abbrev Ch := List (List Int × Nat)
def incM (d : Ch) (k : List Int) (x : Nat) : Ch := putM d k ((getM d k).getD 0 + x)
def innM (w : List (List Int)) (s : List Int) (x : Nat) (cs : List Int) (d : Ch) : Ch := cs.foldl (fun d c => incM d (callM w s c) x) d
structure ChOk (st : List Int) (d : Ch) : Prop where
  nd : (d.map fun e => e.1).Nodup
  sub : ∀ k ∈ d.map (fun e => e.1), k.Sublist st
theorem ChOk.len {st : List Int} {d : Ch} (h : ChOk st d) : d.length ≤ 2 ^ st.length := by
  have := nodup_len h.nd fun k hk => mem_chM.mpr (h.sub k hk)
  rw [List.length_map, chM_len] at this
  exact this
theorem ChOk.nil (st : List Int) : ChOk st [] := ⟨by simp, by simp⟩
theorem ChOk.inc {st k : List Int} {d : Ch} {x : Nat} (h : ChOk st d) (hk : k.Sublist st) : ChOk st (incM d k x) := ⟨putM_nodup h.nd, fun s hs => by
  rcases mem_keys_putM.mp hs with hs | rfl
  · exact h.sub _ hs
  · exact hk⟩
theorem ChOk.inn {w : List (List Int)} {st s : List Int} {x : Nat} (hk : s.Sublist st) : ∀ (cs : List Int) {d : Ch}, ChOk st d → ChOk st (innM w s x cs d)
  | [], _, h => h
  | c :: cs, d, h => ChOk.inn hk cs (d := incM d (callM w s c) x) (h.inc ((callM_sub w s c).trans hk))
section
variable {β : Type}
end
end L2.P


set_option Elab.async false
set_option linter.all false
set_option maxRecDepth 100000
set_option maxHeartbeats 4000000
namespace L2.P
open PySem PySem.Spec PyProof.Rows L2
section
variable {κ β : Type} [DecidableEq κ]
theorem mem_putM {kvs : List (κ × β)} {k : κ} {b : β} {e : κ × β} (h : e ∈ putM kvs k b) : e = (k, b) ∨ e ∈ kvs := by
  unfold putM at h
  split at h
  · obtain ⟨x, hx, rfl⟩ := List.mem_map.mp h
    split
    · rename_i c; exact .inl (by rw [c])
    · exact .inr hx
  · rcases List.mem_append.mp h with h | h
    · exact .inr h
    · exact .inl (by simpa using h)
end
theorem mem_moversM {w : List (List Int)} {s : List Int} {p : Int} : p ∈ moversM w s ↔ p ∈ s ∧ callM w s p ≠ s := by
  unfold moversM
  rw [List.mem_filter]
  exact ⟨fun h => ⟨h.1, (movers_iff h.1).mpr h.2⟩, fun h => ⟨h.1, (movers_iff h.1).mp h.2⟩⟩
theorem call_lt {w : List (List Int)} {s : List Int} {p : Int} (h : p ∈ moversM w s) : (callM w s p).length < s.length := by
  have h1 := callM_sub w s p
  have h2 := (mem_moversM.mp h).2
  rcases Nat.lt_or_ge (callM w s p).length s.length with c | c
  · exact c
  · exact absurd (h1.eq_of_length (Nat.le_antisymm h1.length_le c)) h2
theorem movers_lt {w : List (List Int)} {s : List Int} {n : Nat} (hs : Ppl n s) (h : moversM w s ≠ []) : (moversM w s).length < s.length := by
  cases s with
  | nil => exact absurd rfl h
  | cons a t =>
    obtain ⟨p1, p2⟩ := List.pairwise_cons.mp hs.up
    have : moversM w (a :: t) = t.filter fun p => has w (a :: t) (fun x k => decide (k < x)) p := by
      unfold moversM
      rw [List.filter_cons, if_neg]
      intro z
      unfold has at z
      rw [List.any_eq_true] at z
      obtain ⟨k, _, hk⟩ := z
      rw [Bool.and_eq_true, decide_eq_true_eq, decide_eq_true_eq] at hk
      rcases List.mem_cons.mp hk.2 with rfl | h2
      · omega
      · have := p1 k h2; omega
    rw [this]
    exact Nat.lt_of_le_of_lt (List.length_filter_le _ _) (by simp)
def cD : Nat → Nat
  | 0 => 1
  | 1 => 1
  | 2 => 1
  | 3 => 2
  | 4 => 12
  | _ + 5 => 144
theorem cD_dvd {a b : Nat} (h : a ≤ b) (hb : b ≤ 5) : cD a ∣ cD b := by
  have key : ∀ b : Fin 6, ∀ a : Fin 6, a.1 ≤ b.1 → cD a.1 ∣ cD b.1 := by decide
  exact key ⟨b, by omega⟩ ⟨a, by omega⟩ h
theorem cD_part {n m : Nat} (hn : n ≤ 5) (h1 : 1 ≤ m) (h2 : m < n) : cD (n - 1) * m ∣ cD n := by
  have key : ∀ n : Fin 6, ∀ m : Fin 6, 1 ≤ m.1 → m.1 < n.1 → cD (n.1 - 1) * m.1 ∣ cD n.1 := by decide
  exact key ⟨n, by omega⟩ ⟨m, by omega⟩ h1 h2
def floS (w : List (List Int)) (d : Ch) (s : List Int) : Ch := innM w s ((getM d s).getD 0 / (moversM w s).length) (moversM w s) d
structure FloOk (st : List Int) (d : Ch) : Prop where
  ok : ChOk st d
  dv : ∀ e ∈ d, cD e.1.length ∣ e.2
  top : getM d st = some 144
theorem FloOk.inc {st k : List Int} {d : Ch} {q : Nat} (h : FloOk st d) (hk : k.Sublist st) (hl : k.length < st.length) (hq : cD k.length ∣ q) : FloOk st (incM d k q) := by
  refine ⟨h.ok.inc hk, fun e he => ?_, ?_⟩
  · rcases mem_putM he with rfl | he
    · refine Nat.dvd_add ?_ hq
      cases g : getM d k with
      | none => exact Nat.dvd_zero _
      | some y => exact h.dv _ (getM_mem g)
    · exact h.dv e he
  · unfold incM
    rw [getM_put, if_neg (fun z => by rw [z] at hl; omega)]
    exact h.top
theorem FloOk.inn {w : List (List Int)} {st s : List Int} {q : Nat} (hs : s.Sublist st) (h5 : st.length ≤ 5) (hq : cD (s.length - 1) ∣ q) : ∀ (ps : List Int) {d : Ch}, (∀ p ∈ ps, p ∈ moversM w s) → FloOk st d → FloOk st (innM w s q ps d)
  | [], _, _, h => h
  | p :: ps, d, hp, h => by
    have hlt := call_lt (hp p List.mem_cons_self)
    have hsl := hs.length_le
    refine FloOk.inn hs h5 hq ps (d := incM d (callM w s p) q) (fun z hz => hp z (List.mem_cons_of_mem _ hz)) (h.inc ((callM_sub w s p).trans hs) (by omega) (Nat.dvd_trans (cD_dvd (by omega) (by omega)) hq))
/-- what a part is -/
theorem FloOk.part {w : List (List Int)} {st s : List Int} {n x : Nat} {d : Ch} (h : FloOk st d) (hp : Ppl n s) (h5 : s.length ≤ 5) (hm : moversM w s ≠ []) (hx : getM d s = some x) : cD (s.length - 1) * (moversM w s).length ∣ x :=
  Nat.dvd_trans (cD_part h5 (List.length_pos_iff.mpr hm) (movers_lt hp hm)) (h.dv _ (getM_mem hx))
theorem FloOk.step {w : List (List Int)} {st s : List Int} {n : Nat} {d : Ch} (h : FloOk st d) (hp : Ppl n st) (h5 : st.length ≤ 5) (hs : s.Sublist st) (hk : s ∈ d.map fun e => e.1) : FloOk st (floS w d s) := by
  unfold floS
  by_cases hm : moversM w s = []
  · rw [hm]; exact h
  · have hsl := hs.length_le
    have : (getM d s).isSome = true := by rw [getM_isSome]; simpa using hk
    obtain ⟨x, hx⟩ := Option.isSome_iff_exists.mp this
    rw [hx]
    show FloOk st (innM w s (x / _) _ d)
    obtain ⟨y, hy⟩ := h.part (w := w) (hp.sub hs) (by omega) hm hx
    have hml := List.length_pos_iff.mpr hm
    refine FloOk.inn hs h5 ⟨y, ?_⟩ _ (fun _ z => z) h
    rw [hy, Nat.mul_comm (cD _), Nat.mul_assoc, Nat.mul_div_cancel_left _ hml]
end L2.P


set_option Elab.async false
set_option linter.all false
set_option maxRecDepth 100000
set_option maxHeartbeats 4000000
namespace L2.P
open PySem PySem.Spec PyProof.Rows L2
end L2.P


set_option Elab.async false
set_option linter.all false
set_option maxRecDepth 100000
set_option maxHeartbeats 4000000
namespace L2.P
open PySem PySem.Spec PyProof.Rows L2
end L2.P


set_option Elab.async false
set_option linter.all false
set_option maxRecDepth 100000
set_option maxHeartbeats 4000000
namespace L2.P
open PySem PySem.Spec PyProof.Rows L2
end L2.P


set_option Elab.async false
set_option linter.all false
set_option maxRecDepth 100000
set_option maxHeartbeats 4000000
namespace L2.P
open PySem PySem.Spec PyProof.Rows L2 NdefX LamX
/-- a def of n parameters: where r says so, it lets C out -/
def spZ (K : Fg) (n : Nat) (C : Addr) (r : List D → Bool) : Sp := fun vs H _ E => vs.length = n ∧ ∃ F ps, Same F H ∧ TbOk K F H ∧ DpAll K F vs ps ∧ r ps = true ∧
  ∀ F' H', Same F F' → SameX K none H H' → Same F' H' → TbOk K F' H' → (∀ b, F b = none → F' b ≠ none → Fz (H b)) → E (.ref C) none H'
section
variable {X : Cx} {C : Addr} {W : WX} {st : Stmt} {rest : List Stmt} {x : Str} {p pos pos' : Pos} {e : Expr} {es : List Expr}
/-- a def that may let C out -/
def CalZ (X : Cx) (x : Str) (C : Addr) (n : Nat) (r : List D → Bool) : Prop :=
  ∃ (k : Nat) (f : Addr) (fd : FuncData) (ps : List Str), FnOk X.prog X.w X.K X.mg X.base (L2.CX X.prog X.w) k f fd ps (spZ X.K n C r) ∧ Room k X.A ∧ X.mg x = some (.ref f) ∧ PySem.W.keepIn X.K (.ref f) = true ∧ Binds X.K fd ps []
end
/-- a def that lets C out, behind the top -/
def DefZ (P : Program) (w : World) (K : Fg) (mg : Str → Option Value) (base : Heap) (C : Addr) (x : Str) (k n : Nat) (r : List D → Bool) : Prop :=
  ∃ (f : Addr) (fd : FuncData) (ps : List Str), FnOk P w K mg base (L2.CX P w) k f fd ps (spZ K n C r) ∧ mg x = some (.ref f) ∧ PySem.W.keepIn K (.ref f) = true ∧ Binds K fd ps []
section
variable {P : Program} {w : World} {K : Fg} {mg : Str → Option Value} {base : Heap} {x qual : Str} {params : Arguments} {body : List Stmt} {scope : Scope} {f C : Addr} {fd : FuncData} {N ps : List Str} {k : Nat}
theorem DefZ.cal {X : Cx} {n : Nat} {r : List D → Bool} {j : Nat} (h : DefZ X.prog X.w X.K X.mg X.base C x k n r) (hr : Room j X.A) (hk : k ≤ j := by decide) : CalZ X x C n r := by
  obtain ⟨f, fd, ps, F, m, kp, b⟩ := h
  exact ⟨k, f, fd, ps, F, hr.mono hk, m, kp, b⟩
end
section
variable {X : Cx} {pins : List (Addr × Obj)} {σ : L2.St} {H : Hp} {s : Shared}
end
section
variable {X : Cx} {S C c P : Addr} {pg params : Arguments} {bg : List Stmt} {sg scope : Scope} {body : Expr} {lpos p pos : Pos} {fv : Rho → Option D} {rz : Rho → Bool} {k : Nat}
end
end L2.P


set_option Elab.async false
set_option linter.all false
set_option maxRecDepth 100000
set_option maxHeartbeats 4000000
namespace L2.P
open PySem PySem.Spec PyProof.Rows L2 NdefX LamX
section
variable {X : Cx} {S C c P : Addr} {pg params : Arguments} {bg : List Stmt} {sg scope : Scope} {body : Expr} {lpos p pos : Pos} {fv : Rho → Option D} {rz : Rho → Bool}
end
end L2.P
namespace L2.P
open PySem PySem.Spec PyProof.Rows L2
section
variable {f g : Rho → Option D} {rz r : Rho → Bool} {ρ ρ' : Rho} {t : Rho → Option Bool} {b : Bool} {p q : D} {xs : List D}
end
end L2.P


set_option Elab.async false
set_option linter.all false
set_option maxRecDepth 100000
set_option maxHeartbeats 4000000
namespace L2.P
open PySem PySem.Spec PyProof.Rows L2
section
variable {X : Cx}
end
section
variable {X : Cx}
end
section
variable {w : List (List Int)} {st goal : List Int}
end
/-- q is the first of xs for which f is greatest -/
def FM (f : Int → Int) (xs : List Int) (q : Int) : Prop := ∃ i : Nat, xs[i]? = some q ∧ (∀ (j : Nat) (y : Int), j < i → xs[j]? = some y → f y < f q) ∧ ∀ y ∈ xs, f y ≤ f q
theorem FM.mem {f : Int → Int} {xs : List Int} {q : Int} (h : FM f xs q) : q ∈ xs := by
  obtain ⟨i, h1, _⟩ := h
  exact List.mem_of_getElem? h1
theorem FM.one (f : Int → Int) {xs : List Int} {p : Int} (h : xs[0]? = some p) : FM f (xs.take 1) p := by
  cases xs with
  | nil => cases h
  | cons x xs =>
    cases h
    exact ⟨0, rfl, fun j y hj => absurd hj (Nat.not_lt_zero _), fun y hy => by
      rw [List.take_succ_cons, List.take_zero, List.mem_singleton] at hy
      subst hy; exact Int.le_refl _⟩
theorem FM.step {f : Int → Int} {xs : List Int} {i : Nat} {p q : Int} (h : FM f (xs.take i) q) (hp : xs[i]? = some p) : FM f (xs.take (i + 1)) (if f q < f p then p else q) := by
  have hi := (List.getElem?_eq_some_iff.mp hp).1
  have ht : xs.take (i + 1) = xs.take i ++ [p] := by rw [List.take_add_one, hp]; rfl
  have hl : (xs.take i).length = i := by rw [List.length_take]; omega
  obtain ⟨j, a1, a2, a3⟩ := h
  have hj := (List.getElem?_eq_some_iff.mp a1).1
  rw [ht]
  split
  · rename_i c
    refine ⟨i, by rw [List.getElem?_append_right (by omega), hl]; simp, fun k y hk e => ?_, fun y hy => ?_⟩
    · rw [List.getElem?_append_left (by omega)] at e
      have := a3 y (List.mem_of_getElem? e)
      omega
    · rcases List.mem_append.mp hy with hy | hy
      · have := a3 y hy; omega
      · rw [List.mem_singleton] at hy; subst hy; exact Int.le_refl _
  · rename_i c
    refine ⟨j, by rw [List.getElem?_append_left hj]; exact a1, fun k y hk e => ?_, fun y hy => ?_⟩
    · rw [List.getElem?_append_left (by omega)] at e
      exact a2 k y hk e
    · rcases List.mem_append.mp hy with hy | hy
      · exact a3 y hy
      · rw [List.mem_singleton] at hy; subst hy; omega
/-- xs[sizes.index(max(sizes))] -/
theorem FM.index (f : Int → Int) {xs : List Int} (hne : xs ≠ []) : ∃ (M q : Int), gMaxA [.list ((xs.map f).map .int)] = some (.int M) ∧ M ∈ xs.map f ∧ xs[(xs.map f).idxOf M]? = some q ∧ FM f xs q := by
  obtain ⟨M, h1, h2, h3⟩ := max_intsL (ns := xs.map f) (fun z => hne (List.map_eq_nil_iff.mp z))
  have hl := List.idxOf_lt_length_iff.mpr h1
  have hg : (xs.map f)[(xs.map f).idxOf M]? = some M := by
    rw [List.getElem?_eq_getElem hl, List.getElem_idxOf]
  rw [List.getElem?_map] at hg
  obtain ⟨q, e1, e2⟩ := Option.map_eq_some_iff.mp hg
  refine ⟨M, q, h2, h1, e1, _, e1, fun j y hj e => ?_, fun y hy => by rw [e2]; exact h3 _ (List.mem_map_of_mem hy)⟩
  have hy : f y ≤ M := h3 _ (List.mem_map_of_mem (List.mem_of_getElem? e))
  rw [e2]
  refine Int.lt_iff_le_and_ne.mpr ⟨hy, fun z => ?_⟩
  have hj' : j < (xs.map f).length := by omega
  have : (xs.map f)[j]'hj' ≠ M := by
    have := List.not_of_lt_findIdx (p := (· == M)) (xs := xs.map f) hj
    simpa using this
  refine this ?_
  have e3 : (xs.map f)[j]? = some (f y) := by rw [List.getElem?_map, e]; rfl
  rw [List.getElem?_eq_getElem hj'] at e3
  rw [Option.some.inj e3, z]
section
variable {w : List (List Int)} {may : List Int}
def covL (w : List (List Int)) (left : List Int) (p : Int) : List Int := left.filter fun o => decide (o < p) && decide (o ∈ fr w p)
abbrev covM (w : List (List Int)) (left : List Int) (p : Int) : Int := ((covL w left p).length : Nat)
def leftN (w : List (List Int)) (left : List Int) (b : Int) : List Int := left.filter fun o => decide (b < o) || !decide (o ∈ fr w b)
inductive GR (w : List (List Int)) (may : List Int) : List Int → List Int → Prop
  | nil : GR w may [] []
  | cons {left row : List Int} {b : Int} : left ≠ [] → FM (covM w left) may b → GR w may (leftN w left b) row → GR w may left (b :: row)
def Covd (w : List (List Int)) (may left : List Int) : Prop := ∀ x ∈ left, ∃ k ∈ may, x < k ∧ x ∈ fr w k
theorem Covd.next {left : List Int} {b : Int} (h : Covd w may left) : Covd w may (leftN w left b) := fun x hx => h x (List.mem_filter.mp hx).1
theorem FM.pos {left : List Int} {b : Int} (hc : Covd w may left) (hne : left ≠ []) (h : FM (covM w left) may b) : ∃ o ∈ left, o < b ∧ o ∈ fr w b := by
  obtain ⟨x, hx⟩ := List.exists_mem_of_ne_nil _ hne
  obtain ⟨k, k1, k2, k3⟩ := hc x hx
  obtain ⟨i, _, _, h3⟩ := h
  have := h3 k k1
  have hk : 0 < (covL w left k).length := List.length_pos_of_mem (List.mem_filter.mpr ⟨hx, by simp [k2, k3]⟩)
  have hb : 0 < (covL w left b).length := by
    have e : covM w left k ≤ covM w left b := this
    unfold covM at e
    omega
  obtain ⟨o, ho⟩ := List.exists_mem_of_length_pos hb
  obtain ⟨o1, o2⟩ := List.mem_filter.mp ho
  rw [Bool.and_eq_true, decide_eq_true_eq, decide_eq_true_eq] at o2
  exact ⟨o, o1, o2⟩
theorem left_lt {left : List Int} {b : Int} (hc : Covd w may left) (hne : left ≠ []) (h : FM (covM w left) may b) : (leftN w left b).length < left.length := by
  obtain ⟨o, o1, o2, o3⟩ := h.pos hc hne
  refine Nat.lt_of_le_of_ne (List.length_filter_le _ _) fun e => ?_
  have := List.length_filter_eq_length_iff.mp e o o1
  simp [o3] at this
  omega
theorem GR.len : ∀ {left row : List Int}, GR w may left row → Covd w may left → row.length ≤ left.length
  | _, _, .nil, _ => Nat.le_refl _
  | left, _, .cons hne f g, hc => by
    have h1 := GR.len g hc.next
    have h2 := left_lt hc hne f
    rw [List.length_cons]
    omega
theorem GR.ne {left row : List Int} (h : GR w may left row) (hne : left ≠ []) : row ≠ [] := by
  cases h with
  | nil => exact absurd rfl hne
  | cons _ _ _ => exact List.cons_ne_nil _ _
end
end L2.P


set_option Elab.async false
set_option linter.all false
set_option maxRecDepth 100000
set_option maxHeartbeats 4000000
namespace L2.P
open PySem PySem.Spec PyProof.Rows L2
section
variable {w : List (List Int)} {goal : List Int}
end
end L2.P


set_option Elab.async false
set_option linter.all false
set_option maxRecDepth 100000
set_option maxHeartbeats 4000000
namespace L2.P
open PySem PySem.Spec PyProof.Rows L2
section
variable {X : Cx} {x y : Str} {p pos py : Pos} {e1 e2 e3 ed : Expr} {f1 f2 f3 : Rho → Option D} {M : List D → D → D → Prop} {g : GA} {i : Nat}
end
section
variable {X : Cx} {x y : Str} {px py p1 p2 p3 q1 q2 q3 pos pos1 pos2 pos3 pos4 : Pos} {i j : Nat} {v : Expr}
end
section
variable {X : Cx} {x y : Str} {px py p1 p2 p3 q1 q2 q3 pos pos1 pos2 pos3 pos4 : Pos} {i j : Nat} {v k : Expr} {st : Stmt} {rest : List Stmt}
end
section
variable {P : Program} {w : World} {K : Fg} {mg : Str → Option Value} {base : Heap} {x qual : Str} {params : Arguments} {body : List Stmt} {scope : Scope} {f : Addr} {fd : FuncData} {N ps : List Str} {k : Nat}
end
end L2.P


set_option Elab.async false
set_option linter.all false
set_option maxRecDepth 100000
set_option maxHeartbeats 4000000
namespace L2.P
open PySem PySem.Spec PyProof.Rows L2
section
variable {X : Cx} {x y : Str} {p pos py : Pos} {e1 e2 e3 ed : Expr} {f1 f2 f3 : Rho → Option D} {M : List D → D → D → Prop} {g : GA} {i : Nat}
open Classical in
open Classical in
end
section
variable {w : List (List Int)}
end
instance (n : Nat) (st : List Int) : Decidable (Ppl n st) := decidable_of_iff (st.Pairwise (· < ·) ∧ ∀ k ∈ st, 0 ≤ k ∧ k < (n : Int)) ⟨fun h => ⟨h.1, h.2⟩, fun h => ⟨h.up, h.inn⟩⟩
end L2.P


set_option Elab.async false
set_option linter.all false
set_option maxRecDepth 100000
set_option maxHeartbeats 4000000
namespace L2.P
open PySem PySem.Spec PyProof.Rows L2
end L2.P


set_option Elab.async false
set_option linter.all false
set_option maxRecDepth 100000
set_option maxHeartbeats 4000000
namespace PySem
open Sem (wp)
end PySem
namespace PySem.W
open PySem PySem.SeqAt PyProof.Rows
end PySem.W
namespace L2.P
open PySem PySem.Spec PyProof.Rows L2
section
variable {X : Cx} {a b : Expr} {p pos : Pos}
end
end L2.P


set_option Elab.async false
set_option linter.all false
set_option maxRecDepth 100000
set_option maxHeartbeats 4000000
namespace L2.P
open PySem PySem.Spec PyProof.Rows L2
section
variable {X : Cx}
end
end L2.P
namespace L2
open PySem PySem.Spec PyProof.Rows
section
variable {X : Cx}
end
end L2
namespace L2.P
open PySem PySem.Spec PyProof.Rows L2
section
variable {t : Bool} {is : List Nat} {g : Tg} {T : TB} {U E : TW} {ρ : Rho}
end
def o0 (t : Bool) : HO := if t = true then .dT [] else .dK []
section
variable {X : Cx} {kx vx tg iter : Expr} {ifs : List Expr} {scope : Scope} {own : List (Str × Nat)} {pos : Pos} {L : TL} {g : Tg} {T : TB} {U E : TW}
end
end L2.P


set_option Elab.async false
set_option linter.all false
set_option maxRecDepth 100000
set_option maxHeartbeats 4000000
namespace L2.P
open PySem PySem.Spec PyProof.Rows L2
section
variable {X : Cx} {k v e : Expr} {pos : Pos}
end
section
variable {w : List (List Int)}
end
end L2.P


set_option Elab.async false
set_option linter.all false
set_option maxRecDepth 100000
set_option maxHeartbeats 4000000
namespace L2.P
open PySem PySem.Spec PyProof.Rows L2
section
variable {α : Type} {A B C E : Rho → Option D} {ρ : Rho} {p q r t : D} {β : Type} {g : List D → Option β} {z : Option β}
theorem c1 (hA : A ρ = some p) (h : g [p] = z) : aOf g (aCons A aNil) ρ = z := by simp only [e_aOf, e_aCons, e_aNil, hA, Option.bind_some, Option.map_some, h]
theorem c2 (hA : A ρ = some p) (hB : B ρ = some q) (h : g [p, q] = z) : aOf g (aCons A (aCons B aNil)) ρ = z := by simp only [e_aOf, e_aCons, e_aNil, hA, hB, Option.bind_some, Option.map_some, h]
theorem c3 (hA : A ρ = some p) (hB : B ρ = some q) (hC : C ρ = some r) (h : g [p, q, r] = z) : aOf g (aCons A (aCons B (aCons C aNil))) ρ = z := by simp only [e_aOf, e_aCons, e_aNil, hA, hB, hC, Option.bind_some, Option.map_some, h]
variable [DecidableEq α] {enc : α → D} {n : Nat} {a b : α} {xs : List α}
theorem neE (h : EncOk enc n) (hA : A ρ = some (enc a)) (hB : B ρ = some (enc b)) (e : a = b) (hn : n ≤ 64 := by decide) : bB (b2 dNe A B) ρ = some false := by
  subst e
  refine cmp_b hA hB ?_
  rw [h.ne a a hn]; simp
theorem eqB (h : EncOk enc n) (hA : A ρ = some (enc a)) (hB : B ρ = some (enc b)) (hn : n ≤ 64 := by decide) : bB (b2 dEq A B) ρ = some (decide (a = b)) := cmp_b hA hB (h.eq a b hn)
theorem niLE (h : EncOk enc n) (hA : A ρ = some (enc a)) (hB : B ρ = some (.list (xs.map enc))) (e : a ∈ xs) (hn : n ≤ 64 := by decide) : bB (b2 dNotIn A B) ρ = some false := by
  refine cmp_b hA hB ?_
  rw [h.niL a xs hn, decide_eq_true e]; rfl
theorem eqNil (h : EncOk enc n) {c : Rho → Option (List D)} (hc : c ρ = some (xs.map enc)) (hn : n + 1 ≤ 64 := by decide) : b2 dEq (fun ρ => (c ρ).map PyData.list) (fun ρ => (aNil ρ).map PyData.list) ρ = some (.bool (decide (xs = []))) := by
  refine (b2_of (p := .list (xs.map enc)) (by show Option.map _ _ = _; rw [hc]; rfl) (q := .list []) rfl).trans ?_
  exact h.list.eq xs [] hn
theorem neNil (h : EncOk enc n) {c : Rho → Option (List D)} (hc : c ρ = some (xs.map enc)) (hn : n + 1 ≤ 64 := by decide) : b2 dNe (fun ρ => (c ρ).map PyData.list) (fun ρ => (aNil ρ).map PyData.list) ρ = some (.bool (!decide (xs = []))) := by
  refine (b2_of (p := .list (xs.map enc)) (by show Option.map _ _ = _; rw [hc]; rfl) (q := .list []) rfl).trans ?_
  exact h.list.ne xs [] hn
theorem lcL {c : Rho → Option (List D)} {ps : List D} (hc : c ρ = some ps) : (fun ρ => (c ρ).map PyData.list) ρ = some (.list ps) := by show Option.map _ _ = _; rw [hc]; rfl
end
end L2.P


set_option Elab.async false
set_option linter.all false
set_option maxRecDepth 100000
set_option maxHeartbeats 4000000
namespace L2.P
open PySem PySem.Spec PyProof.Rows L2
section
variable {w : List (List Int)}
end
section
variable {f : Rho → Option Fl} {u : Rho → Option (List D)} {tg : Tg} {ρ : Rho} {K : Fl → Prop}
end
end L2.P


set_option Elab.async false
set_option linter.all false
set_option maxRecDepth 100000
set_option maxHeartbeats 4000000
namespace L2.P
open PySem PySem.Spec PyProof.Rows L2
section
variable {w : List (List Int)} {st : List Int}
/-- the taller friends who stand -/
def upsM (w : List (List Int)) (st : List Int) (x : Int) : List Int := ((fr w x).filter fun k => decide (x < k)).filter fun k => decide (k ∈ st)
theorem mem_ups {x k : Int} : k ∈ upsM w st x ↔ k ∈ fr w x ∧ x < k ∧ k ∈ st := by
  unfold upsM
  simp only [List.mem_filter, decide_eq_true_eq, and_assoc]
end
end L2.P


set_option Elab.async false
set_option linter.all false
set_option maxRecDepth 100000
set_option maxHeartbeats 4000000
namespace L2.P
open PySem PySem.Spec PyProof.Rows L2
section
variable {X : Cx} {a b c d : Expr} {pos : Pos}
end
section
variable {X : Cx} {a b e : Expr} {pos : Pos} {x : Str} {i : Nat}
end
end L2.P


set_option Elab.async false
set_option linter.all false
set_option maxRecDepth 100000
set_option maxHeartbeats 4000000
namespace L2.P
open PySem PySem.Spec PyProof.Rows L2
section
variable {w : List (List Int)} {st : List Int}
inductive Upw (w : List (List Int)) (st : List Int) : Int → Int → Prop
  | one {x k : Int} : k ∈ upsM w st x → Upw w st x k
  | more {x k l : Int} : Upw w st x k → l ∈ upsM w st k → Upw w st x l
theorem Upw.mem {x y : Int} (h : Upw w st x y) : y ∈ st := by
  cases h with
  | one h => exact (mem_ups.mp h).2.2
  | more _ h => exact (mem_ups.mp h).2.2
theorem Upw.lt {x y : Int} (h : Upw w st x y) : x < y := by
  induction h with
  | one h => exact (mem_ups.mp h).2.1
  | more _ h ih => have := (mem_ups.mp h).2.1; omega
theorem Upw.ahead {x k y : Int} (hk : k ∈ upsM w st x) (h : Upw w st k y) : Upw w st x y := by
  induction h with
  | one h => exact .more (.one hk) h
  | more _ h ih => exact .more ih h
theorem Upw.hd {x y : Int} (h : Upw w st x y) : ∃ k ∈ upsM w st x, y = k ∨ Upw w st k y := by
  induction h with
  | one h => exact ⟨_, h, .inl rfl⟩
  | more _ h ih =>
    obtain ⟨k, k1, k2⟩ := ih
    rcases k2 with rfl | k2
    · exact ⟨_, k1, .inr (.one h)⟩
    · exact ⟨_, k1, .inr (.more k2 h)⟩
open Classical in
open Classical in
open Classical in
end
end L2.P


set_option Elab.async false
set_option linter.all false
set_option maxRecDepth 100000
set_option maxHeartbeats 4000000
namespace L2.P
open PySem PySem.Spec PyProof.Rows L2
section
variable {β : Type} {w : List (List Int)}
end
section
variable (w : List (List Int))
end
section
variable {w : List (List Int)} {st : List Int}
end
end L2.P


set_option Elab.async false
set_option linter.all false
set_option maxRecDepth 100000
set_option maxHeartbeats 4000000
namespace L2.P
open PySem PySem.Spec PyProof.Rows L2
section
variable (w : List (List Int))
end
section
variable {w : List (List Int)}
end
end L2.P


set_option Elab.async false
set_option linter.all false
set_option maxRecDepth 100000
set_option maxHeartbeats 4000000
namespace L2.P
open PySem PySem.Spec PyProof.Rows L2
end L2.P


set_option Elab.async false
set_option linter.all false
set_option maxRecDepth 100000
set_option maxHeartbeats 4000000
namespace L2.NS
open PySem PySem.Calls PySem.SeqAt PySem.W PyProof.Rows L2
section
variable {P : Program} {w : World}
def NoA (P : Program) (w : World) (n : Nat) (s : Shared) (v : Value) : Prop := ∀ (A : Around) (E : Value → Shared → Prop) (Q : Bool → Shared → Prop), Q false s → wpAny (model P w) A (ofAClassStatement n v) Q E s
def ByV (P : Program) (w : World) (n : Nat) (s : Shared) (v : Value) : Prop := ∀ (A : Around) (E : Value → Shared → Prop) (Q : Bool → Shared → Prop), Q true s → wpAny (model P w) A (hashByValue n v) Q E s
theorem noA_tup {n : Nat} {s : Shared} {a : Addr} {o : Obj} {vs : Array Value} {m : Nat} (ho : s.heap.get? a = some o) (hc : o.cls = .type "tuple") (hd : o.data = .seq vs m) (hq : ∀ v ∈ vs.toList, NoA P w n s v) : NoA P w (n + 1) s (.ref a) := fun A E Q h => by
  have hT : s.TypeIs (.ref a) "tuple" := ⟨o, ho, hc⟩
  have e : (("tuple" : String) == "tuple") = true := by decide
  unfold ofAClassStatement
  refine wpAny_bind (wpAny_typeOf hT ?_)
  dsimp only
  simp only [e, if_true, Bool.not_true, Bool.false_eq_true, if_false]
  try refine wpAny_bind (wpAny_pure ?_)
  try simp only [Bool.not_true, Bool.false_eq_true, if_false]
  refine wpAny_bind (wpAny_seqItems ho hd ?_)
  dsimp only
  refine wpAny_bind ?_
  show wpAny _ _ (forIn vs _ _) _ _ s
  rw [← Array.forIn_toList]
  refine wpAny_forIn_list _ (fun rest r s' => r.1 = none ∧ s' = s ∧ ∀ v ∈ rest, NoA P w n s v) _ ?_ ?_ _ _ ⟨rfl, rfl, hq⟩
  · rintro v rest r s' ⟨hr, rfl, hall⟩
    refine wpAny_bind (hall v List.mem_cons_self _ _ _ ?_)
    simp only [Bool.false_eq_true, if_false]
    exact wpAny_pure ⟨rfl, rfl, fun u hu => hall u (List.mem_cons_of_mem _ hu)⟩
  · rintro ⟨r1, r2⟩ s' ⟨hr, rfl, _⟩
    simp only at hr
    subst hr
    exact wpAny_pure h
theorem byV_tup {n : Nat} {s : Shared} {a : Addr} {o : Obj} {vs : Array Value} {m : Nat} (ho : s.heap.get? a = some o) (hc : o.cls = .type "tuple") (hd : o.data = .seq vs m) (hq : ∀ v ∈ vs.toList, ByV P w n s v) : ByV P w (n + 1) s (.ref a) := fun A E Q h => by
  have hT : s.TypeIs (.ref a) "tuple" := ⟨o, ho, hc⟩
  unfold hashByValue
  refine wpAny_bind (wpAny_specialOf hT F.slot_tuple_hash.lookup ?_)
  show wpAny _ _ (seqItems? (.ref a) >>= _) _ _ s
  refine wpAny_bind (wpAny_seqItems ho hd ?_)
  refine wpAny_bind ?_
  show wpAny _ _ (forIn vs _ _) _ _ s
  rw [← Array.forIn_toList]
  refine wpAny_forIn_list _ (fun rest r s' => r.1 = none ∧ s' = s ∧ ∀ v ∈ rest, ByV P w n s v) _ ?_ ?_ _ _ ⟨rfl, rfl, hq⟩
  · rintro v rest r s' ⟨hr, rfl, hall⟩
    refine wpAny_bind (hall v List.mem_cons_self _ _ _ ?_)
    simp only [Bool.not_true, Bool.false_eq_true, if_false]
    exact wpAny_pure ⟨rfl, rfl, fun u hu => hall u (List.mem_cons_of_mem _ hu)⟩
  · rintro ⟨r1, r2⟩ s' ⟨hr, rfl, _⟩
    simp only at hr
    subst hr
    exact wpAny_pure h
mutual
def IntK : NestedKey → Prop
  | .num _ => True
  | .tup ks => IntKs ks
  | _ => False
def IntKs : List NestedKey → Prop
  | [] => True
  | k :: ks => IntK k ∧ IntKs ks
end
theorem noA_flat {n : Nat} {s : Shared} {v : Value} (h : ∀ a, v ≠ .ref a) : NoA P w n s v := fun A E Q q => by
  have e : ofAClassStatement n v = pure false := by
    cases v with
    | ref a => exact absurd rfl (h a)
    | _ => cases n <;> rfl
  rw [e]
  exact wpAny_pure q
mutual
theorem noA_key : ∀ (k : NestedKey) (v : Value) (n : Nat) (s : Shared), NestedIs s.heap k v → k.depth ≤ n → NoA P w n s v
  | .none, _, n, s, x, _ => by cases x; exact noA_flat fun a z => nomatch z
  | .num i, _, n, s, x, _ => by cases x <;> exact noA_flat fun a z => nomatch z
  | .text y, _, n, s, x, _ => by cases x; exact noA_flat fun a z => nomatch z
  | .tup ks, _, n, s, x, hn => by
    cases x with
    | tup hg hc hd hk =>
      simp only [NestedKey.depth] at hn
      cases n with
      | zero => omega
      | succ n => exact noA_tup hg hc hd (noA_keys ks _ n s hk (by omega))
theorem noA_keys : ∀ (ks : List NestedKey) (vs : List Value) (n : Nat) (s : Shared), NestedAll s.heap ks vs → NestedKey.depthAll ks ≤ n → ∀ v ∈ vs, NoA P w n s v
  | [], _, n, s, x, _, v, hv => by cases x; cases hv
  | k :: ks, _, n, s, x, hn, v, hv => by
    cases x with
    | cons x1 x2 =>
      simp only [NestedKey.depthAll] at hn
      rcases List.mem_cons.mp hv with e | hv
      · rw [e]; exact noA_key k _ n s x1 (by omega)
      · exact noA_keys ks _ n s x2 (by omega) v hv
end
mutual
theorem byV_key : ∀ (k : NestedKey) (v : Value) (n : Nat) (s : Shared), NestedIs s.heap k v → IntK k → k.depth ≤ n → ByV P w n s v
  | .none, _, n, s, x, hi, _ => hi.elim
  | .num i, _, n, s, x, _, _ => by
    cases x <;> (intro A E Q q; cases n <;> exact wpAny_pure q)
  | .text y, _, n, s, x, hi, _ => hi.elim
  | .tup ks, _, n, s, x, hi, hn => by
    cases x with
    | tup hg hc hd hk =>
      simp only [NestedKey.depth] at hn
      cases n with
      | zero => omega
      | succ n => exact byV_tup hg hc hd (byV_keys ks _ n s hk hi (by omega))
theorem byV_keys : ∀ (ks : List NestedKey) (vs : List Value) (n : Nat) (s : Shared), NestedAll s.heap ks vs → IntKs ks → NestedKey.depthAll ks ≤ n → ∀ v ∈ vs, ByV P w n s v
  | [], _, n, s, x, _, _, v, hv => by cases x; cases hv
  | k :: ks, _, n, s, x, hi, hn, v, hv => by
    cases x with
    | cons x1 x2 =>
      simp only [NestedKey.depthAll] at hn
      rcases List.mem_cons.mp hv with e | hv
      · rw [e]; exact byV_key k _ n s x1 hi.1 (by omega)
      · exact byV_keys ks _ n s x2 hi.2 (by omega) v hv
end
/-- the key k, of ints and tuples, stands at b -/
structure At (h : Heap) (k : NestedKey) (b : Addr) : Prop where
  is : NestedIs h k (.ref b)
  few : k.depth ≤ 8
  ik : IntK k
theorem At.nk {s : Shared} {k : NestedKey} {b : Addr} (x : At s.heap k b) : (nestedKind P w).is s.heap k b := ⟨x.is, x.few⟩
theorem At.seq {h : Heap} {k : NestedKey} {b : Addr} (x : At h k b) : ∃ o vs n, h.get? b = some o ∧ o.data = .seq vs n := by
  have q := x.is
  generalize e : Value.ref b = v at q
  cases q with
  | tup h1 h2 h3 h4 =>
    injection e with e
    subst e
    exact ⟨_, _, _, h1, h3⟩
  | _ => cases e
theorem At.keep {h h' : Heap} {k : NestedKey} {b : Addr} (x : At h k b) (hk : ∀ a o vs n, h.get? a = some o → o.data = .seq vs n → h'.get? a = some o) : At h' k b := ⟨NestedIs.at hk k _ x.is, x.few, x.ik⟩
theorem At.all {h h' : Heap} {k : NestedKey} {b : Addr} (x : At h k b) (hk : ∀ a o, h.get? a = some o → h'.get? a = some o) : At h' k b := x.keep fun a o _ _ e _ => hk a o e
/-- a change of the set leaves the keys -/
theorem At.but {h h' : Heap} {k : NestedKey} {a b : Addr} {o : Obj} {es : Array (Int × Value)} {ep : Nat} {t : SetTable} (x : At h k b) (ho : h.get? a = some o) (hd : o.data = .set es ep t) (hs : Heap.SameBut a h h') : At h' k b :=
  x.keep fun c u vs n e q => (hs.2 c fun z => by
    subst z
    rw [ho] at e
    cases e
    rw [hd] at q
    cases q).trans e
abbrev Row := Addr × NestedKey
abbrev hx (w : World) (p : Row) : Int := p.2.hash w
/-- the set at a holds the keys of L -/
structure Has (w : World) (h : Heap) (a : Addr) (L : List Row) (es : Array (Int × Value)) (ep : Nat) (t : SetTable) : Prop where
  ob : ∃ o, h.get? a = some o ∧ o.ExactSet ∧ o.data = .set es ep t
  ent : es.toList = L.map fun p => (hx w p, Value.ref p.1)
  tab : TabOk t (L.map (hx w))
  once : (L.map (·.2)).Nodup
  keys : ∀ p ∈ L, At h p.2 p.1
  pl : t.plain = true
  sn : w.params.followText "set-order" = true ∨ t.led = true
  room : L.length * 5 < t.mask * 3
theorem ent_size {L : List Row} {es : Array (Int × Value)} (h : es.toList = L.map fun p => (hx w p, Value.ref p.1)) : es.size = L.length := by
  rw [← Array.length_toList, h, List.length_map]
theorem ent_at {L : List Row} {es : Array (Int × Value)} (h : es.toList = L.map fun p => (hx w p, Value.ref p.1)) {i : Nat} {p : Row} (e : L[i]? = some p) : es[i]? = some (hx w p, Value.ref p.1) := by
  rw [← Array.getElem?_toList, h, List.getElem?_map, e]; rfl
theorem fits_of {hs : List Int} {t : SetTable} (T : TabOk t hs) (hl : hs.length ≤ t.mask) : t.fits hs.length = true := by
  unfold SetTable.fits SetTable.fill
  rw [T.dm, Bool.and_eq_true, beq_iff_eq, decide_eq_true_eq]
  have := T.sz
  show t.place.size = hs.length ∧ t.place.size + 0 ≤ t.mask
  omega
section
variable {s : Shared} {A : Around} {E : Value → Shared → Prop} {a : Addr} {L : List Row} {es : Array (Int × Value)} {ep : Nat} {t : SetTable}
theorem Has.size (R : Has w s.heap a L es ep t) : es.size = L.length := ent_size R.ent
theorem Has.fits (R : Has w s.heap a L es ep t) : t.fits es.size = true := by
  have := fits_of R.tab (by rw [List.length_map]; have := R.room; omega)
  rwa [List.length_map, ← R.size] at this
/-- one look at the table: the state is what it is -/
theorem Has.look (R : Has w s.heap a L es ep t) {Q : (Array (Int × Value) × Nat × SetTable) → Shared → Prop} (h : Q (es, ep, t) s) : wpAny (model P w) A (setState a) Q E s := by
  obtain ⟨o, ho, _, hd⟩ := R.ob
  exact wpAny_setState_of ho hd R.fits h
theorem seen_no {x : Addr} {k : NestedKey} (hk : At s.heap k x) {Q : Bool → Shared → Prop} (h : Q false s) (ys : List Value) (hy : ∀ y ∈ ys, ∃ p : Row, y = .ref p.1 ∧ At s.heap p.2 p.1) : wpAny (model P w) A (searchCouldBeSeen (.ref x) ys) Q E s := by
  unfold searchCouldBeSeen
  refine wpAny_bind ?_
  refine wpAny_forIn_list _ (fun rest r s' => r.1 = none ∧ s' = s ∧ ∀ y ∈ rest, ∃ p : Row, y = .ref p.1 ∧ At s.heap p.2 p.1) _ ?_ ?_ _ _ ⟨rfl, rfl, hy⟩
  · rintro v rest r s' ⟨hr, rfl, hall⟩
    obtain ⟨⟨b, k'⟩, rfl, hb⟩ := hall v List.mem_cons_self
    have more := fun u (hu : u ∈ rest) => hall u (List.mem_cons_of_mem _ hu)
    dsimp only
    by_cases hv : (x == b || (carriedByValue (.ref x) && carriedByValue (.ref b))) = true
    · exact wp_if_pos hv (wpAny_pure ⟨rfl, rfl, more⟩)
    · refine wp_if_neg hv (wpAny_bind ((nestedKind P w).quiet hk.nk ?_))
      simp only [Bool.not_true, Bool.false_eq_true, if_false]
      refine wpAny_bind ((nestedKind P w).quiet hb.nk ?_)
      simp only [Bool.not_true, Bool.false_eq_true, if_false]
      refine wpAny_bind (noA_key k _ 8 _ hk.is hk.few _ _ _ ?_)
      simp only [Bool.false_eq_true, if_false]
      refine wpAny_bind (noA_key k' _ 8 _ hb.is hb.few _ _ _ ?_)
      simp only [Bool.false_eq_true, if_false]
      exact wpAny_pure ⟨rfl, rfl, more⟩
  · rintro ⟨r1, r2⟩ s' ⟨hr, rfl, _⟩
    simp only at hr
    subst hr
    exact wpAny_pure h
/-- the c-th place of the way of the hash h -/
abbrev stp (m : Nat) (h : Int) (c : Nat) : SetTable.Probe := nth m (runAt m (SetTable.bits h % (m + 1)) (SetTable.bits h)) c
theorem stp_calm (m : Nat) (h : Int) : ∀ c, (stp m h c).dummy = none
  | 0 => rfl
  | c + 1 => by
    show (nth m _ (c + 1)).dummy = none
    rw [nth_succ]
    have ih := stp_calm m h c
    unfold adv
    split <;> exact ih
/-- THE SEARCH, from the c-th place on; K is the first free one -/
theorem search (R : Has w s.heap a L es ep t) {x : Addr} {k : NestedKey} (hk : At s.heap k x) (hu : A.units + 8 < cLine) {K : Nat} (hf : K < 10 * SetTable.turns t.mask)
    (free : way t.mask (k.hash w) K ∉ t.place.toList) (full : ∀ c, c < K → way t.mask (k.hash w) c ∈ t.place.toList) {Q : SetFound → Shared → Prop}
    (yes : k ∈ L.map (·.2) → Q (.there none) s) (no : k ∉ L.map (·.2) → Q (.free (way t.mask (k.hash w) K) false) s) :
    ∀ (f c : Nat) (from_ : Option SetTable.Probe), from_.getD (t.probeStart (k.hash w)) = stp t.mask (k.hash w) c → c ≤ K → K - c < f →
      (∀ (i : Nat) (p : Row), L[i]? = some p → p.2 = k → ∃ d, c ≤ d ∧ d < K ∧ t.place.toList[i]? = some (way t.mask (k.hash w) d)) →
      wpAny (model P w) A (setSearchFrom a (.ref x) (k.hash w) true f from_) Q E s
  | 0, c, _, _, _, z, _ => absurd z (Nat.not_lt_zero _)
  | f + 1, c, from_, e0, hc, hfu, ahead => by
    rw [setSearchFrom_succ]
    refine wpAny_bind (R.look ?_)
    dsimp only
    have hg : ¬ t.gaveWay = true := by
      unfold SetTable.gaveWay
      rw [mask_odd R.tab.mok]
      decide
    refine wp_if_neg hg ?_
    try refine wpAny_bind (wpAny_pure ?_)
    have join : ∀ q, nth t.mask (stp t.mask (k.hash w) c) q = stp t.mask (k.hash w) (c + q) := fun q => (nth_add t.mask c _ q).symm
    have joinJ : ∀ q, (nth t.mask (stp t.mask (k.hash w) c) q).j = way t.mask (k.hash w) (c + q) := fun q => congrArg SetTable.Probe.j (join q)
    have eK : c + (K - c) = K := by omega
    have hashAt : ∀ (i : Nat) (p : Row), L[i]? = some p → (es[i]?.map (·.1)).getD 0 = hx w p := fun i p hp => by rw [ent_at R.ent hp]; rfl
    -- an entry of the key k is not passed before q
    have notPast : ∀ (q : Nat), (∀ (q' i : Nat), q' < q → t.place.toList[i]? = some (nth t.mask (stp t.mask (k.hash w) c) q').j → (es[i]?.map (·.1)).getD 0 ≠ k.hash w) → ∀ (i : Nat) (p : Row), L[i]? = some p → p.2 = k → ∀ d, c ≤ d → t.place.toList[i]? = some (way t.mask (k.hash w) d) → c + q ≤ d := by
      intro q hno i p hp hpk d hcd hd
      rcases Nat.lt_or_ge d (c + q) with z | z
      · exfalso
        refine hno (d - c) i (by omega) (by rw [joinJ, show c + (d - c) = d by omega]; exact hd) ?_
        rw [hashAt i p hp]
        show p.2.hash w = _
        rw [hpk]
      · exact z
    rcases go_spec t R.tab.ris R.tab.dm (fun i => (es[i]?.map (·.1)).getD 0) (k.hash w) (10 * SetTable.turns t.mask) (K - c) (stp t.mask (k.hash w) c) (stp_calm _ _ _) (by omega)
      (fun q hq => by rw [joinJ]; exact full (c + q) (by omega)) (by rw [joinJ, eK]; exact free) with ⟨q, i, hq, hi, hh, hno, hpr⟩ | ⟨hno, hpr⟩
    · rw [e0, show t.probe (fun i => (es[i]?.map (·.1)).getD 0) (k.hash w) (stp t.mask (k.hash w) c) = some (.candidate (way t.mask (k.hash w) (c + q)) i (stp t.mask (k.hash w) (c + (q + 1)))) by rw [← joinJ, ← join]; exact hpr]
      dsimp only
      rw [joinJ] at hi
      have hil : i < L.length := by
        have h1 : i < t.place.toList.length := (List.getElem?_eq_some_iff.mp hi).1
        have h2 := R.tab.sz
        rw [List.length_map] at h2
        rw [Array.length_toList] at h1
        omega
      obtain ⟨p, hp⟩ : ∃ p, L[i]? = some p := ⟨_, List.getElem?_eq_getElem hil⟩
      have hpm : p ∈ L := List.mem_of_getElem? hp
      have onward : wpAny (model P w) A (searchRest a (.ref x) (k.hash w) true f es t (way t.mask (k.hash w) (c + q)) i (stp t.mask (k.hash w) (c + (q + 1)))) Q E s := by
        unfold searchRest
        rw [ent_at R.ent hp]
        dsimp only
        refine wpAny_bind (wpAny_holding ((nestedKind P w).eqBool hu (R.keys p hpm).nk hk.nk ?_))
        refine wpAny_bind (R.look ?_)
        dsimp only
        by_cases same : p.2 = k
        · exact wp_if_pos (by simp [same]) (wpAny_pure (yes (List.mem_map.mpr ⟨p, hpm, same⟩)))
        · refine wp_if_neg (by simp [same]) ?_
          try refine wpAny_bind (wpAny_pure ?_)
          rw [sameMem]
          dsimp only
          have hsl : t.slot (way t.mask (k.hash w) (c + q)) = .live i := slot_live R.tab.ris hi
          simp only [if_true, hsl, ent_at R.ent hp]
          refine wpAny_bind (wpAny_isSame_ref_self (wpAny_bind (wpAny_pure ?_)))
          simp only [if_true]
          refine wp_if_neg (by simp [same]) ?_
          refine search R hk hu hf free full yes no f (c + (q + 1)) _ rfl (by omega) (by omega) fun i' p' hp' e' => ?_
          obtain ⟨d, d1, d2, d3⟩ := ahead i' p' hp' e'
          have d4 := notPast q (fun q' i h1 h2 h3 => hno q' i h1 h2 h3) i' p' hp' e' d d1 d3
          refine ⟨d, ?_, d2, d3⟩
          rcases Nat.lt_or_ge (c + q) d with y | y
          · omega
          · exfalso
            have ed : d = c + q := Nat.le_antisymm y d4
            rw [ed] at d3
            have s0 := slot_live R.tab.ris d3
            rw [hsl] at s0
            injection s0 with s0
            rw [← s0, hp] at hp'
            cases hp'
            exact same e'
      by_cases hl : t.led = true
      · refine wp_if_neg (by simp [hl]) ?_
        try refine wpAny_bind (wpAny_pure ?_)
        exact onward
      · refine wp_if_pos (by simp [hl]) ?_
        refine wpAny_bind (seen_no hk ?_ _ fun y hy => ?_)
        · refine wp_if_neg (by decide) ?_
          try refine wpAny_bind (wpAny_pure ?_)
          exact onward
        · obtain ⟨e, he, rfl⟩ := List.mem_map.mp hy
          have he1 : e ∈ es ∧ e.1 = k.hash w := by simpa using he
          have he2 : e ∈ es.toList := by simpa using he1.1
          rw [R.ent] at he2
          obtain ⟨p2, hp2, rfl⟩ := List.mem_map.mp he2
          exact ⟨p2, rfl, R.keys p2 hp2⟩
    · rw [e0, show t.probe (fun i => (es[i]?.map (·.1)).getD 0) (k.hash w) (stp t.mask (k.hash w) c) = some (.empty (way t.mask (k.hash w) K) none) by
        have z : way t.mask (k.hash w) K = (nth t.mask (stp t.mask (k.hash w) c) (K - c)).j := by rw [joinJ, eK]
        rw [z]
        exact hpr]
      dsimp only
      refine wpAny_pure (no fun hm => ?_)
      obtain ⟨p, hpm, hpk⟩ := List.mem_map.mp hm
      obtain ⟨i, hi, e⟩ := List.getElem_of_mem hpm
      have hp : L[i]? = some p := by rw [List.getElem?_eq_getElem hi, e]
      obtain ⟨d, d1, d2, d3⟩ := ahead i p hp hpk
      have := notPast (K - c) (fun q' i h1 h2 h3 => hno q' i h1 h2 h3) i p hp hpk d d1 d3
      omega
end
end
end L2.NS


set_option Elab.async false
set_option linter.all false
set_option maxRecDepth 100000
set_option maxHeartbeats 4000000
namespace L2.NS
open PySem PySem.Calls PySem.SeqAt PySem.W PyProof.Rows L2
section
variable {P : Program} {w : World} {s : Shared} {A : Around} {E : Value → Shared → Prop} {a : Addr} {L : List Row} {es : Array (Int × Value)} {ep : Nat} {t : SetTable}
def row0 : Row := (0, .none)
theorem all_get (L : List Row) : (List.range L.length).map (fun i => L.getD i row0) = L := by
  refine List.ext_getElem (by simp) fun i h1 h2 => ?_
  simp [List.getD_eq_getElem?_getD, h2]
theorem pick_map {β : Type} (F : Row → β) (L : List Row) {get : Nat → Option β} (hg : ∀ i p, L[i]? = some p → get i = some (F p)) : ∀ l : List Nat, (∀ i ∈ l, i < L.length) → l.filterMap get = l.map fun i => F (L.getD i row0)
  | [], _ => rfl
  | i :: l, h => by
    have hi := h i List.mem_cons_self
    have e := hg i L[i] (List.getElem?_eq_getElem hi)
    rw [List.filterMap_cons_some e, List.map_cons, pick_map F L hg l fun j hj => h j (List.mem_cons_of_mem _ hj)]
    rw [List.getD_eq_getElem?_getD, List.getElem?_eq_getElem hi]; rfl
/-- the table laid anew, larger -/
theorem relay {o : Obj} (ho : s.heap.get? a = some o) (hex : o.ExactSet) (hd : o.data = .set es ep t) (ent : es.toList = L.map fun p => (hx w p, Value.ref p.1)) (T : TabOk t (L.map (hx w))) (hl : L.length ≤ t.mask)
    (once : (L.map (·.2)).Nodup) (keys : ∀ p ∈ L, At s.heap p.2 p.1) (pl : t.plain = true) (sn : w.params.followText "set-order" = true ∨ t.led = true) {wanted M : Nat}
    (hw : SetTable.sizeAbove wanted - 1 = M) (hM : MaskOk M) (hw2 : SetTable.sizeAbove wanted ≤ 128) (hn : L.length * 5 < M * 3) {Q : Unit → Shared → Prop}
    (hQ : ∀ h' L' es' ep' t', Heap.SameBut a s.heap h' → Has w h' a L' es' ep' t' → L'.Perm L → Q () { s with heap := h' }) : wpAny (model P w) A (setRelay a wanted) Q E s := by
  have hsz := ent_size ent
  have hfit : t.fits es.size = true := by
    have := fits_of T (by rw [List.length_map]; exact hl)
    rwa [List.length_map, ← hsz] at this
  obtain ⟨t', order, e, hp, T', em, el, epl, _⟩ := relaid_ok t (hs := es.map (·.1)) (wanted := wanted) hw hM (by rw [Array.size_map, hsz]; omega)
  rw [Array.size_map, hsz] at hp
  have hlt : ∀ i ∈ order.toList, i < L.length := fun i hi => List.mem_range.mp (hp.mem_iff.mp hi)
  let L2 := order.toList.map fun i => L.getD i row0
  have ent2 : (order.filterMap (es[·]?)).toList = L2.map fun p => (hx w p, Value.ref p.1) := by
    rw [Array.toList_filterMap, pick_map (fun p => (hx w p, Value.ref p.1)) L (fun i p hp => ent_at ent hp) _ hlt, List.map_map]; rfl
  have pm : L2.Perm L := by
    have := hp.map fun i => L.getD i row0
    rwa [all_get] at this
  have eh : (order.toList.map fun i => (es.map (·.1)).getD i 0) = L2.map (hx w) := by
    rw [List.map_map]
    refine List.map_congr_left fun i hi => ?_
    have h := hlt i hi
    have e1 := ent_at ent (List.getElem?_eq_getElem h)
    have e2 : (es.map (·.1))[i]? = some (hx w L[i]) := by rw [Array.getElem?_map, e1]; rfl
    show (es.map (·.1)).getD i 0 = hx w (L.getD i row0)
    rw [List.getD_eq_getElem?_getD, List.getElem?_eq_getElem h]
    simp [Array.getD_eq_getD_getElem?, e2]
  rw [eh] at T'
  have hs2 : (order.filterMap (es[·]?)).size = es.size := by rw [ent_size ent2, pm.length_eq, hsz]
  rw [setRelay_eq]
  refine wpAny_bind (wpAny_setState_of ho hd hfit ?_)
  dsimp only
  refine wp_if_neg (by rw [sizeLine_eq]; omega) ?_
  try refine wpAny_bind (wpAny_pure ?_)
  rw [e]
  dsimp only
  refine wpAny_bind ?_
  refine wp_if_neg (by rw [hs2]; simp) ?_
  try refine wpAny_bind (wpAny_pure ?_)
  refine wpAny_pure ?_
  dsimp only
  refine wpAny_storeSet_of ho hd ?_ (by rw [hs2, hsz, sizeLine_eq]; rcases hM with z | z | z <;> omega)
  have sb : Heap.SameBut a s.heap (s.heap.update a (Obj.putSet (order.filterMap (es[·]?)) t')) := Heap.SameBut.update ..
  exact hQ _ L2 _ (ep + 1) t' sb ⟨⟨_, store_at ho hd, ⟨hex.1, hex.2.1, hex.2.2⟩, rfl⟩, ent2, T', (pm.map (·.2)).nodup_iff.mpr once, fun p hpm => (keys p (pm.mem_iff.mp hpm)).but ho hd sb, by rw [epl]; exact pl, by rw [el]; exact sn, by rw [pm.length_eq, em]; exact hn⟩ pm
/-- ADDING a key -/
theorem add (R : Has w s.heap a L es ep t) {x : Addr} {k : NestedKey} (hk : At s.heap k x) (hu : A.units + 8 < cLine) (h75 : k ∉ L.map (·.2) → L.length + 1 ≤ 75) {Q : Bool → Shared → Prop}
    (hQ : ∀ b h' L' es' ep' t', Heap.SameBut a s.heap h' → Has w h' a L' es' ep' t' → (k ∈ L.map (·.2) → L' = L) → (k ∉ L.map (·.2) → L'.Perm ((x, k) :: L)) → Q b { s with heap := h' }) :
    wpAny (model P w) A (setAddHashed a (.ref x) (k.hash w)) Q E s := by
  have hroom := R.room
  obtain ⟨o, ho, hex, hd⟩ := id R.ob
  obtain ⟨K, hKf, free, full⟩ := R.tab.first (by rw [List.length_map]; omega) (k.hash w)
  have hK5 : K < 100000 := by
    have : 10 * SetTable.turns t.mask ≤ 1420 := by
      unfold SetTable.turns
      rcases R.tab.mok with e | e | e <;> omega
    omega
  have ahead : ∀ (i : Nat) (p : Row), L[i]? = some p → p.2 = k → ∃ d, 0 ≤ d ∧ d < K ∧ t.place.toList[i]? = some (way t.mask (k.hash w) d) := fun i p hp hpk => by
    have hi : (L.map (hx w))[i]? = some (k.hash w) := by rw [List.getElem?_map, hp, ← hpk]; rfl
    have hil : i < t.place.toList.length := by
      have h1 := (List.getElem?_eq_some_iff.mp hp).1
      have h2 := R.tab.sz
      rw [List.length_map] at h2
      rw [Array.length_toList]
      omega
    have hj := List.getElem?_eq_getElem hil
    obtain ⟨d, hd', e⟩ := R.tab.before free hi hj
    exact ⟨d, Nat.zero_le _, hd', by rw [hj, e]⟩
  unfold setAddHashed
  refine wpAny_holding ?_
  rw [show (100000 : Nat) = 99999 + 1 from rfl, setAddHashedIn_succ]
  refine wpAny_bind (R.look ?_)
  dsimp only
  refine wp_if_neg (by simp [byScan, Value.scannable]) ?_
  try refine wpAny_bind (wpAny_pure ?_)
  refine wpAny_bind ?_
  unfold setSearch
  refine search R hk hu hKf free full (fun hm => ?_) (fun hm => ?_) 100000 0 none rfl (Nat.zero_le _) (by omega) ahead
  · dsimp only
    exact wpAny_pure (hQ false s.heap L es ep t (Heap.SameBut.refl a s.heap) R (fun _ => rfl) fun z => absurd hm z)
  · have h75 := h75 hm
    dsimp only
    refine wpAny_bind (R.look ?_)
    dsimp only
    obtain ⟨q1, q2, q3, q4, q5, q6, q7, q8, q9⟩ := R.tab.put free full
    have hp1 : (t.put (way t.mask (k.hash w) K)).1.plain = true := by rw [q6]; exact R.pl
    generalize hpt : t.put (way t.mask (k.hash w) K) = pt at q1 q3 q4 q5 q6 q7 q8 q9 hp1 ⊢
    obtain ⟨t1, p⟩ := pt
    dsimp only at q1 q3 q4 q5 q6 q7 q8 q9 hp1 ⊢
    subst q1
    first
      | (refine wpAny_bind ?_; refine wp_if_pos hp1 ?_; refine byV_key k _ 8 _ hk.is hk.ik hk.few _ _ _ ?_)
      | refine wp_if_pos hp1 (wpAny_bind (byV_key k _ 8 _ hk.is hk.ik hk.few _ _ _ ?_))
    simp only [if_true]
    have hin : (SetTable.insertAt es (SetTable.below t.place (way t.mask (k.hash w) K)) (k.hash w, Value.ref x)).toList = (L.take (SetTable.below t.place (way t.mask (k.hash w) K)) ++ (x, k) :: L.drop (SetTable.below t.place (way t.mask (k.hash w) K))).map fun p => (hx w p, Value.ref p.1) := by
      rw [SetTable.toList_insertAt, R.ent, List.map_append, List.map_cons, List.map_take, List.map_drop]
    have hhs : (L.take (SetTable.below t.place (way t.mask (k.hash w) K)) ++ (x, k) :: L.drop (SetTable.below t.place (way t.mask (k.hash w) K))).map (hx w) = (L.map (hx w)).take (SetTable.below t.place (way t.mask (k.hash w) K)) ++ k.hash w :: (L.map (hx w)).drop (SetTable.below t.place (way t.mask (k.hash w) K)) := by
      rw [List.map_append, List.map_cons, List.map_take, List.map_drop]
    rw [← hhs] at q3
    generalize SetTable.below t.place (way t.mask (k.hash w) K) = p at q2 q3 hin ⊢
    have pm : (L.take p ++ (x, k) :: L.drop p).Perm ((x, k) :: L) := by
      have h : (L.take p ++ (x, k) :: L.drop p).Perm ((x, k) :: (L.take p ++ L.drop p)) := List.perm_middle
      rwa [List.take_append_drop] at h
    have hlen : (L.take p ++ (x, k) :: L.drop p).length = L.length + 1 := pm.length_eq
    have nd1 : ((L.take p ++ (x, k) :: L.drop p).map (·.2)).Nodup := (pm.map (·.2)).nodup_iff.mpr (List.nodup_cons.mpr ⟨hm, R.once⟩)
    have hes := ent_size hin
    rw [hlen] at hes
    generalize SetTable.insertAt es p (k.hash w, Value.ref x) = es1 at hin hes ⊢
    generalize L.take p ++ (x, k) :: L.drop p = L1 at pm hlen q3 nd1 hin
    refine wpAny_bind (wpAny_storeSet_of ho hd ?_ (by rw [hes, sizeLine_eq]; omega))
    have sb : Heap.SameBut a s.heap (s.heap.update a (Obj.putSet es1 t1)) := Heap.SameBut.update ..
    have ho1 := store_at (es' := es1) (t' := t1) ho hd
    generalize s.heap.update a (Obj.putSet es1 t1) = h1 at sb ho1 ⊢
    have keys1 : ∀ p ∈ L1, At h1 p.2 p.1 := fun p hp => by
      rcases List.mem_cons.mp (pm.mem_iff.mp hp) with e | hp
      · rw [e]; exact hk.but ho hd sb
      · exact (R.keys p hp).but ho hd sb
    have sn1 : w.params.followText "set-order" = true ∨ t1.led = true := by rw [q5]; exact R.sn
    have hsl := R.size
    rw [List.length_map] at q9
    by_cases hf : t1.tooFull = true
    · first
        | (refine wpAny_bind ?_; refine wp_if_pos (by simp [hf]) ?_)
        | (refine wp_if_pos (by simp [hf]) ?_; refine wpAny_bind ?_)
      have hfull : (L.length + 1) * 5 ≥ t1.mask * 3 := by
        have h := hf
        unfold SetTable.tooFull at h
        rw [decide_eq_true_eq, q9] at h
        exact h
      rw [hsl]
      have two : (t.mask = 7 ∧ L.length = 4) ∨ (t.mask = 31 ∧ L.length = 18) := by
        rcases R.tab.mok with e | e | e <;> rw [q4, e] at hfull <;> rw [e] at hroom
        · exact .inl ⟨e, by omega⟩
        · exact .inr ⟨e, by omega⟩
        · omega
      have go : ∀ M, SetTable.sizeAbove (SetTable.grown (L.length + 1)) - 1 = M → MaskOk M → SetTable.sizeAbove (SetTable.grown (L.length + 1)) ≤ 128 → (L.length + 1) * 5 < M * 3 →
          wpAny (model P w) A (setRelay a (SetTable.grown (L.length + 1))) (fun _ s' => wpAny (model P w) A (pure true) Q E s') E { s with heap := h1 } := fun M g1 g2 g3 g4 => by
        refine relay (s := { s with heap := h1 }) ho1 ⟨hex.1, hex.2.1, hex.2.2⟩ rfl hin q3 (by rw [hlen, q4]; rcases two with ⟨e, e2⟩ | ⟨e, e2⟩ <;> omega) nd1 keys1 hp1 sn1 g1 g2 g3 (by rw [hlen]; exact g4) ?_
        intro h2 L2 es2 ep2 t2 sb2 R2 pm2
        exact wpAny_pure (hQ true h2 L2 es2 ep2 t2 (sb.trans sb2) R2 (fun z => absurd z hm) fun _ => pm2.trans pm)
      rcases two with ⟨_, e2⟩ | ⟨_, e2⟩
      · exact go 31 (by rw [e2, size_20]) (.inr (.inl rfl)) (by rw [e2, size_20]; decide) (by omega)
      · exact go 127 (by rw [e2, size_76]) (.inr (.inr rfl)) (by rw [e2, size_76]; decide) (by omega)
    · first
        | refine wp_if_neg (by simp [hf]) ?_
        | (refine wpAny_bind ?_; refine wp_if_neg (by simp [hf]) ?_; refine wpAny_pure ?_)
      refine wpAny_pure (hQ true h1 L1 es1 (ep + 1) t1 sb ⟨⟨_, ho1, ⟨hex.1, hex.2.1, hex.2.2⟩, rfl⟩, hin, q3, nd1, keys1, hp1, sn1, ?_⟩ (fun z => absurd z hm) fun _ => pm)
      have h := hf
      unfold SetTable.tooFull at h
      rw [decide_eq_true_eq, q9] at h
      rw [hlen]
      omega
theorem Has.keep {h h' : Heap} (R : Has w h a L es ep t) (ha : ∀ o, h.get? a = some o → h'.get? a = some o) (hk : ∀ p ∈ L, At h' p.2 p.1) : Has w h' a L es ep t := by
  obtain ⟨o, ho, r⟩ := R.ob
  exact ⟨⟨o, ha o ho, r⟩, R.ent, R.tab, R.once, hk, R.pl, R.sn, R.room⟩
end
end L2.NS


set_option Elab.async false
set_option linter.all false
set_option maxRecDepth 100000
set_option maxHeartbeats 4000000
namespace L2.NS
open PySem PySem.Calls PySem.SeqAt PySem.W PyProof.Rows L2
def nkR (r : List Int) : NestedKey := .tup (r.map .num)
def nkW (w : List (List Int)) : NestedKey := .tup (w.map nkR)
structure Set0 (w : World) (h : Heap) (a : Addr) (L : List Row) : Prop where
  ex : ∃ (es : Array (Int × Value)) (ep : Nat) (t : SetTable), (∃ o, h.get? a = some o ∧ o.ExactSet ∧ o.data = .set es ep t) ∧ es.size = L.length ∧ t.fits es.size = true ∧ L.length ≤ 76
theorem Has.s0 {w : World} {h : Heap} {a : Addr} {L : List Row} {es : Array (Int × Value)} {ep : Nat} {t : SetTable} (R : Has w h a L es ep t) : Set0 w h a L := by
  have h1 := ent_size R.ent
  have h2 := fits_of R.tab (by rw [List.length_map]; have := R.room; omega)
  rw [List.length_map, ← h1] at h2
  exact ⟨es, ep, t, R.ob, h1, h2, by have := R.room; rcases R.tab.mok with e | e | e <;> omega⟩
end L2.NS
namespace L2.P
open PySem PySem.Spec PyProof.Rows L2
abbrev WRow := Addr × List (List Int)
def rowW (p : WRow) : NS.Row := (p.1, NS.nkW p.2)
section
variable {X : Cx}
end
end L2.P


set_option Elab.async false
set_option linter.all false
set_option maxRecDepth 100000
set_option maxHeartbeats 4000000
namespace L2.P
open PySem PySem.Spec PyProof.Rows L2
end L2.P


set_option Elab.async false
set_option linter.all false
set_option maxRecDepth 100000
set_option maxHeartbeats 4000000
namespace L2.P
open PySem PySem.Spec PyProof.Rows L2
def sortW (ws : List (List (List Int))) : List (List (List Int)) := ws.mergeSort (PySem.W.dataLe false webD)
end L2.P
namespace L2.PS
open PySem PySem.Calls PySem.SeqAt PySem.W PyProof.Rows L2
open L2.P (WRow rowW webD sortW)
section
variable {P : Program} {w : World} {A : Around} {E : Value → Shared → Prop} {s : Shared}
end
end L2.PS
namespace L2.P
open PySem PySem.Spec PyProof.Rows L2
section
variable {X : Cx}
end
end L2.P


set_option Elab.async false
set_option linter.all false
set_option maxRecDepth 100000
set_option maxHeartbeats 4000000
namespace L2.P
open PySem PySem.Spec PyProof.Rows L2 NdefX LamX
section
variable {P : Program} {w : World} {H H' : Hp} {h B h' : Heap} {C fs : List Addr}
end
section
variable {X : Cx} {k : Nat} {x : Str} {f : Addr} {fd : FuncData} {ps fr : List Str} {js : List Nat} {cl : List (Str × Addr)} {sp : Sp} {t : TA} {e : Expr} {es : List Expr} {p pos : Pos}
end
section
variable {X : Cx} {L : LamD} {q x : Str} {c P : Addr} {js : List Nat} {f1 f2 : Rho → Option D} {e1 e2 : Expr} {p pos lpos : Pos}
end
section
variable {P : Program} {w : World} {K : Fg} {mg : Str → Option Value} {base : Heap} {x qual : Str} {params : Arguments} {body : List Stmt} {scope : Scope} {C : Addr} {fd : FuncData} {N ps : List Str} {k : Nat}
end
end L2.P


set_option Elab.async false
set_option linter.all false
set_option maxRecDepth 100000
set_option maxHeartbeats 4000000
namespace L2.P
open PySem PySem.Spec PyProof.Rows L2
section
variable {X : Cx} {a : Expr} {p pos : Pos}
end
end L2.P


set_option Elab.async false
set_option linter.all false
set_option maxRecDepth 100000
set_option maxHeartbeats 4000000
namespace L2.P
open PySem PySem.Spec PySem.Calls PySem.W PyProof.Rows L2
mutual
theorem NkD.hash : ∀ {k : NestedKey} {d : D}, NkD k d → ∀ w w' : World, k.hash w = k.hash w'
  | _, _, .none, _, _ => rfl
  | _, _, .num i, _, _ => rfl
  | _, _, .bool b, _, _ => rfl
  | _, _, .tup h, w, w' => by
    simp only [NestedKey.hash]
    rw [NkDs.hashes h w w']
theorem NkDs.hashes : ∀ {ks : List NestedKey} {ds : List D}, NkDs ks ds → ∀ w w' : World, NestedKey.hashes w ks = NestedKey.hashes w' ks
  | _, _, .nil, _, _ => rfl
  | _, _, .cons a b, w, w' => by
    simp only [NestedKey.hashes]
    rw [NkD.hash a w w', NkDs.hashes b w w']
end
mutual
theorem NkD.is {h : Heap} : ∀ {k : NestedKey} {d : D}, NkD k d → ∀ {u : Value} {as : List Addr}, Reads h u d as → NestedIs h k u
  | _, _, .none, u, as, q => by cases q; exact .none
  | _, _, .num i, u, as, q => by cases q; exact .int _ _
  | _, _, .bool b, u, as, q => by cases q; exact .bool rfl
  | _, _, .tup n, u, as, q => by
    cases q with
    | tuple h1 h2 h3 h4 => exact .tup h1 h2 h3 (NkDs.all n h4)
theorem NkDs.all {h : Heap} : ∀ {ks : List NestedKey} {ds : List D}, NkDs ks ds → ∀ {us : List Value} {as : List Addr}, ReadsAll h us ds as → NestedAll h ks us
  | _, _, .nil, us, as, q => by cases q; exact .nil
  | _, _, .cons a b, us, as, q => by
    cases q with
    | cons q1 q2 => exact .cons (NkD.is a q1) (NkDs.all b q2)
end
/-- what stands at the key -/
def atN (L : List NEnt) (k : NestedKey) : Option V := (L.find? fun p => decide (p.1 = k)).map fun p => p.2.2
def putN (L : List NEnt) (k : NestedKey) (b : Addr) (v : V) : List NEnt := if (atN L k).isSome then L.map fun p => if p.1 = k then (p.1, p.2.1, v) else p else L ++ [(k, b, v)]
theorem putN_len {L : List NEnt} {k : NestedKey} {b : Addr} {v : V} : (putN L k b v).length ≤ L.length + 1 := by
  unfold putN
  split
  · rw [List.length_map]; omega
  · rw [List.length_append]; exact Nat.le_refl _
/-- the keys of the entries stand in the heap -/
def EntsOk (K : Fg) (H : Hp) (L : List NEnt) : Prop := ∀ p ∈ L, ∃ d, NkD p.1 d ∧ p.1.depth ≤ 8 ∧ d.plain = true ∧ Dp K H (.ref p.2.1) d
section
variable {X : Cx} {pins : List (Addr × Obj)} {σ : St} {H : Hp} {s : Shared} {a b : Addr} {L : List NEnt} {k : NestedKey} {d : D} {A : Around} {E : Value → Shared → Prop}
end
/-- d[y] -/
def tNGet (K : Fg) (td ty : TE) : TE := fun σ H Q => td σ H fun x H1 => ty σ H1 fun y H2 => ∃ (a b : Addr) (L : List NEnt) (k : NestedKey) (d : D) (v : V), x = .ref a ∧ y = .ref b ∧ H2 a = some (DictNO a L) ∧ EntsOk K H2 L ∧ NkD k d ∧ k.depth ≤ 8 ∧ d.plain = true ∧ Dp K H2 (.ref b) d ∧ atN L k = some v ∧ Q v H2
/-- d[y] = v -/
def sNPut (K : Fg) (td ty tv : TE) : TS := fun En σ H => tv σ H fun v H1 => td σ H1 fun x H2 => ty σ H2 fun y H3 => ∃ (a b : Addr) (L : List NEnt) (k : NestedKey) (d : D), x = .ref a ∧ y = .ref b ∧ H3 a = some (DictNO a L) ∧ EntsOk K H3 L ∧ NkD k d ∧ k.depth ≤ 8 ∧ d.plain = true ∧ Dp K H3 (.ref b) d ∧ L.length ≤ sizeLine ∧ En.nx σ (upd H3 a (DictNO a (putN L k b v)))
section
variable {X : Cx} {o i e value : Expr} {pos pos' tpos : Pos} {td ty tv : TE}
end
end L2.P


set_option Elab.async false
set_option linter.all false
set_option maxRecDepth 100000
set_option maxHeartbeats 4000000
namespace L2.P
open PySem PySem.Spec PyProof.Rows L2
section
variable {X : Cx} {x y : Str} {p pos py : Pos} {e1 e2 e3 e4 ed : Expr} {f1 f2 f3 f4 : Rho → Option D} {M : List D → D → D → Prop} {g : GA} {i : Nat}
open Classical in
end
section
variable {K : Fg} {B : Bs} {F H : Hp} {σ : St} {ρ : Rho} {X : Cx}
end
theorem atN_map {k : NestedKey} {v : V} : ∀ {L : List NEnt}, (atN L k).isSome = true → atN (L.map fun q => if q.1 = k then (q.1, q.2.1, v) else q) k = some v
  | [], h => by cases h
  | q :: L, h => by
    unfold atN at *
    rw [List.map_cons, List.find?_cons]
    rw [List.find?_cons] at h
    by_cases c : q.1 = k
    · rw [if_pos c, decide_eq_true c]; rfl
    · rw [if_neg c, decide_eq_false c]
      rw [decide_eq_false c] at h
      exact atN_map h
theorem atN_app {k : NestedKey} {b : Addr} {v : V} : ∀ {L : List NEnt}, atN L k = none → atN (L ++ [(k, b, v)]) k = some v
  | [], _ => by unfold atN; simp
  | q :: L, h => by
    unfold atN at *
    rw [List.cons_append, List.find?_cons]
    rw [List.find?_cons] at h
    by_cases c : q.1 = k
    · rw [decide_eq_true c] at h; cases h
    · rw [decide_eq_false c] at h ⊢
      exact atN_app h
theorem atN_put {L : List NEnt} {k : NestedKey} {b : Addr} {v : V} : atN (putN L k b v) k = some v := by
  unfold putN
  split
  · rename_i h; exact atN_map h
  · rename_i h; exact atN_app (by simpa using h)
theorem atN_none {L : List NEnt} {k : NestedKey} (h : atN L k = none) : k ∉ L.map (·.1) := fun z => by
  obtain ⟨p, hp, e⟩ := List.mem_map.mp z
  unfold atN at h
  rw [Option.map_eq_none_iff, List.find?_eq_none] at h
  exact h p hp (decide_eq_true e)
theorem putN_nodup {L : List NEnt} {k : NestedKey} {b : Addr} {v : V} (h : (L.map (·.1)).Nodup) : ((putN L k b v).map (·.1)).Nodup := by
  unfold putN
  split
  · have e : (L.map fun p => if p.1 = k then (p.1, p.2.1, v) else p).map (·.1) = L.map (·.1) := by
      rw [List.map_map]
      refine List.map_congr_left fun p _ => ?_
      show (if p.1 = k then (p.1, p.2.1, v) else p).1 = p.1
      split <;> rfl
    rw [e]; exact h
  · rename_i z
    rw [List.map_append]
    refine List.pairwise_append.mpr ⟨h, List.nodup_cons.mpr ⟨by simp, List.nodup_nil⟩, fun a ha c hc e => ?_⟩
    rw [List.mem_singleton.mp hc] at e
    exact atN_none (by simpa using z) (e ▸ ha)
section
variable {X : Cx} {x y : Str} {px py p1 p2 p3 q1 q2 q3 pos pos1 pos2 pos3 pos4 : Pos} {i j : Nat} {v k : Expr} {st : Stmt} {rest : List Stmt}
end
section
variable {P : Program} {w : World} {K : Fg} {mg : Str → Option Value} {base : Heap} {x qual : Str} {params : Arguments} {body : List Stmt} {scope : Scope} {f : Addr} {fd : FuncData} {N ps : List Str} {k : Nat}
end
end L2.P


set_option Elab.async false
set_option linter.all false
set_option maxRecDepth 100000
set_option maxHeartbeats 4000000
namespace L2.P
open PySem PySem.Spec PyProof.Rows L2
def nkR (r : List Int) : NestedKey := .tup (r.map .num)
end L2.P


set_option Elab.async false
set_option linter.all false
set_option maxRecDepth 100000
set_option maxHeartbeats 4000000
namespace L2.P
open PySem PySem.Spec PySem.Calls PySem.W PyProof.Rows L2
mutual
/-- the key that the data is -/
def nkOf : D → Option NestedKey
  | .none => some .none
  | .int i => some (.num i)
  | .bool b => some (.num (if b = true then 1 else 0))
  | .tuple ds => (nkAll ds).map .tup
  | _ => none
def nkAll : List D → Option (List NestedKey)
  | [] => some []
  | d :: ds => (nkOf d).bind fun k => (nkAll ds).map fun ks => k :: ks
end
mutual
theorem nkOf_is : ∀ {d : D} {k : NestedKey}, nkOf d = some k → NkD k d ∧ d.plain = true
  | .int i, k, h => by
    unfold nkOf at h
    cases h
    exact ⟨.num i, rfl⟩
  | .bool b, k, h => by
    unfold nkOf at h
    cases h
    exact ⟨.bool b, rfl⟩
  | .tuple ds, k, h => by
    unfold nkOf at h
    obtain ⟨ks, e, rfl⟩ := Option.map_eq_some_iff.mp h
    obtain ⟨h1, h2⟩ := nkAll_is e
    exact ⟨.tup h1, by unfold PyData.plain; exact h2⟩
  | .none, k, h => by
    unfold nkOf at h
    cases h
    exact ⟨.none, rfl⟩
  | .str _, k, h => by unfold nkOf at h; cases h
  | .list _, k, h => by unfold nkOf at h; cases h
  | .dict _, k, h => by unfold nkOf at h; cases h
theorem nkAll_is : ∀ {ds : List D} {ks : List NestedKey}, nkAll ds = some ks → NkDs ks ds ∧ PyData.plainAll ds = true
  | [], ks, h => by
    unfold nkAll at h
    cases h
    exact ⟨.nil, rfl⟩
  | d :: ds, ks, h => by
    unfold nkAll at h
    obtain ⟨k, e1, h⟩ := Option.bind_eq_some_iff.mp h
    obtain ⟨ks', e2, rfl⟩ := Option.map_eq_some_iff.mp h
    obtain ⟨h1, h2⟩ := nkOf_is e1
    obtain ⟨h3, h4⟩ := nkAll_is e2
    exact ⟨.cons h1 h3, by unfold PyData.plainAll; rw [h2, h4]; rfl⟩
end
mutual
theorem nkOf_of : ∀ {k : NestedKey} {d : D}, NkD k d → nkOf d = some k
  | _, _, .none => by unfold nkOf; rfl
  | _, _, .num i => by unfold nkOf; rfl
  | _, _, .bool b => by unfold nkOf; rfl
  | _, _, .tup h => by unfold nkOf; rw [nkAll_of h]; rfl
theorem nkAll_of : ∀ {ks : List NestedKey} {ds : List D}, NkDs ks ds → nkAll ds = some ks
  | _, _, .nil => by unfold nkAll; rfl
  | _, _, .cons a b => by unfold nkAll; rw [nkOf_of a, nkAll_of b]; rfl
end
/-- a tuple that may be a key -/
def nkeyX : D → Option NestedKey
  | .tuple ds => (nkOf (.tuple ds)).bind fun k => if k.depth ≤ 8 then some k else none
  | _ => none
theorem nkeyX_is {d : D} {k : NestedKey} (h : nkeyX d = some k) : ∃ ds, d = .tuple ds ∧ NkD k d ∧ k.depth ≤ 8 ∧ d.plain = true := by
  unfold nkeyX at h
  split at h
  · obtain ⟨k', e, h⟩ := Option.bind_eq_some_iff.mp h
    split at h
    · rename_i h8
      cases h
      obtain ⟨h1, h2⟩ := nkOf_is e
      exact ⟨_, rfl, h1, h8, h2⟩
    · cases h
  · cases h
/-- an item's key, value -/
def fstZ : D → D
  | .tuple [d, _] => d
  | z => z
def sndZ : D → D
  | .tuple [_, p] => p
  | z => z
def nisK (k : NestedKey) (z : D) : Bool := decide (nkOf (fstZ z) = some k)
def nhX (zs : List D) (k : NestedKey) : Bool := zs.any (nisK k)
def npX (zs : List D) (k : NestedKey) (kd p : D) : List D := if nhX zs k = true then zs.map (fun z => if nisK k z = true then .tuple [fstZ z, p] else z) else zs ++ [.tuple [kd, p]]
def ndD (zs : List D) : D := .dict [(.none, .list zs)]
section
variable {K : Fg} {F H : Hp}
theorem dnAll_len : ∀ {L : List NEnt} {zs : List D}, DnAll K F L zs → L.length = zs.length
  | _, _, .nil => rfl
  | _, _, .cons _ _ _ _ _ t => congrArg (· + 1) (dnAll_len t)
theorem dnAll_ok (s : Same F H) : ∀ {L : List NEnt} {zs : List D}, DnAll K F L zs → EntsOk K H L
  | _, _, .nil => fun p hp => by cases hp
  | _, _, .cons a b c d e t => fun p hp => by
    rcases List.mem_cons.mp hp with rfl | hp
    · exact ⟨_, a, b, c, d.same s⟩
    · exact dnAll_ok s t p hp
theorem nisK_of {k k' : NestedKey} {d p : D} (n : NkD k d) : nisK k' (.tuple [d, p]) = decide (k = k') := by
  unfold nisK fstZ
  rw [nkOf_of n]
  by_cases e : k = k'
  · rw [decide_eq_true e, e]; exact decide_eq_true rfl
  · rw [decide_eq_false e]; exact decide_eq_false fun z => e (Option.some.inj z)
theorem dnAll_has (k : NestedKey) : ∀ {L : List NEnt} {zs : List D}, DnAll K F L zs → (atN L k).isSome = nhX zs k
  | _, _, .nil => rfl
  | _, _, .cons (k := k1) a b c d e t => by
    have ih := dnAll_has k t
    unfold atN nhX at *
    rw [List.find?_cons, List.any_cons, nisK_of a]
    by_cases q : k1 = k
    · rw [decide_eq_true q]; rfl
    · rw [decide_eq_false q]; exact ih
theorem dnAll_map {k : NestedKey} {v : V} {p : D} (dv : Dp K F v p) : ∀ {L : List NEnt} {zs : List D}, DnAll K F L zs → DnAll K F (L.map fun q => if q.1 = k then (q.1, q.2.1, v) else q) (zs.map fun z => if nisK k z = true then .tuple [fstZ z, p] else z)
  | _, _, .nil => .nil
  | _, _, .cons (k := k1) a b c d e t => by
    rw [List.map_cons, List.map_cons, nisK_of a]
    by_cases q : k1 = k
    · rw [if_pos q, if_pos (decide_eq_true q)]
      exact .cons a b c d dv (dnAll_map dv t)
    · rw [if_neg q, if_neg (by rw [decide_eq_false q]; exact Bool.false_ne_true)]
      exact .cons a b c d e (dnAll_map dv t)
theorem dnAll_app {k : NestedKey} {b : Addr} {v : V} {d p : D} (n : NkD k d) (h8 : k.depth ≤ 8) (pl : d.plain = true) (dy : Dp K F (.ref b) d) (dv : Dp K F v p) : ∀ {L : List NEnt} {zs : List D}, DnAll K F L zs → DnAll K F (L ++ [(k, b, v)]) (zs ++ [.tuple [d, p]])
  | _, _, .nil => .cons n h8 pl dy dv .nil
  | _, _, .cons a b c d e t => .cons a b c d e (dnAll_app n h8 pl dy dv t)
theorem dnAll_put {L : List NEnt} {zs : List D} {k : NestedKey} {b : Addr} {v : V} {d p : D} (n : NkD k d) (h8 : k.depth ≤ 8) (pl : d.plain = true) (dy : Dp K F (.ref b) d) (dv : Dp K F v p) (h : DnAll K F L zs) : DnAll K F (putN L k b v) (npX zs k d p) := by
  unfold putN npX
  rw [dnAll_has k h]
  split
  · exact dnAll_map dv h
  · exact dnAll_app n h8 pl dy dv h
end
section
variable {X : Cx} {k v e : Expr} {pos : Pos}
end
section
variable {K : Fg} {B : Bs} {F H : Hp} {σ : St} {ρ : Rho} {X : Cx}
end
section
variable {X : Cx} {x : Str} {i : Nat} {p1 p2 pos px : Pos} {v k : Expr}
end
section
variable {P : Program} {w : World} {K : PySem.W.Frag} {tg : Expr} {d : Addr} {o : Obj} {es : Array DictEntry} {ep : Nat}
end
section
variable {X : Cx} {tg e : Expr} {td : TE}
end
end L2.P


set_option Elab.async false
set_option linter.all false
set_option maxRecDepth 100000
set_option maxHeartbeats 4000000
namespace L2.P
open PySem PySem.Spec PyProof.Rows L2
abbrev RRow := Addr × List Int
def rowRR (p : RRow) : NS.Row := (p.1, NS.nkR p.2)
section
variable {X : Cx}
end
end L2.P
namespace L2.PS
open PySem PySem.Calls PySem.SeqAt PySem.W PyProof.Rows L2
open L2.P (RRow rowRR tR sortR)
section
variable {P : Program} {w : World} {A : Around} {E : Value → Shared → Prop} {s : Shared}
end
end L2.PS
namespace L2.P
open PySem PySem.Spec PyProof.Rows L2
section
variable {X : Cx}
end
end L2.P


set_option Elab.async false
set_option linter.all false
set_option maxRecDepth 100000
set_option maxHeartbeats 4000000
namespace L2.P
open PySem PySem.Spec PyProof.Rows L2
section
variable {X : Cx} {a b o e tg : Expr} {p pos apos : Pos}
end
end L2.P


set_option Elab.async false
set_option linter.all false
set_option maxRecDepth 100000
set_option maxHeartbeats 4000000
namespace L2.P
open PySem PySem.Spec PyProof.Rows L2
section
variable {X : Cx} {i : Nat} {x : Str} {p px pos ipos tpos fpos : Pos} {elts : List Expr} {kk : Nat} {g : Tg} {is : List Nat} {c : Expr} {bad : Stmt} {t : Rho → Option Bool}
end
end L2.P


set_option Elab.async false
set_option linter.all false
set_option maxRecDepth 100000
set_option maxHeartbeats 4000000
namespace L2.P
open PySem PySem.Spec PySem.Calls PySem.W PyProof.Rows L2 NdefX LamX
section
variable {X : Cx} {e : Expr} {te : TE} {p apos cpos pos : Pos}
end
section
variable {prog : Program} {w : World} {A : Around} {E : Value → Shared → Prop} {s : Shared}
end
section
variable {prog : Program} {w : World} {A : Around} {E : Value → Shared → Prop} {s : Shared} {a : Addr} {vs : List Value} {P : PySem.Fin → Shared → Prop}
end
section
variable {X : Cx} {q z : Str} {params : Arguments} {body : Expr} {scope : Scope}
end
end L2.P


set_option Elab.async false
set_option linter.all false
set_option maxRecDepth 100000
set_option maxHeartbeats 4000000
namespace L2.P
open PySem PySem.Spec PySem.Calls PySem.W PyProof.Rows L2 NdefX LamX
section
variable {X : Cx} {q0 z : Str} {params : Arguments} {body e : Expr} {scope : Scope} {p p2 pos pos2 apos cpos lpos kpos : Pos}
end
section
variable {X : Cx} {x y : Str} {i j : Nat} {k k1 v1 k2 v2 : Expr} {pos px py pt pd1 pd2 : Pos}
end
end L2.P


set_option Elab.async false
set_option linter.all false
set_option maxRecDepth 100000
set_option maxHeartbeats 4000000
namespace L2.P
theorem app_lt : ∀ {r r' x y : List Int}, r.length = r'.length → r < r' → r ++ x < r' ++ y
  | [], [], _, _, _, h => absurd h (List.lt_irrefl _)
  | [], _ :: _, _, _, h, _ => by simp at h
  | _ :: _, [], _, _, h, _ => by simp at h
  | a :: r, b :: r', x, y, hl, h => by
    rw [List.cons_append, List.cons_append]
    rcases List.cons_lt_cons_iff.mp h with h2 | ⟨rfl, h2⟩
    · exact List.cons_lt_cons_iff.mpr (.inl h2)
    · exact List.cons_lt_cons_iff.mpr (.inr ⟨rfl, app_lt (by simpa using hl) h2⟩)
theorem lt_or_eqR {r r' : List Int} (h : r ≤ r') : r < r' ∨ r = r' := by
  by_cases c : r' ≤ r
  · exact .inr (List.le_antisymm h c)
  · exact .inl (List.not_le.mp c)
theorem app_le {r r' x : List Int} (hl : r.length = r'.length) (h : r ≤ r') : r ++ x ≤ r' ++ x := by
  rcases lt_or_eqR h with h | rfl
  · exact List.le_of_lt (app_lt hl h)
  · exact List.le_refl _
theorem app_one {p q : Int} (h : p ≤ q) : ∀ r : List Int, r ++ [p] ≤ r ++ [q]
  | [] => by
    rcases Int.lt_or_eq_of_le h with h | rfl
    · exact List.le_of_lt (List.cons_lt_cons_iff.mpr (.inl h))
    · exact List.le_refl _
  | a :: r => by
    rcases lt_or_eqR (app_one h r) with h' | h'
    · exact List.le_of_lt (List.cons_lt_cons_iff.mpr (.inr ⟨rfl, h'⟩))
    · rw [List.cons_append, List.cons_append, h']; exact List.le_refl _
/-- a row of these people -/
def ValR (ps r : List Int) : Prop := ∀ x ∈ r, x ∈ ps
section
variable {S : Type} [DecidableEq S] {step : S → Int → S} {ps : List Int} {k0 : S}
def nxtC (step : S → Int → S) (ps : List Int) (es : List (S × List Int)) : List (S × List Int) := es.flatMap fun e => ps.map fun p => (step e.1 p, e.2 ++ [p])
def insC (s : List S × List (S × List Int)) (c : S × List Int) : List S × List (S × List Int) := if c.1 ∈ s.1 then s else (s.1 ++ [c.1], s.2 ++ [c])
structure InsOk (cs : List (S × List Int)) (m0 : List S) (f0 : List (S × List Int)) (s : List S × List (S × List Int)) : Prop where
  met : ∀ k, k ∈ s.1 ↔ k ∈ m0 ∨ ∃ c ∈ cs, c.1 = k
  ndm : s.1.Nodup
  ndf : (s.2.map (·.1)).Nodup
  sub : ∀ e ∈ s.2, e ∈ f0 ∨ e ∈ cs ∧ e.1 ∉ m0 ∧ ∀ c ∈ cs, c.1 = e.1 → e.2 ≤ c.2
  has : ∀ c ∈ cs, c.1 ∉ m0 → ∃ e ∈ s.2, e.1 = c.1
  old : ∀ e ∈ f0, e ∈ s.2
  l1 : s.1.length ≤ m0.length + cs.length
  l2 : s.2.length ≤ f0.length + cs.length
theorem ins_spec : ∀ (cs : List (S × List Int)) (m0 : List S) (f0 : List (S × List Int)), cs.Pairwise (fun a b => a.2 ≤ b.2) → m0.Nodup → (f0.map (·.1)).Nodup → (∀ e ∈ f0, e.1 ∈ m0) → InsOk cs m0 f0 (cs.foldl insC (m0, f0))
  | [], m0, f0, _, h1, h2, _ => ⟨fun k => by simp, h1, h2, fun e he => .inl he, fun c hc => (by cases hc), fun e he => he, Nat.le_refl _, Nat.le_refl _⟩
  | c :: cs, m0, f0, hp, h1, h2, h3 => by
    obtain ⟨q1, q2⟩ := List.pairwise_cons.mp hp
    rw [List.foldl_cons]
    by_cases hc : c.1 ∈ m0
    · rw [show insC (m0, f0) c = (m0, f0) from if_pos hc]
      have I := ins_spec cs m0 f0 q2 h1 h2 h3
      refine ⟨fun k => ?_, I.ndm, I.ndf, fun e he => ?_, fun d hd hn => ?_, I.old, Nat.le_trans I.l1 (by simp), Nat.le_trans I.l2 (by simp)⟩
      · rw [I.met]
        constructor
        · rintro (h | ⟨d, hd, e⟩)
          · exact .inl h
          · exact .inr ⟨d, List.mem_cons_of_mem _ hd, e⟩
        · rintro (h | ⟨d, hd, e⟩)
          · exact .inl h
          · rcases List.mem_cons.mp hd with hd | hd
            · exact .inl (by rw [← e, hd]; exact hc)
            · exact .inr ⟨d, hd, e⟩
      · rcases I.sub e he with h | ⟨a1, a2, a3⟩
        · exact .inl h
        · refine .inr ⟨List.mem_cons_of_mem _ a1, a2, fun d hd ed => ?_⟩
          rcases List.mem_cons.mp hd with rfl | hd
          · exact absurd (ed ▸ hc) a2
          · exact a3 d hd ed
      · rcases List.mem_cons.mp hd with rfl | hd
        · exact absurd hc hn
        · exact I.has d hd hn
    · rw [show insC (m0, f0) c = (m0 ++ [c.1], f0 ++ [c]) from if_neg hc]
      have I := ins_spec cs (m0 ++ [c.1]) (f0 ++ [c]) q2 (List.nodup_append.mpr ⟨h1, by simp, fun a ha b hb => by
        rw [List.mem_singleton.mp hb]; exact fun z => hc (z ▸ ha)⟩) (by
        rw [List.map_append]
        refine List.nodup_append.mpr ⟨h2, by simp, fun a ha b hb => ?_⟩
        obtain ⟨e', he', rfl⟩ := List.mem_map.mp ha
        have : b = c.1 := by simpa using hb
        rw [this]
        exact fun z => hc (z ▸ h3 e' he')) (fun e he => by
        rcases List.mem_append.mp he with he | he
        · exact List.mem_append_left _ (h3 e he)
        · rw [List.mem_singleton.mp he]; exact List.mem_append_right _ (List.mem_singleton.mpr rfl))
      have hcm : c ∈ (cs.foldl insC (m0 ++ [c.1], f0 ++ [c])).2 := I.old c (List.mem_append_right _ (List.mem_singleton.mpr rfl))
      refine ⟨fun k => ?_, I.ndm, I.ndf, fun e he => ?_, fun d hd hn => ?_, fun e he => I.old e (List.mem_append_left _ he), ?_, ?_⟩
      · rw [I.met, List.mem_append, List.mem_singleton]
        constructor
        · rintro ((h | h) | ⟨d, hd, e⟩)
          · exact .inl h
          · exact .inr ⟨c, List.mem_cons_self, h.symm⟩
          · exact .inr ⟨d, List.mem_cons_of_mem _ hd, e⟩
        · rintro (h | ⟨d, hd, e⟩)
          · exact .inl (.inl h)
          · rcases List.mem_cons.mp hd with hd | hd
            · exact .inl (.inr (by rw [← e, hd]))
            · exact .inr ⟨d, hd, e⟩
      · rcases I.sub e he with h | ⟨a1, a2, a3⟩
        · rcases List.mem_append.mp h with h | h
          · exact .inl h
          · rw [List.mem_singleton.mp h]
            refine .inr ⟨List.mem_cons_self, hc, fun d hd _ => ?_⟩
            rcases List.mem_cons.mp hd with rfl | hd
            · exact List.le_refl _
            · exact q1 d hd
        · rw [List.mem_append, List.mem_singleton, not_or] at a2
          refine .inr ⟨List.mem_cons_of_mem _ a1, a2.1, fun d hd ed => ?_⟩
          rcases List.mem_cons.mp hd with rfl | hd
          · exact absurd ed.symm a2.2
          · exact a3 d hd ed
      · rcases List.mem_cons.mp hd with rfl | hd
        · exact ⟨d, hcm, rfl⟩
        · by_cases z : d.1 = c.1
          · exact ⟨c, hcm, z.symm⟩
          · exact I.has d hd (by rw [List.mem_append, List.mem_singleton, not_or]; exact ⟨hn, z⟩)
      · have := I.l1; rw [List.length_append, List.length_singleton] at this; rw [List.length_cons]; omega
      · have := I.l2; rw [List.length_append, List.length_singleton] at this; rw [List.length_cons]; omega
/-- after t levels: last holds what is reached by t calls and by no fewer, met all that is reached -/
structure Lev (step : S → Int → S) (ps : List Int) (k0 : S) (t : Nat) (last : List (S × List Int)) (met : List S) : Prop where
  row : ∀ e ∈ last, e.2.length = t ∧ ValR ps e.2 ∧ e.2.foldl step k0 = e.1
  min : ∀ e ∈ last, ∀ r, r.length = t → ValR ps r → r.foldl step k0 = e.1 → e.2 ≤ r
  mt : ∀ k, k ∈ met ↔ ∃ r, r.length ≤ t ∧ ValR ps r ∧ r.foldl step k0 = k
  new : ∀ e ∈ last, ∀ r, r.length < t → ValR ps r → r.foldl step k0 ≠ e.1
  all : ∀ r, r.length = t → ValR ps r → (∃ e ∈ last, e.1 = r.foldl step k0) ∨ ∃ r', r'.length < t ∧ ValR ps r' ∧ r'.foldl step k0 = r.foldl step k0
  nd : (last.map (·.1)).Nodup
  ndm : List.Nodup met
theorem val_snoc {ps q : List Int} {p : Int} : ValR ps (q ++ [p]) ↔ ValR ps q ∧ p ∈ ps := by
  unfold ValR
  simp only [List.mem_append, List.mem_singleton]
  exact ⟨fun h => ⟨fun x hx => h x (.inl hx), h p (.inr rfl)⟩, fun h x hx => hx.elim (h.1 x) (fun e => e ▸ h.2)⟩
theorem snoc_of {r : List Int} {t : Nat} (h : r.length = t + 1) : ∃ q p, r = q ++ [p] ∧ q.length = t := by
  rcases List.eq_nil_or_concat r with rfl | ⟨q, p, e⟩
  · simp at h
  · refine ⟨q, p, by rw [e]; simp, ?_⟩
    rw [e] at h
    simpa using h
theorem mem_nxtC {es : List (S × List Int)} {c : S × List Int} : c ∈ nxtC step ps es ↔ ∃ e ∈ es, ∃ p ∈ ps, c = (step e.1 p, e.2 ++ [p]) := by
  unfold nxtC
  rw [List.mem_flatMap]
  constructor
  · rintro ⟨e, he, h⟩
    obtain ⟨p, hp, rfl⟩ := List.mem_map.mp h
    exact ⟨e, he, p, hp, rfl⟩
  · rintro ⟨e, he, p, hp, rfl⟩
    exact ⟨e, he, List.mem_map.mpr ⟨p, hp, rfl⟩⟩
theorem pw_nxtC {t : Nat} (hps : ps.Pairwise (· ≤ ·)) : ∀ {es : List (S × List Int)}, es.Pairwise (fun a b => a.2 < b.2) → (∀ e ∈ es, e.2.length = t) → (nxtC step ps es).Pairwise (fun a b => a.2 ≤ b.2)
  | [], _, _ => .nil
  | e :: es, h, hl => by
    obtain ⟨h1, h2⟩ := List.pairwise_cons.mp h
    show ((ps.map fun p => (step e.1 p, e.2 ++ [p])) ++ nxtC step ps es).Pairwise _
    refine List.pairwise_append.mpr ⟨List.pairwise_map.mpr (hps.imp fun {a b} hab => app_one hab _), pw_nxtC hps h2 fun x hx => hl x (List.mem_cons_of_mem _ hx), fun a ha b hb => ?_⟩
    obtain ⟨p, _, rfl⟩ := List.mem_map.mp ha
    obtain ⟨e', he', q, _, rfl⟩ := mem_nxtC.mp hb
    exact List.le_of_lt (app_lt ((hl e List.mem_cons_self).trans (hl e' (List.mem_cons_of_mem _ he')).symm) (h1 e' he'))
/-- the rows of a level are different ones -/
theorem Lev.strict {t : Nat} {last es : List (S × List Int)} {met : List S} (L : Lev step ps k0 t last met) (hp : es.Perm last) (h : es.Pairwise fun a b => a.2 ≤ b.2) : es.Pairwise fun a b => a.2 < b.2 := by
  have nd : (es.map (·.1)).Nodup := (hp.map _).nodup_iff.mpr L.nd
  have nd' : es.Pairwise fun a b => a.1 ≠ b.1 := List.pairwise_map.mp nd
  refine (List.Pairwise.and h nd').imp_of_mem fun {a b} ha hb ⟨h1, h2⟩ => ?_
  rcases lt_or_eqR h1 with h1 | h1
  · exact h1
  · refine absurd ?_ h2
    rw [← (L.row a (hp.mem_iff.mp ha)).2.2, ← (L.row b (hp.mem_iff.mp hb)).2.2, h1]
theorem Lev.next {t : Nat} {last es : List (S × List Int)} {met : List S} (L : Lev step ps k0 t last met) (hps : ps.Pairwise (· ≤ ·)) (hp : es.Perm last) (h : es.Pairwise fun a b => a.2 ≤ b.2) :
    Lev step ps k0 (t + 1) ((nxtC step ps es).foldl insC (met, [])).2 ((nxtC step ps es).foldl insC (met, [])).1 := by
  have I := ins_spec (nxtC step ps es) met [] (pw_nxtC hps (L.strict hp h) fun e he => (L.row e (hp.mem_iff.mp he)).1) L.ndm (by simp) (fun e he => by cases he)
  generalize (nxtC step ps es).foldl insC (met, []) = s at I ⊢
  have cand : ∀ c ∈ nxtC step ps es, c.2.length = t + 1 ∧ ValR ps c.2 ∧ c.2.foldl step k0 = c.1 := fun c hc => by
    obtain ⟨e, he, p, hp', rfl⟩ := mem_nxtC.mp hc
    obtain ⟨a, b, d⟩ := L.row e (hp.mem_iff.mp he)
    refine ⟨by rw [List.length_append, a, List.length_singleton], val_snoc.mpr ⟨b, hp'⟩, ?_⟩
    rw [List.foldl_append, d]; rfl
  have sub : ∀ e ∈ s.2, e ∈ nxtC step ps es ∧ e.1 ∉ met ∧ ∀ c ∈ nxtC step ps es, c.1 = e.1 → e.2 ≤ c.2 := fun e he => (I.sub e he).resolve_left (fun z => by cases z)
  -- a row of t + 1 calls: what it leads to is a candidate's, or is reached earlier
  have last1 : ∀ r, r.length = t + 1 → ValR ps r → (∃ c ∈ nxtC step ps es, c.1 = r.foldl step k0 ∧ c.2 ≤ r) ∨ ∃ r', r'.length < t + 1 ∧ ValR ps r' ∧ r'.foldl step k0 = r.foldl step k0 := fun r hr hv => by
    obtain ⟨q, p, rfl, hq⟩ := snoc_of hr
    obtain ⟨v1, v2⟩ := val_snoc.mp hv
    rcases L.all q hq v1 with ⟨e, he, e1⟩ | ⟨q', a1, a2, a3⟩
    · refine .inl ⟨(step e.1 p, e.2 ++ [p]), mem_nxtC.mpr ⟨e, hp.mem_iff.mpr he, p, v2, rfl⟩, by rw [List.foldl_append, ← e1]; rfl, app_le ((L.row e he).1.trans hq.symm) (L.min e he q hq v1 e1.symm)⟩
    · exact .inr ⟨q' ++ [p], by rw [List.length_append, List.length_singleton]; omega, val_snoc.mpr ⟨a2, v2⟩, by rw [List.foldl_append, List.foldl_append, a3]⟩
  refine ⟨fun e he => cand e (sub e he).1, fun e he r hr hv hf => ?_, fun k => ?_, fun e he r hr hv hf => ?_, fun r hr hv => ?_, I.ndf, I.ndm⟩
  · obtain ⟨s1, s2, s3⟩ := sub e he
    rcases last1 r hr hv with ⟨c, hc, c1, c2⟩ | ⟨r', a1, a2, a3⟩
    · exact List.le_trans (s3 c hc (c1.trans hf)) c2
    · exact absurd ((L.mt _).mpr ⟨r', by omega, a2, a3.trans hf⟩) s2
  · rw [I.met]
    constructor
    · rintro (h | ⟨c, hc, rfl⟩)
      · obtain ⟨r, a, b, d⟩ := (L.mt k).mp h
        exact ⟨r, by omega, b, d⟩
      · obtain ⟨a, b, d⟩ := cand c hc
        exact ⟨c.2, by omega, b, d⟩
    · rintro ⟨r, a, b, d⟩
      by_cases hr : r.length = t + 1
      · rcases last1 r hr b with ⟨c, hc, c1, _⟩ | ⟨r', a1, a2, a3⟩
        · exact .inr ⟨c, hc, c1.trans d⟩
        · exact .inl ((L.mt k).mpr ⟨r', by omega, a2, a3.trans d⟩)
      · exact .inl ((L.mt k).mpr ⟨r, by omega, b, d⟩)
  · exact (sub e he).2.1 ((L.mt _).mpr ⟨r, by omega, hv, hf⟩)
  · rcases last1 r hr hv with ⟨c, hc, c1, _⟩ | h
    · by_cases hm : c.1 ∈ met
      · obtain ⟨r', a, b, d⟩ := (L.mt _).mp hm
        exact .inr ⟨r', by omega, b, d.trans c1⟩
      · obtain ⟨e, he, e1⟩ := I.has c hc hm
        exact .inl ⟨e, he, e1.trans c1⟩
    · exact .inr h
/-- the least of the shortest rows that lead to one that is calm -/
structure LeastR (step : S → Int → S) (ps : List Int) (k0 : S) (calm : S → Bool) (r : List Int) : Prop where
  val : ValR ps r
  good : calm (r.foldl step k0) = true
  least : ∀ r', ValR ps r' → calm (r'.foldl step k0) = true → r.length < r'.length ∨ r.length = r'.length ∧ r ≤ r'
def NoCalm (step : S → Int → S) (ps : List Int) (k0 : S) (calm : S → Bool) (t : Nat) : Prop := ∀ r, r.length < t → ValR ps r → calm (r.foldl step k0) = false
theorem Lev.found {t : Nat} {last es : List (S × List Int)} {met : List S} {calm : S → Bool} {e : S × List Int} (L : Lev step ps k0 t last met) (nc : NoCalm step ps k0 calm t) (hp : es.Perm last) (h : es.Pairwise fun a b => a.2 ≤ b.2) (hf : es.find? (fun e => calm e.1) = some e) :
    LeastR step ps k0 calm e.2 := by
  have he := List.mem_of_find?_eq_some hf
  obtain ⟨a, b, d⟩ := L.row e (hp.mem_iff.mp he)
  have hc : calm e.1 = true := by
    have := List.find?_some hf
    exact this
  refine ⟨b, by rw [d]; exact hc, fun r' hv hg => ?_⟩
  by_cases h1 : r'.length < t
  · rw [nc r' h1 hv] at hg; cases hg
  by_cases h2 : r'.length = t
  · refine .inr ⟨by omega, ?_⟩
    rcases L.all r' h2 hv with ⟨e', he', e1⟩ | ⟨q, a1, a2, a3⟩
    · have m := L.min e' he' r' h2 hv e1.symm
      refine List.le_trans ?_ m
      rw [← e1] at hg
      obtain ⟨as, bs, e2, e3⟩ := (List.find?_eq_some_iff_append.mp hf).2
      have me : e' ∈ es := hp.mem_iff.mpr he'
      rw [e2] at me h
      rcases List.mem_append.mp me with me | me
      · have := e3 e' me
        simp [hg] at this
      · rcases List.mem_cons.mp me with rfl | me
        · exact List.le_refl _
        · exact (List.pairwise_cons.mp (List.pairwise_append.mp h).2.1).1 e' me
    · rw [← a3, nc q a1 a2] at hg; cases hg
  · exact .inl (by omega)
theorem Lev.none {t : Nat} {last es : List (S × List Int)} {met : List S} {calm : S → Bool} (L : Lev step ps k0 t last met) (nc : NoCalm step ps k0 calm t) (hp : es.Perm last) (hf : es.find? (fun e => calm e.1) = none) : NoCalm step ps k0 calm (t + 1) := fun r hr hv => by
  by_cases h1 : r.length < t
  · exact nc r h1 hv
  rcases L.all r (by omega) hv with ⟨e', he', e1⟩ | ⟨q, a1, a2, a3⟩
  · have := List.find?_eq_none.mp hf e' (hp.mem_iff.mpr he')
    rw [← e1]
    simpa using this
  · rw [← a3]; exact nc q a1 a2
end
section
open PySem PySem.Spec PyProof.Rows L2
end
end L2.P


set_option Elab.async false
set_option linter.all false
set_option maxRecDepth 100000
set_option maxHeartbeats 4000000
namespace L2.DM
open PySem PySem.Calls PySem.W PyProof.Rows PySem.Spec
section
variable {prog : Program} {w : World} {K : Type} [DecidableEq K] {knd : HeapKind prog w K} {A : Around} {E : Value → Shared → Prop} {s : Shared} {d a : Addr} {k : K} {xs ys : List (K × Addr × Value)}
end
end L2.DM


set_option Elab.async false
set_option linter.all false
set_option maxRecDepth 100000
set_option maxHeartbeats 4000000
namespace L2.P
open PySem PySem.Spec PySem.Calls PySem.W PyProof.Rows L2
section
variable {X : Cx} {pins : List (Addr × Obj)} {σ : St} {H : Hp} {s : Shared} {a : Addr} {L : List NEnt} {o : Obj}
end
section
variable {X : Cx} {k v e1 : Expr} {pos : Pos} {t1 tk tv : TE}
end
end L2.P


set_option Elab.async false
set_option linter.all false
set_option maxRecDepth 100000
set_option maxHeartbeats 4000000
namespace L2.P
open PySem PySem.Spec PySem.Calls PySem.W PyProof.Rows L2
section
variable {P : Program} {w : World} {K : PySem.W.Frag} {tg : Expr} {d : Addr} {o : Obj} {es : Array DictEntry} {ep : Nat}
end
section
variable {X : Cx} {tg e : Expr} {td : TE} {apos cpos p : Pos}
end
end L2.P


set_option Elab.async false
set_option linter.all false
set_option maxRecDepth 100000
set_option maxHeartbeats 4000000
namespace L2.P
open PySem PySem.Spec PySem.Calls PySem.W PyProof.Rows L2
def tEmptyN : TE := fun σ H Q => ∀ p, H p = none → (p == sysModules) = false → Q (.ref p) (upd H p (DictNO p []))
def tNGet2 (K : Fg) (td ty tz : TE) : TE := fun σ H Q => td σ H fun x H1 => ∃ a, x = .ref a ∧ (a == sysModules) = false ∧ (∃ L0, H1 a = some (DictNO a L0)) ∧ ty σ H1 fun y H2 => tz σ H2 fun z H3 => ∃ (b : Addr) (L : List NEnt) (k : NestedKey) (dd : D), y = .ref b ∧ H3 a = some (DictNO a L) ∧ EntsOk K H3 L ∧ NkD k dd ∧ k.depth ≤ 8 ∧ dd.plain = true ∧ Dp K H3 (.ref b) dd ∧ Q ((atN L k).getD z) H3
section
variable {X : Cx} {o e f : Expr} {pos apos cpos : Pos} {td ty tz : TE}
end
def lookNX (zs : List D) (k : NestedKey) : Option D := (zs.find? (nisK k)).map sndZ
/-- the items of the dict at the key, or none -/
def innX (zs : List D) (k : NestedKey) : Option (List D) := match lookNX zs k with
  | none => some []
  | some (.dict [(.none, .list zs')]) => some zs'
  | _ => none
section
variable {X : Cx} {x : Str} {i : Nat} {ky k v : Expr} {pos px apos cpos epos : Pos}
end
end L2.P


set_option Elab.async false
set_option linter.all false
set_option maxRecDepth 100000
set_option maxHeartbeats 4000000
namespace L2.P
open PySem PySem.Spec PyProof.Rows L2 NdefX LamX
section
variable {X : Cx} {L : LamD} {q x : Str} {c P : Addr} {js : List Nat} {g : GA} {f0 f1 f2 : Rho → Option D} {e0 e1 e2 : Expr} {p pos lpos : Pos}
end
end L2.P


set_option Elab.async false
set_option linter.all false
set_option maxRecDepth 100000
set_option maxHeartbeats 4000000
namespace L2.P
open PySem PySem.Spec PyProof.Rows L2 NdefX LamX
section
variable {H : Hp} {cs : List Addr} {g : Addr → HO} {b c : Addr}
end
section
variable {X : Cx} {pins : List (Addr × Obj)} {σ : St} {s : Shared}
variable {ss rest : List Stmt} {S : Stmt} {t : TS}
end
structure NIn where
  k : NestedKey
  b : Addr
  c : Addr
  L : List NEnt
  d : D
  zs : List D
def topL (es : List NIn) : List NEnt := es.map fun e => (e.k, e.b, V.ref e.c)
def nzs (es : List NIn) : List D := es.map fun e => .tuple [e.d, ndD e.zs]
structure Nst (K : Fg) (B : Bs) (F H : Hp) (a : Addr) (es : List NIn) : Prop where
  sm : (a == sysModules) = false
  fa : F a = none
  ha : B.Ha a = none
  hh : H a = some (DictNO a (topL es))
  kn : (es.map (·.k)).Nodup
  len : es.length ≤ sizeLine
  cn : (a :: es.map (·.c)).Nodup
  ent : ∀ e ∈ es, NkD e.k e.d ∧ e.k.depth ≤ 8 ∧ e.d.plain = true ∧ Dp K F (.ref e.b) e.d
  fc : ∀ e ∈ es, F e.c = none ∧ B.Ha e.c = none ∧ (e.c == sysModules) = false
  hc : ∀ e ∈ es, H e.c = some (DictNO e.c e.L)
  inn : ∀ e ∈ es, DnAll K F e.L e.zs ∧ (e.L.map (·.1)).Nodup ∧ e.L.length ≤ sizeLine
/-- the frame between two turns: nothing of its own but the dicts -/
structure NJ (K : Fg) (B : Bs) (F H : Hp) (σ : St) (ρ : Rho) (ix : Nat) (a : Addr) (es : List NIn) : Prop where
  R : Rs K B F H σ ρ
  no : ρ[ix]? = some .no
  own : ∀ (j : Nat) (s : Sl), ρ[j]? = some s → s.owns = false
  hσ : σ[ix]? = some (some (.ref a))
  N : Nst K B F H a es
/-- cells that nobody of the frame looks at may change -/
theorem Rs.quiet {K : Fg} {B : Bs} {F H H' : Hp} {σ : St} {ρ : Rho} (R : Rs K B F H σ ρ) (own : ∀ (j : Nat) (s : Sl), ρ[j]? = some s → s.owns = false) (D : List Addr) (hD : ∀ b ∈ D, F b = none ∧ B.Ha b = none ∧ (H b = none ∨ ∃ L, H b = some (DictNO b L))) (hk : ∀ b o, b ∉ D → H b = some o → H' b = some o) : Rs K B F H' σ ρ := by
  have nD : ∀ b x, F b = some x → b ∉ D := fun b x e z => by rw [(hD b z).1] at e; cases e
  refine ⟨fun b x e => hk b x (nD b x e) (R.sub b x e), R.ext, R.new, fun b x hb e => hk b x (fun z => by rw [(hD b z).2.1] at e; cases e) (R.old b x hb e), fun r hr => ?_, R.hr2, R.len, fun j t ht => ?_, fun j k c t u hjk h1 h2 o1 o2 e1 e2 => ?_, ⟨R.tb.1, tabs_ext R.tb.2.1 fun b o e te => hk b o (fun z => ?_) e, R.tb.2.2⟩, R.tbh⟩
  · obtain ⟨g1, g2⟩ := R.hrow r hr
    have rD : r ∉ D := fun z => R.hr2 r hr (hD r z).2.1
    exact ⟨g1, g2.mono (Same.refl _) fun o e => hk r o rD e⟩
  · have q := R.at_ j t ht
    have o := own j t ht
    generalize hx : σ[j]? = x at q
    cases q with
    | no => exact .no
    | v d => exact .v d
    | ol => cases o
    | row => cases o
    | od => cases o
  · rw [own j t h1] at o1; cases o1
  · rcases (hD b z).2.2 with q | ⟨L, q⟩
    · rw [q] at e; cases e
    · rw [q] at e; cases e; exact dict_te _ _ te
theorem topL_at {es : List NIn} {nk : NestedKey} : (∀ v, atN (topL es) nk = some v → ∃ e ∈ es, e.k = nk ∧ v = .ref e.c) ∧ (atN (topL es) nk = none → ∀ e ∈ es, e.k ≠ nk) := by
  induction es with
  | nil => exact ⟨fun v h => by simp [atN, topL] at h, fun _ e he => by cases he⟩
  | cons x es ih =>
    unfold atN topL at *
    rw [List.map_cons, List.find?_cons]
    by_cases q : x.k = nk
    · rw [decide_eq_true q]
      exact ⟨fun v h => ⟨x, List.mem_cons_self, q, by cases h; rfl⟩, fun h => by cases h⟩
    · rw [decide_eq_false q]
      refine ⟨fun v h => ?_, fun h e he => ?_⟩
      · obtain ⟨e, he, a, b⟩ := ih.1 v h
        exact ⟨e, List.mem_cons_of_mem _ he, a, b⟩
      · rcases List.mem_cons.mp he with rfl | he
        · exact q
        · exact ih.2 h e he
theorem map_one {α β : Type} (g : α → β) : ∀ {es : List α}, (es.map g).Nodup → ∀ {e f : α}, e ∈ es → f ∈ es → g e = g f → e = f
  | [], _, e, f, h, _, _ => by cases h
  | x :: es, nd, e, f, he, hf, ek => by
    rw [List.map_cons, List.nodup_cons] at nd
    obtain ⟨nd1, nd2⟩ := nd
    rcases List.mem_cons.mp he with h1 | h1
    · rcases List.mem_cons.mp hf with h2 | h2
      · rw [h1, h2]
      · exact absurd (List.mem_map.mpr ⟨f, h2, by rw [← ek, h1]⟩) nd1
    · rcases List.mem_cons.mp hf with h2 | h2
      · exact absurd (List.mem_map.mpr ⟨e, h1, by rw [ek, h2]⟩) nd1
      · exact map_one g nd2 h1 h2 ek
theorem key_one {es : List NIn} (nd : (es.map (·.k)).Nodup) {e f : NIn} (he : e ∈ es) (hf : f ∈ es) (ek : e.k = f.k) : e = f := map_one (·.k) nd he hf ek
theorem look_nzs {nk : NestedKey} : ∀ {es : List NIn}, (∀ e ∈ es, NkD e.k e.d) → (∀ e ∈ es, e.k = nk → (es.map (·.k)).Nodup → lookNX (nzs es) nk = some (ndD e.zs)) ∧ ((∀ e ∈ es, e.k ≠ nk) → lookNX (nzs es) nk = none ∧ nhX (nzs es) nk = false)
  | [], _ => ⟨(fun e h => by cases h), fun _ => ⟨rfl, rfl⟩⟩
  | x :: es, h => by
    have ih := look_nzs (nk := nk) (es := es) fun e he => h e (List.mem_cons_of_mem _ he)
    have hx : nisK nk (.tuple [x.d, ndD x.zs]) = decide (x.k = nk) := nisK_of (h x List.mem_cons_self)
    have e0 : nzs (x :: es) = .tuple [x.d, ndD x.zs] :: nzs es := rfl
    have l0 : lookNX (nzs (x :: es)) nk = if x.k = nk then some (ndD x.zs) else lookNX (nzs es) nk := by
      rw [e0]
      unfold lookNX
      rw [List.find?_cons, hx]
      by_cases q : x.k = nk
      · rw [if_pos q, decide_eq_true q]; rfl
      · rw [if_neg q, decide_eq_false q]
    have n0 : nhX (nzs (x :: es)) nk = (decide (x.k = nk) || nhX (nzs es) nk) := by
      rw [e0]
      unfold nhX
      rw [List.any_cons, hx]
    refine ⟨fun e he ek nd => ?_, fun hn => ?_⟩
    · by_cases q : x.k = nk
      · have : e = x := key_one nd he List.mem_cons_self (ek.trans q.symm)
        rw [l0, if_pos q, this]
      · rw [l0, if_neg q]
        rcases List.mem_cons.mp he with h1 | h1
        · exact absurd (h1 ▸ ek) q
        · rw [List.map_cons, List.nodup_cons] at nd
          exact ih.1 e h1 ek nd.2
    · have q := hn x List.mem_cons_self
      rw [l0, if_neg q, n0, decide_eq_false q, Bool.false_or]
      exact ih.2 fun e he => hn e (List.mem_cons_of_mem _ he)
/-- the entries behind the two puts -/
def upE (nk hk : NestedKey) (bh : Addr) (hd : D) (e : NIn) : NIn := if e.k = nk then { e with L := putN e.L hk bh (.bl true), zs := npX e.zs hk hd (.bool true) } else e
theorem upE_k {nk hk : NestedKey} {bh : Addr} {hd : D} (e : NIn) : (upE nk hk bh hd e).k = e.k ∧ (upE nk hk bh hd e).b = e.b ∧ (upE nk hk bh hd e).c = e.c ∧ (upE nk hk bh hd e).d = e.d := by
  unfold upE; split <;> exact ⟨rfl, rfl, rfl, rfl⟩
theorem NJ.put {K : Fg} {B : Bs} {F H : Hp} {σ : St} {ρ : Rho} {ix kx hx : Nat} {a : Addr} {es : List NIn} {kd hd : D} {nk hk : NestedKey} {ws : List D} {En : Ends} (J : NJ K B F H σ ρ ix a es) (e1 : ρ[kx]? = some (.v kd)) (e2 : ρ[hx]? = some (.v hd)) (e3 : nkeyX kd = some nk) (e4 : nkeyX hd = some hk) (e5 : innX (nzs es) nk = some ws) (hl : es.length < sizeLine) (hw : ws.length < sizeLine)
    (k : ∀ H' es', NJ K B F H' σ ρ ix a es' → nzs es' = npX (nzs es) nk kd (ndD (npX ws hk hd (.bool true))) → En.nx σ H') :
    tSeq (sNPut K (tVar ix) (tVar kx) (tNGet2 K (tVar ix) (tVar kx) tEmptyN)) (sNPut K (tNGet K (tVar ix) (tVar kx)) (tVar hx) (tC (.bl true))) En σ H := by
  obtain ⟨R, no, own, hσ, N⟩ := J
  obtain ⟨ds, rfl, n, h8, pl⟩ := nkeyX_is e3
  obtain ⟨ds2, rfl, n2, h82, pl2⟩ := nkeyX_is e4
  have slot : ∀ {i : Nat} {p : D}, ρ[i]? = some (.v p) → ∃ v, σ[i]? = some (some v) ∧ Dp K F v p := fun {i p} h => by
    have q := R.at_ i _ h
    obtain ⟨o, ho⟩ : ∃ o, σ[i]? = o := ⟨_, rfl⟩
    rw [ho] at q ⊢
    cases q with
    | v d => exact ⟨_, rfl, d⟩
  obtain ⟨vk, hvk, dk⟩ := slot e1
  obtain ⟨vh, hvh, dh⟩ := slot e2
  obtain ⟨bk, _, rfl, _, _⟩ := Dp.inv_tup dk
  obtain ⟨bh, _, rfl, _, _⟩ := Dp.inv_tup dh
  obtain ⟨an, cn⟩ := List.nodup_cons.mp N.cn
  have ents : ∀ {H' : Hp}, Same F H' → EntsOk K H' (topL es) := fun {H'} s p hp => by
    obtain ⟨e, he, rfl⟩ := List.mem_map.mp hp
    obtain ⟨q1, q2, q3, q4⟩ := N.ent e he
    exact ⟨e.d, q1, q2, q3, q4.same s⟩
  refine ⟨.ref a, hσ, a, rfl, N.sm, ⟨_, N.hh⟩, .ref bk, hvk, fun p hp smp => ?_⟩
  have pa : a ≠ p := fun z => by rw [← z, N.hh] at hp; cases hp
  have pF : F p = none := R.sub.free hp
  have pB := (R.fresh hp).1
  have s5 : Same F (upd H p (DictNO p [])) := fun b x e => by
    rw [upd_ne (fun z => by rw [z, pF] at e; cases e)]; exact R.sub b x e
  have h5a : (upd H p (DictNO p [])) a = some (DictNO a (topL es)) := by rw [upd_ne pa]; exact N.hh
  refine ⟨bk, topL es, nk, _, rfl, h5a, ents s5, n, h8, pl, dk.same s5, .ref a, hσ, .ref bk, hvk, a, bk, topL es, nk, _, rfl, rfl, h5a, ents s5, n, h8, pl, dk.same s5, by unfold topL; rw [List.length_map]; omega, ?_⟩
  have s6 : ∀ u, Same F (upd (upd H p (DictNO p [])) a u) := fun u b x e => by
    rw [upd_ne (fun z => by rw [z, N.fa] at e; cases e)]; exact s5 b x e
  have entp : ∀ {H' : Hp} {v : V}, Same F H' → EntsOk K H' (putN (topL es) nk bk v) := fun {H' v} s q hq => by
    unfold putN at hq
    split at hq
    · obtain ⟨q0, hq0, rfl⟩ := List.mem_map.mp hq
      have := ents s q0 hq0
      split <;> exact this
    · rcases List.mem_append.mp hq with hq | hq
      · exact ents s q hq
      · rw [List.mem_singleton.mp hq]; exact ⟨_, n, h8, pl, dk.same s⟩
  have inner : ∀ {H' : Hp} {L : List NEnt} {zs : List D}, Same F H' → DnAll K F L zs → EntsOk K H' L := fun {H' L zs} s d => dnAll_ok s d
  refine ⟨.ref a, hσ, .ref bk, hvk, a, bk, putN (topL es) nk bk _, nk, _, _, rfl, rfl, upd_same, entp (s6 _), n, h8, pl, dk.same (s6 _), atN_put, ?_⟩
  cases hat : atN (topL es) nk with
  | some v =>
    obtain ⟨e0, he0, ek, rfl⟩ := topL_at.1 v hat
    have hlk := (look_nzs (nk := nk) (es := es) fun e he => (N.ent e he).1).1 e0 he0 ek N.kn
    have hws : ws = e0.zs := by
      unfold innX at e5
      rw [hlk] at e5
      exact (Option.some.inj e5).symm
    subst hws
    obtain ⟨dn, ndL, hL⟩ := N.inn e0 he0
    have c0a : e0.c ≠ a := fun z => an (z ▸ List.mem_map.mpr ⟨e0, he0, rfl⟩)
    have c0p : e0.c ≠ p := fun z => by have := N.hc e0 he0; rw [z, hp] at this; cases this
    have hput : putN (topL es) nk bk (.ref e0.c) = topL es := by
      unfold putN
      rw [hat]
      show (topL es).map _ = _
      refine (List.map_congr_left (g := id) fun q hq => ?_).trans (List.map_id _)
      obtain ⟨e, he, rfl⟩ := List.mem_map.mp hq
      by_cases c : e.k = nk
      · have : e = e0 := key_one N.kn he he0 (c.trans ek.symm)
        rw [this]
        show (if e0.k = nk then (e0.k, e0.b, V.ref e0.c) else _) = _
        rw [if_pos ek]; rfl
      · show (if e.k = nk then _ else _) = _
        rw [if_neg c]; rfl
    refine ⟨.ref bh, hvh, e0.c, bh, e0.L, hk, _, rfl, rfl, by show upd _ a _ e0.c = _; rw [upd_ne c0a, upd_ne c0p]; exact N.hc e0 he0, inner (s6 _) dn, n2, h82, pl2, dh.same (s6 _), by omega, ?_⟩
    show En.nx σ (upd (upd (upd H p (DictNO p [])) a (DictNO a (putN (topL es) nk bk (.ref e0.c)))) e0.c (DictNO e0.c (putN e0.L hk bh (.bl true))))
    rw [hput]
    have hmk : (es.map (upE nk hk bh (.tuple ds2))).map (·.k) = es.map (·.k) := by rw [List.map_map]; exact List.map_congr_left fun e _ => (upE_k e).1
    have hmc : (es.map (upE nk hk bh (.tuple ds2))).map (·.c) = es.map (·.c) := by rw [List.map_map]; exact List.map_congr_left fun e _ => (upE_k e).2.2.1
    have hmt : topL (es.map (upE nk hk bh (.tuple ds2))) = topL es := by
      unfold topL
      rw [List.map_map]
      exact List.map_congr_left fun e _ => by
        obtain ⟨q1, q2, q3, _⟩ := upE_k (nk := nk) (hk := hk) (bh := bh) (hd := .tuple ds2) e
        show (_, _, V.ref _) = _
        rw [q1, q2, q3]
    refine k _ (es.map (upE nk hk bh (.tuple ds2))) ⟨R.quiet own [p, a, e0.c] (fun b hb => ?_) (fun b o hb e => ?_), no, own, hσ, ⟨N.sm, N.fa, N.ha, ?_, by rw [hmk]; exact N.kn, by rw [List.length_map]; exact N.len, by rw [hmc]; exact N.cn, fun e he => ?_, fun e he => ?_, fun e he => ?_, fun e he => ?_⟩⟩ ?_
    · simp only [List.mem_cons, List.not_mem_nil, or_false] at hb
      rcases hb with rfl | rfl | rfl
      · exact ⟨pF, pB, .inl hp⟩
      · exact ⟨N.fa, N.ha, .inr ⟨_, N.hh⟩⟩
      · exact ⟨(N.fc e0 he0).1, (N.fc e0 he0).2.1, .inr ⟨_, N.hc e0 he0⟩⟩
    · simp only [List.mem_cons, List.not_mem_nil, or_false, not_or] at hb
      rw [upd_ne hb.2.2, upd_ne hb.2.1, upd_ne hb.1]; exact e
    · rw [hmt, upd_ne (Ne.symm c0a), upd_same]
    · obtain ⟨f, hf, rfl⟩ := List.mem_map.mp he
      obtain ⟨q1, q2, q3, q4⟩ := upE_k (nk := nk) (hk := hk) (bh := bh) (hd := .tuple ds2) f
      rw [q1, q2, q4]; exact N.ent f hf
    · obtain ⟨f, hf, rfl⟩ := List.mem_map.mp he
      rw [(upE_k f).2.2.1]; exact N.fc f hf
    · obtain ⟨f, hf, rfl⟩ := List.mem_map.mp he
      by_cases c : f.k = nk
      · have : f = e0 := key_one N.kn hf he0 (c.trans ek.symm)
        subst this
        unfold upE
        rw [if_pos c]
        exact upd_same
      · have fc : f.c ≠ e0.c := fun z => by
          have : f = e0 := map_one (·.c) cn hf he0 z
          exact c (this ▸ ek)
        have fa : f.c ≠ a := fun z => an (z ▸ List.mem_map.mpr ⟨f, hf, rfl⟩)
        have fp : f.c ≠ p := fun z => by have := N.hc f hf; rw [z, hp] at this; cases this
        unfold upE
        rw [if_neg c, upd_ne fc, upd_ne fa, upd_ne fp]
        exact N.hc f hf
    · obtain ⟨f, hf, rfl⟩ := List.mem_map.mp he
      by_cases c : f.k = nk
      · have : f = e0 := key_one N.kn hf he0 (c.trans ek.symm)
        subst this
        unfold upE
        rw [if_pos c]
        have hz := dnAll_len dn
        have := putN_len (L := f.L) (k := hk) (b := bh) (v := .bl true)
        exact ⟨dnAll_put n2 h82 pl2 dh (.bl true) dn, putN_nodup ndL, by show (putN f.L hk bh (.bl true)).length ≤ _; omega⟩
      · unfold upE
        rw [if_neg c]; exact N.inn f hf
    · have hh : nhX (nzs es) nk = true := by
        unfold nhX
        rw [List.any_eq_true]
        exact ⟨_, List.mem_map.mpr ⟨e0, he0, rfl⟩, by rw [nisK_of (N.ent e0 he0).1, decide_eq_true ek]⟩
      unfold npX
      rw [if_pos hh]
      unfold nzs
      rw [List.map_map, List.map_map]
      refine List.map_congr_left fun e he => ?_
      show _ = if nisK nk (.tuple [e.d, ndD e.zs]) = true then PyData.tuple [e.d, _] else PyData.tuple [e.d, ndD e.zs]
      rw [nisK_of (N.ent e he).1]
      by_cases c : e.k = nk
      · have : e = e0 := key_one N.kn he he0 (c.trans ek.symm)
        subst this
        rw [if_pos (decide_eq_true c)]
        show PyData.tuple [(upE nk hk bh (.tuple ds2) e).d, ndD (upE nk hk bh (.tuple ds2) e).zs] = _
        unfold upE
        rw [if_pos c]
        rfl
      · rw [if_neg (by rw [decide_eq_false c]; simp)]
        show PyData.tuple [(upE nk hk bh (.tuple ds2) e).d, ndD (upE nk hk bh (.tuple ds2) e).zs] = _
        unfold upE
        rw [if_neg c]
  | none =>
    have hno := topL_at.2 hat
    obtain ⟨hlk, hnh⟩ := (look_nzs (nk := nk) (es := es) fun e he => (N.ent e he).1).2 hno
    have hws : ws = [] := by
      unfold innX at e5
      rw [hlk] at e5
      exact (Option.some.inj e5).symm
    subst hws
    have hput : putN (topL es) nk bk (.ref p) = topL es ++ [(nk, bk, .ref p)] := by
      unfold putN
      rw [hat]; rfl
    refine ⟨.ref bh, hvh, p, bh, [], hk, _, rfl, rfl, by show upd _ a _ p = _; rw [upd_ne (Ne.symm pa), upd_same], fun q hq => (by cases hq), n2, h82, pl2, dh.same (s6 _), Nat.zero_le _, ?_⟩
    show En.nx σ (upd (upd (upd H p (DictNO p [])) a (DictNO a (putN (topL es) nk bk (.ref p)))) p (DictNO p (putN [] hk bh (.bl true))))
    rw [hput]
    have pcs : p ∉ es.map (·.c) := fun z => by
      obtain ⟨e, he, hc⟩ := List.mem_map.mp z
      have := N.hc e he
      rw [show e.c = p from hc, hp] at this; cases this
    refine k _ (es ++ [⟨nk, bk, p, putN [] hk bh (.bl true), .tuple ds, npX [] hk (.tuple ds2) (.bool true)⟩]) ⟨R.quiet own [p, a] (fun b hb => ?_) (fun b o hb e => ?_), no, own, hσ, ⟨N.sm, N.fa, N.ha, ?_, ?_, by rw [List.length_append, List.length_singleton]; omega, ?_, fun e he => ?_, fun e he => ?_, fun e he => ?_, fun e he => ?_⟩⟩ ?_
    · simp only [List.mem_cons, List.not_mem_nil, or_false] at hb
      rcases hb with rfl | rfl
      · exact ⟨pF, pB, .inl hp⟩
      · exact ⟨N.fa, N.ha, .inr ⟨_, N.hh⟩⟩
    · simp only [List.mem_cons, List.not_mem_nil, or_false, not_or] at hb
      rw [upd_ne hb.1, upd_ne hb.2, upd_ne hb.1]; exact e
    · rw [upd_ne pa, upd_same]
      unfold topL
      rw [List.map_append]; rfl
    · rw [List.map_append]
      refine List.nodup_append.mpr ⟨N.kn, by simp, fun x hx y hy e => ?_⟩
      obtain ⟨f, hf, rfl⟩ := List.mem_map.mp hx
      exact hno f hf (e.trans (by simpa using hy))
    · rw [List.map_append]
      refine List.nodup_cons.mpr ⟨fun z => ?_, List.nodup_append.mpr ⟨cn, by simp, fun x hx y hy e => ?_⟩⟩
      · rcases List.mem_append.mp z with z | z
        · exact an z
        · exact pa (by simpa using z)
      · have : y = p := by simpa using hy
        exact pcs (this ▸ e ▸ hx)
    · rcases List.mem_append.mp he with he | he
      · exact N.ent e he
      · rw [List.mem_singleton.mp he]; exact ⟨n, h8, pl, dk⟩
    · rcases List.mem_append.mp he with he | he
      · exact N.fc e he
      · rw [List.mem_singleton.mp he]; exact ⟨pF, pB, smp⟩
    · rcases List.mem_append.mp he with he | he
      · have ep : e.c ≠ p := fun z => pcs (z ▸ List.mem_map.mpr ⟨e, he, rfl⟩)
        have ea : e.c ≠ a := fun z => an (z ▸ List.mem_map.mpr ⟨e, he, rfl⟩)
        rw [upd_ne ep, upd_ne ea, upd_ne ep]; exact N.hc e he
      · rw [List.mem_singleton.mp he]; exact upd_same
    · rcases List.mem_append.mp he with he | he
      · exact N.inn e he
      · rw [List.mem_singleton.mp he]
        exact ⟨dnAll_put n2 h82 pl2 dh (.bl true) .nil, putN_nodup (L := []) List.nodup_nil, by
          have := putN_len (L := []) (k := hk) (b := bh) (v := .bl true)
          show (putN [] hk bh (.bl true)).length ≤ _
          rw [sizeLine_eq]
          simp at this
          omega⟩
    · unfold npX
      rw [if_neg (show ¬ nhX (nzs es) nk = true by rw [hnh]; simp)]
      unfold nzs
      rw [List.map_append]
      rfl
section
variable {X : Cx} {tg iter : Expr} {S1 S2 S3 : Stmt} {g : Tg} {is : List Nat} {u : Rho → Option (List D)} {f1 f2 f3 : Rho → Option Fl} {ix kx hx : Nat} {xd xk xh : Str} {j : Nat} {pd1 pk1 ps1 pd pk pe apos cpos pos4 pd2 pk2 ps2 ph2 ps3 pc pos5 pos : Pos}
end
end L2.P


set_option Elab.async false
set_option linter.all false
set_option maxRecDepth 100000
set_option maxHeartbeats 4000000
namespace L2.P
open PySem PySem.Spec PyProof.Rows L2
def IndE {α : Type} (i : Nat) (f : Rho → α) : Prop := ∀ ρ s, f (ρ.set i s) = f ρ
def setF (i : Nat) (s : Sl) : Fl → Fl
  | .nx ρ => .nx (ρ.set i s)
  | .rt v => .rt v
  | .bk ρ => .bk (ρ.set i s)
  | .ct ρ => .ct (ρ.set i s)
def IndS (i : Nat) (f : Rho → Option Fl) : Prop := ∀ ρ s, f (ρ.set i s) = (f ρ).map (setF i s)
section
variable {i j : Nat} {A B : Rho → Option D} {C : Rho → Option (List D)} {o : G2} {f g : Rho → Option Fl} {t : Rho → Option Bool} {U V : Rho → Option (List Pv)}
theorem is_set (h : j ≠ i) (ha : IndE i A) : IndS i (sSet j A) := fun ρ s => by
  unfold sSet
  rw [ha ρ s, Option.map_map]
  congr 1
  funext p
  show Fl.nx ((ρ.set i s).set j (.v p)) = Fl.nx ((ρ.set j (.v p)).set i s)
  rw [List.set_comm _ _ (Ne.symm h)]
end
end L2.P


set_option Elab.async false
set_option linter.all false
set_option maxRecDepth 100000
set_option maxHeartbeats 4000000
namespace L2.P
open PySem PySem.Spec PyProof.Rows L2 LamX
end L2.P


set_option Elab.async false
set_option linter.all false
set_option maxRecDepth 100000
set_option maxHeartbeats 4000000
namespace L2.P
open PySem PySem.Spec PyProof.Rows L2
section
variable {K : Fg}
theorem codeIn_z (cd : Value) (q : Str) : PySem.W.codeIn (Kz K) cd q = PySem.W.codeIn K cd q := by
  unfold PySem.W.codeIn
  cases cd <;> simp only [Kz_look]
theorem nsIn_z (a : Addr) (x : Str) : PySem.W.nsIn (Kz K) a x = PySem.W.nsIn K a x := by
  unfold PySem.W.nsIn
  rw [Kz_look]
theorem _root_.L2.FunD.z {x qual : Str} {params : Arguments} {body : List Stmt} {scope : Scope} {dvs : List V} {kws : List (Str × V)} {f : Addr} {fd : FuncData} (F : FunD K x qual params body scope dvs kws f fd) : FunD (Kz K) x qual params body scope dvs kws f fd := by
  obtain ⟨⟨oc, od, dV, kV, doc, pm, an, cdv, ct, osl, h1, lk, h2, h3, h4⟩, kp⟩ := F
  refine ⟨⟨oc, od, dV, kV, doc, pm, an, cdv, ct, osl, h1, by rw [Kz_look]; exact lk, by rw [codeIn_z]; exact h2, ?_, ?_⟩, ?_⟩
  · rcases h3 with h3 | ⟨ne, T, o, its, n, e, l, r⟩
    · exact .inl h3
    · exact .inr ⟨ne, T, o, its, n, e, by rw [Kz_look]; exact l, r⟩
  · rcases h4 with h4 | ⟨D, e, h⟩
    · exact .inl h4
    · exact .inr ⟨D, e, fun q hq => by rw [nsIn_z]; exact h q hq⟩
  · unfold PySem.W.keepIn at kp ⊢
    simp only [Kz_look, lk]
theorem Fun_ne {x qual : Str} {params : Arguments} {body : List Stmt} {scope : Scope} {dvs : List V} {kws : List (Str × V)} {f : Addr} {fd : FuncData} (F : FunD K x qual params body scope dvs kws f fd) : K ≠ [] := fun z => by
  obtain ⟨oc, od, dV, kV, doc, pm, an, cdv, ct, osl, h1, lk, _⟩ := F.ex
  rw [z] at lk
  cases lk
theorem _root_.L2.FnOk.z {P : Program} {w : World} {mg : Str → Option Value} {base : Heap} {CX : CXT} {k : Nat} {f : Addr} {fd : FuncData} {ps : List Str} {sp : Sp} (F : FnOk P w (Kz K) mg base CX k f fd ps sp) : FnOk P w K mg base CX k f fd ps sp :=
  ⟨F.len, fun A outer s H args us vs Q E hr he hb hv hs => F.run A outer s H args us vs Q E hr ⟨he.frames, ⟨fun a o e => he.mod.kin a o (by rw [← Kz_look]; exact e), he.mod.glob, he.mod.blt, he.mod.nolimit⟩, he.bs, he.bsz, he.funs, he.frf, he.hok, he.bare⟩ hb hv hs⟩
theorem cdOf_z (x : Str) : cdOf (Kz K) x = cdOf K x := by
  unfold cdOf
  simp only [nsIn_z, Kz_look]
theorem tbT_z : tbT (Kz K) = tbT K := by
  unfold tbT
  congr 1
  funext x
  unfold tbOf
  rw [cdOf_z]
  simp only [Kz_look]
theorem TbOk.z {F H : Hp} (h : TbOk K F H) : TbOk (Kz K) F H := by
  unfold TbOk at h ⊢
  rw [tbT_z]
  exact h
theorem sqL_z {H : Hp} {a : Addr} {xs : List V} (h : SqL K H a xs) : SqL (Kz K) H a xs := by
  rcases h with h | ⟨o, its, n, h1, h2⟩
  · exact .inl h
  · exact .inr ⟨o, its, n, by rw [Kz_look]; exact h1, h2⟩
end
def kOf : D → Option (List Int)
  | .dict [(.none, .int 0), (.none, .tuple ps)] => intsD ps
  | _ => none
theorem kOf_kD (ns : List Int) : kOf (kD ns) = some ns := by
  show intsD (ns.map .int) = _
  exact intsD_map ns
theorem kOf_some {p : D} {ns : List Int} (h : kOf p = some ns) : p = kD ns := by
  unfold kOf at h
  split at h
  · rw [intsD_some h]; rfl
  · cases h
theorem Dp.inv_k {K : Fg} {F : Hp} {v : V} {ns : List Int} (h : Dp K F v (kD ns)) : lenK K ∧ ∃ a o, v = .ref a ∧ F a = some (.frz o (.tup (ns.map V.int))) ∧ o.dict = none := by
  unfold kD at h
  generalize hp : PyData.dict [(.none, .int 0), (.none, .tuple (ns.map .int))] = p at h
  cases h with
  | kt l s d =>
    unfold kD at hp
    have e := (PyData.tuple.inj (Prod.mk.inj (List.cons.inj (List.cons.inj (PyData.dict.inj hp)).2).1).2)
    rw [List.map_inj_right (fun x y z => PyData.int.inj z)] at e
    subst e
    exact ⟨l, _, _, rfl, s, d⟩
  | dk s r =>
    cases hp
    cases r
  | dt s r =>
    cases hp
    cases r
  | q a b c d f => cases hp
  | fn h r => cases hp
  | nd m s r => cases hp
  | _ => cases hp
/-- as a plain tuple -/
def fgt (p : D) : D := match kOf p with
  | some ns => .tuple (ns.map .int)
  | none => p
theorem fgt_k (ns : List Int) : fgt (kD ns) = tR ns := by unfold fgt; rw [kOf_kD]
theorem Dp.fgt {K : Fg} {F : Hp} {v : V} {p : D} (h : Dp K F v p) : Dp K F v (fgt p) := by
  unfold L2.P.fgt
  cases e : kOf p with
  | none => exact h
  | some ns =>
    rw [kOf_some e] at h
    obtain ⟨l, a, o, rfl, s, _⟩ := Dp.inv_k h
    exact .tupZ l s (dpAll_of_ints ns)
def fgtF (f : Rho → Option D) : Rho → Option D := fun ρ => (f ρ).map fgt
section
variable {X : Cx} {e a b : Expr} {es : List Expr} {pos p : Pos} {f g : Rho → Option D}
theorem ef_fgt (h : EF X e f) : EF X e (fgtF f) :=
  ⟨fW_mono, h.pe.imp fun σ H Q ⟨B, F, ρ, R, z, e1, k⟩ => by
    obtain ⟨q, e2, rfl⟩ := Option.map_eq_some_iff.mp e1
    exact ⟨B, F, ρ, R, q, e2, fun F' H' v R' s d => k F' H' v R' s d.fgt⟩⟩
theorem xf_fgt (h : XF X e f) : XF X e (fgtF f) :=
  ⟨fW_mono, h.pe.imp fun σ H Q ⟨B, F, ρ, R, z, e1, k⟩ => by
    obtain ⟨q, e2, rfl⟩ := Option.map_eq_some_iff.mp e1
    exact ⟨B, F, ρ, R, q, e2, fun F' H' v R' s d => k F' H' v R' s (by
      rcases d with d | ⟨i, qs, h1, h2, rfl⟩
      · exact .inl d.fgt
      · exact .inr ⟨i, qs, h1, h2, rfl⟩)⟩⟩
theorem call_tupleK : CallR X (.type "tuple") (fun xs H Q => ∃ p ys, xs = [.ref p] ∧ SqL X.K H p ys ∧ ∀ l o, H l = none → o.dict = none → Q (.ref l) (upd H l (.frz o (.tup ys)))) := by
  intro pins s σ H xs us Q I r h
  obtain ⟨p, ys, rfl, hq, q⟩ := h
  obtain ⟨u, rfl, rx⟩ := vals1 r
  cases rx
  obtain ⟨its, r', pl, hz⟩ := I.list hq
  have hlen := r'.length
  refine PySem.call_tuple_list pl.isList (fun h' kp => ?_) (by simp only [List.size_toArray] <;> omega)
  have I1 : L2.Inv X pins σ H { s with heap := h' } := I.kept (t' := s.toks) kp
  have I2 : L2.Inv X pins σ (upd H h'.objs.size (.frz { cls := .type "tuple", data := .seq its.toArray } (.tup ys))) { s with heap := h'.push { cls := .type "tuple", data := .seq its.toArray } } :=
    I1.laid (t' := s.toks) (fun b o e => Heap.get?_push_of_some _ e) (Nat.le_refl _) (show ObjOk X.prog X.w _ _ _ (.frz _ (.tup ys)) from ⟨Heap.get?_push_size _ rfl, hz, its, r', IsTup.new _ _⟩)
  exact ⟨.ref h'.objs.size, _, I2, rfl, q _ _ (I1.hok.fresh (Nat.le_refl _)) rfl⟩
def gTupK : GA
  | [.list xs] => (intsD xs).map kD
  | _ => none
theorem cg_tupleK (zK : lenK X.K := by assumption) : CallG X (.type "tuple") gTupK := ⟨_, call_tupleK, fun B F H σ ρ vs ps z Q R d e k => by
  unfold gTupK at e
  split at e
  · rename_i xs
    obtain ⟨ns, e3, rfl⟩ := Option.map_eq_some_iff.mp e
    have e4 := intsD_some e3
    subst e4
    obtain ⟨v, rfl, h⟩ := pk1 d
    obtain ⟨c, ys, rfl, s, r⟩ := pk_lst R h
    have hv := dpAll_ints ns r
    subst hv
    refine ⟨c, _, rfl, s, fun l o hl ho => ?_⟩
    have n := R.sub.free hl
    exact k _ _ _ (R.grow hl) (same_upd n) (.kt zK upd_same ho)
  · cases e⟩
theorem cw_tupleK {T : TL} (B : Bi X.mg) (h : XA X [a] T) (hg : Gl X "tuple" := by rfl) (he : starEach [a] X.env = (false, eval a X.env) :: starEach [] X.env := by rfl) (zK : lenK X.K := by assumption) : EW X (.Call (.Name "tuple" p) [a] [] pos) (wOf gTupK T) := ew_callT (cg_tupleK zK) h hg B.tuple (by decide +kernel) (he := he) (hpl := rfl)
def dIdxK : G2 := fun p q => match q with
  | .int i => (kOf p).bind fun ns => if i ∈ ns then some (.int (ns.idxOf i : Nat)) else none
  | _ => none
def tIdxK (to : TE) (ta : TA) : TE := fun σ H Q => to σ H fun x H1 => ∃ (a : Addr) (o : Obj) (ns : List Int), x = .ref a ∧ H1 a = some (.frz o (.tup (ns.map V.int))) ∧ o.dict = none ∧ ta σ H1 fun ys H2 => ∃ i, ys = [.int i] ∧ i ∈ ns ∧ H2 a = some (.frz o (.tup (ns.map V.int))) ∧ Q (.int (ns.idxOf i : Nat)) H2
theorem pe_idxK {to : TE} {ta : TA} {apos cpos : Pos} (ho : PE X a to) (ha : PA X [b] ta)
    (hbase : attributeBase a "index" X.env (eval a X.env) = eval a X.env := by rfl)
    (hfew : ((backTo cpos (starEach [b] X.env)).all (fun x => !x.1) && (backToKw cpos (keywordEach [] X.env)).all (fun x => x.1.isSome) && decide (([b] : List Expr).length + ([] : List Keyword).length + (if ([] : List Keyword).isEmpty then 0 else 1) < 30)) = true := by rfl)
    (hline : (apos.endLine == cpos.line) = true := by rfl) (hs : starEach [b] X.env = (false, eval b X.env) :: starEach [] X.env := by rfl) : PE X (.Call (.Attribute a "index" apos) [b] [] cpos) (tIdxK to ta) := by
  refine ⟨fun pins s σ H Q I h => ?_⟩
  refine wpAny_Call_method_late hbase hfew hline rfl (thn (ho.run pins s σ H _ I h) fun v s1 ⟨x, H1, I1, r1, c, o, ns, ex, hc, hd, q1⟩ => ?_)
  subst ex
  cases r1
  have hob := I1.hok c _ hc
  obtain ⟨hg, hz, its, rv, hit⟩ := hob
  obtain ⟨o', hg', hcls, n, hdata⟩ := id hit
  rw [hg] at hg'; cases hg'
  refine ⟨"tuple", "tuple.index", PySem.F.plainAttrs_tuple, PySem.F.slot_tuple_index, PySem.F.type_tuple_index, ⟨o, hg, hcls⟩, fun z e => (by cases e; exact ⟨o, hg, hd⟩), ?_⟩
  have hA := ha.run cpos pins s1 σ H1 _ I1 q1
  rw [hs] at hA ⊢
  refine Calls.callWith_builtin rfl (Calls.evalArgs_plain ?_)
  refine thn hA fun us s2 ⟨vs, H2, I2, r2, i, evs, hi, hc2, q2⟩ => ?_
  subst evs
  obtain ⟨u, rfl, ru⟩ := vals1 r2
  obtain ⟨t, rfl⟩ := ru
  obtain ⟨_, _, its2, rv2, hit2⟩ := I2.hok c _ hc2
  exact PySem.SeqAt.tuple_index_ints hit2 (intsAre_of rv2) hi ⟨.int _, H2, I2.tok _, ⟨_, rfl⟩, q2⟩
theorem ef_idxK {f g : Rho → Option D} {apos cpos : Pos} (ha : EF X a f) (hb : EF X b g)
    (hbase : attributeBase a "index" X.env (eval a X.env) = eval a X.env := by rfl)
    (hfew : ((backTo cpos (starEach [b] X.env)).all (fun x => !x.1) && (backToKw cpos (keywordEach [] X.env)).all (fun x => x.1.isSome) && decide (([b] : List Expr).length + ([] : List Keyword).length + (if ([] : List Keyword).isEmpty then 0 else 1) < 30)) = true := by rfl)
    (hline : (apos.endLine == cpos.line) = true := by rfl) (hs : starEach [b] X.env = (false, eval b X.env) :: starEach [] X.env := by rfl) : EF X (.Call (.Attribute a "index" apos) [b] [] cpos) (b2 dIdxK f g) :=
  ⟨fW_mono, (pe_idxK ha.pe (pa_cons hb.pe pa_nil hs) hbase hfew hline hs).imp fun σ H Q ⟨B, F, ρ, R, z, e, k⟩ => by
    obtain ⟨p, e1, e⟩ := Option.bind_eq_some_iff.mp e
    obtain ⟨q, e2, e3⟩ := Option.bind_eq_some_iff.mp e
    unfold dIdxK at e3
    split at e3
    · rename_i i
      obtain ⟨ns, e4, e5⟩ := Option.bind_eq_some_iff.mp e3
      split at e5
      · rename_i hm
        cases e5
        refine ⟨B, F, ρ, R, _, e1, fun F1 H1 v R1 s1 d => ?_⟩
        rw [kOf_some e4] at d
        obtain ⟨_, c, o, rfl, s, hd⟩ := Dp.inv_k d
        refine ⟨c, o, ns, rfl, R1.sub _ _ s, hd, B, F1, ρ, R1, _, e2, fun F2 H2 u R2 s2 du => ?_⟩
        obtain rfl := Dp.inv_int du
        exact ⟨i, rfl, hm, R2.sub _ _ (s2 _ _ s), k F2 H2 _ R2 (s1.trans s2) (.int _)⟩
      · cases e5
    · cases e3⟩
end
end L2.P


set_option Elab.async false
set_option linter.all false
set_option maxRecDepth 100000
set_option maxHeartbeats 4000000
namespace W
open PySem PySem.Spec PyProof.Rows L2 L2.P
def topS (i : Nat) : Stmt := PySem.Challenge.pw_tallsits_k63_whole_apart_sets_compared.main.body.getD i (.Pass ⟨0, 0, 0, 0⟩)
noncomputable section
variable {P : Program} {w : World} {K : PySem.W.Frag} {mg : Str → Option Value} {base : Heap} {S C : Addr}
def B_is_integer : Rho → Option Fl := (sRet (vAnd (vIsi "int" (gX 0)) (vNot (vIsi "bool" (gX 0)))))
def g_is_integer : GA := runF 1 B_is_integer

abbrev s_is_integer : Stmt := topS 1
theorem sc_is_integer : FnScope ["value"] ["value"] (defScope s_is_integer) := ⟨rfl, rfl, rfl, by decide +kernel, rfl, by decide +kernel, by decide +kernel⟩
theorem ok_is_integer (bi : Bi mg) (Fd : ∃ f fd, FunD K "is_integer" "is_integer" (defArgs s_is_integer) (defBody s_is_integer) (defScope s_is_integer) [] [] f fd ∧ mg "is_integer" = some (.ref f)) : DG P w K mg base "is_integer" 1 1 g_is_integer := by
  obtain ⟨f, fd, Fd, m⟩ := Fd
  refine ⟨f, fd, ["value"], fn_pureF (k := 0) (N := ["value"]) (g := B_is_integer) Fd sc_is_integer rfl (by decide) (fun cdv A outer s H E hr => ?_), m, Fd.kp, Fd.bindsN fun _ _ _ _ _ _ us hl => match us, hl with | [_], _ => by kernel_rfl⟩
  have rm := rm_of (X := (cxOf CX0 P w K mg base ["value"] "is_integer" (defScope s_is_integer) f cdv A outer s H E).nox) hr
  have nd := sc_is_integer.nd
  exact (sws_one (sf_ret (ef_and (ef_isi (T := "int") (xv 0) rfl bi.isinstance rfl bi.int bt_int (hv := bt_isi)) (ef_one (ef_not (ef_isi (T := "bool") (xv 0) rfl bi.isinstance rfl bi.bool bt_bool (hv := bt_isi)))))))

def B_is_in : Rho → Option Fl := (sRet (vAnd (aOf g_is_integer (aCons (gV 0) aNil)) (b3 dLe dLe (gX 1) (gX 0) (gX 2))))
def g_is_in : GA := runF 3 B_is_in

abbrev s_is_in : Stmt := topS 2
theorem sc_is_in : FnScope ["value", "least", "most"] ["value", "least", "most"] (defScope s_is_in) := ⟨rfl, rfl, rfl, by decide +kernel, rfl, by decide +kernel, by decide +kernel⟩
theorem ok_is_in (bi : Bi mg) (c_is_integer : DG P w K mg base "is_integer" 1 1 g_is_integer) (Fd : ∃ f fd, FunD K "is_in" "is_in" (defArgs s_is_in) (defBody s_is_in) (defScope s_is_in) [] [] f fd ∧ mg "is_in" = some (.ref f)) : DG P w K mg base "is_in" 2 3 g_is_in := by
  obtain ⟨f, fd, Fd, m⟩ := Fd
  refine ⟨f, fd, ["value", "least", "most"], fn_pureF (k := 1) (N := ["value", "least", "most"]) (g := B_is_in) Fd sc_is_in rfl (by decide) (fun cdv A outer s H E hr => ?_), m, Fd.kp, Fd.bindsN fun _ _ _ _ _ _ us hl => match us, hl with | [_, _, _], _ => by kernel_rfl⟩
  have rm := rm_of (X := (cxOf CX0 P w K mg base ["value", "least", "most"] "is_in" (defScope s_is_in) f cdv A outer s H E).nox) hr
  have nd := sc_is_in.nd
  exact (sws_one (sf_ret (ef_and (ef_call (c_is_integer.cal hr) (ea_cons (ev 0) ea_nil) (lenA_cons lenA_nil) rfl) (ef_one (ef_chain og_le og_le (xv 1) (xv 0) (xv 2))))))

def B_is_list : Rho → Option Fl := (sRet (vAnd (vIsi "tuple" (gX 0)) (b3 dLe dLe (gX 1) (aOf gLen (aCons (gX 0) aNil)) (gX 2))))
def g_is_list : GA := runF 3 B_is_list

abbrev s_is_list : Stmt := topS 3
theorem sc_is_list : FnScope ["value", "least", "most"] ["value", "least", "most"] (defScope s_is_list) := ⟨rfl, rfl, rfl, by decide +kernel, rfl, by decide +kernel, by decide +kernel⟩
theorem ok_is_list (bi : Bi mg) (Fd : ∃ f fd, FunD K "is_list" "is_list" (defArgs s_is_list) (defBody s_is_list) (defScope s_is_list) [] [] f fd ∧ mg "is_list" = some (.ref f)) : DG P w K mg base "is_list" 1 3 g_is_list := by
  obtain ⟨f, fd, Fd, m⟩ := Fd
  refine ⟨f, fd, ["value", "least", "most"], fn_pureF (k := 0) (N := ["value", "least", "most"]) (g := B_is_list) Fd sc_is_list rfl (by decide) (fun cdv A outer s H E hr => ?_), m, Fd.kp, Fd.bindsN fun _ _ _ _ _ _ us hl => match us, hl with | [_, _, _], _ => by kernel_rfl⟩
  have rm := rm_of (X := (cxOf CX0 P w K mg base ["value", "least", "most"] "is_list" (defScope s_is_list) f cdv A outer s H E).nox) hr
  have nd := sc_is_list.nd
  exact (sws_one (sf_ret (ef_and (ef_isi (T := "tuple") (xv 0) rfl bi.isinstance rfl bi.tuple bt_tuple (hv := bt_isi)) (ef_one (ef_chain og_le og_le (xv 1) (EW.x (c_len bi (xa_cons (xv 0) xa_nil))) (xv 2))))))

def B_need_web : Rho → Option Fl := (sSeq (sIf (bNot (bB (aOf g_is_list (aCons (gV 0) (aCons (gC (.int 1)) (aCons (gC (.int 7)) aNil)))))) sNever sNil)
  (sSeq (sSet 1 (aOf gLen (aCons (gX 0) aNil)))
  (sSeq (sFor (tg2 2 3) (fEnum (gV 0)) (sSeq (sIf (bOr (bNot (bB (aOf g_is_list (aCons (gV 3) (aCons (gC (.int 0)) (aCons (b2 dSub (gX 1) (gC (.int 1))) aNil)))))) (bNot (bB (aOf gAll (aCons (fun ρ => ((cLc [4] (tgN 4) fYes (aOf g_is_in (aCons (gV 4) (aCons (gC (.int 0)) (aCons (b2 dSub (gX 1) (gC (.int 1))) aNil)))) (fItems (gV 3))) ρ).map PyData.list) aNil))))) sNever sNil)
  (sIf (bOr (bB (b2 dNe (fun ρ => ((aOf gLst (aCons (gX 3) aNil)) ρ).map PyData.list) (fun ρ => ((nSortSet (gX 3)) ρ).map PyData.list))) (bB (b2 dIn (gX 2) (gX 3)))) sNever sNil)))
  (sFor (tg2 2 3) (fEnum (gV 0)) (sIf (bB (aOf gAny (aCons (fun ρ => ((cLc [4] (tgN 4) fYes (b2 dNotIn (gX 2) (b2 dIx (gX 0) (gX 4))) (fItems (gV 3))) ρ).map PyData.list) aNil))) sNever sNil)))))
def g_need_web : GA := runF 5 B_need_web

abbrev s_need_web : Stmt := topS 11
theorem sc_need_web : FnScope ["web", "people", "index", "friends", "other"] ["web"] (defScope s_need_web) := ⟨rfl, rfl, rfl, by decide +kernel, rfl, by decide +kernel, by decide +kernel⟩
theorem ok_need_web (bi : Bi mg) (k_MOST_PEOPLE : ∃ t, mg "MOST_PEOPLE" = some (.int 7 t)) (c_is_list : DG P w K mg base "is_list" 1 3 g_is_list) (c_is_in : DG P w K mg base "is_in" 2 3 g_is_in) (Fd : ∃ f fd, FunD K "need_web" "need_web" (defArgs s_need_web) (defBody s_need_web) (defScope s_need_web) [] [] f fd ∧ mg "need_web" = some (.ref f)) : DG P w K mg base "need_web" 3 1 g_need_web := by
  obtain ⟨f, fd, Fd, m⟩ := Fd
  refine ⟨f, fd, ["web"], fn_pureF (k := 2) (N := ["web", "people", "index", "friends", "other"]) (g := B_need_web) Fd sc_need_web rfl (by decide) (fun cdv A outer s H E hr => ?_), m, Fd.kp, Fd.bindsN fun _ _ _ _ _ _ us hl => match us, hl with | [_], _ => by kernel_rfl⟩
  have rm := rm_of (X := (cxOf CX0 P w K mg base ["web", "people", "index", "friends", "other"] "need_web" (defScope s_need_web) f cdv A outer s H E).nox) hr
  have nd := sc_need_web.nd
  exact (sfs_cons (sf_if (tf_not (tf_val (ef_call (c_is_list.cal hr) (ea_cons (ev 0) (ea_cons ef_int (ea_cons (ef_gint k_MOST_PEOPLE) ea_nil))) (lenA_cons (lenA_cons (lenA_cons lenA_nil))) rfl))) (sws_one sf_never) sfs_nil)
    (sfs_cons (sf_set (i := 1) nd rfl (by first | exact Or.inl rfl | exact Or.inr rfl) (c_len bi (xa_cons (xv 0) xa_nil)))
    (sfs_cons (sf_for PassesOwn.never rfl (if_enum bi (ev 0)) (gw_two (i := 2) (j := 3) rfl nd rfl (by first | exact Or.inl rfl | exact Or.inr rfl) rfl (by first | exact Or.inl rfl | exact Or.inr rfl)) (sfs_cons (sf_if (TWW.t (tf_or (tf_not (tf_val (ef_call (c_is_list.cal hr) (ea_cons (ev 3) (ea_cons ef_int (ea_cons (ef_bin og_sub (xv 1) (EW.x ef_int)) ea_nil))) (lenA_cons (lenA_cons (lenA_cons lenA_nil))) rfl))) (tf_or1 (tf_not (tf_val (c_all bi (xa_cons (EW.x (NF.e (NW.lc (nw_lc (own := [("other", 4)]) (g := (tgN 4)) (T := fW fYes) (E := fW (aOf g_is_in (aCons (gV 4) (aCons (gC (.int 0)) (aCons (b2 dSub (gX 1) (gC (.int 1))) aNil))))) rfl nd (if_seq (ev 3)) (blkOk_by (own := [("other", 4)]) (by kernel_rfl)) (fun _ _ _ _ _ => (gw_sub (gw_name (i := 4) nd rfl (by first | exact Or.inl rfl | exact Or.inr rfl)))) (fun _ _ _ _ _ => ts_nil) (fun _ _ _ _ _ => (ef_call (c_is_in.cal hr) (ea_cons (ev 4) (ea_cons ef_int (ea_cons (ef_bin og_sub (xv 1) (EW.x ef_int)) ea_nil))) (lenA_cons (lenA_cons (lenA_cons lenA_nil))) rfl)) s)))) xa_nil))))))) (sws_one sf_never) sfs_nil)
    (sws_one (sf_if (TWW.t (tf_or (tf_cmp (og_ne rm) (EW.x (NF.e (n_list bi (xa_cons (xv 3) xa_nil)))) (EW.x (NF.e (n_sortSet bi (xv 3)))) (nomark _)) (tf_or1 (tf_cmp (og_in rm) (xv 2) (xv 3) (by rfl))))) (sws_one sf_never) sfs_nil))))
    (sws_one (sf_for PassesOwn.never rfl (if_enum bi (ev 0)) (gw_two (i := 2) (j := 3) rfl nd rfl (by first | exact Or.inl rfl | exact Or.inr rfl) rfl (by first | exact Or.inl rfl | exact Or.inr rfl)) (sws_one (sf_if (tf_val (c_any bi (xa_cons (EW.x (NF.e (NW.lc (nw_lc (own := [("other", 4)]) (g := (tgN 4)) (T := fW fYes) (E := fW (b2 dNotIn (gX 2) (b2 dIx (gX 0) (gX 4)))) rfl nd (if_seq (ev 3)) (blkOk_by (own := [("other", 4)]) (by kernel_rfl)) (fun _ _ _ _ _ => (gw_sub (gw_name (i := 4) nd rfl (by first | exact Or.inl rfl | exact Or.inr rfl)))) (fun _ _ _ _ _ => ts_nil) (fun _ _ _ _ _ => (ef_cmp (og_notIn rm) (xv 2) (EW.x (ef_ix (xv 0) (xv 4))) (by rfl))) s)))) xa_nil))) (sws_one sf_never) sfs_nil)))))))

def B_is_set : Rho → Option Fl := (sSeq (sSet 2 (aOf gLen (aCons (gX 0) aNil)))
  (sSeq (sIf (bOr (bNot (bB (aOf g_is_list (aCons (gV 1) (aCons (gC (.int 0)) (aCons (gV 2) aNil)))))) (bNot (bB (aOf gAll (aCons (fun ρ => ((cLc [3] (tgN 3) fYes (aOf g_is_in (aCons (gV 3) (aCons (gC (.int 0)) (aCons (b2 dSub (gX 2) (gC (.int 1))) aNil)))) (fItems (gV 1))) ρ).map PyData.list) aNil))))) (sRet (gC (.bool false))) sNil)
  (sRet (b2 dEq (fun ρ => ((aOf gLst (aCons (gX 1) aNil)) ρ).map PyData.list) (fun ρ => ((nSortSet (gX 1)) ρ).map PyData.list)))))
def g_is_set : GA := runF 4 B_is_set

abbrev s_is_set : Stmt := topS 12
theorem sc_is_set : FnScope ["web", "people", "many", "person"] ["web", "people"] (defScope s_is_set) := ⟨rfl, rfl, rfl, by decide +kernel, rfl, by decide +kernel, by decide +kernel⟩
theorem ok_is_set (bi : Bi mg) (c_is_list : DG P w K mg base "is_list" 1 3 g_is_list) (c_is_in : DG P w K mg base "is_in" 2 3 g_is_in) (Fd : ∃ f fd, FunD K "is_set" "is_set" (defArgs s_is_set) (defBody s_is_set) (defScope s_is_set) [] [] f fd ∧ mg "is_set" = some (.ref f)) : DG P w K mg base "is_set" 3 2 g_is_set := by
  obtain ⟨f, fd, Fd, m⟩ := Fd
  refine ⟨f, fd, ["web", "people"], fn_pureF (k := 2) (N := ["web", "people", "many", "person"]) (g := B_is_set) Fd sc_is_set rfl (by decide) (fun cdv A outer s H E hr => ?_), m, Fd.kp, Fd.bindsN fun _ _ _ _ _ _ us hl => match us, hl with | [_, _], _ => by kernel_rfl⟩
  have rm := rm_of (X := (cxOf CX0 P w K mg base ["web", "people", "many", "person"] "is_set" (defScope s_is_set) f cdv A outer s H E).nox) hr
  have nd := sc_is_set.nd
  exact (sfs_cons (sf_set (i := 2) nd rfl (by first | exact Or.inl rfl | exact Or.inr rfl) (c_len bi (xa_cons (xv 0) xa_nil)))
    (sfs_cons (sf_if (TWW.t (tf_or (tf_not (tf_val (ef_call (c_is_list.cal hr) (ea_cons (ev 1) (ea_cons ef_int (ea_cons (ev 2) ea_nil))) (lenA_cons (lenA_cons (lenA_cons lenA_nil))) rfl))) (tf_or1 (tf_not (tf_val (c_all bi (xa_cons (EW.x (NF.e (NW.lc (nw_lc (own := [("person", 3)]) (g := (tgN 3)) (T := fW fYes) (E := fW (aOf g_is_in (aCons (gV 3) (aCons (gC (.int 0)) (aCons (b2 dSub (gX 2) (gC (.int 1))) aNil))))) rfl nd (if_seq (ev 1)) (blkOk_by (own := [("person", 3)]) (by kernel_rfl)) (fun _ _ _ _ _ => (gw_sub (gw_name (i := 3) nd rfl (by first | exact Or.inl rfl | exact Or.inr rfl)))) (fun _ _ _ _ _ => ts_nil) (fun _ _ _ _ _ => (ef_call (c_is_in.cal hr) (ea_cons (ev 3) (ea_cons ef_int (ea_cons (ef_bin og_sub (xv 2) (EW.x ef_int)) ea_nil))) (lenA_cons (lenA_cons (lenA_cons lenA_nil))) rfl)) s)))) xa_nil))))))) (sws_one (sf_ret ef_bl)) sfs_nil)
    (sws_one (sf_ret (ef_cmp (og_eq rm) (EW.x (NF.e (n_list bi (xa_cons (xv 1) xa_nil)))) (EW.x (NF.e (n_sortSet bi (xv 1)))) (nomark _))))))

def B_need_people : Rho → Option Fl := (sIf (bNot (bB (aOf g_is_set (aCons (gV 0) (aCons (gV 1) aNil))))) sNever sNil)
def g_need_people : GA := runF 2 B_need_people

abbrev s_need_people : Stmt := topS 13
theorem sc_need_people : FnScope ["web", "people"] ["web", "people"] (defScope s_need_people) := ⟨rfl, rfl, rfl, by decide +kernel, rfl, by decide +kernel, by decide +kernel⟩
theorem ok_need_people (bi : Bi mg) (c_is_set : DG P w K mg base "is_set" 3 2 g_is_set) (Fd : ∃ f fd, FunD K "need_people" "need_people" (defArgs s_need_people) (defBody s_need_people) (defScope s_need_people) [] [] f fd ∧ mg "need_people" = some (.ref f)) : DG P w K mg base "need_people" 4 2 g_need_people := by
  obtain ⟨f, fd, Fd, m⟩ := Fd
  refine ⟨f, fd, ["web", "people"], fn_pureF (k := 3) (N := ["web", "people"]) (g := B_need_people) Fd sc_need_people rfl (by decide) (fun cdv A outer s H E hr => ?_), m, Fd.kp, Fd.bindsN fun _ _ _ _ _ _ us hl => match us, hl with | [_, _], _ => by kernel_rfl⟩
  have rm := rm_of (X := (cxOf CX0 P w K mg base ["web", "people"] "need_people" (defScope s_need_people) f cdv A outer s H E).nox) hr
  have nd := sc_need_people.nd
  exact (sws_one (sf_if (tf_not (tf_val (ef_call (c_is_set.cal hr) (ea_cons (ev 0) (ea_cons (ev 1) ea_nil)) (lenA_cons (lenA_cons lenA_nil)) rfl))) (sws_one sf_never) sfs_nil))

def B_need_state : Rho → Option Fl := (sSeq (sDrop (aOf g_need_web (aCons (gV 0) aNil)))
  (sIf (bNot (bB (aOf g_is_set (aCons (gV 0) (aCons (gV 1) aNil))))) sNever sNil))
def g_need_state : GA := runF 2 B_need_state

abbrev s_need_state : Stmt := topS 14
theorem sc_need_state : FnScope ["web", "standing"] ["web", "standing"] (defScope s_need_state) := ⟨rfl, rfl, rfl, by decide +kernel, rfl, by decide +kernel, by decide +kernel⟩
theorem ok_need_state (bi : Bi mg) (c_need_web : DG P w K mg base "need_web" 3 1 g_need_web) (c_is_set : DG P w K mg base "is_set" 3 2 g_is_set) (Fd : ∃ f fd, FunD K "need_state" "need_state" (defArgs s_need_state) (defBody s_need_state) (defScope s_need_state) [] [] f fd ∧ mg "need_state" = some (.ref f)) : DG P w K mg base "need_state" 4 2 g_need_state := by
  obtain ⟨f, fd, Fd, m⟩ := Fd
  refine ⟨f, fd, ["web", "standing"], fn_pureF (k := 3) (N := ["web", "standing"]) (g := B_need_state) Fd sc_need_state rfl (by decide) (fun cdv A outer s H E hr => ?_), m, Fd.kp, Fd.bindsN fun _ _ _ _ _ _ us hl => match us, hl with | [_, _], _ => by kernel_rfl⟩
  have rm := rm_of (X := (cxOf CX0 P w K mg base ["web", "standing"] "need_state" (defScope s_need_state) f cdv A outer s H E).nox) hr
  have nd := sc_need_state.nd
  exact (sfs_cons (sf_expr (ef_call (c_need_web.cal hr) (ea_cons (ev 0) ea_nil) (lenA_cons lenA_nil) rfl))
    (sws_one (sf_if (tf_not (tf_val (ef_call (c_is_set.cal hr) (ea_cons (ev 0) (ea_cons (ev 1) ea_nil)) (lenA_cons (lenA_cons lenA_nil)) rfl))) (sws_one sf_never) sfs_nil)))

def B_need_two : Rho → Option Fl := (sSeq (sDrop (aOf g_need_state (aCons (gV 0) (aCons (gV 1) aNil))))
  (sIf (bNot (bB (aOf g_is_set (aCons (gV 0) (aCons (gV 2) aNil))))) sNever sNil))
def g_need_two : GA := runF 3 B_need_two

abbrev s_need_two : Stmt := topS 15
theorem sc_need_two : FnScope ["web", "standing", "goal"] ["web", "standing", "goal"] (defScope s_need_two) := ⟨rfl, rfl, rfl, by decide +kernel, rfl, by decide +kernel, by decide +kernel⟩
theorem ok_need_two (bi : Bi mg) (c_need_state : DG P w K mg base "need_state" 4 2 g_need_state) (c_is_set : DG P w K mg base "is_set" 3 2 g_is_set) (Fd : ∃ f fd, FunD K "need_two" "need_two" (defArgs s_need_two) (defBody s_need_two) (defScope s_need_two) [] [] f fd ∧ mg "need_two" = some (.ref f)) : DG P w K mg base "need_two" 5 3 g_need_two := by
  obtain ⟨f, fd, Fd, m⟩ := Fd
  refine ⟨f, fd, ["web", "standing", "goal"], fn_pureF (k := 4) (N := ["web", "standing", "goal"]) (g := B_need_two) Fd sc_need_two rfl (by decide) (fun cdv A outer s H E hr => ?_), m, Fd.kp, Fd.bindsN fun _ _ _ _ _ _ us hl => match us, hl with | [_, _, _], _ => by kernel_rfl⟩
  have rm := rm_of (X := (cxOf CX0 P w K mg base ["web", "standing", "goal"] "need_two" (defScope s_need_two) f cdv A outer s H E).nox) hr
  have nd := sc_need_two.nd
  exact (sfs_cons (sf_expr (ef_call (c_need_state.cal hr) (ea_cons (ev 0) (ea_cons (ev 1) ea_nil)) (lenA_cons (lenA_cons lenA_nil)) rfl))
    (sws_one (sf_if (tf_not (tf_val (ef_call (c_is_set.cal hr) (ea_cons (ev 0) (ea_cons (ev 2) ea_nil)) (lenA_cons (lenA_cons lenA_nil)) rfl))) (sws_one sf_never) sfs_nil)))

def B_pairs_in : Rho → Option Fl := (sSeq (sSetO 1 aNil)
  (sSeq (sFor (tgN 2) (aOf gRng1 (aCons (aOf gLen (aCons (gX 0) aNil)) aNil)) (sFor (tgN 3) (fItems (b2 dIx (gX 0) (gX 2))) (sIf (bB (b2 dLt (gX 2) (gX 3))) (sApp 1 (vTup (aCons (gV 2) (aCons (gV 3) aNil)))) sNil)))
  (sRet (gX 1))))
def g_pairs_in : GA := runF 4 B_pairs_in

abbrev s_pairs_in : Stmt := topS 16
theorem sc_pairs_in : FnScope ["web", "found", "one", "other"] ["web"] (defScope s_pairs_in) := ⟨rfl, rfl, rfl, by decide +kernel, rfl, by decide +kernel, by decide +kernel⟩
theorem ok_pairs_in (bi : Bi mg) (Fd : ∃ f fd, FunD K "pairs_in" "pairs_in" (defArgs s_pairs_in) (defBody s_pairs_in) (defScope s_pairs_in) [] [] f fd ∧ mg "pairs_in" = some (.ref f)) : DG P w K mg base "pairs_in" 1 1 g_pairs_in := by
  obtain ⟨f, fd, Fd, m⟩ := Fd
  refine ⟨f, fd, ["web"], fn_pureF (k := 0) (N := ["web", "found", "one", "other"]) (g := B_pairs_in) Fd sc_pairs_in rfl (by decide) (fun cdv A outer s H E hr => ?_), m, Fd.kp, Fd.bindsN fun _ _ _ _ _ _ us hl => match us, hl with | [_], _ => by kernel_rfl⟩
  have rm := rm_of (X := (cxOf CX0 P w K mg base ["web", "found", "one", "other"] "pairs_in" (defScope s_pairs_in) f cdv A outer s H E).nox) hr
  have nd := sc_pairs_in.nd
  exact (sfs_cons (NSF.so (ns_set (i := 1) nd rfl (by first | exact Or.inl rfl | exact Or.inr rfl) (nf_lst ea_nil lenA_nil)))
    (sfs_cons (sf_for PassesOwn.never rfl (if_rng1 rfl bi.range (xa_cons (EW.x (c_len bi (xa_cons (xv 0) xa_nil))) xa_nil)) (gw_name (i := 2) nd rfl (by first | exact Or.inl rfl | exact Or.inr rfl)) (sws_one (sf_for PassesOwn.never rfl (if_seq (ef_ix (xv 0) (xv 2))) (gw_name (i := 3) nd rfl (by first | exact Or.inl rfl | exact Or.inr rfl)) (sws_one (sf_if (tf_cmp og_lt (xv 2) (xv 3) (nomark _)) (sws_one (sf_app (i := 1) rfl (by first | exact Or.inl rfl | exact Or.inr (Or.inl rfl) | exact Or.inr (Or.inr rfl)) (ef_tup (ea_cons (ev 2) (ea_cons (ev 3) ea_nil)) (lenA_cons (lenA_cons lenA_nil))))) sfs_nil)))))
    (sws_one (sf_retx (xv 1)))))

abbrev s_web_by : Stmt := topS 17
abbrev g_web_by : GA := gWebBy
theorem sc_web_by : FnScope ["people", "some", "found", "one", "other", "person", "row"] ["people", "some"] (defScope s_web_by) := ⟨rfl, rfl, rfl, by decide +kernel, rfl, by decide +kernel, by decide +kernel⟩
theorem ok_web_by (bi : Bi mg) (Fd : ∃ f fd, FunD K "web_by" "web_by" (defArgs s_web_by) (defBody s_web_by) (defScope s_web_by) [] [] f fd ∧ mg "web_by" = some (.ref f)) : DG P w K mg base "web_by" 1 2 g_web_by := by
  obtain ⟨f, fd, Fd, m⟩ := Fd
  refine ⟨f, fd, ["people", "some"], Fd.ok sc_web_by (fun vs H Q E h => h.1) (fun cdv A outer s H vs Q E hr h => ⟨tWBy w K, PSs.nox ?_, webby_sp h⟩), m, Fd.kp, Fd.bindsN fun _ _ _ _ _ _ us hl => match us, hl with | [_, _], _ => by kernel_rfl⟩
  have nd := sc_web_by.nd
  have W : PSs (cxOf CX0 P w K mg base _ "web_by" (defScope s_web_by) f cdv A outer s H E).nox (defBody s_web_by) _ :=
    pss_cons (ps_setLc (i := 2) rfl nd rfl rfl (by rfl) (pi_range1 (by rfl) bi.range (pa_cons (pv 0) pa_nil)) (blkOk_by (own := [("person", 5)]) (by kernel_rfl)) (fun _ _ _ _ _ => pg_name (i := 5) nd rfl (by first | exact Or.inl rfl | exact Or.inr rfl)) (fun _ _ _ _ _ => pts_nil) (fun _ _ _ _ _ => pe_lst pa_nil))
    (pss_cons (ps_for PassesOwn.never rfl (pi_list (pv 1)) (pg_tup rfl (pgs_cons (pg_name (i := 3) nd rfl (Or.inl rfl)) (pgs_cons (pg_name (i := 4) nd rfl (Or.inl rfl)) pgs_nil)))
      (pss_cons (ps_expr (pe_bm PySem.F.plainAttrs_list PySem.F.slot_list_append PySem.F.type_list_append mt_append (pe_ix ix_list (pv 2) (pv 3) (fun _ _ => rfl)) (pa_cons (pv 4) pa_nil)))
        (pss_one (ps_expr (pe_bm PySem.F.plainAttrs_list PySem.F.slot_list_append PySem.F.type_list_append mt_append (pe_ix ix_list (pv 2) (pv 4) (fun _ _ => rfl)) (pa_cons (pv 3) pa_nil))))))
    (pss_one (ps_ret (pe_callTy call_tuple_of rfl bi.tuple bt_tuple (pa_cons (pe_lc (te := tCB (rTupOf K) (tCons (tCB (rSortedSet w) (tCons (tCB (rSetL w K) (tCons (tVar 6) tNil)) tNil)) tNil)) rfl nd (pi_list (pv 2)) (blkOk_by (own := [("row", 6)]) (by kernel_rfl)) (fun _ _ _ _ _ => pg_name (i := 6) nd rfl (by first | exact Or.inl rfl | exact Or.inr rfl)) (fun _ _ _ _ _ => pts_nil)
      (fun _ _ _ _ _ => pe_callTy call_tuple_of rfl bi.tuple bt_tuple (pa_cons (pe_callB (cr_sortedSet rfl) rfl bi.sorted bt_sorted (pa_cons (pe_callTy (cr_setL rfl) rfl bi.set bt_set (pa_cons (pv 6) pa_nil)) pa_nil)) pa_nil))) pa_nil)))))
  exact W

def B_taller_in : Rho → Option Fl := (sRet (aOf gTup (aCons (fun ρ => ((cLc [2] (tgN 2) (bB (b2 dGt (gX 2) (gX 1))) (gV 2) (fItems (b2 dIx (gX 0) (gX 1)))) ρ).map PyData.list) aNil)))
def g_taller_in : GA := runF 3 B_taller_in

abbrev s_taller_in : Stmt := topS 18
theorem sc_taller_in : FnScope ["web", "person", "other"] ["web", "person"] (defScope s_taller_in) := ⟨rfl, rfl, rfl, by decide +kernel, rfl, by decide +kernel, by decide +kernel⟩
theorem ok_taller_in (bi : Bi mg) (Fd : ∃ f fd, FunD K "taller_in" "taller_in" (defArgs s_taller_in) (defBody s_taller_in) (defScope s_taller_in) [] [] f fd ∧ mg "taller_in" = some (.ref f)) : DG P w K mg base "taller_in" 1 2 g_taller_in := by
  obtain ⟨f, fd, Fd, m⟩ := Fd
  refine ⟨f, fd, ["web", "person"], fn_pureF (k := 0) (N := ["web", "person", "other"]) (g := B_taller_in) Fd sc_taller_in rfl (by decide) (fun cdv A outer s H E hr => ?_), m, Fd.kp, Fd.bindsN fun _ _ _ _ _ _ us hl => match us, hl with | [_, _], _ => by kernel_rfl⟩
  have rm := rm_of (X := (cxOf CX0 P w K mg base ["web", "person", "other"] "taller_in" (defScope s_taller_in) f cdv A outer s H E).nox) hr
  have nd := sc_taller_in.nd
  exact (sws_one (sf_ret (c_tuple bi (xa_cons (EW.x (NF.e (NW.lc (nw_lc (own := [("other", 2)]) (g := (tgN 2)) (T := fW (bB (b2 dGt (gX 2) (gX 1)))) (E := fW (gV 2)) rfl nd (if_seq (ef_ix (xv 0) (xv 1))) (blkOk_by (own := [("other", 2)]) (by kernel_rfl)) (fun _ _ _ _ _ => (gw_sub (gw_name (i := 2) nd rfl (by first | exact Or.inl rfl | exact Or.inr rfl)))) (fun _ _ _ _ _ => (ts_one (tf_cmp og_gt (xv 2) (xv 1) (nomark _)))) (fun _ _ _ _ _ => (ev 2)) s)))) xa_nil))))

def B_peaks_in : Rho → Option Fl := (sSeq (sSetO 2 aNil)
  (sSeq (sFor (tgN 3) (fItems (gV 1)) (sIf (bNot (bB (aOf gAny (aCons (fun ρ => ((cLc [4] (tgN 4) fYes (vAnd (b2 dGt (gX 4) (gX 3)) (b2 dIn (gX 4) (gX 1))) (fItems (b2 dIx (gX 0) (gX 3)))) ρ).map PyData.list) aNil)))) (sApp 2 (gV 3)) sNil))
  (sRet (aOf gTup (aCons (gX 2) aNil)))))
def g_peaks_in : GA := runF 5 B_peaks_in

abbrev s_peaks_in : Stmt := topS 19
theorem sc_peaks_in : FnScope ["web", "standing", "found", "person", "other"] ["web", "standing"] (defScope s_peaks_in) := ⟨rfl, rfl, rfl, by decide +kernel, rfl, by decide +kernel, by decide +kernel⟩
theorem ok_peaks_in (bi : Bi mg) (Fd : ∃ f fd, FunD K "peaks_in" "peaks_in" (defArgs s_peaks_in) (defBody s_peaks_in) (defScope s_peaks_in) [] [] f fd ∧ mg "peaks_in" = some (.ref f)) : DG P w K mg base "peaks_in" 1 2 g_peaks_in := by
  obtain ⟨f, fd, Fd, m⟩ := Fd
  refine ⟨f, fd, ["web", "standing"], fn_pureF (k := 0) (N := ["web", "standing", "found", "person", "other"]) (g := B_peaks_in) Fd sc_peaks_in rfl (by decide) (fun cdv A outer s H E hr => ?_), m, Fd.kp, Fd.bindsN fun _ _ _ _ _ _ us hl => match us, hl with | [_, _], _ => by kernel_rfl⟩
  have rm := rm_of (X := (cxOf CX0 P w K mg base ["web", "standing", "found", "person", "other"] "peaks_in" (defScope s_peaks_in) f cdv A outer s H E).nox) hr
  have nd := sc_peaks_in.nd
  exact (sfs_cons (NSF.so (ns_set (i := 2) nd rfl (by first | exact Or.inl rfl | exact Or.inr rfl) (nf_lst ea_nil lenA_nil)))
    (sfs_cons (sf_for PassesOwn.never rfl (if_seq (ev 1)) (gw_name (i := 3) nd rfl (by first | exact Or.inl rfl | exact Or.inr rfl)) (sws_one (sf_if (tf_not (tf_val (c_any bi (xa_cons (EW.x (NF.e (NW.lc (nw_lc (own := [("other", 4)]) (g := (tgN 4)) (T := fW fYes) (E := fW (vAnd (b2 dGt (gX 4) (gX 3)) (b2 dIn (gX 4) (gX 1)))) rfl nd (if_seq (ef_ix (xv 0) (xv 3))) (blkOk_by (own := [("other", 4)]) (by kernel_rfl)) (fun _ _ _ _ _ => (gw_sub (gw_name (i := 4) nd rfl (by first | exact Or.inl rfl | exact Or.inr rfl)))) (fun _ _ _ _ _ => ts_nil) (fun _ _ _ _ _ => (ef_and (ef_cmp og_gt (xv 4) (xv 3) (nomark _)) (ef_one (ef_cmp (og_in rm) (xv 4) (xv 1) (by rfl))))) s)))) xa_nil)))) (sws_one (sf_app (i := 2) rfl (by first | exact Or.inl rfl | exact Or.inr (Or.inl rfl) | exact Or.inr (Or.inr rfl)) (ev 3))) sfs_nil)))
    (sws_one (sf_ret (c_tuple bi (xa_cons (xv 2) xa_nil))))))

def B_peaks : Rho → Option Fl := (sSeq (sDrop (aOf g_need_state (aCons (gV 0) (aCons (gV 1) aNil))))
  (sRet (aOf g_peaks_in (aCons (gV 0) (aCons (gV 1) aNil)))))
def g_peaks : GA := runF 2 B_peaks

abbrev s_peaks : Stmt := topS 20
theorem sc_peaks : FnScope ["web", "standing"] ["web", "standing"] (defScope s_peaks) := ⟨rfl, rfl, rfl, by decide +kernel, rfl, by decide +kernel, by decide +kernel⟩
theorem ok_peaks (bi : Bi mg) (c_need_state : DG P w K mg base "need_state" 4 2 g_need_state) (c_peaks_in : DG P w K mg base "peaks_in" 1 2 g_peaks_in) (Fd : ∃ f fd, FunD K "peaks" "peaks" (defArgs s_peaks) (defBody s_peaks) (defScope s_peaks) [] [] f fd ∧ mg "peaks" = some (.ref f)) : DG P w K mg base "peaks" 5 2 g_peaks := by
  obtain ⟨f, fd, Fd, m⟩ := Fd
  refine ⟨f, fd, ["web", "standing"], fn_pureF (k := 4) (N := ["web", "standing"]) (g := B_peaks) Fd sc_peaks rfl (by decide) (fun cdv A outer s H E hr => ?_), m, Fd.kp, Fd.bindsN fun _ _ _ _ _ _ us hl => match us, hl with | [_, _], _ => by kernel_rfl⟩
  have rm := rm_of (X := (cxOf CX0 P w K mg base ["web", "standing"] "peaks" (defScope s_peaks) f cdv A outer s H E).nox) hr
  have nd := sc_peaks.nd
  exact (sfs_cons (sf_expr (ef_call (c_need_state.cal hr) (ea_cons (ev 0) (ea_cons (ev 1) ea_nil)) (lenA_cons (lenA_cons lenA_nil)) rfl))
    (sws_one (sf_ret (ef_call (c_peaks_in.cal hr) (ea_cons (ev 0) (ea_cons (ev 1) ea_nil)) (lenA_cons (lenA_cons lenA_nil)) rfl))))

def B_everybody : Rho → Option Fl := (sSeq (sDrop (aOf g_need_web (aCons (gV 0) aNil)))
  (sRet (vTupRg (aOf gR1 (aCons (aOf gLen (aCons (gX 0) aNil)) aNil)))))
def g_everybody : GA := runF 1 B_everybody

abbrev s_everybody : Stmt := topS 21
theorem sc_everybody : FnScope ["web"] ["web"] (defScope s_everybody) := ⟨rfl, rfl, rfl, by decide +kernel, rfl, by decide +kernel, by decide +kernel⟩
theorem ok_everybody (bi : Bi mg) (c_need_web : DG P w K mg base "need_web" 3 1 g_need_web) (Fd : ∃ f fd, FunD K "everybody" "everybody" (defArgs s_everybody) (defBody s_everybody) (defScope s_everybody) [] [] f fd ∧ mg "everybody" = some (.ref f)) : DG P w K mg base "everybody" 4 1 g_everybody := by
  obtain ⟨f, fd, Fd, m⟩ := Fd
  refine ⟨f, fd, ["web"], fn_pureF (k := 3) (N := ["web"]) (g := B_everybody) Fd sc_everybody rfl (by decide) (fun cdv A outer s H E hr => ?_), m, Fd.kp, Fd.bindsN fun _ _ _ _ _ _ us hl => match us, hl with | [_], _ => by kernel_rfl⟩
  have rm := rm_of (X := (cxOf CX0 P w K mg base ["web"] "everybody" (defScope s_everybody) f cdv A outer s H E).nox) hr
  have nd := sc_everybody.nd
  exact (sfs_cons (sf_expr (ef_call (c_need_web.cal hr) (ea_cons (ev 0) ea_nil) (lenA_cons lenA_nil) rfl))
    (sws_one (sf_ret (c_tupRg bi (rg_1 bi (EW.x (c_len bi (xa_cons (xv 0) xa_nil))))))))

def B_standing_pairs : Rho → Option Fl := (sSeq (sDrop (aOf g_need_state (aCons (gV 0) (aCons (gV 1) aNil))))
  (sSeq (sSetO 2 aNil)
  (sSeq (sFor (tgN 3) (fItems (aOf g_pairs_in (aCons (gV 0) aNil))) (sIf (bAnd (bB (b2 dIn (b2 dIx (gX 3) (gC (.int 0))) (gX 1))) (bB (b2 dIn (b2 dIx (gX 3) (gC (.int 1))) (gX 1)))) (sApp 2 (gV 3)) sNil))
  (sRet (aOf gTup (aCons (gX 2) aNil))))))
def g_standing_pairs : GA := runF 4 B_standing_pairs

abbrev s_standing_pairs : Stmt := topS 22
theorem sc_standing_pairs : FnScope ["web", "standing", "found", "pair"] ["web", "standing"] (defScope s_standing_pairs) := ⟨rfl, rfl, rfl, by decide +kernel, rfl, by decide +kernel, by decide +kernel⟩
theorem ok_standing_pairs (bi : Bi mg) (c_need_state : DG P w K mg base "need_state" 4 2 g_need_state) (c_pairs_in : DG P w K mg base "pairs_in" 1 1 g_pairs_in) (Fd : ∃ f fd, FunD K "standing_pairs" "standing_pairs" (defArgs s_standing_pairs) (defBody s_standing_pairs) (defScope s_standing_pairs) [] [] f fd ∧ mg "standing_pairs" = some (.ref f)) : DG P w K mg base "standing_pairs" 5 2 g_standing_pairs := by
  obtain ⟨f, fd, Fd, m⟩ := Fd
  refine ⟨f, fd, ["web", "standing"], fn_pureF (k := 4) (N := ["web", "standing", "found", "pair"]) (g := B_standing_pairs) Fd sc_standing_pairs rfl (by decide) (fun cdv A outer s H E hr => ?_), m, Fd.kp, Fd.bindsN fun _ _ _ _ _ _ us hl => match us, hl with | [_, _], _ => by kernel_rfl⟩
  have rm := rm_of (X := (cxOf CX0 P w K mg base ["web", "standing", "found", "pair"] "standing_pairs" (defScope s_standing_pairs) f cdv A outer s H E).nox) hr
  have nd := sc_standing_pairs.nd
  exact (sfs_cons (sf_expr (ef_call (c_need_state.cal hr) (ea_cons (ev 0) (ea_cons (ev 1) ea_nil)) (lenA_cons (lenA_cons lenA_nil)) rfl))
    (sfs_cons (NSF.so (ns_set (i := 2) nd rfl (by first | exact Or.inl rfl | exact Or.inr rfl) (nf_lst ea_nil lenA_nil)))
    (sfs_cons (sf_for PassesOwn.never rfl (if_seq (ef_call (c_pairs_in.cal hr) (ea_cons (ev 0) ea_nil) (lenA_cons lenA_nil) rfl)) (gw_name (i := 3) nd rfl (by first | exact Or.inl rfl | exact Or.inr rfl)) (sws_one (sf_if (TWW.t (tf_and (tf_cmp (og_in rm) (EW.x (ef_ix (xv 3) (EW.x ef_int))) (xv 1) (by rfl)) (tf_and1 (tf_cmp (og_in rm) (EW.x (ef_ix (xv 3) (EW.x ef_int))) (xv 1) (by rfl))))) (sws_one (sf_app (i := 2) rfl (by first | exact Or.inl rfl | exact Or.inr (Or.inl rfl) | exact Or.inr (Or.inr rfl)) (ev 3))) sfs_nil)))
    (sws_one (sf_ret (c_tuple bi (xa_cons (xv 2) xa_nil)))))))

def B_apart_in : Rho → Option Fl := (sRet (vNot (aOf gAny (aCons (fun ρ => ((cLc2 [2, 3] [3] (tgN 2) (tgN 3) fYes fYes (b2 dIn (gX 3) (b2 dIx (gX 0) (gX 2))) (fItems (gV 1)) (fItems (gV 1))) ρ).map PyData.list) aNil))))
def g_apart_in : GA := runF 4 B_apart_in

abbrev s_apart_in : Stmt := topS 23
theorem sc_apart_in : FnScope ["web", "people", "one", "other"] ["web", "people"] (defScope s_apart_in) := ⟨rfl, rfl, rfl, by decide +kernel, rfl, by decide +kernel, by decide +kernel⟩
theorem ok_apart_in (bi : Bi mg) (Fd : ∃ f fd, FunD K "apart_in" "apart_in" (defArgs s_apart_in) (defBody s_apart_in) (defScope s_apart_in) [] [] f fd ∧ mg "apart_in" = some (.ref f)) : DG P w K mg base "apart_in" 1 2 g_apart_in := by
  obtain ⟨f, fd, Fd, m⟩ := Fd
  refine ⟨f, fd, ["web", "people"], fn_pureF (k := 0) (N := ["web", "people", "one", "other"]) (g := B_apart_in) Fd sc_apart_in rfl (by decide) (fun cdv A outer s H E hr => ?_), m, Fd.kp, Fd.bindsN fun _ _ _ _ _ _ us hl => match us, hl with | [_, _], _ => by kernel_rfl⟩
  have rm := rm_of (X := (cxOf CX0 P w K mg base ["web", "people", "one", "other"] "apart_in" (defScope s_apart_in) f cdv A outer s H E).nox) hr
  have nd := sc_apart_in.nd
  exact (sws_one (sf_ret (ef_not (c_any bi (xa_cons (EW.x (NF.e (NW.lc2 (nw_lc2 (own := [("one", 2), ("other", 3)]) (vs1 := [3]) (g := (tgN 2)) (g1 := (tgN 3)) (T := fW fYes) (T1 := fW fYes) (E := fW (b2 dIn (gX 3) (b2 dIx (gX 0) (gX 2)))) rfl nd (if_seq (ev 1)) (blkOk_by (own := [("one", 2), ("other", 3)]) (by kernel_rfl)) (by decide) (fun _ _ _ _ _ => (gw_sub (gw_name (i := 2) nd rfl (by first | exact Or.inl rfl | exact Or.inr rfl)))) (fun _ _ _ _ _ => ts_nil) (fun _ _ _ _ _ => (if_seq (ev 1))) (fun _ _ _ _ _ => (gw_name (i := 3) nd rfl (by first | exact Or.inl rfl | exact Or.inr rfl))) (fun _ _ _ _ _ => ts_nil) (fun _ _ _ _ _ => (ef_cmp (og_in rm) (xv 3) (EW.x (ef_ix (xv 0) (xv 2))) (by rfl))) s)))) xa_nil)))))

def B_is_end : Rho → Option Fl := (sSeq (sDrop (aOf g_need_state (aCons (gV 0) (aCons (gV 1) aNil))))
  (sRet (aOf g_apart_in (aCons (gV 0) (aCons (gV 1) aNil)))))
def g_is_end : GA := runF 2 B_is_end

abbrev s_is_end : Stmt := topS 24
theorem sc_is_end : FnScope ["web", "standing"] ["web", "standing"] (defScope s_is_end) := ⟨rfl, rfl, rfl, by decide +kernel, rfl, by decide +kernel, by decide +kernel⟩
theorem ok_is_end (bi : Bi mg) (c_need_state : DG P w K mg base "need_state" 4 2 g_need_state) (c_apart_in : DG P w K mg base "apart_in" 1 2 g_apart_in) (Fd : ∃ f fd, FunD K "is_end" "is_end" (defArgs s_is_end) (defBody s_is_end) (defScope s_is_end) [] [] f fd ∧ mg "is_end" = some (.ref f)) : DG P w K mg base "is_end" 5 2 g_is_end := by
  obtain ⟨f, fd, Fd, m⟩ := Fd
  refine ⟨f, fd, ["web", "standing"], fn_pureF (k := 4) (N := ["web", "standing"]) (g := B_is_end) Fd sc_is_end rfl (by decide) (fun cdv A outer s H E hr => ?_), m, Fd.kp, Fd.bindsN fun _ _ _ _ _ _ us hl => match us, hl with | [_, _], _ => by kernel_rfl⟩
  have rm := rm_of (X := (cxOf CX0 P w K mg base ["web", "standing"] "is_end" (defScope s_is_end) f cdv A outer s H E).nox) hr
  have nd := sc_is_end.nd
  exact (sfs_cons (sf_expr (ef_call (c_need_state.cal hr) (ea_cons (ev 0) (ea_cons (ev 1) ea_nil)) (lenA_cons (lenA_cons lenA_nil)) rfl))
    (sws_one (sf_ret (ef_call (c_apart_in.cal hr) (ea_cons (ev 0) (ea_cons (ev 1) ea_nil)) (lenA_cons (lenA_cons lenA_nil)) rfl))))

def B_groups_in : Rho → Option Fl := (sSeq (sPuts [2, 3] 2 (pF (fun ρ => ((aOf gLst (aCons (gX 1) aNil)) ρ).map PyData.list) (pO aNil pNil)))
  (sSeq (whF (bB (b2 dNe (gX 2) (fun ρ => (aNil ρ).map PyData.list))) (sSeq (sPuts [4, 5] 2 (pO (aCons (b2 dIx (gX 2) (gC (.int 0))) aNil) (pO (aCons (b2 dIx (gX 2) (gC (.int 0))) aNil) pNil)))
  (sSeq (whF (bB (b2 dNe (gX 5) (fun ρ => (aNil ρ).map PyData.list))) (sSeq (sPop 6 5)
  (sFor (tgN 7) (fItems (b2 dIx (gX 0) (gX 6))) (sIf (bAnd (bB (b2 dIn (gX 7) (gX 2))) (bB (b2 dNotIn (gX 7) (gX 4)))) (sSeq (sApp 4 (gV 7))
  (sApp 5 (gV 7))) sNil))) 4096)
  (sSeq (sApp 3 (aOf gTup (aCons (fun ρ => ((aOf gSrt (aCons (gX 4) aNil)) ρ).map PyData.list) aNil)))
  (sSetL 2 (cLc [8] (tgN 8) (bB (b2 dNotIn (gX 8) (gX 4))) (gV 8) (fItems (gV 2))))))) 4096)
  (sRet (fun ρ => ((aOf gSrt (aCons (gX 3) aNil)) ρ).map PyData.list))))
def g_groups_in : GA := runF 9 B_groups_in

abbrev s_groups_in : Stmt := topS 25
theorem sc_groups_in : FnScope ["web", "standing", "left", "found", "group", "last", "here", "other", "person"] ["web", "standing"] (defScope s_groups_in) := ⟨rfl, rfl, rfl, by decide +kernel, rfl, by decide +kernel, by decide +kernel⟩
theorem ok_groups_in (bi : Bi mg) (Fd : ∃ f fd, FunD K "groups_in" "groups_in" (defArgs s_groups_in) (defBody s_groups_in) (defScope s_groups_in) [] [] f fd ∧ mg "groups_in" = some (.ref f)) : DG P w K mg base "groups_in" 1 2 g_groups_in := by
  obtain ⟨f, fd, Fd, m⟩ := Fd
  refine ⟨f, fd, ["web", "standing"], fn_pureF (k := 0) (N := ["web", "standing", "left", "found", "group", "last", "here", "other", "person"]) (g := B_groups_in) Fd sc_groups_in rfl (by decide) (fun cdv A outer s H E hr => ?_), m, Fd.kp, Fd.bindsN fun _ _ _ _ _ _ us hl => match us, hl with | [_, _], _ => by kernel_rfl⟩
  have rm := rm_of (X := (cxOf CX0 P w K mg base ["web", "standing", "left", "found", "group", "last", "here", "other", "person"] "groups_in" (defScope s_groups_in) f cdv A outer s H E).nox) hr
  have nd := sc_groups_in.nd
  exact (sfs_cons (SW.puts (sw_own2 (i := 2) (j := 3) rfl nd rfl rfl (by decide) rfl rfl (of_f (NF.e (n_list bi (xa_cons (xv 1) xa_nil))) (of_o (nf_lst ea_nil lenA_nil) of_nil)) (by rfl)))
    (sfs_cons (sf_while 4096  PassesOwn.never (tf_cmp (og_ne rm) (xv 2) (EW.x (NF.e (nf_lst ea_nil lenA_nil))) (nomark _)) (sfs_cons (SW.puts (sw_ownT (n := 2) rfl nd (is := [4, 5]) (.cons (i := 4) rfl (by first | exact Or.inl rfl | exact Or.inr rfl) (by first | exact .inl rfl | exact .inr rfl) (.cons (i := 5) rfl (by first | exact Or.inl rfl | exact Or.inr rfl) (by first | exact .inl rfl | exact .inr rfl) .nil)) (of_o (nf_lst (ea_cons (ef_ix (xv 2) (EW.x ef_int)) ea_nil) (lenA_cons lenA_nil)) (of_o (nf_lst (ea_cons (ef_ix (xv 2) (EW.x ef_int)) ea_nil) (lenA_cons lenA_nil)) of_nil)) rfl rfl (by decide)))
    (sfs_cons (sf_while 4096  PassesOwn.never (tf_cmp (og_ne rm) (xv 5) (EW.x (NF.e (nf_lst ea_nil lenA_nil))) (nomark _)) (sfs_cons (sf_pop (i := 6) (j := 5) nd rfl (by first | exact Or.inl rfl | exact Or.inr rfl) rfl (by first | exact Or.inl rfl | exact Or.inr (Or.inl rfl) | exact Or.inr (Or.inr rfl)))
    (sws_one (sf_for PassesOwn.never rfl (if_seq (ef_ix (xv 0) (xv 6))) (gw_name (i := 7) nd rfl (by first | exact Or.inl rfl | exact Or.inr rfl)) (sws_one (sf_if (TWW.t (tf_and (tf_cmp (og_in rm) (xv 7) (xv 2) (by rfl)) (tf_and1 (tf_cmp (og_notIn rm) (xv 7) (xv 4) (by rfl))))) (sfs_cons (sf_app (i := 4) rfl (by first | exact Or.inl rfl | exact Or.inr (Or.inl rfl) | exact Or.inr (Or.inr rfl)) (ev 7))
    (sws_one (sf_app (i := 5) rfl (by first | exact Or.inl rfl | exact Or.inr (Or.inl rfl) | exact Or.inr (Or.inr rfl)) (ev 7)))) sfs_nil))))))
    (sfs_cons (sf_app (i := 3) rfl (by first | exact Or.inl rfl | exact Or.inr (Or.inl rfl) | exact Or.inr (Or.inr rfl)) (c_tuple bi (xa_cons (EW.x (NF.e (n_sorted bi rm (xa_cons (xv 4) xa_nil)))) xa_nil)))
    (sws_one (NSF.sl (NS.lc (ns_lc (i := 2) (own := [("person", 8)]) (g := (tgN 8)) (T := fW (bB (b2 dNotIn (gX 8) (gX 4)))) (E := fW (gV 8)) rfl nd rfl rfl (if_seq (ev 2)) (blkOk_by (own := [("person", 8)]) (by kernel_rfl)) (fun _ _ _ _ _ => (gw_sub (gw_name (i := 8) nd rfl (by first | exact Or.inl rfl | exact Or.inr rfl)))) (fun _ _ _ _ _ => (ts_one (tf_cmp (og_notIn rm) (xv 8) (xv 4) (by rfl)))) (fun _ _ _ _ _ => (ev 8)) s (sw_true rfl rfl rfl (by decide +kernel))))))))))
    (sws_one (sf_ret (NF.e (n_sorted bi rm (xa_cons (xv 3) xa_nil)))))))

def B_groups : Rho → Option Fl := (sSeq (sDrop (aOf g_need_state (aCons (gV 0) (aCons (gV 1) aNil))))
  (sRet (aOf gTup (aCons (aOf g_groups_in (aCons (gV 0) (aCons (gV 1) aNil))) aNil))))
def g_groups : GA := runF 2 B_groups

abbrev s_groups : Stmt := topS 26
theorem sc_groups : FnScope ["web", "standing"] ["web", "standing"] (defScope s_groups) := ⟨rfl, rfl, rfl, by decide +kernel, rfl, by decide +kernel, by decide +kernel⟩
theorem ok_groups (bi : Bi mg) (c_need_state : DG P w K mg base "need_state" 4 2 g_need_state) (c_groups_in : DG P w K mg base "groups_in" 1 2 g_groups_in) (Fd : ∃ f fd, FunD K "groups" "groups" (defArgs s_groups) (defBody s_groups) (defScope s_groups) [] [] f fd ∧ mg "groups" = some (.ref f)) : DG P w K mg base "groups" 5 2 g_groups := by
  obtain ⟨f, fd, Fd, m⟩ := Fd
  refine ⟨f, fd, ["web", "standing"], fn_pureF (k := 4) (N := ["web", "standing"]) (g := B_groups) Fd sc_groups rfl (by decide) (fun cdv A outer s H E hr => ?_), m, Fd.kp, Fd.bindsN fun _ _ _ _ _ _ us hl => match us, hl with | [_, _], _ => by kernel_rfl⟩
  have rm := rm_of (X := (cxOf CX0 P w K mg base ["web", "standing"] "groups" (defScope s_groups) f cdv A outer s H E).nox) hr
  have nd := sc_groups.nd
  exact (sfs_cons (sf_expr (ef_call (c_need_state.cal hr) (ea_cons (ev 0) (ea_cons (ev 1) ea_nil)) (lenA_cons (lenA_cons lenA_nil)) rfl))
    (sws_one (sf_ret (c_tuple bi (xa_cons (EW.x (ef_call (c_groups_in.cal hr) (ea_cons (ev 0) (ea_cons (ev 1) ea_nil)) (lenA_cons (lenA_cons lenA_nil)) rfl)) xa_nil)))))

def B_choices : Rho → Option Fl := (sSeq (sSetO 1 (aCons (vTup aNil) aNil))
  (sSeq (sFor (tgN 2) (fItems (gV 0)) (sExt 1 (cLcO 1 [3] (tgN 3) fYes (vTupS (fStar (gV 3) (aCons (gV 2) aNil))))))
  (sRet (gX 1))))
def g_choices : GA := runF 4 B_choices

abbrev s_choices : Stmt := topS 27
theorem sc_choices : FnScope ["people", "found", "person", "row"] ["people"] (defScope s_choices) := ⟨rfl, rfl, rfl, by decide +kernel, rfl, by decide +kernel, by decide +kernel⟩
theorem ok_choices (bi : Bi mg) (Fd : ∃ f fd, FunD K "choices" "choices" (defArgs s_choices) (defBody s_choices) (defScope s_choices) [] [] f fd ∧ mg "choices" = some (.ref f)) : DG P w K mg base "choices" 1 1 g_choices := by
  obtain ⟨f, fd, Fd, m⟩ := Fd
  refine ⟨f, fd, ["people"], fn_pureF (k := 0) (N := ["people", "found", "person", "row"]) (g := B_choices) Fd sc_choices rfl (by decide) (fun cdv A outer s H E hr => ?_), m, Fd.kp, Fd.bindsN fun _ _ _ _ _ _ us hl => match us, hl with | [_], _ => by kernel_rfl⟩
  have rm := rm_of (X := (cxOf CX0 P w K mg base ["people", "found", "person", "row"] "choices" (defScope s_choices) f cdv A outer s H E).nox) hr
  have nd := sc_choices.nd
  exact (sfs_cons (NSF.so (ns_set (i := 1) nd rfl (by first | exact Or.inl rfl | exact Or.inr rfl) (nf_lst (ea_cons (ef_tup ea_nil lenA_nil) ea_nil) (lenA_cons lenA_nil))))
    (sfs_cons (sf_for PassesOwn.never rfl (if_seq (ev 0)) (gw_name (i := 2) nd rfl (by first | exact Or.inl rfl | exact Or.inr rfl)) (sws_one (sf_ext (i := 1) rfl (by first | exact Or.inl rfl | exact Or.inr (Or.inl rfl) | exact Or.inr (Or.inr rfl)) (NW.lcO (nw_lcO (i := 1) (own := [("row", 3)]) (g := (tgN 3)) (T := fW fYes) (E := fW (vTupS (fStar (gV 3) (aCons (gV 2) aNil)))) rfl nd rfl (by first | exact Or.inl rfl | exact Or.inr (Or.inl rfl) | exact Or.inr (Or.inr rfl)) (blkOk_by (own := [("row", 3)]) (by kernel_rfl)) (fun _ _ _ _ _ => (gw_sub (gw_name (i := 3) nd rfl (by first | exact Or.inl rfl | exact Or.inr rfl)))) (fun _ _ _ _ _ => ts_nil) (fun _ _ _ _ _ => (ef_tupS (ea_starF (ev 3) (ea_cons (ev 2) ea_nil)))) s)))))
    (sws_one (sf_retx (xv 1)))))

def B_call_in : Rho → Option Fl := (sSeq (sIf (bB (b2 dNotIn (gX 2) (gX 1))) (sRet (gV 1)) sNil)
  (sRet (aOf gTup (aCons (fun ρ => ((cLc [3] (tgN 3) (bOr (bB (b2 dGe (gX 3) (gX 2))) (bB (b2 dNotIn (gX 3) (b2 dIx (gX 0) (gX 2))))) (gV 3) (fItems (gV 1))) ρ).map PyData.list) aNil))))
def g_call_in : GA := runF 4 B_call_in

abbrev s_call_in : Stmt := topS 29
theorem sc_call_in : FnScope ["web", "standing", "person", "other"] ["web", "standing", "person"] (defScope s_call_in) := ⟨rfl, rfl, rfl, by decide +kernel, rfl, by decide +kernel, by decide +kernel⟩
theorem ok_call_in (bi : Bi mg) (Fd : ∃ f fd, FunD K "call_in" "call_in" (defArgs s_call_in) (defBody s_call_in) (defScope s_call_in) [] [] f fd ∧ mg "call_in" = some (.ref f)) : DG P w K mg base "call_in" 1 3 g_call_in := by
  obtain ⟨f, fd, Fd, m⟩ := Fd
  refine ⟨f, fd, ["web", "standing", "person"], fn_pureF (k := 0) (N := ["web", "standing", "person", "other"]) (g := B_call_in) Fd sc_call_in rfl (by decide) (fun cdv A outer s H E hr => ?_), m, Fd.kp, Fd.bindsN fun _ _ _ _ _ _ us hl => match us, hl with | [_, _, _], _ => by kernel_rfl⟩
  have rm := rm_of (X := (cxOf CX0 P w K mg base ["web", "standing", "person", "other"] "call_in" (defScope s_call_in) f cdv A outer s H E).nox) hr
  have nd := sc_call_in.nd
  exact (sfs_cons (sf_if (tf_cmp (og_notIn rm) (xv 2) (xv 1) (by rfl)) (sws_one (sf_ret (ev 1))) sfs_nil)
    (sws_one (sf_ret (c_tuple bi (xa_cons (EW.x (NF.e (NW.lc (nw_lc (own := [("other", 3)]) (g := (tgN 3)) (T := fW (bOr (bB (b2 dGe (gX 3) (gX 2))) (bB (b2 dNotIn (gX 3) (b2 dIx (gX 0) (gX 2)))))) (E := fW (gV 3)) rfl nd (if_seq (ev 1)) (blkOk_by (own := [("other", 3)]) (by kernel_rfl)) (fun _ _ _ _ _ => (gw_sub (gw_name (i := 3) nd rfl (by first | exact Or.inl rfl | exact Or.inr rfl)))) (fun _ _ _ _ _ => (ts_one (TWW.t (tf_or (tf_cmp og_ge (xv 3) (xv 2) (nomark _)) (tf_or1 (tf_cmp (og_notIn rm) (xv 3) (EW.x (ef_ix (xv 0) (xv 2))) (by rfl))))))) (fun _ _ _ _ _ => (ev 3)) s)))) xa_nil)))))

def B_story_in : Rho → Option Fl := (sSeq (sSetO 3 (aCons (gV 1) aNil))
  (sSeq (sFor (tgN 4) (fItems (gV 2)) (sApp 3 (aOf g_call_in (aCons (gV 0) (aCons (b2 dIx (gX 3) (vNeg (gC (.int 1)))) (aCons (gV 4) aNil))))))
  (sRet (gX 3))))
def g_story_in : GA := runF 5 B_story_in

abbrev s_story_in : Stmt := topS 30
theorem sc_story_in : FnScope ["web", "standing", "calls", "found", "person"] ["web", "standing", "calls"] (defScope s_story_in) := ⟨rfl, rfl, rfl, by decide +kernel, rfl, by decide +kernel, by decide +kernel⟩
theorem ok_story_in (bi : Bi mg) (c_call_in : DG P w K mg base "call_in" 1 3 g_call_in) (Fd : ∃ f fd, FunD K "story_in" "story_in" (defArgs s_story_in) (defBody s_story_in) (defScope s_story_in) [] [] f fd ∧ mg "story_in" = some (.ref f)) : DG P w K mg base "story_in" 2 3 g_story_in := by
  obtain ⟨f, fd, Fd, m⟩ := Fd
  refine ⟨f, fd, ["web", "standing", "calls"], fn_pureF (k := 1) (N := ["web", "standing", "calls", "found", "person"]) (g := B_story_in) Fd sc_story_in rfl (by decide) (fun cdv A outer s H E hr => ?_), m, Fd.kp, Fd.bindsN fun _ _ _ _ _ _ us hl => match us, hl with | [_, _, _], _ => by kernel_rfl⟩
  have rm := rm_of (X := (cxOf CX0 P w K mg base ["web", "standing", "calls", "found", "person"] "story_in" (defScope s_story_in) f cdv A outer s H E).nox) hr
  have nd := sc_story_in.nd
  exact (sfs_cons (NSF.so (ns_set (i := 3) nd rfl (by first | exact Or.inl rfl | exact Or.inr rfl) (nf_lst (ea_cons (ev 1) ea_nil) (lenA_cons lenA_nil))))
    (sfs_cons (sf_for PassesOwn.never rfl (if_seq (ev 2)) (gw_name (i := 4) nd rfl (by first | exact Or.inl rfl | exact Or.inr rfl)) (sws_one (sf_app (i := 3) rfl (by first | exact Or.inl rfl | exact Or.inr (Or.inl rfl) | exact Or.inr (Or.inr rfl)) (ef_call (c_call_in.cal hr) (ea_cons (ev 0) (ea_cons (ef_ix (xv 3) (EW.x (ef_neg ef_int))) (ea_cons (ev 4) ea_nil))) (lenA_cons (lenA_cons (lenA_cons lenA_nil))) rfl))))
    (sws_one (sf_retx (xv 3)))))

def B_may_call : Rho → Option Fl := (sSeq (sSetO 3 aNil)
  (sSeq (sFor (tgN 4) (fItems (gV 1)) (sIf (bNot (bB (aOf gAny (aCons (fun ρ => ((cLc [5] (tgN 5) fYes (vAnd (b2 dLt (gX 5) (gX 4)) (b2 dIn (gX 5) (gX 2))) (fItems (b2 dIx (gX 0) (gX 4)))) ρ).map PyData.list) aNil)))) (sApp 3 (gV 4)) sNil))
  (sRet (aOf gTup (aCons (gX 3) aNil)))))
def g_may_call : GA := runF 6 B_may_call

abbrev s_may_call : Stmt := topS 32
theorem sc_may_call : FnScope ["web", "standing", "goal", "found", "person", "other"] ["web", "standing", "goal"] (defScope s_may_call) := ⟨rfl, rfl, rfl, by decide +kernel, rfl, by decide +kernel, by decide +kernel⟩
theorem ok_may_call (bi : Bi mg) (Fd : ∃ f fd, FunD K "may_call" "may_call" (defArgs s_may_call) (defBody s_may_call) (defScope s_may_call) [] [] f fd ∧ mg "may_call" = some (.ref f)) : DG P w K mg base "may_call" 1 3 g_may_call := by
  obtain ⟨f, fd, Fd, m⟩ := Fd
  refine ⟨f, fd, ["web", "standing", "goal"], fn_pureF (k := 0) (N := ["web", "standing", "goal", "found", "person", "other"]) (g := B_may_call) Fd sc_may_call rfl (by decide) (fun cdv A outer s H E hr => ?_), m, Fd.kp, Fd.bindsN fun _ _ _ _ _ _ us hl => match us, hl with | [_, _, _], _ => by kernel_rfl⟩
  have rm := rm_of (X := (cxOf CX0 P w K mg base ["web", "standing", "goal", "found", "person", "other"] "may_call" (defScope s_may_call) f cdv A outer s H E).nox) hr
  have nd := sc_may_call.nd
  exact (sfs_cons (NSF.so (ns_set (i := 3) nd rfl (by first | exact Or.inl rfl | exact Or.inr rfl) (nf_lst ea_nil lenA_nil)))
    (sfs_cons (sf_for PassesOwn.never rfl (if_seq (ev 1)) (gw_name (i := 4) nd rfl (by first | exact Or.inl rfl | exact Or.inr rfl)) (sws_one (sf_if (tf_not (tf_val (c_any bi (xa_cons (EW.x (NF.e (NW.lc (nw_lc (own := [("other", 5)]) (g := (tgN 5)) (T := fW fYes) (E := fW (vAnd (b2 dLt (gX 5) (gX 4)) (b2 dIn (gX 5) (gX 2)))) rfl nd (if_seq (ef_ix (xv 0) (xv 4))) (blkOk_by (own := [("other", 5)]) (by kernel_rfl)) (fun _ _ _ _ _ => (gw_sub (gw_name (i := 5) nd rfl (by first | exact Or.inl rfl | exact Or.inr rfl)))) (fun _ _ _ _ _ => ts_nil) (fun _ _ _ _ _ => (ef_and (ef_cmp og_lt (xv 5) (xv 4) (nomark _)) (ef_one (ef_cmp (og_in rm) (xv 5) (xv 2) (by rfl))))) s)))) xa_nil)))) (sws_one (sf_app (i := 3) rfl (by first | exact Or.inl rfl | exact Or.inr (Or.inl rfl) | exact Or.inr (Or.inr rfl)) (ev 4))) sfs_nil)))
    (sws_one (sf_ret (c_tuple bi (xa_cons (xv 3) xa_nil))))))

def B_fits : Rho → Option Fl := (sSeq (sIf (bNot (bB (aOf gAll (aCons (fun ρ => ((cLc [5] (tgN 5) fYes (b2 dIn (gX 5) (gX 1)) (fItems (gV 2))) ρ).map PyData.list) aNil)))) (sRet (gC (.bool false))) sNil)
  (sSeq (sSet 3 (aOf g_may_call (aCons (gV 0) (aCons (gV 1) (aCons (gV 2) aNil)))))
  (sSeq (sSetL 4 (cLc [5] (tgN 5) (bB (b2 dNotIn (gX 5) (gX 2))) (gV 5) (fItems (gV 1))))
  (sRet (aOf gAll (aCons (fun ρ => ((cLc [5] (tgN 5) fYes (aOf gAny (aCons (fun ρ => ((cLc [6] (tgN 6) fYes (b2 dIn (gX 6) (gX 3)) (fItems (aOf g_taller_in (aCons (gV 0) (aCons (gV 5) aNil))))) ρ).map PyData.list) aNil)) (fItems (gV 4))) ρ).map PyData.list) aNil))))))
def g_fits : GA := runF 7 B_fits

abbrev s_fits : Stmt := topS 33
theorem sc_fits : FnScope ["web", "standing", "goal", "free", "gone", "person", "other"] ["web", "standing", "goal"] (defScope s_fits) := ⟨rfl, rfl, rfl, by decide +kernel, rfl, by decide +kernel, by decide +kernel⟩
theorem ok_fits (bi : Bi mg) (c_may_call : DG P w K mg base "may_call" 1 3 g_may_call) (c_taller_in : DG P w K mg base "taller_in" 1 2 g_taller_in) (Fd : ∃ f fd, FunD K "fits" "fits" (defArgs s_fits) (defBody s_fits) (defScope s_fits) [] [] f fd ∧ mg "fits" = some (.ref f)) : DG P w K mg base "fits" 2 3 g_fits := by
  obtain ⟨f, fd, Fd, m⟩ := Fd
  refine ⟨f, fd, ["web", "standing", "goal"], fn_pureF (k := 1) (N := ["web", "standing", "goal", "free", "gone", "person", "other"]) (g := B_fits) Fd sc_fits rfl (by decide) (fun cdv A outer s H E hr => ?_), m, Fd.kp, Fd.bindsN fun _ _ _ _ _ _ us hl => match us, hl with | [_, _, _], _ => by kernel_rfl⟩
  have rm := rm_of (X := (cxOf CX0 P w K mg base ["web", "standing", "goal", "free", "gone", "person", "other"] "fits" (defScope s_fits) f cdv A outer s H E).nox) hr
  have nd := sc_fits.nd
  exact (sfs_cons (sf_if (tf_not (tf_val (c_all bi (xa_cons (EW.x (NF.e (NW.lc (nw_lc (own := [("person", 5)]) (g := (tgN 5)) (T := fW fYes) (E := fW (b2 dIn (gX 5) (gX 1))) rfl nd (if_seq (ev 2)) (blkOk_by (own := [("person", 5)]) (by kernel_rfl)) (fun _ _ _ _ _ => (gw_sub (gw_name (i := 5) nd rfl (by first | exact Or.inl rfl | exact Or.inr rfl)))) (fun _ _ _ _ _ => ts_nil) (fun _ _ _ _ _ => (ef_cmp (og_in rm) (xv 5) (xv 1) (by rfl))) s)))) xa_nil)))) (sws_one (sf_ret ef_bl)) sfs_nil)
    (sfs_cons (sf_set (i := 3) nd rfl (by first | exact Or.inl rfl | exact Or.inr rfl) (ef_call (c_may_call.cal hr) (ea_cons (ev 0) (ea_cons (ev 1) (ea_cons (ev 2) ea_nil))) (lenA_cons (lenA_cons (lenA_cons lenA_nil))) rfl))
    (sfs_cons (NSF.sl (NS.lc (ns_lc (i := 4) (own := [("person", 5)]) (g := (tgN 5)) (T := fW (bB (b2 dNotIn (gX 5) (gX 2)))) (E := fW (gV 5)) rfl nd rfl rfl (if_seq (ev 1)) (blkOk_by (own := [("person", 5)]) (by kernel_rfl)) (fun _ _ _ _ _ => (gw_sub (gw_name (i := 5) nd rfl (by first | exact Or.inl rfl | exact Or.inr rfl)))) (fun _ _ _ _ _ => (ts_one (tf_cmp (og_notIn rm) (xv 5) (xv 2) (by rfl)))) (fun _ _ _ _ _ => (ev 5)) s (sw_true rfl rfl rfl (by decide +kernel)))))
    (sws_one (sf_ret (c_all bi (xa_cons (EW.x (NF.e (NW.lc (nw_lc (own := [("person", 5)]) (g := (tgN 5)) (T := fW fYes) (E := fW (aOf gAny (aCons (fun ρ => ((cLc [6] (tgN 6) fYes (b2 dIn (gX 6) (gX 3)) (fItems (aOf g_taller_in (aCons (gV 0) (aCons (gV 5) aNil))))) ρ).map PyData.list) aNil))) rfl nd (if_seq (ev 4)) (blkOk_by (own := [("person", 5)]) (by kernel_rfl)) (fun _ _ _ _ _ => (gw_sub (gw_name (i := 5) nd rfl (by first | exact Or.inl rfl | exact Or.inr rfl)))) (fun _ _ _ _ _ => ts_nil) (fun _ _ _ _ _ => (c_any bi (xa_cons (EW.x (NF.e (NW.lc (nw_lc (own := [("other", 6)]) (g := (tgN 6)) (T := fW fYes) (E := fW (b2 dIn (gX 6) (gX 3))) rfl nd (if_seq (ef_call (c_taller_in.cal hr) (ea_cons (ev 0) (ea_cons (ev 5) ea_nil)) (lenA_cons (lenA_cons lenA_nil)) rfl)) (blkOk_by (own := [("other", 6)]) (by kernel_rfl)) (fun _ _ _ _ _ => (gw_sub (gw_name (i := 6) nd rfl (by first | exact Or.inl rfl | exact Or.inr rfl)))) (fun _ _ _ _ _ => ts_nil) (fun _ _ _ _ _ => (ef_cmp (og_in rm) (xv 6) (xv 3) (by rfl))) s)))) xa_nil))) s)))) xa_nil)))))))

def B_can_come : Rho → Option Fl := (sSeq (sDrop (aOf g_need_two (aCons (gV 0) (aCons (gV 1) (aCons (gV 2) aNil)))))
  (sRet (aOf g_fits (aCons (gV 0) (aCons (gV 1) (aCons (gV 2) aNil))))))
def g_can_come : GA := runF 3 B_can_come

abbrev s_can_come : Stmt := topS 34
theorem sc_can_come : FnScope ["web", "standing", "goal"] ["web", "standing", "goal"] (defScope s_can_come) := ⟨rfl, rfl, rfl, by decide +kernel, rfl, by decide +kernel, by decide +kernel⟩
theorem ok_can_come (bi : Bi mg) (c_need_two : DG P w K mg base "need_two" 5 3 g_need_two) (c_fits : DG P w K mg base "fits" 2 3 g_fits) (Fd : ∃ f fd, FunD K "can_come" "can_come" (defArgs s_can_come) (defBody s_can_come) (defScope s_can_come) [] [] f fd ∧ mg "can_come" = some (.ref f)) : DG P w K mg base "can_come" 6 3 g_can_come := by
  obtain ⟨f, fd, Fd, m⟩ := Fd
  refine ⟨f, fd, ["web", "standing", "goal"], fn_pureF (k := 5) (N := ["web", "standing", "goal"]) (g := B_can_come) Fd sc_can_come rfl (by decide) (fun cdv A outer s H E hr => ?_), m, Fd.kp, Fd.bindsN fun _ _ _ _ _ _ us hl => match us, hl with | [_, _, _], _ => by kernel_rfl⟩
  have rm := rm_of (X := (cxOf CX0 P w K mg base ["web", "standing", "goal"] "can_come" (defScope s_can_come) f cdv A outer s H E).nox) hr
  have nd := sc_can_come.nd
  exact (sfs_cons (sf_expr (ef_call (c_need_two.cal hr) (ea_cons (ev 0) (ea_cons (ev 1) (ea_cons (ev 2) ea_nil))) (lenA_cons (lenA_cons (lenA_cons lenA_nil))) rfl))
    (sws_one (sf_ret (ef_call (c_fits.cal hr) (ea_cons (ev 0) (ea_cons (ev 1) (ea_cons (ev 2) ea_nil))) (lenA_cons (lenA_cons (lenA_cons lenA_nil))) rfl))))

def B_ends_in : Rho → Option Fl := (sRet (fun ρ => ((aOf gSrt (aCons (fun ρ => ((cLc [2] (tgN 2) (bAnd (bB (aOf g_apart_in (aCons (gV 0) (aCons (gV 2) aNil)))) (bB (aOf g_fits (aCons (gV 0) (aCons (gV 1) (aCons (gV 2) aNil)))))) (gV 2) (fItems (aOf g_choices (aCons (gV 1) aNil)))) ρ).map PyData.list) aNil)) ρ).map PyData.list))
def g_ends_in : GA := runF 3 B_ends_in

abbrev s_ends_in : Stmt := topS 36
theorem sc_ends_in : FnScope ["web", "standing", "row"] ["web", "standing"] (defScope s_ends_in) := ⟨rfl, rfl, rfl, by decide +kernel, rfl, by decide +kernel, by decide +kernel⟩
theorem ok_ends_in (bi : Bi mg) (c_choices : DG P w K mg base "choices" 1 1 g_choices) (c_apart_in : DG P w K mg base "apart_in" 1 2 g_apart_in) (c_fits : DG P w K mg base "fits" 2 3 g_fits) (Fd : ∃ f fd, FunD K "ends_in" "ends_in" (defArgs s_ends_in) (defBody s_ends_in) (defScope s_ends_in) [] [] f fd ∧ mg "ends_in" = some (.ref f)) : DG P w K mg base "ends_in" 3 2 g_ends_in := by
  obtain ⟨f, fd, Fd, m⟩ := Fd
  refine ⟨f, fd, ["web", "standing"], fn_pureF (k := 2) (N := ["web", "standing", "row"]) (g := B_ends_in) Fd sc_ends_in rfl (by decide) (fun cdv A outer s H E hr => ?_), m, Fd.kp, Fd.bindsN fun _ _ _ _ _ _ us hl => match us, hl with | [_, _], _ => by kernel_rfl⟩
  have rm := rm_of (X := (cxOf CX0 P w K mg base ["web", "standing", "row"] "ends_in" (defScope s_ends_in) f cdv A outer s H E).nox) hr
  have nd := sc_ends_in.nd
  exact (sws_one (sf_ret (NF.e (n_sorted bi rm (xa_cons (EW.x (NF.e (NW.lc (nw_lc (own := [("row", 2)]) (g := (tgN 2)) (T := fW (bAnd (bB (aOf g_apart_in (aCons (gV 0) (aCons (gV 2) aNil)))) (bB (aOf g_fits (aCons (gV 0) (aCons (gV 1) (aCons (gV 2) aNil))))))) (E := fW (gV 2)) rfl nd (if_seq (ef_call (c_choices.cal hr) (ea_cons (ev 1) ea_nil) (lenA_cons lenA_nil) rfl)) (blkOk_by (own := [("row", 2)]) (by kernel_rfl)) (fun _ _ _ _ _ => (gw_sub (gw_name (i := 2) nd rfl (by first | exact Or.inl rfl | exact Or.inr rfl)))) (fun _ _ _ _ _ => (ts_one (TWW.t (tf_and (tf_val (ef_call (c_apart_in.cal hr) (ea_cons (ev 0) (ea_cons (ev 2) ea_nil)) (lenA_cons (lenA_cons lenA_nil)) rfl)) (tf_and1 (tf_val (ef_call (c_fits.cal hr) (ea_cons (ev 0) (ea_cons (ev 1) (ea_cons (ev 2) ea_nil))) (lenA_cons (lenA_cons (lenA_cons lenA_nil))) rfl))))))) (fun _ _ _ _ _ => (ev 2)) s)))) xa_nil)))))

def B_ends : Rho → Option Fl := (sSeq (sDrop (aOf g_need_state (aCons (gV 0) (aCons (gV 1) aNil))))
  (sRet (aOf g_ends_in (aCons (gV 0) (aCons (gV 1) aNil)))))
def g_ends : GA := runF 2 B_ends

abbrev s_ends : Stmt := topS 37
theorem sc_ends : FnScope ["web", "standing"] ["web", "standing"] (defScope s_ends) := ⟨rfl, rfl, rfl, by decide +kernel, rfl, by decide +kernel, by decide +kernel⟩
theorem ok_ends (bi : Bi mg) (c_need_state : DG P w K mg base "need_state" 4 2 g_need_state) (c_ends_in : DG P w K mg base "ends_in" 3 2 g_ends_in) (Fd : ∃ f fd, FunD K "ends" "ends" (defArgs s_ends) (defBody s_ends) (defScope s_ends) [] [] f fd ∧ mg "ends" = some (.ref f)) : DG P w K mg base "ends" 5 2 g_ends := by
  obtain ⟨f, fd, Fd, m⟩ := Fd
  refine ⟨f, fd, ["web", "standing"], fn_pureF (k := 4) (N := ["web", "standing"]) (g := B_ends) Fd sc_ends rfl (by decide) (fun cdv A outer s H E hr => ?_), m, Fd.kp, Fd.bindsN fun _ _ _ _ _ _ us hl => match us, hl with | [_, _], _ => by kernel_rfl⟩
  have rm := rm_of (X := (cxOf CX0 P w K mg base ["web", "standing"] "ends" (defScope s_ends) f cdv A outer s H E).nox) hr
  have nd := sc_ends.nd
  exact (sfs_cons (sf_expr (ef_call (c_need_state.cal hr) (ea_cons (ev 0) (ea_cons (ev 1) ea_nil)) (lenA_cons (lenA_cons lenA_nil)) rfl))
    (sws_one (sf_ret (ef_call (c_ends_in.cal hr) (ea_cons (ev 0) (ea_cons (ev 1) ea_nil)) (lenA_cons (lenA_cons lenA_nil)) rfl))))

def B_greedy_in : Rho → Option Fl := (sRet (b2 dIx (aOf g_story_in (aCons (gV 0) (aCons (gV 1) (aCons (vRev (gX 1)) aNil)))) (vNeg (gC (.int 1)))))
def g_greedy_in : GA := runF 2 B_greedy_in

abbrev s_greedy_in : Stmt := topS 38
theorem sc_greedy_in : FnScope ["web", "standing"] ["web", "standing"] (defScope s_greedy_in) := ⟨rfl, rfl, rfl, by decide +kernel, rfl, by decide +kernel, by decide +kernel⟩
theorem ok_greedy_in (bi : Bi mg) (c_story_in : DG P w K mg base "story_in" 2 3 g_story_in) (Fd : ∃ f fd, FunD K "greedy_in" "greedy_in" (defArgs s_greedy_in) (defBody s_greedy_in) (defScope s_greedy_in) [] [] f fd ∧ mg "greedy_in" = some (.ref f)) : DG P w K mg base "greedy_in" 3 2 g_greedy_in := by
  obtain ⟨f, fd, Fd, m⟩ := Fd
  refine ⟨f, fd, ["web", "standing"], fn_pureF (k := 2) (N := ["web", "standing"]) (g := B_greedy_in) Fd sc_greedy_in rfl (by decide) (fun cdv A outer s H E hr => ?_), m, Fd.kp, Fd.bindsN fun _ _ _ _ _ _ us hl => match us, hl with | [_, _], _ => by kernel_rfl⟩
  have rm := rm_of (X := (cxOf CX0 P w K mg base ["web", "standing"] "greedy_in" (defScope s_greedy_in) f cdv A outer s H E).nox) hr
  have nd := sc_greedy_in.nd
  exact (sws_one (sf_ret (ef_ix (EW.x (ef_call (c_story_in.cal hr) (ea_cons (ev 0) (ea_cons (ev 1) (ea_cons (ef_rev (xv 1)) ea_nil))) (lenA_cons (lenA_cons (lenA_cons lenA_nil))) rfl)) (EW.x (ef_neg ef_int)))))

def B_greedy_end : Rho → Option Fl := (sSeq (sDrop (aOf g_need_state (aCons (gV 0) (aCons (gV 1) aNil))))
  (sRet (aOf g_greedy_in (aCons (gV 0) (aCons (gV 1) aNil)))))
def g_greedy_end : GA := runF 2 B_greedy_end

abbrev s_greedy_end : Stmt := topS 39
theorem sc_greedy_end : FnScope ["web", "standing"] ["web", "standing"] (defScope s_greedy_end) := ⟨rfl, rfl, rfl, by decide +kernel, rfl, by decide +kernel, by decide +kernel⟩
theorem ok_greedy_end (bi : Bi mg) (c_need_state : DG P w K mg base "need_state" 4 2 g_need_state) (c_greedy_in : DG P w K mg base "greedy_in" 3 2 g_greedy_in) (Fd : ∃ f fd, FunD K "greedy_end" "greedy_end" (defArgs s_greedy_end) (defBody s_greedy_end) (defScope s_greedy_end) [] [] f fd ∧ mg "greedy_end" = some (.ref f)) : DG P w K mg base "greedy_end" 5 2 g_greedy_end := by
  obtain ⟨f, fd, Fd, m⟩ := Fd
  refine ⟨f, fd, ["web", "standing"], fn_pureF (k := 4) (N := ["web", "standing"]) (g := B_greedy_end) Fd sc_greedy_end rfl (by decide) (fun cdv A outer s H E hr => ?_), m, Fd.kp, Fd.bindsN fun _ _ _ _ _ _ us hl => match us, hl with | [_, _], _ => by kernel_rfl⟩
  have rm := rm_of (X := (cxOf CX0 P w K mg base ["web", "standing"] "greedy_end" (defScope s_greedy_end) f cdv A outer s H E).nox) hr
  have nd := sc_greedy_end.nd
  exact (sfs_cons (sf_expr (ef_call (c_need_state.cal hr) (ea_cons (ev 0) (ea_cons (ev 1) ea_nil)) (lenA_cons (lenA_cons lenA_nil)) rfl))
    (sws_one (sf_ret (ef_call (c_greedy_in.cal hr) (ea_cons (ev 0) (ea_cons (ev 1) ea_nil)) (lenA_cons (lenA_cons lenA_nil)) rfl))))

def B_who_can_stand : Rho → Option Fl := (sSeq (sDrop (aOf g_need_state (aCons (gV 0) (aCons (gV 1) aNil))))
  (sSeq (sSet 2 (aOf g_ends_in (aCons (gV 0) (aCons (gV 1) aNil))))
  (sRet (aOf gTup (aCons (fun ρ => ((cLc [3] (tgN 3) (bB (aOf gAny (aCons (fun ρ => ((cLc [4] (tgN 4) fYes (b2 dIn (gX 3) (gX 4)) (fItems (gV 2))) ρ).map PyData.list) aNil))) (gV 3) (fItems (gV 1))) ρ).map PyData.list) aNil)))))
def g_who_can_stand : GA := runF 5 B_who_can_stand

abbrev s_who_can_stand : Stmt := topS 40
theorem sc_who_can_stand : FnScope ["web", "standing", "some", "person", "end"] ["web", "standing"] (defScope s_who_can_stand) := ⟨rfl, rfl, rfl, by decide +kernel, rfl, by decide +kernel, by decide +kernel⟩
theorem ok_who_can_stand (bi : Bi mg) (c_need_state : DG P w K mg base "need_state" 4 2 g_need_state) (c_ends_in : DG P w K mg base "ends_in" 3 2 g_ends_in) (Fd : ∃ f fd, FunD K "who_can_stand" "who_can_stand" (defArgs s_who_can_stand) (defBody s_who_can_stand) (defScope s_who_can_stand) [] [] f fd ∧ mg "who_can_stand" = some (.ref f)) : DG P w K mg base "who_can_stand" 5 2 g_who_can_stand := by
  obtain ⟨f, fd, Fd, m⟩ := Fd
  refine ⟨f, fd, ["web", "standing"], fn_pureF (k := 4) (N := ["web", "standing", "some", "person", "end"]) (g := B_who_can_stand) Fd sc_who_can_stand rfl (by decide) (fun cdv A outer s H E hr => ?_), m, Fd.kp, Fd.bindsN fun _ _ _ _ _ _ us hl => match us, hl with | [_, _], _ => by kernel_rfl⟩
  have rm := rm_of (X := (cxOf CX0 P w K mg base ["web", "standing", "some", "person", "end"] "who_can_stand" (defScope s_who_can_stand) f cdv A outer s H E).nox) hr
  have nd := sc_who_can_stand.nd
  exact (sfs_cons (sf_expr (ef_call (c_need_state.cal hr) (ea_cons (ev 0) (ea_cons (ev 1) ea_nil)) (lenA_cons (lenA_cons lenA_nil)) rfl))
    (sfs_cons (sf_set (i := 2) nd rfl (by first | exact Or.inl rfl | exact Or.inr rfl) (ef_call (c_ends_in.cal hr) (ea_cons (ev 0) (ea_cons (ev 1) ea_nil)) (lenA_cons (lenA_cons lenA_nil)) rfl))
    (sws_one (sf_ret (c_tuple bi (xa_cons (EW.x (NF.e (NW.lc (nw_lc (own := [("person", 3)]) (g := (tgN 3)) (T := fW (bB (aOf gAny (aCons (fun ρ => ((cLc [4] (tgN 4) fYes (b2 dIn (gX 3) (gX 4)) (fItems (gV 2))) ρ).map PyData.list) aNil)))) (E := fW (gV 3)) rfl nd (if_seq (ev 1)) (blkOk_by (own := [("person", 3)]) (by kernel_rfl)) (fun _ _ _ _ _ => (gw_sub (gw_name (i := 3) nd rfl (by first | exact Or.inl rfl | exact Or.inr rfl)))) (fun _ _ _ _ _ => (ts_one (tf_val (c_any bi (xa_cons (EW.x (NF.e (NW.lc (nw_lc (own := [("end", 4)]) (g := (tgN 4)) (T := fW fYes) (E := fW (b2 dIn (gX 3) (gX 4))) rfl nd (if_seq (ev 2)) (blkOk_by (own := [("end", 4)]) (by kernel_rfl)) (fun _ _ _ _ _ => (gw_sub (gw_name (i := 4) nd rfl (by first | exact Or.inl rfl | exact Or.inr rfl)))) (fun _ _ _ _ _ => ts_nil) (fun _ _ _ _ _ => (ef_cmp (og_in rm) (xv 3) (xv 4) (by rfl))) s)))) xa_nil))))) (fun _ _ _ _ _ => (ev 3)) s)))) xa_nil))))))

def B_can_stand_together : Rho → Option Fl := (sSeq (sDrop (aOf g_need_state (aCons (gV 0) (aCons (gV 1) aNil))))
  (sSeq (sDrop (aOf g_need_people (aCons (gV 0) (aCons (gV 2) aNil))))
  (sRet (aOf gAny (aCons (fun ρ => ((cLc [3] (tgN 3) fYes (aOf gAll (aCons (fun ρ => ((cLc [4] (tgN 4) fYes (b2 dIn (gX 4) (gX 3)) (fItems (gV 2))) ρ).map PyData.list) aNil)) (fItems (aOf g_ends_in (aCons (gV 0) (aCons (gV 1) aNil))))) ρ).map PyData.list) aNil)))))
def g_can_stand_together : GA := runF 5 B_can_stand_together

abbrev s_can_stand_together : Stmt := topS 41
theorem sc_can_stand_together : FnScope ["web", "standing", "people", "end", "person"] ["web", "standing", "people"] (defScope s_can_stand_together) := ⟨rfl, rfl, rfl, by decide +kernel, rfl, by decide +kernel, by decide +kernel⟩
theorem ok_can_stand_together (bi : Bi mg) (c_need_state : DG P w K mg base "need_state" 4 2 g_need_state) (c_need_people : DG P w K mg base "need_people" 4 2 g_need_people) (c_ends_in : DG P w K mg base "ends_in" 3 2 g_ends_in) (Fd : ∃ f fd, FunD K "can_stand_together" "can_stand_together" (defArgs s_can_stand_together) (defBody s_can_stand_together) (defScope s_can_stand_together) [] [] f fd ∧ mg "can_stand_together" = some (.ref f)) : DG P w K mg base "can_stand_together" 5 3 g_can_stand_together := by
  obtain ⟨f, fd, Fd, m⟩ := Fd
  refine ⟨f, fd, ["web", "standing", "people"], fn_pureF (k := 4) (N := ["web", "standing", "people", "end", "person"]) (g := B_can_stand_together) Fd sc_can_stand_together rfl (by decide) (fun cdv A outer s H E hr => ?_), m, Fd.kp, Fd.bindsN fun _ _ _ _ _ _ us hl => match us, hl with | [_, _, _], _ => by kernel_rfl⟩
  have rm := rm_of (X := (cxOf CX0 P w K mg base ["web", "standing", "people", "end", "person"] "can_stand_together" (defScope s_can_stand_together) f cdv A outer s H E).nox) hr
  have nd := sc_can_stand_together.nd
  exact (sfs_cons (sf_expr (ef_call (c_need_state.cal hr) (ea_cons (ev 0) (ea_cons (ev 1) ea_nil)) (lenA_cons (lenA_cons lenA_nil)) rfl))
    (sfs_cons (sf_expr (ef_call (c_need_people.cal hr) (ea_cons (ev 0) (ea_cons (ev 2) ea_nil)) (lenA_cons (lenA_cons lenA_nil)) rfl))
    (sws_one (sf_ret (c_any bi (xa_cons (EW.x (NF.e (NW.lc (nw_lc (own := [("end", 3)]) (g := (tgN 3)) (T := fW fYes) (E := fW (aOf gAll (aCons (fun ρ => ((cLc [4] (tgN 4) fYes (b2 dIn (gX 4) (gX 3)) (fItems (gV 2))) ρ).map PyData.list) aNil))) rfl nd (if_seq (ef_call (c_ends_in.cal hr) (ea_cons (ev 0) (ea_cons (ev 1) ea_nil)) (lenA_cons (lenA_cons lenA_nil)) rfl)) (blkOk_by (own := [("end", 3)]) (by kernel_rfl)) (fun _ _ _ _ _ => (gw_sub (gw_name (i := 3) nd rfl (by first | exact Or.inl rfl | exact Or.inr rfl)))) (fun _ _ _ _ _ => ts_nil) (fun _ _ _ _ _ => (c_all bi (xa_cons (EW.x (NF.e (NW.lc (nw_lc (own := [("person", 4)]) (g := (tgN 4)) (T := fW fYes) (E := fW (b2 dIn (gX 4) (gX 3))) rfl nd (if_seq (ev 2)) (blkOk_by (own := [("person", 4)]) (by kernel_rfl)) (fun _ _ _ _ _ => (gw_sub (gw_name (i := 4) nd rfl (by first | exact Or.inl rfl | exact Or.inr rfl)))) (fun _ _ _ _ _ => ts_nil) (fun _ _ _ _ _ => (ef_cmp (og_in rm) (xv 4) (xv 3) (by rfl))) s)))) xa_nil))) s)))) xa_nil))))))

def B_apart_sets : Rho → Option Fl := (sSeq (sDrop (aOf g_need_state (aCons (gV 0) (aCons (gV 1) aNil))))
  (sRet (fun ρ => ((aOf gSrt (aCons (fun ρ => ((cLc [2] (tgN 2) (bB (aOf g_apart_in (aCons (gV 0) (aCons (gV 2) aNil)))) (gV 2) (fItems (aOf g_choices (aCons (gV 1) aNil)))) ρ).map PyData.list) aNil)) ρ).map PyData.list)))
def g_apart_sets : GA := runF 3 B_apart_sets

abbrev s_apart_sets : Stmt := topS 43
theorem sc_apart_sets : FnScope ["web", "standing", "row"] ["web", "standing"] (defScope s_apart_sets) := ⟨rfl, rfl, rfl, by decide +kernel, rfl, by decide +kernel, by decide +kernel⟩
theorem ok_apart_sets (bi : Bi mg) (c_need_state : DG P w K mg base "need_state" 4 2 g_need_state) (c_choices : DG P w K mg base "choices" 1 1 g_choices) (c_apart_in : DG P w K mg base "apart_in" 1 2 g_apart_in) (Fd : ∃ f fd, FunD K "apart_sets" "apart_sets" (defArgs s_apart_sets) (defBody s_apart_sets) (defScope s_apart_sets) [] [] f fd ∧ mg "apart_sets" = some (.ref f)) : DG P w K mg base "apart_sets" 5 2 g_apart_sets := by
  obtain ⟨f, fd, Fd, m⟩ := Fd
  refine ⟨f, fd, ["web", "standing"], fn_pureF (k := 4) (N := ["web", "standing", "row"]) (g := B_apart_sets) Fd sc_apart_sets rfl (by decide) (fun cdv A outer s H E hr => ?_), m, Fd.kp, Fd.bindsN fun _ _ _ _ _ _ us hl => match us, hl with | [_, _], _ => by kernel_rfl⟩
  have rm := rm_of (X := (cxOf CX0 P w K mg base ["web", "standing", "row"] "apart_sets" (defScope s_apart_sets) f cdv A outer s H E).nox) hr
  have nd := sc_apart_sets.nd
  exact (sfs_cons (sf_expr (ef_call (c_need_state.cal hr) (ea_cons (ev 0) (ea_cons (ev 1) ea_nil)) (lenA_cons (lenA_cons lenA_nil)) rfl))
    (sws_one (sf_ret (NF.e (n_sorted bi rm (xa_cons (EW.x (NF.e (NW.lc (nw_lc (own := [("row", 2)]) (g := (tgN 2)) (T := fW (bB (aOf g_apart_in (aCons (gV 0) (aCons (gV 2) aNil))))) (E := fW (gV 2)) rfl nd (if_seq (ef_call (c_choices.cal hr) (ea_cons (ev 1) ea_nil) (lenA_cons lenA_nil) rfl)) (blkOk_by (own := [("row", 2)]) (by kernel_rfl)) (fun _ _ _ _ _ => (gw_sub (gw_name (i := 2) nd rfl (by first | exact Or.inl rfl | exact Or.inr rfl)))) (fun _ _ _ _ _ => (ts_one (tf_val (ef_call (c_apart_in.cal hr) (ea_cons (ev 0) (ea_cons (ev 2) ea_nil)) (lenA_cons (lenA_cons lenA_nil)) rfl)))) (fun _ _ _ _ _ => (ev 2)) s)))) xa_nil))))))

def B_full_in : Rho → Option Fl := (sSeq (sSetO 2 aNil)
  (sSeq (sFor (tgN 3) (fItems (aOf g_choices (aCons (gV 1) aNil))) (sIf (bB (aOf g_apart_in (aCons (gV 0) (aCons (gV 3) aNil)))) (sSeq (sSetL 4 (cLc [5] (tgN 5) (bAnd (bB (b2 dNotIn (gX 5) (gX 3))) (bNot (bB (aOf gAny (aCons (fun ρ => ((cLc [6] (tgN 6) fYes (b2 dIn (gX 6) (gX 3)) (fItems (b2 dIx (gX 0) (gX 5)))) ρ).map PyData.list) aNil))))) (gV 5) (fItems (gV 1))))
  (sIf (bB (b2 dEq (gX 4) (fun ρ => (aNil ρ).map PyData.list))) (sApp 2 (gV 3)) sNil)) sNil))
  (sRet (fun ρ => ((aOf gSrt (aCons (gX 2) aNil)) ρ).map PyData.list))))
def g_full_in : GA := runF 7 B_full_in

abbrev s_full_in : Stmt := topS 44
theorem sc_full_in : FnScope ["web", "standing", "found", "row", "rest", "one", "other"] ["web", "standing"] (defScope s_full_in) := ⟨rfl, rfl, rfl, by decide +kernel, rfl, by decide +kernel, by decide +kernel⟩
theorem ok_full_in (bi : Bi mg) (c_choices : DG P w K mg base "choices" 1 1 g_choices) (c_apart_in : DG P w K mg base "apart_in" 1 2 g_apart_in) (Fd : ∃ f fd, FunD K "full_in" "full_in" (defArgs s_full_in) (defBody s_full_in) (defScope s_full_in) [] [] f fd ∧ mg "full_in" = some (.ref f)) : DG P w K mg base "full_in" 2 2 g_full_in := by
  obtain ⟨f, fd, Fd, m⟩ := Fd
  refine ⟨f, fd, ["web", "standing"], fn_pureF (k := 1) (N := ["web", "standing", "found", "row", "rest", "one", "other"]) (g := B_full_in) Fd sc_full_in rfl (by decide) (fun cdv A outer s H E hr => ?_), m, Fd.kp, Fd.bindsN fun _ _ _ _ _ _ us hl => match us, hl with | [_, _], _ => by kernel_rfl⟩
  have rm := rm_of (X := (cxOf CX0 P w K mg base ["web", "standing", "found", "row", "rest", "one", "other"] "full_in" (defScope s_full_in) f cdv A outer s H E).nox) hr
  have nd := sc_full_in.nd
  exact (sfs_cons (NSF.so (ns_set (i := 2) nd rfl (by first | exact Or.inl rfl | exact Or.inr rfl) (nf_lst ea_nil lenA_nil)))
    (sfs_cons (sf_for PassesOwn.never rfl (if_seq (ef_call (c_choices.cal hr) (ea_cons (ev 1) ea_nil) (lenA_cons lenA_nil) rfl)) (gw_name (i := 3) nd rfl (by first | exact Or.inl rfl | exact Or.inr rfl)) (sws_one (sf_if (tf_val (ef_call (c_apart_in.cal hr) (ea_cons (ev 0) (ea_cons (ev 3) ea_nil)) (lenA_cons (lenA_cons lenA_nil)) rfl)) (sfs_cons (NSF.sl (NS.lc (ns_lc (i := 4) (own := [("one", 5)]) (g := (tgN 5)) (T := fW (bAnd (bB (b2 dNotIn (gX 5) (gX 3))) (bNot (bB (aOf gAny (aCons (fun ρ => ((cLc [6] (tgN 6) fYes (b2 dIn (gX 6) (gX 3)) (fItems (b2 dIx (gX 0) (gX 5)))) ρ).map PyData.list) aNil)))))) (E := fW (gV 5)) rfl nd rfl rfl (if_seq (ev 1)) (blkOk_by (own := [("one", 5)]) (by kernel_rfl)) (fun _ _ _ _ _ => (gw_sub (gw_name (i := 5) nd rfl (by first | exact Or.inl rfl | exact Or.inr rfl)))) (fun _ _ _ _ _ => (ts_one (TWW.t (tf_and (tf_cmp (og_notIn rm) (xv 5) (xv 3) (by rfl)) (tf_and1 (tf_not (tf_val (c_any bi (xa_cons (EW.x (NF.e (NW.lc (nw_lc (own := [("other", 6)]) (g := (tgN 6)) (T := fW fYes) (E := fW (b2 dIn (gX 6) (gX 3))) rfl nd (if_seq (ef_ix (xv 0) (xv 5))) (blkOk_by (own := [("other", 6)]) (by kernel_rfl)) (fun _ _ _ _ _ => (gw_sub (gw_name (i := 6) nd rfl (by first | exact Or.inl rfl | exact Or.inr rfl)))) (fun _ _ _ _ _ => ts_nil) (fun _ _ _ _ _ => (ef_cmp (og_in rm) (xv 6) (xv 3) (by rfl))) s)))) xa_nil))))))))) (fun _ _ _ _ _ => (ev 5)) s (sw_true rfl rfl rfl (by decide +kernel)))))
    (sws_one (sf_if (tf_cmp (og_eq rm) (xv 4) (EW.x (NF.e (nf_lst ea_nil lenA_nil))) (nomark _)) (sws_one (sf_app (i := 2) rfl (by first | exact Or.inl rfl | exact Or.inr (Or.inl rfl) | exact Or.inr (Or.inr rfl)) (ev 3))) sfs_nil))) sfs_nil)))
    (sws_one (sf_ret (NF.e (n_sorted bi rm (xa_cons (xv 2) xa_nil)))))))

def B_full_apart_sets : Rho → Option Fl := (sSeq (sDrop (aOf g_need_state (aCons (gV 0) (aCons (gV 1) aNil))))
  (sRet (aOf g_full_in (aCons (gV 0) (aCons (gV 1) aNil)))))
def g_full_apart_sets : GA := runF 2 B_full_apart_sets

abbrev s_full_apart_sets : Stmt := topS 45
theorem sc_full_apart_sets : FnScope ["web", "standing"] ["web", "standing"] (defScope s_full_apart_sets) := ⟨rfl, rfl, rfl, by decide +kernel, rfl, by decide +kernel, by decide +kernel⟩
theorem ok_full_apart_sets (bi : Bi mg) (c_need_state : DG P w K mg base "need_state" 4 2 g_need_state) (c_full_in : DG P w K mg base "full_in" 2 2 g_full_in) (Fd : ∃ f fd, FunD K "full_apart_sets" "full_apart_sets" (defArgs s_full_apart_sets) (defBody s_full_apart_sets) (defScope s_full_apart_sets) [] [] f fd ∧ mg "full_apart_sets" = some (.ref f)) : DG P w K mg base "full_apart_sets" 5 2 g_full_apart_sets := by
  obtain ⟨f, fd, Fd, m⟩ := Fd
  refine ⟨f, fd, ["web", "standing"], fn_pureF (k := 4) (N := ["web", "standing"]) (g := B_full_apart_sets) Fd sc_full_apart_sets rfl (by decide) (fun cdv A outer s H E hr => ?_), m, Fd.kp, Fd.bindsN fun _ _ _ _ _ _ us hl => match us, hl with | [_, _], _ => by kernel_rfl⟩
  have rm := rm_of (X := (cxOf CX0 P w K mg base ["web", "standing"] "full_apart_sets" (defScope s_full_apart_sets) f cdv A outer s H E).nox) hr
  have nd := sc_full_apart_sets.nd
  exact (sfs_cons (sf_expr (ef_call (c_need_state.cal hr) (ea_cons (ev 0) (ea_cons (ev 1) ea_nil)) (lenA_cons (lenA_cons lenA_nil)) rfl))
    (sws_one (sf_ret (ef_call (c_full_in.cal hr) (ea_cons (ev 0) (ea_cons (ev 1) ea_nil)) (lenA_cons (lenA_cons lenA_nil)) rfl))))

def B_count_apart : Rho → Option Fl := (sSeq (sDrop (aOf g_need_state (aCons (gV 0) (aCons (gV 1) aNil))))
  (sSeq (sSet 2 (fun ρ => ((cLc [3] (tgN 3) (bB (aOf g_apart_in (aCons (gV 0) (aCons (gV 3) aNil)))) (aOf gLen (aCons (gX 3) aNil)) (fItems (aOf g_choices (aCons (gV 1) aNil)))) ρ).map PyData.list))
  (sRet (aOf gTup (aCons (fun ρ => ((cLc [4] (tgN 4) fYes (b2 dCountA (gX 2) (gV 4)) (aOf gRng1 (aCons (b2 dAdd (aOf gLen (aCons (gX 0) aNil)) (gC (.int 1))) aNil))) ρ).map PyData.list) aNil)))))
def g_count_apart : GA := runF 5 B_count_apart

abbrev s_count_apart : Stmt := topS 46
theorem sc_count_apart : FnScope ["web", "standing", "some", "row", "many"] ["web", "standing"] (defScope s_count_apart) := ⟨rfl, rfl, rfl, by decide +kernel, rfl, by decide +kernel, by decide +kernel⟩
theorem ok_count_apart (bi : Bi mg) (c_need_state : DG P w K mg base "need_state" 4 2 g_need_state) (c_choices : DG P w K mg base "choices" 1 1 g_choices) (c_apart_in : DG P w K mg base "apart_in" 1 2 g_apart_in) (Fd : ∃ f fd, FunD K "count_apart" "count_apart" (defArgs s_count_apart) (defBody s_count_apart) (defScope s_count_apart) [] [] f fd ∧ mg "count_apart" = some (.ref f)) : DG P w K mg base "count_apart" 5 2 g_count_apart := by
  obtain ⟨f, fd, Fd, m⟩ := Fd
  refine ⟨f, fd, ["web", "standing"], fn_pureF (k := 4) (N := ["web", "standing", "some", "row", "many"]) (g := B_count_apart) Fd sc_count_apart rfl (by decide) (fun cdv A outer s H E hr => ?_), m, Fd.kp, Fd.bindsN fun _ _ _ _ _ _ us hl => match us, hl with | [_, _], _ => by kernel_rfl⟩
  have rm := rm_of (X := (cxOf CX0 P w K mg base ["web", "standing", "some", "row", "many"] "count_apart" (defScope s_count_apart) f cdv A outer s H E).nox) hr
  have nd := sc_count_apart.nd
  exact (sfs_cons (sf_expr (ef_call (c_need_state.cal hr) (ea_cons (ev 0) (ea_cons (ev 1) ea_nil)) (lenA_cons (lenA_cons lenA_nil)) rfl))
    (sfs_cons (sf_set (i := 2) nd rfl (by first | exact Or.inl rfl | exact Or.inr rfl) (NF.e (NW.lc (nw_lc (own := [("row", 3)]) (g := (tgN 3)) (T := fW (bB (aOf g_apart_in (aCons (gV 0) (aCons (gV 3) aNil))))) (E := fW (aOf gLen (aCons (gX 3) aNil))) rfl nd (if_seq (ef_call (c_choices.cal hr) (ea_cons (ev 1) ea_nil) (lenA_cons lenA_nil) rfl)) (blkOk_by (own := [("row", 3)]) (by kernel_rfl)) (fun _ _ _ _ _ => (gw_sub (gw_name (i := 3) nd rfl (by first | exact Or.inl rfl | exact Or.inr rfl)))) (fun _ _ _ _ _ => (ts_one (tf_val (ef_call (c_apart_in.cal hr) (ea_cons (ev 0) (ea_cons (ev 3) ea_nil)) (lenA_cons (lenA_cons lenA_nil)) rfl)))) (fun _ _ _ _ _ => (c_len bi (xa_cons (xv 3) xa_nil))) s))))
    (sws_one (sf_ret (c_tuple bi (xa_cons (EW.x (NF.e (NW.lc (nw_lc (own := [("many", 4)]) (g := (tgN 4)) (T := fW fYes) (E := fW (b2 dCountA (gX 2) (gV 4))) rfl nd (if_rng1 rfl bi.range (xa_cons (EW.x (ef_bin og_add (EW.x (c_len bi (xa_cons (xv 0) xa_nil))) (EW.x ef_int))) xa_nil)) (blkOk_by (own := [("many", 4)]) (by kernel_rfl)) (fun _ _ _ _ _ => (gw_sub (gw_name (i := 4) nd rfl (by first | exact Or.inl rfl | exact Or.inr rfl)))) (fun _ _ _ _ _ => ts_nil) (fun _ _ _ _ _ => (ef_countA rm (xv 2) (ev 4))) s)))) xa_nil))))))

def B_most_apart : Rho → Option Fl := (sSeq (sDrop (aOf g_need_state (aCons (gV 0) (aCons (gV 1) aNil))))
  (sSeq (sAsg (tg2 2 3) (aOf gMin (aCons (fun ρ => ((cLc [3] (tgN 3) (bB (aOf g_apart_in (aCons (gV 0) (aCons (gV 3) aNil)))) (vTup (aCons (vNeg (aOf gLen (aCons (gX 3) aNil))) (aCons (gV 3) aNil))) (fItems (aOf g_choices (aCons (gV 1) aNil)))) ρ).map PyData.list) aNil)))
  (sRet (vTup (aCons (vNeg (gV 2)) (aCons (gV 3) aNil))))))
def g_most_apart : GA := runF 4 B_most_apart

abbrev s_most_apart : Stmt := topS 47
theorem sc_most_apart : FnScope ["web", "standing", "many", "row"] ["web", "standing"] (defScope s_most_apart) := ⟨rfl, rfl, rfl, by decide +kernel, rfl, by decide +kernel, by decide +kernel⟩
theorem ok_most_apart (bi : Bi mg) (c_need_state : DG P w K mg base "need_state" 4 2 g_need_state) (c_choices : DG P w K mg base "choices" 1 1 g_choices) (c_apart_in : DG P w K mg base "apart_in" 1 2 g_apart_in) (Fd : ∃ f fd, FunD K "most_apart" "most_apart" (defArgs s_most_apart) (defBody s_most_apart) (defScope s_most_apart) [] [] f fd ∧ mg "most_apart" = some (.ref f)) : DG P w K mg base "most_apart" 5 2 g_most_apart := by
  obtain ⟨f, fd, Fd, m⟩ := Fd
  refine ⟨f, fd, ["web", "standing"], fn_pureF (k := 4) (N := ["web", "standing", "many", "row"]) (g := B_most_apart) Fd sc_most_apart rfl (by decide) (fun cdv A outer s H E hr => ?_), m, Fd.kp, Fd.bindsN fun _ _ _ _ _ _ us hl => match us, hl with | [_, _], _ => by kernel_rfl⟩
  have rm := rm_of (X := (cxOf CX0 P w K mg base ["web", "standing", "many", "row"] "most_apart" (defScope s_most_apart) f cdv A outer s H E).nox) hr
  have nd := sc_most_apart.nd
  exact (sfs_cons (sf_expr (ef_call (c_need_state.cal hr) (ea_cons (ev 0) (ea_cons (ev 1) ea_nil)) (lenA_cons (lenA_cons lenA_nil)) rfl))
    (sfs_cons (sf_asg (c_min bi rm (xa_cons (EW.x (NF.e (NW.lc (nw_lc (own := [("row", 3)]) (g := (tgN 3)) (T := fW (bB (aOf g_apart_in (aCons (gV 0) (aCons (gV 3) aNil))))) (E := fW (vTup (aCons (vNeg (aOf gLen (aCons (gX 3) aNil))) (aCons (gV 3) aNil)))) rfl nd (if_seq (ef_call (c_choices.cal hr) (ea_cons (ev 1) ea_nil) (lenA_cons lenA_nil) rfl)) (blkOk_by (own := [("row", 3)]) (by kernel_rfl)) (fun _ _ _ _ _ => (gw_sub (gw_name (i := 3) nd rfl (by first | exact Or.inl rfl | exact Or.inr rfl)))) (fun _ _ _ _ _ => (ts_one (tf_val (ef_call (c_apart_in.cal hr) (ea_cons (ev 0) (ea_cons (ev 3) ea_nil)) (lenA_cons (lenA_cons lenA_nil)) rfl)))) (fun _ _ _ _ _ => (ef_tup (ea_cons (ef_neg (c_len bi (xa_cons (xv 3) xa_nil))) (ea_cons (ev 3) ea_nil)) (lenA_cons (lenA_cons lenA_nil)))) s)))) xa_nil)) (gw_two (i := 2) (j := 3) rfl nd rfl (by first | exact Or.inl rfl | exact Or.inr rfl) rfl (by first | exact Or.inl rfl | exact Or.inr rfl)))
    (sws_one (sf_ret (ef_tup (ea_cons (ef_neg (ev 2)) (ea_cons (ev 3) ea_nil)) (lenA_cons (lenA_cons lenA_nil)))))))

def B_full_ends : Rho → Option Fl := (sSeq (sDrop (aOf g_need_state (aCons (gV 0) (aCons (gV 1) aNil))))
  (sSeq (sSet 2 (aOf g_full_in (aCons (gV 0) (aCons (gV 1) aNil))))
  (sSeq (sSetO 3 aNil)
  (sSeq (sFor (tgN 4) (fItems (aOf g_ends_in (aCons (gV 0) (aCons (gV 1) aNil)))) (sIf (bB (b2 dIn (gX 4) (gX 2))) (sApp 3 (gV 4)) sNil))
  (sRet (gX 3))))))
def g_full_ends : GA := runF 5 B_full_ends

abbrev s_full_ends : Stmt := topS 48
theorem sc_full_ends : FnScope ["web", "standing", "some", "found", "end"] ["web", "standing"] (defScope s_full_ends) := ⟨rfl, rfl, rfl, by decide +kernel, rfl, by decide +kernel, by decide +kernel⟩
theorem ok_full_ends (bi : Bi mg) (c_need_state : DG P w K mg base "need_state" 4 2 g_need_state) (c_full_in : DG P w K mg base "full_in" 2 2 g_full_in) (c_ends_in : DG P w K mg base "ends_in" 3 2 g_ends_in) (Fd : ∃ f fd, FunD K "full_ends" "full_ends" (defArgs s_full_ends) (defBody s_full_ends) (defScope s_full_ends) [] [] f fd ∧ mg "full_ends" = some (.ref f)) : DG P w K mg base "full_ends" 5 2 g_full_ends := by
  obtain ⟨f, fd, Fd, m⟩ := Fd
  refine ⟨f, fd, ["web", "standing"], fn_pureF (k := 4) (N := ["web", "standing", "some", "found", "end"]) (g := B_full_ends) Fd sc_full_ends rfl (by decide) (fun cdv A outer s H E hr => ?_), m, Fd.kp, Fd.bindsN fun _ _ _ _ _ _ us hl => match us, hl with | [_, _], _ => by kernel_rfl⟩
  have rm := rm_of (X := (cxOf CX0 P w K mg base ["web", "standing", "some", "found", "end"] "full_ends" (defScope s_full_ends) f cdv A outer s H E).nox) hr
  have nd := sc_full_ends.nd
  exact (sfs_cons (sf_expr (ef_call (c_need_state.cal hr) (ea_cons (ev 0) (ea_cons (ev 1) ea_nil)) (lenA_cons (lenA_cons lenA_nil)) rfl))
    (sfs_cons (sf_set (i := 2) nd rfl (by first | exact Or.inl rfl | exact Or.inr rfl) (ef_call (c_full_in.cal hr) (ea_cons (ev 0) (ea_cons (ev 1) ea_nil)) (lenA_cons (lenA_cons lenA_nil)) rfl))
    (sfs_cons (NSF.so (ns_set (i := 3) nd rfl (by first | exact Or.inl rfl | exact Or.inr rfl) (nf_lst ea_nil lenA_nil)))
    (sfs_cons (sf_for PassesOwn.never rfl (if_seq (ef_call (c_ends_in.cal hr) (ea_cons (ev 0) (ea_cons (ev 1) ea_nil)) (lenA_cons (lenA_cons lenA_nil)) rfl)) (gw_name (i := 4) nd rfl (by first | exact Or.inl rfl | exact Or.inr rfl)) (sws_one (sf_if (tf_cmp (og_in rm) (xv 4) (xv 2) (by rfl)) (sws_one (sf_app (i := 3) rfl (by first | exact Or.inl rfl | exact Or.inr (Or.inl rfl) | exact Or.inr (Or.inr rfl)) (ev 4))) sfs_nil)))
    (sws_one (sf_retx (xv 3)))))))

def B_lost_ends : Rho → Option Fl := (sSeq (sDrop (aOf g_need_state (aCons (gV 0) (aCons (gV 1) aNil))))
  (sSeq (sSet 2 (aOf g_ends_in (aCons (gV 0) (aCons (gV 1) aNil))))
  (sRet (fun ρ => ((cLc [3] (tgN 3) (bAnd (bB (aOf g_apart_in (aCons (gV 0) (aCons (gV 3) aNil)))) (bB (b2 dNotIn (gX 3) (gX 2)))) (gV 3) (fItems (fun ρ => ((aOf gSrt (aCons (aOf g_choices (aCons (gV 1) aNil)) aNil)) ρ).map PyData.list))) ρ).map PyData.list))))
def g_lost_ends : GA := runF 4 B_lost_ends

abbrev s_lost_ends : Stmt := topS 49
theorem sc_lost_ends : FnScope ["web", "standing", "some", "row"] ["web", "standing"] (defScope s_lost_ends) := ⟨rfl, rfl, rfl, by decide +kernel, rfl, by decide +kernel, by decide +kernel⟩
theorem ok_lost_ends (bi : Bi mg) (c_need_state : DG P w K mg base "need_state" 4 2 g_need_state) (c_ends_in : DG P w K mg base "ends_in" 3 2 g_ends_in) (c_choices : DG P w K mg base "choices" 1 1 g_choices) (c_apart_in : DG P w K mg base "apart_in" 1 2 g_apart_in) (Fd : ∃ f fd, FunD K "lost_ends" "lost_ends" (defArgs s_lost_ends) (defBody s_lost_ends) (defScope s_lost_ends) [] [] f fd ∧ mg "lost_ends" = some (.ref f)) : DG P w K mg base "lost_ends" 5 2 g_lost_ends := by
  obtain ⟨f, fd, Fd, m⟩ := Fd
  refine ⟨f, fd, ["web", "standing"], fn_pureF (k := 4) (N := ["web", "standing", "some", "row"]) (g := B_lost_ends) Fd sc_lost_ends rfl (by decide) (fun cdv A outer s H E hr => ?_), m, Fd.kp, Fd.bindsN fun _ _ _ _ _ _ us hl => match us, hl with | [_, _], _ => by kernel_rfl⟩
  have rm := rm_of (X := (cxOf CX0 P w K mg base ["web", "standing", "some", "row"] "lost_ends" (defScope s_lost_ends) f cdv A outer s H E).nox) hr
  have nd := sc_lost_ends.nd
  exact (sfs_cons (sf_expr (ef_call (c_need_state.cal hr) (ea_cons (ev 0) (ea_cons (ev 1) ea_nil)) (lenA_cons (lenA_cons lenA_nil)) rfl))
    (sfs_cons (sf_set (i := 2) nd rfl (by first | exact Or.inl rfl | exact Or.inr rfl) (ef_call (c_ends_in.cal hr) (ea_cons (ev 0) (ea_cons (ev 1) ea_nil)) (lenA_cons (lenA_cons lenA_nil)) rfl))
    (sws_one (sf_ret (NF.e (NW.lc (nw_lc (own := [("row", 3)]) (g := (tgN 3)) (T := fW (bAnd (bB (aOf g_apart_in (aCons (gV 0) (aCons (gV 3) aNil)))) (bB (b2 dNotIn (gX 3) (gX 2))))) (E := fW (gV 3)) rfl nd (if_seq (NF.e (n_sorted bi rm (xa_cons (EW.x (ef_call (c_choices.cal hr) (ea_cons (ev 1) ea_nil) (lenA_cons lenA_nil) rfl)) xa_nil)))) (blkOk_by (own := [("row", 3)]) (by kernel_rfl)) (fun _ _ _ _ _ => (gw_sub (gw_name (i := 3) nd rfl (by first | exact Or.inl rfl | exact Or.inr rfl)))) (fun _ _ _ _ _ => (ts_one (TWW.t (tf_and (tf_val (ef_call (c_apart_in.cal hr) (ea_cons (ev 0) (ea_cons (ev 3) ea_nil)) (lenA_cons (lenA_cons lenA_nil)) rfl)) (tf_and1 (tf_cmp (og_notIn rm) (xv 3) (xv 2) (by rfl))))))) (fun _ _ _ _ _ => (ev 3)) s)))))))

def B_is_full : Rho → Option Fl := (sSeq (sDrop (aOf g_need_state (aCons (gV 0) (aCons (gV 1) aNil))))
  (sSeq (sDrop (aOf g_need_state (aCons (gV 0) (aCons (gV 2) aNil))))
  (sRet (b2 dIn (gX 2) (aOf g_full_in (aCons (gV 0) (aCons (gV 1) aNil)))))))
def g_is_full : GA := runF 3 B_is_full

abbrev s_is_full : Stmt := topS 50
theorem sc_is_full : FnScope ["web", "standing", "goal"] ["web", "standing", "goal"] (defScope s_is_full) := ⟨rfl, rfl, rfl, by decide +kernel, rfl, by decide +kernel, by decide +kernel⟩
theorem ok_is_full (bi : Bi mg) (c_need_state : DG P w K mg base "need_state" 4 2 g_need_state) (c_full_in : DG P w K mg base "full_in" 2 2 g_full_in) (Fd : ∃ f fd, FunD K "is_full" "is_full" (defArgs s_is_full) (defBody s_is_full) (defScope s_is_full) [] [] f fd ∧ mg "is_full" = some (.ref f)) : DG P w K mg base "is_full" 5 3 g_is_full := by
  obtain ⟨f, fd, Fd, m⟩ := Fd
  refine ⟨f, fd, ["web", "standing", "goal"], fn_pureF (k := 4) (N := ["web", "standing", "goal"]) (g := B_is_full) Fd sc_is_full rfl (by decide) (fun cdv A outer s H E hr => ?_), m, Fd.kp, Fd.bindsN fun _ _ _ _ _ _ us hl => match us, hl with | [_, _, _], _ => by kernel_rfl⟩
  have rm := rm_of (X := (cxOf CX0 P w K mg base ["web", "standing", "goal"] "is_full" (defScope s_is_full) f cdv A outer s H E).nox) hr
  have nd := sc_is_full.nd
  exact (sfs_cons (sf_expr (ef_call (c_need_state.cal hr) (ea_cons (ev 0) (ea_cons (ev 1) ea_nil)) (lenA_cons (lenA_cons lenA_nil)) rfl))
    (sfs_cons (sf_expr (ef_call (c_need_state.cal hr) (ea_cons (ev 0) (ea_cons (ev 2) ea_nil)) (lenA_cons (lenA_cons lenA_nil)) rfl))
    (sws_one (sf_ret (ef_cmp (og_in rm) (xv 2) (EW.x (ef_call (c_full_in.cal hr) (ea_cons (ev 0) (ea_cons (ev 1) ea_nil)) (lenA_cons (lenA_cons lenA_nil)) rfl)) (by rfl))))))

def B_part : Rho → Option Fl := (sSeq (sDrop (aOf g_need_web (aCons (gV 0) aNil)))
  (sSeq (sDrop (aOf g_need_people (aCons (gV 0) (aCons (fgtF (gV 1)) aNil))))
  (sSeq (sIf (bB (b2 dEq (fgtF (gX 1)) (vTup aNil))) sNever sNil)
  (sSeq (sSetL 2 (cLc [3] (tgN 3) (bAnd (bB (b2 dIn (b2 dIx (gX 3) (gC (.int 0))) (fgtF (gX 1)))) (bB (b2 dIn (b2 dIx (gX 3) (gC (.int 1))) (fgtF (gX 1))))) (gV 3) (fItems (aOf g_pairs_in (aCons (gV 0) aNil)))))
  (sRet (aOf g_web_by (aCons (aOf gLen (aCons (fgtF (gX 1)) aNil)) (aCons (fun ρ => ((cLc [4, 5] (tg2 4 5) fYes (vTup (aCons (b2 dIdxK (gV 1) (gV 4)) (aCons (b2 dIdxK (gV 1) (gV 5)) aNil))) (fItems (gV 2))) ρ).map PyData.list) aNil))))))))
def g_part : GA := runF 6 B_part

abbrev s_part : Stmt := topS 52
theorem sc_part : FnScope ["web", "people", "some", "pair", "one", "other"] ["web", "people"] (defScope s_part) := ⟨rfl, rfl, rfl, by decide +kernel, rfl, by decide +kernel, by decide +kernel⟩
theorem ok_part (bi : Bi mg) (c_need_web : DG P w K mg base "need_web" 3 1 g_need_web) (c_need_people : DG P w K mg base "need_people" 4 2 g_need_people) (c_web_by : DG P w K mg base "web_by" 1 2 g_web_by) (c_pairs_in : DG P w K mg base "pairs_in" 1 1 g_pairs_in) (Fd : ∃ f fd, FunD K "part" "part" (defArgs s_part) (defBody s_part) (defScope s_part) [] [] f fd ∧ mg "part" = some (.ref f)) : DG P w K mg base "part" 5 2 g_part := by
  obtain ⟨f, fd, Fd, m⟩ := Fd
  refine ⟨f, fd, ["web", "people"], fn_pureF (k := 4) (N := ["web", "people", "some", "pair", "one", "other"]) (g := B_part) Fd sc_part rfl (by decide) (fun cdv A outer s H E hr => ?_), m, Fd.kp, Fd.bindsN fun _ _ _ _ _ _ us hl => match us, hl with | [_, _], _ => by kernel_rfl⟩
  have rm := rm_of (X := (cxOf CX0 P w K mg base ["web", "people", "some", "pair", "one", "other"] "part" (defScope s_part) f cdv A outer s H E).nox) hr
  have nd := sc_part.nd
  exact (sfs_cons (sf_expr (ef_call (c_need_web.cal hr) (ea_cons (ev 0) ea_nil) (lenA_cons lenA_nil) rfl))
    (sfs_cons (sf_expr (ef_call (c_need_people.cal hr) (ea_cons (ev 0) (ea_cons (ef_fgt (ev 1)) ea_nil)) (lenA_cons (lenA_cons lenA_nil)) rfl))
    (sfs_cons (sf_if (tf_cmp (og_eq rm) (xf_fgt (xv 1)) (EW.x (ef_tup ea_nil lenA_nil)) (nomark _)) (sws_one sf_never) sfs_nil)
    (sfs_cons (NSF.sl (NS.lc (ns_lc (i := 2) (own := [("pair", 3)]) (g := (tgN 3)) (T := fW (bAnd (bB (b2 dIn (b2 dIx (gX 3) (gC (.int 0))) (fgtF (gX 1)))) (bB (b2 dIn (b2 dIx (gX 3) (gC (.int 1))) (fgtF (gX 1)))))) (E := fW (gV 3)) rfl nd rfl rfl (if_seq (ef_call (c_pairs_in.cal hr) (ea_cons (ev 0) ea_nil) (lenA_cons lenA_nil) rfl)) (blkOk_by (own := [("pair", 3)]) (by kernel_rfl)) (fun _ _ _ _ _ => (gw_sub (gw_name (i := 3) nd rfl (by first | exact Or.inl rfl | exact Or.inr rfl)))) (fun _ _ _ _ _ => (ts_one (TWW.t (tf_and (tf_cmp (og_in rm) (EW.x (ef_ix (xv 3) (EW.x ef_int))) (xf_fgt (xv 1)) (by rfl)) (tf_and1 (tf_cmp (og_in rm) (EW.x (ef_ix (xv 3) (EW.x ef_int))) (xf_fgt (xv 1)) (by rfl))))))) (fun _ _ _ _ _ => (ev 3)) s (sw_true rfl rfl rfl (by decide +kernel)))))
    (sws_one (sf_ret (ef_call (c_web_by.cal hr) (ea_cons (c_len bi (xa_cons (xf_fgt (xv 1)) xa_nil)) (ea_cons (NF.e (NW.lc (nw_lc (own := [("one", 4), ("other", 5)]) (g := (tg2 4 5)) (T := fW fYes) (E := fW (vTup (aCons (b2 dIdxK (gV 1) (gV 4)) (aCons (b2 dIdxK (gV 1) (gV 5)) aNil)))) rfl nd (if_seq (ev 2)) (blkOk_by (own := [("one", 4), ("other", 5)]) (by kernel_rfl)) (fun _ _ _ _ _ => (gw_sub (gw_two (i := 4) (j := 5) rfl nd rfl (by first | exact Or.inl rfl | exact Or.inr rfl) rfl (by first | exact Or.inl rfl | exact Or.inr rfl)))) (fun _ _ _ _ _ => ts_nil) (fun _ _ _ _ _ => (ef_tup (ea_cons (ef_idxK (ev 1) (ev 4)) (ea_cons (ef_idxK (ev 1) (ev 5)) ea_nil)) (lenA_cons (lenA_cons lenA_nil)))) s))) ea_nil)) (lenA_cons (lenA_cons lenA_nil)) rfl)))))))

def B_turned : Rho → Option Fl := (sSeq (sDrop (aOf g_need_web (aCons (gV 0) aNil)))
  (sSeq (sSetO 1 aNil)
  (sSeq (sFor (tgN 2) (aOf gRng1 (aCons (aOf gLen (aCons (gX 0) aNil)) aNil)) (sFor (tgN 3) (aOf gRng2 (aCons (b2 dAdd (gX 2) (gC (.int 1))) (aCons (aOf gLen (aCons (gX 0) aNil)) aNil))) (sIf (bB (b2 dNotIn (gX 3) (b2 dIx (gX 0) (gX 2)))) (sApp 1 (vTup (aCons (gV 2) (aCons (gV 3) aNil)))) sNil)))
  (fun ρ => (sRet (aOf g_web_by (aCons (aOf gLen (aCons (gX 0) aNil)) (aCons (gV 1) aNil)))) (frz ρ [1])))))
def g_turned : GA := runF 4 B_turned

abbrev s_turned : Stmt := topS 53
theorem sc_turned : FnScope ["web", "found", "one", "other"] ["web"] (defScope s_turned) := ⟨rfl, rfl, rfl, by decide +kernel, rfl, by decide +kernel, by decide +kernel⟩
theorem ok_turned (bi : Bi mg) (c_need_web : DG P w K mg base "need_web" 3 1 g_need_web) (c_web_by : DG P w K mg base "web_by" 1 2 g_web_by) (Fd : ∃ f fd, FunD K "turned" "turned" (defArgs s_turned) (defBody s_turned) (defScope s_turned) [] [] f fd ∧ mg "turned" = some (.ref f)) : DG P w K mg base "turned" 4 1 g_turned := by
  obtain ⟨f, fd, Fd, m⟩ := Fd
  refine ⟨f, fd, ["web"], fn_pureF (k := 3) (N := ["web", "found", "one", "other"]) (g := B_turned) Fd sc_turned rfl (by decide) (fun cdv A outer s H E hr => ?_), m, Fd.kp, Fd.bindsN fun _ _ _ _ _ _ us hl => match us, hl with | [_], _ => by kernel_rfl⟩
  have rm := rm_of (X := (cxOf CX0 P w K mg base ["web", "found", "one", "other"] "turned" (defScope s_turned) f cdv A outer s H E).nox) hr
  have nd := sc_turned.nd
  exact (sfs_cons (sf_expr (ef_call (c_need_web.cal hr) (ea_cons (ev 0) ea_nil) (lenA_cons lenA_nil) rfl))
    (sfs_cons (NSF.so (ns_set (i := 1) nd rfl (by first | exact Or.inl rfl | exact Or.inr rfl) (nf_lst ea_nil lenA_nil)))
    (sfs_cons (sf_for PassesOwn.never rfl (if_rng1 rfl bi.range (xa_cons (EW.x (c_len bi (xa_cons (xv 0) xa_nil))) xa_nil)) (gw_name (i := 2) nd rfl (by first | exact Or.inl rfl | exact Or.inr rfl)) (sws_one (sf_for PassesOwn.never rfl (if_rng2 rfl bi.range (xa_cons (EW.x (ef_bin og_add (xv 2) (EW.x ef_int))) (xa_cons (EW.x (c_len bi (xa_cons (xv 0) xa_nil))) xa_nil))) (gw_name (i := 3) nd rfl (by first | exact Or.inl rfl | exact Or.inr rfl)) (sws_one (sf_if (tf_cmp (og_notIn rm) (xv 3) (EW.x (ef_ix (xv 0) (xv 2))) (by rfl)) (sws_one (sf_app (i := 1) rfl (by first | exact Or.inl rfl | exact Or.inr (Or.inl rfl) | exact Or.inr (Or.inr rfl)) (ef_tup (ea_cons (ev 2) (ea_cons (ev 3) ea_nil)) (lenA_cons (lenA_cons lenA_nil))))) sfs_nil)))))
    (sfs_frz [1] (sws_one (sf_ret (ef_call (c_web_by.cal hr) (ea_cons (c_len bi (xa_cons (xv 0) xa_nil)) (ea_cons (ev 1) ea_nil)) (lenA_cons (lenA_cons lenA_nil)) rfl)))))))

abbrev s__law_taken : Stmt := topS 55
theorem sc__law_taken : FnScope ["_law_row", "_law_many", "_law_found", "_law_cell"] ["_law_row", "_law_many"] (defScope s__law_taken) := ⟨rfl, rfl, rfl, by decide +kernel, rfl, by decide +kernel, by decide +kernel⟩
theorem ok__law_taken (bi : Bi mg) (Fd : ∃ f fd, FunD K "_law_taken" "_law_taken" (defArgs s__law_taken) (defBody s__law_taken) (defScope s__law_taken) [] [] f fd ∧ mg "_law_taken" = some (.ref f)) : DefOk P w K mg base "_law_taken" 1 (spR K 1 wTaken) := by
  obtain ⟨f, fd, Fd, m⟩ := Fd
  refine ⟨f, fd, ["_law_row", "_law_many"], Fd.ok sc__law_taken (fun vs H Q E h => h.1) (fun cdv A outer s H vs Q E hr h => ?_), m, Fd.kp, Fd.bindsN fun _ _ _ _ _ _ us hl => match us, hl with | [_, _], _ => by kernel_rfl⟩
  have nd := sc__law_taken.nd
  have W : PSs (cxOf CX0 P w K mg base _ "_law_taken" (defScope s__law_taken) f cdv A outer s H E).nox (defBody s__law_taken) _ :=
    pss_cons (ps_if (pt_cmpR op_gt (pe_ix ix_list (pv 0) pe_int (fun _ _ => rfl)) pe_int (nomark _))
      (pss_cons (ps_set (i := 2) nd rfl (Or.inl rfl) (pe_op op_mod (pe_callTy call_int1 rfl bi.int bt_int (pa_cons (pe_ix ix_list (pv 0) pe_int (fun _ _ => rfl)) pa_nil)) (pv 1)))
      (pss_cons (ps_asg (pe_op op_fdiv (pe_ix ix_list (pv 0) pe_int (fun _ _ => rfl)) (pv 1)) (pg_sub (pv 0) pe_int set_list))
      (pss_one (ps_ret (pv 2))))) pss_nil)
    (pss_cons (ps_asg (pe_op op_add (pe_ix ix_list (pv 0) pe_int (fun _ _ => rfl)) pe_int) (pg_sub (pv 0) pe_int set_list))
    (pss_cons (ps_if (pt_cmpR op_gt (pe_ix ix_list (pv 0) pe_int (fun _ _ => rfl)) (pe_callB call_len_seq rfl bi.len boot_len (pa_cons (pe_ix ix_list (pv 0) pe_int (fun _ _ => rfl)) pa_nil)) (nomark _))
      (pss_cons (ps_asg (pe_op op_mod (pe_callTy call_int1 rfl bi.int bt_int (pa_cons (pe_op op_add (pe_op op_mul (pe_ix ix_list (pv 0) pe_int (fun _ _ => rfl)) pe_int) pe_int) pa_nil)) pe_int) (pg_sub (pv 0) pe_int set_list))
      (pss_one (ps_ret (pe_op op_mod (pe_callTy call_int1 rfl bi.int bt_int (pa_cons (pe_op op_fdiv (pe_ix ix_list (pv 0) pe_int (fun _ _ => rfl)) pe_int) pa_nil)) (pv 1))))) pss_nil)
    (pss_cons (ps_set (i := 3) nd rfl (Or.inl rfl) (pe_ix ix_list (pe_ix ix_list (pv 0) pe_int (fun _ _ => rfl)) (pe_op op_sub (pe_ix ix_list (pv 0) pe_int (fun _ _ => rfl)) pe_int) (fun _ _ => rfl)))
    (pss_cons (ps_asg (pe_op op_mod (pe_callTy call_int1 rfl bi.int bt_int (pa_cons (pe_op op_add (pe_op op_add (pe_op op_mul (pe_ix ix_list (pv 0) pe_int (fun _ _ => rfl)) pe_int) (pv 3)) pe_int) pa_nil)) pe_int) (pg_sub (pv 0) pe_int set_list))
    (pss_cons (ps_if (pt_cmpR op_ge (pv 3) (pe_op op_pow pe_int pe_int) (nomark _))
      (pss_one (ps_asg (pe_op op_fdiv (pv 3) (pv 1)) (pg_sub (pv 0) pe_int set_list))) pss_nil)
    (pss_one (ps_ret (pe_op op_mod (pe_callTy call_int1 rfl bi.int bt_int (pa_cons (pv 3) pa_nil)) (pv 1)))))))))
  exact ⟨_, PSs.nox W, taken_sp h⟩

def T__law_pick : TSt := (wRet (w2 dIx (fW (gX 1)) (wDraw 0 wTaken (wCons (fW (aOf gLen (aCons (gX 1) aNil))) wNil))))
def w__law_pick : List D → (D → Prop) → Prop := clo (runR 2 T__law_pick)

abbrev s__law_pick : Stmt := topS 56
theorem sc__law_pick : FnScope ["_law_row", "_law_kinds"] ["_law_row", "_law_kinds"] (defScope s__law_pick) := ⟨rfl, rfl, rfl, by decide +kernel, rfl, by decide +kernel, by decide +kernel⟩
theorem sw__law_pick (bi : Bi mg) (c__law_taken : DefOk P w K mg base "_law_taken" 1 (spR K 1 wTaken)) (cdv : Value) (A : Around) (outer : List Env) (s : Shared) (H : Hp) (E : XK) (f : Addr) (hr : Room 1 (A.deeper (envOfC "_law_pick" (defScope s__law_pick) s.heap.objs.size f cdv))) : SWs (cxOf CX0 P w K mg base ["_law_row", "_law_kinds"] "_law_pick" (defScope s__law_pick) f cdv A outer s H E).nox (defBody s__law_pick) T__law_pick := by
  have rm := rm_of (X := (cxOf CX0 P w K mg base ["_law_row", "_law_kinds"] "_law_pick" (defScope s__law_pick) f cdv A outer s H E).nox) hr
  have nd := sc__law_pick.nd
  exact (sws_one (sw_ret (ew_ix (xv 1) (EW.x (ew_draw (i := 0) (c__law_taken.cal hr) wTaken_mono rfl (by first | exact Or.inl rfl | exact Or.inr (Or.inl rfl) | exact Or.inr (Or.inr rfl)) (eal_cons (c_len bi (xa_cons (xv 1) xa_nil)) eal_nil) rfl)))))
theorem ok__law_pick (bi : Bi mg) (c__law_taken : DefOk P w K mg base "_law_taken" 1 (spR K 1 wTaken)) (Fd : ∃ f fd, FunD K "_law_pick" "_law_pick" (defArgs s__law_pick) (defBody s__law_pick) (defScope s__law_pick) [] [] f fd ∧ mg "_law_pick" = some (.ref f)) : DefOk P w K mg base "_law_pick" 2 (spR K 1 w__law_pick) := by
  obtain ⟨f, fd, Fd, m⟩ := Fd
  exact ⟨f, fd, ["_law_row", "_law_kinds"], fn_row (T := T__law_pick) (k := 1) (N := ["_law_row", "_law_kinds"]) Fd sc__law_pick rfl (by decide) (fun cdv A outer s H E hr => sw__law_pick bi c__law_taken cdv A outer s H E f hr), m, Fd.kp, Fd.bindsN fun _ _ _ _ _ _ us hl => match us, hl with | [_, _], _ => by kernel_rfl⟩

abbrev s__law_by : Stmt := topS 57
theorem sc__law_by : FnScope ["_law_many", "_law_couples", "_law_found", "_law_one", "_law_other", "_law_person", "_law_own"] ["_law_many", "_law_couples"] (defScope s__law_by) := ⟨rfl, rfl, rfl, by decide +kernel, rfl, by decide +kernel, by decide +kernel⟩
theorem ok__law_by (bi : Bi mg) (Fd : ∃ f fd, FunD K "_law_by" "_law_by" (defArgs s__law_by) (defBody s__law_by) (defScope s__law_by) [] [] f fd ∧ mg "_law_by" = some (.ref f)) : DefOk P w K mg base "_law_by" 1 (spF K 2 wBy) := by
  obtain ⟨f, fd, Fd, m⟩ := Fd
  refine ⟨f, fd, ["_law_many", "_law_couples"], Fd.ok sc__law_by (fun vs H Q E h => h.1) (fun cdv A outer s H vs Q E hr h => ⟨tBy K, PSs.nox ?_, by_sp h⟩), m, Fd.kp, Fd.bindsN fun _ _ _ _ _ _ us hl => match us, hl with | [_, _], _ => by kernel_rfl⟩
  have hu : (A.deeper (envOfC "_law_by" (defScope s__law_by) s.heap.objs.size f cdv)).units + 1 < cLine := by have := hr.un; omega
  have nd := sc__law_by.nd
  have W : PSs (cxOf CX0 P w K mg base _ "_law_by" (defScope s__law_by) f cdv A outer s H E).nox (defBody s__law_by) _ :=
    pss_cons (ps_setLc (i := 2) rfl nd rfl rfl (by rfl) (pi_range1 (by rfl) bi.range (pa_cons (pv 0) pa_nil)) (blkOk_by (own := [("_law_person", 5)]) (by kernel_rfl)) (fun _ _ _ _ _ => pg_name (i := 5) nd rfl (by first | exact Or.inl rfl | exact Or.inr rfl)) (fun _ _ _ _ _ => pts_nil) (fun _ _ _ _ _ => pe_dnewK))
    (pss_cons (ps_for PassesOwn.never rfl (pi_list (pv 1)) (pg_tup rfl (pgs_cons (pg_name (i := 3) nd rfl (Or.inl rfl)) (pgs_cons (pg_name (i := 4) nd rfl (Or.inl rfl)) pgs_nil)))
      (pss_cons (ps_dput hu (pe_ix ix_list (pv 2) (pv 3) (fun _ _ => rfl)) (pv 4) pe_bl (by rfl))
        (pss_one (ps_dput hu (pe_ix ix_list (pv 2) (pv 4) (fun _ _ => rfl)) (pv 3) pe_bl (by rfl)))))
    (pss_one (ps_ret (pe_callTy call_tuple_of rfl bi.tuple bt_tuple (pa_cons (pe_lc (te := tCB (rTupOf K) (tCons (tCB (rSortedI K) (tCons (tCB rListD (tCons (tVar 6) tNil)) tNil)) tNil)) rfl nd (pi_list (pv 2)) (blkOk_by (own := [("_law_own", 6)]) (by kernel_rfl)) (fun _ _ _ _ _ => pg_name (i := 6) nd rfl (by first | exact Or.inl rfl | exact Or.inr rfl)) (fun _ _ _ _ _ => pts_nil)
      (fun _ _ _ _ _ => pe_callTy call_tuple_of rfl bi.tuple bt_tuple (pa_cons (pe_callB cr_sortedI rfl bi.sorted bt_sorted (pa_cons (pe_callTy (call_list_dK rfl) rfl bi.list bt_list (pa_cons (pv 6) pa_nil)) pa_nil)) pa_nil))) pa_nil)))))
  exact W

def T__law_web : TSt := (wSeq (wPar 2 3 (wCons (w2 dAdd (fW (gC (.int 1))) (wDraw 0 wTaken (wCons (fW (gV 1)) wNil))) (wCons (fW (fun ρ => (aNil ρ).map PyData.list)) wNil)))
  (wSeq (wSet 4 (w2 dAdd (fW (gC (.int 2))) (wDraw 0 wTaken (wCons (fW (gC (.int 3))) wNil))))
  (wSeq (wFor (tgN 5) (fW (aOf gRng1 (aCons (gX 2) aNil))) (wSet 3 (w2 dAdd (fW (gX 3)) (wLst (wLc [6] (tgN 6) (wB (w2 dEq (wDraw 0 wTaken (wCons (fW (gV 4)) wNil)) (fW (gC (.int 0))))) (fW (vTup (aCons (gV 5) (aCons (gV 6) aNil)))) (fW (aOf gRng2 (aCons (b2 dAdd (gX 5) (gC (.int 1))) (aCons (gX 2) aNil)))))))))
  (wRet (wCal wBy (wCons (fW (gV 2)) (wCons (fW (gV 3)) wNil)))))))
def w__law_web : List D → (D → Prop) → Prop := clo (runR 7 T__law_web)

abbrev s__law_web : Stmt := topS 58
theorem sc__law_web : FnScope ["_law_row", "_law_most", "_law_many", "_law_couples", "_law_rare", "_law_one", "_law_other"] ["_law_row", "_law_most"] (defScope s__law_web) := ⟨rfl, rfl, rfl, by decide +kernel, rfl, by decide +kernel, by decide +kernel⟩
theorem sw__law_web (bi : Bi mg) (c__law_by : DefOk P w K mg base "_law_by" 1 (spF K 2 wBy)) (c__law_taken : DefOk P w K mg base "_law_taken" 1 (spR K 1 wTaken)) (cdv : Value) (A : Around) (outer : List Env) (s : Shared) (H : Hp) (E : XK) (f : Addr) (hr : Room 1 (A.deeper (envOfC "_law_web" (defScope s__law_web) s.heap.objs.size f cdv))) : SWs (cxOf CX0 P w K mg base ["_law_row", "_law_most", "_law_many", "_law_couples", "_law_rare", "_law_one", "_law_other"] "_law_web" (defScope s__law_web) f cdv A outer s H E).nox (defBody s__law_web) T__law_web := by
  have rm := rm_of (X := (cxOf CX0 P w K mg base ["_law_row", "_law_most", "_law_many", "_law_couples", "_law_rare", "_law_one", "_law_other"] "_law_web" (defScope s__law_web) f cdv A outer s H E).nox) hr
  have nd := sc__law_web.nd
  exact (sws_cons (sw_parL (i := 2) (j := 3) rfl nd rfl rfl (by decide) rfl rfl (eal_cons (ew_bin og_add (EW.x ef_int) (EW.x (ew_draw (i := 0) (c__law_taken.cal hr) wTaken_mono rfl (by first | exact Or.inl rfl | exact Or.inr (Or.inl rfl) | exact Or.inr (Or.inr rfl)) (eal_cons (ev 1) eal_nil) rfl))) (eal_cons (NF.e (nf_lst ea_nil lenA_nil)) eal_nil)) (by rfl))
    (sws_cons (sw_set (i := 4) nd rfl (by first | exact Or.inl rfl | exact Or.inr rfl) (ew_bin og_add (EW.x ef_int) (EW.x (ew_draw (i := 0) (c__law_taken.cal hr) wTaken_mono rfl (by first | exact Or.inl rfl | exact Or.inr (Or.inl rfl) | exact Or.inr (Or.inr rfl)) (eal_cons ef_int eal_nil) rfl))))
    (sws_cons (sw_for PassesOwn.never rfl (if_rng1 rfl bi.range (xa_cons (xv 2) xa_nil)) (gw_name (i := 5) nd rfl (by first | exact Or.inl rfl | exact Or.inr rfl)) (sws_one (sw_set (i := 3) nd rfl (by first | exact Or.inl rfl | exact Or.inr rfl) (ew_bin og_add (xv 3) (EW.x (NW.eL (nw_lc (own := [("_law_other", 6)]) (g := (tgN 6)) (T := (wB (w2 dEq (wDraw 0 wTaken (wCons (fW (gV 4)) wNil)) (fW (gC (.int 0)))))) (E := (fW (vTup (aCons (gV 5) (aCons (gV 6) aNil))))) rfl nd (if_rng2 rfl bi.range (xa_cons (EW.x (ef_bin og_add (xv 5) (EW.x ef_int))) (xa_cons (xv 2) xa_nil))) (blkOk_by (own := [("_law_other", 6)]) (by kernel_rfl)) (fun _ _ _ _ _ => (gw_sub (gw_name (i := 6) nd rfl (by first | exact Or.inl rfl | exact Or.inr rfl)))) (fun _ _ _ _ _ => (ts_one (tw_cmp (og_eq rm) (EW.x (ew_draw (i := 0) (c__law_taken.cal hr) wTaken_mono rfl (by first | exact Or.inl rfl | exact Or.inr (Or.inl rfl) | exact Or.inr (Or.inr rfl)) (eal_cons (ev 4) eal_nil) rfl)) (EW.x ef_int) (nomark _)))) (fun _ _ _ _ _ => (ef_tup (ea_cons (ev 5) (ea_cons (ev 6) ea_nil)) (lenA_cons (lenA_cons lenA_nil)))) s)))))))
    (sws_one (sw_ret (ew_callL (c__law_by.cal hr) wBy_mono (eal_cons (ev 2) (eal_cons (ev 3) eal_nil)) rfl))))))
theorem ok__law_web (bi : Bi mg) (c__law_by : DefOk P w K mg base "_law_by" 1 (spF K 2 wBy)) (c__law_taken : DefOk P w K mg base "_law_taken" 1 (spR K 1 wTaken)) (Fd : ∃ f fd, FunD K "_law_web" "_law_web" (defArgs s__law_web) (defBody s__law_web) (defScope s__law_web) [] [] f fd ∧ mg "_law_web" = some (.ref f)) : DefOk P w K mg base "_law_web" 2 (spR K 1 w__law_web) := by
  obtain ⟨f, fd, Fd, m⟩ := Fd
  exact ⟨f, fd, ["_law_row", "_law_most"], fn_row (T := T__law_web) (k := 1) (N := ["_law_row", "_law_most", "_law_many", "_law_couples", "_law_rare", "_law_one", "_law_other"]) Fd sc__law_web rfl (by decide) (fun cdv A outer s H E hr => sw__law_web bi c__law_by c__law_taken cdv A outer s H E f hr), m, Fd.kp, Fd.bindsN fun _ _ _ _ _ _ us hl => match us, hl with | [_, _], _ => by kernel_rfl⟩

def T__law_up : TSt := (wSeq (wSet 2 (w2 dAdd (fW (gC (.int 2))) (wDraw 0 wTaken (wCons (fW (gC (.int 4))) wNil))))
  (wRet (wOf gTupK (wCons (wLst (wLc [3] (tgN 3) (wB (w2 dGt (wDraw 0 wTaken (wCons (fW (gV 2)) wNil)) (fW (gC (.int 0))))) (fW (gV 3)) (fW (aOf gRng1 (aCons (aOf gLen (aCons (gX 1) aNil)) aNil))))) wNil))))
def w__law_up : List D → (D → Prop) → Prop := clo (runR 4 T__law_up)

abbrev s__law_up : Stmt := topS 59
theorem sc__law_up : FnScope ["_law_row", "_law_web_here", "_law_rare", "_law_person"] ["_law_row", "_law_web_here"] (defScope s__law_up) := ⟨rfl, rfl, rfl, by decide +kernel, rfl, by decide +kernel, by decide +kernel⟩
theorem sw__law_up (bi : Bi mg) (zK : lenK K) (c__law_taken : DefOk P w K mg base "_law_taken" 1 (spR K 1 wTaken)) (cdv : Value) (A : Around) (outer : List Env) (s : Shared) (H : Hp) (E : XK) (f : Addr) (hr : Room 1 (A.deeper (envOfC "_law_up" (defScope s__law_up) s.heap.objs.size f cdv))) : SWs (cxOf CX0 P w K mg base ["_law_row", "_law_web_here", "_law_rare", "_law_person"] "_law_up" (defScope s__law_up) f cdv A outer s H E).nox (defBody s__law_up) T__law_up := by
  have rm := rm_of (X := (cxOf CX0 P w K mg base ["_law_row", "_law_web_here", "_law_rare", "_law_person"] "_law_up" (defScope s__law_up) f cdv A outer s H E).nox) hr
  have nd := sc__law_up.nd
  exact (sws_cons (sw_set (i := 2) nd rfl (by first | exact Or.inl rfl | exact Or.inr rfl) (ew_bin og_add (EW.x ef_int) (EW.x (ew_draw (i := 0) (c__law_taken.cal hr) wTaken_mono rfl (by first | exact Or.inl rfl | exact Or.inr (Or.inl rfl) | exact Or.inr (Or.inr rfl)) (eal_cons ef_int eal_nil) rfl))))
    (sws_one (sw_ret (cw_tupleK bi (xa_consw (EW.x (NW.eL (nw_lc (own := [("_law_person", 3)]) (g := (tgN 3)) (T := (wB (w2 dGt (wDraw 0 wTaken (wCons (fW (gV 2)) wNil)) (fW (gC (.int 0)))))) (E := (fW (gV 3))) rfl nd (if_rng1 rfl bi.range (xa_cons (EW.x (c_len bi (xa_cons (xv 1) xa_nil))) xa_nil)) (blkOk_by (own := [("_law_person", 3)]) (by kernel_rfl)) (fun _ _ _ _ _ => (gw_sub (gw_name (i := 3) nd rfl (by first | exact Or.inl rfl | exact Or.inr rfl)))) (fun _ _ _ _ _ => (ts_one (tw_cmp og_gt (EW.x (ew_draw (i := 0) (c__law_taken.cal hr) wTaken_mono rfl (by first | exact Or.inl rfl | exact Or.inr (Or.inl rfl) | exact Or.inr (Or.inr rfl)) (eal_cons (ev 2) eal_nil) rfl)) (EW.x ef_int) (nomark _)))) (fun _ _ _ _ _ => (ev 3)) s))) xa_nilw)))))
theorem ok__law_up (bi : Bi mg) (zK : lenK K) (c__law_taken : DefOk P w K mg base "_law_taken" 1 (spR K 1 wTaken)) (Fd : ∃ f fd, FunD K "_law_up" "_law_up" (defArgs s__law_up) (defBody s__law_up) (defScope s__law_up) [] [] f fd ∧ mg "_law_up" = some (.ref f)) : DefOk P w K mg base "_law_up" 2 (spR K 1 w__law_up) := by
  obtain ⟨f, fd, Fd, m⟩ := Fd
  exact ⟨f, fd, ["_law_row", "_law_web_here"], fn_row (T := T__law_up) (k := 1) (N := ["_law_row", "_law_web_here", "_law_rare", "_law_person"]) Fd sc__law_up rfl (by decide) (fun cdv A outer s H E hr => sw__law_up bi zK c__law_taken cdv A outer s H E f hr), m, Fd.kp, Fd.bindsN fun _ _ _ _ _ _ us hl => match us, hl with | [_, _], _ => by kernel_rfl⟩

def T_law : TSt := (wSeq (wRow 1 (fW (aCons (gV 0) (aCons (gC (.int 0)) (aCons (gC (.int 9963)) (aCons (gC (.int 0)) aNil))))))
  (wSeq (wSet 2 (wDraw 1 w__law_web (wCons (fW (gC (.int 6))) wNil)))
  (wSeq (wSet 3 (wDraw 1 w__law_up (wCons (fW (gV 2)) wNil)))
  (wSeq (fW (sPuts [4, 5, 6] 3 (pF (aOf g_apart_sets (aCons (gV 2) (aCons (fgtF (gV 3)) aNil))) (pF (aOf g_full_apart_sets (aCons (gV 2) (aCons (fgtF (gV 3)) aNil))) (pF (aOf g_count_apart (aCons (gV 2) (aCons (fgtF (gV 3)) aNil))) pNil)))))
  (wSeq (fW (sIf (bOr (bB (b2 dNe (aOf gSumA (aCons (gX 6) aNil)) (aOf gLen (aCons (gX 4) aNil)))) (bOr (bB (b2 dNe (b2 dIx (gX 6) (gC (.int 0))) (gC (.int 1)))) (bOr (bAnd (bB (b2 dGt (aOf gLen (aCons (gX 6) aNil)) (gC (.int 1)))) (bB (b2 dNe (b2 dIx (gX 6) (gC (.int 1))) (aOf gLen (aCons (fgtF (gX 3)) aNil))))) (bB (b2 dNotIn (vTup aNil) (gX 4)))))) (sRet (gC (.bool false))) sNil))
  (wSeq (fW (sIf (bAnd (bB (b2 dGt (aOf gLen (aCons (gX 6) aNil)) (gC (.int 2)))) (bB (b2 dNe (b2 dIx (gX 6) (gC (.int 2))) (b2 dSub (b2 dFdiv (b2 dMul (aOf gLen (aCons (fgtF (gX 3)) aNil)) (b2 dSub (aOf gLen (aCons (fgtF (gX 3)) aNil)) (gC (.int 1)))) (gC (.int 2))) (aOf gLen (aCons (aOf g_standing_pairs (aCons (gV 2) (aCons (fgtF (gV 3)) aNil))) aNil)))))) (sRet (gC (.bool false))) sNil))
  (wSeq (fW (sAsg (tg2 7 8) (aOf g_most_apart (aCons (gV 2) (aCons (fgtF (gV 3)) aNil)))))
  (wSeq (fW (sIf (bOr (bB (b2 dNotIn (gX 8) (gX 5))) (bB (b2 dNe (gX 7) (aOf gMax (aCons (fun ρ => ((cLc [9] (tgN 9) fYes (aOf gLen (aCons (gX 9) aNil)) (fItems (gV 5))) ρ).map PyData.list) aNil))))) (sRet (gC (.bool false))) sNil))
  (wSeq (fW (sIf (bB (b2 dNe (b2 dIx (fun ρ => ((cLc [11] (tgN 11) (bB (b2 dGt (b2 dIx (gX 6) (gX 11)) (gC (.int 0)))) (gV 11) (aOf gRng1 (aCons (aOf gLen (aCons (gX 6) aNil)) aNil))) ρ).map PyData.list) (vNeg (gC (.int 1)))) (gX 7))) (sRet (gC (.bool false))) sNil))
  (wSeq (fW (sFor (tgN 9) (fItems (gV 4)) (sSeq (sIf (bOr (bNot (bB (aOf g_is_end (aCons (gV 2) (aCons (gV 9) aNil))))) (bB (b2 dNe (b2 dIn (gX 9) (gX 5)) (aOf g_is_full (aCons (gV 2) (aCons (fgtF (gV 3)) (aCons (gV 9) aNil))))))) (sRet (gC (.bool false))) sNil)
  (sSeq (sIf (bB (b2 dNe (b2 dIn (gX 9) (aOf g_ends (aCons (gV 2) (aCons (fgtF (gV 3)) aNil)))) (aOf g_can_come (aCons (gV 2) (aCons (fgtF (gV 3)) (aCons (gV 9) aNil)))))) (sRet (gC (.bool false))) sNil)
  (sIf (bB (b2 dEq (b2 dIn (gX 9) (aOf g_lost_ends (aCons (gV 2) (aCons (fgtF (gV 3)) aNil)))) (aOf g_can_come (aCons (gV 2) (aCons (fgtF (gV 3)) (aCons (gV 9) aNil)))))) (sRet (gC (.bool false))) sNil)))))
  (wSeq (fW (sIf (bB (b2 dNotIn (aOf g_greedy_end (aCons (gV 2) (aCons (fgtF (gV 3)) aNil))) (aOf g_full_ends (aCons (gV 2) (aCons (fgtF (gV 3)) aNil))))) (sRet (gC (.bool false))) sNil))
  (wSeq (fW (sIf (bB (b2 dNe (fun ρ => ((cLc [12] (tgN 12) (bOr (bB (b2 dNotIn (gX 12) (gX 5))) (bB (b2 dNotIn (gX 12) (aOf g_ends (aCons (gV 2) (aCons (fgtF (gV 3)) aNil)))))) (gV 12) (fItems (aOf g_full_ends (aCons (gV 2) (aCons (fgtF (gV 3)) aNil))))) ρ).map PyData.list) (fun ρ => (aNil ρ).map PyData.list))) (sRet (gC (.bool false))) sNil))
  (wSeq (wSet 9 (wDraw 1 w__law_pick (wCons (fW (gV 4)) wNil)))
  (fW (sSeq (sIf (bAnd (bB (aOf g_can_stand_together (aCons (gV 2) (aCons (fgtF (gV 3)) (aCons (gV 9) aNil))))) (bB (b2 dNe (fun ρ => ((cLc [13] (tgN 13) (bB (b2 dNotIn (gX 13) (aOf g_who_can_stand (aCons (gV 2) (aCons (fgtF (gV 3)) aNil))))) (gV 13) (fItems (gV 9))) ρ).map PyData.list) (fun ρ => (aNil ρ).map PyData.list)))) (sRet (gC (.bool false))) sNil)
  (sSeq (sIf (bOr (bB (b2 dGt (aOf gLen (aCons (aOf g_groups (aCons (gV 2) (aCons (fgtF (gV 3)) aNil))) aNil)) (gX 7))) (bB (b2 dNe (aOf g_is_end (aCons (gV 2) (aCons (fgtF (gV 3)) aNil))) (b2 dEq (gX 5) (fun ρ => ((aCons (fgtF (gV 3)) aNil) ρ).map PyData.list))))) (sRet (gC (.bool false))) sNil)
  (sSeq (sIf (bB (b2 dNe (fun ρ => ((cLc [13] (tgN 13) (bB (b2 dEq (fun ρ => ((cLc [9] (tgN 9) (bB (b2 dIn (gX 13) (gX 9))) (gV 9) (fItems (gV 5))) ρ).map PyData.list) (fun ρ => (aNil ρ).map PyData.list))) (gV 13) (fItems (aOf g_peaks (aCons (gV 2) (aCons (fgtF (gV 3)) aNil))))) ρ).map PyData.list) (fun ρ => (aNil ρ).map PyData.list))) (sRet (gC (.bool false))) sNil)
  (sSeq (sIf (bB (b2 dEq (fgtF (gX 3)) (vTup aNil))) (sRet (b2 dEq (gX 5) (fun ρ => ((aCons (vTup aNil) aNil) ρ).map PyData.list))) sNil)
  (sSeq (sSet 10 (aOf g_part (aCons (gV 2) (aCons (gV 3) aNil))))
  (sSeq (sIf (bNot (bB (b2 dGe (b2 dMul (b2 dIx (aOf g_most_apart (aCons (aOf g_turned (aCons (gV 10) aNil)) (aCons (aOf g_everybody (aCons (gV 10) aNil)) aNil))) (gC (.int 0))) (gX 7)) (gC (.int 1))))) (sRet (gC (.bool false))) sNil)
  (sRet (b2 dEq (aOf gLen (aCons (aOf g_apart_sets (aCons (gV 10) (aCons (aOf g_everybody (aCons (gV 10) aNil)) aNil))) aNil)) (aOf gLen (aCons (gX 4) aNil))))))))))))))))))))))))

abbrev s_law : Stmt := topS 60
theorem sc_law : FnScope ["_law_script", "_law_row", "_law_web_here", "_law_begin", "_law_some", "_law_full", "_law_counts", "_law_most", "_law_best", "_law_people", "_law_own", "_law_size", "_law_end", "_law_one"] ["_law_script"] (defScope s_law) := ⟨rfl, rfl, rfl, by decide +kernel, rfl, by decide +kernel, by decide +kernel⟩
theorem sw_law (bi : Bi mg) (c__law_web : DefOk P w K mg base "_law_web" 2 (spR K 1 w__law_web)) (c__law_up : DefOk P w K mg base "_law_up" 2 (spR K 1 w__law_up)) (c_most_apart : DG P w K mg base "most_apart" 5 2 g_most_apart) (c__law_pick : DefOk P w K mg base "_law_pick" 2 (spR K 1 w__law_pick)) (c_part : DG P w K mg base "part" 5 2 g_part) (c_apart_sets : DG P w K mg base "apart_sets" 5 2 g_apart_sets) (c_full_apart_sets : DG P w K mg base "full_apart_sets" 5 2 g_full_apart_sets) (c_count_apart : DG P w K mg base "count_apart" 5 2 g_count_apart) (c_greedy_end : DG P w K mg base "greedy_end" 5 2 g_greedy_end) (c_full_ends : DG P w K mg base "full_ends" 5 2 g_full_ends) (c_can_stand_together : DG P w K mg base "can_stand_together" 5 3 g_can_stand_together) (c_can_come : DG P w K mg base "can_come" 6 3 g_can_come) (c_is_end : DG P w K mg base "is_end" 5 2 g_is_end) (c_is_full : DG P w K mg base "is_full" 5 3 g_is_full) (c_ends : DG P w K mg base "ends" 5 2 g_ends) (c_lost_ends : DG P w K mg base "lost_ends" 5 2 g_lost_ends) (c_groups : DG P w K mg base "groups" 5 2 g_groups) (c_peaks : DG P w K mg base "peaks" 5 2 g_peaks) (c_everybody : DG P w K mg base "everybody" 4 1 g_everybody) (c_standing_pairs : DG P w K mg base "standing_pairs" 5 2 g_standing_pairs) (c_who_can_stand : DG P w K mg base "who_can_stand" 5 2 g_who_can_stand) (c_turned : DG P w K mg base "turned" 4 1 g_turned) (cdv : Value) (A : Around) (outer : List Env) (s : Shared) (H : Hp) (E : XK) (f : Addr) (hr : Room 6 (A.deeper (envOfC "law" (defScope s_law) s.heap.objs.size f cdv))) : SWs (cxOf CX0 P w K mg base ["_law_script", "_law_row", "_law_web_here", "_law_begin", "_law_some", "_law_full", "_law_counts", "_law_most", "_law_best", "_law_people", "_law_own", "_law_size", "_law_end", "_law_one"] "law" (defScope s_law) f cdv A outer s H E).nox (defBody s_law) T_law := by
  have rm := rm_of (X := (cxOf CX0 P w K mg base ["_law_script", "_law_row", "_law_web_here", "_law_begin", "_law_some", "_law_full", "_law_counts", "_law_most", "_law_best", "_law_people", "_law_own", "_law_size", "_law_end", "_law_one"] "law" (defScope s_law) f cdv A outer s H E).nox) hr
  have nd := sc_law.nd
  exact (sws_cons (sw_row (ns_set (i := 1) nd rfl (by first | exact Or.inl rfl | exact Or.inr rfl) (nf_lst (ea_cons (ev 0) (ea_cons ef_int (ea_cons ef_int (ea_cons ef_int ea_nil)))) (lenA_cons (lenA_cons (lenA_cons (lenA_cons lenA_nil)))))))
    (sws_cons (sw_set (i := 2) nd rfl (by first | exact Or.inl rfl | exact Or.inr rfl) (ew_draw (i := 1) (c__law_web.cal hr) clo_mono rfl (by first | exact Or.inl rfl | exact Or.inr (Or.inl rfl) | exact Or.inr (Or.inr rfl)) (eal_cons ef_int eal_nil) rfl))
    (sws_cons (sw_set (i := 3) nd rfl (by first | exact Or.inl rfl | exact Or.inr rfl) (ew_draw (i := 1) (c__law_up.cal hr) clo_mono rfl (by first | exact Or.inl rfl | exact Or.inr (Or.inl rfl) | exact Or.inr (Or.inr rfl)) (eal_cons (ev 2) eal_nil) rfl))
    (sws_cons (SW.puts (sw_ownT (n := 3) rfl nd (is := [4, 5, 6]) (.cons (i := 4) rfl (by first | exact Or.inl rfl | exact Or.inr rfl) (by first | exact .inl rfl | exact .inr rfl) (.cons (i := 5) rfl (by first | exact Or.inl rfl | exact Or.inr rfl) (by first | exact .inl rfl | exact .inr rfl) (.cons (i := 6) rfl (by first | exact Or.inl rfl | exact Or.inr rfl) (by first | exact .inl rfl | exact .inr rfl) .nil))) (of_f (ef_call (c_apart_sets.cal hr) (ea_cons (ev 2) (ea_cons (ef_fgt (ev 3)) ea_nil)) (lenA_cons (lenA_cons lenA_nil)) rfl) (of_f (ef_call (c_full_apart_sets.cal hr) (ea_cons (ev 2) (ea_cons (ef_fgt (ev 3)) ea_nil)) (lenA_cons (lenA_cons lenA_nil)) rfl) (of_f (ef_call (c_count_apart.cal hr) (ea_cons (ev 2) (ea_cons (ef_fgt (ev 3)) ea_nil)) (lenA_cons (lenA_cons lenA_nil)) rfl) of_nil))) rfl rfl (by decide)))
    (sws_cons (sf_if (TWW.t (tf_or (tf_cmp (og_ne rm) (EW.x (c_sumA bi (xa_cons (xv 6) xa_nil))) (EW.x (c_len bi (xa_cons (xv 4) xa_nil))) (nomark _)) (tf_or (tf_cmp (og_ne rm) (EW.x (ef_ix (xv 6) (EW.x ef_int))) (EW.x ef_int) (nomark _)) (tf_or (TWW.t (tf_and (tf_cmp og_gt (EW.x (c_len bi (xa_cons (xv 6) xa_nil))) (EW.x ef_int) (nomark _)) (tf_and1 (tf_cmp (og_ne rm) (EW.x (ef_ix (xv 6) (EW.x ef_int))) (EW.x (c_len bi (xa_cons (xf_fgt (xv 3)) xa_nil))) (nomark _))))) (tf_or1 (tf_cmp (og_notIn rm) (EW.x (ef_tup ea_nil lenA_nil)) (xv 4) (by rfl))))))) (sws_one (sf_ret ef_bl)) sfs_nil)
    (sws_cons (sf_if (TWW.t (tf_and (tf_cmp og_gt (EW.x (c_len bi (xa_cons (xv 6) xa_nil))) (EW.x ef_int) (nomark _)) (tf_and1 (tf_cmp (og_ne rm) (EW.x (ef_ix (xv 6) (EW.x ef_int))) (EW.x (ef_bin og_sub (EW.x (ef_bin og_fdiv (EW.x (ef_bin og_mul (EW.x (c_len bi (xa_cons (xf_fgt (xv 3)) xa_nil))) (EW.x (ef_bin og_sub (EW.x (c_len bi (xa_cons (xf_fgt (xv 3)) xa_nil))) (EW.x ef_int))))) (EW.x ef_int))) (EW.x (c_len bi (xa_cons (EW.x (ef_call (c_standing_pairs.cal hr) (ea_cons (ev 2) (ea_cons (ef_fgt (ev 3)) ea_nil)) (lenA_cons (lenA_cons lenA_nil)) rfl)) xa_nil))))) (nomark _))))) (sws_one (sf_ret ef_bl)) sfs_nil)
    (sws_cons (sf_asg (ef_call (c_most_apart.cal hr) (ea_cons (ev 2) (ea_cons (ef_fgt (ev 3)) ea_nil)) (lenA_cons (lenA_cons lenA_nil)) rfl) (gw_two (i := 7) (j := 8) rfl nd rfl (by first | exact Or.inl rfl | exact Or.inr rfl) rfl (by first | exact Or.inl rfl | exact Or.inr rfl)))
    (sws_cons (sf_if (TWW.t (tf_or (tf_cmp (og_notIn rm) (xv 8) (xv 5) (by rfl)) (tf_or1 (tf_cmp (og_ne rm) (xv 7) (EW.x (c_max bi rm (xa_cons (EW.x (NF.e (NW.lc (nw_lc (own := [("_law_people", 9)]) (g := (tgN 9)) (T := fW fYes) (E := fW (aOf gLen (aCons (gX 9) aNil))) rfl nd (if_seq (ev 5)) (blkOk_by (own := [("_law_people", 9)]) (by kernel_rfl)) (fun _ _ _ _ _ => (gw_sub (gw_name (i := 9) nd rfl (by first | exact Or.inl rfl | exact Or.inr rfl)))) (fun _ _ _ _ _ => ts_nil) (fun _ _ _ _ _ => (c_len bi (xa_cons (xv 9) xa_nil))) s)))) xa_nil))) (nomark _))))) (sws_one (sf_ret ef_bl)) sfs_nil)
    (sws_cons (sf_if (tf_cmp (og_ne rm) (EW.x (ef_ix (EW.x (NF.e (NW.lc (nw_lc (own := [("_law_size", 11)]) (g := (tgN 11)) (T := fW (bB (b2 dGt (b2 dIx (gX 6) (gX 11)) (gC (.int 0))))) (E := fW (gV 11)) rfl nd (if_rng1 rfl bi.range (xa_cons (EW.x (c_len bi (xa_cons (xv 6) xa_nil))) xa_nil)) (blkOk_by (own := [("_law_size", 11)]) (by kernel_rfl)) (fun _ _ _ _ _ => (gw_sub (gw_name (i := 11) nd rfl (by first | exact Or.inl rfl | exact Or.inr rfl)))) (fun _ _ _ _ _ => (ts_one (tf_cmp og_gt (EW.x (ef_ix (xv 6) (xv 11))) (EW.x ef_int) (nomark _)))) (fun _ _ _ _ _ => (ev 11)) s)))) (EW.x (ef_neg ef_int)))) (xv 7) (nomark _)) (sws_one (sf_ret ef_bl)) sfs_nil)
    (sws_cons (sf_for PassesOwn.never rfl (if_seq (ev 4)) (gw_name (i := 9) nd rfl (by first | exact Or.inl rfl | exact Or.inr rfl)) (sfs_cons (sf_if (TWW.t (tf_or (tf_not (tf_val (ef_call (c_is_end.cal hr) (ea_cons (ev 2) (ea_cons (ev 9) ea_nil)) (lenA_cons (lenA_cons lenA_nil)) rfl))) (tf_or1 (tf_cmp (og_ne rm) (EW.x (ef_cmp (og_in rm) (xv 9) (xv 5) (by rfl))) (EW.x (ef_call (c_is_full.cal hr) (ea_cons (ev 2) (ea_cons (ef_fgt (ev 3)) (ea_cons (ev 9) ea_nil))) (lenA_cons (lenA_cons (lenA_cons lenA_nil))) rfl)) (nomark _))))) (sws_one (sf_ret ef_bl)) sfs_nil)
    (sfs_cons (sf_if (tf_cmp (og_ne rm) (EW.x (ef_cmp (og_in rm) (xv 9) (EW.x (ef_call (c_ends.cal hr) (ea_cons (ev 2) (ea_cons (ef_fgt (ev 3)) ea_nil)) (lenA_cons (lenA_cons lenA_nil)) rfl)) (by rfl))) (EW.x (ef_call (c_can_come.cal hr) (ea_cons (ev 2) (ea_cons (ef_fgt (ev 3)) (ea_cons (ev 9) ea_nil))) (lenA_cons (lenA_cons (lenA_cons lenA_nil))) rfl)) (nomark _)) (sws_one (sf_ret ef_bl)) sfs_nil)
    (sws_one (sf_if (tf_cmp (og_eq rm) (EW.x (ef_cmp (og_in rm) (xv 9) (EW.x (ef_call (c_lost_ends.cal hr) (ea_cons (ev 2) (ea_cons (ef_fgt (ev 3)) ea_nil)) (lenA_cons (lenA_cons lenA_nil)) rfl)) (by rfl))) (EW.x (ef_call (c_can_come.cal hr) (ea_cons (ev 2) (ea_cons (ef_fgt (ev 3)) (ea_cons (ev 9) ea_nil))) (lenA_cons (lenA_cons (lenA_cons lenA_nil))) rfl)) (nomark _)) (sws_one (sf_ret ef_bl)) sfs_nil)))))
    (sws_cons (sf_if (tf_cmp (og_notIn rm) (EW.x (ef_call (c_greedy_end.cal hr) (ea_cons (ev 2) (ea_cons (ef_fgt (ev 3)) ea_nil)) (lenA_cons (lenA_cons lenA_nil)) rfl)) (EW.x (ef_call (c_full_ends.cal hr) (ea_cons (ev 2) (ea_cons (ef_fgt (ev 3)) ea_nil)) (lenA_cons (lenA_cons lenA_nil)) rfl)) (by rfl)) (sws_one (sf_ret ef_bl)) sfs_nil)
    (sws_cons (sf_if (tf_cmp (og_ne rm) (EW.x (NF.e (NW.lc (nw_lc (own := [("_law_end", 12)]) (g := (tgN 12)) (T := fW (bOr (bB (b2 dNotIn (gX 12) (gX 5))) (bB (b2 dNotIn (gX 12) (aOf g_ends (aCons (gV 2) (aCons (fgtF (gV 3)) aNil))))))) (E := fW (gV 12)) rfl nd (if_seq (ef_call (c_full_ends.cal hr) (ea_cons (ev 2) (ea_cons (ef_fgt (ev 3)) ea_nil)) (lenA_cons (lenA_cons lenA_nil)) rfl)) (blkOk_by (own := [("_law_end", 12)]) (by kernel_rfl)) (fun _ _ _ _ _ => (gw_sub (gw_name (i := 12) nd rfl (by first | exact Or.inl rfl | exact Or.inr rfl)))) (fun _ _ _ _ _ => (ts_one (TWW.t (tf_or (tf_cmp (og_notIn rm) (xv 12) (xv 5) (by rfl)) (tf_or1 (tf_cmp (og_notIn rm) (xv 12) (EW.x (ef_call (c_ends.cal hr) (ea_cons (ev 2) (ea_cons (ef_fgt (ev 3)) ea_nil)) (lenA_cons (lenA_cons lenA_nil)) rfl)) (by rfl))))))) (fun _ _ _ _ _ => (ev 12)) s)))) (EW.x (NF.e (nf_lst ea_nil lenA_nil))) (nomark _)) (sws_one (sf_ret ef_bl)) sfs_nil)
    (sws_cons (sw_set (i := 9) nd rfl (by first | exact Or.inl rfl | exact Or.inr rfl) (ew_draw (i := 1) (c__law_pick.cal hr) clo_mono rfl (by first | exact Or.inl rfl | exact Or.inr (Or.inl rfl) | exact Or.inr (Or.inr rfl)) (eal_cons (ev 4) eal_nil) rfl))
    (sfs_cons (sf_if (TWW.t (tf_and (tf_val (ef_call (c_can_stand_together.cal hr) (ea_cons (ev 2) (ea_cons (ef_fgt (ev 3)) (ea_cons (ev 9) ea_nil))) (lenA_cons (lenA_cons (lenA_cons lenA_nil))) rfl)) (tf_and1 (tf_cmp (og_ne rm) (EW.x (NF.e (NW.lc (nw_lc (own := [("_law_one", 13)]) (g := (tgN 13)) (T := fW (bB (b2 dNotIn (gX 13) (aOf g_who_can_stand (aCons (gV 2) (aCons (fgtF (gV 3)) aNil)))))) (E := fW (gV 13)) rfl nd (if_seq (ev 9)) (blkOk_by (own := [("_law_one", 13)]) (by kernel_rfl)) (fun _ _ _ _ _ => (gw_sub (gw_name (i := 13) nd rfl (by first | exact Or.inl rfl | exact Or.inr rfl)))) (fun _ _ _ _ _ => (ts_one (tf_cmp (og_notIn rm) (xv 13) (EW.x (ef_call (c_who_can_stand.cal hr) (ea_cons (ev 2) (ea_cons (ef_fgt (ev 3)) ea_nil)) (lenA_cons (lenA_cons lenA_nil)) rfl)) (by rfl)))) (fun _ _ _ _ _ => (ev 13)) s)))) (EW.x (NF.e (nf_lst ea_nil lenA_nil))) (nomark _))))) (sws_one (sf_ret ef_bl)) sfs_nil)
    (sfs_cons (sf_if (TWW.t (tf_or (tf_cmp og_gt (EW.x (c_len bi (xa_cons (EW.x (ef_call (c_groups.cal hr) (ea_cons (ev 2) (ea_cons (ef_fgt (ev 3)) ea_nil)) (lenA_cons (lenA_cons lenA_nil)) rfl)) xa_nil))) (xv 7) (nomark _)) (tf_or1 (tf_cmp (og_ne rm) (EW.x (ef_call (c_is_end.cal hr) (ea_cons (ev 2) (ea_cons (ef_fgt (ev 3)) ea_nil)) (lenA_cons (lenA_cons lenA_nil)) rfl)) (EW.x (ef_cmp (og_eq rm) (xv 5) (EW.x (NF.e (nf_lst (ea_cons (ef_fgt (ev 3)) ea_nil) (lenA_cons lenA_nil)))) (nomark _))) (nomark _))))) (sws_one (sf_ret ef_bl)) sfs_nil)
    (sfs_cons (sf_if (tf_cmp (og_ne rm) (EW.x (NF.e (NW.lc (nw_lc (own := [("_law_one", 13)]) (g := (tgN 13)) (T := fW (bB (b2 dEq (fun ρ => ((cLc [9] (tgN 9) (bB (b2 dIn (gX 13) (gX 9))) (gV 9) (fItems (gV 5))) ρ).map PyData.list) (fun ρ => (aNil ρ).map PyData.list)))) (E := fW (gV 13)) rfl nd (if_seq (ef_call (c_peaks.cal hr) (ea_cons (ev 2) (ea_cons (ef_fgt (ev 3)) ea_nil)) (lenA_cons (lenA_cons lenA_nil)) rfl)) (blkOk_by (own := [("_law_one", 13)]) (by kernel_rfl)) (fun _ _ _ _ _ => (gw_sub (gw_name (i := 13) nd rfl (by first | exact Or.inl rfl | exact Or.inr rfl)))) (fun _ _ _ _ _ => (ts_one (tf_cmp (og_eq rm) (EW.x (NF.e (NW.lc (nw_lc (own := [("_law_people", 9)]) (g := (tgN 9)) (T := fW (bB (b2 dIn (gX 13) (gX 9)))) (E := fW (gV 9)) rfl nd (if_seq (ev 5)) (blkOk_by (own := [("_law_people", 9)]) (by kernel_rfl)) (fun _ _ _ _ _ => (gw_sub (gw_name (i := 9) nd rfl (by first | exact Or.inl rfl | exact Or.inr rfl)))) (fun _ _ _ _ _ => (ts_one (tf_cmp (og_in rm) (xv 13) (xv 9) (by rfl)))) (fun _ _ _ _ _ => (ev 9)) s)))) (EW.x (NF.e (nf_lst ea_nil lenA_nil))) (nomark _)))) (fun _ _ _ _ _ => (ev 13)) s)))) (EW.x (NF.e (nf_lst ea_nil lenA_nil))) (nomark _)) (sws_one (sf_ret ef_bl)) sfs_nil)
    (sfs_cons (sf_if (tf_cmp (og_eq rm) (xf_fgt (xv 3)) (EW.x (ef_tup ea_nil lenA_nil)) (nomark _)) (sws_one (sf_ret (ef_cmp (og_eq rm) (xv 5) (EW.x (NF.e (nf_lst (ea_cons (ef_tup ea_nil lenA_nil) ea_nil) (lenA_cons lenA_nil)))) (nomark _)))) sfs_nil)
    (sfs_cons (sf_set (i := 10) nd rfl (by first | exact Or.inl rfl | exact Or.inr rfl) (ef_call (c_part.cal hr) (ea_cons (ev 2) (ea_cons (ev 3) ea_nil)) (lenA_cons (lenA_cons lenA_nil)) rfl))
    (sfs_cons (sf_if (tf_not (tf_cmp og_ge (EW.x (ef_bin og_mul (EW.x (ef_ix (EW.x (ef_call (c_most_apart.cal hr) (ea_cons (ef_call (c_turned.cal hr) (ea_cons (ev 10) ea_nil) (lenA_cons lenA_nil) rfl) (ea_cons (ef_call (c_everybody.cal hr) (ea_cons (ev 10) ea_nil) (lenA_cons lenA_nil) rfl) ea_nil)) (lenA_cons (lenA_cons lenA_nil)) rfl)) (EW.x ef_int))) (xv 7))) (EW.x ef_int) (nomark _))) (sws_one (sf_ret ef_bl)) sfs_nil)
    (sws_one (sf_ret (ef_cmp (og_eq rm) (EW.x (c_len bi (xa_cons (EW.x (ef_call (c_apart_sets.cal hr) (ea_cons (ev 10) (ea_cons (ef_call (c_everybody.cal hr) (ea_cons (ev 10) ea_nil) (lenA_cons lenA_nil) rfl) ea_nil)) (lenA_cons (lenA_cons lenA_nil)) rfl)) xa_nil))) (EW.x (c_len bi (xa_cons (xv 4) xa_nil))) (nomark _)))))))))))))))))))))))
theorem ok_law (bi : Bi mg) (c__law_web : DefOk P w K mg base "_law_web" 2 (spR K 1 w__law_web)) (c__law_up : DefOk P w K mg base "_law_up" 2 (spR K 1 w__law_up)) (c_most_apart : DG P w K mg base "most_apart" 5 2 g_most_apart) (c__law_pick : DefOk P w K mg base "_law_pick" 2 (spR K 1 w__law_pick)) (c_part : DG P w K mg base "part" 5 2 g_part) (c_apart_sets : DG P w K mg base "apart_sets" 5 2 g_apart_sets) (c_full_apart_sets : DG P w K mg base "full_apart_sets" 5 2 g_full_apart_sets) (c_count_apart : DG P w K mg base "count_apart" 5 2 g_count_apart) (c_greedy_end : DG P w K mg base "greedy_end" 5 2 g_greedy_end) (c_full_ends : DG P w K mg base "full_ends" 5 2 g_full_ends) (c_can_stand_together : DG P w K mg base "can_stand_together" 5 3 g_can_stand_together) (c_can_come : DG P w K mg base "can_come" 6 3 g_can_come) (c_is_end : DG P w K mg base "is_end" 5 2 g_is_end) (c_is_full : DG P w K mg base "is_full" 5 3 g_is_full) (c_ends : DG P w K mg base "ends" 5 2 g_ends) (c_lost_ends : DG P w K mg base "lost_ends" 5 2 g_lost_ends) (c_groups : DG P w K mg base "groups" 5 2 g_groups) (c_peaks : DG P w K mg base "peaks" 5 2 g_peaks) (c_everybody : DG P w K mg base "everybody" 4 1 g_everybody) (c_standing_pairs : DG P w K mg base "standing_pairs" 5 2 g_standing_pairs) (c_who_can_stand : DG P w K mg base "who_can_stand" 5 2 g_who_can_stand) (c_turned : DG P w K mg base "turned" 4 1 g_turned) (Fd : ∃ f fd, FunD K "law" "law" (defArgs s_law) (defBody s_law) (defScope s_law) [] [] f fd ∧ mg "law" = some (.ref f)) : DefOk P w K mg base "law" 7 (spF K 1 (runW 14 T_law)) := by
  obtain ⟨f, fd, Fd, m⟩ := Fd
  exact ⟨f, fd, ["_law_script"], fn_pure (T := T_law) (k := 6) (N := ["_law_script", "_law_row", "_law_web_here", "_law_begin", "_law_some", "_law_full", "_law_counts", "_law_most", "_law_best", "_law_people", "_law_own", "_law_size", "_law_end", "_law_one"]) Fd sc_law rfl (by decide) (fun cdv A outer s H E hr => sw_law bi c__law_web c__law_up c_most_apart c__law_pick c_part c_apart_sets c_full_apart_sets c_count_apart c_greedy_end c_full_ends c_can_stand_together c_can_come c_is_end c_is_full c_ends c_lost_ends c_groups c_peaks c_everybody c_standing_pairs c_who_can_stand c_turned cdv A outer s H E f hr), m, Fd.kp, Fd.bindsN fun _ _ _ _ _ _ us hl => match us, hl with | [_], _ => by kernel_rfl⟩

end
end W

set_option Elab.async false
set_option linter.all false
set_option maxRecDepth 100000
set_option maxHeartbeats 1000000
namespace W
open PySem PySem.Spec PyProof.Rows L2 L2.P
theorem v_is_integer (k : Int) : g_is_integer [.int k] = some (.bool true) := rfl
theorem v_is_in (k a b : Int) : g_is_in [.int k, .int a, .int b] = some (.bool (decide (a ≤ k) && decide (k ≤ b))) := by
  refine runF_rt ?_
  show B_is_in [.v (.int k), .v (.int a), .v (.int b)] = _
  unfold B_is_in
  simp [gV, gX, v_is_integer]
  by_cases h : a ≤ k <;> simp [h]
theorem v_is_list (xs : List D) (a b : Int) : g_is_list [.tuple xs, .int a, .int b] = some (.bool (decide (a ≤ (xs.length : Int)) && decide ((xs.length : Int) ≤ b))) := by
  refine runF_rt ?_
  show B_is_list [.v (.tuple xs), .v (.int a), .v (.int b)] = _
  unfold B_is_list
  have e : isiB (tyN (.tuple xs)) "tuple" = true := rfl
  simp [gV, gX, e, noIs]
  by_cases h : a ≤ (xs.length : Int) <;> simp [h]
theorem v_need_web {w : List (List Int)} (h : Web w) : g_need_web [webD w] = some .none := by
  have hp := h.pos
  have hl := h.le
  refine run_nx ?_
  show fW B_need_web [.v (webD w), .no, .no, .no, .no] _
  refine q_no (by simp [gV, webD_tR, v_is_list]; omega) ?_
  refine q_set (.int (w.length : Int)) (by simp [gX]) ?_
  refine q_chk (fun v : Sl × Sl => [.v (webD w), .v (.int (w.length : Int)), v.1, v.2, .no]) (upI w.length) (fun i => .tuple [.int i, tR (fr w i)]) (.no, .no) (by rw [← enum_web]; rfl) rfl (fun v i hi => ?_) fun v => ?_
  · obtain ⟨h0, h1⟩ := mem_upI.mp hi
    have hfl := h.frlen h0 h1
    refine ⟨_, rfl, q_no ?_ (s_no ?_ (s_nil ⟨(_, _), rfl⟩))⟩
    · have hall := h.all h0 h1
      simp [gV, gX, v_is_list]
      rw [cLc_all (fr w i) .int (fun k => decide (0 ≤ k) && decide (k ≤ (w.length : Int) - 1)) rfl rfl (fun k hk => ⟨_, rfl, rfl, by simp [gV, gX, v_is_in]⟩)]
      simp only [Option.bind_some, Option.map_some, List.map_map, e_gAllC, hall, e_isB]
      simp
      omega
    · have hne := (encInt.list).ne (fr w i) (fr w i)
      have hnot : i ∉ fr w i := fun hm => (h.inn i i h0 h1 hm).2.2 rfl
      have hs := e_sortSet (fr w i) (by omega)
      simp [gV, gX, nSortSet, hs, hne, sortD_self (h.up i h0 h1), hnot]
  · refine s_chk (fun v : Sl × Sl => [.v (webD w), .v (.int (w.length : Int)), v.1, v.2, .no]) (upI w.length) (fun i => .tuple [.int i, tR (fr w i)]) v (by rw [← enum_web]; rfl) rfl (fun v i hi => ?_) fun v => ⟨_, rfl⟩
    obtain ⟨h0, h1⟩ := mem_upI.mp hi
    refine ⟨_, rfl, s_no ?_ (s_nil ⟨(_, _), rfl⟩)⟩
    have hall : ((fr w i).any fun k => !decide (i ∈ fr w k)) = false := by
      rw [List.any_eq_false]
      intro k hk
      simp [h.sym i k h0 h1 hk]
    simp [gV, gX]
    rw [cLc_all (fr w i) .int (fun k => !decide (i ∈ fr w k)) rfl rfl (fun k hk => ⟨_, rfl, rfl, by
      have := h.inn i k h0 h1 hk
      have e := ix_web (w := w) (i := k) this.1 this.2.1
      simp [gV, gX, e]⟩)]
    simp only [Option.bind_some, Option.map_some, List.map_map, e_gAnyC, hall, e_isB]
theorem v_is_set {w : List (List Int)} {st : List Int} (h : Ppl w.length st) (hl : w.length ≤ 7) : g_is_set [webD w, tR st] = some (.bool true) := by
  have hle := h.len
  refine run_rt ?_
  show fW B_is_set [.v (webD w), .v (tR st), .no, .no] _
  refine q_set (.int (w.length : Int)) (by simp [gX]) (q_no ?_ (s_ret _ ?_ rfl))
  · simp [gV, gX, v_is_list]
    rw [cLc_all st .int (fun k => decide (0 ≤ k) && decide (k ≤ (w.length : Int) - 1)) rfl rfl (fun k hk => ⟨_, rfl, rfl, by simp [gV, gX, v_is_in]⟩)]
    simp only [Option.bind_some, Option.map_some, List.map_map, e_gAllC, h.all, e_isB]
    simp
    omega
  · have hq := (encInt.list).eq st st
    have hs := e_sortSet st (by omega)
    simp [gV, gX, nSortSet, hs, hq, sortD_self h.up]
theorem v_need_state {w : List (List Int)} {st : List Int} (h : Web w) (hs : Ppl w.length st) : g_need_state [webD w, tR st] = some .none := by
  refine run_nx ?_
  show fW B_need_state [.v (webD w), .v (tR st)] _
  exact q_drop _ (by simp [gV, v_need_web h]; rfl) (s_no (by simp [gV, v_is_set hs h.le]) (s_nil ⟨_, rfl⟩))
theorem v_pairs_in {w : List (List Int)} (h : Web w) : g_pairs_in [webD w] = some (.list ((prs w).map edgeD)) := by
  have hl := h.le
  have hlen := prs_len h
  have hlen2 : ((prs w).map edgeD).length ≤ 49 := by rw [List.length_map]; exact hlen
  rw [prs_map] at hlen2 ⊢
  refine run_rt ?_
  show fW B_pairs_in [.v (webD w), .no, .no, .no] _
  refine q_seto [] rfl ?_
  refine q_app (fun acc (v : Sl × Sl) => [.v (webD w), .ol acc, v.1, v.2]) (upI w.length) .int (fun i => ((fr w i).filter fun k => decide (i < k)).map fun k => edgeD (i, k)) 49 [] (.no, .no) (by simp [gX]; exact gRng1_upI _ (by omega)) rfl (by simpa using hlen2) (fun acc v i hi hN => ?_) fun v => s_ret _ rfl (by simp)
  obtain ⟨h0, h1⟩ := mem_upI.mp hi
  refine ⟨_, rfl, ?_⟩
  rw [← flatMap_if] at hN ⊢
  refine s_app (fun acc (v : Sl) => [.v (webD w), .ol acc, .v (.int i), v]) (fr w i) .int (fun k => if decide (i < k) = true then [edgeD (i, k)] else []) 49 acc v.2 (by simp [gX, ix_web h0 h1]) rfl hN (fun acc v k hk hN => ?_) fun v => ⟨(_, _), rfl⟩
  refine ⟨_, rfl, s_if (decide (i < k)) (by simp [gX]) (fun c => ?_) fun c => ?_⟩
  · rw [if_pos c] at hN ⊢
    exact s_app1 (edgeD (i, k)) rfl rfl (by have : acc.length + 1 ≤ 49 := hN; rw [sizeLine_eq]; omega) ⟨_, rfl⟩
  · rw [if_neg (by rw [c]; simp)]
    exact s_nil ⟨_, by rw [List.append_nil]; rfl⟩
theorem v_taller_in {w : List (List Int)} {p : Int} (h0 : 0 ≤ p) (h1 : p < w.length) : g_taller_in [webD w, .int p] = some (tR ((fr w p).filter fun k => decide (p < k))) := by
  refine run_rt ?_
  show fW B_taller_in [.v (webD w), .v (.int p), .no] _
  refine s_ret _ ?_ rfl
  simp only [e_aOf, e_aCons, e_aNil, Option.map_some]
  rw [cLc_map (fr w p) .int (fun k => decide (p < k)) .int (by simp [gX, ix_web h0 h1]) rfl (fun k hk => ⟨_, rfl, by simp [gX], fun _ => rfl⟩)]
  rfl
theorem v_peaks_in {w : List (List Int)} {st : List Int} (h : Web w) (hs : Ppl w.length st) : g_peaks_in [webD w, tR st] = some (tR (st.filter fun x => !has w st (fun x k => decide (x < k)) x)) := by
  have hl := hs.len
  have hl2 := h.le
  refine run_rt ?_
  show fW B_peaks_in [.v (webD w), .v (tR st), .no, .no, .no] _
  refine q_seto [] rfl ?_
  refine q_app (fun acc (v : Sl) => [.v (webD w), .v (tR st), .ol acc, v, .no]) st .int (fun x => if (!has w st (fun x k => decide (x < k)) x) = true then [.int x] else []) 49 [] .no rfl rfl ?_ (fun acc v x hx hN => ?_) fun v => s_ret _ rfl ?_
  · rw [flatMap_if, List.length_map]
    have := List.length_filter_le (fun x => !has w st (fun x k => decide (x < k)) x) st
    simp; omega
  · obtain ⟨h0, h1⟩ := hs.inn x hx
    refine ⟨_, rfl, s_if (!has w st (fun x k => decide (x < k)) x) ?_ (fun c => ?_) fun c => ?_⟩
    · simp only [e_bNot, e_bB, e_aOf, e_aCons, e_aNil, Option.map_some]
      rw [cLc_all (fr w x) .int (fun k => decide (x < k) && decide (k ∈ st)) (by simp [gX, ix_web h0 h1]) rfl (fun k hk => ⟨_, rfl, rfl, by
        simp [gX]
        by_cases c : x < k <;> simp [c]⟩)]
      simp only [Option.bind_some, Option.map_some, List.map_map, e_gAnyC, e_isB]
      rfl
    · rw [if_pos c] at hN ⊢
      exact s_app1 (.int x) rfl rfl (by have : acc.length + 1 ≤ 49 := hN; rw [sizeLine_eq]; omega) ⟨_, rfl⟩
    · rw [if_neg (by rw [c]; simp)]
      exact s_nil ⟨_, by rw [List.append_nil]; rfl⟩
  · rw [flatMap_if]; rfl
theorem v_peaks {w : List (List Int)} {st : List Int} (h : Web w) (hs : Ppl w.length st) : g_peaks [webD w, tR st] = some (tR (st.filter fun x => !has w st (fun x k => decide (x < k)) x)) := by
  refine run_rt ?_
  show fW B_peaks [.v (webD w), .v (tR st)] _
  exact q_drop _ (by simp [gV, v_need_state h hs]; rfl) (s_ret _ (by simp [gV, v_peaks_in h hs]) rfl)
theorem v_everybody {w : List (List Int)} (h : Web w) : g_everybody [webD w] = some (tR (upI w.length)) := by
  have hl := h.le
  refine run_rt ?_
  show fW B_everybody [.v (webD w)] _
  exact q_drop _ (by simp [gV, v_need_web h]; rfl) (s_ret _ (tupRg_upI (by omega) (by simp [gX])) rfl)
theorem v_standing_pairs {w : List (List Int)} {st : List Int} (h : Web w) (hs : Ppl w.length st) : g_standing_pairs [webD w, tR st] = some (.tuple (((prs w).filter (both st)).map edgeD)) := by
  have hl2 := prs_len h
  refine run_rt ?_
  show fW B_standing_pairs [.v (webD w), .v (tR st), .no, .no] _
  refine q_drop _ (by simp [gV, v_need_state h hs]; rfl) (q_seto [] rfl ?_)
  refine q_app (fun acc (v : Sl) => [.v (webD w), .v (tR st), .ol acc, v]) (prs w) edgeD (fun x => if both st x = true then [edgeD x] else []) 49 [] .no (by simp [gV, v_pairs_in h]) rfl ?_ (fun acc v x hx hN => ?_) fun v => s_ret _ rfl ?_
  · rw [flatMap_if, List.length_map]
    have := List.length_filter_le (both st) (prs w)
    simp only [List.length_nil]; omega
  · refine ⟨_, rfl, s_if (both st x) ?_ (fun c => ?_) fun c => ?_⟩
    · simp [gX, ixE0, ixE1]
      unfold both
      by_cases c : x.1 ∈ st <;> simp [c]
    · rw [if_pos c] at hN ⊢
      exact s_app1 (edgeD x) rfl rfl (by have : acc.length + 1 ≤ 49 := hN; rw [sizeLine_eq]; omega) ⟨_, rfl⟩
    · rw [if_neg (by rw [c]; simp)]
      exact s_nil ⟨_, by rw [List.append_nil]; rfl⟩
  · rw [flatMap_if]; rfl
theorem v_apart_in {w : List (List Int)} {st : List Int} (h : Web w) (hs : Ppl w.length st) : g_apart_in [webD w, tR st] = some (.bool (!(st.flatMap fun x => st.map fun y => decide (y ∈ fr w x)).any id)) := by
  have hl := hs.len
  have hl2 := h.le
  refine run_rt ?_
  show fW B_apart_in [.v (webD w), .v (tR st), .no, .no] _
  refine s_ret _ ?_ rfl
  simp only [e_vNot, e_aOf, e_aCons, e_aNil, Option.map_some]
  rw [cLc2_map st .int (fun _ => st) (fun x y => .bool (decide (y ∈ fr w x))) rfl rfl (fun x hx => ⟨_, rfl, rfl, by
    obtain ⟨h0, h1⟩ := hs.inn x hx
    rw [cLc_map st .int (fun _ => true) (fun y => .bool (decide (y ∈ fr w x))) rfl rfl (fun y hy => ⟨_, rfl, rfl, fun _ => by simp [gX, ix_web h0 h1]⟩)]
    rw [List.filter_eq_self.mpr fun _ _ => rfl]⟩) (by
      have := flatMap_len (fun x => st.map fun y => PyData.bool (decide (y ∈ fr w x))) 7 st (fun x hx => by rw [List.length_map]; omega)
      rw [sizeLine_eq]; omega)]
  have e : (st.flatMap fun x => st.map fun y => PyData.bool (decide (y ∈ fr w x))) = (st.flatMap fun x => st.map fun y => decide (y ∈ fr w x)).map .bool := by
    rw [List.map_flatMap]
    congr 1
    funext x
    rw [List.map_map]; rfl
  rw [e]
  simp only [Option.bind_some, Option.map_some, e_gAny, e_isB]
theorem v_is_end {w : List (List Int)} {st : List Int} (h : Web w) (hs : Ppl w.length st) : g_is_end [webD w, tR st] = some (.bool (!(st.flatMap fun x => st.map fun y => decide (y ∈ fr w x)).any id)) := by
  refine run_rt ?_
  show fW B_is_end [.v (webD w), .v (tR st)] _
  exact q_drop _ (by simp [gV, v_need_state h hs]; rfl) (s_ret _ (by simp [gV, v_apart_in h hs]) rfl)
theorem w_web {most : Int} {K : D → Prop} (h1 : 1 ≤ most) (h2 : most ≤ 7) (k : ∀ w, Web w → (w.length : Int) ≤ most → K (webD w)) : w__law_web [.int most] K := by
  refine clo_in ?_
  show T__law_web [.row, .v (.int most), .no, .no, .no, .no, .no] _
  refine ⟨_, rfl, rfl, _, rfl, most, rfl, by omega, by omega, fun m hm0 hm1 => ⟨_, rfl, _, rfl, _, _, rfl, ?_⟩⟩
  refine ⟨_, rfl, rfl, _, rfl, 3, rfl, by omega, by omega, fun r hr0 hr1 => ⟨_, rfl, ?_⟩⟩
  have hn : (1 + m) = (((1 + m).toNat : Nat) : Int) := by omega
  generalize (1 + m).toNat = n at hn
  rw [hn]
  refine ⟨_, gRng1_upI n (by omega), ?_⟩
  refine forW_inv (fun s : List (Int × Int) × Sl => [.row, .v (.int most), .v (.int n), .v (.list (s.1.map edgeD)), .v (.int (2 + r)), s.2, .no]) (fun i s => (∀ e ∈ s.1, 0 ≤ e.1 ∧ e.1 < n ∧ 0 ≤ e.2 ∧ e.2 < n ∧ e.1 ≠ e.2) ∧ s.1.length ≤ 7 * i) 10 (upI n) 0 ([], .no) (by rw [upI_length]; omega) ⟨(fun e h => by cases h), Nat.le_refl _⟩ (fun i s x K' hx hi hJ hK => ?_) fun s hs => ?_
  · obtain ⟨h0, h3⟩ := mem_upI.mp hx
    refine ⟨_, rfl, _, rfl, rfl, _, gRng2_frTo (x + 1) n (by omega) (by omega) (by omega) (by omega), ?_⟩
    refine lcV_sub (E := fun y => edgeD (x, y)) (frTo (x + 1) n) [] (fun y hy => ⟨_, rfl, fun K2 hK2 => ?_, fun K2 hK2 => ⟨_, rfl, hK2⟩⟩) fun ys hys => ?_
    · exact ⟨rfl, _, rfl, 2 + r, rfl, by omega, by omega, fun k _ _ => ⟨_, rfl, _, e_eq _ _, _, rfl, hK2 _⟩⟩
    · have hin : ∀ y ∈ ys, x + 1 ≤ y ∧ y < n := fun y hy => mem_frTo.mp (hys.subset hy)
      have hlen : ys.length ≤ 7 := by
        have a := hys.length_le
        have b : (frTo (x + 1) n).length = ((n : Int) - (x + 1)).toNat := by unfold frTo; rw [List.length_map, List.length_range]
        omega
      refine ⟨.list ((s.1 ++ ys.map fun y => (x, y)).map edgeD), ?_, hK (s.1 ++ ys.map fun y => (x, y), .v (.int x)) ⟨fun e he => ?_, ?_⟩⟩
      · show (if _ then _ else _) = _
        rw [if_pos (by rw [List.length_map, List.length_append, List.length_map, List.length_nil, sizeLine_eq]; have := hJ.2; omega), List.map_append, List.map_map, List.nil_append]
        rfl
      · rcases List.mem_append.mp he with he | he
        · exact hJ.1 e he
        · obtain ⟨y, hy, rfl⟩ := List.mem_map.mp he
          have := hin y hy
          simp only; omega
      · rw [List.length_append, List.length_map]
        have := hJ.2
        omega
  · refine ⟨_, rfl, _, rfl, n, s.1, rfl, by omega, ?_, fun e he => ?_, ?_⟩
    · have := hs.2; rw [upI_length] at this; omega
    · have := hs.1 e he; omega
    · exact k (webBy n s.1) (web_webBy (by omega) (by omega) hs.1) (by rw [webBy_len]; omega)
/-- who hangs together with p among the people of st -/
inductive Con (w : List (List Int)) (st : List Int) (p : Int) : Int → Prop
  | refl : Con w st p p
  | step {x y : Int} : Con w st p x → y ∈ st → y ∈ fr w x → Con w st p y
theorem Con.mem {w : List (List Int)} {st : List Int} {p x : Int} (h : Con w st p x) (hp : p ∈ st) : x ∈ st := by
  cases h with
  | refl => exact hp
  | step _ h _ => exact h
theorem Con.trans {w : List (List Int)} {st : List Int} {p q x : Int} (h1 : Con w st p q) (h2 : Con w st q x) : Con w st p x := by
  induction h2 with
  | refl => exact h1
  | step _ a b ih => exact .step ih a b
theorem Con.symm {w : List (List Int)} {st : List Int} (h : Web w) (hs : Ppl w.length st) {p x : Int} (hp : p ∈ st) (h1 : Con w st p x) : Con w st x p := by
  induction h1 with
  | refl => exact .refl
  | @step x y c a b ih =>
    have hx := c.mem hp
    obtain ⟨x0, x1⟩ := hs.inn x hx
    exact Con.trans (.step .refl hx (h.sym x y x0 x1 b)) ih
/-- the group of p -/
noncomputable def cmpM (w : List (List Int)) (st : List Int) (p : Int) : List Int := by
  classical exact st.filter fun x => decide (Con w st p x)
theorem mem_cmpM {w : List (List Int)} {st : List Int} {p x : Int} : x ∈ cmpM w st p ↔ x ∈ st ∧ Con w st p x := by
  classical
  unfold cmpM
  rw [List.mem_filter, decide_eq_true_eq]
theorem cmpM_sub {w : List (List Int)} {st : List Int} {p : Int} : (cmpM w st p).Sublist st := List.filter_sublist
theorem cmpM_eq {w : List (List Int)} {st : List Int} (h : Web w) (hs : Ppl w.length st) {p q : Int} (hp : p ∈ st) (h1 : Con w st p q) : cmpM w st q = cmpM w st p := pw_unique (hs.up.sublist cmpM_sub) (hs.up.sublist cmpM_sub) fun x => by
  rw [mem_cmpM, mem_cmpM]
  exact ⟨fun z => ⟨z.1, h1.trans z.2⟩, fun z => ⟨z.1, (h1.symm h hs hp).trans z.2⟩⟩
/-- all groups -/
noncomputable def grpsM (w : List (List Int)) (st : List Int) : List (List Int) := sortR (dedR (st.map (cmpM w st)))
theorem grps_of {w : List (List Int)} {st : List Int} {fs : List (List Int)} (hn : fs.Nodup) (hm : ∀ c, c ∈ fs ↔ c ∈ st.map (cmpM w st)) : sortR fs = grpsM w st := sortR_congr ((List.perm_ext_iff_of_nodup hn (nodup_dedR _)).mpr fun c => by rw [hm, mem_dedR])
theorem Con.closed {w : List (List Int)} {st g : List Int} {p x : Int} (hc : ∀ x ∈ g, ∀ y ∈ fr w x, y ∈ st → y ∈ g) (hp : p ∈ g) (h : Con w st p x) : x ∈ g := by
  induction h with
  | refl => exact hp
  | step _ a b ih => exact hc _ ih _ b a
theorem Con.mono {w : List (List Int)} {st left : List Int} {p x : Int} (hl : ∀ x ∈ left, x ∈ st) (h : Con w left p x) : Con w st p x := by
  induction h with
  | refl => exact .refl
  | step _ a b ih => exact .step ih (hl _ a) b
/-- the inner loop's state: a group, and who is still to be asked -/
structure GJ (w : List (List Int)) (left : List Int) (p : Int) (g l : List Int) : Prop where
  nd : g.Nodup
  sub : ∀ x ∈ g, x ∈ left
  con : ∀ x ∈ g, Con w left p x
  own : p ∈ g
  las : ∀ x ∈ l, x ∈ g
theorem v_groups_in {w : List (List Int)} {st : List Int} (h : Web w) (hs : Ppl w.length st) : g_groups_in [webD w, tR st] = some (.list ((grpsM w st).map tR)) := by
  have hl := hs.len
  have hl2 := h.le
  refine run_rt ?_
  show fW B_groups_in [.v (webD w), .v (tR st), .no, .no, .no, .no, .no, .no, .no] _
  refine q_puts [.f (.list (st.map .int)), .o []] rfl rfl ?_
  show fW _ [.v (webD w), .v (tR st), .v (.list (st.map .int)), .ol [], .no, .no, .no, .no, .no] _
  refine s_seq (s_while (fun s : (List Int × List (List Int)) × (Sl × Sl × Option D × Option D) => [.v (webD w), .v (tR st), .v (.list (s.1.1.map .int)), .ol (s.1.2.map tR), s.2.1, s.2.2.1, nv s.2.2.2.1, nv s.2.2.2.2, .no])
    (fun i s => s.1.1.Sublist st ∧ (∀ x ∈ s.1.1, ∀ y ∈ fr w x, y ∈ st → y ∈ s.1.1) ∧ s.1.2.Nodup ∧ (∀ c ∈ s.1.2, ∃ q ∈ st, q ∉ s.1.1 ∧ c = cmpM w st q) ∧ (∀ x ∈ st, x ∉ s.1.1 → cmpM w st x ∈ s.1.2) ∧ s.1.1.length + i ≤ st.length ∧ s.1.2.length ≤ i) 8 4096 0 ((st, []), (.no, .no, none, none)) (by omega)
    ⟨List.Sublist.refl _, fun _ _ y _ hy => hy, List.nodup_nil, (fun c hc => by cases hc), fun x hx hn => absurd hx hn, by simp, by simp⟩ (fun i s hJ => ?_) (by omega))
  obtain ⟨⟨left, found⟩, s4, s5, o6, o7⟩ := s
  obtain ⟨j1, j2, j3, j4, j5, j6, j7⟩ := hJ
  replace j1 : left.Sublist st := j1
  replace j2 : ∀ x ∈ left, ∀ y ∈ fr w x, y ∈ st → y ∈ left := j2
  replace j3 : found.Nodup := j3
  replace j4 : ∀ c ∈ found, ∃ q ∈ st, q ∉ left ∧ c = cmpM w st q := j4
  replace j5 : ∀ x ∈ st, x ∉ left → cmpM w st x ∈ found := j5
  replace j6 : left.length + i ≤ st.length := j6
  replace j7 : found.length ≤ i := j7
  have htest : bB (b2 dNe (gX 2) (fun ρ => (aNil ρ).map PyData.list)) [.v (webD w), .v (tR st), .v (.list (left.map .int)), .ol (found.map tR), s4, s5, nv o6, nv o7, .no] = some (!decide (left = [])) := cmp_b (p := .list (left.map .int)) rfl (q := .list []) rfl (neL left)
  cases left with
  | nil =>
    refine .inr ⟨by rw [htest]; rfl, ?_⟩
    refine s_ret (.list ((grpsM w st).map tR)) ?_ rfl
    have hg : (aOf gSrt (aCons (gX 3) aNil)) [.v (webD w), .v (tR st), .v (.list (([] : List Int).map .int)), .ol (found.map tR), s4, s5, nv o6, nv o7, .no] = some ((grpsM w st).map tR) := by
      refine call1_of (p := .list (found.map tR)) rfl ?_
      rw [srt_R, grps_of j3 fun c => ?_]
      rw [List.mem_map]
      constructor
      · intro hc
        obtain ⟨q, q1, _, q3⟩ := j4 c hc
        exact ⟨q, q1, q3.symm⟩
      · rintro ⟨q, q1, rfl⟩
        exact j5 q q1 (by simp)
    show Option.map PyData.list _ = _
    rw [hg]; rfl
  | cons p rest =>
    have hpl : p ∈ p :: rest := List.mem_cons_self
    have hps := j1.subset hpl
    have hll : (p :: rest).length ≤ 7 := by have := j1.length_le; omega
    generalize hleft : p :: rest = left at j1 j2 j4 j5 j6 htest hpl hll
    have hln : left ≠ [] := by rw [← hleft]; simp
    have hi : i < 8 := by omega
    refine .inl ⟨hi, by rw [htest]; simp [hln], ?_⟩
    have hix : (b2 dIx (gX 2) (gC (.int 0))) [.v (webD w), .v (tR st), .v (.list (left.map .int)), .ol (found.map tR), s4, s5, nv o6, nv o7, .no] = some (.int p) := by
      subst hleft
      refine (b2_of (p := .list ((p :: rest).map .int)) rfl (q := .int 0) rfl).trans ?_
      show atI (.int p :: rest.map PyData.int) 0 = _
      unfold atI ixN
      rw [if_pos (by omega), if_pos (by simp)]; rfl
    refine q_puts [.o [.int p], .o [.int p]] ?_ rfl ?_
    · show (Option.bind _ _) = _
      simp only [e_pO, e_pNil, e_aCons, e_aNil, hix, Option.bind_some, Option.map_some]
    show fW _ [.v (webD w), .v (tR st), .v (.list (left.map .int)), .ol (found.map tR), .ol ([p].map .int), .ol ([p].map .int), nv o6, nv o7, .no] _
    refine s_seq (s_while (fun s : (List Int × List Int) × (Option D × Option D) => [.v (webD w), .v (tR st), .v (.list (left.map .int)), .ol (found.map tR), .ol (s.1.1.map .int), .ol (s.1.2.map .int), nv s.2.1, nv s.2.2, .no])
      (fun i s => GJ w left p s.1.1 s.1.2 ∧ (∀ x ∈ s.1.1, x ∉ s.1.2 → ∀ y ∈ fr w x, y ∈ left → y ∈ s.1.1) ∧ s.1.2.length + 14 + i ≤ 13 + 2 * s.1.1.length) 14 4096 0 (([p], [p]), (o6, o7)) (by omega)
      ⟨⟨by simp, fun x hx => by rw [List.mem_singleton.mp hx]; exact hpl, fun x hx => by rw [List.mem_singleton.mp hx]; exact .refl, by simp, fun x hx => hx⟩, fun x hx hn => absurd hx hn, by simp⟩ (fun i s hJ => ?_) (by omega))
    obtain ⟨⟨g, l⟩, o6, o7⟩ := s
    obtain ⟨k1, k2, k3⟩ := hJ
    replace k1 : GJ w left p g l := k1
    replace k2 : ∀ x ∈ g, x ∉ l → ∀ y ∈ fr w x, y ∈ left → y ∈ g := k2
    replace k3 : l.length + 14 + i ≤ 13 + 2 * g.length := k3
    have hgl : g.length ≤ 7 := Nat.le_trans (nodup_len k1.nd k1.sub) hll
    have htest2 : bB (b2 dNe (gX 5) (fun ρ => (aNil ρ).map PyData.list)) [.v (webD w), .v (tR st), .v (.list (left.map .int)), .ol (found.map tR), .ol (g.map .int), .ol (l.map .int), nv o6, nv o7, .no] = some (!decide (l = [])) := cmp_b (p := .list (l.map .int)) rfl (q := .list []) rfl (neL l)
    rcases List.eq_nil_or_concat l with rfl | ⟨l0, here, hle⟩
    · refine .inr ⟨by rw [htest2]; rfl, ?_⟩
      have hgc : ∀ x ∈ g, ∀ y ∈ fr w x, y ∈ left → y ∈ g := fun x hx => k2 x hx (by simp)
      have hgm : ∀ x, x ∈ g ↔ x ∈ cmpM w st p := fun x => by
        rw [mem_cmpM]
        constructor
        · intro hx
          exact ⟨j1.subset (k1.sub x hx), (k1.con x hx).mono fun y hy => j1.subset hy⟩
        · rintro ⟨_, hc⟩
          have key : ∀ x, Con w st p x → x ∈ g := fun x hc => by
            induction hc with
            | refl => exact k1.own
            | @step a b _ hb hf ih => exact hgc a ih b hf (j2 a (k1.sub a ih) b hf hb)
          exact key x hc
      have hperm : g.Perm (cmpM w st p) := (List.perm_ext_iff_of_nodup k1.nd (pw_nodup (hs.up.sublist cmpM_sub))).mpr hgm
      refine q_app1 (tR (cmpM w st p)) rfl ?_ ?_ ?_
      · have hg : (aOf gSrt (aCons (gX 4) aNil)) [.v (webD w), .v (tR st), .v (.list (left.map .int)), .ol (found.map tR), .ol (g.map .int), .ol (([] : List Int).map .int), nv o6, nv o7, .no] = some ((cmpM w st p).map .int) := call1_of (p := .list (g.map .int)) rfl (srt_IL hperm (hs.up.sublist cmpM_sub))
        refine call1_of (p := .list ((cmpM w st p).map .int)) ?_ rfl
        show Option.map PyData.list _ = _
        rw [hg]; rfl
      · rw [List.length_map, sizeLine_eq]; omega
      have hpg := k1.own
      refine s_setl ((left.filter fun x => !decide (x ∈ g)).map .int) ?_ ⟨((left.filter fun x => !decide (x ∈ g), found ++ [cmpM w st p]), (.ol (g.map .int), .ol [], o6, o7)), by simp, List.filter_sublist.trans j1, fun x hx y hy hys => ?_, ?_, fun c hc => ?_, fun x hx hxn => ?_, ?_, ?_⟩
      · rw [cLc_map left .int (fun x => !decide (x ∈ g)) .int (it_L rfl) rfl (fun x hx => ⟨_, rfl, by simp [gX], fun _ => rfl⟩)]
      · obtain ⟨x1, x2⟩ := List.mem_filter.mp hx
        have hyl := j2 x x1 y hy hys
        refine List.mem_filter.mpr ⟨hyl, ?_⟩
        rw [Bool.not_eq_true', decide_eq_false_iff_not]
        intro hyg
        obtain ⟨i0, i1⟩ := hs.inn x (j1.subset x1)
        have := hgc y hyg x (h.sym x y i0 i1 hy) x1
        simp [this] at x2
      · refine List.nodup_append.mpr ⟨j3, by simp, fun a ha b hb z => ?_⟩
        subst z
        have hb' := List.mem_singleton.mp hb
        obtain ⟨q, q1, q2, q3⟩ := j4 a ha
        have hpq : p ∈ cmpM w st q := by rw [← q3, hb']; exact (hgm p).mp hpg
        have hc := ((mem_cmpM.mp hpq).2).symm h hs q1
        exact q2 (Con.closed j2 hpl hc)
      · rcases List.mem_append.mp hc with hc | hc
        · obtain ⟨q, q1, q2, q3⟩ := j4 c hc
          exact ⟨q, q1, fun z => q2 (List.mem_filter.mp z).1, q3⟩
        · exact ⟨p, hps, (fun z => by have := (List.mem_filter.mp z).2; simp [hpg] at this), List.mem_singleton.mp hc⟩
      · by_cases c : x ∈ left
        · have hxg : x ∈ g := by
            apply Classical.byContradiction
            intro hn
            exact hxn (List.mem_filter.mpr ⟨c, by simp [hn]⟩)
          rw [cmpM_eq h hs hps (mem_cmpM.mp ((hgm x).mp hxg)).2]
          simp
        · exact List.mem_append_left _ (j5 x hx c)
      · have hlt : (left.filter fun x => !decide (x ∈ g)).length < left.length := List.length_filter_lt_length_iff_exists.mpr ⟨p, hpl, by simp [hpg]⟩
        show (left.filter fun x => !decide (x ∈ g)).length + (_ + 1) ≤ _
        omega
      · show (found ++ [_]).length ≤ _ + 1
        rw [List.length_append]; simp; omega
    · rw [List.concat_eq_append] at hle
      subst hle
      have hhg : here ∈ g := k1.las here (by simp)
      have hhl := k1.sub here hhg
      obtain ⟨h0, h1⟩ := hs.inn here (j1.subset hhl)
      rw [List.length_append, List.length_singleton] at k3
      refine .inl ⟨by omega, by rw [htest2]; simp, ?_⟩
      refine s_seq ⟨_, e_sPop (ps := l0.map .int) (p := .int here) (by simp), ?_⟩
      show fW _ [.v (webD w), .v (tR st), .v (.list (left.map .int)), .ol (found.map tR), .ol (g.map .int), .ol (l0.map .int), .v (.int here), nv o7, .no] _
      refine s_inv (fun s : (List Int × List Int) × Option D => [.v (webD w), .v (tR st), .v (.list (left.map .int)), .ol (found.map tR), .ol (s.1.1.map .int), .ol (s.1.2.map .int), .v (.int here), nv s.2, .no]) (fr w here) .int
        (fun j s => GJ w left p s.1.1 s.1.2 ∧ here ∈ s.1.1 ∧ (∀ x ∈ s.1.1, x ∉ s.1.2 → x ≠ here → ∀ y ∈ fr w x, y ∈ left → y ∈ s.1.1) ∧ (∀ y ∈ (fr w here).take j, y ∈ left → y ∈ s.1.1) ∧ s.1.2.length + 15 + i ≤ 13 + 2 * s.1.1.length) ((g, l0), o7) (it_T ((b2_of (p := webD w) rfl (q := .int here) rfl).trans (ix_web h0 h1))) rfl
        ⟨⟨k1.nd, k1.sub, k1.con, k1.own, fun x hx => k1.las x (by simp [hx])⟩, hhg, fun x hx hn hne => k2 x hx (by simp [hn, hne]), (fun y hy => by simp at hy), by simp; omega⟩ (fun j s y hy hJ => ?_) fun s hJ => ?_
      · obtain ⟨⟨g, l⟩, o⟩ := s
        obtain ⟨q1, q2, q3, q4, q5⟩ := hJ
        replace q1 : GJ w left p g l := q1
        replace q2 : here ∈ g := q2
        replace q3 : ∀ x ∈ g, x ∉ l → x ≠ here → ∀ y ∈ fr w x, y ∈ left → y ∈ g := q3
        replace q4 : ∀ y ∈ (fr w here).take j, y ∈ left → y ∈ g := q4
        replace q5 : l.length + 15 + i ≤ 13 + 2 * g.length := q5
        have hyf := List.mem_of_getElem? hy
        have hgl2 : g.length ≤ 7 := Nat.le_trans (nodup_len q1.nd q1.sub) hll
        have htk : ∀ z, z ∈ (fr w here).take (j + 1) → z ∈ (fr w here).take j ∨ z = y := fun z hz => by
          rw [List.take_add_one, hy] at hz
          simpa using hz
        refine ⟨_, rfl, s_if (decide (y ∈ left) && !decide (y ∈ g)) (and_b (by simp [gX]) fun _ => by simp [gX]) (fun c => ?_) fun c => ?_⟩
        · rw [Bool.and_eq_true, decide_eq_true_eq, Bool.not_eq_true', decide_eq_false_iff_not] at c
          refine q_app1 (.int y) rfl rfl (by show (g.map _).length < sizeLine; rw [List.length_map, sizeLine_eq]; omega) (s_app1 (.int y) rfl rfl (by show (l.map _).length < sizeLine; rw [List.length_map, sizeLine_eq]; omega) ⟨((g ++ [y], l ++ [y]), some (.int y)), by simp, ⟨?_, fun x hx => ?_, fun x hx => ?_, List.mem_append_left _ q1.own, fun x hx => ?_⟩, List.mem_append_left _ q2, fun x hx hn hne z hz hzl => ?_, fun z hz hzl => ?_, ?_⟩)
          · exact List.nodup_append.mpr ⟨q1.nd, by simp, fun a ha b hb z => by
              subst z
              rw [List.mem_singleton.mp hb] at ha
              exact c.2 ha⟩
          · rcases List.mem_append.mp hx with hx | hx
            · exact q1.sub x hx
            · rw [List.mem_singleton.mp hx]; exact c.1
          · rcases List.mem_append.mp hx with hx | hx
            · exact q1.con x hx
            · rw [List.mem_singleton.mp hx]; exact .step (q1.con here q2) c.1 hyf
          · rcases List.mem_append.mp hx with hx | hx
            · exact List.mem_append_left _ (q1.las x hx)
            · exact List.mem_append_right _ hx
          · rcases List.mem_append.mp hx with hx | hx
            · exact List.mem_append_left _ (q3 x hx (fun z => hn (List.mem_append_left _ z)) hne z hz hzl)
            · exact absurd (List.mem_append_right _ hx) hn
          · rcases htk z hz with hz | rfl
            · exact List.mem_append_left _ (q4 z hz hzl)
            · exact List.mem_append_right _ (by simp)
          · show (l ++ [y]).length + 15 + i ≤ 13 + 2 * (g ++ [y]).length
            rw [List.length_append, List.length_append]; simp; omega
        · refine s_nil ⟨((g, l), some (.int y)), rfl, q1, q2, q3, fun z hz hzl => ?_, q5⟩
          rcases htk z hz with hz | rfl
          · exact q4 z hz hzl
          · apply Classical.byContradiction
            intro hn
            rw [decide_eq_true hzl, decide_eq_false hn] at c
            cases c
      · obtain ⟨⟨g, l⟩, o⟩ := s
        obtain ⟨q1, q2, q3, q4, q5⟩ := hJ
        replace q3 : ∀ x ∈ g, x ∉ l → x ≠ here → ∀ y ∈ fr w x, y ∈ left → y ∈ g := q3
        rw [List.take_length] at q4
        replace q4 : ∀ y ∈ fr w here, y ∈ left → y ∈ g := q4
        replace q5 : l.length + 15 + i ≤ 13 + 2 * g.length := q5
        refine ⟨((g, l), (some (.int here), o)), rfl, q1, fun x hx hn y hy hyl => ?_, by show l.length + 14 + (i + 1) ≤ 13 + 2 * g.length; omega⟩
        by_cases e : x = here
        · subst e; exact q4 y hy hyl
        · exact q3 x hx hn e y hy hyl
theorem v_groups {w : List (List Int)} {st : List Int} (h : Web w) (hs : Ppl w.length st) : g_groups [webD w, tR st] = some (.tuple ((grpsM w st).map tR)) := by
  refine run_rt ?_
  show fW B_groups [.v (webD w), .v (tR st)] _
  exact q_drop _ (by simp [gV, v_need_state h hs]; rfl) (s_ret _ (by simp [gV, v_groups_in h hs]) rfl)
theorem v_call_in {w : List (List Int)} {st : List Int} {p : Int} (h0 : 0 ≤ p) (h1 : p < w.length) : g_call_in [webD w, tR st, .int p] = some (tR (callM w st p)) := by
  refine run_rt ?_
  show fW B_call_in [.v (webD w), .v (tR st), .v (.int p), .no] _
  unfold callM
  by_cases c : p ∈ st
  · rw [if_pos c]
    refine q_no (by simp [gX, c]) (s_ret _ ?_ rfl)
    simp only [e_aOf, e_aCons, e_aNil, Option.map_some]
    rw [cLc_map st .int (fun o => decide (p ≤ o) || !decide (o ∈ fr w p)) .int rfl rfl (fun o ho => ⟨_, rfl, by
      simp [gX, ix_web h0 h1]
      by_cases d : p ≤ o <;> simp [d], fun _ => rfl⟩)]
    rfl
  · rw [if_neg c]
    exact s_seq (s_yes (by simp [gX, c]) (s_ret _ rfl rfl))
theorem v_story_in {w : List (List Int)} {st cs : List Int} (hr : Row w.length cs) (hl : cs.length ≤ 1000) : g_story_in [webD w, tR st, tR cs] = some (.list (stories w st cs (cs.length + 1))) := by
  refine run_rt ?_
  show fW B_story_in [.v (webD w), .v (tR st), .v (tR cs), .no, .no] _
  refine q_seto [tR st] rfl ?_
  refine q_inv (fun (s : List D × Sl) => [.v (webD w), .v (tR st), .v (tR cs), .ol s.1, s.2]) cs .int (fun i s => s.1 = stories w st cs (i + 1)) ([tR st], .no) rfl rfl (by unfold stories; simp [stAt]) (fun i s c hc hJ => ?_) fun s hs => s_ret _ (by simp [gX, hs]) rfl
  obtain ⟨h0, h1⟩ := hr c (List.mem_of_getElem? hc)
  have hi := (List.getElem?_eq_some_iff.mp hc).1
  refine ⟨_, rfl, s_app1 (tR (stAt w st cs (i + 1))) rfl ?_ (by rw [hJ, stories_len, sizeLine_eq]; omega) ⟨(_, _), rfl, ?_⟩⟩
  · simp [gV, gX, hJ, ix_storiesL, v_call_in h0 h1, stAt_succ hc]
  · show s.1 ++ _ = _
    rw [hJ, stories_succ w st cs (i + 1)]
theorem v_need_people {w : List (List Int)} {ps : List Int} (h : Web w) (hp : Ppl w.length ps) : g_need_people [webD w, tR ps] = some .none := by
  refine run_nx ?_
  show fW B_need_people [.v (webD w), .v (tR ps)] _
  exact s_no (by simp [gV, v_is_set hp h.le]) (s_nil ⟨_, rfl⟩)
theorem w_pick {ps : List D} {K : D → Prop} (h1 : 1 ≤ ps.length) (h2 : ps.length ≤ 1000) (k : ∀ p ∈ ps, K p) : w__law_pick [.list ps] K := by
  refine clo_in ?_
  show T__law_pick [.row, .v (.list ps)] _
  refine ⟨_, rfl, rfl, _, rfl, ps.length, rfl, by omega, by omega, fun m hm0 hm1 => ?_⟩
  obtain ⟨x, a, b⟩ := atI_ix ps m hm0 hm1
  exact ⟨x, b, k x (List.mem_of_getElem? a)⟩
theorem v_choices {st : List Int} (h : st.length ≤ 12) : g_choices [tR st] = some (.list ((chM st).map tR)) := by
  refine run_rt ?_
  show fW B_choices [.v (tR st), .no, .no, .no] _
  refine q_seto [tR []] rfl ?_
  refine q_inv (fun s : List (List Int) × Option D => [.v (tR st), .ol (s.1.map tR), nv s.2, .no]) st .int (fun i s => s.1 = chM (st.take i)) ([[]], none) rfl rfl rfl (fun i s c hc hJ => ?_) fun s hs => s_ret _ rfl (by rw [hs, List.take_length])
  have hi := (List.getElem?_eq_some_iff.mp hc).1
  have e : chM (st.take (i + 1)) = s.1 ++ s.1.map (· ++ [c]) := by
    rw [List.take_add_one, hc, hJ]
    exact chM_snoc _ _
  have hl : s.1.length ≤ 2 ^ 12 := by
    rw [hJ, chM_len, List.length_take]
    exact Nat.pow_le_pow_right (by omega) (by omega)
  refine ⟨_, rfl, s_ext (ps := s.1.map tR) (s.1.map fun r => tR (r ++ [c])) rfl ?_ (by rw [List.length_map, List.length_map, sizeLine_eq]; omega) ⟨(s.1 ++ s.1.map (· ++ [c]), some (.int c)), ?_, e.symm⟩⟩
  · rw [cLcO_map s.1 tR (fun _ => true) (fun r => tR (r ++ [c])) rfl (by cases s.2 <;> rfl) (fun x hx => ⟨_, rfl, rfl, fun _ => ?_⟩)]
    · rw [List.filter_eq_self.mpr fun _ _ => rfl]
    · have : x.length ≤ 12 := by
        rw [hJ] at hx
        have := (mem_chM.mp hx).length_le
        rw [List.length_take] at this
        omega
      show (if _ then _ else _) = _
      rw [if_pos (by rw [List.length_append, List.length_map, sizeLine_eq]; simp; omega)]
      show _ = some (PyData.tuple ((x ++ [c]).map .int))
      rw [List.map_append]; rfl
  · simp only [List.map_append, List.map_map]
    rfl
theorem v_may_call {w : List (List Int)} {st goal : List Int} (h : Web w) (hs : Ppl w.length st) : g_may_call [webD w, tR st, tR goal] = some (tR (mayM w st goal)) := by
  have hl := hs.len
  have hl2 := h.le
  refine run_rt ?_
  show fW B_may_call [.v (webD w), .v (tR st), .v (tR goal), .no, .no, .no] _
  refine q_seto [] rfl ?_
  unfold mayM
  refine q_app (fun acc (v : Sl) => [.v (webD w), .v (tR st), .v (tR goal), .ol acc, v, .no]) st .int (fun x => if (!has w goal (fun x k => decide (k < x)) x) = true then [.int x] else []) 49 [] .no rfl rfl ?_ (fun acc v x hx hN => ?_) fun v => s_ret _ rfl ?_
  · rw [flatMap_if, List.length_map]
    have := List.length_filter_le (fun x => !has w goal (fun x k => decide (k < x)) x) st
    simp only [List.length_nil]; omega
  · obtain ⟨h0, h1⟩ := hs.inn x hx
    refine ⟨_, rfl, s_if (!has w goal (fun x k => decide (k < x)) x) ?_ (fun c => ?_) fun c => ?_⟩
    · simp only [e_bNot, e_bB, e_aOf, e_aCons, e_aNil, Option.map_some]
      rw [cLc_all (fr w x) .int (fun k => decide (k < x) && decide (k ∈ goal)) (by simp [gX, ix_web h0 h1]) rfl (fun k hk => ⟨_, rfl, rfl, by
        simp [gX]
        by_cases c : k < x <;> simp [c]⟩)]
      simp only [Option.bind_some, Option.map_some, List.map_map, e_gAnyC, e_isB]
      rfl
    · rw [if_pos c] at hN ⊢
      exact s_app1 (.int x) rfl rfl (by have : acc.length + 1 ≤ 49 := hN; rw [sizeLine_eq]; omega) ⟨_, rfl⟩
    · rw [if_neg (by rw [c]; simp)]
      exact s_nil ⟨_, by rw [List.append_nil]; rfl⟩
  · rw [flatMap_if]; rfl
theorem v_fits {w : List (List Int)} {st goal : List Int} (h : Web w) (hs : Ppl w.length st) : g_fits [webD w, tR st, tR goal] = some (.bool (fitM w st goal)) := by
  refine run_rt ?_
  show fW B_fits [.v (webD w), .v (tR st), .v (tR goal), .no, .no, .no, .no] _
  have hg : (cLc [5] (tgN 5) fYes (b2 dIn (gX 5) (gX 1)) (fItems (gV 2))) [.v (webD w), .v (tR st), .v (tR goal), .no, .no, .no, .no] = some ((goal.map fun x => decide (x ∈ st)).map .bool) :=
    cLc_all goal .int (fun x => decide (x ∈ st)) rfl rfl (fun x hx => ⟨_, rfl, rfl, by simp [gX]⟩)
  cases hb : goal.all fun x => decide (x ∈ st) with
  | false =>
    refine s_seq (s_yes (by simp only [e_bNot, e_bB, e_aOf, e_aCons, e_aNil, Option.map_some, hg, Option.bind_some, e_gAll, List.all_map, e_isB]; show some (!(goal.all fun x => decide (x ∈ st))) = _; rw [hb]; rfl) (s_ret _ rfl ?_))
    unfold fitM
    rw [hb]; rfl
  | true =>
    refine q_no (by simp only [e_bNot, e_bB, e_aOf, e_aCons, e_aNil, Option.map_some, hg, Option.bind_some, e_gAll, List.all_map, e_isB]; show some (!(goal.all fun x => decide (x ∈ st))) = _; rw [hb]; rfl) ?_
    refine q_set (tR (mayM w st goal)) (by simp [gV, v_may_call h hs]) ?_
    refine q_setl ((st.filter fun x => !decide (x ∈ goal)).map .int) ?_ ?_
    · rw [cLc_map st .int (fun x => !decide (x ∈ goal)) .int rfl rfl (fun x hx => ⟨_, rfl, by simp [gX], fun _ => rfl⟩)]
    · refine s_ret _ ?_ rfl
      simp only [e_aOf, e_aCons, e_aNil, Option.map_some]
      rw [cLc_all (st.filter fun x => !decide (x ∈ goal)) .int (fun x => ((fr w x).filter fun k => decide (x < k)).any fun k => decide (k ∈ mayM w st goal)) rfl rfl (fun x hx => ⟨_, rfl, rfl, by
        obtain ⟨h0, h1⟩ := hs.inn x (List.mem_filter.mp hx).1
        simp only [e_aOf, e_aCons, e_aNil, Option.map_some]
        rw [cLc_all ((fr w x).filter fun k => decide (x < k)) .int (fun k => decide (k ∈ mayM w st goal)) (by simp [gV, v_taller_in h0 h1]) rfl (fun k hk => ⟨_, rfl, rfl, by simp [gX]⟩)]
        simp only [Option.map_some, Option.bind_some, e_gAny, List.any_map]
        rfl⟩)]
      simp only [Option.bind_some, Option.map_some, e_gAll, List.all_map]
      unfold fitM
      rw [hb]; rfl
theorem v_need_two {w : List (List Int)} {st goal : List Int} (h : Web w) (hs : Ppl w.length st) (hg : Ppl w.length goal) : g_need_two [webD w, tR st, tR goal] = some .none := by
  refine run_nx ?_
  show fW B_need_two [.v (webD w), .v (tR st), .v (tR goal)] _
  exact q_drop _ (by simp [gV, v_need_state h hs]; rfl) (s_no (by simp [gV, v_is_set hg h.le]) (s_nil ⟨_, rfl⟩))
theorem v_can_come {w : List (List Int)} {st goal : List Int} (h : Web w) (hs : Ppl w.length st) (hg : Ppl w.length goal) : g_can_come [webD w, tR st, tR goal] = some (.bool (fitM w st goal)) := by
  refine run_rt ?_
  show fW B_can_come [.v (webD w), .v (tR st), .v (tR goal)] _
  exact q_drop _ (by simp [gV, v_need_two h hs hg]; rfl) (s_ret _ (by simp [gV, v_fits h hs]) rfl)
theorem v_apart_inM {w : List (List Int)} {st : List Int} (h : Web w) (hs : Ppl w.length st) : g_apart_in [webD w, tR st] = some (.bool (apM w st)) := v_apart_in h hs
theorem v_ends_in {w : List (List Int)} {st : List Int} (h : Web w) (hs : Ppl w.length st) : g_ends_in [webD w, tR st] = some (.list ((endsM w st).map tR)) := by
  have hl := hs.len
  have hl2 := h.le
  refine run_rt ?_
  show fW B_ends_in [.v (webD w), .v (tR st), .no] _
  refine s_ret _ ?_ rfl
  simp only [e_aOf, e_aCons, e_aNil, Option.map_some]
  rw [cLc_map (chM st) tR (fun r => apM w r && fitM w st r) tR (by simp [gV, v_choices (st := st) (by omega)]) rfl (fun r hr => ⟨_, rfl, by
    have hrs := hs.sub (mem_chM.mp hr)
    simp [gV, v_apart_inM h hrs, v_fits h hs]
    cases apM w r <;> rfl, fun _ => rfl⟩)]
  simp only [Option.bind_some, Option.map_some, srt_R]
  rfl
theorem v_ends {w : List (List Int)} {st : List Int} (h : Web w) (hs : Ppl w.length st) : g_ends [webD w, tR st] = some (.list ((endsM w st).map tR)) := by
  refine run_rt ?_
  show fW B_ends [.v (webD w), .v (tR st)] _
  exact q_drop _ (by simp [gV, v_need_state h hs]; rfl) (s_ret _ (by simp [gV, v_ends_in h hs]) rfl)
theorem v_who_can_stand {w : List (List Int)} {st : List Int} (h : Web w) (hs : Ppl w.length st) : g_who_can_stand [webD w, tR st] = some (tR (st.filter fun p => (endsM w st).any fun e => decide (p ∈ e))) := by
  refine run_rt ?_
  show fW B_who_can_stand [.v (webD w), .v (tR st), .no, .no, .no] _
  refine q_drop _ (by simp [gV, v_need_state h hs]; rfl) (q_set (.list ((endsM w st).map tR)) (by simp [gV, v_ends_in h hs]) (s_ret _ ?_ rfl))
  simp only [e_aOf, e_aCons, e_aNil, Option.map_some]
  rw [cLc_map st .int (fun p => (endsM w st).any fun e => decide (p ∈ e)) .int rfl rfl (fun p hp => ⟨_, rfl, by
    simp only [e_bB, e_aOf, e_aCons, e_aNil, Option.map_some]
    rw [cLc_all (endsM w st) tR (fun e => decide (p ∈ e)) rfl rfl (fun e he => ⟨_, rfl, rfl, by simp [gX]⟩)]
    simp only [Option.bind_some, Option.map_some, e_gAny, List.any_map, e_isB]
    rfl, fun _ => rfl⟩)]
  rfl
theorem v_can_stand_together {w : List (List Int)} {st ps : List Int} (h : Web w) (hs : Ppl w.length st) (hp : Ppl w.length ps) : g_can_stand_together [webD w, tR st, tR ps] = some (.bool ((endsM w st).any fun e => ps.all fun p => decide (p ∈ e))) := by
  refine run_rt ?_
  show fW B_can_stand_together [.v (webD w), .v (tR st), .v (tR ps), .no, .no] _
  refine q_drop _ (by simp [gV, v_need_state h hs]; rfl) (q_drop _ (by simp [gV, v_need_people h hp]; rfl) (s_ret _ ?_ rfl))
  simp only [e_aOf, e_aCons, e_aNil, Option.map_some]
  rw [cLc_all (endsM w st) tR (fun e => ps.all fun p => decide (p ∈ e)) (by simp [gV, v_ends_in h hs]) rfl (fun e he => ⟨_, rfl, rfl, by
    simp only [e_aOf, e_aCons, e_aNil, Option.map_some]
    rw [cLc_all ps .int (fun p => decide (p ∈ e)) rfl rfl (fun p hp => ⟨_, rfl, rfl, by simp [gX]⟩)]
    simp only [Option.bind_some, Option.map_some, e_gAll, List.all_map]
    rfl⟩)]
  simp only [Option.bind_some, Option.map_some, e_gAny, List.any_map]
  rfl
theorem v_greedy_in {w : List (List Int)} {st : List Int} (h : Web w) (hs : Ppl w.length st) : g_greedy_in [webD w, tR st] = some (tR (st.reverse.foldl (callM w) st)) := by
  have hl := hs.len
  have hl2 := h.le
  have hr : Row w.length st.reverse := fun c hc => hs.inn c (List.mem_reverse.mp hc)
  have hst := v_story_in (st := st) (cs := st.reverse) hr (by rw [List.length_reverse]; omega)
  have e : tR st.reverse = .tuple (st.map PyData.int).reverse := by show PyData.tuple (st.reverse.map .int) = _; rw [List.map_reverse]
  rw [e] at hst
  have hix := ix_storiesL w st st.reverse st.reverse.length
  rw [stAt_all] at hix
  refine run_rt ?_
  show fW B_greedy_in [.v (webD w), .v (tR st)] _
  refine s_ret _ ?_ rfl
  simp only [e_b2, e_aOf, e_aCons, e_aNil, e_vRev, e_dRevT, e_vNeg, e_dNeg, e_gC, gV, gX, List.getElem?_cons_zero, List.getElem?_cons_succ, Option.bind_some, Option.map_some, hst, hix]
theorem v_greedy_end {w : List (List Int)} {st : List Int} (h : Web w) (hs : Ppl w.length st) : g_greedy_end [webD w, tR st] = some (tR (st.reverse.foldl (callM w) st)) := by
  refine run_rt ?_
  show fW B_greedy_end [.v (webD w), .v (tR st)] _
  exact q_drop _ (by simp [gV, v_need_state h hs]; rfl) (s_ret _ (by simp only [e_aOf, e_aCons, e_aNil, gV, List.getElem?_cons_zero, List.getElem?_cons_succ, Option.bind_some, Option.map_some, v_greedy_in h hs]) rfl)
theorem v_apart_sets {w : List (List Int)} {st : List Int} (h : Web w) (hs : Ppl w.length st) : g_apart_sets [webD w, tR st] = some (.list ((sortR ((chM st).filter fun r => apM w r)).map tR)) := by
  have hl := hs.len
  have hl2 := h.le
  refine run_rt ?_
  show fW B_apart_sets [.v (webD w), .v (tR st), .no] _
  refine q_drop _ (by simp [gV, v_need_state h hs]; rfl) (s_ret _ ?_ rfl)
  simp only [e_aOf, e_aCons, e_aNil, Option.map_some]
  rw [cLc_map (chM st) tR (fun r => apM w r) tR (by simp [gV, v_choices (st := st) (by omega)]) rfl (fun r hr => ⟨_, rfl, by
    simp [gV, v_apart_inM h (hs.sub (mem_chM.mp hr))], fun _ => rfl⟩)]
  simp only [Option.bind_some, Option.map_some, srt_R]
/-- who could still stand beside r -/
def restM (w : List (List Int)) (st r : List Int) : List Int := st.filter fun x => !decide (x ∈ r) && !(fr w x).any fun k => decide (k ∈ r)
def fullM (w : List (List Int)) (st : List Int) : List (List Int) := sortR ((chM st).filter fun r => apM w r && decide (restM w st r = []))
theorem v_full_in {w : List (List Int)} {st : List Int} (h : Web w) (hs : Ppl w.length st) : g_full_in [webD w, tR st] = some (.list ((fullM w st).map tR)) := by
  have hl := hs.len
  have hl2 := h.le
  have hch : (chM st).length ≤ 2 ^ 7 := by rw [chM_len]; exact Nat.pow_le_pow_right (by omega) (by omega)
  refine run_rt ?_
  show fW B_full_in [.v (webD w), .v (tR st), .no, .no, .no, .no, .no] _
  refine q_seto [] rfl ?_
  refine q_app (fun acc (v : Sl × Option D) => [.v (webD w), .v (tR st), .ol acc, v.1, nv v.2, .no, .no]) (chM st) tR (fun r => if (apM w r && decide (restM w st r = [])) = true then [tR r] else []) 128 [] (.no, none) (by simp [gV, v_choices (st := st) (by omega)]) rfl ?_ (fun acc v r hr hN => ?_) fun v => s_ret _ ?_ rfl
  · rw [flatMap_if, List.length_map]
    have := List.length_filter_le (fun r => apM w r && decide (restM w st r = [])) (chM st)
    simp only [List.length_nil]; omega
  · have hrs := hs.sub (mem_chM.mp hr)
    obtain ⟨v1, v2⟩ := v
    refine ⟨_, rfl, s_if (apM w r) (by simp [gV, v_apart_inM h hrs]) (fun c => ?_) fun c => ?_⟩
    · refine q_setl ((restM w st r).map .int) ?_ ?_
      · rw [cLc_map st .int (fun x => !decide (x ∈ r) && !(fr w x).any fun k => decide (k ∈ r)) .int rfl rfl (fun x hx => ⟨_, rfl, by
          obtain ⟨h0, h1⟩ := hs.inn x hx
          rw [e_bAnd]
          have e1 : (bB (b2 dNotIn (gX 5) (gX 3))) [.v (webD w), .v (tR st), .ol acc, .v (tR r), nv v2, .v (.int x), .no] = some (!decide (x ∈ r)) := by simp [gX]
          show ((bB (b2 dNotIn (gX 5) (gX 3))) [.v (webD w), .v (tR st), .ol acc, .v (tR r), nv v2, .v (.int x), .no]).bind _ = _
          rw [e1, Option.bind_some]
          by_cases hxr : x ∈ r
          · rw [if_neg (by simpa using hxr), decide_eq_true hxr]; rfl
          · rw [if_pos (by simpa using hxr), decide_eq_false hxr, Bool.not_false, Bool.true_and]
            simp only [e_bNot, e_bB, e_aOf, e_aCons, e_aNil, Option.map_some]
            rw [cLc_all (fr w x) .int (fun k => decide (k ∈ r)) (by simp [gX, ix_web h0 h1]) rfl (fun k hk => ⟨_, rfl, rfl, by simp [gX]⟩)]
            simp only [Option.bind_some, Option.map_some, e_gAny, List.any_map, e_isB]
            rfl, fun _ => rfl⟩)]
        rfl
      · refine s_if (decide (restM w st r = [])) ?_ (fun d => ?_) fun d => ?_
        · show (dEq (.list ((restM w st r).map .int)) (.list [])).bind isB = _
          rw [eqL]; rfl
        · have hcd : (apM w r && decide (restM w st r = [])) = true := by rw [c, d]; rfl
          rw [if_pos hcd] at hN ⊢
          exact s_app1 (tR r) rfl rfl (by have : acc.length + 1 ≤ 128 := hN; rw [sizeLine_eq]; omega) ⟨(_, some _), rfl⟩
        · have hcd : ¬ (apM w r && decide (restM w st r = [])) = true := by rw [c, d]; simp
          rw [if_neg hcd]
          exact s_nil ⟨(_, some _), by rw [List.append_nil]; rfl⟩
    · have hcd : ¬ (apM w r && decide (restM w st r = [])) = true := by rw [c]; simp
      rw [if_neg hcd]
      exact s_nil ⟨(_, v2), by rw [List.append_nil]; rfl⟩
  · rw [flatMap_if, List.nil_append]
    show ((gSrt [.list _]).map PyData.list) = _
    rw [srt_R]
    rfl
theorem v_full_apart_sets {w : List (List Int)} {st : List Int} (h : Web w) (hs : Ppl w.length st) : g_full_apart_sets [webD w, tR st] = some (.list ((fullM w st).map tR)) := by
  refine run_rt ?_
  show fW B_full_apart_sets [.v (webD w), .v (tR st)] _
  exact q_drop _ (by simp [gV, v_need_state h hs]; rfl) (s_ret _ (by simp [gV, v_full_in h hs]) rfl)
theorem v_count_apart {w : List (List Int)} {st : List Int} (h : Web w) (hs : Ppl w.length st) : g_count_apart [webD w, tR st] = some (tR ((upI (w.length + 1)).map fun n => ((((chM st).filter fun r => apM w r).map fun e => (e.length : Int)).count n : Nat))) := by
  have hl := hs.len
  have hl2 := h.le
  refine run_rt ?_
  show fW B_count_apart [.v (webD w), .v (tR st), .no, .no, .no] _
  refine q_drop _ (by simp [gV, v_need_state h hs]; rfl) (q_set (.list ((((chM st).filter fun r => apM w r).map fun e => (e.length : Int)).map .int)) ?_ (s_ret _ ?_ rfl))
  · rw [cLc_map (chM st) tR (fun r => apM w r) (fun r => .int (r.length : Int)) (by simp [gV, v_choices (st := st) (by omega)]) rfl (fun r hr => ⟨_, rfl, by simp [gV, v_apart_inM h (hs.sub (mem_chM.mp hr))], fun _ => by simp [gX]⟩)]
    rw [List.map_map]
    rfl
  · simp only [e_aOf, e_aCons, e_aNil, Option.map_some]
    rw [cLc_map (upI (w.length + 1)) .int (fun _ => true) (fun n => .int ((((chM st).filter fun r => apM w r).map fun e => (e.length : Int)).count n : Nat)) (rng_of (z := (w.length + 1 : Nat)) (by simp [gX]) (gRng1_upI (w.length + 1) (by omega))) rfl (fun n hn => ⟨_, rfl, rfl, fun _ => by
      show (dCountA (.list _) (.int n)) = _
      exact e_countI _ _⟩)]
    rw [List.filter_eq_self.mpr fun _ _ => rfl]
    show some (PyData.tuple _) = some (PyData.tuple _)
    rw [List.map_map]
    rfl
theorem v_most_apart {w : List (List Int)} {st : List Int} (h : Web w) (hs : Ppl w.length st) : ∃ e, Wid ((chM st).filter fun r => apM w r) e ∧ g_most_apart [webD w, tR st] = some (irD (e.length, e)) := by
  have hl := hs.len
  have hl2 := h.le
  have hne : (chM st).filter (fun r => apM w r) ≠ [] := fun z => by
    have : [] ∈ (chM st).filter (fun r => apM w r) := by
      rw [List.mem_filter, mem_chM, apM_iff]
      exact ⟨List.nil_sublist _, fun x hx => by cases hx⟩
    rw [z] at this
    cases this
  obtain ⟨e, h1, h2⟩ := min_wide hne
  refine ⟨e, h1, run_rt ?_⟩
  show fW B_most_apart [.v (webD w), .v (tR st), .no, .no] _
  have hc : (cLc [3] (tgN 3) (bB (aOf g_apart_in (aCons (gV 0) (aCons (gV 3) aNil)))) (vTup (aCons (vNeg (aOf gLen (aCons (gX 3) aNil))) (aCons (gV 3) aNil))) (fItems (aOf g_choices (aCons (gV 1) aNil)))) [.v (webD w), .v (tR st), .no, .no] = some (((chM st).filter fun r => apM w r).map fun r => irD (-(r.length : Int), r)) := by
    rw [cLc_map (chM st) tR (fun r => apM w r) (fun r => irD (-(r.length : Int), r)) (by simp [gV, v_choices (st := st) (by omega)]) rfl (fun r hr => ⟨_, rfl, by simp [gV, v_apart_inM h (hs.sub (mem_chM.mp hr))], fun _ => by simp [gV, gX]; rfl⟩)]
  refine q_drop _ (by simp [gV, v_need_state h hs]; rfl) (q_asg (irD (-(e.length : Int), e)) ?_ rfl (s_ret _ ?_ rfl))
  · simp only [e_aOf, e_aCons, e_aNil, Option.map_some]
    rw [hc]
    simp only [Option.bind_some, Option.map_some, h2]
  · show ((dNeg (.int (-(e.length : Int)))).bind _).map _ = _
    simp only [e_dNeg, Int.neg_neg]
    rfl
theorem v_full_ends {w : List (List Int)} {st : List Int} (h : Web w) (hs : Ppl w.length st) : g_full_ends [webD w, tR st] = some (.list (((endsM w st).filter fun e => decide (e ∈ fullM w st)).map tR)) := by
  have hl := hs.len
  have hl2 := h.le
  have hel : (endsM w st).length ≤ 2 ^ 7 := Nat.le_trans endsM_len (Nat.pow_le_pow_right (by omega) (by omega))
  refine run_rt ?_
  show fW B_full_ends [.v (webD w), .v (tR st), .no, .no, .no] _
  refine q_drop _ (by simp [gV, v_need_state h hs]; rfl) (q_set (.list ((fullM w st).map tR)) (by simp [gV, v_full_in h hs]) (q_seto [] rfl ?_))
  refine q_app (fun acc (v : Sl) => [.v (webD w), .v (tR st), .v (.list ((fullM w st).map tR)), .ol acc, v]) (endsM w st) tR (fun e => if decide (e ∈ fullM w st) = true then [tR e] else []) 128 [] .no (by simp [gV, v_ends_in h hs]) rfl ?_ (fun acc v e he hN => ?_) fun v => s_ret _ rfl ?_
  · rw [flatMap_if, List.length_map]
    have := List.length_filter_le (fun e => decide (e ∈ fullM w st)) (endsM w st)
    simp only [List.length_nil]; omega
  · refine ⟨_, rfl, s_if (decide (e ∈ fullM w st)) ?_ (fun c => ?_) fun c => ?_⟩
    · show (dIn (tR e) (.list ((fullM w st).map tR))).bind isB = _
      rw [inLs]; rfl
    · rw [if_pos c] at hN ⊢
      exact s_app1 (tR e) rfl rfl (by have : acc.length + 1 ≤ 128 := hN; rw [sizeLine_eq]; omega) ⟨_, rfl⟩
    · rw [if_neg (by rw [c]; simp)]
      exact s_nil ⟨_, by rw [List.append_nil]; rfl⟩
  · rw [flatMap_if]; rfl
theorem v_lost_ends {w : List (List Int)} {st : List Int} (h : Web w) (hs : Ppl w.length st) : g_lost_ends [webD w, tR st] = some (.list (((sortR (chM st)).filter fun r => apM w r && !decide (r ∈ endsM w st)).map tR)) := by
  have hl := hs.len
  have hl2 := h.le
  refine run_rt ?_
  show fW B_lost_ends [.v (webD w), .v (tR st), .no, .no] _
  refine q_drop _ (by simp [gV, v_need_state h hs]; rfl) (q_set (.list ((endsM w st).map tR)) (by simp [gV, v_ends_in h hs]) (s_ret _ ?_ rfl))
  rw [cLc_map (sortR (chM st)) tR (fun r => apM w r && !decide (r ∈ endsM w st)) tR (by simp [gV, v_choices (st := st) (by omega), srt_R]) rfl (fun r hr => ⟨_, rfl, by
    have hrs := hs.sub (mem_chM.mp (mem_sortR.mp hr))
    rw [e_bAnd]
    have e1 : (bB (aOf g_apart_in (aCons (gV 0) (aCons (gV 3) aNil)))) [.v (webD w), .v (tR st), .v (.list ((endsM w st).map tR)), .v (tR r)] = some (apM w r) := by simp [gV, v_apart_inM h hrs]
    show ((bB (aOf g_apart_in (aCons (gV 0) (aCons (gV 3) aNil)))) [.v (webD w), .v (tR st), .v (.list ((endsM w st).map tR)), .v (tR r)]).bind _ = _
    rw [e1, Option.bind_some]
    cases apM w r with
    | false => rfl
    | true =>
      rw [if_pos rfl]
      show (dNotIn (tR r) (.list ((endsM w st).map tR))).bind isB = _
      rw [niLs]; rfl, fun _ => rfl⟩)]
  rfl
theorem v_is_full {w : List (List Int)} {st goal : List Int} (h : Web w) (hs : Ppl w.length st) (hg : Ppl w.length goal) : g_is_full [webD w, tR st, tR goal] = some (.bool (decide (goal ∈ fullM w st))) := by
  refine run_rt ?_
  show fW B_is_full [.v (webD w), .v (tR st), .v (tR goal)] _
  refine q_drop _ (by simp [gV, v_need_state h hs]; rfl) (q_drop _ (by simp [gV, v_need_state h hg]; rfl) (s_ret _ ?_ rfl))
  simp only [e_b2, e_aOf, e_aCons, e_aNil, gV, gX, List.getElem?_cons_zero, List.getElem?_cons_succ, Option.bind_some, Option.map_some, v_full_in h hs, inLs]
/-- all pairs of so many people -/
def allP (n : Nat) : List (Int × Int) := (upI n).flatMap fun i => ((upI n).filter fun k => decide (i < k)).map fun k => (i, k)
theorem mem_allP {n : Nat} {e : Int × Int} : e ∈ allP n ↔ (0 ≤ e.1 ∧ e.1 < n) ∧ (0 ≤ e.2 ∧ e.2 < n) ∧ e.1 < e.2 := by
  unfold allP
  rw [List.mem_flatMap]
  constructor
  · rintro ⟨i, hi, he⟩
    obtain ⟨k, hk, rfl⟩ := List.mem_map.mp he
    obtain ⟨k1, k2⟩ := List.mem_filter.mp hk
    exact ⟨mem_upI.mp hi, mem_upI.mp k1, of_decide_eq_true k2⟩
  · rintro ⟨a, b, c⟩
    exact ⟨e.1, mem_upI.mpr a, List.mem_map.mpr ⟨e.2, List.mem_filter.mpr ⟨mem_upI.mpr b, decide_eq_true c⟩, rfl⟩⟩
/-- the web of all who are no friends -/
def trnM (w : List (List Int)) : List (List Int) := webBy w.length ((allP w.length).filter fun e => !decide (e.2 ∈ fr w e.1))
theorem trn_edges {w : List (List Int)} : ∀ e ∈ (allP w.length).filter (fun e => !decide (e.2 ∈ fr w e.1)), 0 ≤ e.1 ∧ e.1 < w.length ∧ 0 ≤ e.2 ∧ e.2 < w.length ∧ e.1 ≠ e.2 := fun e he => by
  obtain ⟨⟨a, b⟩, ⟨c, d⟩, f⟩ := mem_allP.mp (List.mem_filter.mp he).1
  exact ⟨a, b, c, d, Int.ne_of_lt f⟩
theorem allP_len {n : Nat} (h : n ≤ 7) : (allP n).length = n * (n - 1) / 2 := by
  match n, h with
  | 0, _ | 1, _ | 2, _ | 3, _ | 4, _ | 5, _ | 6, _ | 7, _ => decide +kernel
theorem allP_map (w : List (List Int)) : ((allP w.length).filter fun e => !decide (e.2 ∈ fr w e.1)).map edgeD = (upI w.length).flatMap fun i => (((upI w.length).filter fun k => decide (i < k)).filter fun k => !decide (k ∈ fr w i)).map fun k => edgeD (i, k) := by
  unfold allP
  rw [List.filter_flatMap, List.map_flatMap]
  congr 1
  funext i
  rw [List.filter_map, List.map_map]
  rfl
theorem rng2_upI {n : Nat} {i : Int} (h0 : 0 ≤ i) (h1 : i < n) (hn : n ≤ 1000) : gRng2 [.int (i + 1), .int (n : Int)] = some (((upI n).filter fun k => decide (i < k)).map .int) := by
  rw [gRng2_frTo _ _ (by omega) (by omega) (by omega) (by omega)]
  congr 2
  have pf : (frTo (i + 1) n).Pairwise (· < ·) := by
    unfold frTo
    refine List.pairwise_map.mpr (List.pairwise_lt_range.imp fun {a b} hab => ?_)
    omega
  refine pw_unique pf ((pw_upI n).sublist List.filter_sublist) fun x => ?_
  rw [mem_frTo, List.mem_filter, mem_upI, decide_eq_true_eq]
  omega
theorem v_turned {w : List (List Int)} (h : Web w) : g_turned [webD w] = some (webD (trnM w)) := by
  have hl := h.le
  have hlen : ((allP w.length).filter fun e => !decide (e.2 ∈ fr w e.1)).length ≤ 49 := by
    refine Nat.le_trans (List.length_filter_le _ _) ?_
    rw [allP_len hl]
    refine Nat.le_trans (Nat.div_le_self _ _) ?_
    exact Nat.le_trans (Nat.mul_le_mul hl (Nat.sub_le_sub_right hl 1)) (by decide)
  have hlen2 : (((allP w.length).filter fun e => !decide (e.2 ∈ fr w e.1)).map edgeD).length ≤ 49 := by rw [List.length_map]; exact hlen
  rw [allP_map] at hlen2
  refine run_rt ?_
  show fW B_turned [.v (webD w), .no, .no, .no] _
  refine q_drop _ (by simp [gV, v_need_web h]; rfl) (q_seto [] rfl ?_)
  refine q_app (fun acc (v : Sl × Sl) => [.v (webD w), .ol acc, v.1, v.2]) (upI w.length) .int (fun i => (((upI w.length).filter fun k => decide (i < k)).filter fun k => !decide (k ∈ fr w i)).map fun k => edgeD (i, k)) 49 [] (.no, .no) (by simp [gX]; exact gRng1_upI _ (by omega)) rfl (by simpa using hlen2) (fun acc v i hi hN => ?_) fun v => ?_
  · obtain ⟨h0, h1⟩ := mem_upI.mp hi
    refine ⟨_, rfl, ?_⟩
    rw [← flatMap_if] at hN ⊢
    refine s_app (fun acc (v : Sl) => [.v (webD w), .ol acc, .v (.int i), v]) ((upI w.length).filter fun k => decide (i < k)) .int (fun k => if (!decide (k ∈ fr w i)) = true then [edgeD (i, k)] else []) 49 acc v.2 (c2 ((b2_of (p := .int i) rfl (q := .int 1) rfl).trans (e_add _ _)) (len_tup (xs := w.map tR) rfl (List.length_map _)) (rng2_upI h0 h1 (by omega))) rfl hN (fun acc v k hk hN => ?_) fun v => ⟨(_, _), rfl⟩
    refine ⟨_, rfl, s_if (!decide (k ∈ fr w i)) (cmp_b (p := .int k) rfl ((b2_of (p := webD w) rfl (q := .int i) rfl).trans (ix_web h0 h1)) (e_niT k _)) (fun c => ?_) fun c => ?_⟩
    · rw [if_pos c] at hN ⊢
      exact s_app1 (edgeD (i, k)) rfl rfl (by have : acc.length + 1 ≤ 49 := hN; rw [sizeLine_eq]; omega) ⟨_, rfl⟩
    · rw [if_neg (by rw [c]; simp)]
      exact s_nil ⟨_, by rw [List.append_nil]; rfl⟩
  · rw [List.nil_append, ← allP_map]
    exact s_ret _ (c2 (len_tup (xs := w.map tR) rfl (List.length_map _)) rfl (e_gWebBy (by omega) (by omega) fun e he => by
      obtain ⟨a, b, c, d, _⟩ := trn_edges e he
      exact ⟨a, b, c, d⟩)) rfl
end W


set_option Elab.async false
set_option linter.all false
set_option maxRecDepth 1000000
set_option maxHeartbeats 4000000
namespace W
open PySem PySem.Spec PyProof.Rows L2 L2.P
/-! ### sets, as known tuples -/
def kS (x : List Int) : D := if x = [] then .tuple [] else kD x
theorem fgt_kS (x : List Int) : fgt (kS x) = tR x := by
  unfold kS
  by_cases c : x = []
  · subst c; rw [if_pos rfl]; rfl
  · rw [if_neg c, fgt_k]
theorem fgV {i : Nat} {ρ : Rho} {x : List Int} (h : gV i ρ = some (kS x)) : fgtF (gV i) ρ = some (tR x) := by
  show Option.map _ (gV i ρ) = _
  rw [h, Option.map_some, fgt_kS]
theorem fgX {i : Nat} {ρ : Rho} {x : List Int} (h : gX i ρ = some (kS x)) : fgtF (gX i) ρ = some (tR x) := by
  show Option.map _ (gX i ρ) = _
  rw [h, Option.map_some, fgt_kS]

theorem idxK {A B : Rho → Option D} {ρ : Rho} {ps : List Int} {k : Int} (hA : A ρ = some (kS ps)) (hB : B ρ = some (.int k)) (hk : k ∈ ps) : (b2 dIdxK A B) ρ = some (.int (ps.idxOf k : Nat)) := by
  have ne : ps ≠ [] := List.ne_nil_of_mem hk
  refine (b2_of hA hB).trans ?_
  rw [show kS ps = kD ps from if_neg ne]
  show (kOf (kD ps)).bind _ = _
  rw [kOf_kD, Option.bind_some, if_pos hk]

/-! ### the part of a web -/
def parE (w : List (List Int)) (ps : List Int) : List (Int × Int) := ((prs w).filter fun e => decide (e.1 ∈ ps) && decide (e.2 ∈ ps)).map fun e => (((ps.idxOf e.1 : Nat) : Int), ((ps.idxOf e.2 : Nat) : Int))
theorem par_edges {w : List (List Int)} {ps : List Int} : ∀ e ∈ parE w ps, 0 ≤ e.1 ∧ e.1 < ps.length ∧ 0 ≤ e.2 ∧ e.2 < ps.length ∧ e.1 ≠ e.2 := fun e he => by
  obtain ⟨q, hq, rfl⟩ := List.mem_map.mp he
  obtain ⟨h1, h2⟩ := List.mem_filter.mp hq
  rw [Bool.and_eq_true, decide_eq_true_eq, decide_eq_true_eq] at h2
  have a := List.idxOf_lt_length_iff.mpr h2.1
  have b := List.idxOf_lt_length_iff.mpr h2.2
  have lt := (mem_prs.mp h1).2.2
  refine ⟨by show (0 : Int) ≤ ((ps.idxOf q.1 : Nat) : Int); omega, by show ((ps.idxOf q.1 : Nat) : Int) < _; omega, by show (0 : Int) ≤ ((ps.idxOf q.2 : Nat) : Int); omega, by show ((ps.idxOf q.2 : Nat) : Int) < _; omega, fun z => ?_⟩
  have z' : ps.idxOf q.1 = ps.idxOf q.2 := by
    have : ((ps.idxOf q.1 : Nat) : Int) = ((ps.idxOf q.2 : Nat) : Int) := z
    omega
  have e1 := List.getElem_idxOf a
  have e2 := List.getElem_idxOf b
  have : q.1 = q.2 := by rw [← e1, ← e2]; congr 1
  omega
theorem par_len {w : List (List Int)} (h : Web w) (ps : List Int) : (parE w ps).length ≤ 49 := by
  have := prs_len h
  have h2 := List.length_filter_le (fun e : Int × Int => decide (e.1 ∈ ps) && decide (e.2 ∈ ps)) (prs w)
  unfold parE
  rw [List.length_map]; omega
theorem in_b {A : Rho → Option D} {B : Rho → Option D} {ρ : Rho} {k : Int} {ps : List Int} (hA : A ρ = some (.int k)) (hB : B ρ = some (tR ps)) : bB (b2 dIn A B) ρ = some (decide (k ∈ ps)) := cmp_b hA hB (e_inT k ps)
theorem inside {u : Rho → Option (List D)} {w : List (List Int)} {ps : List Int} {ρ : Rho} {i j : Nat} (hu : u ρ = some ((prs w).map edgeD)) (no : noOwn ρ [i] = true) (hi : i < ρ.length) (hj : j ≠ i) (hρ : ρ[j]? = some (.v (kS ps))) (hw : (wipeR ρ [i])[j]? = ρ[j]?) (hwi : i < (wipeR ρ [i]).length) : cLc [i] (tgN i) (bAnd (bB (b2 dIn (b2 dIx (gX i) (gC (.int 0))) (fgtF (gX j)))) (bB (b2 dIn (b2 dIx (gX i) (gC (.int 1))) (fgtF (gX j))))) (gV i) u ρ = some (((prs w).filter fun e => decide (e.1 ∈ ps) && decide (e.2 ∈ ps)).map edgeD) := by
  refine cLc_map (prs w) edgeD (fun e => decide (e.1 ∈ ps) && decide (e.2 ∈ ps)) edgeD hu no (fun e he => ⟨_, rfl, ?_, fun _ => ?_⟩)
  · have gi : gX i ((wipeR ρ [i]).set i (.v (edgeD e))) = some (edgeD e) := by
      unfold gX; rw [List.getElem?_set_self hwi]
    have gj : gX j ((wipeR ρ [i]).set i (.v (edgeD e))) = some (kS ps) := by
      unfold gX; rw [List.getElem?_set_ne (Ne.symm hj), hw, hρ]
    exact and_b (in_b ((b2_of gi rfl).trans rfl) (fgX gj)) fun _ => in_b ((b2_of gi rfl).trans rfl) (fgX gj)
  · unfold gV; rw [List.getElem?_set_self hwi]
theorem v_part {w : List (List Int)} {ps : List Int} (h : Web w) (hp : Ppl w.length ps) (ne : ps ≠ []) : g_part [webD w, kS ps] = some (webD (webBy ps.length (parE w ps))) := by
  have hl := h.le
  have hpl := hp.len
  have hps : kS ps = kD ps := if_neg ne
  refine run_rt ?_
  show fW B_part [.v (webD w), .v (kS ps), .no, .no, .no, .no] _
  refine q_drop _ (c1 (p := webD w) rfl (v_need_web h)) (q_drop _ (c2 (p := webD w) (q := tR ps) rfl (fgV rfl) (v_need_people h hp)) (q_no ?_ ?_))
  · exact (eqB encInt.tup (a := ps) (b := []) (fgX rfl) rfl).trans (by rw [decide_eq_false ne])
  refine q_setl (((prs w).filter fun e => decide (e.1 ∈ ps) && decide (e.2 ∈ ps)).map edgeD) (inside (it_L (c1 (p := webD w) rfl (v_pairs_in h))) rfl (by show 3 < 6; omega) (by omega) rfl rfl (by show 3 < 6; omega)) ?_
  refine s_ret _ (c2 (p := .int ps.length) (q := .list ((parE w ps).map edgeD)) (c1 (p := tR ps) (fgX rfl) (e_gLenR _)) (lcL ?_) (e_gWebBy (by omega) (by have := par_len h ps; omega) fun e he => by
    obtain ⟨a, b, c, d, _⟩ := par_edges e he
    exact ⟨a, b, c, d⟩)) rfl
  rw [cLc_map ((prs w).filter fun e => decide (e.1 ∈ ps) && decide (e.2 ∈ ps)) edgeD (fun _ => true) (fun e => edgeD (((ps.idxOf e.1 : Nat) : Int), ((ps.idxOf e.2 : Nat) : Int))) (it_L rfl) rfl (fun e he => ⟨_, rfl, rfl, fun _ => ?_⟩), List.filter_eq_self.mpr fun _ _ => rfl]
  · unfold parE; rw [List.map_map]; rfl
  · have h2 := (List.mem_filter.mp he).2
    rw [Bool.and_eq_true, decide_eq_true_eq, decide_eq_true_eq] at h2
    exact tup2_of (idxK rfl rfl h2.1) (idxK rfl rfl h2.2)

section
variable {w : List (List Int)} {st : List Int}
def apsM (w : List (List Int)) (st : List Int) : List (List Int) := sortR ((chM st).filter fun r => apM w r)
theorem mem_apsM {r : List Int} : r ∈ apsM w st ↔ r.Sublist st ∧ apM w r = true := by
  unfold apsM
  rw [mem_sortR, List.mem_filter, mem_chM]

theorem more_iff (h : Web w) (hs : Ppl w.length st) {r : List Int} (hr : r ∈ apsM w st) : decide ((apsM w st).filter (fun o => decide (o.length = r.length + 1) && decide (r.filter (fun k => !decide (k ∈ o)) = [])) = []) = decide (restM w st r = []) := by
  obtain ⟨r1, r2⟩ := mem_apsM.mp hr
  have hrp := hs.sub r1
  rw [Bool.eq_iff_iff, decide_eq_true_eq, decide_eq_true_eq, List.filter_eq_nil_iff]
  unfold restM
  rw [List.filter_eq_nil_iff]
  simp only [Bool.and_eq_true, decide_eq_true_eq, List.filter_eq_nil_iff, Bool.not_eq_true', decide_eq_false_iff_not, Classical.not_not, List.any_eq_false]
  rw [apM_iff] at r2
  constructor
  · rintro q x hx ⟨hxr, hfr⟩
    have hxi := hs.inn x hx
    have hmem : ∀ k, k ∈ st.filter (fun k => decide (k ∈ r) || decide (k = x)) ↔ k ∈ x :: r := fun k => by
      rw [List.mem_filter, Bool.or_eq_true, decide_eq_true_eq, decide_eq_true_eq, List.mem_cons]
      constructor
      · rintro ⟨_, a | a⟩
        · exact .inr a
        · exact .inl a
      · rintro (rfl | a)
        · exact ⟨hx, .inr rfl⟩
        · exact ⟨r1.subset a, .inl a⟩
    have hperm : (x :: r).Perm (st.filter fun k => decide (k ∈ r) || decide (k = x)) := (List.perm_ext_iff_of_nodup (List.nodup_cons.mpr ⟨hxr, pw_nodup hrp.up⟩) ((pw_nodup hs.up).sublist List.filter_sublist)).mpr fun k => (hmem k).symm
    refine q (st.filter fun k => decide (k ∈ r) || decide (k = x)) (mem_apsM.mpr ⟨List.filter_sublist, apM_iff.mpr fun a ha b hb hf => ?_⟩) ⟨by rw [← hperm.length_eq]; rfl, fun k hk => (hmem k).mpr (List.mem_cons_of_mem _ hk)⟩
    rw [hmem] at ha hb
    rcases List.mem_cons.mp ha with ea | ha'
    · rcases List.mem_cons.mp hb with eb | hb'
      · subst ea
        exact (h.inn _ _ hxi.1 hxi.2 hf).2.2 eb
      · subst ea
        exact hfr b hf hb'
    · rcases List.mem_cons.mp hb with eb | hb'
      · subst eb
        have hai := hrp.inn a ha'
        exact hfr a (h.sym a _ hai.1 hai.2 hf) ha'
      · exact r2 a ha' b hb' hf
  · rintro q o ho ⟨hlen, hsub⟩
    obtain ⟨o1, o2⟩ := mem_apsM.mp ho
    rw [apM_iff] at o2
    have : ∃ x ∈ o, x ∉ r := by
      apply Classical.byContradiction
      intro z
      have := nodup_len (ks := o) (ls := r) ((pw_nodup hs.up).sublist o1) fun x hx => Classical.byContradiction fun hn => z ⟨x, hx, hn⟩
      omega
    obtain ⟨x, hx, hn⟩ := this
    exact q x (o1.subset hx) ⟨hn, fun k hk hkr => o2 x hx k (hsub k hkr) hk⟩

end
theorem mem_callM {w : List (List Int)} {st : List Int} {p x : Int} : x ∈ callM w st p ↔ x ∈ st ∧ (p ∈ st → p ≤ x ∨ x ∉ fr w p) := by
  unfold callM
  split
  · rename_i h
    rw [List.mem_filter, Bool.or_eq_true, decide_eq_true_eq, Bool.not_eq_true', decide_eq_false_iff_not]
    exact ⟨fun q => ⟨q.1, fun _ => q.2⟩, fun q => ⟨q.1, q.2 h⟩⟩
  · rename_i h
    exact ⟨fun q => ⟨q, fun z => absurd z h⟩, fun q => q.1⟩
/-- called from the tallest down: who is called by nobody that stands at the end -/
theorem mem_down {w : List (List Int)} : ∀ (cs st : List Int), cs.Pairwise (· > ·) → ∀ x, x ∈ cs.foldl (callM w) st ↔ x ∈ st ∧ ∀ k ∈ cs, k ∈ cs.foldl (callM w) st → x < k → x ∉ fr w k
  | [], st, _, x => ⟨fun h => ⟨h, fun k hk => by cases hk⟩, fun h => h.1⟩
  | c :: cs, st, hp, x => by
    obtain ⟨p1, p2⟩ := List.pairwise_cons.mp hp
    have ih := mem_down (w := w) cs (callM w st c) p2
    have hc : c ∈ cs.foldl (callM w) (callM w st c) ↔ c ∈ st := by
      rw [ih c, mem_callM]
      exact ⟨fun q => q.1.1, fun q => ⟨⟨q, fun _ => .inl (Int.le_refl _)⟩, fun k hk _ hlt => by have := p1 k hk; omega⟩⟩
    show x ∈ cs.foldl (callM w) (callM w st c) ↔ x ∈ st ∧ ∀ k ∈ c :: cs, k ∈ cs.foldl (callM w) (callM w st c) → x < k → x ∉ fr w k
    rw [ih x, mem_callM]
    constructor
    · rintro ⟨⟨a, b⟩, d⟩
      refine ⟨a, fun k hk hkf hlt => ?_⟩
      rcases List.mem_cons.mp hk with rfl | hk
      · rcases b (hc.mp hkf) with z | z
        · omega
        · exact z
      · exact d k hk hkf hlt
    · rintro ⟨a, b⟩
      refine ⟨⟨a, fun hcs => ?_⟩, fun k hk => b k (List.mem_cons_of_mem _ hk)⟩
      by_cases z : c ≤ x
      · exact .inl z
      · exact .inr (b c List.mem_cons_self (hc.mpr hcs) (by omega))

section
variable {w : List (List Int)} {st : List Int}
def greedM (w : List (List Int)) (st : List Int) : List Int := st.reverse.foldl (callM w) st
theorem mem_greed (hs : Ppl w.length st) {x : Int} : x ∈ greedM w st ↔ x ∈ st ∧ ∀ k ∈ st, k ∈ greedM w st → x < k → x ∉ fr w k := by
  have := mem_down (w := w) st.reverse st (List.pairwise_reverse.mpr hs.up) x
  simp only [List.mem_reverse] at this
  exact this
theorem greed_end (h : Web w) (hs : Ppl w.length st) : greedM w st ∈ endsM w st := mem_endsM.mpr ⟨fold_sublist _ _, ap_fold h hs fun p hp => List.mem_reverse.mpr hp, fit_fold h hs _⟩
theorem greed_full (h : Web w) (hs : Ppl w.length st) : greedM w st ∈ fullM w st := by
  obtain ⟨a, b, _⟩ := mem_endsM.mp (greed_end h hs)
  unfold fullM
  rw [mem_sortR, List.mem_filter, mem_chM, Bool.and_eq_true, decide_eq_true_eq]
  refine ⟨a, b, List.filter_eq_nil_iff.mpr fun x hx => ?_⟩
  rw [Bool.and_eq_true, Bool.not_eq_true', Bool.not_eq_true', decide_eq_false_iff_not, List.any_eq_false]
  rintro ⟨h1, h2⟩
  refine h1 ((mem_greed hs).mpr ⟨hx, fun k hk hkg hlt hf => ?_⟩)
  obtain ⟨k0, k1⟩ := hs.inn k hk
  exact absurd hkg (by simpa using h2 k (h.sym k x k0 k1 hf))

end
theorem count_sum : ∀ (n : Nat) (ls : List Int), (∀ x ∈ ls, 0 ≤ x ∧ x < n) → ((upI n).map fun k => ((ls.count k : Nat) : Int)).sum = (ls.length : Int)
  | n, [], _ => by
    have : ((upI n).map fun k => (((List.count k ([] : List Int)) : Nat) : Int)) = (upI n).map fun _ => (0 : Int) := List.map_congr_left fun k _ => by simp
    rw [this]
    induction (upI n) with
    | nil => rfl
    | cons a l ih => rw [List.map_cons, List.sum_cons, ih]; rfl
  | n, x :: ls, h => by
    have ih := count_sum n ls fun y hy => h y (List.mem_cons_of_mem _ hy)
    obtain ⟨h0, h1⟩ := h x List.mem_cons_self
    have key : ∀ l : List Int, l.Nodup → (l.map fun k => (((x :: ls).count k : Nat) : Int)).sum = (l.map fun k => ((ls.count k : Nat) : Int)).sum + (if x ∈ l then 1 else 0) := fun l => by
      induction l with
      | nil => intro _; rfl
      | cons a l ihl =>
        intro hn
        obtain ⟨n1, n2⟩ := List.nodup_cons.mp hn
        rw [List.map_cons, List.map_cons, List.sum_cons, List.sum_cons, ihl n2, List.count_cons]
        by_cases c : x = a
        · subst c
          rw [if_neg n1, if_pos List.mem_cons_self]
          simp; omega
        · by_cases d : x ∈ l
          · rw [if_pos d, if_pos (List.mem_cons_of_mem _ d), if_neg (by simpa using c)]; omega
          · rw [if_neg d, if_neg (fun z => (List.mem_cons.mp z).elim c d), if_neg (by simpa using c)]; omega
    rw [key _ (pw_nodup (pw_upI n)), ih, if_pos (mem_upI.mpr ⟨h0, h1⟩), List.length_cons]
    omega

section
variable {w : List (List Int)} {st : List Int} (h : Web w) (hs : Ppl w.length st)
include h hs
theorem pk_ap : apM w (st.filter fun x => !has w st (fun x k => decide (x < k)) x) = true := by
  rw [apM_iff]
  intro x hx y hy hf
  obtain ⟨x1, x2⟩ := List.mem_filter.mp hx
  obtain ⟨y1, y2⟩ := List.mem_filter.mp hy
  have hi := hs.inn x x1
  have hj := hs.inn y y1
  have no : ∀ a b, (!has w st (fun x k => decide (x < k)) a) = true → b ∈ st → b ∈ fr w a → ¬ a < b := fun a b ha hb hf hlt => by
    rw [Bool.not_eq_true'] at ha
    unfold has at ha
    rw [List.any_eq_false] at ha
    exact ha b hf (by simp [hlt, hb])
  rcases Int.lt_trichotomy x y with z | z | z
  · exact no x y x2 y1 hf z
  · subst z; exact (h.inn x x hi.1 hi.2 hf).2.2 rfl
  · exact no y x y2 x1 (h.sym x y hi.1 hi.2 hf) z

theorem grp_pk : ∀ (m : Nat) (q : Int), q ∈ st → ((w.length : Int) - q).toNat ≤ m → ∃ p ∈ st.filter (fun x => !has w st (fun x k => decide (x < k)) x), cmpM w st q = cmpM w st p := fun m => by
  induction m with
  | zero =>
    intro q hq hm
    have := (hs.inn q hq).2
    omega
  | succ m ih =>
    intro q hq hm
    by_cases c : has w st (fun x k => decide (x < k)) q = true
    · unfold has at c
      rw [List.any_eq_true] at c
      obtain ⟨k, k1, k2⟩ := c
      simp only [Bool.and_eq_true, decide_eq_true_eq] at k2
      have := (hs.inn k k2.2).2
      obtain ⟨p, hp, e⟩ := ih k k2.2 (by omega)
      exact ⟨p, hp, by rw [← e]; exact (cmpM_eq h hs hq (.step .refl k2.2 k1)).symm⟩
    · exact ⟨q, List.mem_filter.mpr ⟨hq, by simp [c]⟩, rfl⟩
theorem grps_le : (grpsM w st).length ≤ (st.filter fun x => !has w st (fun x k => decide (x < k)) x).length := by
  have hn : (grpsM w st).Nodup := (sortR_perm _).nodup_iff.mpr (nodup_dedR _)
  have := nodup_len hn (ls := (st.filter fun x => !has w st (fun x k => decide (x < k)) x).map (cmpM w st)) fun c hc => by
    obtain ⟨q, hq, rfl⟩ := List.mem_map.mp (mem_dedR.mp (mem_sortR.mp hc))
    obtain ⟨p, hp, e⟩ := grp_pk h hs _ q hq (Nat.le_refl _)
    exact List.mem_map.mpr ⟨p, hp, e.symm⟩
  rw [List.length_map] at this
  exact this
end

/-! ### counted -/
theorem ch_len0 (ps : List Int) : ((chM ps).filter fun r => decide (r.length = 0)).length = 1 := by
  refine snoc_ind (P := fun ps => ((chM ps).filter fun r => decide (r.length = 0)).length = 1) rfl (fun l x ih => ?_) ps
  rw [chM_snoc, List.filter_append, List.length_append, ih, List.filter_eq_nil_iff.mpr (fun r hr => ?_)]
  · rfl
  · obtain ⟨q, _, rfl⟩ := List.mem_map.mp hr
    simp
theorem ch_up (ps : List Int) (x : Int) (k : Nat) : ((chM (ps ++ [x])).filter fun r => decide (r.length = k + 1)).length = ((chM ps).filter fun r => decide (r.length = k + 1)).length + ((chM ps).filter fun r => decide (r.length = k)).length := by
  rw [chM_snoc, List.filter_append, List.length_append, List.filter_map, List.length_map]
  congr 2
  refine List.filter_congr fun r _ => ?_
  show decide ((r ++ [x]).length = k + 1) = decide (r.length = k)
  rw [List.length_append]
  exact decide_eq_decide.mpr ⟨fun z => by simpa using z, fun z => by simpa using z⟩
theorem ch_len1 (ps : List Int) : ((chM ps).filter fun r => decide (r.length = 1)).length = ps.length := by
  refine snoc_ind (P := fun ps => ((chM ps).filter fun r => decide (r.length = 1)).length = ps.length) rfl (fun l x ih => ?_) ps
  rw [ch_up l x 0, ih, ch_len0, List.length_append]
  rfl
theorem ch_len2 (ps : List Int) : 2 * ((chM ps).filter fun r => decide (r.length = 2)).length + ps.length = ps.length * ps.length := by
  refine snoc_ind (P := fun ps => 2 * ((chM ps).filter fun r => decide (r.length = 2)).length + ps.length = ps.length * ps.length) rfl (fun l x ih => ?_) ps
  have e2 := ch_up l x 1
  rw [ch_len1] at e2
  have e3 : ((chM (l ++ [x])).filter fun r => decide (r.length = 2)).length = ((chM l).filter fun r => decide (r.length = 2)).length + l.length := e2
  rw [e3, List.length_append, List.length_singleton]
  have e : (l.length + 1) * (l.length + 1) = l.length * l.length + 2 * l.length + 1 := by
    rw [Nat.add_mul, Nat.mul_add]; omega
  omega
theorem split_len {α : Type} (P Q : α → Bool) : ∀ l : List α, (l.filter fun r => P r && Q r).length + (l.filter fun r => !P r && Q r).length = (l.filter Q).length
  | [] => rfl
  | r :: l => by
    have ih := split_len P Q l
    cases hp : P r <;> cases hq : Q r <;> simp [List.filter_cons, hp, hq] <;> omega
theorem prs_nd {w : List (List Int)} (h : Web w) : (prs w).Nodup := by
  unfold prs
  refine List.pairwise_flatMap.mpr ⟨fun i hi => ?_, (pw_nodup (pw_upI _)).imp fun {a b} ne x hx y hy e => ?_⟩
  · obtain ⟨i0, i1⟩ := mem_upI.mp hi
    refine List.pairwise_map.mpr (((pw_nodup (h.up i i0 i1)).sublist List.filter_sublist).imp fun {a b} ne e => ne (Prod.mk.inj e).2)
  · obtain ⟨k, _, rfl⟩ := List.mem_map.mp hx
    obtain ⟨k2, _, rfl⟩ := List.mem_map.mp hy
    exact ne (Prod.mk.inj e).1
section
variable {w : List (List Int)} {st : List Int}
/-- how many stand apart, so many of them -/
def cA (w : List (List Int)) (st : List Int) (k : Nat) : Nat := (((chM st).filter fun r => apM w r).map fun e => (e.length : Int)).count (k : Int)
theorem cA_eq (k : Nat) : cA w st k = ((chM st).filter fun r => apM w r && decide (r.length = k)).length := by
  unfold cA
  rw [List.count, List.countP_map, List.countP_eq_length_filter, List.filter_filter]
  congr 1
  refine List.filter_congr fun r _ => ?_
  rw [Bool.and_comm]
  congr 1
  show ((r.length : Int) == (k : Int)) = _
  rw [Bool.eq_iff_iff, beq_iff_eq, decide_eq_true_eq]
  omega
theorem ap_nil : apM w [] = true := rfl
theorem ap_one (h : Web w) (hs : Ppl w.length st) {x : Int} (hx : x ∈ st) : apM w [x] = true := apM_iff.mpr fun a ha b hb z => by
  rw [List.mem_singleton.mp ha, List.mem_singleton.mp hb] at z
  obtain ⟨x0, x1⟩ := hs.inn x hx
  exact (h.inn x x x0 x1 z).2.2 rfl
theorem cA_0 : cA w st 0 = 1 := by
  rw [cA_eq, ← ch_len0 st]
  congr 1
  refine List.filter_congr fun r _ => ?_
  by_cases c : r.length = 0
  · rw [List.length_eq_zero_iff.mp c]; rfl
  · rw [decide_eq_false c, Bool.and_false]
theorem cA_1 (h : Web w) (hs : Ppl w.length st) : cA w st 1 = st.length := by
  rw [cA_eq, ← ch_len1 st]
  congr 1
  refine List.filter_congr fun r hr => ?_
  by_cases c : r.length = 1
  · obtain ⟨x, rfl⟩ := List.length_eq_one_iff.mp c
    rw [ap_one h hs ((mem_chM.mp hr).subset List.mem_cons_self)]; rfl
  · rw [decide_eq_false c, Bool.and_false]
theorem bad_2 (h : Web w) (hs : Ppl w.length st) : ((chM st).filter fun r => !apM w r && decide (r.length = 2)).length = ((prs w).filter (both st)).length := by
  have p : ((chM st).filter fun r => !apM w r && decide (r.length = 2)).Perm (((prs w).filter (both st)).map fun e => [e.1, e.2]) := by
    refine (List.perm_ext_iff_of_nodup ((chM_nodup (pw_nodup hs.up)).sublist List.filter_sublist) ?_).mpr fun r => ?_
    · refine List.pairwise_map.mpr (((prs_nd h).sublist List.filter_sublist).imp fun {a b} ne e => ne ?_)
      have e1 := (List.cons.inj e).1
      have e2 := (List.cons.inj (List.cons.inj e).2).1
      exact Prod.ext e1 e2
    · rw [List.mem_filter, mem_chM, Bool.and_eq_true, Bool.not_eq_true', decide_eq_true_eq, List.mem_map]
      constructor
      · rintro ⟨hr, ha, hl⟩
        match r, hl with
        | [a, b], _ =>
          have ma : a ∈ st := hr.subset List.mem_cons_self
          have mb : b ∈ st := hr.subset (List.mem_cons_of_mem _ List.mem_cons_self)
          have lt : a < b := (List.pairwise_cons.mp (hs.up.sublist hr)).1 b List.mem_cons_self
          obtain ⟨a0, a1⟩ := hs.inn a ma
          obtain ⟨b0, b1⟩ := hs.inn b mb
          have f : b ∈ fr w a := by
            apply Classical.byContradiction
            intro nf
            have : apM w [a, b] = true := apM_iff.mpr fun x hx y hy z => by
              simp only [List.mem_cons, List.not_mem_nil, or_false] at hx hy
              rcases hx with rfl | rfl <;> rcases hy with rfl | rfl
              · exact (h.inn _ _ a0 a1 z).2.2 rfl
              · exact nf z
              · exact nf (h.sym _ _ b0 b1 z)
              · exact (h.inn _ _ b0 b1 z).2.2 rfl
            rw [ha] at this; cases this
          exact ⟨(a, b), List.mem_filter.mpr ⟨mem_prs.mpr ⟨⟨a0, a1⟩, f, lt⟩, by simp [both, ma, mb]⟩, rfl⟩
      · rintro ⟨e, he, rfl⟩
        obtain ⟨h1, h2⟩ := List.mem_filter.mp he
        obtain ⟨⟨a0, a1⟩, f, lt⟩ := mem_prs.mp h1
        obtain ⟨m1, m2⟩ : e.1 ∈ st ∧ e.2 ∈ st := by simpa [both] using h2
        refine ⟨sub_of_mem (by simp [lt]) hs.up fun k hk => ?_, ?_, rfl⟩
        · simp only [List.mem_cons, List.not_mem_nil, or_false] at hk
          rcases hk with rfl | rfl
          · exact m1
          · exact m2
        · cases q : apM w [e.1, e.2] with
          | false => rfl
          | true => exact absurd f (apM_iff.mp q e.1 List.mem_cons_self e.2 (List.mem_cons_of_mem _ List.mem_cons_self))
  rw [p.length_eq, List.length_map]
theorem cA_2 (h : Web w) (hs : Ppl w.length st) : 2 * (cA w st 2 + ((prs w).filter (both st)).length) + st.length = st.length * st.length := by
  rw [cA_eq, ← bad_2 h hs, ← ch_len2 st]
  have e : ((chM st).filter fun r => apM w r && decide (r.length = 2)).length + ((chM st).filter fun r => !apM w r && decide (r.length = 2)).length = ((chM st).filter fun r => decide (r.length = 2)).length := by
    exact split_len (fun r => apM w r) (fun r => decide (r.length = 2)) (chM st)
  rw [e]
theorem ap_max (hw : Web w) (hs : Ppl w.length st) {e : List Int} (W : Wid ((chM st).filter fun r => apM w r) e) : e ∈ fullM w st := by
  obtain ⟨h1, h2⟩ := List.mem_filter.mp W.1
  have hr : e ∈ apsM w st := mem_apsM.mpr ⟨mem_chM.mp h1, h2⟩
  have m := more_iff hw hs hr
  have e0 : (apsM w st).filter (fun o => decide (o.length = e.length + 1) && decide (e.filter (fun k => !decide (k ∈ o)) = [])) = [] := List.filter_eq_nil_iff.mpr fun q hq => by
    obtain ⟨q1, q2⟩ := mem_apsM.mp hq
    rw [Bool.and_eq_true, decide_eq_true_eq]
    rintro ⟨z, _⟩
    have := W.2 q (List.mem_filter.mpr ⟨mem_chM.mpr q1, q2⟩)
    omega
  rw [e0, decide_eq_true rfl] at m
  unfold fullM
  rw [mem_sortR, List.mem_filter, Bool.and_eq_true]
  exact ⟨h1, h2, m.symm⟩
theorem mem_full {r : List Int} : r ∈ fullM w st ↔ r.Sublist st ∧ apM w r = true ∧ restM w st r = [] := by
  unfold fullM
  rw [mem_sortR, List.mem_filter, mem_chM, Bool.and_eq_true, decide_eq_true_eq]
theorem full_one (h : Web w) (hs : Ppl w.length st) : apM w st = decide (fullM w st = [st]) := by
  have nd : (fullM w st).Nodup := (sortR_perm _).nodup_iff.mpr ((chM_nodup (pw_nodup hs.up)).sublist List.filter_sublist)
  rw [Bool.eq_iff_iff, decide_eq_true_eq]
  constructor
  · intro ha
    refine List.perm_singleton.mp ((List.perm_ext_iff_of_nodup nd (by simp)).mpr fun r => ?_)
    rw [mem_full, List.mem_singleton]
    constructor
    · rintro ⟨a, _, c⟩
      refine pw_unique (hs.up.sublist a) hs.up fun x => ⟨fun z => a.subset z, fun z => ?_⟩
      apply Classical.byContradiction
      intro hn
      refine List.filter_eq_nil_iff.mp c x z ?_
      rw [Bool.and_eq_true, Bool.not_eq_true', Bool.not_eq_true', decide_eq_false_iff_not, List.any_eq_false]
      exact ⟨hn, fun k hk => by
        rw [decide_eq_true_eq]
        exact fun hkr => apM_iff.mp ha x z k (a.subset hkr) hk⟩
    · rintro rfl
      refine ⟨List.Sublist.refl _, ha, List.filter_eq_nil_iff.mpr fun x hx => ?_⟩
      rw [decide_eq_true hx]; simp
  · intro e
    have : st ∈ fullM w st := by rw [e]; exact List.mem_singleton.mpr rfl
    exact (mem_full.mp this).2.1
theorem peak_greed (h : Web w) (hs : Ppl w.length st) {x : Int} (hx : x ∈ st.filter fun x => !has w st (fun x k => decide (x < k)) x) : x ∈ greedM w st := by
  obtain ⟨x1, x2⟩ := List.mem_filter.mp hx
  refine (mem_greed hs).mpr ⟨x1, fun k hk _ hlt hf => ?_⟩
  rw [Bool.not_eq_true'] at x2
  unfold has at x2
  rw [List.any_eq_false] at x2
  obtain ⟨k0, k1⟩ := hs.inn k hk
  exact x2 k (h.sym k x k0 k1 hf) (by simp [hlt, hk])
/-! ### the part of those who stand -/
theorem idx_at (hs : st.Pairwise (· < ·)) {i : Nat} (hi : i < st.length) : st.idxOf st[i] = i := by
  have m : st[i] ∈ st := List.getElem_mem hi
  have h1 := List.idxOf_lt_length_iff.mpr m
  exact (List.getElem_inj (pw_nodup hs)).mp (List.getElem_idxOf h1)
theorem idx_map (hs : st.Pairwise (· < ·)) : st.map (fun x => ((st.idxOf x : Nat) : Int)) = upI st.length := by
  refine List.ext_getElem (by rw [List.length_map, upI_length]) fun i h1 h2 => ?_
  rw [List.length_map] at h1
  rw [List.getElem_map, idx_at hs h1]
  exact (upI_get (List.getElem?_eq_getElem h2)).1.symm
theorem idx_inj {a b : Int} (ha : a ∈ st) (hb : b ∈ st) (e : ((st.idxOf a : Nat) : Int) = ((st.idxOf b : Nat) : Int)) : a = b := by
  have e' : st.idxOf a = st.idxOf b := by omega
  have a1 := List.getElem_idxOf (List.idxOf_lt_length_iff.mpr ha)
  have b1 := List.getElem_idxOf (List.idxOf_lt_length_iff.mpr hb)
  rw [← a1, ← b1]
  congr 1
theorem ch_map (f : Int → Int) (ps : List Int) : chM (ps.map f) = (chM ps).map (List.map f) := by
  refine snoc_ind (P := fun ps => chM (ps.map f) = (chM ps).map (List.map f)) rfl (fun l x ih => ?_) ps
  rw [List.map_append, List.map_singleton, chM_snoc, chM_snoc, ih, List.map_append, List.map_map, List.map_map]
  congr 1
  refine List.map_congr_left fun r _ => ?_
  show r.map f ++ [f x] = (r ++ [x]).map f
  rw [List.map_append]; rfl
theorem mem_parE {a b : Int} (ha : a ∈ st) (hb : b ∈ st) : (((st.idxOf a : Nat) : Int), ((st.idxOf b : Nat) : Int)) ∈ parE w st ↔ (a, b) ∈ prs w := by
  unfold parE
  rw [List.mem_map]
  constructor
  · rintro ⟨q, hq, e⟩
    obtain ⟨q1, q2⟩ := List.mem_filter.mp hq
    rw [Bool.and_eq_true, decide_eq_true_eq, decide_eq_true_eq] at q2
    have e1 := idx_inj q2.1 ha (Prod.mk.inj e).1
    have e2 := idx_inj q2.2 hb (Prod.mk.inj e).2
    rw [← e1, ← e2]
    exact q1
  · intro h
    exact ⟨(a, b), List.mem_filter.mpr ⟨h, by simp [ha, hb]⟩, rfl⟩
theorem par_rel (h : Web w) (hs : Ppl w.length st) {a b : Int} (ha : a ∈ st) (hb : b ∈ st) : ((st.idxOf b : Nat) : Int) ∈ fr (webBy st.length (parE w st)) ((st.idxOf a : Nat) : Int) ↔ b ∈ fr w a := by
  have i1 := List.idxOf_lt_length_iff.mpr ha
  rw [mem_webBy (by omega) (by omega) fun e he => ⟨(par_edges e he).1, (par_edges e he).2.2.1⟩, mem_parE ha hb, mem_parE hb ha, mem_prs, mem_prs]
  obtain ⟨a0, a1⟩ := hs.inn a ha
  obtain ⟨b0, b1⟩ := hs.inn b hb
  constructor
  · rintro (⟨_, f, _⟩ | ⟨_, f, _⟩)
    · exact f
    · exact h.sym b a b0 b1 f
  · intro f
    have ne := (h.inn a b a0 a1 f).2.2
    rcases Int.lt_trichotomy a b with z | z | z
    · exact .inl ⟨⟨a0, a1⟩, f, z⟩
    · exact absurd z.symm ne
    · exact .inr ⟨⟨b0, b1⟩, h.sym a b a0 a1 f, z⟩
theorem ap_par (h : Web w) (hs : Ppl w.length st) {r : List Int} (hr : ∀ x ∈ r, x ∈ st) : apM (webBy st.length (parE w st)) (r.map fun x => ((st.idxOf x : Nat) : Int)) = apM w r := by
  rw [Bool.eq_iff_iff, apM_iff, apM_iff]
  constructor
  · intro q x hx y hy z
    exact q _ (List.mem_map.mpr ⟨x, hx, rfl⟩) _ (List.mem_map.mpr ⟨y, hy, rfl⟩) ((par_rel h hs (hr x hx) (hr y hy)).mpr z)
  · intro q x hx y hy z
    obtain ⟨a, ha, rfl⟩ := List.mem_map.mp hx
    obtain ⟨b, hb, rfl⟩ := List.mem_map.mp hy
    exact q a ha b hb ((par_rel h hs (hr a ha) (hr b hb)).mp z)
theorem par_count (h : Web w) (hs : Ppl w.length st) : ((chM (upI st.length)).filter fun r => apM (webBy st.length (parE w st)) r).length = ((chM st).filter fun r => apM w r).length := by
  rw [← idx_map hs.up, ch_map, List.filter_map, List.length_map]
  congr 1
  refine List.filter_congr fun r hr => ?_
  exact ap_par h hs fun x hx => (mem_chM.mp hr).subset hx
end
theorem wid_pos {w : List (List Int)} {st e : List Int} (h : Web w) (hs : Ppl w.length st) (ne : st ≠ []) (W : Wid ((chM st).filter fun r => apM w r) e) : 1 ≤ e.length := by
  obtain ⟨x, hx⟩ := List.exists_mem_of_ne_nil _ ne
  have := W.2 [x] (List.mem_filter.mpr ⟨mem_chM.mpr (List.singleton_sublist.mpr hx), ap_one h hs hx⟩)
  simp only [List.length_singleton] at this
  omega
theorem fgVk {i : Nat} {ρ : Rho} {x : List Int} (h : gV i ρ = some (kD x)) : fgtF (gV i) ρ = some (tR x) := by
  show Option.map _ (gV i ρ) = _
  rw [h, Option.map_some, fgt_k]
theorem fgXk {i : Nat} {ρ : Rho} {x : List Int} (h : gX i ρ = some (kD x)) : fgtF (gX i) ρ = some (tR x) := by
  show Option.map _ (gX i ρ) = _
  rw [h, Option.map_some, fgt_k]
theorem w_upK {w : List (List Int)} {K : D → Prop} (h : Web w) (k : ∀ st, Ppl w.length st → K (kD st)) : w__law_up [webD w] K := by
  have hl := h.le
  refine clo_in ?_
  show T__law_up [.row, .v (webD w), .no, .no] _
  refine ⟨_, rfl, rfl, _, rfl, 4, rfl, by omega, by omega, fun r hr0 hr1 => ⟨_, rfl, ?_⟩⟩
  refine ⟨rfl, _, by simp [gX]; exact gRng1_upI w.length (by omega), ?_⟩
  refine lcV_sub (E := .int) (upI w.length) [] (fun y hy => ⟨_, rfl, fun K2 hK2 => ?_, fun K2 hK2 => ⟨_, rfl, hK2⟩⟩) fun ys hys => ?_
  · exact ⟨rfl, _, rfl, 2 + r, rfl, by omega, by omega, fun k _ _ => ⟨_, rfl, _, rfl, _, rfl, hK2 _⟩⟩
  · refine ⟨kD ys, ?_, k ys ⟨?_, fun k hk => mem_upI.mp (hys.subset hk)⟩⟩
    · show Option.map kD (intsD ([] ++ ys.map .int)) = _
      rw [List.nil_append, intsD_map]; rfl
    exact List.Pairwise.sublist hys (pw_upI _)
theorem wq_set {i : Nat} {e : Rho → Option D} {U : TSt} {ρ : Rho} {K : Fl → Prop} (p : D) (h : e ρ = some p) (k : U (ρ.set i (.v p)) K) : wSeq (fW (sSet i e)) U ρ K := ⟨_, by rw [e_sSet, h]; rfl, k⟩
theorem wq_puts {is : List Nat} {n : Nat} {f : Rho → Option (List Pv)} {U : TSt} {ρ : Rho} {K : Fl → Prop} (ps : List Pv) (h : f ρ = some ps) (hn : ps.length = n) (k : U (putsR ρ is ps) K) : wSeq (fW (sPuts is n f)) U ρ K := ⟨.nx (putsR ρ is ps), by unfold sPuts; rw [h]; show (if _ then _ else _) = _; rw [if_pos hn], k⟩
theorem wq_asg {g : Tg} {e : Rho → Option D} {U : TSt} {ρ ρ' : Rho} {K : Fl → Prop} (p : D) (h : e ρ = some p) (hg : g p ρ = some ρ') (k : U ρ' K) : wSeq (fW (sAsg g e)) U ρ K := ⟨.nx ρ', by unfold sAsg; rw [h, Option.bind_some, hg]; rfl, k⟩
theorem pF_of {A : Rho → Option D} {U : Rho → Option (List Pv)} {ρ : Rho} {p : D} {ps : List Pv} (h : A ρ = some p) (h2 : U ρ = some ps) : pF A U ρ = some (.f p :: ps) := by unfold pF; rw [h, Option.bind_some, h2]; rfl
theorem neNilF {α : Type} [DecidableEq α] {enc : α → D} {n : Nat} (h : EncOk enc n) {xs : List α} {c : Rho → Option (List D)} {ρ : Rho} (hc : c ρ = some (xs.map enc)) (e : xs = []) (hn : n + 1 ≤ 64 := by decide) : bB (b2 dNe (fun ρ => (c ρ).map PyData.list) (fun ρ => (aNil ρ).map PyData.list)) ρ = some false := by
  rw [bB_of (neNil h hc hn), e]; rfl
theorem mul_v {A B : Rho → Option D} {ρ : Rho} {x y : Int} (hA : A ρ = some (.int x)) (hB : B ρ = some (.int y)) (hb : -1000 < x ∧ x < 1000) : (b2 dMul A B) ρ = some (.int (x * y)) := by
  refine (b2_of hA hB).trans ?_
  show (if _ then _ else _) = _
  rw [if_pos (.inl ⟨by omega, by omega⟩)]
theorem sub_v {A B : Rho → Option D} {ρ : Rho} {x y : Int} (hA : A ρ = some (.int x)) (hB : B ρ = some (.int y)) : (b2 dSub A B) ρ = some (.int (x - y)) := (b2_of hA hB).trans rfl
theorem ir0 (f : Int × List Int) : dIx (irD f) (.int 0) = some (.int f.1) := atI_nat (xs := [PyData.int f.1, tR f.2]) (j := 0) rfl
theorem inR (r : List Int) (rs : List (List Int)) : dIn (tR r) (.list (rs.map tR)) = some (.bool (decide (r ∈ rs))) := (encInt.tup.inL r rs).trans (by congr)
theorem niR (r : List Int) (rs : List (List Int)) : dNotIn (tR r) (.list (rs.map tR)) = some (.bool (!decide (r ∈ rs))) := (encInt.tup.niL r rs).trans (by congr)
theorem neBl (b : Bool) : dNe (.bool b) (.bool b) = some (.bool false) := by cases b <;> rfl
theorem eqBl {a b : Bool} (h : a = !b) : dEq (.bool a) (.bool b) = some (.bool false) := by subst h; cases b <;> rfl
theorem gt_i (a b : Int) : dGt (.int a) (.int b) = some (.bool (decide (b < a))) := rfl
theorem add_v {A B : Rho → Option D} {ρ : Rho} {x y : Int} (hA : A ρ = some (.int x)) (hB : B ρ = some (.int y)) : (b2 dAdd A B) ρ = some (.int (x + y)) := (b2_of hA hB).trans rfl
theorem len_l {A : Rho → Option D} {ρ : Rho} {rs : List (List Int)} (h : A ρ = some (.list (rs.map tR))) : (aOf gLen (aCons A aNil)) ρ = some (.int rs.length) := c1 h (by show some (PyData.int ((rs.map tR).length : Int)) = _; rw [List.length_map])
theorem len_t {A : Rho → Option D} {ρ : Rho} {r : List Int} (h : A ρ = some (tR r)) : (aOf gLen (aCons A aNil)) ρ = some (.int r.length) := c1 h (e_gLenR r)
theorem fdiv2 (a : Int) : dFdiv (.int a) (.int 2) = some (.int (a / 2)) := by
  show (if (0 : Int) < 2 ∧ (2 : Int) < 18446744073709551616 then some (PyData.int (a / 2)) else none) = _
  exact if_pos (by decide)
theorem last_l {L : List Int} {m : Int} (pw : L.Pairwise (· < ·)) (hm : m ∈ L) (hle : ∀ k ∈ L, k ≤ m) : dIx (.list (L.map .int)) (.int (-1)) = some (.int m) := by
  obtain ⟨i, x, rfl⟩ : ∃ i x, L = i ++ [x] := ⟨L.dropLast, L.getLast (List.ne_nil_of_mem hm), (List.dropLast_concat_getLast _).symm⟩
  have hx : x = m := by
    have h1 := hle x (by simp)
    rcases List.mem_append.mp hm with z | z
    · have := (List.pairwise_append.mp pw).2.2 m z x (by simp)
      omega
    · exact (List.mem_singleton.mp z).symm
  subst hx
  exact ix_last PyData.int i x

def cnts (w : List (List Int)) (st : List Int) : List Int := (upI (w.length + 1)).map fun n => ((((chM st).filter fun r => apM w r).map fun e => (e.length : Int)).count n : Nat)
theorem cnts_at {w : List (List Int)} {st : List Int} {k : Nat} (h : k ≤ w.length) : dIx (tR (cnts w st)) (.int (k : Int)) = some (.int (cA w st k)) := by
  refine atI_nat (xs := (cnts w st).map PyData.int) (j := k) ?_
  unfold cnts
  rw [List.getElem?_map, List.getElem?_map]
  have : (upI (w.length + 1))[k]? = some (k : Int) := by
    unfold upI
    rw [List.getElem?_map, List.getElem?_range (by omega)]; rfl
  rw [this]; rfl
theorem cnts_len {w : List (List Int)} {st : List Int} : (cnts w st).length = w.length + 1 := by unfold cnts; rw [List.length_map, upI_length]
def PROGA : TSt := (wSeq (fW (sIf (bOr (bB (b2 dNe (aOf gSumA (aCons (gX 6) aNil)) (aOf gLen (aCons (gX 4) aNil)))) (bOr (bB (b2 dNe (b2 dIx (gX 6) (gC (.int 0))) (gC (.int 1)))) (bOr (bAnd (bB (b2 dGt (aOf gLen (aCons (gX 6) aNil)) (gC (.int 1)))) (bB (b2 dNe (b2 dIx (gX 6) (gC (.int 1))) (aOf gLen (aCons (fgtF (gX 3)) aNil))))) (bB (b2 dNotIn (vTup aNil) (gX 4)))))) (sRet (gC (.bool false))) sNil))
  (wSeq (fW (sIf (bAnd (bB (b2 dGt (aOf gLen (aCons (gX 6) aNil)) (gC (.int 2)))) (bB (b2 dNe (b2 dIx (gX 6) (gC (.int 2))) (b2 dSub (b2 dFdiv (b2 dMul (aOf gLen (aCons (fgtF (gX 3)) aNil)) (b2 dSub (aOf gLen (aCons (fgtF (gX 3)) aNil)) (gC (.int 1)))) (gC (.int 2))) (aOf gLen (aCons (aOf g_standing_pairs (aCons (gV 2) (aCons (fgtF (gV 3)) aNil))) aNil)))))) (sRet (gC (.bool false))) sNil))
  (wSeq (fW (sAsg (tg2 7 8) (aOf g_most_apart (aCons (gV 2) (aCons (fgtF (gV 3)) aNil)))))
  (wSeq (fW (sIf (bOr (bB (b2 dNotIn (gX 8) (gX 5))) (bB (b2 dNe (gX 7) (aOf gMax (aCons (fun ρ => ((cLc [9] (tgN 9) fYes (aOf gLen (aCons (gX 9) aNil)) (fItems (gV 5))) ρ).map PyData.list) aNil))))) (sRet (gC (.bool false))) sNil))
  (wSeq (fW (sIf (bB (b2 dNe (b2 dIx (fun ρ => ((cLc [11] (tgN 11) (bB (b2 dGt (b2 dIx (gX 6) (gX 11)) (gC (.int 0)))) (gV 11) (aOf gRng1 (aCons (aOf gLen (aCons (gX 6) aNil)) aNil))) ρ).map PyData.list) (vNeg (gC (.int 1)))) (gX 7))) (sRet (gC (.bool false))) sNil))
  (wSeq (fW (sFor (tgN 9) (fItems (gV 4)) (sSeq (sIf (bOr (bNot (bB (aOf g_is_end (aCons (gV 2) (aCons (gV 9) aNil))))) (bB (b2 dNe (b2 dIn (gX 9) (gX 5)) (aOf g_is_full (aCons (gV 2) (aCons (fgtF (gV 3)) (aCons (gV 9) aNil))))))) (sRet (gC (.bool false))) sNil) (sSeq (sIf (bB (b2 dNe (b2 dIn (gX 9) (aOf g_ends (aCons (gV 2) (aCons (fgtF (gV 3)) aNil)))) (aOf g_can_come (aCons (gV 2) (aCons (fgtF (gV 3)) (aCons (gV 9) aNil)))))) (sRet (gC (.bool false))) sNil) (sIf (bB (b2 dEq (b2 dIn (gX 9) (aOf g_lost_ends (aCons (gV 2) (aCons (fgtF (gV 3)) aNil)))) (aOf g_can_come (aCons (gV 2) (aCons (fgtF (gV 3)) (aCons (gV 9) aNil)))))) (sRet (gC (.bool false))) sNil)))))
  (wSeq (fW (sIf (bB (b2 dNotIn (aOf g_greedy_end (aCons (gV 2) (aCons (fgtF (gV 3)) aNil))) (aOf g_full_ends (aCons (gV 2) (aCons (fgtF (gV 3)) aNil))))) (sRet (gC (.bool false))) sNil))
  (wSeq (fW (sIf (bB (b2 dNe (fun ρ => ((cLc [12] (tgN 12) (bOr (bB (b2 dNotIn (gX 12) (gX 5))) (bB (b2 dNotIn (gX 12) (aOf g_ends (aCons (gV 2) (aCons (fgtF (gV 3)) aNil)))))) (gV 12) (fItems (aOf g_full_ends (aCons (gV 2) (aCons (fgtF (gV 3)) aNil))))) ρ).map PyData.list) (fun ρ => (aNil ρ).map PyData.list))) (sRet (gC (.bool false))) sNil))
  (wSeq (wSet 9 (wDraw 1 w__law_pick (wCons (fW (gV 4)) wNil)))
  (fW (sSeq (sIf (bAnd (bB (aOf g_can_stand_together (aCons (gV 2) (aCons (fgtF (gV 3)) (aCons (gV 9) aNil))))) (bB (b2 dNe (fun ρ => ((cLc [13] (tgN 13) (bB (b2 dNotIn (gX 13) (aOf g_who_can_stand (aCons (gV 2) (aCons (fgtF (gV 3)) aNil))))) (gV 13) (fItems (gV 9))) ρ).map PyData.list) (fun ρ => (aNil ρ).map PyData.list)))) (sRet (gC (.bool false))) sNil)
  (sSeq (sIf (bOr (bB (b2 dGt (aOf gLen (aCons (aOf g_groups (aCons (gV 2) (aCons (fgtF (gV 3)) aNil))) aNil)) (gX 7))) (bB (b2 dNe (aOf g_is_end (aCons (gV 2) (aCons (fgtF (gV 3)) aNil))) (b2 dEq (gX 5) (fun ρ => ((aCons (fgtF (gV 3)) aNil) ρ).map PyData.list))))) (sRet (gC (.bool false))) sNil)
  (sSeq (sIf (bB (b2 dNe (fun ρ => ((cLc [13] (tgN 13) (bB (b2 dEq (fun ρ => ((cLc [9] (tgN 9) (bB (b2 dIn (gX 13) (gX 9))) (gV 9) (fItems (gV 5))) ρ).map PyData.list) (fun ρ => (aNil ρ).map PyData.list))) (gV 13) (fItems (aOf g_peaks (aCons (gV 2) (aCons (fgtF (gV 3)) aNil))))) ρ).map PyData.list) (fun ρ => (aNil ρ).map PyData.list))) (sRet (gC (.bool false))) sNil)
  (sSeq (sIf (bB (b2 dEq (fgtF (gX 3)) (vTup aNil))) (sRet (b2 dEq (gX 5) (fun ρ => ((aCons (vTup aNil) aNil) ρ).map PyData.list))) sNil)
  (sSeq (sSet 10 (aOf g_part (aCons (gV 2) (aCons (gV 3) aNil))))
  (sSeq (sIf (bNot (bB (b2 dGe (b2 dMul (b2 dIx (aOf g_most_apart (aCons (aOf g_turned (aCons (gV 10) aNil)) (aCons (aOf g_everybody (aCons (gV 10) aNil)) aNil))) (gC (.int 0))) (gX 7)) (gC (.int 1))))) (sRet (gC (.bool false))) sNil)
  (sRet (b2 dEq (aOf gLen (aCons (aOf g_apart_sets (aCons (gV 10) (aCons (aOf g_everybody (aCons (gV 10) aNil)) aNil))) aNil)) (aOf gLen (aCons (gX 4) aNil))))))))))))))))))))
def PROGB : Rho → Option Fl := (sSeq (sIf (bAnd (bB (aOf g_can_stand_together (aCons (gV 2) (aCons (fgtF (gV 3)) (aCons (gV 9) aNil))))) (bB (b2 dNe (fun ρ => ((cLc [13] (tgN 13) (bB (b2 dNotIn (gX 13) (aOf g_who_can_stand (aCons (gV 2) (aCons (fgtF (gV 3)) aNil))))) (gV 13) (fItems (gV 9))) ρ).map PyData.list) (fun ρ => (aNil ρ).map PyData.list)))) (sRet (gC (.bool false))) sNil)
  (sSeq (sIf (bOr (bB (b2 dGt (aOf gLen (aCons (aOf g_groups (aCons (gV 2) (aCons (fgtF (gV 3)) aNil))) aNil)) (gX 7))) (bB (b2 dNe (aOf g_is_end (aCons (gV 2) (aCons (fgtF (gV 3)) aNil))) (b2 dEq (gX 5) (fun ρ => ((aCons (fgtF (gV 3)) aNil) ρ).map PyData.list))))) (sRet (gC (.bool false))) sNil)
  (sSeq (sIf (bB (b2 dNe (fun ρ => ((cLc [13] (tgN 13) (bB (b2 dEq (fun ρ => ((cLc [9] (tgN 9) (bB (b2 dIn (gX 13) (gX 9))) (gV 9) (fItems (gV 5))) ρ).map PyData.list) (fun ρ => (aNil ρ).map PyData.list))) (gV 13) (fItems (aOf g_peaks (aCons (gV 2) (aCons (fgtF (gV 3)) aNil))))) ρ).map PyData.list) (fun ρ => (aNil ρ).map PyData.list))) (sRet (gC (.bool false))) sNil)
  (sSeq (sIf (bB (b2 dEq (fgtF (gX 3)) (vTup aNil))) (sRet (b2 dEq (gX 5) (fun ρ => ((aCons (vTup aNil) aNil) ρ).map PyData.list))) sNil)
  (sSeq (sSet 10 (aOf g_part (aCons (gV 2) (aCons (gV 3) aNil))))
  (sSeq (sIf (bNot (bB (b2 dGe (b2 dMul (b2 dIx (aOf g_most_apart (aCons (aOf g_turned (aCons (gV 10) aNil)) (aCons (aOf g_everybody (aCons (gV 10) aNil)) aNil))) (gC (.int 0))) (gX 7)) (gC (.int 1))))) (sRet (gC (.bool false))) sNil)
  (sRet (b2 dEq (aOf gLen (aCons (aOf g_apart_sets (aCons (gV 10) (aCons (aOf g_everybody (aCons (gV 10) aNil)) aNil))) aNil)) (aOf gLen (aCons (gX 4) aNil))))))))))
theorem goB {w : List (List Int)} {st e r : List Int} (hw : Web w) (hn6 : w.length ≤ 6) (hs : Ppl w.length st) (W : Wid ((chM st).filter fun r => apM w r) e) (hr : r ∈ apsM w st) (xs : D) (K : Fl → Prop) (hK : K (.rt (.bool true))) : fW PROGB [.v xs, .row, .v (webD w), .v (kD st), .v (.list ((apsM w st).map tR)), .v (.list ((fullM w st).map tR)), .v (tR (cnts w st)), .v (.int e.length), .v (tR e), .v (tR r), .no, .no, .no, .no] K := by
  have hl := hw.le
  obtain ⟨r1, r2⟩ := mem_apsM.mp hr
  have hrp := hs.sub r1
  have hef := ap_max hw hs W
  unfold PROGB
  -- 13
  refine q_no ((and_b (bB_of (c3 (p := webD w) (q := tR st) (r := tR r) rfl (fgVk rfl) rfl (v_can_stand_together hw hs hrp))) fun hc => neNilF encInt (xs := r.filter fun x => !decide (x ∈ st.filter fun p => (endsM w st).any fun e => decide (p ∈ e))) (cLc_map r .int (fun x => !decide (x ∈ st.filter fun p => (endsM w st).any fun e => decide (p ∈ e))) .int (it_T rfl) rfl (fun x hx => ⟨_, rfl, cmp_b (p := .int x) rfl (c2 (p := webD w) (q := tR st) rfl (fgVk rfl) (v_who_can_stand hw hs)) (e_niT x _), fun _ => rfl⟩)) (filter_none fun x hx => by
      obtain ⟨q, hq, hq2⟩ := List.any_eq_true.mp hc
      have : x ∈ st.filter fun p => (endsM w st).any fun e => decide (p ∈ e) := List.mem_filter.mpr ⟨r1.subset hx, List.any_eq_true.mpr ⟨q, hq, decide_eq_true (by simpa using List.all_eq_true.mp hq2 x hx)⟩⟩
      rw [decide_eq_true this]; rfl)).trans (by rw [Bool.and_false])) ?_
  -- 14
  have hgr : ((grpsM w st).length : Int) ≤ e.length := by
    have h1 := grps_le hw hs
    have h2 := W.2 _ (List.mem_filter.mpr ⟨mem_chM.mpr (List.filter_sublist (p := fun x => !has w st (fun x k => decide (x < k)) x) (l := st)), pk_ap hw hs⟩)
    omega
  refine q_no (or_no (cmp_b (p := .int (grpsM w st).length) (c1 (p := .tuple ((grpsM w st).map tR)) (c2 (p := webD w) (q := tR st) rfl (fgVk rfl) (v_groups hw hs)) (by show some (PyData.int (((grpsM w st).map tR).length : Int)) = _; rw [List.length_map])) (q := .int e.length) rfl ((gt_i _ _).trans (by rw [decide_eq_false (by omega)]))) (cmp_b (p := .bool (apM w st)) (c2 (p := webD w) (q := tR st) rfl (fgVk rfl) (v_is_end hw hs)) (q := .bool (decide (fullM w st = [st]))) ((b2_of (p := .list ((fullM w st).map tR)) (q := .list (([st] : List (List Int)).map tR)) rfl (by show Option.map _ (aCons _ _ _) = _; rw [e_aCons, fgVk rfl]; rfl)).trans (encInt.tup.list.eq (fullM w st) [st])) (by rw [← full_one hw hs]; exact neBl _))) ?_
  -- 15
  refine q_no (neNilF encInt (xs := (st.filter fun x => !has w st (fun x k => decide (x < k)) x).filter fun x => decide ((fullM w st).filter (fun q => decide (x ∈ q)) = [])) (cLc_map (st.filter fun x => !has w st (fun x k => decide (x < k)) x) .int (fun x => decide ((fullM w st).filter (fun q => decide (x ∈ q)) = [])) .int (it_T (c2 (p := webD w) (q := tR st) rfl (fgVk rfl) (v_peaks hw hs))) rfl (fun x hx => ⟨_, rfl, bB_of (eqNil encInt.tup (xs := (fullM w st).filter fun q => decide (x ∈ q)) (cLc_map (fullM w st) tR (fun q => decide (x ∈ q)) tR (it_L rfl) rfl (fun q hq => ⟨_, rfl, cmp_b (p := .int x) rfl (q := tR q) rfl (e_inT x q), fun _ => rfl⟩))), fun _ => rfl⟩)) (filter_none fun x hx => decide_eq_false fun z => List.filter_eq_nil_iff.mp z _ (greed_full hw hs) (decide_eq_true (peak_greed hw hs hx)))) ?_
  -- 16
  by_cases c : st = []
  · subst c
    refine s_seq (s_yes ((eqB encInt.tup (a := ([] : List Int)) (b := []) (fgXk rfl) rfl).trans (by rw [decide_eq_true rfl])) (s_ret (.bool true) ((b2_of (p := .list ((fullM w []).map tR)) (q := .list (([[]] : List (List Int)).map tR)) rfl rfl).trans ((encInt.tup.list.eq (fullM w []) [[]]).trans ?_)) hK))
    have f1 := full_one (w := w) (st := []) hw ⟨.nil, fun k hk => by cases hk⟩
    rw [← f1]; rfl
  refine q_no ((eqB encInt.tup (a := st) (b := []) (fgXk rfl) rfl).trans (by rw [decide_eq_false c])) ?_
  -- 17, 18, 19: the part
  have hpn := hs.len
  have qpos : 1 ≤ st.length := List.length_pos_iff.mpr c
  have hO : Web (webBy st.length (parE w st)) := web_webBy qpos (by omega) par_edges
  have hOl : (webBy st.length (parE w st)).length = st.length := webBy_len _ _
  refine q_set (webD (webBy st.length (parE w st))) ((c2 (p := webD w) (q := kS st) rfl (by show some (kD st) = some (kS st); rw [show kS st = kD st from if_neg c]) (v_part hw hs c))) ?_
  have hcnt := par_count hw hs
  generalize webBy st.length (parE w st) = O at hO hOl hcnt ⊢
  show fW _ [.v xs, .row, .v (webD w), .v (kD st), .v (.list ((apsM w st).map tR)), .v (.list ((fullM w st).map tR)), .v (tR (cnts w st)), .v (.int e.length), .v (tR e), .v (tR r), .v (webD O), .no, .no, .no] _
  have hOp : Ppl O.length (upI O.length) := ppl_upI _
  have one : ∀ U : List (List Int), Web U → U.length = O.length → ∃ f, (1 ≤ f.length ∧ f.length ≤ 7) ∧ g_most_apart [webD U, tR (upI O.length)] = some (irD (f.length, f)) := fun U hU hUl => by
    have hp : Ppl U.length (upI O.length) := by rw [hUl]; exact hOp
    obtain ⟨f, Wf, ef⟩ := v_most_apart hU hp
    exact ⟨f, ⟨wid_pos hU hp (fun z => by have := congrArg List.length z; rw [upI_length, List.length_nil] at this; have := hU.pos; omega) Wf, by have := (hp.sub (mem_chM.mp (List.mem_filter.mp Wf.1).1)).len; have := hU.le; omega⟩, ef⟩
  obtain ⟨f, ⟨f1, hFl⟩, ef⟩ := one (trnM O) (web_webBy hO.pos hO.le trn_edges) (by unfold trnM; rw [webBy_len])
  have hm := wid_pos hw hs c W
  refine q_no (not_b (b := true) (cmp_b (p := .int ((f.length : Int) * (e.length : Int))) (mul_v ((b2_of (p := irD (f.length, f)) (q := .int 0) (c2 (p := webD (trnM O)) (q := tR (upI O.length)) (c1 (p := webD O) rfl (v_turned hO)) (c1 (p := webD O) rfl (v_everybody hO)) ef) rfl).trans (ir0 _)) rfl (by have := hFl; omega)) (q := .int 1) rfl ?_)) ?_
  · show some (PyData.bool (decide ((1 : Int) ≤ (f.length : Int) * (e.length : Int)))) = _
    rw [decide_eq_true]
    have : (0 : Int) < (f.length : Int) * (e.length : Int) := Int.mul_pos (by omega) (by omega)
    omega
  · refine s_ret (.bool true) ((b2_of (p := .int (apsM O (upI O.length)).length) (q := .int (apsM w st).length) (len_l (c2 (p := webD O) (q := tR (upI O.length)) rfl (c1 (p := webD O) rfl (v_everybody hO)) (v_apart_sets hO hOp))) (len_l rfl)).trans ((encInt.eq _ _).trans ?_)) hK
    have e1 : (apsM O (upI O.length)).length = (apsM w st).length := by
      unfold apsM
      rw [(sortR_perm _).length_eq, (sortR_perm _).length_eq, hOl]
      exact hcnt
    rw [e1, decide_eq_true rfl]
theorem goA {w : List (List Int)} {st : List Int} (hw : Web w) (hn6 : w.length ≤ 6) (hs : Ppl w.length st) (xs : D) (K : Fl → Prop) (hK : K (.rt (.bool true))) : PROGA [.v xs, .row, .v (webD w), .v (kD st), .v (.list ((apsM w st).map tR)), .v (.list ((fullM w st).map tR)), .v (tR (cnts w st)), .no, .no, .no, .no, .no, .no, .no] K := by
  have hl := hw.le
  have hpos := hw.pos
  have hpn := hs.len
  obtain ⟨e, W, ee⟩ := v_most_apart hw hs
  have hef := ap_max hw hs W
  have hmem : ∀ r ∈ apsM w st, r.length ≤ e.length := fun r hr => by
    obtain ⟨r1, r2⟩ := mem_apsM.mp hr
    have := W.2 r (List.mem_filter.mpr ⟨mem_chM.mpr r1, r2⟩)
    omega
  have hee : e ∈ apsM w st := by
    obtain ⟨h1, h2⟩ := List.mem_filter.mp W.1
    exact mem_apsM.mpr ⟨mem_chM.mp h1, h2⟩
  have hfa : ∀ r ∈ fullM w st, r ∈ apsM w st := fun r hr => mem_apsM.mpr ⟨(mem_full.mp hr).1, (mem_full.mp hr).2.1⟩
  have hAl : (apsM w st).length = ((chM st).filter fun r => apM w r).length := by unfold apsM; rw [(sortR_perm _).length_eq]
  have hsz : (apsM w st).length ≤ 64 := by
    rw [hAl]
    refine Nat.le_trans (List.length_filter_le _ _) ?_
    rw [chM_len]
    exact Nat.le_trans (Nat.pow_le_pow_right (by omega) (show st.length ≤ 6 by omega)) (by decide)
  have hnil : ([] : List Int) ∈ apsM w st := mem_apsM.mpr ⟨List.nil_sublist _, ap_nil⟩
  have hclen : ∀ {ρ : Rho}, gX 6 ρ = some (tR (cnts w st)) → aOf gLen (aCons (gX 6) aNil) ρ = some (.int ((w.length + 1 : Nat) : Int)) := fun h => by
    rw [← cnts_len (w := w) (st := st)]
    exact len_t h
  unfold PROGA
  -- 4
  refine wq_no (or_no (neE encInt (a := (cnts w st).sum) (b := ((apsM w st).length : Int)) (c1 (p := tR (cnts w st)) rfl (e_gSumT _)) (len_l rfl) ?_) (or_no (neE encInt (a := ((cA w st 0 : Nat) : Int)) (b := 1) ((b2_of (p := tR (cnts w st)) (q := .int ((0 : Nat) : Int)) rfl rfl).trans (cnts_at (by omega))) rfl (by rw [cA_0]; rfl)) (or_no ((and_b (cmp_b (p := .int ((w.length + 1 : Nat) : Int)) (hclen rfl) (q := .int 1) rfl (gt_i _ _)) fun _ => neE encInt (a := ((cA w st 1 : Nat) : Int)) (b := (st.length : Int)) ((b2_of (p := tR (cnts w st)) (q := .int ((1 : Nat) : Int)) rfl rfl).trans (cnts_at (by omega))) (len_t (fgXk rfl)) (by rw [cA_1 hw hs])).trans (by rw [Bool.and_false])) (niLE encInt.tup (a := ([] : List Int)) (xs := apsM w st) rfl rfl hnil)))) ?_
  · unfold cnts
    rw [count_sum, List.length_map, hAl]
    intro x hx
    obtain ⟨r, hr, rfl⟩ := List.mem_map.mp hx
    have := (hs.sub (mem_chM.mp (List.mem_filter.mp hr).1)).len
    exact ⟨by omega, by omega⟩
  -- 5
  have hp2 := cA_2 hw hs
  refine wq_no ((and_b (cmp_b (p := .int ((w.length + 1 : Nat) : Int)) (hclen rfl) (q := .int 2) rfl (gt_i _ _)) fun hb => neE encInt (a := ((cA w st 2 : Nat) : Int)) (b := (st.length : Int) * ((st.length : Int) - 1) / 2 - (((prs w).filter (both st)).length : Int)) ((b2_of (p := tR (cnts w st)) (q := .int ((2 : Nat) : Int)) rfl rfl).trans (cnts_at (by have := of_decide_eq_true hb; omega))) (sub_v ((b2_of (p := .int ((st.length : Int) * ((st.length : Int) - 1))) (q := .int 2) (mul_v (len_t (fgXk rfl)) (sub_v (len_t (fgXk rfl)) (y := 1) rfl) (by omega)) rfl).trans (fdiv2 _)) (c1 (p := .tuple (((prs w).filter (both st)).map edgeD)) (c2 (p := webD w) (q := tR st) rfl (fgVk rfl) (v_standing_pairs hw hs)) (by show some (PyData.int ((((prs w).filter (both st)).map edgeD).length : Int)) = _; rw [List.length_map]))) ?_).trans (by rw [Bool.and_false])) ?_
  · have e1 : (st.length : Int) * ((st.length : Int) - 1) = 2 * ((cA w st 2 : Int) + (((prs w).filter (both st)).length : Int)) := by
      rw [Int.mul_sub, Int.mul_one]
      have : ((st.length * st.length : Nat) : Int) = (st.length : Int) * (st.length : Int) := Int.natCast_mul _ _
      omega
    omega
  -- 6
  refine wq_asg (irD (e.length, e)) (c2 (p := webD w) (q := tR st) rfl (fgVk rfl) ee) rfl ?_
  show wSeq _ _ [.v xs, .row, .v (webD w), .v (kD st), .v (.list ((apsM w st).map tR)), .v (.list ((fullM w st).map tR)), .v (tR (cnts w st)), .v (.int e.length), .v (tR e), .no, .no, .no, .no, .no] _
  -- 7
  have hlens : ((fullM w st).map fun r => (r.length : Int)) ≠ [] := fun z => by rw [List.map_eq_nil_iff.mp z] at hef; cases hef
  obtain ⟨M, hM, eM, hMle⟩ := max_ints hlens
  have eMe : M = e.length := by
    obtain ⟨r, hr, rfl⟩ := List.mem_map.mp hM
    have h1 := hMle _ (List.mem_map.mpr ⟨e, hef, rfl⟩)
    have h2 := hmem r (hfa r hr)
    omega
  subst eMe
  refine wq_no (or_no (niLE encInt.tup (a := e) (xs := fullM w st) rfl rfl hef) (neE encInt (a := (e.length : Int)) (b := (e.length : Int)) rfl (c1 (p := .list (((fullM w st).map fun r => (r.length : Int)).map .int)) (lcL ?_) eM) rfl)) ?_
  · rw [cLc_map (fullM w st) tR (fun _ => true) (fun r => .int r.length) (it_L rfl) rfl (fun r hr => ⟨_, rfl, rfl, fun _ => len_t rfl⟩), List.filter_eq_self.mpr fun _ _ => rfl, List.map_map]; rfl
  -- 8
  have hcl : (cLc [11] (tgN 11) (bB (b2 dGt (b2 dIx (gX 6) (gX 11)) (gC (.int 0)))) (gV 11) (aOf gRng1 (aCons (aOf gLen (aCons (gX 6) aNil)) aNil))) [.v xs, .row, .v (webD w), .v (kD st), .v (.list ((apsM w st).map tR)), .v (.list ((fullM w st).map tR)), .v (tR (cnts w st)), .v (.int e.length), .v (tR e), .no, .no, .no, .no, .no] = some (((upI (w.length + 1)).filter fun k => decide ((0 : Int) < ((cA w st k.toNat : Nat) : Int))).map .int) := by
    refine cLc_map (upI (w.length + 1)) .int (fun k => decide ((0 : Int) < ((cA w st k.toNat : Nat) : Int))) .int (c1 (hclen rfl) (gRng1_upI _ (by omega))) rfl (fun k hk => ⟨_, rfl, ?_, fun _ => rfl⟩)
    obtain ⟨k0, k1⟩ := mem_upI.mp hk
    obtain ⟨j, rfl⟩ := Int.eq_ofNat_of_zero_le k0
    exact cmp_b (p := .int (cA w st j)) ((b2_of (p := tR (cnts w st)) (q := .int (j : Int)) rfl rfl).trans (cnts_at (by omega))) (q := .int 0) rfl (gt_i _ _)
  have hcpos : ∀ k : Nat, 0 < cA w st k ↔ ∃ r ∈ apsM w st, r.length = k := fun k => by
    rw [cA_eq, List.length_pos_iff_exists_mem]
    constructor
    · rintro ⟨r, hr⟩
      obtain ⟨h1, h2⟩ := List.mem_filter.mp hr
      rw [Bool.and_eq_true, decide_eq_true_eq] at h2
      exact ⟨r, mem_apsM.mpr ⟨mem_chM.mp h1, h2.1⟩, h2.2⟩
    · rintro ⟨r, hr, h2⟩
      obtain ⟨h1, h3⟩ := mem_apsM.mp hr
      exact ⟨r, List.mem_filter.mpr ⟨mem_chM.mpr h1, by rw [h3, decide_eq_true h2]; rfl⟩⟩
  have hen : e.length ≤ w.length := by
    have := (hs.sub (mem_apsM.mp hee).1).len
    exact this
  refine wq_no (neE encInt (a := (e.length : Int)) (b := (e.length : Int)) ((b2_of (p := .list (((upI (w.length + 1)).filter fun k => decide ((0 : Int) < ((cA w st k.toNat : Nat) : Int))).map .int)) (q := .int (-1)) (lcL hcl) rfl).trans (last_l ((pw_upI _).sublist List.filter_sublist) (List.mem_filter.mpr ⟨mem_upI.mpr ⟨by omega, by omega⟩, ?_⟩) fun k hk => ?_)) rfl rfl) ?_
  · rw [decide_eq_true_eq]
    have := (hcpos e.length).mpr ⟨e, hee, rfl⟩
    show (0 : Int) < ((cA w st ((e.length : Int)).toNat : Nat) : Int)
    rw [Int.toNat_natCast]; omega
  · obtain ⟨h1, h2⟩ := List.mem_filter.mp hk
    have h3 := of_decide_eq_true h2
    obtain ⟨r, hr, h4⟩ := (hcpos k.toNat).mp (by omega)
    have := hmem r hr
    have := (mem_upI.mp h1).1
    omega
  -- 9
  show fW (sFor _ _ _) _ _
  refine s_inv (fun s : Option D => [.v xs, .row, .v (webD w), .v (kD st), .v (.list ((apsM w st).map tR)), .v (.list ((fullM w st).map tR)), .v (tR (cnts w st)), .v (.int e.length), .v (tR e), nv s, .no, .no, .no, .no]) (apsM w st) tR (fun _ _ => True) none (it_L rfl) rfl trivial (fun i s r hr _ => ?_) fun s _ => ?_
  · have hr := List.mem_of_getElem? hr
    obtain ⟨r1, r2⟩ := mem_apsM.mp hr
    have hrp := hs.sub r1
    have hend : decide (r ∈ endsM w st) = fitM w st r := by
      rw [Bool.eq_iff_iff, decide_eq_true_eq, mem_endsM]
      exact ⟨fun z => z.2.2, fun z => ⟨r1, r2, z⟩⟩
    have hlost : decide (r ∈ (sortR (chM st)).filter fun r => apM w r && !decide (r ∈ endsM w st)) = !fitM w st r := by
      rw [← hend, Bool.eq_iff_iff, decide_eq_true_eq, List.mem_filter, mem_sortR, mem_chM, Bool.and_eq_true]
      exact ⟨fun z => z.2.2, fun z => ⟨r1, r2, z⟩⟩
    refine ⟨_, rfl, ?_⟩
    refine q_no (or_no (not_b (b := true) (bB_of ((c2 (p := webD w) (q := tR r) rfl rfl (v_is_end hw hrp)).trans (by show some (PyData.bool (apM w r)) = _; rw [r2])))) (cmp_b (p := .bool (decide (r ∈ fullM w st))) ((b2_of (p := tR r) (q := .list ((fullM w st).map tR)) rfl rfl).trans (inR r (fullM w st))) (q := .bool (decide (r ∈ fullM w st))) (c3 (p := webD w) (q := tR st) (r := tR r) rfl (fgVk rfl) rfl (v_is_full hw hs hrp)) (neBl _))) ?_
    refine q_no (cmp_b (p := .bool (decide (r ∈ endsM w st))) ((b2_of (p := tR r) (q := .list ((endsM w st).map tR)) rfl (c2 (p := webD w) (q := tR st) rfl (fgVk rfl) (v_ends hw hs))).trans (inR r (endsM w st))) (q := .bool (fitM w st r)) (c3 (p := webD w) (q := tR st) (r := tR r) rfl (fgVk rfl) rfl (v_can_come hw hs hrp)) (by rw [hend]; exact neBl _)) ?_
    exact s_no (cmp_b (p := .bool (decide (r ∈ (sortR (chM st)).filter fun r => apM w r && !decide (r ∈ endsM w st)))) ((b2_of (p := tR r) rfl (c2 (p := webD w) (q := tR st) rfl (fgVk rfl) (v_lost_ends hw hs))).trans (inR r _)) (q := .bool (fitM w st r)) (c3 (p := webD w) (q := tR st) (r := tR r) rfl (fgVk rfl) rfl (v_can_come hw hs hrp)) (eqBl hlost)) (s_nil ⟨some (tR r), rfl, trivial⟩)
  -- 10, 11
  have hge := greed_end hw hs
  have hgf := greed_full hw hs
  refine wq_no (niLE encInt.tup (a := greedM w st) (xs := (endsM w st).filter fun e => decide (e ∈ fullM w st)) (c2 (p := webD w) (q := tR st) rfl (fgVk rfl) (v_greedy_end hw hs)) (c2 (p := webD w) (q := tR st) rfl (fgVk rfl) (v_full_ends hw hs)) (List.mem_filter.mpr ⟨hge, decide_eq_true hgf⟩)) ?_
  refine wq_no (neNilF encInt.tup (xs := ((endsM w st).filter fun e => decide (e ∈ fullM w st)).filter fun q => (!decide (q ∈ fullM w st)) || !decide (q ∈ endsM w st)) (cLc_map ((endsM w st).filter fun e => decide (e ∈ fullM w st)) tR (fun q => (!decide (q ∈ fullM w st)) || !decide (q ∈ endsM w st)) tR (it_L (c2 (p := webD w) (q := tR st) rfl (fgVk rfl) (v_full_ends hw hs))) (by cases s <;> rfl) (fun q hq => ⟨_, rfl, or_b (cmp_b (p := tR q) rfl (q := .list ((fullM w st).map tR)) rfl (niR q _)) (fun _ => cmp_b (p := tR q) rfl (q := .list ((endsM w st).map tR)) (c2 (p := webD w) (q := tR st) rfl (fgVk rfl) (v_ends hw hs)) (niR q _)), fun _ => rfl⟩)) (filter_none fun q hq => by
      obtain ⟨h1, h2⟩ := List.mem_filter.mp hq
      rw [h2, decide_eq_true h1]; rfl)) ?_
  -- 12
  refine ⟨rfl, _, rfl, w_pick (by rw [List.length_map]; exact List.length_pos_iff.mpr (List.ne_nil_of_mem hnil)) (by rw [List.length_map]; omega) fun q hq => ?_⟩
  obtain ⟨r, hr, rfl⟩ := List.mem_map.mp hq
  exact goB hw hn6 hs W hr xs _ hK
theorem law_value (ns : List Int) (h : ns.length ≤ 63) (K : D → Prop) (hK : K (.bool true)) : runW 14 T_law [.list (ns.map .int)] K := by
  show T_law [.v (.list (ns.map .int)), .no, .no, .no, .no, .no, .no, .no, .no, .no, .no, .no, .no, .no] _
  refine ⟨by show 1 < 14; omega, _, rfl, ns, 0, 9963, 0, rfl, h, by omega, by omega, by omega, ?_⟩
  generalize PyData.list (ns.map .int) = xs
  refine ⟨rfl, _, rfl, w_web (by omega) (by omega) fun w hw hwl => ?_⟩
  refine ⟨rfl, _, rfl, w_upK hw fun st hs => ?_⟩
  refine wq_puts [.f (.list ((apsM w st).map tR)), .f (.list ((fullM w st).map tR)), .f (tR (cnts w st))] (pF_of (c2 (p := webD w) (q := tR st) rfl (fgVk rfl) (v_apart_sets hw hs)) (pF_of (c2 (p := webD w) (q := tR st) rfl (fgVk rfl) (v_full_apart_sets hw hs)) (pF_of (c2 (p := webD w) (q := tR st) rfl (fgVk rfl) (v_count_apart hw hs)) rfl))) rfl (goA hw (by omega) hs xs _ hK)
end W

set_option Elab.async false
set_option linter.all false
set_option maxRecDepth 100000
set_option maxHeartbeats 4000000
namespace W
open PySem PySem.Spec PyProof.Rows L2 L2.P
def d_is_integer : He.DefD := ⟨("is_integer", none), "is_integer", "is_integer", defArgs s_is_integer, defBody s_is_integer, defScope s_is_integer, [], []⟩
def d_is_in : He.DefD := ⟨("is_in", none), "is_in", "is_in", defArgs s_is_in, defBody s_is_in, defScope s_is_in, [], []⟩
def d_is_list : He.DefD := ⟨("is_list", none), "is_list", "is_list", defArgs s_is_list, defBody s_is_list, defScope s_is_list, [], []⟩
def d_need_web : He.DefD := ⟨("need_web", none), "need_web", "need_web", defArgs s_need_web, defBody s_need_web, defScope s_need_web, [], []⟩
def d_is_set : He.DefD := ⟨("is_set", none), "is_set", "is_set", defArgs s_is_set, defBody s_is_set, defScope s_is_set, [], []⟩
def d_need_people : He.DefD := ⟨("need_people", none), "need_people", "need_people", defArgs s_need_people, defBody s_need_people, defScope s_need_people, [], []⟩
def d_need_state : He.DefD := ⟨("need_state", none), "need_state", "need_state", defArgs s_need_state, defBody s_need_state, defScope s_need_state, [], []⟩
def d_need_two : He.DefD := ⟨("need_two", none), "need_two", "need_two", defArgs s_need_two, defBody s_need_two, defScope s_need_two, [], []⟩
def d_pairs_in : He.DefD := ⟨("pairs_in", none), "pairs_in", "pairs_in", defArgs s_pairs_in, defBody s_pairs_in, defScope s_pairs_in, [], []⟩
def d_web_by : He.DefD := ⟨("web_by", none), "web_by", "web_by", defArgs s_web_by, defBody s_web_by, defScope s_web_by, [], []⟩
def d_taller_in : He.DefD := ⟨("taller_in", none), "taller_in", "taller_in", defArgs s_taller_in, defBody s_taller_in, defScope s_taller_in, [], []⟩
def d_peaks_in : He.DefD := ⟨("peaks_in", none), "peaks_in", "peaks_in", defArgs s_peaks_in, defBody s_peaks_in, defScope s_peaks_in, [], []⟩
def d_peaks : He.DefD := ⟨("peaks", none), "peaks", "peaks", defArgs s_peaks, defBody s_peaks, defScope s_peaks, [], []⟩
def d_everybody : He.DefD := ⟨("everybody", none), "everybody", "everybody", defArgs s_everybody, defBody s_everybody, defScope s_everybody, [], []⟩
def d_standing_pairs : He.DefD := ⟨("standing_pairs", none), "standing_pairs", "standing_pairs", defArgs s_standing_pairs, defBody s_standing_pairs, defScope s_standing_pairs, [], []⟩
def d_apart_in : He.DefD := ⟨("apart_in", none), "apart_in", "apart_in", defArgs s_apart_in, defBody s_apart_in, defScope s_apart_in, [], []⟩
def d_is_end : He.DefD := ⟨("is_end", none), "is_end", "is_end", defArgs s_is_end, defBody s_is_end, defScope s_is_end, [], []⟩
def d_groups_in : He.DefD := ⟨("groups_in", none), "groups_in", "groups_in", defArgs s_groups_in, defBody s_groups_in, defScope s_groups_in, [], []⟩
def d_groups : He.DefD := ⟨("groups", none), "groups", "groups", defArgs s_groups, defBody s_groups, defScope s_groups, [], []⟩
def d_choices : He.DefD := ⟨("choices", none), "choices", "choices", defArgs s_choices, defBody s_choices, defScope s_choices, [], []⟩
def d_call_in : He.DefD := ⟨("call_in", none), "call_in", "call_in", defArgs s_call_in, defBody s_call_in, defScope s_call_in, [], []⟩
def d_story_in : He.DefD := ⟨("story_in", none), "story_in", "story_in", defArgs s_story_in, defBody s_story_in, defScope s_story_in, [], []⟩
def d_may_call : He.DefD := ⟨("may_call", none), "may_call", "may_call", defArgs s_may_call, defBody s_may_call, defScope s_may_call, [], []⟩
def d_fits : He.DefD := ⟨("fits", none), "fits", "fits", defArgs s_fits, defBody s_fits, defScope s_fits, [], []⟩
def d_can_come : He.DefD := ⟨("can_come", none), "can_come", "can_come", defArgs s_can_come, defBody s_can_come, defScope s_can_come, [], []⟩
def d_ends_in : He.DefD := ⟨("ends_in", none), "ends_in", "ends_in", defArgs s_ends_in, defBody s_ends_in, defScope s_ends_in, [], []⟩
def d_ends : He.DefD := ⟨("ends", none), "ends", "ends", defArgs s_ends, defBody s_ends, defScope s_ends, [], []⟩
def d_greedy_in : He.DefD := ⟨("greedy_in", none), "greedy_in", "greedy_in", defArgs s_greedy_in, defBody s_greedy_in, defScope s_greedy_in, [], []⟩
def d_greedy_end : He.DefD := ⟨("greedy_end", none), "greedy_end", "greedy_end", defArgs s_greedy_end, defBody s_greedy_end, defScope s_greedy_end, [], []⟩
def d_who_can_stand : He.DefD := ⟨("who_can_stand", none), "who_can_stand", "who_can_stand", defArgs s_who_can_stand, defBody s_who_can_stand, defScope s_who_can_stand, [], []⟩
def d_can_stand_together : He.DefD := ⟨("can_stand_together", none), "can_stand_together", "can_stand_together", defArgs s_can_stand_together, defBody s_can_stand_together, defScope s_can_stand_together, [], []⟩
def d_apart_sets : He.DefD := ⟨("apart_sets", none), "apart_sets", "apart_sets", defArgs s_apart_sets, defBody s_apart_sets, defScope s_apart_sets, [], []⟩
def d_full_in : He.DefD := ⟨("full_in", none), "full_in", "full_in", defArgs s_full_in, defBody s_full_in, defScope s_full_in, [], []⟩
def d_full_apart_sets : He.DefD := ⟨("full_apart_sets", none), "full_apart_sets", "full_apart_sets", defArgs s_full_apart_sets, defBody s_full_apart_sets, defScope s_full_apart_sets, [], []⟩
def d_count_apart : He.DefD := ⟨("count_apart", none), "count_apart", "count_apart", defArgs s_count_apart, defBody s_count_apart, defScope s_count_apart, [], []⟩
def d_most_apart : He.DefD := ⟨("most_apart", none), "most_apart", "most_apart", defArgs s_most_apart, defBody s_most_apart, defScope s_most_apart, [], []⟩
def d_full_ends : He.DefD := ⟨("full_ends", none), "full_ends", "full_ends", defArgs s_full_ends, defBody s_full_ends, defScope s_full_ends, [], []⟩
def d_lost_ends : He.DefD := ⟨("lost_ends", none), "lost_ends", "lost_ends", defArgs s_lost_ends, defBody s_lost_ends, defScope s_lost_ends, [], []⟩
def d_is_full : He.DefD := ⟨("is_full", none), "is_full", "is_full", defArgs s_is_full, defBody s_is_full, defScope s_is_full, [], []⟩
def d_part : He.DefD := ⟨("part", none), "part", "part", defArgs s_part, defBody s_part, defScope s_part, [], []⟩
def d_turned : He.DefD := ⟨("turned", none), "turned", "turned", defArgs s_turned, defBody s_turned, defScope s_turned, [], []⟩
def d__law_taken : He.DefD := ⟨("_law_taken", none), "_law_taken", "_law_taken", defArgs s__law_taken, defBody s__law_taken, defScope s__law_taken, [], []⟩
def d__law_pick : He.DefD := ⟨("_law_pick", none), "_law_pick", "_law_pick", defArgs s__law_pick, defBody s__law_pick, defScope s__law_pick, [], []⟩
def d__law_by : He.DefD := ⟨("_law_by", none), "_law_by", "_law_by", defArgs s__law_by, defBody s__law_by, defScope s__law_by, [], []⟩
def d__law_web : He.DefD := ⟨("_law_web", none), "_law_web", "_law_web", defArgs s__law_web, defBody s__law_web, defScope s__law_web, [], []⟩
def d__law_up : He.DefD := ⟨("_law_up", none), "_law_up", "_law_up", defArgs s__law_up, defBody s__law_up, defScope s__law_up, [], []⟩
def d_law : He.DefD := ⟨("law", none), "law", "law", defArgs s_law, defBody s_law, defScope s_law, [], []⟩
def fn : List He.DefD := [d_is_integer, d_is_in, d_is_list, d_need_web, d_is_set, d_need_people, d_need_state, d_need_two, d_pairs_in, d_web_by, d_taller_in, d_peaks_in, d_peaks, d_everybody, d_standing_pairs, d_apart_in, d_is_end, d_groups_in, d_groups, d_choices, d_call_in, d_story_in, d_may_call, d_fits, d_can_come, d_ends_in, d_ends, d_greedy_in, d_greedy_end, d_who_can_stand, d_can_stand_together, d_apart_sets, d_full_in, d_full_apart_sets, d_count_apart, d_most_apart, d_full_ends, d_lost_ends, d_is_full, d_part, d_turned, d__law_taken, d__law_pick, d__law_by, d__law_web, d__law_up, d_law]
def fa : List He.Fa := [.glo "is_integer", .glo "is_in", .glo "is_list", .glo "need_web", .glo "is_set", .glo "need_people", .glo "need_state", .glo "need_two", .glo "pairs_in", .glo "web_by", .glo "taller_in", .glo "peaks_in", .glo "peaks", .glo "everybody", .glo "standing_pairs", .glo "apart_in", .glo "is_end", .glo "groups_in", .glo "groups", .glo "choices", .glo "call_in", .glo "story_in", .glo "may_call", .glo "fits", .glo "can_come", .glo "ends_in", .glo "ends", .glo "greedy_in", .glo "greedy_end", .glo "who_can_stand", .glo "can_stand_together", .glo "apart_sets", .glo "full_in", .glo "full_apart_sets", .glo "count_apart", .glo "most_apart", .glo "full_ends", .glo "lost_ends", .glo "is_full", .glo "part", .glo "turned", .glo "_law_taken", .glo "_law_pick", .glo "_law_by", .glo "_law_web", .glo "_law_up", .glo "law", .free "len", .free "range", .free "tuple", .free "list", .free "sorted", .free "set", .free "any", .free "all", .free "min", .free "max", .free "sum", .free "abs", .free "int", .free "str", .free "bool", .free "isinstance", .free "enumerate", .free "zip", .int "MOST_PEOPLE" 7]
def loose : List Str := (["is_integer", "is_in", "is_list", "SitError", "BadWeb", "BadStanding", "BadPeople", "MOST_PEOPLE", "need_web", "is_set", "need_people", "need_state", "need_two", "pairs_in", "web_by", "taller_in", "peaks_in", "peaks", "everybody", "standing_pairs", "apart_in", "is_end", "groups_in", "groups", "choices", "call_in", "story_in", "may_call", "fits", "can_come"] : List Str) ++ (["ends_in", "ends", "greedy_in", "greedy_end", "who_can_stand", "can_stand_together", "apart_sets", "full_in", "full_apart_sets", "count_apart", "most_apart", "full_ends", "lost_ends", "is_full", "part", "turned", "_law_taken", "_law_pick", "_law_by", "_law_web", "_law_up"] : List Str)
def tf : List He.Defn := [("law", none)]
def ex (K : PySem.W.Frag) : Bool := tabsOkB K tf
theorem ex_tabs_ok {K : PySem.W.Frag} (h : ex K = true) : tabsOkB K tf = true := h
abbrev R : PySem.W.OpenRow := PySem.W.OpenLaw.row PySem.Challenge.rw_tallsits_k63_whole_apart_sets_compared
abbrev hk : PySem.W.Hook := He.hookX 2 fa fn [] tf ex
def ob (s : PySem.W.SharedT) : He.AlX := He.obsX 2 fa fn [] tf ex (HandSHeadRun.getT s)
theorem ob_eq (s : PySem.W.SharedT) : ob s = hk.obs s.abs := He.obsX_eq (HandSHeadRun.getT_eq s)
theorem run (w : World) : HandSHeadRun.RunEq R (PySem.W.view R.prog [60]) hk ob 20000 loose w := by
  intro os
  kernel_rfl
theorem facts {P : Program} {w : World} {K : PySem.W.Frag} {h : Heap} {mg : Str → Option Value} {f : Addr} (X : K.In h) (G : h.Ns mainGlobals mg) (hfa : mg ("law" : Str) = some (.ref f)) (c : He.SaysD fa fn K) (cx : ex K = true) :
    ∃ fd : FuncData, (∀ (s : Shared) (v : Value), BindsTo s fd ⟨[v], []⟩ [("_law_script", v)]) ∧ ∀ base : Heap, K.In base → base.Ns mainGlobals mg → (∀ p ∈ tf.map (He.cT K), LamX.TabB base mg p.1 p.2) → FnOk P w K mg base CX0 7 f fd ["_law_script"] (spF (Kz K) 1 (runW 14 T_law)) := by
  obtain ⟨fd, F⟩ := c.def_ 46 (d := d_law) rfl
  have e := hfa.symm.trans (He.glo_ok X G (c.fact 46 (f := .glo "law") rfl))
  cases e
  have b := FunD.bindsA (ps := ["_law_script"]) F fun _ _ _ _ _ _ us hl => match us, hl with | [_], _ => by kernel_rfl
  refine ⟨fd, fun s v => b s [v] rfl, fun base _ _ tB => ?_⟩
  have zK : lenK (Kz K) := Kz_len (by obtain ⟨fd, F⟩ := c.def_ 46 (d := d_law) rfl; exact Fun_ne F)
  have bi : Bi mg := ⟨He.free_ok X G (c.fact 47 (f := .free "len") rfl), He.free_ok X G (c.fact 48 (f := .free "range") rfl), He.free_ok X G (c.fact 49 (f := .free "tuple") rfl), He.free_ok X G (c.fact 50 (f := .free "list") rfl), He.free_ok X G (c.fact 51 (f := .free "sorted") rfl), He.free_ok X G (c.fact 52 (f := .free "set") rfl), He.free_ok X G (c.fact 53 (f := .free "any") rfl), He.free_ok X G (c.fact 54 (f := .free "all") rfl), He.free_ok X G (c.fact 55 (f := .free "min") rfl), He.free_ok X G (c.fact 56 (f := .free "max") rfl), He.free_ok X G (c.fact 57 (f := .free "sum") rfl), He.free_ok X G (c.fact 58 (f := .free "abs") rfl), He.free_ok X G (c.fact 59 (f := .free "int") rfl), He.free_ok X G (c.fact 60 (f := .free "str") rfl), He.free_ok X G (c.fact 61 (f := .free "bool") rfl), He.free_ok X G (c.fact 62 (f := .free "isinstance") rfl), He.free_ok X G (c.fact 63 (f := .free "enumerate") rfl), He.free_ok X G (c.fact 64 (f := .free "zip") rfl)⟩
  have k_MOST_PEOPLE := He.int_ok X G (c.fact 65 (f := .int "MOST_PEOPLE" 7) rfl)
  have c_is_integer := ok_is_integer (P := P) (w := w) (K := Kz K) (mg := mg) (base := base) bi (by obtain ⟨fd, F⟩ := c.def_ 0 (d := d_is_integer) rfl; exact ⟨_, fd, F.z, He.glo_ok X G (c.fact 0 (f := .glo "is_integer") rfl)⟩)
  have c_is_in := ok_is_in (P := P) (w := w) (K := Kz K) (mg := mg) (base := base) bi c_is_integer (by obtain ⟨fd, F⟩ := c.def_ 1 (d := d_is_in) rfl; exact ⟨_, fd, F.z, He.glo_ok X G (c.fact 1 (f := .glo "is_in") rfl)⟩)
  have c_is_list := ok_is_list (P := P) (w := w) (K := Kz K) (mg := mg) (base := base) bi (by obtain ⟨fd, F⟩ := c.def_ 2 (d := d_is_list) rfl; exact ⟨_, fd, F.z, He.glo_ok X G (c.fact 2 (f := .glo "is_list") rfl)⟩)
  have c_need_web := ok_need_web (P := P) (w := w) (K := Kz K) (mg := mg) (base := base) bi k_MOST_PEOPLE c_is_list c_is_in (by obtain ⟨fd, F⟩ := c.def_ 3 (d := d_need_web) rfl; exact ⟨_, fd, F.z, He.glo_ok X G (c.fact 3 (f := .glo "need_web") rfl)⟩)
  have c_is_set := ok_is_set (P := P) (w := w) (K := Kz K) (mg := mg) (base := base) bi c_is_list c_is_in (by obtain ⟨fd, F⟩ := c.def_ 4 (d := d_is_set) rfl; exact ⟨_, fd, F.z, He.glo_ok X G (c.fact 4 (f := .glo "is_set") rfl)⟩)
  have c_need_people := ok_need_people (P := P) (w := w) (K := Kz K) (mg := mg) (base := base) bi c_is_set (by obtain ⟨fd, F⟩ := c.def_ 5 (d := d_need_people) rfl; exact ⟨_, fd, F.z, He.glo_ok X G (c.fact 5 (f := .glo "need_people") rfl)⟩)
  have c_need_state := ok_need_state (P := P) (w := w) (K := Kz K) (mg := mg) (base := base) bi c_need_web c_is_set (by obtain ⟨fd, F⟩ := c.def_ 6 (d := d_need_state) rfl; exact ⟨_, fd, F.z, He.glo_ok X G (c.fact 6 (f := .glo "need_state") rfl)⟩)
  have c_need_two := ok_need_two (P := P) (w := w) (K := Kz K) (mg := mg) (base := base) bi c_need_state c_is_set (by obtain ⟨fd, F⟩ := c.def_ 7 (d := d_need_two) rfl; exact ⟨_, fd, F.z, He.glo_ok X G (c.fact 7 (f := .glo "need_two") rfl)⟩)
  have c_pairs_in := ok_pairs_in (P := P) (w := w) (K := Kz K) (mg := mg) (base := base) bi (by obtain ⟨fd, F⟩ := c.def_ 8 (d := d_pairs_in) rfl; exact ⟨_, fd, F.z, He.glo_ok X G (c.fact 8 (f := .glo "pairs_in") rfl)⟩)
  have c_web_by := ok_web_by (P := P) (w := w) (K := Kz K) (mg := mg) (base := base) bi (by obtain ⟨fd, F⟩ := c.def_ 9 (d := d_web_by) rfl; exact ⟨_, fd, F.z, He.glo_ok X G (c.fact 9 (f := .glo "web_by") rfl)⟩)
  have c_taller_in := ok_taller_in (P := P) (w := w) (K := Kz K) (mg := mg) (base := base) bi (by obtain ⟨fd, F⟩ := c.def_ 10 (d := d_taller_in) rfl; exact ⟨_, fd, F.z, He.glo_ok X G (c.fact 10 (f := .glo "taller_in") rfl)⟩)
  have c_peaks_in := ok_peaks_in (P := P) (w := w) (K := Kz K) (mg := mg) (base := base) bi (by obtain ⟨fd, F⟩ := c.def_ 11 (d := d_peaks_in) rfl; exact ⟨_, fd, F.z, He.glo_ok X G (c.fact 11 (f := .glo "peaks_in") rfl)⟩)
  have c_peaks := ok_peaks (P := P) (w := w) (K := Kz K) (mg := mg) (base := base) bi c_need_state c_peaks_in (by obtain ⟨fd, F⟩ := c.def_ 12 (d := d_peaks) rfl; exact ⟨_, fd, F.z, He.glo_ok X G (c.fact 12 (f := .glo "peaks") rfl)⟩)
  have c_everybody := ok_everybody (P := P) (w := w) (K := Kz K) (mg := mg) (base := base) bi c_need_web (by obtain ⟨fd, F⟩ := c.def_ 13 (d := d_everybody) rfl; exact ⟨_, fd, F.z, He.glo_ok X G (c.fact 13 (f := .glo "everybody") rfl)⟩)
  have c_standing_pairs := ok_standing_pairs (P := P) (w := w) (K := Kz K) (mg := mg) (base := base) bi c_need_state c_pairs_in (by obtain ⟨fd, F⟩ := c.def_ 14 (d := d_standing_pairs) rfl; exact ⟨_, fd, F.z, He.glo_ok X G (c.fact 14 (f := .glo "standing_pairs") rfl)⟩)
  have c_apart_in := ok_apart_in (P := P) (w := w) (K := Kz K) (mg := mg) (base := base) bi (by obtain ⟨fd, F⟩ := c.def_ 15 (d := d_apart_in) rfl; exact ⟨_, fd, F.z, He.glo_ok X G (c.fact 15 (f := .glo "apart_in") rfl)⟩)
  have c_is_end := ok_is_end (P := P) (w := w) (K := Kz K) (mg := mg) (base := base) bi c_need_state c_apart_in (by obtain ⟨fd, F⟩ := c.def_ 16 (d := d_is_end) rfl; exact ⟨_, fd, F.z, He.glo_ok X G (c.fact 16 (f := .glo "is_end") rfl)⟩)
  have c_groups_in := ok_groups_in (P := P) (w := w) (K := Kz K) (mg := mg) (base := base) bi (by obtain ⟨fd, F⟩ := c.def_ 17 (d := d_groups_in) rfl; exact ⟨_, fd, F.z, He.glo_ok X G (c.fact 17 (f := .glo "groups_in") rfl)⟩)
  have c_groups := ok_groups (P := P) (w := w) (K := Kz K) (mg := mg) (base := base) bi c_need_state c_groups_in (by obtain ⟨fd, F⟩ := c.def_ 18 (d := d_groups) rfl; exact ⟨_, fd, F.z, He.glo_ok X G (c.fact 18 (f := .glo "groups") rfl)⟩)
  have c_choices := ok_choices (P := P) (w := w) (K := Kz K) (mg := mg) (base := base) bi (by obtain ⟨fd, F⟩ := c.def_ 19 (d := d_choices) rfl; exact ⟨_, fd, F.z, He.glo_ok X G (c.fact 19 (f := .glo "choices") rfl)⟩)
  have c_call_in := ok_call_in (P := P) (w := w) (K := Kz K) (mg := mg) (base := base) bi (by obtain ⟨fd, F⟩ := c.def_ 20 (d := d_call_in) rfl; exact ⟨_, fd, F.z, He.glo_ok X G (c.fact 20 (f := .glo "call_in") rfl)⟩)
  have c_story_in := ok_story_in (P := P) (w := w) (K := Kz K) (mg := mg) (base := base) bi c_call_in (by obtain ⟨fd, F⟩ := c.def_ 21 (d := d_story_in) rfl; exact ⟨_, fd, F.z, He.glo_ok X G (c.fact 21 (f := .glo "story_in") rfl)⟩)
  have c_may_call := ok_may_call (P := P) (w := w) (K := Kz K) (mg := mg) (base := base) bi (by obtain ⟨fd, F⟩ := c.def_ 22 (d := d_may_call) rfl; exact ⟨_, fd, F.z, He.glo_ok X G (c.fact 22 (f := .glo "may_call") rfl)⟩)
  have c_fits := ok_fits (P := P) (w := w) (K := Kz K) (mg := mg) (base := base) bi c_may_call c_taller_in (by obtain ⟨fd, F⟩ := c.def_ 23 (d := d_fits) rfl; exact ⟨_, fd, F.z, He.glo_ok X G (c.fact 23 (f := .glo "fits") rfl)⟩)
  have c_can_come := ok_can_come (P := P) (w := w) (K := Kz K) (mg := mg) (base := base) bi c_need_two c_fits (by obtain ⟨fd, F⟩ := c.def_ 24 (d := d_can_come) rfl; exact ⟨_, fd, F.z, He.glo_ok X G (c.fact 24 (f := .glo "can_come") rfl)⟩)
  have c_ends_in := ok_ends_in (P := P) (w := w) (K := Kz K) (mg := mg) (base := base) bi c_choices c_apart_in c_fits (by obtain ⟨fd, F⟩ := c.def_ 25 (d := d_ends_in) rfl; exact ⟨_, fd, F.z, He.glo_ok X G (c.fact 25 (f := .glo "ends_in") rfl)⟩)
  have c_ends := ok_ends (P := P) (w := w) (K := Kz K) (mg := mg) (base := base) bi c_need_state c_ends_in (by obtain ⟨fd, F⟩ := c.def_ 26 (d := d_ends) rfl; exact ⟨_, fd, F.z, He.glo_ok X G (c.fact 26 (f := .glo "ends") rfl)⟩)
  have c_greedy_in := ok_greedy_in (P := P) (w := w) (K := Kz K) (mg := mg) (base := base) bi c_story_in (by obtain ⟨fd, F⟩ := c.def_ 27 (d := d_greedy_in) rfl; exact ⟨_, fd, F.z, He.glo_ok X G (c.fact 27 (f := .glo "greedy_in") rfl)⟩)
  have c_greedy_end := ok_greedy_end (P := P) (w := w) (K := Kz K) (mg := mg) (base := base) bi c_need_state c_greedy_in (by obtain ⟨fd, F⟩ := c.def_ 28 (d := d_greedy_end) rfl; exact ⟨_, fd, F.z, He.glo_ok X G (c.fact 28 (f := .glo "greedy_end") rfl)⟩)
  have c_who_can_stand := ok_who_can_stand (P := P) (w := w) (K := Kz K) (mg := mg) (base := base) bi c_need_state c_ends_in (by obtain ⟨fd, F⟩ := c.def_ 29 (d := d_who_can_stand) rfl; exact ⟨_, fd, F.z, He.glo_ok X G (c.fact 29 (f := .glo "who_can_stand") rfl)⟩)
  have c_can_stand_together := ok_can_stand_together (P := P) (w := w) (K := Kz K) (mg := mg) (base := base) bi c_need_state c_need_people c_ends_in (by obtain ⟨fd, F⟩ := c.def_ 30 (d := d_can_stand_together) rfl; exact ⟨_, fd, F.z, He.glo_ok X G (c.fact 30 (f := .glo "can_stand_together") rfl)⟩)
  have c_apart_sets := ok_apart_sets (P := P) (w := w) (K := Kz K) (mg := mg) (base := base) bi c_need_state c_choices c_apart_in (by obtain ⟨fd, F⟩ := c.def_ 31 (d := d_apart_sets) rfl; exact ⟨_, fd, F.z, He.glo_ok X G (c.fact 31 (f := .glo "apart_sets") rfl)⟩)
  have c_full_in := ok_full_in (P := P) (w := w) (K := Kz K) (mg := mg) (base := base) bi c_choices c_apart_in (by obtain ⟨fd, F⟩ := c.def_ 32 (d := d_full_in) rfl; exact ⟨_, fd, F.z, He.glo_ok X G (c.fact 32 (f := .glo "full_in") rfl)⟩)
  have c_full_apart_sets := ok_full_apart_sets (P := P) (w := w) (K := Kz K) (mg := mg) (base := base) bi c_need_state c_full_in (by obtain ⟨fd, F⟩ := c.def_ 33 (d := d_full_apart_sets) rfl; exact ⟨_, fd, F.z, He.glo_ok X G (c.fact 33 (f := .glo "full_apart_sets") rfl)⟩)
  have c_count_apart := ok_count_apart (P := P) (w := w) (K := Kz K) (mg := mg) (base := base) bi c_need_state c_choices c_apart_in (by obtain ⟨fd, F⟩ := c.def_ 34 (d := d_count_apart) rfl; exact ⟨_, fd, F.z, He.glo_ok X G (c.fact 34 (f := .glo "count_apart") rfl)⟩)
  have c_most_apart := ok_most_apart (P := P) (w := w) (K := Kz K) (mg := mg) (base := base) bi c_need_state c_choices c_apart_in (by obtain ⟨fd, F⟩ := c.def_ 35 (d := d_most_apart) rfl; exact ⟨_, fd, F.z, He.glo_ok X G (c.fact 35 (f := .glo "most_apart") rfl)⟩)
  have c_full_ends := ok_full_ends (P := P) (w := w) (K := Kz K) (mg := mg) (base := base) bi c_need_state c_full_in c_ends_in (by obtain ⟨fd, F⟩ := c.def_ 36 (d := d_full_ends) rfl; exact ⟨_, fd, F.z, He.glo_ok X G (c.fact 36 (f := .glo "full_ends") rfl)⟩)
  have c_lost_ends := ok_lost_ends (P := P) (w := w) (K := Kz K) (mg := mg) (base := base) bi c_need_state c_ends_in c_choices c_apart_in (by obtain ⟨fd, F⟩ := c.def_ 37 (d := d_lost_ends) rfl; exact ⟨_, fd, F.z, He.glo_ok X G (c.fact 37 (f := .glo "lost_ends") rfl)⟩)
  have c_is_full := ok_is_full (P := P) (w := w) (K := Kz K) (mg := mg) (base := base) bi c_need_state c_full_in (by obtain ⟨fd, F⟩ := c.def_ 38 (d := d_is_full) rfl; exact ⟨_, fd, F.z, He.glo_ok X G (c.fact 38 (f := .glo "is_full") rfl)⟩)
  have c_part := ok_part (P := P) (w := w) (K := Kz K) (mg := mg) (base := base) bi c_need_web c_need_people c_web_by c_pairs_in (by obtain ⟨fd, F⟩ := c.def_ 39 (d := d_part) rfl; exact ⟨_, fd, F.z, He.glo_ok X G (c.fact 39 (f := .glo "part") rfl)⟩)
  have c_turned := ok_turned (P := P) (w := w) (K := Kz K) (mg := mg) (base := base) bi c_need_web c_web_by (by obtain ⟨fd, F⟩ := c.def_ 40 (d := d_turned) rfl; exact ⟨_, fd, F.z, He.glo_ok X G (c.fact 40 (f := .glo "turned") rfl)⟩)
  have c__law_taken := ok__law_taken (P := P) (w := w) (K := Kz K) (mg := mg) (base := base) bi (by obtain ⟨fd, F⟩ := c.def_ 41 (d := d__law_taken) rfl; exact ⟨_, fd, F.z, He.glo_ok X G (c.fact 41 (f := .glo "_law_taken") rfl)⟩)
  have c__law_pick := ok__law_pick (P := P) (w := w) (K := Kz K) (mg := mg) (base := base) bi c__law_taken (by obtain ⟨fd, F⟩ := c.def_ 42 (d := d__law_pick) rfl; exact ⟨_, fd, F.z, He.glo_ok X G (c.fact 42 (f := .glo "_law_pick") rfl)⟩)
  have c__law_by := ok__law_by (P := P) (w := w) (K := Kz K) (mg := mg) (base := base) bi (by obtain ⟨fd, F⟩ := c.def_ 43 (d := d__law_by) rfl; exact ⟨_, fd, F.z, He.glo_ok X G (c.fact 43 (f := .glo "_law_by") rfl)⟩)
  have c__law_web := ok__law_web (P := P) (w := w) (K := Kz K) (mg := mg) (base := base) bi c__law_by c__law_taken (by obtain ⟨fd, F⟩ := c.def_ 44 (d := d__law_web) rfl; exact ⟨_, fd, F.z, He.glo_ok X G (c.fact 44 (f := .glo "_law_web") rfl)⟩)
  have c__law_up := ok__law_up (P := P) (w := w) (K := Kz K) (mg := mg) (base := base) bi zK c__law_taken (by obtain ⟨fd, F⟩ := c.def_ 45 (d := d__law_up) rfl; exact ⟨_, fd, F.z, He.glo_ok X G (c.fact 45 (f := .glo "_law_up") rfl)⟩)
  exact FnOk.z (fn_pure (K := Kz K) (T := T_law) (k := 6) (N := ["_law_script", "_law_row", "_law_web_here", "_law_begin", "_law_some", "_law_full", "_law_counts", "_law_most", "_law_best", "_law_people", "_law_own", "_law_size", "_law_end", "_law_one"]) F.z sc_law rfl (by decide) (fun cdv A outer s H E hr => sw_law bi c__law_web c__law_up c_most_apart c__law_pick c_part c_apart_sets c_full_apart_sets c_count_apart c_greedy_end c_full_ends c_can_stand_together c_can_come c_is_end c_is_full c_ends c_lost_ends c_groups c_peaks c_everybody c_standing_pairs c_who_can_stand c_turned cdv A outer s H E _ hr))
end W
open PySem PySem.W PySem.Calls PyProof.Rows
theorem PySem.Challenge.cw_tallsits_k63_whole_apart_sets_compared_holds : PySem.Challenge.rw_tallsits_k63_whole_apart_sets_compared.Holds := by
  w_on; o_law
  refine HandSHeadRun.head_any (r := OpenLaw.row PySem.Challenge.rw_tallsits_k63_whole_apart_sets_compared) (q := view (OpenLaw.row PySem.Challenge.rw_tallsits_k63_whole_apart_sets_compared).prog [60]) (H := W.hk) (ob := W.ob) (M := 20000) (loose := W.loose) (d := HandSHeadRun.topDef (OpenLaw.row PySem.Challenge.rw_tallsits_k63_whole_apart_sets_compared).prog 60) (kwd := []) W.ob_eq
    (by kernel_rfl) (fun s => by kernel_rfl) W.run (by kernel_rfl) (by kernel_rfl) (by kernel_rfl) (by rfl) (by first | assumption | decide +kernel) (by decide +kernel) ⟨rfl, rfl, rfl, rfl, rfl, by decide +kernel⟩ ?hw ?hc
  case hw => w_witness2
  case hc =>
    refine LamX.walk_ofTsE (l := PySem.Challenge.rw_tallsits_k63_whole_apart_sets_compared) (n := 63) (k := 7) (x := "_law_script") (CX := fun _ => L2.CX0) rfl (by decide) (by kernel_rfl) ⟨rfl, by decide, by decide⟩ ?F (fun _ _ _ _ _ z => z)
    intro w mg fa h Y G hmg0
    obtain ⟨K, KX, c⟩ := Y
    have hmg : mg ("law" : PySem.Str) = some (.ref fa) := by
      have e : (HandSHeadRun.topDef (OpenLaw.row PySem.Challenge.rw_tallsits_k63_whole_apart_sets_compared).prog 60).name = ("law" : PySem.Str) := by kernel_rfl
      rw [← e]
      exact hmg0
    obtain ⟨fd, hb, hF⟩ := W.facts (P := (PySem.Challenge.rw_tallsits_k63_whole_apart_sets_compared).prog) (w := w) KX G hmg c.t.d c.more
    refine ⟨K, KX, fd, W.tf.map (He.cT K), _, fun p hp => ?_, fun p hp => ?_, fun p hp => ?_, hb, fun H a ns hl _ hT hS => ?_, hF⟩
    · obtain ⟨q, hq, rfl⟩ := List.mem_map.mp hp
      exact c.empty q hq
    · obtain ⟨q, hq, rfl⟩ := List.mem_map.mp hp
      exact c.out q hq
    · obtain ⟨q, hq, rfl⟩ := List.mem_map.mp hp
      exact PySem.W.codeHd_of_K KX (c.hd q hq)
    · exact ⟨rfl, L2.P.noTbH H, [.list (ns.map .int)], L2.P.noTbH_sub, (L2.P.TbOk.start (W.ex_tabs_ok c.more) hT).z, .cons (.lst (L2.P.sqL_z (L2.P.noTbH_lst hS)) (L2.P.dpAll_of_ints ns)) .nil, W.law_value ns hl _ fun F' H' v _ _ _ _ _ d => L2.P.Dp.inv_bl d⟩


