import PyProof.Rows.All
import PySem.Challenge.RW_tallsits_k29_texts_refused
import HandS.ForMost
import HandS.IsInst
import HandS.SortInts
import HandS.Strs
import HandS.SetFor
import HandS.Conv
import HandS.Wide
import HandS.Deep
import HandS.TupLe
import HandS.Lambda
import KE.SortData
import KE.DataMinMax
import KE.DataEq
import KE.DataFind
import KE.KDictKeyed
import HandS.TupAny
import HandS.Defaults
import KE.GoesMore
import HandS.Style
import PyProof.TupleOps
import HandS.Star
import KE.KDictDisplayH
import HandS.TupLen
import HandS.WordsDict
import HandS.TupSets
import HandS.HeadHook2
import KE.KDictWalk
import KE.KDictCopyH
import HandS.TupMul
import KE.KDictItemsList
import HandS.Nested
import HandS.HeadHook4
import HandS.HeadWalk
import HandS.ExcOwn
import HandS.ExcIs
import HandS.HeadHook1
import PyProof.ExcBaseAll.ValueError
import HandS.DictComp
import KE.KEqDict
import KE.KeyNested
import HandS.Text
import HandS.ReplaceLit
import HandS.ReplaceList
import HandS.SortKw
import KE.SortKeyHeap
import KE.KIndexOf
import KE.KSuper
import KE.KExcSuper
import HandS.ExcInit
import HandS.ExcValue
import HandS.ExcField
import PyProof.StrOps2
import HandS.Head0
import HandS.Head1
import HandS.Head2
import HandS.HeadEnd
set_option Elab.async false
set_option linter.all false
set_option maxRecDepth 100000
set_option maxHeartbeats 4000000
namespace L2.P
open PySem PySem.Spec PyProof.Rows L2

abbrev D := PyData
abbrev Fg := PySem.W.Frag

theorem sqL_same {K : Fg} {F F' : Hp} {a : Addr} {xs : List V} (e : Same F F') (h : SqL K F a xs) : SqL K F' a xs := e.seq h
theorem sqT_same {K : Fg} {F F' : Hp} {a : Addr} {xs : List V} (e : Same F F') (h : SqT K F a xs) : SqT K F' a xs := by
  rcases h with (h | ⟨o, h⟩) | h
  · exact .inl (.inl (e _ _ h))
  · exact .inl (.inr ⟨o, e _ _ h⟩)
  · exact .inr h
/-- a mark that no value stands for -/
def mkD : D := .dict [(.none, .none)]
/-- a tuple of two ints that the module binds: read, but no key of a dict that is filled -/
def rqD (i j : Int) : D := .dict [(.int i, mkD), (.int j, mkD)]
structure LamD where
  params : Arguments
  body : Expr
  scope : Scope
def lamSt : Stmt → Option LamD
  | .Return (some (.Call _ es _ _)) _ => match es.getLast? with
    | some (.Lambda p b sc _) => some ⟨p, b, sc⟩
    | _ => none
  | _ => none
/-- a lambda handed on within a statement -/
def lamArg : Expr → Option LamD
  | .Call _ es _ _ => match es.getLast? with
    | some (.Lambda p b sc _) => some ⟨p, b, sc⟩
    | some (.Call _ fs _ _) => match fs.getLast? with
      | some (.Lambda p b sc _) => some ⟨p, b, sc⟩
      | _ => none
    | _ => none
  | _ => none
def lamIn : Stmt → Option LamD
  | .Assign _ e _ => lamArg e
  | .If (.UnaryOp _ e _) _ _ _ => lamArg e
  | _ => none
/-- law0, law1, law2: the law's own lambdas -/
def lamB (q : Str) : Str := if q = "law0" then "law" else if q = "law1" then "law" else if q = "law2" then "law" else q
def lamI (q : Str) : Option Nat := if q = "law0" then some 0 else if q = "law1" then some 1 else if q = "law2" then some 2 else none
/-- the lambda of the def q -/
def lamOf (K : Fg) (q : Str) : Option LamD := match PySem.W.nsIn K mainGlobals (lamB q) with
  | some (some (.ref g)) => match K.lookup g with
    | some ⟨_, _, .func fd, _⟩ => match fd.body with
      | .stmts b => match lamI q with
        | none => b.getLast?.bind lamSt
        | some j => (b.filterMap lamIn)[j]?
      | _ => none
    | _ => none
  | _ => none
def LamD.fr (L : LamD) : List Str := L.scope.names.filterMap fun y => match y.2 with
  | .free => some y.1
  | _ => none
/-- exactly this object -/
def exO (a : Addr) (o : Obj) : HO := .ext fun h => h.get? a = some o
def lamQ (q : Str) : Str := lamB q ++ ".<locals>." ++ "<lambda>"
/-- at a stands q's lambda, its captured names hold vs -/
structure LamAt (K : Fg) (F : Hp) (a : Addr) (q : Str) (vs : List V) (L : LamD) (cl : List (Str × Addr)) (c' : Addr) (pm ctv : Value) : Prop where
  of : lamOf K q = some L
  obj : F a = some (exO a (PySem.W.kla_obj "<lambda>" (lamQ q) L.params L.body L.scope cl pm c' ctv))
  code : F c' = some (LamX.CodeO c' (lamQ q))
  cell : ∀ y c, cl.lookup y = some c → ∃ o v, F c = some (exO c o) ∧ o.data = .cell v
  inj : ∀ x y c, cl.lookup x = some c → cl.lookup y = some c → x = y
  len : vs.length = L.fr.length
  has : ∀ (i : Nat) (y : Str), L.fr[i]? = some y → ∃ c o u v, cl.lookup y = some c ∧ F c = some (exO c o) ∧ o.data = .cell (some u) ∧ vs[i]? = some v ∧ RelV v u
def LamHere (K : Fg) (F : Hp) (a : Addr) (q : Str) (vs : List V) : Prop := ∃ L cl c' pm ctv, LamAt K F a q vs L cl c' pm ctv
theorem LamAt.same {K : Fg} {F F' : Hp} {a : Addr} {q : Str} {vs : List V} {L : LamD} {cl : List (Str × Addr)} {c' : Addr} {pm ctv : Value} (h : LamAt K F a q vs L cl c' pm ctv) (e : Same F F') : LamAt K F' a q vs L cl c' pm ctv where
  of := h.of
  obj := e _ _ h.obj
  code := e _ _ h.code
  cell := fun y c hc => by
    obtain ⟨o, v, e1, e2⟩ := h.cell y c hc
    exact ⟨o, v, e _ _ e1, e2⟩
  inj := h.inj
  len := h.len
  has := fun i y hy => by
    obtain ⟨c, o, u, v, e1, e2, e3, e4, e5⟩ := h.has i y hy
    exact ⟨c, o, u, v, e1, e _ _ e2, e3, e4, e5⟩
theorem LamHere.same {K : Fg} {F F' : Hp} {a : Addr} {q : Str} {vs : List V} (h : LamHere K F a q vs) (e : Same F F') : LamHere K F' a q vs := by
  obtain ⟨L, cl, c', pm, ctv, z⟩ := h
  exact ⟨L, cl, c', pm, ctv, z.same e⟩
mutual
/-- the data is that key -/
inductive NkD : NestedKey → D → Prop
  | none : NkD .none .none
  | num (i : Int) : NkD (.num i) (.int i)
  | bool (b : Bool) : NkD (.num (if b = true then 1 else 0)) (.bool b)
  | tup {ks : List NestedKey} {ds : List D} : NkDs ks ds → NkD (.tup ks) (.tuple ds)
inductive NkDs : List NestedKey → List D → Prop
  | nil : NkDs [] []
  | cons {k : NestedKey} {d : D} {ks : List NestedKey} {ds : List D} : NkD k d → NkDs ks ds → NkDs (k :: ks) (d :: ds)
end
abbrev NEnt := NestedKey × Addr × V
def NRel (p : NEnt) (q : NestedKey × Addr × Value) : Prop := p.1 = q.1 ∧ p.2.1 = q.2.1 ∧ RelV p.2.2 q.2.2
def DictNF (h : Heap) (a : Addr) (L : List NEnt) : Prop := ∃ (P : Program) (w : World) (xs : List (NestedKey × Addr × Value)) (o : Obj) (es : Array DictEntry) (ep : Nat), Paired NRel L xs ∧ h.get? a = some o ∧ o.ExactDict ∧ o.data = .dict es ep ∧ es.toList = xs.map (entryOfKey (nestedKind P w)) ∧ (xs.map (·.1)).Nodup
/-- the object at a is a dict with those entries -/
def DictNO (a : Addr) (L : List NEnt) : HO := .ext fun h => DictNF h a L
/-- a function: whose lambda, what it captured -/
def fnD (q : Str) (ps : List D) : D := .dict [(.none, .tuple (.str q :: ps))]
/-- a tuple of ints whose object is known to have no dict of its own -/
def kD (ns : List Int) : D := .dict [(.none, .int 0), (.none, .tuple (ns.map .int))]
/-- an address, nothing told of what stands there -/
def adrD (a : Addr) : D := .dict [(.none, .int 2), (.none, .tuple [.int (Int.ofNat a)])]
/-- an exception object at a whose dict stands at dd -/
def excD (a dd : Addr) (ns : List Str) (ps : List D) : D := .dict [(.none, .int 2), (.none, .tuple (.int (Int.ofNat a) :: .int (Int.ofNat dd) :: .tuple (ns.map .str) :: ps))]
/-- the lenient mode: K's first entry stands twice -/
def lenK (K : Fg) : Prop := ∃ p l, K = p :: p :: l
def Kz : Fg → Fg
  | [] => []
  | p :: l => p :: p :: l
theorem Kz_look (K : Fg) (a : Addr) : (Kz K).lookup a = K.lookup a := by
  cases K with
  | nil => rfl
  | cons p l =>
    obtain ⟨b, o⟩ := p
    show List.lookup a ((b, o) :: (b, o) :: l) = List.lookup a ((b, o) :: l)
    by_cases h : (a == b) = true
    · simp [List.lookup, h]
    · simp [List.lookup, h]
theorem Kz_len {K : Fg} (h : K ≠ []) : lenK (Kz K) := by
  cases K with
  | nil => exact absurd rfl h
  | cons p l => exact ⟨p, l, rfl⟩
mutual
/-- v stands for the data p, and will -/
inductive Dp (K : Fg) (F : Hp) : V → D → Prop
  | non : Dp K F .non .none
  | bl (b : Bool) : Dp K F (.bl b) (.bool b)
  | int (i : Int) : Dp K F (.int i) (.int i)
  | str (x : Str) : Dp K F (.str x) (.str x)
  | lst {a : Addr} {xs : List V} {ps : List D} : SqL K F a xs → DpAll K F xs ps → Dp K F (.ref a) (.list ps)
  | tup {a : Addr} {xs : List V} {ps : List D} : F a = some (.tup xs) → DpAll K F xs ps → Dp K F (.ref a) (.tuple ps)
  | tupZ {a : Addr} {o : Obj} {xs : List V} {ps : List D} : lenK K → F a = some (.frz o (.tup xs)) → DpAll K F xs ps → Dp K F (.ref a) (.tuple ps)
  | kt {a : Addr} {o : Obj} {ns : List Int} : F a = some (.frz o (.tup (ns.map V.int))) → o.dict = none → Dp K F (.ref a) (kD ns)
  | adr (a : Addr) : Dp K F (.ref a) (adrD a)
  | exc {a dd : Addr} {ns : List Str} {vs : List V} {ps : List D} : F dd = some (.xd (ns.zip vs)) → DpAll K F vs ps → Dp K F (.ref a) (excD a dd ns ps)
  | tupK {a : Addr} {o : Obj} {its : Array Value} {n : Nat} {xs : List V} {ps : List D} : K.lookup a = some o → o.cls = .type "tuple" → o.data = .seq its n → its.size ≤ sizeLine → Vals xs its.toList → (∃ z, PyData.str z ∈ ps) → DpAll K F xs ps → Dp K F (.ref a) (.tuple ps)
  | dk {a : Addr} {o : Obj} {es : List (Key × V)} {kvs : List (D × D)} : F a = some (.frz o (.dK es)) → DkAll K F es kvs → Dp K F (.ref a) (.dict kvs)
  | dt {a : Addr} {o : Obj} {e : List Key × V} {es : List (List Key × V)} {kvs : List (D × D)} : F a = some (.frz o (.dT (e :: es))) → DtAll K F (e :: es) kvs → Dp K F (.ref a) (.dict kvs)
  | q {a : Addr} {o : Obj} {its : Array Value} {n : Nat} {i j : Int} : K.lookup a = some o → o.cls = .type "tuple" → o.data = .seq its n → its.size ≤ sizeLine → Vals [.int i, .int j] its.toList → Dp K F (.ref a) (rqD i j)
  | fn {a : Addr} {q : Str} {vs : List V} {ps : List D} : LamHere K F a q vs → DpAll K F vs ps → Dp K F (.ref a) (fnD q ps)
  | nd {a : Addr} {o : Obj} {L : List NEnt} {zs : List D} : (a == sysModules) = false → F a = some (.frz o (DictNO a L)) → DnAll K F L zs → Dp K F (.ref a) (.dict [(.none, .list zs)])
/-- a dict's items, its keys nested tuples -/
inductive DnAll (K : Fg) (F : Hp) : List NEnt → List D → Prop
  | nil : DnAll K F [] []
  | cons {k : NestedKey} {b : Addr} {v : V} {d p : D} {L : List NEnt} {zs : List D} : NkD k d → k.depth ≤ 8 → d.plain = true → Dp K F (.ref b) d → Dp K F v p → DnAll K F L zs → DnAll K F ((k, b, v) :: L) (.tuple [d, p] :: zs)
inductive DpAll (K : Fg) (F : Hp) : List V → List D → Prop
  | nil : DpAll K F [] []
  | cons {v : V} {vs : List V} {p : D} {ps : List D} : Dp K F v p → DpAll K F vs ps → DpAll K F (v :: vs) (p :: ps)
/-- a dict's items, its keys ints -/
inductive DkAll (K : Fg) (F : Hp) : List (Key × V) → List (D × D) → Prop
  | nil : DkAll K F [] []
  | cons {k : Int} {v : V} {p : D} {es : List (Key × V)} {kvs : List (D × D)} : Dp K F v p → DkAll K F es kvs → DkAll K F ((.inl k, v) :: es) ((.int k, p) :: kvs)
/-- .. its keys tuples of ints -/
inductive DtAll (K : Fg) (F : Hp) : List (List Key × V) → List (D × D) → Prop
  | nil : ¬ lenK K → DtAll K F [] []
  | cons {ks : List Int} {v : V} {p : D} {es : List (List Key × V)} {kvs : List (D × D)} : Dp K F v p → DtAll K F es kvs → DtAll K F ((ks.map Sum.inl, v) :: es) ((.tuple (ks.map .int), p) :: kvs)
end
mutual
theorem Dp.same {K : Fg} {F F' : Hp} (e : Same F F') : ∀ {v : V} {p : D}, Dp K F v p → Dp K F' v p
  | _, _, .non => .non
  | _, _, .bl b => .bl b
  | _, _, .int i => .int i
  | _, _, .str i => .str i
  | _, _, .tup s r => .tup (e _ _ s) (DpAll.same e r)
  | _, _, .tupK a b c d f g r => .tupK a b c d f g (DpAll.same e r)
  | _, _, .tupZ l s r => .tupZ l (e _ _ s) (DpAll.same e r)
  | _, _, .kt s d => .kt (e _ _ s) d
  | _, _, .adr a => .adr a
  | _, _, .exc h r => .exc (e _ _ h) (DpAll.same e r)
  | _, _, .lst s r => .lst (sqL_same e s) (DpAll.same e r)
  | _, _, .dk s r => .dk (e _ _ s) (DkAll.same e r)
  | _, _, .dt s r => .dt (e _ _ s) (DtAll.same e r)
  | _, _, .q a b c d f => .q a b c d f
  | _, _, .fn h r => .fn (h.same e) (DpAll.same e r)
  | _, _, .nd m s r => .nd m (e _ _ s) (DnAll.same e r)
theorem DnAll.same {K : Fg} {F F' : Hp} (e : Same F F') : ∀ {L : List NEnt} {zs : List D}, DnAll K F L zs → DnAll K F' L zs
  | _, _, .nil => .nil
  | _, _, .cons a b c d f g => .cons a b c (Dp.same e d) (Dp.same e f) (DnAll.same e g)
theorem DpAll.same {K : Fg} {F F' : Hp} (e : Same F F') : ∀ {vs : List V} {ps : List D}, DpAll K F vs ps → DpAll K F' vs ps
  | _, _, .nil => .nil
  | _, _, .cons a b => .cons (Dp.same e a) (DpAll.same e b)
theorem DkAll.same {K : Fg} {F F' : Hp} (e : Same F F') : ∀ {vs : List (Key × V)} {ps : List (D × D)}, DkAll K F vs ps → DkAll K F' vs ps
  | _, _, .nil => .nil
  | _, _, .cons a b => .cons (Dp.same e a) (DkAll.same e b)
theorem DtAll.same {K : Fg} {F F' : Hp} (e : Same F F') : ∀ {vs : List (List Key × V)} {ps : List (D × D)}, DtAll K F vs ps → DtAll K F' vs ps
  | _, _, .nil l => .nil l
  | _, _, .cons a b => .cons (Dp.same e a) (DtAll.same e b)
end
mutual
/-- plain data, as the library says it -/
theorem Dp.lib {K : Fg} {F : Hp} : ∀ {v : V} {p : D}, Dp K F v p → p.plain = true → L2.Dp K F v p
  | _, _, .non, _ => .non
  | _, _, .bl b, _ => .bl b
  | _, _, .int i, _ => .int i
  | _, _, .str i, _ => .str i
  | _, _, .tup s r, h => .tup (.inl (.inl s)) (DpAll.lib r (by simpa [PyData.plain] using h))
  | _, _, .tupK a b c d f _ r, h => .tup (.inr ⟨_, _, _, a, b, c, d, f⟩) (DpAll.lib r (by simpa [PyData.plain] using h))
  | _, _, .tupZ _ s r, h => .tup (.inl (.inr ⟨_, s⟩)) (DpAll.lib r (by simpa [PyData.plain] using h))
  | _, _, .kt _ _, h => by simp [kD, PyData.plain] at h
  | _, _, .adr _, h => by simp [adrD, PyData.plain] at h
  | _, _, .exc _ _, h => by simp [excD, PyData.plain] at h
  | _, _, .lst s r, h => .lst s (DpAll.lib r (by simpa [PyData.plain] using h))
  | _, _, .dk s r, h => by simp [PyData.plain] at h
  | _, _, .dt s r, h => by simp [PyData.plain] at h
  | _, _, .q a b c d f, h => by simp [rqD, PyData.plain] at h
  | _, _, .fn _ _, h => by simp [fnD, PyData.plain] at h
  | _, _, .nd _ _ _, h => by simp [PyData.plain] at h
theorem DpAll.lib {K : Fg} {F : Hp} : ∀ {vs : List V} {ps : List D}, DpAll K F vs ps → PyData.plainAll ps = true → L2.DpAll K F vs ps
  | _, _, .nil, _ => .nil
  | _, _, .cons a b, h => by
    rw [PyData.plainAll, Bool.and_eq_true] at h
    exact .cons (Dp.lib a h.1) (DpAll.lib b h.2)
end
theorem Dp.reads {X : Cx} {pins : List (Addr × Obj)} {σ : St} {H : Hp} {s : Shared} (I : L2.Inv X pins σ H s) (d : D) (v : V) (u : Value) (h : Dp X.K H v d) (hp : d.plain = true) (r : RelV v u) : ∃ as, Reads s.heap u d as := L2.Dp.reads I d v u (h.lib hp) r
theorem Dp.readsAll {X : Cx} {pins : List (Addr × Obj)} {σ : St} {H : Hp} {s : Shared} (I : L2.Inv X pins σ H s) (ds : List D) (vs : List V) (us : List Value) (h : DpAll X.K H vs ds) (hp : PyData.plainAll ds = true) (r : Vals vs us) : ∃ as, ReadsAll s.heap us ds as := L2.Dp.readsAll I ds vs us (h.lib hp) r
theorem DpAll.length {K : Fg} {F : Hp} : ∀ {vs : List V} {ps : List D}, DpAll K F vs ps → vs.length = ps.length
  | _, _, .nil => rfl
  | _, _, .cons _ b => congrArg (· + 1) (DpAll.length b)
theorem DpAll.append {K : Fg} {F : Hp} : ∀ {vs us : List V} {ps qs : List D}, DpAll K F vs ps → DpAll K F us qs → DpAll K F (vs ++ us) (ps ++ qs)
  | _, _, _, _, .nil, h => h
  | _, _, _, _, .cons a b, h => .cons a (DpAll.append b h)
theorem DpAll.get {K : Fg} {F : Hp} : ∀ {vs : List V} {ps : List D} {i : Nat} {p : D}, DpAll K F vs ps → ps[i]? = some p → ∃ v, vs[i]? = some v ∧ Dp K F v p
  | _, _, _, _, .nil, h => by simp at h
  | _, _, 0, _, .cons a _, h => by simp at h; subst h; exact ⟨_, rfl, a⟩
  | _, _, i + 1, _, .cons _ b, h => by simpa using DpAll.get (i := i) b (by simpa using h)
theorem DpAll.getV {K : Fg} {F : Hp} : ∀ {vs : List V} {ps : List D} {i : Nat} {v : V}, DpAll K F vs ps → vs[i]? = some v → ∃ p, ps[i]? = some p ∧ Dp K F v p
  | _, _, _, _, .nil, h => by simp at h
  | _, _, 0, _, .cons a _, h => by simp at h; subst h; exact ⟨_, rfl, a⟩
  | _, _, i + 1, _, .cons _ b, h => by simpa using DpAll.getV (i := i) b (by simpa using h)
theorem DpAll.set {K : Fg} {F : Hp} {v : V} {p : D} (r : Dp K F v p) : ∀ {vs : List V} {ps : List D} (i : Nat), DpAll K F vs ps → DpAll K F (vs.set i v) (ps.set i p)
  | _, _, _, .nil => .nil
  | _, _, 0, .cons _ b => .cons r b
  | _, _, i + 1, .cons a b => .cons a (DpAll.set r i b)
theorem DpAll.drop {K : Fg} {F : Hp} : ∀ {vs : List V} {ps : List D} (n : Nat), DpAll K F vs ps → DpAll K F (vs.drop n) (ps.drop n)
  | _, _, 0, r => r
  | _, _, _ + 1, .nil => .nil
  | _, _, n + 1, .cons _ t => DpAll.drop n t
theorem DpAll.take {K : Fg} {F : Hp} : ∀ {vs : List V} {ps : List D} (n : Nat), DpAll K F vs ps → DpAll K F (vs.take n) (ps.take n)
  | _, _, 0, _ => .nil
  | _, _, _ + 1, .nil => .nil
  | _, _, n + 1, .cons a t => .cons a (DpAll.take n t)
theorem DpAll.uncons {K : Fg} {F : Hp} {vs : List V} {p : D} {ps : List D} (h : DpAll K F vs (p :: ps)) : ∃ v us, vs = v :: us ∧ Dp K F v p ∧ DpAll K F us ps := by
  cases h with
  | cons a b => exact ⟨_, _, rfl, a, b⟩
theorem DpAll.unnil {K : Fg} {F : Hp} {vs : List V} (h : DpAll K F vs []) : vs = [] := by cases h; rfl
section
variable {K : Fg} {F : Hp} {v : V}
theorem Dp.inv_non (h : Dp K F v .none) : v = .non := by cases h; rfl
theorem Dp.inv_bl {b : Bool} (h : Dp K F v (.bool b)) : v = .bl b := by cases h; rfl
theorem Dp.inv_int {i : Int} (h : Dp K F v (.int i)) : v = .int i := by cases h; rfl
theorem Dp.inv_str {x : Str} (h : Dp K F v (.str x)) : v = .str x := by cases h; rfl
theorem Dp.inv_tup {ps : List D} (h : Dp K F v (.tuple ps)) : ∃ a xs, v = .ref a ∧ SqT K F a xs ∧ DpAll K F xs ps := by
  cases h with
  | tup s r => exact ⟨_, _, rfl, .inl (.inl s), r⟩
  | tupK a b c d f _ r => exact ⟨_, _, rfl, .inr ⟨_, _, _, a, b, c, d, f⟩, r⟩
  | tupZ _ s r => exact ⟨_, _, rfl, .inl (.inr ⟨_, s⟩), r⟩
theorem DtAll.strict : ∀ {es : List (List Key × V)} {kvs : List (D × D)}, DtAll K F es kvs → ¬ lenK K
  | _, _, .nil l => l
  | _, _, .cons _ t => DtAll.strict t
theorem Dp.inv_dictQ {kvs : List (D × D)} (h : Dp K F v (.dict kvs)) (nz : ∀ zs, kvs ≠ [(.none, .list zs)] := by intro _ z; cases z) (nk : ∀ ns : List Int, kvs ≠ [(.none, .int 0), (.none, .tuple (ns.map .int))] := by intro _ z; cases z) (na : ∀ ds : List D, kvs ≠ [(.none, .int 2), (.none, .tuple ds)] := by intro _ z; cases z) : ∃ a, v = .ref a ∧ ((∃ o es, F a = some (.frz o (.dK es)) ∧ DkAll K F es kvs) ∨ (∃ o e es, F a = some (.frz o (.dT (e :: es))) ∧ DtAll K F (e :: es) kvs) ∨ (∃ i j, kvs = [(.int i, mkD), (.int j, mkD)] ∧ ∀ F, SqT K F a [.int i, .int j]) ∨ ∃ q vs ps, kvs = [(.none, .tuple (.str q :: ps))] ∧ LamHere K F a q vs ∧ DpAll K F vs ps) := by
  generalize hp : PyData.dict kvs = p at h
  cases h with
  | dk s r => cases hp; exact ⟨_, rfl, .inl ⟨_, _, s, r⟩⟩
  | dt s r => cases hp; exact ⟨_, rfl, .inr (.inl ⟨_, _, _, s, r⟩)⟩
  | q a b c d f => cases hp; exact ⟨_, rfl, .inr (.inr (.inl ⟨_, _, rfl, fun _ => .inr ⟨_, _, _, a, b, c, d, f⟩⟩))⟩
  | fn h r => cases hp; exact ⟨_, rfl, .inr (.inr (.inr ⟨_, _, _, rfl, h, r⟩))⟩
  | nd _ s r => cases hp; exact absurd rfl (nz _)
  | kt _ _ => unfold kD at hp; cases hp; exact absurd rfl (nk _)
  | adr _ => unfold adrD at hp; cases hp; exact absurd rfl (na _)
  | exc _ _ => unfold excD at hp; cases hp; exact absurd rfl (na _)
  | _ => cases hp
theorem Dp.inv_lst {ps : List D} (h : Dp K F v (.list ps)) : ∃ a xs, v = .ref a ∧ SqL K F a xs ∧ DpAll K F xs ps := by
  cases h with
  | lst s r => exact ⟨_, _, rfl, s, r⟩
end
theorem dpAll_ints {K : Fg} {F : Hp} : ∀ {vs : List V} (ns : List Int), DpAll K F vs (ns.map PyData.int) → vs = ns.map V.int
  | _, [], h => DpAll.unnil h
  | _, n :: ns, h => by
    obtain ⟨v, us, rfl, r, t⟩ := DpAll.uncons h
    rw [Dp.inv_int r, dpAll_ints ns t]
    rfl
theorem dpAll_of_ints {K : Fg} {F : Hp} : ∀ (ns : List Int), DpAll K F (ns.map V.int) (ns.map PyData.int)
  | [] => .nil
  | n :: ns => .cons (.int n) (dpAll_of_ints ns)
theorem dpAll_bls {K : Fg} {F : Hp} : ∀ {vs : List V} (ns : List Bool), DpAll K F vs (ns.map PyData.bool) → vs = ns.map V.bl
  | _, [], h => DpAll.unnil h
  | _, n :: ns, h => by
    obtain ⟨v, us, rfl, r, t⟩ := DpAll.uncons h
    rw [Dp.inv_bl r, dpAll_bls ns t]
    rfl

mutual
def nm : D → D
  | .list xs => .list (nmAll xs)
  | .tuple xs => .tuple (nmAll xs)
  | .dict [(.int i, .dict [(.none, .none)]), (.int j, _)] => .tuple [.int i, .int j]
  | p => p
def nmAll : List D → List D
  | [] => []
  | p :: ps => nm p :: nmAll ps
end
/-- what a memo dict holds: its keys tuples of ints (t), nested tuples of ints and bools (n) -/
inductive MG where
  | t (G : D → D → Prop) | n (G : D → D → Prop) | x (zs : List D) | o (a : Addr) (u : HO)
instance : Coe (D → D → Prop) MG := ⟨MG.t⟩
/-- entries that stand for data -/
def NEnts (K : Fg) (F : Hp) : List NEnt → List (D × D) → Prop := Paired fun p e => NkD p.1 e.1 ∧ p.1.depth ≤ 8 ∧ e.1.plain = true ∧ Dp K F (.ref p.2.1) e.1 ∧ Dp K F p.2.2 e.2
theorem NEnts.same {K : Fg} {F F' : Hp} {L : List NEnt} {kvs : List (D × D)} (h : NEnts K F L kvs) (e : Same F F') : NEnts K F' L kvs := Paired.mapP h fun _ _ z => ⟨z.1, z.2.1, z.2.2.1, z.2.2.2.1.same e, z.2.2.2.2.same e⟩
/-- exactly these entries -/
def ExactOk (K : Fg) (zs : List D) (F H : Hp) (r : Addr) : Prop := ∃ L : List NEnt, (r == sysModules) = false ∧ H r = some (DictNO r L) ∧ DnAll K F L zs ∧ (L.map (·.1)).Nodup ∧ L.length ≤ sizeLine
def NestOk (K : Fg) (G : D → D → Prop) (F H : Hp) (r : Addr) : Prop := ∃ (L : List NEnt) (kvs : List (D × D)), (r == sysModules) = false ∧ H r = some (DictNO r L) ∧ NEnts K F L kvs ∧ (L.map (·.1)).Nodup ∧ L.length ≤ sizeLine ∧ ∀ e ∈ kvs, G e.1 e.2
theorem dict_ne_code (a : Addr) (L : List NEnt) (c : Addr) (q : Str) : DictNO a L ≠ LamX.CodeO c q := fun z => by
  unfold DictNO LamX.CodeO at z
  injection z with z
  obtain ⟨oc, hoc⟩ : ∃ oc : Obj, oc = { cls := .none, data := .fields #[.none, .str q default] } := ⟨_, rfl⟩
  obtain ⟨h, hh⟩ : ∃ h : Heap, h = { objs := (Array.replicate c ({ cls := .none } : Obj)).push oc } := ⟨_, rfl⟩
  have e1 : h.get? c = some oc := by
    unfold Heap.get?
    have e : h.objs[c]? = some oc := by
      rw [hh, Array.getElem?_push]
      simp
    rw [e, hoc]
  have hp := (congrFun z h).mpr ⟨oc, #[.none, .str q default], default, e1, by rw [hoc], rfl⟩
  obtain ⟨P, w, xs, o, es, ep, _, g, _, dd, _⟩ := hp
  by_cases ac : a = c
  · rw [ac, e1] at g
    cases g
    rw [hoc] at dd
    cases dd
  · unfold Heap.get? at g
    have e : h.objs[a]? = none ∨ h.objs[a]? = some ({ cls := .none } : Obj) := by
      rw [hh, Array.getElem?_push]
      simp only [Array.size_replicate]
      rw [if_neg ac, Array.getElem?_replicate]
      split
      · exact .inr rfl
      · exact .inl rfl
    rcases e with e | e
    · rw [e] at g; cases g
    · rw [e] at g
      cases g
      cases dd
/-- what is known of a slot: nothing; a value that never changes; a list that this frame alone holds; the row of draws -/
inductive Sl where
  | no | v (p : D) | ol (xs : List D) | rw (m : Option MG) | od (t : Bool) (kvs : List (D × D))
abbrev Sl.row : Sl := .rw none
inductive Sl.IsRw : Sl → Prop
  | mk (m : Option MG) : Sl.IsRw (.rw m)
abbrev Rho := List Sl

/-- the row of draws: the script (frozen), the place, a number, a rest -/
def RowOk (K : Fg) (m : Option MG) (F H : Hp) (r : Addr) : Prop := match m with
  | none => ∃ (sa : Addr) (ns : List Int) (b c d : Int), H r = some (.lst [.ref sa, .int b, .int c, .int d]) ∧ SqL K F sa (ns.map V.int) ∧ ns.length ≤ 63 ∧ 0 ≤ b ∧ 0 ≤ c ∧ 0 ≤ d
  | some (.n G) => NestOk K G F H r
  | some (.x zs) => ExactOk K zs F H r
  | some (.o a u) => r = a ∧ H r = some u ∧ (∀ xs, u ≠ HO.tup xs) ∧ ¬ ((∃ ps, u = HO.tbl ps) ∨ ∃ c q, u = LamX.CodeO c q)
  | some (.t G) => ∃ (es : List (List Key × V)) (kvs : List (List Int × D)), H r = some (.dT es) ∧ DtAll K F es (kvs.map fun e => (.tuple (e.1.map .int), e.2)) ∧ (kvs.map fun e => e.1).Nodup ∧ ∀ e ∈ kvs, G (.tuple (e.1.map .int)) e.2

/-- no dict of this frame alone -/
def noX : Option MG → Prop
  | some (.x _) => False
  | _ => True
/-- a frame's base: the frozen heap and the heap at its entry, the row that it was handed -/
structure Bs where
  Fa : Hp
  Ha : Hp
  r : Option Addr
  m : Option MG

def tbNames : List Str := ["law", "calls_to_end", "calls_to_sit", "calls_to_sit_all", "calls_to_alone", "calls_to_end_with", "calls_to_size", "seen_person", "seen_numbers", "seen_tallest", "calm_row"]
/-- the code object of the def x, its table -/
def cdOf (K : Fg) (x : Str) : Option (Addr × Addr) := match PySem.W.nsIn K mainGlobals x with
  | some (some (.ref g)) => match K.lookup g with
    | some ⟨_, _, .func fd, _⟩ => match fd.code with
      | .ref c => match K.lookup c with
        | some ⟨_, _, .fields vs, _⟩ => match (show Option Value from vs[11]?) with
          | some (.ref P) => some (c, P)
          | _ => none
        | _ => none
      | _ => none
    | _ => none
  | _ => none
/-- .. if the table isn't part of K -/
def tbOf (K : Fg) (x : Str) : Option (Addr × Str) := match cdOf K x with
  | some (_, P) => if (K.lookup P).isNone = true then some (P, x ++ ".<locals>.<lambda>") else none
  | none => none
def tbT (K : Fg) : List (Addr × Str) := tbNames.filterMap (tbOf K)
def isTE (o : HO) : Prop := (∃ ps, o = .tbl ps) ∨ ∃ c q, o = LamX.CodeO c q
/-- no table is frozen -/
def NoTb (F : Hp) : Prop := ∀ b ps, F b ≠ some (.tbl ps)
def TbOk (K : Fg) (F H : Hp) : Prop := (∀ p ∈ tbT K, F p.1 = none) ∧ LamX.Tabs (tbT K) H ∧ NoTb F
theorem NoTb.up {F : Hp} {a : Addr} {o : HO} (h : NoTb F) (no : ∀ ps, o ≠ .tbl ps) : NoTb (upd F a o) := fun b ps e => by
  by_cases q : b = a
  · subst q; rw [upd_same] at e; exact no ps (Option.some.inj e)
  · rw [upd_ne q] at e; exact h b ps e
theorem nte_tbl {o : HO} (h : ¬ isTE o) : ∀ ps, o ≠ .tbl ps := fun ps z => h (.inl ⟨ps, z⟩)
/-- b stays as it is -/
def Ex (K : Fg) (r : Option Addr) (b : Addr) : Prop := some b ≠ r ∧ ∀ p ∈ tbT K, p.1 ≠ b
theorem not_te {o : HO} (h : (match o with | .tbl _ => false | .ext _ => false | _ => true) = true) : ¬ isTE o := by
  rintro (⟨ps, rfl⟩ | ⟨c, q, rfl⟩)
  · cases h
  · unfold LamX.CodeO at h
    cases h
theorem dict_te (a : Addr) (L : List NEnt) : ¬ isTE (DictNO a L) := by
  rintro (⟨ps, z⟩ | ⟨c, q, z⟩)
  · unfold DictNO at z; cases z
  · exact dict_ne_code a L c q z
theorem dict_nt (a : Addr) (L : List NEnt) : ∀ xs, DictNO a L ≠ HO.tup xs := fun xs z => by unfold DictNO at z; cases z
theorem tabs_ext {T : List (Addr × Str)} {H H' : Hp} (t : LamX.Tabs T H) (e : ∀ b o, H b = some o → isTE o → H' b = some o) : LamX.Tabs T H' := fun p hp => by
  obtain ⟨ps, h1, h2, h3⟩ := t p hp
  refine ⟨ps, e _ _ h1 (.inl ⟨_, rfl⟩), h2, fun pos cv hc => ?_⟩
  obtain ⟨c, e1, e2⟩ := h3 pos cv hc
  exact ⟨c, e1, e _ _ e2 (.inr ⟨_, _, rfl⟩)⟩
section
variable {K : Fg} {F F' H H' : Hp} {a : Addr} {o o0 o1 : HO}
theorem TbOk.ne (h : TbOk K F H) (e : H a = some o) (nt : ¬ isTE o) : ∀ p ∈ tbT K, p.1 ≠ a := fun p hp z => by
  obtain ⟨ps, h1, _⟩ := h.2.1 p hp
  rw [z, e] at h1
  exact nt (.inl ⟨ps, Option.some.inj h1⟩)
theorem TbOk.ne0 (h : TbOk K F H) (e : H a = none) : ∀ p ∈ tbT K, p.1 ≠ a := fun p hp z => by
  obtain ⟨ps, h1, _⟩ := h.2.1 p hp
  rw [z, e] at h1
  cases h1
theorem TbOk.up (h : TbOk K F H) (n : H a = none) (no : ∀ ps, o ≠ .tbl ps) : TbOk K (upd F a o) (upd H a o) :=
  ⟨fun p hp => by rw [upd_ne (h.ne0 n p hp)]; exact h.1 p hp, tabs_ext h.2.1 fun b u e _ => by rw [upd_ne (ne_of_none e n)]; exact e, h.2.2.up no⟩
theorem TbOk.lay (h : TbOk K F H) (n : H a = none) : TbOk K F (upd H a o) :=
  ⟨h.1, tabs_ext h.2.1 (fun b u e _ => by rw [upd_ne (ne_of_none e n)]; exact e), h.2.2⟩
theorem TbOk.chg (h : TbOk K F H) (e : H a = some o0) (nt : ¬ isTE o0) : TbOk K F (upd H a o) :=
  ⟨h.1, tabs_ext h.2.1 (fun b u e2 t => by
    have ne : b ≠ a := fun z => by
      rw [z, e] at e2
      exact nt (by rw [Option.some.inj e2]; exact t)
    rw [upd_ne ne]; exact e2), h.2.2⟩
theorem TbOk.frz (h : TbOk K F H) (e : H a = some o) (nt : ¬ isTE o) : TbOk K (upd F a o) H :=
  ⟨fun p hp => by rw [upd_ne (h.ne e nt p hp)]; exact h.1 p hp, h.2.1, h.2.2.up (nte_tbl nt)⟩
end
def SameX (K : Fg) (r : Option Addr) (H H' : Hp) : Prop := ∀ b o, Ex K r b → H b = some o → H' b = some o
theorem SameX.refl {K : Fg} {r : Option Addr} (H : Hp) : SameX K r H H := fun _ _ _ h => h
theorem SameX.trans {K : Fg} {r : Option Addr} {H H1 H2 : Hp} (a : SameX K r H H1) (b : SameX K r H1 H2) : SameX K r H H2 := fun c o n h => b c o n (a c o n h)
theorem SameX.any {K : Fg} {r : Option Addr} {H H' : Hp} (a : SameX K none H H') : SameX K r H H' := fun b o n h => a b o ⟨by simp, n.2⟩ h

/-- a dict stands at a; t: its keys are tuples of ints (else ints) -/
def DAt (K : Fg) (F H : Hp) (t : Bool) (a : Addr) (kvs : List (D × D)) : Prop := match t with
  | false => ∃ es, H a = some (.dK es) ∧ DkAll K F es kvs
  | true => ∃ es, H a = some (.dT es) ∧ DtAll K F es kvs
theorem DAt.mono {K : Fg} {F F' H H' : Hp} {t : Bool} {a : Addr} {kvs : List (D × D)} (h : DAt K F H t a kvs) (eF : Same F F') (eH : ∀ o, H a = some o → H' a = some o) : DAt K F' H' t a kvs := by
  cases t with
  | false => obtain ⟨es, e, d⟩ := h; exact ⟨es, eH _ e, d.same eF⟩
  | true => obtain ⟨es, e, d⟩ := h; exact ⟨es, eH _ e, d.same eF⟩
theorem DAt.there {K : Fg} {F H : Hp} {t : Bool} {a : Addr} {kvs : List (D × D)} (h : DAt K F H t a kvs) : ∃ o, H a = some o ∧ ∀ xs, o ≠ .tup xs := by
  cases t with
  | false => obtain ⟨es, e, d⟩ := h; exact ⟨_, e, fun xs z => by cases z⟩
  | true => obtain ⟨es, e, d⟩ := h; exact ⟨_, e, fun xs z => by cases z⟩
/-- nothing, or a tuple -/
def Fz (o : Option HO) : Prop := o = none ∨ ∃ xs, o = some (.tup xs)
inductive SlOk (K : Fg) (B : Bs) (F H : Hp) : Option (Option V) → Sl → Prop
  | no {x : Option (Option V)} : SlOk K B F H x .no
  | v {x : V} {p : D} : Dp K F x p → SlOk K B F H (some (some x)) (.v p)
  | ol {a : Addr} {xs : List V} {ps : List D} : F a = none → B.Ha a = none → H a = some (.lst xs) → DpAll K F xs ps → SlOk K B F H (some (some (.ref a))) (.ol ps)
  | row {a : Addr} {m : Option MG} : F a = none → (B.Ha a = none ∨ (B.r = some a ∧ B.m = m ∧ noX m)) → RowOk K m F H a → SlOk K B F H (some (some (.ref a))) (.rw m)
  | od {t : Bool} {a : Addr} {kvs : List (D × D)} : F a = none → B.Ha a = none → DAt K F H t a kvs → SlOk K B F H (some (some (.ref a))) (.od t kvs)

def Sl.owns : Sl → Bool
  | .ol _ => true
  | .rw _ => true
  | .od _ _ => true
  | _ => false

structure Rs (K : Fg) (B : Bs) (F H : Hp) (σ : St) (ρ : Rho) : Prop where
  sub : Same F H
  ext : Same B.Fa F
  new : ∀ b, B.Fa b = none → F b ≠ none → Fz (B.Ha b)
  old : SameX K B.r B.Ha H
  hrow : ∀ r, B.r = some r → F r = none ∧ RowOk K B.m F H r
  hr2 : ∀ r, B.r = some r → B.Ha r ≠ none
  len : σ.length = ρ.length
  at_ : ∀ (i : Nat) (s : Sl), ρ[i]? = some s → SlOk K B F H σ[i]? s
  apart : ∀ (i j : Nat) (a : Addr) (s t : Sl), i ≠ j → ρ[i]? = some s → ρ[j]? = some t → s.owns = true → t.owns = true → σ[i]? = some (some (.ref a)) → σ[j]? = some (some (.ref a)) → False
  tb : TbOk K F H
  tbh : ∀ p ∈ tbT K, ∃ ps, B.Ha p.1 = some (.tbl ps)

theorem same_upd {H : Hp} {p : Addr} {o : HO} (h : H p = none) : Same H (upd H p o) := fun b x e => by
  rw [upd_ne (ne_of_none e h)]
  exact e
theorem same_upd2 {F H : Hp} {p : Addr} {o : HO} (h : Same F H) (n : F p = none) : Same F (upd H p o) := fun b x e => by
  rw [upd_ne (ne_of_none e n)]
  exact h _ _ e
theorem same_upd3 {F H : Hp} {p : Addr} {o : HO} (h : Same F H) : Same (upd F p o) (upd H p o) := fun b x e => by
  by_cases q : b = p
  · subst q; rw [upd_same] at e ⊢; exact e
  · rw [upd_ne q] at e ⊢; exact h _ _ e

section
variable {K : Fg} {B : Bs} {F F' H H' : Hp} {σ : St} {ρ : Rho}
theorem RowOk.thereX {m : Option MG} {r : Addr} (R : RowOk K m F H r) : ∃ o, H r = some o ∧ (∀ xs, o ≠ HO.tup xs) ∧ ¬ isTE o := by
  cases m with
  | none =>
    obtain ⟨_, _, _, _, _, h, _⟩ := R
    exact ⟨_, h, (fun _ z => by cases z), not_te rfl⟩
  | some G =>
    cases G with
    | t G =>
      obtain ⟨_, _, h, _⟩ := R
      exact ⟨_, h, (fun _ z => by cases z), not_te rfl⟩
    | n G =>
      obtain ⟨_, _, _, h, _⟩ := R
      exact ⟨_, h, dict_nt _ _, dict_te _ _⟩
    | x zs =>
      obtain ⟨_, _, h, _⟩ := R
      exact ⟨_, h, dict_nt _ _, dict_te _ _⟩
    | o a u =>
      obtain ⟨_, h, n1, n2⟩ := R
      exact ⟨_, h, n1, n2⟩
theorem RowOk.there {m : Option MG} {r : Addr} (R : RowOk K m F H r) : ∃ o, H r = some o := by
  obtain ⟨o, h, _⟩ := R.thereX
  exact ⟨_, h⟩
theorem RowOk.thereN {m : Option MG} {r : Addr} (R : RowOk K m F H r) : ∃ o, H r = some o ∧ ∀ xs, o ≠ HO.tup xs := by
  obtain ⟨o, h, n, _⟩ := R.thereX
  exact ⟨_, h, n⟩
theorem RowOk.mono {m : Option MG} {r : Addr} (R : RowOk K m F H r) (eF : Same F F') (eH : ∀ o, H r = some o → H' r = some o) : RowOk K m F' H' r := by
  cases m with
  | none =>
    obtain ⟨sa, ns, b, c, d, h, s, q⟩ := R
    exact ⟨sa, ns, b, c, d, eH _ h, sqL_same eF s, q⟩
  | some G =>
    cases G with
    | t G =>
      obtain ⟨es, kvs, h, d, g⟩ := R
      exact ⟨es, kvs, eH _ h, d.same eF, g⟩
    | n G =>
      obtain ⟨L, kvs, sm, h, d, g⟩ := R
      exact ⟨L, kvs, sm, eH _ h, d.same eF, g⟩
    | x zs =>
      obtain ⟨L, sm, h, d, g⟩ := R
      exact ⟨L, sm, eH _ h, d.same eF, g⟩
    | o a u =>
      obtain ⟨e, h, g⟩ := R
      exact ⟨e, eH _ h, g⟩
theorem SlOk.mono {x : Option (Option V)} {s : Sl} (h : SlOk K B F H x s) (eF : Same F F') (fr : ∀ a, F a = none → (∃ o, H a = some o ∧ ∀ xs, o ≠ HO.tup xs) → F' a = none) (eH : ∀ a o, F a = none → H a = some o → H' a = some o) : SlOk K B F' H' x s := by
  cases h with
  | no => exact .no
  | v r => exact .v (r.same eF)
  | ol f h0 h1 r => exact .ol (fr _ f ⟨_, h1, fun _ z => by cases z⟩) h0 (eH _ _ f h1) (r.same eF)
  | row f h0 h1 => exact .row (fr _ f h1.thereN) h0 (h1.mono eF fun o => eH _ o f)
  | od f h0 h1 => exact .od (fr _ f h1.there) h0 (h1.mono eF fun o => eH _ o f)
theorem DAt.nob {t : Bool} {a : Addr} {kvs : List (D × D)} (h : DAt K F' H t a kvs) (tb : TbOk K F H) : ∀ p ∈ tbT K, p.1 ≠ a := by
  cases t with
  | false => obtain ⟨es, e, d⟩ := h; exact tb.ne e (not_te rfl)
  | true => obtain ⟨es, e, d⟩ := h; exact tb.ne e (not_te rfl)
theorem RowOk.nob {m : Option MG} {r : Addr} (h : RowOk K m F' H r) (tb : TbOk K F H) : ∀ p ∈ tbT K, p.1 ≠ r := by
  obtain ⟨_, h9, _, nt⟩ := h.thereX
  exact tb.ne h9 nt
theorem SlOk.monoT {x : Option (Option V)} {s : Sl} (h : SlOk K B F H x s) (eF : Same F F') (fr : ∀ a, F a = none → (∃ o, H a = some o ∧ ∀ xs, o ≠ HO.tup xs) → F' a = none) (eH : ∀ a o, F a = none → ¬ isTE o → H a = some o → H' a = some o) : SlOk K B F' H' x s := by
  cases h with
  | no => exact .no
  | v r => exact .v (r.same eF)
  | ol f h0 h1 r => exact .ol (fr _ f ⟨_, h1, fun _ z => by cases z⟩) h0 (eH _ _ f (not_te rfl) h1) (r.same eF)
  | row f h0 h1 =>
    obtain ⟨u, h, _, nt⟩ := h1.thereX
    exact .row (fr _ f h1.thereN) h0 (h1.mono eF fun o e => by
      rw [h] at e
      cases e
      exact eH _ _ f nt h)
  | @od t a kvs f h0 h1 =>
    refine .od (fr _ f h1.there) h0 ?_
    cases t with
    | false => obtain ⟨es, e, d⟩ := h1; exact ⟨es, eH _ _ f (not_te rfl) e, d.same eF⟩
    | true => obtain ⟨es, e, d⟩ := h1; exact ⟨es, eH _ _ f (not_te rfl) e, d.same eF⟩
theorem Rs.fresh (R : Rs K B F H σ ρ) {p : Addr} (h : H p = none) : B.Ha p = none ∧ F p = none ∧ B.r ≠ some p := by
  have hr : B.r ≠ some p := fun e => by
    obtain ⟨_, o, q⟩ := And.intro (R.hrow p e).1 (R.hrow p e).2.there
    rw [q] at h; cases h
  refine ⟨?_, R.sub.free h, hr⟩
  cases q : B.Ha p with
  | none => rfl
  | some u =>
    rw [R.old _ _ ⟨fun e => hr e.symm, R.tb.ne0 h⟩ q] at h; cases h
theorem Rs.fz (R : Rs K B F H σ ρ) {b : Addr} (h : Fz (H b)) : Fz (B.Ha b) := by
  cases q : B.Ha b with
  | none => exact .inl rfl
  | some o =>
    have ne : some b ≠ B.r := fun e => by
      obtain ⟨u, hu, nt⟩ := (R.hrow b e.symm).2.thereN
      rcases h with h | ⟨xs, h⟩
      · rw [hu] at h; cases h
      · rw [hu] at h; exact nt xs (Option.some.inj h)
    have nb : ∀ p ∈ tbT K, p.1 ≠ b := by
      rcases h with h | ⟨xs, h⟩
      · exact R.tb.ne0 h
      · exact R.tb.ne h (not_te rfl)
    have e := R.old b o ⟨ne, nb⟩ q
    rcases h with h | ⟨xs, h⟩
    · rw [e] at h; cases h
    · rw [e] at h; exact .inr ⟨xs, h⟩
/-- the heap grows by a frozen object -/
theorem Rs.grow {p : Addr} {o : HO} (R : Rs K B F H σ ρ) (h : H p = none) (no : ∀ ps, o ≠ .tbl ps := by intro _ z; cases z) : Rs K B (upd F p o) (upd H p o) σ ρ where
  sub := same_upd3 R.sub
  ext := fun b x e => by rw [upd_ne (ne_of_none (R.sub _ _ (R.ext _ _ e)) h)]; exact R.ext _ _ e
  new := fun b hb hF => by
    by_cases e : b = p
    · subst e; exact .inl (R.fresh h).1
    · rw [upd_ne e] at hF; exact R.new b hb hF
  old := fun b x hb e => by
    have := R.old b x hb e
    rw [upd_ne (ne_of_none this h)]; exact this
  hrow := fun r hr => by
    obtain ⟨h1, h2⟩ := R.hrow r hr
    obtain ⟨u, hu⟩ := h2.there
    have ne : r ≠ p := ne_of_none hu h
    exact ⟨by rw [upd_ne ne]; exact h1, h2.mono (same_upd (R.sub.free h)) fun o e => by rw [upd_ne ne]; exact e⟩
  hr2 := R.hr2
  tb := R.tb.up h no
  tbh := R.tbh
  len := R.len
  at_ := fun i s hs => (R.at_ i s hs).mono (same_upd (R.sub.free h)) (fun a f ⟨o, q, _⟩ => by rw [upd_ne (ne_of_none q h)]; exact f) (fun a o f q => by rw [upd_ne (ne_of_none q h)]; exact q)
  apart := R.apart
/-- the heap grows by an object that isn't frozen (yet) -/
theorem Rs.lay {p : Addr} {o : HO} (R : Rs K B F H σ ρ) (h : H p = none) : Rs K B F (upd H p o) σ ρ where
  sub := same_upd2 R.sub (R.sub.free h)
  ext := R.ext
  new := R.new
  old := fun b x hb e => by
    have := R.old b x hb e
    rw [upd_ne (ne_of_none this h)]; exact this
  hrow := fun r hr => by
    obtain ⟨h1, h2⟩ := R.hrow r hr
    obtain ⟨u, hu⟩ := h2.there
    have ne : r ≠ p := ne_of_none hu h
    exact ⟨h1, h2.mono (Same.refl _) fun o e => by rw [upd_ne ne]; exact e⟩
  hr2 := R.hr2
  tb := R.tb.lay h
  tbh := R.tbh
  len := R.len
  at_ := fun i s hs => (R.at_ i s hs).mono (Same.refl _) (fun a f _ => f) (fun a o f q => by rw [upd_ne (ne_of_none q h)]; exact q)
  apart := R.apart
/-- a slot takes a frozen value (or is forgotten) -/
theorem Rs.put {i : Nat} {x : V} {s : Sl} (R : Rs K B F H σ ρ) (hs : SlOk K B F H (some (some x)) s) (ho : s.owns = false) : Rs K B F H (σ.set i (some x)) (ρ.set i s) where
  sub := R.sub
  ext := R.ext
  new := R.new
  old := R.old
  hrow := R.hrow
  hr2 := R.hr2
  tb := R.tb
  tbh := R.tbh
  len := by rw [List.length_set, List.length_set]; exact R.len
  at_ := fun j t ht => by
    by_cases e : i = j
    · subst e
      by_cases hl : i < ρ.length
      · rw [List.getElem?_set_self hl] at ht
        cases ht
        rw [List.getElem?_set_self (by rw [R.len]; exact hl)]
        exact hs
      · rw [List.getElem?_eq_none (by simpa using hl)] at ht; cases ht
    · rw [List.getElem?_set_ne e] at ht ⊢
      exact R.at_ j t ht
  apart := fun j k a s' t hjk h1 h2 o1 o2 e1 e2 => by
    have n1 : i ≠ j := fun e => by
      subst e
      by_cases hl : i < ρ.length
      · rw [List.getElem?_set_self hl] at h1
        cases h1; rw [ho] at o1; cases o1
      · rw [List.getElem?_eq_none (by simpa using hl)] at h1; cases h1
    have n2 : i ≠ k := fun e => by
      subst e
      by_cases hl : i < ρ.length
      · rw [List.getElem?_set_self hl] at h2
        cases h2; rw [ho] at o2; cases o2
      · rw [List.getElem?_eq_none (by simpa using hl)] at h2; cases h2
    rw [List.getElem?_set_ne n1] at h1 e1
    rw [List.getElem?_set_ne n2] at h2 e2
    exact R.apart j k a s' t hjk h1 h2 o1 o2 e1 e2
end

abbrev PK := D → Prop
abbrev TW := Rho → PK → Prop
/-- a value that is read at once: frozen, or the list that a slot owns -/
def Pk (K : Fg) (F : Hp) (σ : St) (ρ : Rho) (v : V) (p : D) : Prop := Dp K F v p ∨ ∃ (i : Nat) (ps : List D), ρ[i]? = some (Sl.ol ps) ∧ σ[i]? = some (some v) ∧ p = .list ps
theorem Pk.dp {K : Fg} {B : Bs} {F F' H' : Hp} {σ : St} {ρ : Rho} {v : V} {p : D} (h : Pk K F σ ρ v p) (e : Same F F') (R : Rs K B F' H' σ ρ) : Dp K H' v p := by
  rcases h with h | ⟨i, ps, h1, h2, rfl⟩
  · exact (h.same e).same R.sub
  · have q := R.at_ i _ h1
    rw [h2] at q
    cases q with
    | ol f h0 h3 r => exact .lst (.inl (.inl h3)) (r.same R.sub)

def LenOk (K : Fg) (H : Hp) : Prop := ∀ a xs, (SqL K H a xs ∨ SqT K H a xs) → xs.length ≤ sizeLine

def tW (K : Fg) (T : TW) : TE := fun σ H Q => ∃ B F ρ, Rs K B F H σ ρ ∧ T ρ (fun p => ∀ F' H' v, Rs K B F' H' σ ρ → Same F F' → Dp K F' v p → Q v H')
def tX (K : Fg) (T : TW) : TE := fun σ H Q => ∃ B F ρ, Rs K B F H σ ρ ∧ T ρ (fun p => ∀ F' H' v, Rs K B F' H' σ ρ → Same F F' → Pk K F' σ ρ v p → Q v H')
/-- a new list -/
def tN (K : Fg) (T : Rho → (List D → Prop) → Prop) : TE := fun σ H Q => ∃ B F ρ, Rs K B F H σ ρ ∧ T ρ (fun ps => ∀ F' H' a xs, Rs K B F' H' σ ρ → Same F F' → H' a = none → DpAll K F' xs ps → Q (.ref a) (upd H' a (.lst xs)))

structure EW (X : Cx) (e : Expr) (T : TW) : Prop where
  mono : ∀ ρ K K', (∀ p, K p → K' p) → T ρ K → T ρ K'
  pe : PE X e (tW X.K T)
structure XW (X : Cx) (e : Expr) (T : TW) : Prop where
  mono : ∀ ρ K K', (∀ p, K p → K' p) → T ρ K → T ρ K'
  pe : PE X e (tX X.K T)
structure NW (X : Cx) (e : Expr) (T : Rho → (List D → Prop) → Prop) : Prop where
  mono : ∀ ρ K K', (∀ p, K p → K' p) → T ρ K → T ρ K'
  pe : PE X e (tN X.K T)
/-- by a function -/
abbrev fW {α : Type} (f : Rho → Option α) : Rho → (α → Prop) → Prop := fun ρ K => ∃ p, f ρ = some p ∧ K p
theorem fW_mono {α : Type} {f : Rho → Option α} : ∀ ρ K K', (∀ p, K p → K' p) → fW f ρ K → fW f ρ K' := fun _ _ _ h ⟨p, e, q⟩ => ⟨p, e, h p q⟩
abbrev EF (X : Cx) (e : Expr) (f : Rho → Option D) : Prop := EW X e (fW f)
abbrev XF (X : Cx) (e : Expr) (f : Rho → Option D) : Prop := XW X e (fW f)
abbrev NF (X : Cx) (e : Expr) (f : Rho → Option (List D)) : Prop := NW X e (fW f)

theorem _root_.L2.PE.imp {X : Cx} {e : Expr} {t t' : TE} (h : PE X e t) (k : ∀ σ H Q, t' σ H Q → t σ H Q) : PE X e t' := ⟨fun pins s σ H Q I hw => h.run pins s σ H Q I (k _ _ _ hw)⟩
theorem _root_.L2.PT.imp {X : Cx} {e : Expr} {t t' : TT} (h : PT X e t) (k : ∀ σ H Q, t' σ H Q → t σ H Q) : PT X e t' := ⟨fun pins s σ H Q I hw => h.run pins s σ H Q I (k _ _ _ hw)⟩
theorem _root_.L2.PS.imp {X : Cx} {e : Stmt} {t t' : TS} (h : PS X e t) (k : ∀ D σ H, t' D σ H → t D σ H) : PS X e t' := ⟨fun pins s σ H Q I hw => h.run pins s σ H Q I (k _ _ _ hw)⟩
theorem _root_.L2.PSs.imp {X : Cx} {e : List Stmt} {t t' : TS} (h : PSs X e t) (k : ∀ D σ H, t' D σ H → t D σ H) : PSs X e t' := ⟨fun pins s σ H Q I hw => h.run pins s σ H Q I (k _ _ _ hw)⟩
/-- what comes knows that no list is too long -/
theorem _root_.L2.PE.lens {X : Cx} {e : Expr} {t : TE} (h : PE X e t) : PE X e (fun σ H Q => t σ H fun v H' => LenOk X.K H' → Q v H') := ⟨fun pins s σ H Q I hw =>
  thn (h.run pins s σ H _ I hw) fun u s' ⟨v, H', I', r, q⟩ => ⟨v, H', I', r, q fun a xs hx => by
    rcases hx with hx | hx
    · obtain ⟨_, _, _, z⟩ := I'.list hx
      exact z
    · obtain ⟨_, _, _, z⟩ := I'.tuple hx
      exact z⟩⟩
theorem EW.imp {X : Cx} {e : Expr} {T T' : TW} (h : EW X e T) (m : ∀ ρ K K', (∀ p, K p → K' p) → T' ρ K → T' ρ K') (k : ∀ ρ K, T' ρ K → T ρ K) : EW X e T' := ⟨m, h.pe.imp fun _ _ _ ⟨B, F, ρ, R, q⟩ => ⟨B, F, ρ, R, k _ _ q⟩⟩
theorem XW.imp {X : Cx} {e : Expr} {T T' : TW} (h : XW X e T) (m : ∀ ρ K K', (∀ p, K p → K' p) → T' ρ K → T' ρ K') (k : ∀ ρ K, T' ρ K → T ρ K) : XW X e T' := ⟨m, h.pe.imp fun _ _ _ ⟨B, F, ρ, R, q⟩ => ⟨B, F, ρ, R, k _ _ q⟩⟩
theorem NW.imp {X : Cx} {e : Expr} {T T' : Rho → (List D → Prop) → Prop} (h : NW X e T) (m : ∀ ρ K K', (∀ p, K p → K' p) → T' ρ K → T' ρ K') (k : ∀ ρ K, T' ρ K → T ρ K) : NW X e T' := ⟨m, h.pe.imp fun _ _ _ ⟨B, F, ρ, R, q⟩ => ⟨B, F, ρ, R, k _ _ q⟩⟩
theorem EW.x {X : Cx} {e : Expr} {T : TW} (h : EW X e T) : XW X e T := ⟨h.mono, h.pe.imp fun _ _ _ ⟨B, F, ρ, R, q⟩ => ⟨B, F, ρ, R, h.mono _ _ _ (fun p k F' H' v R' e r => k F' H' v R' e (.inl r)) q⟩⟩
/-- a new list is frozen -/
theorem NW.e {X : Cx} {e : Expr} {T : Rho → (List D → Prop) → Prop} (h : NW X e T) : EW X e (fun ρ K => T ρ fun ps => K (.list ps)) :=
  ⟨fun ρ K K' i q => h.mono _ _ _ (fun ps => i _) q, h.pe.imp fun _ _ _ ⟨B, F, ρ, R, q⟩ => ⟨B, F, ρ, R, h.mono _ _ _ (fun ps k F' H' a xs R' e n r => by
    have n' : F' a = none := R'.sub.free n
    exact k (upd F' a (.lst xs)) _ _ (R'.grow n) (e.trans (same_upd n')) (.lst (.inl (.inl upd_same)) (r.same (same_upd n')))) q⟩⟩
theorem NF.e {X : Cx} {e : Expr} {f : Rho → Option (List D)} (h : NF X e f) : EF X e (fun ρ => (f ρ).map PyData.list) := (NW.e h).imp fW_mono fun ρ K ⟨p, e, q⟩ => by
  obtain ⟨ps, e', rfl⟩ := Option.map_eq_some_iff.mp e
  exact ⟨ps, e', q⟩

def gV (i : Nat) : Rho → Option D := fun ρ => match ρ[i]? with
  | some (.v p) => some p
  | _ => none
def gX (i : Nat) : Rho → Option D := fun ρ => match ρ[i]? with
  | some (.v p) => some p
  | some (.ol ps) => some (.list ps)
  | _ => none
section
variable {X : Cx}
theorem ef_var {i : Nat} {x : Str} {pos : Pos} (hN : X.N[i]? = some x) (hv : Vis X.env.scope x) (hd : (x == ("__debug__" : Str)) = false := by decide) (hcd : (x == ("__classdict__" : Str)) = false := by decide) : EF X (.Name x pos) (gV i) :=
  ⟨fW_mono, (pe_var hN hv hd hcd).imp fun σ H Q ⟨B, F, ρ, R, p, e, q⟩ => by
    unfold gV at e
    split at e
    · rename_i s hs
      cases e
      have z := R.at_ i _ hs
      generalize hσ : σ[i]? = o at z
      cases z with
      | v r => exact ⟨_, hσ, q F H _ R (Same.refl _) r⟩
    · cases e⟩
theorem xf_var {i : Nat} {x : Str} {pos : Pos} (hN : X.N[i]? = some x) (hv : Vis X.env.scope x) (hd : (x == ("__debug__" : Str)) = false := by decide) (hcd : (x == ("__classdict__" : Str)) = false := by decide) : XF X (.Name x pos) (gX i) :=
  ⟨fW_mono, (pe_var hN hv hd hcd).imp fun σ H Q ⟨B, F, ρ, R, p, e, q⟩ => by
    unfold gX at e
    split at e
    · rename_i s hs
      cases e
      have z := R.at_ i _ hs
      generalize hσ : σ[i]? = o at z
      cases z with
      | v r => exact ⟨_, hσ, q F H _ R (Same.refl _) (.inl r)⟩
    · rename_i s hs
      cases e
      have z := R.at_ i _ hs
      generalize hσ : σ[i]? = o at z
      cases z with
      | ol f h0 h1 r => exact ⟨_, hσ, q F H _ R (Same.refl _) (.inr ⟨i, _, hs, hσ, rfl⟩)⟩
    · cases e⟩
def gC (p : D) : Rho → Option D := fun _ => some p
theorem ef_con {e : Expr} {v : V} {p : D} (h : PE X e (tC v)) (r : ∀ K F, Dp K F v p) : EF X e (gC p) :=
  ⟨fW_mono, h.imp fun σ H Q ⟨B, F, ρ, R, p', e, q⟩ => by
    cases e
    exact q F H v R (Same.refl _) (r _ _)⟩
theorem ef_int {i j pos} : EF X (.Constant (.int i) j pos) (gC (.int i)) := ef_con pe_int fun _ _ => .int i
theorem ef_bl {b j pos} : EF X (.Constant (.bool b) j pos) (gC (.bool b)) := ef_con pe_bl fun _ _ => .bl b
theorem ef_non {j pos} : EF X (.Constant .none j pos) (gC .none) := ef_con pe_non fun _ _ => .non
theorem ef_str {x j pos} : EF X (.Constant (.str x) j pos) (gC (.str x)) := ef_con pe_str fun _ _ => .str x
end
end L2.P

namespace L2.P
open PySem PySem.Spec PyProof.Rows L2

theorem Pk.mono {K : Fg} {F F' : Hp} {σ : St} {ρ : Rho} {v : V} {p : D} (h : Pk K F σ ρ v p) (e : Same F F') : Pk K F' σ ρ v p := by
  rcases h with h | h
  · exact .inl (h.same e)
  · exact .inr h

/-- the room that every frame has -/
def Rm (X : Cx) : Prop := X.A.units + 130 < cLine
theorem rm_of {X : Cx} {k : Nat} (r : Room k X.A) : Rm X := by have := r.un; unfold Rm; omega

abbrev G2 := D → D → Option D
/-- an operation on values does what g says of data -/
def OpG (X : Cx) (f : Value → Value → Sem Value) (g : G2) : Prop :=
  ∃ r : R2, OpR X f r ∧ ∀ (B : Bs) (F H : Hp) (σ : St) (ρ : Rho) (x y : V) (p q z : D) (Q : VK), Rs X.K B F H σ ρ → Pk X.K F σ ρ x p → Pk X.K F σ ρ y q → g p q = some z →
    (∀ F' H' v, Rs X.K B F' H' σ ρ → Same F F' → Dp X.K F' v z → Q v H') → r x y H Q
theorem OpG.of {X : Cx} {f : Value → Value → Sem Value} {g : G2} (h : ∃ r : R2, OpR X f r ∧ ∀ (B : Bs) (F H : Hp) (σ : St) (ρ : Rho) (x y : V) (p q z : D) (Q : VK), Rs X.K B F H σ ρ → Dp X.K H x p → Dp X.K H y q → g p q = some z →
    (∀ F' H' v, Rs X.K B F' H' σ ρ → Same F F' → Dp X.K F' v z → Q v H') → r x y H Q) : OpG X f g := by
  obtain ⟨r, h1, h2⟩ := h
  exact ⟨r, h1, fun B F H σ ρ x y p q z Q R hx hy e k => h2 B F H σ ρ x y p q z Q R (hx.dp (Same.refl _) R) (hy.dp (Same.refl _) R) e k⟩
def b2 (g : G2) (f1 f2 : Rho → Option D) : Rho → Option D := fun ρ => (f1 ρ).bind fun x => (f2 ρ).bind fun y => g x y
def w2 (g : G2) (T1 T2 : TW) : TW := fun ρ K => T1 ρ fun x => T2 ρ fun y => ∃ z, g x y = some z ∧ K z
theorem w2_mono {g : G2} {T1 T2 : TW} (m1 : ∀ ρ K K', (∀ p, K p → K' p) → T1 ρ K → T1 ρ K') (m2 : ∀ ρ K K', (∀ p, K p → K' p) → T2 ρ K → T2 ρ K') :
    ∀ ρ K K', (∀ p, K p → K' p) → w2 g T1 T2 ρ K → w2 g T1 T2 ρ K' := fun ρ K K' h q => m1 _ _ _ (fun x => m2 _ _ _ fun y ⟨z, e, k⟩ => ⟨z, e, h z k⟩) q
theorem b2_w {g : G2} {f1 f2 : Rho → Option D} (ρ : Rho) (K : PK) (h : fW (b2 g f1 f2) ρ K) : w2 g (fW f1) (fW f2) ρ K := by
  obtain ⟨z, e, k⟩ := h
  unfold b2 at e
  obtain ⟨x, e1, e⟩ := Option.bind_eq_some_iff.mp e
  obtain ⟨y, e2, e⟩ := Option.bind_eq_some_iff.mp e
  exact ⟨x, e1, y, e2, z, e, k⟩
section
variable {X : Cx} {a b c : Expr} {pos : Pos}
/-- the reading that both operands' readings make -/
theorem two_ok {f : Value → Value → Sem Value} {g : G2} {T1 T2 : TW} {r : R2}
    (hr : ∀ (B : Bs) (F H : Hp) (σ : St) (ρ : Rho) (x y : V) (p q z : D) (Q : VK), Rs X.K B F H σ ρ → Pk X.K F σ ρ x p → Pk X.K F σ ρ y q → g p q = some z → (∀ F' H' v, Rs X.K B F' H' σ ρ → Same F F' → Dp X.K F' v z → Q v H') → r x y H Q)
    (m1 : ∀ ρ K K', (∀ p, K p → K' p) → T1 ρ K → T1 ρ K') (m2 : ∀ ρ K K', (∀ p, K p → K' p) → T2 ρ K → T2 ρ K') {σ : St} {H : Hp} {Q : VK} (h : tW X.K (w2 g T1 T2) σ H Q) :
    tOp r (tX X.K T1) (tX X.K T2) σ H Q := by
  obtain ⟨B, F, ρ, R, q⟩ := h
  refine ⟨B, F, ρ, R, m1 _ _ _ (fun x qx F1 H1 v1 R1 e1 d1 => ?_) q⟩
  refine ⟨B, F1, ρ, R1, m2 _ _ _ (fun y ⟨z, ez, qz⟩ F2 H2 v2 R2 e2 d2 => ?_) qx⟩
  exact hr B F2 H2 σ ρ v1 v2 x y z Q R2 (d1.mono e2) d2 ez fun F3 H3 v R3 e3 d3 => qz F3 H3 v R3 ((e1.trans e2).trans e3) d3
theorem ew_bin {op : Operator} {g : G2} {T1 T2 : TW} (o : OpG X (binaryOp op) g) (ha : XW X a T1) (hb : XW X b T2) : EW X (.BinOp a op b pos) (w2 g T1 T2) := by
  obtain ⟨r, ho, hr⟩ := o
  exact ⟨w2_mono ha.mono hb.mono, (pe_op ho ha.pe hb.pe).imp fun σ H Q h => two_ok (f := binaryOp op) hr ha.mono hb.mono h⟩
theorem ef_bin {op : Operator} {g : G2} {f1 f2 : Rho → Option D} (o : OpG X (binaryOp op) g) (ha : XF X a f1) (hb : XF X b f2) : EF X (.BinOp a op b pos) (b2 g f1 f2) :=
  (ew_bin o ha hb).imp fW_mono b2_w
theorem ew_cmp {op : CmpOp} {g : G2} {T1 T2 : TW} (o : OpG X (compareOp op) g) (ha : XW X a T1) (hb : XW X b T2) (hm : behindInMarks op b = false) : EW X (.Compare a [op] [b] pos) (w2 g T1 T2) := by
  obtain ⟨r, ho, hr⟩ := o
  exact ⟨w2_mono ha.mono hb.mono, (pe_cmpR ho ha.pe hb.pe hm).imp fun σ H Q h => two_ok (f := compareOp op) hr ha.mono hb.mono h⟩
theorem ef_cmp {op : CmpOp} {g : G2} {f1 f2 : Rho → Option D} (o : OpG X (compareOp op) g) (ha : XF X a f1) (hb : XF X b f2) (hm : behindInMarks op b = false) : EF X (.Compare a [op] [b] pos) (b2 g f1 f2) :=
  (ew_cmp o ha hb hm).imp fW_mono b2_w
end

abbrev TB := Rho → (Bool → Prop) → Prop
def tT (K : Fg) (T : TB) : TT := fun σ H Q => ∃ B F ρ, Rs K B F H σ ρ ∧ T ρ (fun b => ∀ F' H', Rs K B F' H' σ ρ → Same F F' → Q b H')
structure TWT (X : Cx) (e : Expr) (T : TB) : Prop where
  mono : ∀ ρ K K', (∀ p, K p → K' p) → T ρ K → T ρ K'
  pt : PT X e (tT X.K T)
abbrev TF (X : Cx) (e : Expr) (f : Rho → Option Bool) : Prop := TWT X e (fW f)
theorem TWT.imp {X : Cx} {e : Expr} {T T' : TB} (h : TWT X e T) (m : ∀ ρ K K', (∀ p, K p → K' p) → T' ρ K → T' ρ K') (k : ∀ ρ K, T' ρ K → T ρ K) : TWT X e T' := ⟨m, h.pt.imp fun _ _ _ ⟨B, F, ρ, R, q⟩ => ⟨B, F, ρ, R, k _ _ q⟩⟩
def isB : D → Option Bool
  | .bool b => some b
  | _ => none
def bB (f : Rho → Option D) : Rho → Option Bool := fun ρ => (f ρ).bind isB
def wB (T : TW) : TB := fun ρ K => T ρ fun p => ∃ b, isB p = some b ∧ K b
theorem isB_some {p : D} {b : Bool} (h : isB p = some b) : p = .bool b := by
  cases p with
  | bool c => cases h; rfl
  | _ => cases h
section
variable {X : Cx} {a b c : Expr} {pos : Pos}
theorem wB_mono {T : TW} (m : ∀ ρ K K', (∀ p, K p → K' p) → T ρ K → T ρ K') : ∀ ρ K K', (∀ p, K p → K' p) → wB T ρ K → wB T ρ K' := fun ρ K K' h q => m _ _ _ (fun p ⟨b, e, k⟩ => ⟨b, e, h b k⟩) q
theorem bB_w {f : Rho → Option D} (ρ : Rho) (K : Bool → Prop) (h : fW (bB f) ρ K) : wB (fW f) ρ K := by
  obtain ⟨z, e, k⟩ := h
  obtain ⟨x, e1, e⟩ := Option.bind_eq_some_iff.mp e
  exact ⟨x, e1, z, e, k⟩
/-- an expression whose value is a truth value, as a test -/
theorem tw_val {T : TW} (h : EW X a T) (he : ∀ whole, isTrue a X.env whole = (do let v ← whole; standAt a.pos; holding [v] (truthy v)) := by intro _; rfl) : TWT X a (wB T) :=
  ⟨wB_mono h.mono, (pt_val h.pe he).imp fun σ H Q ⟨B, F, ρ, R, q⟩ => ⟨B, F, ρ, R, h.mono _ _ _ (fun p ⟨b, e, k⟩ F' H' v R' e' d => by
    rw [isB_some e] at d
    exact ⟨b, Dp.inv_bl d, k F' H' R' e'⟩) q⟩⟩
theorem tf_val {f : Rho → Option D} (h : EF X a f) (he : ∀ whole, isTrue a X.env whole = (do let v ← whole; standAt a.pos; holding [v] (truthy v)) := by intro _; rfl) : TF X a (bB f) := (tw_val h he).imp fW_mono bB_w
theorem tw_cmp {op : CmpOp} {g : G2} {T1 T2 : TW} (o : OpG X (compareOp op) g) (ha : XW X a T1) (hb : XW X b T2) (hm : behindInMarks op b = false) : TWT X (.Compare a [op] [b] pos) (wB (w2 g T1 T2)) := by
  obtain ⟨r, ho, hr⟩ := o
  exact ⟨wB_mono (w2_mono ha.mono hb.mono), (pt_cmpR ho ha.pe hb.pe hm).imp fun σ H Q ⟨B, F, ρ, R, q⟩ => by
    refine two_ok (f := compareOp op) (g := g) (T1 := T1) (T2 := T2) hr ha.mono hb.mono ⟨B, F, ρ, R, w2_mono ha.mono hb.mono _ _ _ (fun p ⟨b, e, k⟩ F' H' v R' e' d => ?_) q⟩
    rw [isB_some e] at d
    exact ⟨b, Dp.inv_bl d, k F' H' R' e'⟩⟩
theorem tf_cmp {op : CmpOp} {g : G2} {f1 f2 : Rho → Option D} (o : OpG X (compareOp op) g) (ha : XF X a f1) (hb : XF X b f2) (hm : behindInMarks op b = false) : TF X (.Compare a [op] [b] pos) (bB (b2 g f1 f2)) :=
  (tw_cmp o ha hb hm).imp fW_mono fun ρ K h => wB_mono (fun _ _ _ i z => by obtain ⟨p, e, q⟩ := z; exact ⟨p, e, i p q⟩) _ _ _ (fun _ z => z) (bB_w ρ K h) |> fun ⟨p, e, q⟩ => b2_w ρ _ ⟨p, e, q⟩
def bNot (f : Rho → Option Bool) : Rho → Option Bool := fun ρ => (f ρ).map (!·)
def wNot (T : TB) : TB := fun ρ K => T ρ fun b => K (!b)
theorem tw_not {T : TB} (h : TWT X a T) : TWT X (.UnaryOp .Not a pos) (wNot T) :=
  ⟨fun ρ K K' i q => h.mono _ _ _ (fun b => i _) q, (pt_not h.pt).imp fun σ H Q ⟨B, F, ρ, R, q⟩ => ⟨B, F, ρ, R, q⟩⟩
theorem tf_not {f : Rho → Option Bool} (h : TF X a f) : TF X (.UnaryOp .Not a pos) (bNot f) := (tw_not h).imp fW_mono fun ρ K ⟨b, e, k⟩ => by
  obtain ⟨c, e', rfl⟩ := Option.map_eq_some_iff.mp e
  exact ⟨c, e', k⟩
def bAnd (f g : Rho → Option Bool) : Rho → Option Bool := fun ρ => (f ρ).bind fun b => if b = true then g ρ else some false
def bOr (f g : Rho → Option Bool) : Rho → Option Bool := fun ρ => (f ρ).bind fun b => if b = true then some true else g ρ
def wAnd (T U : TB) : TB := fun ρ K => T ρ fun b => if b = true then U ρ K else K false
def wOr (T U : TB) : TB := fun ρ K => T ρ fun b => if b = true then K true else U ρ K
structure TWW (X : Cx) (e : Expr) (T : TB) : Prop where
  mono : ∀ ρ K K', (∀ p, K p → K' p) → T ρ K → T ρ K'
  pw : PW X e (tT X.K T)
theorem TWW.t {e : Expr} {T : TB} (h : TWW X e T) : TWT X e T := ⟨h.mono, h.pw.pt⟩
theorem PW.imp {e : Expr} {t t' : TT} (h : PW X e t) (k : ∀ σ H Q, t' σ H Q → t σ H Q) : PW X e t' := ⟨fun w pins s σ H Q I hw => h.run w pins s σ H Q I (k _ _ _ hw)⟩
theorem tw_and1 {T : TB} (h : TWT X a T) : TWW X (.BoolOp .And [a] pos) T := ⟨h.mono, pw_and1 h.pt⟩
theorem tw_or1 {T : TB} (h : TWT X a T) : TWW X (.BoolOp .Or [a] pos) T := ⟨h.mono, pw_or1 h.pt⟩
theorem tw_and {T U : TB} {rest : List Expr} (h : TWT X a T) (h2 : TWW X (.BoolOp .And (b :: rest) pos) U) : TWW X (.BoolOp .And (a :: b :: rest) pos) (wAnd T U) :=
  ⟨fun ρ K K' i q => h.mono _ _ _ (fun b k => by
      cases b with
      | true => exact h2.mono _ _ _ i k
      | false => exact i _ k) q, PW.imp (pw_and h.pt h2.pw) fun σ H Q ⟨B, F, ρ, R, q⟩ => ⟨B, F, ρ, R, h.mono _ _ _ (fun b k F' H' R' e' => by
      cases b with
      | true => exact ⟨B, F', ρ, R', h2.mono _ _ _ (fun c kc F2 H2 R2 e2 => kc F2 H2 R2 (e'.trans e2)) k⟩
      | false => exact k F' H' R' e') q⟩⟩
theorem tw_or {T U : TB} {rest : List Expr} (h : TWT X a T) (h2 : TWW X (.BoolOp .Or (b :: rest) pos) U) : TWW X (.BoolOp .Or (a :: b :: rest) pos) (wOr T U) :=
  ⟨fun ρ K K' i q => h.mono _ _ _ (fun b k => by
      cases b with
      | false => exact h2.mono _ _ _ i k
      | true => exact i _ k) q, PW.imp (pw_or h.pt h2.pw) fun σ H Q ⟨B, F, ρ, R, q⟩ => ⟨B, F, ρ, R, h.mono _ _ _ (fun b k F' H' R' e' => by
      cases b with
      | false => exact ⟨B, F', ρ, R', h2.mono _ _ _ (fun c kc F2 H2 R2 e2 => kc F2 H2 R2 (e'.trans e2)) k⟩
      | true => exact k F' H' R' e') q⟩⟩
abbrev TFW (X : Cx) (e : Expr) (f : Rho → Option Bool) : Prop := TWW X e (fW f)
theorem TWW.imp {e : Expr} {T T' : TB} (h : TWW X e T) (m : ∀ ρ K K', (∀ p, K p → K' p) → T' ρ K → T' ρ K') (k : ∀ ρ K, T' ρ K → T ρ K) : TWW X e T' := ⟨m, PW.imp h.pw fun _ _ _ ⟨B, F, ρ, R, q⟩ => ⟨B, F, ρ, R, k _ _ q⟩⟩
theorem tf_and1 {f : Rho → Option Bool} (h : TF X a f) : TFW X (.BoolOp .And [a] pos) f := tw_and1 h
theorem tf_or1 {f : Rho → Option Bool} (h : TF X a f) : TFW X (.BoolOp .Or [a] pos) f := tw_or1 h
theorem tf_and {f g : Rho → Option Bool} {rest : List Expr} (h : TF X a f) (h2 : TFW X (.BoolOp .And (b :: rest) pos) g) : TFW X (.BoolOp .And (a :: b :: rest) pos) (bAnd f g) := (tw_and h h2).imp fW_mono fun ρ K ⟨c, e, k⟩ => by
  obtain ⟨d, e1, e2⟩ := Option.bind_eq_some_iff.mp e
  refine ⟨d, e1, ?_⟩
  cases d with
  | true => exact ⟨c, e2, k⟩
  | false => cases e2; exact k
theorem tf_or {f g : Rho → Option Bool} {rest : List Expr} (h : TF X a f) (h2 : TFW X (.BoolOp .Or (b :: rest) pos) g) : TFW X (.BoolOp .Or (a :: b :: rest) pos) (bOr f g) := (tw_or h h2).imp fW_mono fun ρ K ⟨c, e, k⟩ => by
  obtain ⟨d, e1, e2⟩ := Option.bind_eq_some_iff.mp e
  refine ⟨d, e1, ?_⟩
  cases d with
  | false => exact ⟨c, e2, k⟩
  | true => cases e2; exact k
def vAnd (f g : Rho → Option D) : Rho → Option D := fun ρ => (f ρ).bind fun x => (isB x).bind fun b => if b = true then g ρ else some (.bool false)
def vNot (f : Rho → Option D) : Rho → Option D := fun ρ => (f ρ).bind fun x => (isB x).map fun b => .bool (!b)
theorem ef_one {op} {f : Rho → Option D} (h : EF X a f) : EF X (.BoolOp op [a] pos) f := ⟨fW_mono, pe_one h.pe⟩
theorem ef_and {f g : Rho → Option D} {rest : List Expr} (h : EF X a f) (h2 : EF X (.BoolOp .And (b :: rest) pos) g) : EF X (.BoolOp .And (a :: b :: rest) pos) (vAnd f g) :=
  ⟨fW_mono, (pe_and h.pe h2.pe).imp fun σ H Q ⟨B, F, ρ, R, p, e, q⟩ => by
    obtain ⟨x, e1, e⟩ := Option.bind_eq_some_iff.mp e
    obtain ⟨c, e2, e⟩ := Option.bind_eq_some_iff.mp e
    refine ⟨B, F, ρ, R, x, e1, fun F' H' v R' e' d => ?_⟩
    rw [isB_some e2] at d
    refine ⟨c, Dp.inv_bl d, ?_⟩
    cases c with
    | true => exact ⟨B, F', ρ, R', p, e, fun F2 H2 v2 R2 s2 d2 => q F2 H2 v2 R2 (e'.trans s2) d2⟩
    | false => cases e; exact q F' H' _ R' e' (.bl false)⟩
theorem ef_not {f : Rho → Option D} (h : EF X a f) : EF X (.UnaryOp .Not a pos) (vNot f) :=
  ⟨fW_mono, (pe_not h.pe).imp fun σ H Q ⟨B, F, ρ, R, p, e, q⟩ => by
    obtain ⟨x, e1, e⟩ := Option.bind_eq_some_iff.mp e
    obtain ⟨c, e2, rfl⟩ := Option.map_eq_some_iff.mp e
    refine ⟨B, F, ρ, R, x, e1, fun F' H' v R' e' d => ?_⟩
    rw [isB_some e2] at d
    exact ⟨c, Dp.inv_bl d, q F' H' _ R' e' (.bl (!c))⟩⟩
def vIf (t : Rho → Option Bool) (f g : Rho → Option D) : Rho → Option D := fun ρ => (t ρ).bind fun b => if b = true then f ρ else g ρ
def wIf (t : TB) (f g : TW) : TW := fun ρ K => t ρ fun b => if b = true then f ρ K else g ρ K
theorem ew_if {t : TB} {f g : TW} (h : TWT X c t) (h1 : EW X a f) (h2 : EW X b g) : EW X (.IfExp c a b pos) (wIf t f g) :=
  ⟨fun ρ K K' i q => h.mono _ _ _ (fun b k => by
    cases b with
    | true => exact h1.mono _ _ _ i k
    | false => exact h2.mono _ _ _ i k) q, (pe_ifExp h.pt h1.pe h2.pe).imp fun σ H Q ⟨B, F, ρ, R, q⟩ => ⟨B, F, ρ, R, h.mono _ _ _ (fun b k F' H' R' e' => by
      cases b with
      | true => exact ⟨B, F', ρ, R', h1.mono _ _ _ (fun p kp F2 H2 v2 R2 s2 d2 => kp F2 H2 v2 R2 (e'.trans s2) d2) k⟩
      | false => exact ⟨B, F', ρ, R', h2.mono _ _ _ (fun p kp F2 H2 v2 R2 s2 d2 => kp F2 H2 v2 R2 (e'.trans s2) d2) k⟩) q⟩⟩
theorem ef_if {t : Rho → Option Bool} {f g : Rho → Option D} (h : TF X c t) (h1 : EF X a f) (h2 : EF X b g) : EF X (.IfExp c a b pos) (vIf t f g) := (ew_if h h1 h2).imp fW_mono fun ρ K ⟨p, e, k⟩ => by
  obtain ⟨d, e1, e2⟩ := Option.bind_eq_some_iff.mp e
  refine ⟨d, e1, ?_⟩
  cases d with
  | true => exact ⟨p, e2, k⟩
  | false => exact ⟨p, e2, k⟩
def b3 (g g' : G2) (f1 f2 f3 : Rho → Option D) : Rho → Option D := fun ρ => (f1 ρ).bind fun x => (f2 ρ).bind fun y => (g x y).bind fun r => (isB r).bind fun k => if k = true then (f3 ρ).bind fun z => g' y z else some (.bool false)
theorem ef_chain {op op' : CmpOp} {g g' : G2} {f1 f2 f3 : Rho → Option D} (o : OpG X (compareOp op) g) (o' : OpG X (compareOp op') g') (ha : XF X a f1) (hb : XF X b f2) (hc : XF X c f3)
    (hm : lastMarks [op, op'] [b, c] = false := by with_unfolding_all rfl) : EF X (.Compare a [op, op'] [b, c] pos) (b3 g g' f1 f2 f3) := by
  obtain ⟨r, ho, hr⟩ := o
  obtain ⟨r', ho', hr'⟩ := o'
  refine ⟨fW_mono, (pe_chain ho ho' ha.pe hb.pe hc.pe hm).imp fun σ H Q ⟨B, F, ρ, R, p, e, q⟩ => ?_⟩
  obtain ⟨x, e1, e⟩ := Option.bind_eq_some_iff.mp e
  obtain ⟨y, e2, e⟩ := Option.bind_eq_some_iff.mp e
  obtain ⟨z, e3, e⟩ := Option.bind_eq_some_iff.mp e
  obtain ⟨k, e4, e⟩ := Option.bind_eq_some_iff.mp e
  refine ⟨B, F, ρ, R, x, e1, fun F1 H1 v1 R1 s1 d1 => ⟨B, F1, ρ, R1, y, e2, fun F2 H2 v2 R2 s2 d2 => ?_⟩⟩
  refine hr B F2 H2 σ ρ v1 v2 x y z _ R2 (d1.mono s2) d2 e3 fun F3 H3 v3 R3 s3 d3 => ?_
  rw [isB_some e4] at d3
  refine ⟨k, Dp.inv_bl d3, ?_⟩
  cases k with
  | false => cases e; exact q F3 H3 _ R3 ((s1.trans s2).trans s3) (.bl false)
  | true =>
    obtain ⟨w, e5, e6⟩ := Option.bind_eq_some_iff.mp (show ((f3 ρ).bind fun z => g' y z) = some p from e)
    exact ⟨B, F3, ρ, R3, w, e5, fun F4 H4 v4 R4 s4 d4 => hr' B F4 H4 σ ρ v2 v4 y w p _ R4 (d2.mono (s3.trans s4)) d4 e6 fun F5 H5 v5 R5 s5 d5 => q F5 H5 v5 R5 ((((s1.trans s2).trans s3).trans s4).trans s5) d5⟩
end

section
variable {X : Cx}
theorem og_int0 {f : Value → Value → Sem Value} {g : Int → Int → V} {gd : G2} (ho : OpR X f (rI0 g)) (h : ∀ p q z, gd p q = some z → ∃ i j, p = .int i ∧ q = .int j ∧ ∀ K F, Dp K F (g i j) z) : OpG X f gd :=
  OpG.of ⟨_, ho, fun B F H σ ρ x y p q z Q R hx hy e k => by
    obtain ⟨i, j, rfl, rfl, d⟩ := h p q z e
    exact ⟨i, j, Dp.inv_int hx, Dp.inv_int hy, k F H _ R (Same.refl _) (d _ _)⟩⟩
def iB (f : Int → Int → Bool) : G2
  | .int i, .int j => some (.bool (f i j))
  | _, _ => none
def iI (f : Int → Int → Int) : G2
  | .int i, .int j => some (.int (f i j))
  | _, _ => none
theorem iB_some {f : Int → Int → Bool} {p q z : D} (h : iB f p q = some z) : ∃ i j, p = .int i ∧ q = .int j ∧ z = .bool (f i j) := by
  unfold iB at h
  split at h
  · cases h; exact ⟨_, _, rfl, rfl, rfl⟩
  · cases h
theorem iI_some {f : Int → Int → Int} {p q z : D} (h : iI f p q = some z) : ∃ i j, p = .int i ∧ q = .int j ∧ z = .int (f i j) := by
  unfold iI at h
  split at h
  · cases h; exact ⟨_, _, rfl, rfl, rfl⟩
  · cases h
def dLt : G2 := iB fun i j => decide (i < j)
def dLe : G2 := iB fun i j => decide (i ≤ j)
def dGt : G2 := iB fun i j => decide (j < i)
theorem og_lt : OpG X (compareOp .Lt) dLt := og_int0 op_lt fun p q z h => by obtain ⟨i, j, rfl, rfl, rfl⟩ := iB_some h; exact ⟨i, j, rfl, rfl, fun _ _ => .bl _⟩
theorem og_le : OpG X (compareOp .LtE) dLe := og_int0 op_le fun p q z h => by obtain ⟨i, j, rfl, rfl, rfl⟩ := iB_some h; exact ⟨i, j, rfl, rfl, fun _ _ => .bl _⟩
theorem og_gt : OpG X (compareOp .Gt) dGt := og_int0 op_gt fun p q z h => by obtain ⟨i, j, rfl, rfl, rfl⟩ := iB_some h; exact ⟨i, j, rfl, rfl, fun _ _ => .bl _⟩
def dSub : G2 := iI fun i j => i - j
theorem og_sub : OpG X (binaryOp .Sub) dSub := og_int0 op_sub fun p q z h => by obtain ⟨i, j, rfl, rfl, rfl⟩ := iI_some h; exact ⟨i, j, rfl, rfl, fun _ _ => .int _⟩
/-- data that may be compared -/
def okD (p : D) : Bool := p.plain && decide (p.depth ≤ 64)
def okDs (ps : List D) : Bool := PyData.plainAll ps && decide (PyData.depthAll ps ≤ 64)
def dEq : G2 := fun p q => if okD p = true ∧ okD q = true then some (.bool (PyData.eqv p q)) else none
def dNe : G2 := fun p q => if okD p = true ∧ okD q = true then some (.bool (!PyData.eqv p q)) else none
def rEqP (K : Fg) (n : Bool) : R2 := fun x y H Q => ∃ d e, Dp K H x d ∧ Dp K H y e ∧ okD d = true ∧ okD e = true ∧ Q (.bl (if n = true then !PyData.eqv d e else PyData.eqv d e)) H
theorem okD_iff {p : D} : okD p = true ↔ p.plain = true ∧ p.depth ≤ 64 := by unfold okD; simp
theorem okDs_iff {p : List D} : okDs p = true ↔ PyData.plainAll p = true ∧ PyData.depthAll p ≤ 64 := by unfold okDs; simp
theorem or_eqP (hu : Rm X) : OpR X (compareOp .Eq) (rEqP X.K false) := by
  intro pins s σ H x y v u Q I rx ry h
  obtain ⟨d, e, hd, he, sd, se, q⟩ := h
  obtain ⟨p1, z1⟩ := okD_iff.mp sd
  obtain ⟨p2, z2⟩ := okD_iff.mp se
  obtain ⟨as, r1⟩ := Dp.reads I d x v hd p1 rx
  obtain ⟨bs, r2⟩ := Dp.reads I e y u he p2 ry
  exact SeqAt.eq_plain r1 r2 p1 p2 (by unfold Rm at hu; omega) ⟨.bl _, H, I, rfl, q⟩
theorem or_neP (hu : Rm X) : OpR X (compareOp .NotEq) (rEqP X.K true) := by
  intro pins s σ H x y v u Q I rx ry h
  obtain ⟨d, e, hd, he, sd, se, q⟩ := h
  obtain ⟨p1, z1⟩ := okD_iff.mp sd
  obtain ⟨p2, z2⟩ := okD_iff.mp se
  obtain ⟨as, r1⟩ := Dp.reads I d x v hd p1 rx
  obtain ⟨bs, r2⟩ := Dp.reads I e y u he p2 ry
  exact SeqAt.ne_plain r1 r2 p1 p2 (by unfold Rm at hu; omega) ⟨.bl _, H, I, rfl, q⟩
theorem og_eq (hu : Rm X) : OpG X (compareOp .Eq) dEq := OpG.of ⟨_, or_eqP hu, fun B F H σ ρ x y p q z Q R hx hy e k => by
  unfold dEq at e
  split at e
  · rename_i h; cases e
    exact ⟨p, q, hx, hy, h.1, h.2, k F H _ R (Same.refl _) (.bl _)⟩
  · cases e⟩
theorem og_ne (hu : Rm X) : OpG X (compareOp .NotEq) dNe := OpG.of ⟨_, or_neP hu, fun B F H σ ρ x y p q z Q R hx hy e k => by
  unfold dNe at e
  split at e
  · rename_i h; cases e
    exact ⟨p, q, hx, hy, h.1, h.2, k F H _ R (Same.refl _) (.bl _)⟩
  · cases e⟩
/-- in, not in -/
def items : D → Option (List D)
  | .list xs => some xs
  | .tuple xs => some xs
  | _ => none
theorem items_plain {e : D} {xs : List D} (h : items e = some xs) (hp : PyData.plainAll xs = true) : e.plain = true := by
  unfold items at h
  split at h
  · cases h; simpa [PyData.plain] using hp
  · cases h; simpa [PyData.plain] using hp
  · cases h
def dIn : G2 := fun p q => (items q).bind fun xs => if okD p = true ∧ okDs xs = true then some (.bool (xs.any fun y => PyData.eqv y p)) else none
def dNotIn : G2 := fun p q => (items q).bind fun xs => if okD p = true ∧ okDs xs = true then some (.bool (!xs.any fun y => PyData.eqv y p)) else none
def rInP (K : Fg) (n : Bool) : R2 := fun x y H Q => ∃ d e xs, Dp K H x d ∧ Dp K H y e ∧ items e = some xs ∧ okD d = true ∧ okDs xs = true ∧ Q (.bl (if n = true then !xs.any fun y => PyData.eqv y d else xs.any fun y => PyData.eqv y d)) H
theorem or_inP (hu : Rm X) : OpR X (compareOp .In) (rInP X.K false) := by
  intro pins s σ H x y v u Q I rx ry h
  obtain ⟨d, e, xs, hd, he, hi, sd, se, q⟩ := h
  obtain ⟨p1, z1⟩ := okD_iff.mp sd
  obtain ⟨p2, z2⟩ := okDs_iff.mp se
  obtain ⟨as, r1⟩ := Dp.reads I d x v hd p1 rx
  obtain ⟨bs, r2⟩ := Dp.reads I e y u he (items_plain hi p2) ry
  unfold items at hi
  split at hi
  · cases hi; exact SeqAt.in_list_data r2 r1 p2 p1 (by unfold Rm at hu; omega) ⟨.bl _, H, I, rfl, q⟩
  · cases hi; exact SeqAt.in_tuple_data r2 r1 p2 p1 (by unfold Rm at hu; omega) ⟨.bl _, H, I, rfl, q⟩
  · cases hi
theorem or_notInP (hu : Rm X) : OpR X (compareOp .NotIn) (rInP X.K true) := by
  intro pins s σ H x y v u Q I rx ry h
  obtain ⟨d, e, xs, hd, he, hi, sd, se, q⟩ := h
  obtain ⟨p1, z1⟩ := okD_iff.mp sd
  obtain ⟨p2, z2⟩ := okDs_iff.mp se
  obtain ⟨as, r1⟩ := Dp.reads I d x v hd p1 rx
  obtain ⟨bs, r2⟩ := Dp.reads I e y u he (items_plain hi p2) ry
  unfold items at hi
  split at hi
  · cases hi; exact SeqAt.notIn_list_data r2 r1 p2 p1 (by unfold Rm at hu; omega) ⟨.bl _, H, I, rfl, q⟩
  · cases hi; exact SeqAt.notIn_tuple_data r2 r1 p2 p1 (by unfold Rm at hu; omega) ⟨.bl _, H, I, rfl, q⟩
  · cases hi
theorem og_in (hu : Rm X) : OpG X (compareOp .In) dIn := OpG.of ⟨_, or_inP hu, fun B F H σ ρ x y p q z Q R hx hy e k => by
  obtain ⟨xs, e1, e⟩ := Option.bind_eq_some_iff.mp e
  split at e
  · rename_i h; cases e
    exact ⟨p, q, xs, hx, hy, e1, h.1, h.2, k F H _ R (Same.refl _) (.bl _)⟩
  · cases e⟩
theorem og_notIn (hu : Rm X) : OpG X (compareOp .NotIn) dNotIn := OpG.of ⟨_, or_notInP hu, fun B F H σ ρ x y p q z Q R hx hy e k => by
  obtain ⟨xs, e1, e⟩ := Option.bind_eq_some_iff.mp e
  split at e
  · rename_i h; cases e
    exact ⟨p, q, xs, hx, hy, e1, h.1, h.2, k F H _ R (Same.refl _) (.bl _)⟩
  · cases e⟩
/-- is None, is not None -/
def dIsN : G2
  | .none, .none => some (.bool true)
  | _, .none => some (.bool false)
  | _, _ => none
theorem dp_non_iff {K : Fg} {F : Hp} {v : V} {p : D} (h : Dp K F v p) : decide (v = .non) = (match p with | .none => true | _ => false) := by
  cases h <;> simp [rqD, fnD, kD, adrD, excD]
theorem og_isN : OpG X (compareOp .Is) dIsN := OpG.of ⟨_, op_isN, fun B F H σ ρ x y p q z Q R hx hy e k => by
  have hd := dp_non_iff hx
  cases q with
  | none =>
    refine ⟨Dp.inv_non hy, k F H _ R (Same.refl _) ?_⟩
    rw [hd]
    cases p <;> (cases e; exact .bl _)
  | _ => cases p <;> cases e⟩
end
end L2.P

namespace L2.P
open PySem PySem.Spec PyProof.Rows L2

inductive PkAll (K : Fg) (F : Hp) (σ : St) (ρ : Rho) : List V → List D → Prop
  | nil : PkAll K F σ ρ [] []
  | cons {v : V} {vs : List V} {p : D} {ps : List D} : Pk K F σ ρ v p → PkAll K F σ ρ vs ps → PkAll K F σ ρ (v :: vs) (p :: ps)
theorem PkAll.mono {K : Fg} {F F' : Hp} {σ : St} {ρ : Rho} (e : Same F F') : ∀ {vs : List V} {ps : List D}, PkAll K F σ ρ vs ps → PkAll K F' σ ρ vs ps
  | _, _, .nil => .nil
  | _, _, .cons a b => .cons (a.mono e) (PkAll.mono e b)
theorem PkAll.dp {K : Fg} {B : Bs} {F H : Hp} {σ : St} {ρ : Rho} (R : Rs K B F H σ ρ) : ∀ {vs : List V} {ps : List D}, PkAll K F σ ρ vs ps → DpAll K H vs ps
  | _, _, .nil => .nil
  | _, _, .cons a b => .cons (a.dp (Same.refl _) R) (PkAll.dp R b)
theorem PkAll.of {K : Fg} {F : Hp} {σ : St} {ρ : Rho} : ∀ {vs : List V} {ps : List D}, DpAll K F vs ps → PkAll K F σ ρ vs ps
  | _, _, .nil => .nil
  | _, _, .cons a b => .cons (.inl a) (PkAll.of b)
abbrev TL := Rho → (List D → Prop) → Prop
def tXA (K : Fg) (T : TL) : TA := fun σ H Q => ∃ B F ρ, Rs K B F H σ ρ ∧ T ρ (fun ps => ∀ F' H' vs, Rs K B F' H' σ ρ → Same F F' → PkAll K F' σ ρ vs ps → Q vs H')
def tEA (K : Fg) (T : TL) : TA := fun σ H Q => ∃ B F ρ, Rs K B F H σ ρ ∧ T ρ (fun ps => ∀ F' H' vs, Rs K B F' H' σ ρ → Same F F' → DpAll K F' vs ps → Q vs H')
structure XA (X : Cx) (es : List Expr) (T : TL) : Prop where
  mono : ∀ ρ K K', (∀ p, K p → K' p) → T ρ K → T ρ K'
  pa : PA X es (tXA X.K T)
structure EA (X : Cx) (es : List Expr) (T : TL) : Prop where
  mono : ∀ ρ K K', (∀ p, K p → K' p) → T ρ K → T ρ K'
  pa : PA X es (tEA X.K T)
abbrev XAF (X : Cx) (es : List Expr) (f : Rho → Option (List D)) : Prop := XA X es (fW f)
abbrev EAF (X : Cx) (es : List Expr) (f : Rho → Option (List D)) : Prop := EA X es (fW f)
def aNil : Rho → Option (List D) := fun _ => some []
def aCons (f : Rho → Option D) (g : Rho → Option (List D)) : Rho → Option (List D) := fun ρ => (f ρ).bind fun x => (g ρ).map fun xs => x :: xs
def wNil : TL := fun _ K => K []
def wCons (T : TW) (U : TL) : TL := fun ρ K => T ρ fun x => U ρ fun xs => K (x :: xs)
section
variable {X : Cx} {e : Expr} {es : List Expr} {pos : Pos}
theorem PA.imp {es : List Expr} {t t' : TA} (h : PA X es t) (k : ∀ σ H Q, t' σ H Q → t σ H Q) : PA X es t' := ⟨fun p pins s σ H Q I hw => h.run p pins s σ H Q I (k _ _ _ hw)⟩
theorem XA.imp {T T' : TL} (h : XA X es T) (m : ∀ ρ K K', (∀ p, K p → K' p) → T' ρ K → T' ρ K') (k : ∀ ρ K, T' ρ K → T ρ K) : XA X es T' := ⟨m, PA.imp h.pa fun _ _ _ ⟨B, F, ρ, R, q⟩ => ⟨B, F, ρ, R, k _ _ q⟩⟩
theorem EA.imp {T T' : TL} (h : EA X es T) (m : ∀ ρ K K', (∀ p, K p → K' p) → T' ρ K → T' ρ K') (k : ∀ ρ K, T' ρ K → T ρ K) : EA X es T' := ⟨m, PA.imp h.pa fun _ _ _ ⟨B, F, ρ, R, q⟩ => ⟨B, F, ρ, R, k _ _ q⟩⟩
theorem xa_nilw : XA X [] wNil := ⟨fun _ _ _ h q => h _ q, PA.imp pa_nil fun σ H Q ⟨B, F, ρ, R, q⟩ => q F H [] R (Same.refl _) .nil⟩
theorem ea_nilw : EA X [] wNil := ⟨fun _ _ _ h q => h _ q, PA.imp pa_nil fun σ H Q ⟨B, F, ρ, R, q⟩ => q F H [] R (Same.refl _) .nil⟩
theorem xa_consw {T : TW} {U : TL} (ha : XW X e T) (hr : XA X es U) (hs : starEach (e :: es) X.env = (false, eval e X.env) :: starEach es X.env := by rfl) : XA X (e :: es) (wCons T U) :=
  ⟨fun ρ K K' h q => ha.mono _ _ _ (fun x => hr.mono _ _ _ fun xs => h _) q, PA.imp (pa_cons ha.pe hr.pa hs) fun σ H Q ⟨B, F, ρ, R, q⟩ => ⟨B, F, ρ, R, ha.mono _ _ _ (fun x k F1 H1 v R1 e1 d1 =>
    ⟨B, F1, ρ, R1, hr.mono _ _ _ (fun xs k2 F2 H2 vs R2 e2 d2 => k2 F2 H2 (v :: vs) R2 (e1.trans e2) (.cons (d1.mono e2) d2)) k⟩) q⟩⟩
theorem ea_consw {T : TW} {U : TL} (ha : EW X e T) (hr : EA X es U) (hs : starEach (e :: es) X.env = (false, eval e X.env) :: starEach es X.env := by rfl) : EA X (e :: es) (wCons T U) :=
  ⟨fun ρ K K' h q => ha.mono _ _ _ (fun x => hr.mono _ _ _ fun xs => h _) q, PA.imp (pa_cons ha.pe hr.pa hs) fun σ H Q ⟨B, F, ρ, R, q⟩ => ⟨B, F, ρ, R, ha.mono _ _ _ (fun x k F1 H1 v R1 e1 d1 =>
    ⟨B, F1, ρ, R1, hr.mono _ _ _ (fun xs k2 F2 H2 vs R2 e2 d2 => k2 F2 H2 (v :: vs) R2 (e1.trans e2) (.cons (d1.same e2) d2)) k⟩) q⟩⟩
theorem aCons_w {f : Rho → Option D} {g : Rho → Option (List D)} (ρ : Rho) (K : List D → Prop) (h : fW (aCons f g) ρ K) : wCons (fW f) (fW g) ρ K := by
  obtain ⟨z, e, k⟩ := h
  obtain ⟨x, e1, e⟩ := Option.bind_eq_some_iff.mp e
  obtain ⟨xs, e2, rfl⟩ := Option.map_eq_some_iff.mp e
  exact ⟨x, e1, xs, e2, k⟩
theorem xa_nil : XAF X [] aNil := xa_nilw.imp fW_mono fun ρ K ⟨p, e, k⟩ => by cases e; exact k
theorem ea_nil : EAF X [] aNil := ea_nilw.imp fW_mono fun ρ K ⟨p, e, k⟩ => by cases e; exact k
theorem xa_cons {f : Rho → Option D} {g : Rho → Option (List D)} (ha : XF X e f) (hr : XAF X es g) (hs : starEach (e :: es) X.env = (false, eval e X.env) :: starEach es X.env := by rfl) : XAF X (e :: es) (aCons f g) := (xa_consw ha hr hs).imp fW_mono aCons_w
theorem ea_cons {f : Rho → Option D} {g : Rho → Option (List D)} (ha : EF X e f) (hr : EAF X es g) (hs : starEach (e :: es) X.env = (false, eval e X.env) :: starEach es X.env := by rfl) : EAF X (e :: es) (aCons f g) := (ea_consw ha hr hs).imp fW_mono aCons_w
end

abbrev GA := List D → Option D
/-- a call does what g says of data -/
def CallG (X : Cx) (f : Value) (g : GA) : Prop :=
  ∃ r : List V → Hp → VK → Prop, CallR X f r ∧ ∀ (B : Bs) (F H : Hp) (σ : St) (ρ : Rho) (vs : List V) (ps : List D) (z : D) (Q : VK), Rs X.K B F H σ ρ → PkAll X.K F σ ρ vs ps → g ps = some z →
    (∀ F' H' v, Rs X.K B F' H' σ ρ → Same F F' → Dp X.K F' v z → Q v H') → r vs H Q
/-- .. makes a new list -/
def CallN (X : Cx) (f : Value) (g : List D → Option (List D)) : Prop :=
  ∃ r : List V → Hp → VK → Prop, CallR X f r ∧ ∀ (B : Bs) (F H : Hp) (σ : St) (ρ : Rho) (vs : List V) (ps zs : List D) (Q : VK), Rs X.K B F H σ ρ → PkAll X.K F σ ρ vs ps → g ps = some zs →
    (∀ F' H' a xs, Rs X.K B F' H' σ ρ → Same F F' → H' a = none → DpAll X.K F' xs zs → Q (.ref a) (upd H' a (.lst xs))) → r vs H Q
def aOf {α : Type} (g : List D → Option α) (f : Rho → Option (List D)) : Rho → Option α := fun ρ => (f ρ).bind g
def wOf {α : Type} (g : List D → Option α) (T : TL) : Rho → (α → Prop) → Prop := fun ρ K => T ρ fun ps => ∃ z, g ps = some z ∧ K z
theorem wOf_mono {α : Type} {g : List D → Option α} {T : TL} (m : ∀ ρ K K', (∀ p, K p → K' p) → T ρ K → T ρ K') : ∀ ρ K K', (∀ p, K p → K' p) → wOf g T ρ K → wOf g T ρ K' := fun ρ K K' h q => m _ _ _ (fun p ⟨b, e, k⟩ => ⟨b, e, h b k⟩) q
theorem aOf_w {α : Type} {g : List D → Option α} {f : Rho → Option (List D)} (ρ : Rho) (K : α → Prop) (h : fW (aOf g f) ρ K) : wOf g (fW f) ρ K := by
  obtain ⟨z, e, k⟩ := h
  obtain ⟨x, e1, e⟩ := Option.bind_eq_some_iff.mp e
  exact ⟨x, e1, z, e, k⟩
section
variable {X : Cx} {x : Str} {p pos : Pos} {e : Expr} {es : List Expr} {id T : String}
theorem call_ok {g : GA} {U : TL} (m : ∀ ρ K K', (∀ p, K p → K' p) → U ρ K → U ρ K') {r : List V → Hp → VK → Prop}
    (hr : ∀ (B : Bs) (F H : Hp) (σ : St) (ρ : Rho) (vs : List V) (ps : List D) (z : D) (Q : VK), Rs X.K B F H σ ρ → PkAll X.K F σ ρ vs ps → g ps = some z → (∀ F' H' v, Rs X.K B F' H' σ ρ → Same F F' → Dp X.K F' v z → Q v H') → r vs H Q)
    {σ : St} {H : Hp} {Q : VK} (h : tW X.K (wOf g U) σ H Q) : tCB r (tXA X.K U) σ H Q := by
  obtain ⟨B, F, ρ, R, q⟩ := h
  exact ⟨B, F, ρ, R, m _ _ _ (fun ps ⟨z, ez, k⟩ F1 H1 vs R1 e1 d1 => hr B F1 H1 σ ρ vs ps z Q R1 d1 ez fun F2 H2 v R2 e2 d2 => k F2 H2 v R2 (e1.trans e2) d2) q⟩
theorem callN_ok {g : List D → Option (List D)} {U : TL} (m : ∀ ρ K K', (∀ p, K p → K' p) → U ρ K → U ρ K') {r : List V → Hp → VK → Prop}
    (hr : ∀ (B : Bs) (F H : Hp) (σ : St) (ρ : Rho) (vs : List V) (ps zs : List D) (Q : VK), Rs X.K B F H σ ρ → PkAll X.K F σ ρ vs ps → g ps = some zs → (∀ F' H' a xs, Rs X.K B F' H' σ ρ → Same F F' → H' a = none → DpAll X.K F' xs zs → Q (.ref a) (upd H' a (.lst xs))) → r vs H Q)
    {σ : St} {H : Hp} {Q : VK} (h : tN X.K (wOf g U) σ H Q) : tCB r (tXA X.K U) σ H Q := by
  obtain ⟨B, F, ρ, R, q⟩ := h
  exact ⟨B, F, ρ, R, m _ _ _ (fun ps ⟨z, ez, k⟩ F1 H1 vs R1 e1 d1 => hr B F1 H1 σ ρ vs ps z Q R1 d1 ez fun F2 H2 a xs R2 e2 n d2 => k F2 H2 a xs R2 (e1.trans e2) n d2) q⟩
/-- f(e, ..), f a built-in function; a built-in class -/
theorem ew_callB {g : GA} {U : TL} (c : CallG X (.builtin id) g) (ha : XA X (e :: es) U) (hg : Gl X x) (hm : X.mg x = none) (hv : bootBuiltins x = some (.builtin id)) (hn : x ≠ "__name__" := by decide) (hdb : (x == ("__debug__" : Str)) = false := by decide)
    (he : starEach (e :: es) X.env = (false, eval e X.env) :: starEach es X.env := by rfl) (hpl : (backTo pos (starEach es X.env)).any (·.1) = false := by rfl) : EW X (.Call (.Name x p) (e :: es) [] pos) (wOf g U) := by
  obtain ⟨r, hc, hr⟩ := c
  exact ⟨wOf_mono ha.mono, (pe_callB hc hg hm hv ha.pa hn hdb he hpl).imp fun _ _ _ h => call_ok ha.mono hr h⟩
theorem ew_callT {g : GA} {U : TL} (c : CallG X (.type T) g) (ha : XA X (e :: es) U) (hg : Gl X x) (hm : X.mg x = none) (hv : bootBuiltins x = some (.type T)) (hn : x ≠ "__name__" := by decide) (hdb : (x == ("__debug__" : Str)) = false := by decide)
    (he : starEach (e :: es) X.env = (false, eval e X.env) :: starEach es X.env := by rfl) (hpl : (backTo pos (starEach es X.env)).any (·.1) = false := by rfl) : EW X (.Call (.Name x p) (e :: es) [] pos) (wOf g U) := by
  obtain ⟨r, hc, hr⟩ := c
  exact ⟨wOf_mono ha.mono, (pe_callTy hc hg hm hv ha.pa hn hdb he hpl).imp fun _ _ _ h => call_ok ha.mono hr h⟩
theorem nw_callT {g : List D → Option (List D)} {U : TL} (c : CallN X (.type T) g) (ha : XA X (e :: es) U) (hg : Gl X x) (hm : X.mg x = none) (hv : bootBuiltins x = some (.type T)) (hn : x ≠ "__name__" := by decide) (hdb : (x == ("__debug__" : Str)) = false := by decide)
    (he : starEach (e :: es) X.env = (false, eval e X.env) :: starEach es X.env := by rfl) (hpl : (backTo pos (starEach es X.env)).any (·.1) = false := by rfl) : NW X (.Call (.Name x p) (e :: es) [] pos) (wOf g U) := by
  obtain ⟨r, hc, hr⟩ := c
  exact ⟨wOf_mono ha.mono, (pe_callTy hc hg hm hv ha.pa hn hdb he hpl).imp fun _ _ _ h => callN_ok ha.mono hr h⟩
theorem EW.f {g : GA} {f : Rho → Option (List D)} {e : Expr} (h : EW X e (wOf g (fW f))) : EF X e (aOf g f) := h.imp fW_mono aOf_w
theorem NW.f {g : List D → Option (List D)} {f : Rho → Option (List D)} {e : Expr} (h : NW X e (wOf g (fW f))) : NF X e (aOf g f) := h.imp fW_mono aOf_w
end

def intsD : List D → Option (List Int)
  | [] => some []
  | .int i :: r => (intsD r).map fun ns => i :: ns
  | _ :: _ => none
def boolsD : List D → Option (List Bool)
  | [] => some []
  | .bool i :: r => (boolsD r).map fun ns => i :: ns
  | _ :: _ => none
theorem intsD_some : ∀ {ps : List D} {ns : List Int}, intsD ps = some ns → ps = ns.map PyData.int
  | [], _, h => by cases h; rfl
  | .int i :: r, _, h => by
    obtain ⟨ns, e, rfl⟩ := Option.map_eq_some_iff.mp (show (intsD r).map _ = _ from h)
    rw [intsD_some e]
    rfl
  | .none :: _, _, h => by cases h
  | .bool _ :: _, _, h => by cases h
  | .str _ :: _, _, h => by cases h
  | .list _ :: _, _, h => by cases h
  | .tuple _ :: _, _, h => by cases h
  | .dict _ :: _, _, h => by cases h
theorem boolsD_some : ∀ {ps : List D} {ns : List Bool}, boolsD ps = some ns → ps = ns.map PyData.bool
  | [], _, h => by cases h; rfl
  | .bool i :: r, _, h => by
    obtain ⟨ns, e, rfl⟩ := Option.map_eq_some_iff.mp (show (boolsD r).map _ = _ from h)
    rw [boolsD_some e]
    rfl
  | .none :: _, _, h => by cases h
  | .int _ :: _, _, h => by cases h
  | .str _ :: _, _, h => by cases h
  | .list _ :: _, _, h => by cases h
  | .tuple _ :: _, _, h => by cases h
  | .dict _ :: _, _, h => by cases h
@[simp] theorem intsD_map (ns : List Int) : intsD (ns.map PyData.int) = some ns := by
  induction ns with
  | nil => rfl
  | cons n ns ih => rw [List.map_cons]; show (intsD (ns.map PyData.int)).map _ = _; rw [ih]; rfl
@[simp] theorem boolsD_map (ns : List Bool) : boolsD (ns.map PyData.bool) = some ns := by
  induction ns with
  | nil => rfl
  | cons n ns ih => rw [List.map_cons]; show (boolsD (ns.map PyData.bool)).map _ = _; rw [ih]; rfl

section
variable {X : Cx}
theorem dp1 {K : Fg} {F : Hp} {vs : List V} {p : D} (h : DpAll K F vs [p]) : ∃ v, vs = [v] ∧ Dp K F v p := by
  obtain ⟨v, us, rfl, d, t⟩ := DpAll.uncons h
  rw [DpAll.unnil t]
  exact ⟨v, rfl, d⟩
theorem dp2 {K : Fg} {F : Hp} {vs : List V} {p q : D} (h : DpAll K F vs [p, q]) : ∃ v u, vs = [v, u] ∧ Dp K F v p ∧ Dp K F u q := by
  obtain ⟨v, us, rfl, d, t⟩ := DpAll.uncons h
  obtain ⟨u, rfl, d2⟩ := dp1 t
  exact ⟨v, u, rfl, d, d2⟩
theorem pk1 {K : Fg} {F : Hp} {σ : St} {ρ : Rho} {vs : List V} {p : D} (h : PkAll K F σ ρ vs [p]) : ∃ v, vs = [v] ∧ Pk K F σ ρ v p := by
  cases h with
  | cons a b => cases b; exact ⟨_, rfl, a⟩
/-- the items of what is read at once are frozen -/
theorem pk_items {K : Fg} {B : Bs} {F H : Hp} {σ : St} {ρ : Rho} {v : V} {p : D} {ps : List D} (R : Rs K B F H σ ρ) (h : Pk K F σ ρ v p) (e : items p = some ps) : ∃ a xs, v = .ref a ∧ DpAll K F xs ps ∧ ((p = .list ps ∧ SqL K H a xs) ∨ (p = .tuple ps ∧ SqT K F a xs)) := by
  rcases h with h | ⟨i, qs, h1, h2, rfl⟩
  · unfold items at e
    split at e
    · cases e
      obtain ⟨a, xs, rfl, s, r⟩ := Dp.inv_lst h
      exact ⟨a, xs, rfl, r, .inl ⟨rfl, sqL_same R.sub s⟩⟩
    · cases e
      obtain ⟨a, xs, rfl, s, r⟩ := Dp.inv_tup h
      exact ⟨a, xs, rfl, r, .inr ⟨rfl, s⟩⟩
    · cases e
  · cases e
    have q := R.at_ i _ h1
    rw [h2] at q
    cases q with
    | ol f h0 h3 r => exact ⟨_, _, rfl, r, .inl ⟨rfl, .inl (.inl h3)⟩⟩
theorem pk_tup {K : Fg} {F : Hp} {σ : St} {ρ : Rho} {v : V} {ps : List D} (h : Pk K F σ ρ v (.tuple ps)) : Dp K F v (.tuple ps) := by
  rcases h with h | ⟨_, _, _, _, z⟩
  · exact h
  · cases z
theorem sq_of {K : Fg} {F H : Hp} {a : Addr} {xs : List V} {p : D} {ps : List D} (s : Same F H) (h : (p = .list ps ∧ SqL K H a xs) ∨ (p = .tuple ps ∧ SqT K F a xs)) : SqL K H a xs ∨ SqT K H a xs := by
  rcases h with ⟨_, h⟩ | ⟨_, h⟩
  · exact .inl h
  · exact .inr (sqT_same s h)
def gLen : GA
  | [.list xs] => some (.int xs.length)
  | [.tuple xs] => some (.int xs.length)
  | [.str z] => if z.length ≤ sizeLine then some (.int z.length) else none
  | _ => none
theorem cg_len : CallG X (.builtin "len") gLen := ⟨_, CallR.or call_len_seq call_len_str, fun B F H σ ρ vs ps z Q R d e k => by
  unfold gLen at e
  split at e
  · cases e
    obtain ⟨v, rfl, h⟩ := pk1 d
    obtain ⟨a, xs, rfl, r, q⟩ := pk_items R h rfl
    exact .inl ⟨a, xs, rfl, sq_of R.sub q, by rw [r.length]; exact k F H _ R (Same.refl _) (.int _)⟩
  · cases e
    obtain ⟨v, rfl, h⟩ := pk1 d
    obtain ⟨a, xs, rfl, r, q⟩ := pk_items R h rfl
    exact .inl ⟨a, xs, rfl, sq_of R.sub q, by rw [r.length]; exact k F H _ R (Same.refl _) (.int _)⟩
  · split at e
    · rename_i hz
      cases e
      obtain ⟨v, rfl, h⟩ := dp1 (d.dp R)
      exact .inr ⟨_, by rw [Dp.inv_str h], hz, k F H _ R (Same.refl _) (.int _)⟩
    · cases e
  · cases e⟩
def gTup : GA
  | [.list xs] => some (.tuple xs)
  | [.tuple xs] => some (.tuple xs)
  | _ => none
theorem cg_tuple : CallG X (.type "tuple") gTup := ⟨_, call_tuple_of, fun B F H σ ρ vs ps z Q R d e k => by
  unfold gTup at e
  split at e
  · cases e
    obtain ⟨v, rfl, h⟩ := pk1 d
    obtain ⟨a, xs, rfl, r, q⟩ := pk_items R h rfl
    rcases q with ⟨_, q⟩ | ⟨q, _⟩
    · refine ⟨a, xs, rfl, .inl ⟨q, fun l hl => ?_⟩⟩
      have n := R.sub.free hl
      exact k (upd F l (.tup xs)) _ _ (R.grow hl) (same_upd n) (.tup upd_same (r.same (same_upd n)))
    · cases q
  · cases e
    obtain ⟨v, rfl, h⟩ := pk1 d
    have d := pk_tup h
    obtain ⟨a, xs, rfl, q, r⟩ := Dp.inv_tup d
    exact ⟨a, xs, rfl, .inr ⟨sqT_same R.sub q, k F H _ R (Same.refl _) d⟩⟩
  · cases e⟩
def gLst : List D → Option (List D)
  | [p] => items p
  | _ => none
theorem cn_list : CallN X (.type "list") gLst := ⟨_, call_list_of, fun B F H σ ρ vs ps zs Q R d e k => by
  unfold gLst at e
  split at e
  · obtain ⟨v, rfl, h⟩ := pk1 d
    obtain ⟨a, xs, rfl, r, q⟩ := pk_items R h e
    exact ⟨a, xs, rfl, sq_of R.sub q, fun l hl => k F H l xs R (Same.refl _) hl r⟩
  · cases e⟩
def gAny : GA
  | [.list xs] => (boolsD xs).map fun bs => .bool (bs.any id)
  | _ => none
def gAll : GA
  | [.list xs] => (boolsD xs).map fun bs => .bool (bs.all id)
  | _ => none
theorem cg_any (hc : X.calm = true) : CallG X (.builtin "any") gAny := ⟨_, cr_any hc, fun B F H σ ρ vs ps z Q R d e k => by
  unfold gAny at e
  split at e
  · obtain ⟨bs, e1, rfl⟩ := Option.map_eq_some_iff.mp e
    obtain ⟨v, rfl, h⟩ := dp1 (d.dp R)
    rw [boolsD_some e1] at h
    obtain ⟨a, xs, rfl, s, r⟩ := Dp.inv_lst h
    exact ⟨a, bs, rfl, by rw [dpAll_bls bs r] at s; exact s, k F H _ R (Same.refl _) (.bl _)⟩
  · cases e⟩
theorem cg_all (hc : X.calm = true) : CallG X (.builtin "all") gAll := ⟨_, cr_all hc, fun B F H σ ρ vs ps z Q R d e k => by
  unfold gAll at e
  split at e
  · obtain ⟨bs, e1, rfl⟩ := Option.map_eq_some_iff.mp e
    obtain ⟨v, rfl, h⟩ := dp1 (d.dp R)
    rw [boolsD_some e1] at h
    obtain ⟨a, xs, rfl, s, r⟩ := Dp.inv_lst h
    exact ⟨a, bs, rfl, by rw [dpAll_bls bs r] at s; exact s, k F H _ R (Same.refl _) (.bl _)⟩
  · cases e⟩
theorem tyL {K : Fg} {H : Hp} {a : Addr} {xs : List V} (h : SqL K H a xs) : TyX K H (.ref a) (.type "list") := by
  rcases h with (h | ⟨o, h⟩) | ⟨o, its, n, h, hc, _⟩
  · exact .base (.lst h)
  · exact .base (.frz h)
  · exact .kList h hc
theorem tyT {K : Fg} {H : Hp} {a : Addr} {xs : List V} (h : SqT K H a xs) : TyX K H (.ref a) (.type "tuple") := by
  rcases h with (h | ⟨o, h⟩) | ⟨o, its, n, h, hc, _⟩
  · exact .base (.tup h)
  · exact .fTuple h
  · exact .kTuple h hc
def tyD : List (D × D) → String
  | [(.int _, .dict [(.none, .none)]), _] => "tuple"
  | _ => "dict"
theorem tyD_or (kvs : List (D × D)) : tyD kvs = "tuple" ∨ tyD kvs = "dict" := by
  unfold tyD
  split
  · exact .inl rfl
  · exact .inr rfl
def tyN : D → String
  | .none => "NoneType"
  | .bool _ => "bool"
  | .int _ => "int"
  | .str _ => "str"
  | .list _ => "list"
  | .tuple _ => "tuple"
  | .dict kvs => tyD kvs
/-- what isinstance has no rule for: functions, dicts whose keys are tuples -/
def noIs : D → Bool
  | .dict ((.none, .tuple _) :: _) => true
  | .dict ((.none, .list _) :: _) => true
  | .dict ((.none, .int _) :: _) => true
  | .dict ((.tuple _, _) :: _) => true
  | _ => false
theorem ty_of {K : Fg} {H : Hp} {v : V} {p : D} (h : Dp K H v p) (nf : noIs p = false) : TyX K H v (.type (tyN p)) := by
  cases h with
  | non => exact .base .non
  | bl b => exact .base (.bl b)
  | int b => exact .base (.int b)
  | str b => exact .base (.str b)
  | lst s _ => exact tyL s
  | tup s _ => exact tyT (.inl (.inl s))
  | tupK a b c d f _ _ => exact tyT (.inr ⟨_, _, _, a, b, c, d, f⟩)
  | tupZ _ s _ => exact tyT (.inl (.inr ⟨_, s⟩))
  | kt _ _ => cases nf
  | adr _ => cases nf
  | exc _ _ => cases nf
  | dk s r =>
    cases r with
    | nil => exact .fDict s
    | cons d r =>
      rename_i k _ p _ kvs
      have : tyN (.dict ((.int k, p) :: kvs)) = "dict" := by
        show tyD _ = _
        unfold tyD
        split
        · rename_i h
          cases h
          cases d with
          | dk _ r => cases r
          | dt _ r => cases r
        · rfl
      rw [this]
      exact .fDict s
  | dt s r =>
    cases r with
    | cons d r => cases nf
  | q a b c d f => exact tyT (.inr ⟨_, _, _, a, b, c, d, f⟩)
  | fn _ _ => cases nf
  | nd _ _ _ => cases nf
/-- isinstance(x, T), T a built-in class's name -/
def isiB (t T : String) : Bool := t == T || (t == "bool" && T == "int")
def gIsi (T : String) : D → D := fun p => .bool (isiB (tyN p) T)
theorem kit_isi (T : String) (h : T = "int" ∨ T = "bool" ∨ T = "str" ∨ T = "list" ∨ T = "tuple") (p : D) : kitB (tyN p) T = some (isiB (tyN p) T) := by
  have key : tyN p ∈ ["NoneType", "bool", "int", "str", "list", "tuple", "dict"] := by
    cases p with
    | dict kvs => rcases tyD_or kvs with e | e <;> (show tyD kvs ∈ _; rw [e]; decide)
    | _ => simp [tyN]
  generalize tyN p = t at key
  have all : (["NoneType", "bool", "int", "str", "list", "tuple", "dict"].all fun t => ["int", "bool", "str", "list", "tuple"].all fun T => kitB t T == some (isiB t T)) = true := by decide +kernel
  have hT : T ∈ ["int", "bool", "str", "list", "tuple"] := by rcases h with rfl | rfl | rfl | rfl | rfl <;> decide
  exact eq_of_beq (List.all_eq_true.mp (List.all_eq_true.mp all t key) T hT)
end

section
variable {X : Cx}
def rCatG (K : Fg) : R2 := fun x y H Q => ∃ l b xs zs, x = .ref l ∧ y = .ref b ∧ SqL K H l xs ∧ SqL K H b zs ∧ xs.length + zs.length ≤ sizeLine ∧ ∀ p, H p = none → Q (.ref p) (upd H p (.lst (xs ++ zs)))
theorem or_catL : OpR X (binaryOp .Add) (rCatG X.K) := by
  intro pins s σ H x y v u Q I rx ry h
  obtain ⟨l, b, xs, zs, rfl, rfl, hH, hB, hz, q⟩ := h
  cases rx
  cases ry
  obtain ⟨its, r, ⟨o1, n1, e1, c1, d1, f1⟩, _⟩ := I.list hH
  obtain ⟨its2, r2, ⟨o2, n2, e2, c2, d2, f2⟩, _⟩ := I.list hB
  obtain ⟨cls, dd, data, sl⟩ := o1
  obtain ⟨cls2, dd2, data2, sl2⟩ := o2
  simp only at c1 d1 f1 c2 d2 f2
  subst c1 d1 f1 c2 d2 f2
  have hl := r.length
  have hl2 := r2.length
  have ea : its.toArray ++ its2.toArray = (its ++ its2).toArray := by simp
  refine concat_meets ⟨_, e1, rfl⟩ ⟨_, e2, rfl⟩ noFill_list_add seq_list_add PySem.F.slot_list_add PySem.F.entry_list_add (PySem.F.args_list_add_2 _ _) (list_addW l b its.toArray its2.toArray n1 n2 _ _ sl sl2 (by simp only [List.size_toArray]; omega)) ⟨e1, e2, ?_⟩
  rw [ea]
  exact ⟨.ref _, _, I.lnew (t' := s.toks) (r.append r2) (by rw [List.length_append]; omega), rfl, q _ I.fresh⟩
end
end L2.P

namespace L2.P
open PySem PySem.Spec PyProof.Rows L2

def Bs.pin (B : Bs) (a : Addr) (o : HO) : Bs := { B with Ha := upd B.Ha a o }
section
variable {K : Fg} {B : Bs} {F F' H H' : Hp} {σ σ' : St} {ρ ρ' : Rho} {a : Addr} {o : HO}
/-- from a new object on: it is pinned -/
theorem Rs.pin (R : Rs K B F H σ ρ) (h : H a = none) (o : HO) : Rs K (B.pin a o) F (upd H a o) σ ρ where
  sub := (R.lay h).sub
  ext := R.ext
  new := fun b h1 h2 => by
    have ne : b ≠ a := fun e => by subst e; exact h2 (R.sub.free h)
    show Fz ((upd B.Ha a o) b)
    rw [upd_ne ne]
    exact R.new b h1 h2
  old := fun b x hb e => by
    by_cases q : b = a
    · subst q
      have e' : (upd B.Ha b o) b = some x := e
      rw [upd_same] at e'
      rw [upd_same]; exact e'
    · have e' : (upd B.Ha a o) b = some x := e
      rw [upd_ne q] at e'
      rw [upd_ne q]; exact R.old b x hb e'
  hrow := (R.lay h).hrow
  hr2 := fun r h => by
    show (upd B.Ha a o) r ≠ none
    by_cases e : r = a
    · subst e; rw [upd_same]; simp
    · rw [upd_ne e]; exact R.hr2 r h
  len := R.len
  at_ := fun i s hs => by
    have q := (R.lay h (o := o)).at_ i s hs
    have q0 := R.at_ i s hs
    generalize σ[i]? = x at q q0
    cases q with
    | no => exact .no
    | v r => exact .v r
    | @ol c xs ps f h0 h1 r =>
      refine .ol f ?_ h1 r
      cases q0 with
      | ol _ _ g _ =>
        show (upd B.Ha a o) c = none
        rw [upd_ne (ne_of_none g h)]; exact h0
    | @row c _ f h0 h1 =>
      refine .row f ?_ h1
      cases q0 with
      | row _ _ g =>
        obtain ⟨u, hu⟩ := g.there
        rcases h0 with h0 | h0
        · refine .inl ?_
          show (upd B.Ha a o) c = none
          rw [upd_ne (ne_of_none hu h)]; exact h0
        · exact .inr h0
    | @od t c kvs f h0 h1 =>
      refine .od f ?_ h1
      cases q0 with
      | od _ _ g =>
        obtain ⟨u, hu, _⟩ := g.there
        show (upd B.Ha a o) c = none
        rw [upd_ne (ne_of_none hu h)]; exact h0
  apart := R.apart
  tb := (R.lay h).tb
  tbh := fun p hp => by
    obtain ⟨ps, q⟩ := R.tbh p hp
    exact ⟨ps, by show (upd B.Ha a o) p.1 = _; rw [upd_ne (R.tb.ne0 h p hp)]; exact q⟩
theorem Rs.pin_ne (R : Rs K (B.pin a o) F H σ ρ) (nb : ¬ isTE o) : ∀ p ∈ tbT K, p.1 ≠ a := fun p hp z => by
  obtain ⟨ps, q⟩ := R.tbh p hp
  have e : (B.pin a o).Ha a = some o := upd_same
  rw [z, e] at q
  exact nb (.inl ⟨ps, Option.some.inj q⟩)
theorem Rs.pinned (R : Rs K (B.pin a o) F H σ ρ) (hr : B.r ≠ some a) (hF : B.Fa a = none) (nt : ∀ xs, o ≠ HO.tup xs := by intro _ h; cases h) (nb : ¬ isTE o := by exact not_te rfl) : H a = some o ∧ F a = none := by
  have e : (B.pin a o).Ha a = some o := upd_same
  refine ⟨R.old a o ⟨fun z => hr z.symm, R.pin_ne nb⟩ e, ?_⟩
  cases q : F a with
  | none => rfl
  | some u =>
    have := R.new a hF (by rw [q]; simp)
    rw [e] at this
    rcases this with z | ⟨xs, z⟩
    · cases z
    · exact absurd (Option.some.inj z) (nt xs)
/-- the pin is taken off -/
theorem Rs.unpin (R : Rs K (B.pin a o) F H σ ρ) (hr : B.r ≠ some a) (hF : B.Fa a = none) (hH : B.Ha a = none) (nb : ¬ isTE o := by exact not_te rfl) : Rs K B F H σ ρ where
  tb := R.tb
  tbh := fun p hp => by
    obtain ⟨ps, q⟩ := R.tbh p hp
    have e : (upd B.Ha a o) p.1 = some (.tbl ps) := q
    rw [upd_ne (R.pin_ne nb p hp)] at e
    exact ⟨ps, e⟩
  sub := R.sub
  ext := R.ext
  new := fun b h1 h2 => by
    have q : Fz ((upd B.Ha a o) b) := R.new b h1 h2
    by_cases e : b = a
    · subst e; exact .inl hH
    · rw [upd_ne e] at q; exact q
  old := fun b x hb e => R.old b x hb (by
    show (upd B.Ha a o) b = some x
    rw [upd_ne (ne_of_none e hH)]; exact e)
  hrow := R.hrow
  hr2 := fun r h q => by
    have z := R.hr2 r h
    have ne : r ≠ a := fun e => hr (by rw [h, e])
    exact z (by show (upd B.Ha a o) r = none; rw [upd_ne ne]; exact q)
  len := R.len
  at_ := fun i s hs => by
    have q := R.at_ i s hs
    generalize σ[i]? = x at q
    cases q with
    | no => exact .no
    | v r => exact .v r
    | @ol c xs ps f h0 h1 r =>
      refine .ol f ?_ h1 r
      have z : (upd B.Ha a o) c = none := h0
      by_cases e : c = a
      · subst e; exact hH
      · rw [upd_ne e] at z; exact z
    | @row c _ f h0 h1 =>
      refine .row f ?_ h1
      rcases h0 with h0 | h0
      · have z : (upd B.Ha a o) c = none := h0
        refine .inl ?_
        by_cases e : c = a
        · subst e; exact hH
        · rw [upd_ne e] at z; exact z
      · exact .inr h0
    | @od t c kvs f h0 h1 =>
      refine .od f ?_ h1
      have z : (upd B.Ha a o) c = none := h0
      by_cases e : c = a
      · subst e; exact hH
      · rw [upd_ne e] at z; exact z
  apart := R.apart
/-- what is pinned is written -/
theorem Rs.repin (R : Rs K (B.pin a o) F H σ ρ) (hr : B.r ≠ some a) (hF : B.Fa a = none) (u : HO) (nt : ∀ xs, o ≠ HO.tup xs := by intro _ h; cases h) (nb : ¬ isTE o := by exact not_te rfl) : Rs K (B.pin a u) F (upd H a u) σ ρ := by
  obtain ⟨p1, p2⟩ := R.pinned hr hF nt nb
  refine ⟨same_upd2 R.sub p2, R.ext, fun b h1 h2 => ?_, fun b x hb e => ?_, fun r h => ?_, fun r h => ?_, R.len, fun i s hs => ?_, R.apart, R.tb.chg p1 nb, fun p hp => ?_⟩
  rotate_right
  · obtain ⟨ps, q⟩ := R.tbh p hp
    have e : (upd B.Ha a o) p.1 = some (.tbl ps) := q
    rw [upd_ne (R.pin_ne nb p hp)] at e
    exact ⟨ps, by show (upd B.Ha a u) p.1 = _; rw [upd_ne (R.pin_ne nb p hp)]; exact e⟩
  · have q : Fz ((upd B.Ha a o) b) := R.new b h1 h2
    have ne : b ≠ a := fun e => by subst e; exact h2 p2
    rw [upd_ne ne] at q
    show Fz ((upd B.Ha a u) b)
    rw [upd_ne ne]; exact q
  · have e' : (upd B.Ha a u) b = some x := e
    by_cases q : b = a
    · subst q; rw [upd_same] at e' ⊢; exact e'
    · rw [upd_ne q] at e' ⊢
      exact R.old b x hb (by show (upd B.Ha a o) b = some x; rw [upd_ne q]; exact e')
  · obtain ⟨h1, h2⟩ := R.hrow r h
    have ne : r ≠ a := fun e => by subst e; exact hr h
    exact ⟨h1, h2.mono (Same.refl _) fun x e => by rw [upd_ne ne]; exact e⟩
  · show (upd B.Ha a u) r ≠ none
    have ne : r ≠ a := fun e => by subst e; exact hr h
    have z : (upd B.Ha a o) r ≠ none := R.hr2 r h
    rw [upd_ne ne] at z ⊢; exact z
  · have q := R.at_ i s hs
    generalize σ[i]? = x at q
    have far : ∀ c, (B.pin a o).Ha c = none ∨ B.r = some c → c ≠ a := fun c h e => by
      subst e
      rcases h with h | h
      · have z : (upd B.Ha c o) c = none := h
        rw [upd_same] at z; cases z
      · exact hr h
    cases q with
    | no => exact .no
    | v r => exact .v r
    | @ol c xs ps f h0 h1 r =>
      have ne := far c (.inl h0)
      have z : (upd B.Ha a o) c = none := h0
      rw [upd_ne ne] at z
      exact .ol f (by show (upd B.Ha a u) c = none; rw [upd_ne ne]; exact z) (by rw [upd_ne ne]; exact h1) r
    | @row c _ f h0 h1 =>
      have ne := far c (h0.imp id And.left)
      refine .row f ?_ (h1.mono (Same.refl _) fun x e => by rw [upd_ne ne]; exact e)
      rcases h0 with h0 | h0
      · have z : (upd B.Ha a o) c = none := h0
        rw [upd_ne ne] at z
        exact .inl (by show (upd B.Ha a u) c = none; rw [upd_ne ne]; exact z)
      · exact .inr h0
    | @od t c kvs f h0 h1 =>
      have ne := far c (.inl h0)
      have z : (upd B.Ha a o) c = none := h0
      rw [upd_ne ne] at z
      exact .od f (by show (upd B.Ha a u) c = none; rw [upd_ne ne]; exact z) (h1.mono (Same.refl _) fun x e => by rw [upd_ne ne]; exact e)
end

def wipeR (ρ : Rho) : List Nat → Rho
  | [] => ρ
  | i :: is => (wipeR ρ is).set i .no
theorem wipeR_length (ρ : Rho) : ∀ is : List Nat, (wipeR ρ is).length = ρ.length
  | [] => rfl
  | i :: is => by unfold wipeR; rw [List.length_set, wipeR_length ρ is]
theorem wipeR_out {ρ : Rho} {i : Nat} : ∀ {is : List Nat}, i ∉ is → (wipeR ρ is)[i]? = ρ[i]?
  | [], _ => rfl
  | v :: vs, h => by
    have h1 : v ≠ i := fun e => h (by rw [e]; exact List.mem_cons_self)
    have h2 : i ∉ vs := fun m => h (List.mem_cons_of_mem _ m)
    unfold wipeR
    rw [List.getElem?_set_ne h1]
    exact wipeR_out h2
theorem wipeR_in {ρ : Rho} {i : Nat} {s : Sl} : ∀ {is : List Nat}, i ∈ is → (wipeR ρ is)[i]? = some s → s = .no
  | v :: vs, h, e => by
    unfold wipeR at e
    by_cases q : v = i
    · subst q
      by_cases hl : v < (wipeR ρ vs).length
      · rw [List.getElem?_set_self hl] at e; cases e; rfl
      · rw [List.getElem?_eq_none (by simpa using hl)] at e; cases e
    · rw [List.getElem?_set_ne q] at e
      rcases List.mem_cons.mp h with z | z
      · exact absurd z.symm q
      · exact wipeR_in z e
/-- no slot of is owns anything -/
def noOwn (ρ : Rho) (is : List Nat) : Bool := is.all fun i => match ρ[i]? with
  | some s => !s.owns
  | none => true
section
variable {K : Fg} {B : Bs} {F F' H H' : Hp} {σ σ' σ2 : St} {ρ ρ2 : Rho} {is : List Nat}
theorem Rs.wipe (R : Rs K B F H σ ρ) (is : List Nat) : Rs K B F H (L2.wipe σ is) (wipeR ρ is) where
  sub := R.sub
  ext := R.ext
  new := R.new
  old := R.old
  hrow := R.hrow
  hr2 := R.hr2
  tb := R.tb
  tbh := R.tbh
  len := by rw [wipe_length, wipeR_length]; exact R.len
  at_ := fun i s hs => by
    by_cases h : i ∈ is
    · rw [wipeR_in h hs]; exact .no
    · rw [wipeR_out h] at hs
      rw [wipe_out h]; exact R.at_ i s hs
  apart := fun i j a s t hij h1 h2 o1 o2 e1 e2 => by
    have n1 : i ∉ is := fun h => by rw [wipeR_in h h1] at o1; cases o1
    have n2 : j ∉ is := fun h => by rw [wipeR_in h h2] at o2; cases o2
    rw [wipeR_out n1] at h1
    rw [wipeR_out n2] at h2
    rw [wipe_out n1] at e1
    rw [wipe_out n2] at e2
    exact R.apart i j a s t hij h1 h2 o1 o2 e1 e2
theorem noOwn_at (h : noOwn ρ is = true) {i : Nat} {s : Sl} (hi : i ∈ is) (e : ρ[i]? = some s) : s.owns = false := by
  have q := List.all_eq_true.mp h i hi
  rw [e] at q
  simpa using q
/-- behind a block: what the block's own slots held is what they held ahead of it -/
theorem Rs.back (R : Rs K B F H σ ρ) (R2 : Rs K B F' H' σ2 ρ2) (e : Same F F') (no : noOwn ρ is = true) (hσ : ∀ j, j ∉ is → σ2[j]? = σ[j]?) (hρ : ∀ j, j ∉ is → ρ2[j]? = ρ[j]?) : Rs K B F' H' σ ρ where
  sub := R2.sub
  ext := R2.ext
  new := R2.new
  old := R2.old
  hrow := R2.hrow
  hr2 := R2.hr2
  tb := R2.tb
  tbh := R2.tbh
  len := R.len
  at_ := fun i s hs => by
    by_cases h : i ∈ is
    · have o := noOwn_at no h hs
      have q := R.at_ i s hs
      generalize σ[i]? = x at q
      cases q with
      | no => exact .no
      | v r => exact .v (r.same e)
      | ol f h0 h1 r => cases o
      | row f h0 h1 => cases o
      | od f h0 h1 => cases o
    · rw [← hσ i h]
      exact R2.at_ i s (by rw [hρ i h]; exact hs)
  apart := fun i j a s t hij h1 h2 o1 o2 e1 e2 => by
    have n1 : i ∉ is := fun h => by rw [noOwn_at no h h1] at o1; cases o1
    have n2 : j ∉ is := fun h => by rw [noOwn_at no h h2] at o2; cases o2
    exact R2.apart i j a s t hij (by rw [hρ i n1]; exact h1) (by rw [hρ j n2]; exact h2) o1 o2 (by rw [hσ i n1]; exact e1) (by rw [hσ j n2]; exact e2)
theorem wipe_eq (hl : σ2.length = σ.length) (h : ∀ j, j ∉ is → σ2[j]? = σ[j]?) : L2.wipe σ2 is = L2.wipe σ is := by
  apply List.ext_getElem?
  intro j
  by_cases hj : j ∈ is
  · have q : ∀ (τ : St) (vs : List Nat), j ∈ vs → (L2.wipe τ vs)[j]? = if j < τ.length then some none else none := fun τ vs => by
      induction vs with
      | nil => intro h; cases h
      | cons v vs ih =>
        intro hm
        unfold L2.wipe
        by_cases e : v = j
        · subst e
          rw [List.getElem?_set]
          simp [wipe_length]
        · rw [List.getElem?_set_ne e]
          rcases List.mem_cons.mp hm with z | z
          · exact absurd z.symm e
          · exact ih z
    rw [q σ2 is hj, q σ is hj, hl]
  · rw [wipe_out hj, wipe_out hj]; exact h j hj
end

abbrev Tg := D → Rho → Option Rho
/-- a target that stores into the slots is alone -/
def tG (K : Fg) (g : Tg) (is : List Nat) : TG := fun x σ H Q => ∃ B F ρ p ρ', Rs K B F H σ ρ ∧ Dp K F x p ∧ g p ρ = some ρ' ∧
  ∀ σ', Rs K B F H σ' ρ' → σ'.length = σ.length → (∀ j, j ∉ is → σ'[j]? = σ[j]?) → (∀ j, j ∉ is → ρ'[j]? = ρ[j]?) → Q σ' H
def GW (X : Cx) (tg : Expr) (g : Tg) (is : List Nat) : Prop := PG X tg (tG X.K g is)
def tgN (i : Nat) : Tg := fun p ρ => some (ρ.set i (.v p))
def tg2 (i j : Nat) : Tg := fun p ρ => match p with
  | .tuple [a, b] => some ((ρ.set i (.v a)).set j (.v b))
  | _ => none
section
variable {X : Cx} {pos : Pos}
theorem PG.imp {e : Expr} {t t' : TG} (h : PG X e t) (k : ∀ x σ H Q, t' x σ H Q → t x σ H Q) : PG X e t' := ⟨fun pins s σ H v u Q I r hw => h.run pins s σ H v u Q I r (k _ _ _ _ hw)⟩
theorem gw_name {i : Nat} {x : Str} (hN : X.N.Nodup) (hi : X.N[i]? = some x) (hx : Loc X.env.scope x) (hf : X.fn x = true ∨ X.env.scope.names.lookup x = some .local := by first | exact .inl rfl | exact .inr rfl | assumption) : GW X (.Name x pos) (tgN i) [i] :=
  PG.imp (pg_name hN hi hx hf) fun x σ H Q ⟨B, F, ρ, p, ρ', R, d, e, q⟩ => by
    cases e
    exact q _ (R.put (.v d) rfl) (List.length_set ..) (fun j hj => List.getElem?_set_ne (fun z => hj (by simp [z]))) fun j hj => List.getElem?_set_ne (fun z => hj (by simp [z]))
theorem gw_two {i j : Nat} {x y : Str} {p1 p2 : Pos} {k : Nat} (hc : X.calm = true) (hN : X.N.Nodup) (hi : X.N[i]? = some x) (hx : Loc X.env.scope x) (hj : X.N[j]? = some y) (hy : Loc X.env.scope y)
    (hf : X.fn x = true ∨ X.env.scope.names.lookup x = some .local := by first | exact .inl rfl | exact .inr rfl | assumption) (hf2 : X.fn y = true ∨ X.env.scope.names.lookup y = some .local := by first | exact .inl rfl | exact .inr rfl | assumption) : GW X (.Tuple [.Name x p1, .Name y p2] k pos) (tg2 i j) [i, j] :=
  PG.imp (pg_tup (n := 2) hc (pgs_cons (pg_name hN hi hx hf) (pgs_cons (pg_name hN hj hy hf2) pgs_nil))) fun v σ H Q ⟨B, F, ρ, p, ρ', R, d, e, q⟩ => by
    unfold tg2 at e
    split at e
    · cases e
      obtain ⟨a, xs, rfl, s, r⟩ := Dp.inv_tup d
      obtain ⟨u, us, rfl, d1, t⟩ := DpAll.uncons r
      obtain ⟨w, rfl, d2⟩ := dp1 t
      refine ⟨a, _, rfl, sqT_same R.sub s, rfl, u, _, rfl, w, _, rfl, rfl, ?_⟩
      refine q _ ((R.put (.v d1) rfl).put (.v d2) rfl) (by simp) (fun l hl => ?_) fun l hl => ?_
      · rw [List.getElem?_set_ne (fun z => hl (by simp [z])), List.getElem?_set_ne (fun z => hl (by simp [z]))]
      · rw [List.getElem?_set_ne (fun z => hl (by simp [z])), List.getElem?_set_ne (fun z => hl (by simp [z]))]
    · cases e
end

/-- what a turn brings: a frozen item, or a new pair of frozen items -/
def Yl (K : Fg) (F H H' : Hp) (x : V) (p : D) : Prop := (H' = H ∧ Dp K F x p) ∨
  ∃ T a b q1 q2, x = .ref T ∧ H T = none ∧ H' = upd H T (.tup [a, b]) ∧ p = .tuple [q1, q2] ∧ Dp K F a q1 ∧ Dp K F b q2
structure Wlk (K : Fg) (F : Hp) (J : It) (ps : List D) : Prop where
  go : ∀ i H, i < ps.length → Same F H → J.go i H
  stop : ∀ H, Same F H → J.stop ps.length H
  yld : ∀ i H x H', i < ps.length → Same F H → J.yld i H x H' → ∃ p, ps[i]? = some p ∧ Yl K F H H' x p
theorem yl_step {K : Fg} {B : Bs} {F F0 H H' : Hp} {σ : St} {ρ : Rho} {x : V} {p : D} (R : Rs K B F H σ ρ) (e : Same F0 F) (y : Yl K F0 H H' x p) : ∃ F1, Rs K B F1 H' σ ρ ∧ Same F F1 ∧ Dp K F1 x p := by
  rcases y with ⟨rfl, d⟩ | ⟨T, a, b, q1, q2, rfl, n, rfl, rfl, d1, d2⟩
  · exact ⟨F, R, Same.refl _, d.same e⟩
  · have n' := R.sub.free n
    exact ⟨_, R.grow n, same_upd n', .tup upd_same (.cons ((d1.same e).same (same_upd n')) (.cons ((d2.same e).same (same_upd n')) .nil))⟩
def tI (K : Fg) (T : TL) : TI := fun σ H R => ∃ B F ρ, Rs K B F H σ ρ ∧ T ρ (fun ps => ∀ F' H' J, Rs K B F' H' σ ρ → Same F F' → ps.length ≤ sizeLine → Wlk K F' J ps → R J H')
structure IW (X : Cx) (tg iter : Expr) (T : TL) : Prop where
  mono : ∀ ρ K K', (∀ p, K p → K' p) → T ρ K → T ρ K'
  pi : PI X tg iter (tI X.K T)
abbrev IF (X : Cx) (tg iter : Expr) (f : Rho → Option (List D)) : Prop := IW X tg iter (fW f)
theorem PI.imp {X : Cx} {tg e : Expr} {t t' : TI} (h : PI X tg e t) (k : ∀ σ H R, t' σ H R → t σ H R) : PI X tg e t' := ⟨fun pins s σ H Q I hw => h.run pins s σ H Q I (k _ _ _ hw)⟩
theorem IW.imp {X : Cx} {tg e : Expr} {T T' : TL} (h : IW X tg e T) (m : ∀ ρ K K', (∀ p, K p → K' p) → T' ρ K → T' ρ K') (k : ∀ ρ K, T' ρ K → T ρ K) : IW X tg e T' := ⟨m, PI.imp h.pi fun _ _ _ ⟨B, F, ρ, R, q⟩ => ⟨B, F, ρ, R, k _ _ q⟩⟩
section
variable {X : Cx} {tg : Expr}
def iSeq (K : Fg) (tl : TE) : TI := fun σ H R => tl σ H fun x H1 => ∃ a, x = .ref a ∧ (((∃ xs, SqL K H1 a xs) ∧ R (Itl K a) H1) ∨ ((∃ xs, SqT K H1 a xs) ∧ R (Itt K a) H1))
theorem pi_seq {l : Expr} {tl : TE} (hl : PE X l tl) : PI X tg l (iSeq X.K tl) := by
  refine ⟨fun pins s σ H R I h => ?_⟩
  refine thn (hl.run pins s σ H _ I h) fun v s1 ⟨x, H1, I1, r1, q1⟩ => ?_
  obtain ⟨a, e, q⟩ := q1
  subst e
  cases r1
  rcases q with ⟨⟨xs, hq⟩, q⟩ | ⟨⟨xs, hq⟩, q⟩
  · obtain ⟨its, rv, p, hz⟩ := I1.list hq
    refine wpAny_pyIter_list p.isList ?_
    refine ⟨s1.heap.objs.size, [s1.heap.objs.size], _, _, H1, rfl, I1.kept (t' := s1.toks) fun b o e => Heap.get?_push_of_some _ e, turn_list a _, ⟨_, Heap.get?_push_size _ rfl, rfl, rfl⟩, fun b hb => ?_, q⟩
    have e : b = s1.heap.objs.size := by simpa using hb
    subst e
    exact I1.fpOk (Nat.le_refl _) (I1.hok.fresh (Nat.le_refl _))
  · obtain ⟨its, rv, p, hz⟩ := I1.tuple hq
    refine wpAny_pyIter_tuple (show s1.heap.IsTuple a its.toArray from p) ?_
    refine ⟨s1.heap.objs.size, [s1.heap.objs.size], _, _, H1, rfl, I1.kept (t' := s1.toks) fun b o e => Heap.get?_push_of_some _ e, turn_tuple a _, ⟨_, Heap.get?_push_size _ rfl, rfl, rfl⟩, fun b hb => ?_, q⟩
    have e : b = s1.heap.objs.size := by simpa using hb
    subst e
    exact I1.fpOk (Nat.le_refl _) (I1.hok.fresh (Nat.le_refl _))
theorem wlk_list {K : Fg} {F : Hp} {a : Addr} {xs : List V} {ps : List D} (s : SqL K F a xs) (d : DpAll K F xs ps) : Wlk K F (Itl K a) ps where
  go := fun i H hi e => by
    have hl := d.length
    exact ⟨xs, xs[i], sqL_same e s, by simp⟩
  stop := fun H e => ⟨xs, sqL_same e s, by rw [d.length]; exact Nat.le_refl _⟩
  yld := fun i H x H' hi e ⟨y1, y2⟩ => by
    obtain ⟨p, hp, dp⟩ := d.getV (y2 xs (sqL_same e s))
    exact ⟨p, hp, .inl ⟨y1, dp⟩⟩
theorem wlk_tup {K : Fg} {F : Hp} {a : Addr} {xs : List V} {ps : List D} (s : SqT K F a xs) (d : DpAll K F xs ps) : Wlk K F (Itt K a) ps where
  go := fun i H hi e => by
    have hl := d.length
    exact ⟨xs, xs[i], sqT_same e s, by simp⟩
  stop := fun H e => ⟨xs, sqT_same e s, by rw [d.length]; exact Nat.le_refl _⟩
  yld := fun i H x H' hi e ⟨y1, y2⟩ => by
    obtain ⟨p, hp, dp⟩ := d.getV (y2 xs (sqT_same e s))
    exact ⟨p, hp, .inl ⟨y1, dp⟩⟩
def wItems (T : TW) : TL := fun ρ K => T ρ fun p => ∃ ps, items p = some ps ∧ K ps
def fItems (f : Rho → Option D) : Rho → Option (List D) := fun ρ => (f ρ).bind items
theorem iw_seq {e : Expr} {T : TW} (h : EW X e T) : IW X tg e (wItems T) :=
  ⟨fun ρ K K' i q => h.mono _ _ _ (fun p ⟨ps, e, k⟩ => ⟨ps, e, i ps k⟩) q, PI.imp (pi_seq (PE.lens h.pe)) fun σ H R ⟨B, F, ρ, R0, q⟩ => ⟨B, F, ρ, R0, h.mono _ _ _ (fun p ⟨ps, e, k⟩ F' H' v R' s' d hL => by
    unfold items at e
    split at e
    · cases e
      obtain ⟨a, xs, rfl, s, r⟩ := Dp.inv_lst d
      refine ⟨a, rfl, .inl ⟨⟨xs, sqL_same R'.sub s⟩, k F' H' _ R' s' ?_ (wlk_list s r)⟩⟩
      rw [← r.length]
      exact hL a xs (.inl (sqL_same R'.sub s))
    · cases e
      obtain ⟨a, xs, rfl, s, r⟩ := Dp.inv_tup d
      refine ⟨a, rfl, .inr ⟨⟨xs, sqT_same R'.sub s⟩, k F' H' _ R' s' ?_ (wlk_tup s r)⟩⟩
      rw [← r.length]
      exact hL a xs (.inr (sqT_same R'.sub s))
    · cases e) q⟩⟩
theorem if_seq {e : Expr} {f : Rho → Option D} (h : EF X e f) : IF X tg e (fItems f) := (iw_seq h).imp fW_mono fun ρ K ⟨ps, e, k⟩ => by
  obtain ⟨p, e1, e2⟩ := Option.bind_eq_some_iff.mp e
  exact ⟨p, e1, ps, e2, k⟩
/-- lo, lo + 1, .. -/
def rngD (lo : Int) (n : Nat) : List D := (List.range n).map fun i => PyData.int (lo + (i : Nat))
theorem rngD_length (lo : Int) (n : Nat) : (rngD lo n).length = n := by unfold rngD; rw [List.length_map, List.length_range]
def gRng1 : List D → Option (List D)
  | [.int j] => if j ≤ 16777216 ∧ -4611686018427387904 ≤ j then some (rngD 0 j.toNat) else none
  | _ => none
def gRng2 : List D → Option (List D)
  | [.int i, .int j] => if (-4611686018427387904 ≤ i ∧ i < 4611686018427387904 ∧ -4611686018427387904 ≤ j ∧ j < 4611686018427387904) ∧ j - i ≤ 16777216 then some (rngD i (j - i).toNat) else none
  | _ => none
theorem wlk_rng {K : Fg} {F : Hp} {lo : Int} {n : Nat} : Wlk K F (Itr lo n) (rngD lo n) where
  go := fun i H hi e => by rw [rngD_length] at hi; exact hi
  stop := fun H e => by rw [rngD_length]; exact Nat.le_refl _
  yld := fun i H x H' hi e ⟨y1, y2⟩ => by
    rw [rngD_length] at hi
    refine ⟨.int (lo + (i : Nat)), ?_, .inl ⟨y1, by rw [y2]; exact .int _⟩⟩
    unfold rngD
    rw [List.getElem?_map, List.getElem?_range hi]
    rfl
theorem iw_rng1 {a : Expr} {T : TL} {p pos : Pos} (hg : Gl X "range") (hm : X.mg "range" = none) (ha : XA X [a] T) (hs : starEach [a] X.env = [(false, eval a X.env)] := by rfl) : IW X tg (.Call (.Name "range" p) [a] [] pos) (wOf gRng1 T) :=
  ⟨wOf_mono ha.mono, PI.imp (pi_range1 hg hm ha.pa hs) fun σ H R ⟨B, F, ρ, R0, q⟩ => ⟨B, F, ρ, R0, ha.mono _ _ _ (fun ps ⟨zs, e, k⟩ F' H' vs R' s' d => by
    unfold gRng1 at e
    split at e
    · split at e
      · rename_i hj
        cases e
        obtain ⟨v, rfl, h⟩ := dp1 (d.dp R')
        refine ⟨_, by rw [Dp.inv_int h], by have := hj.2; omega, by have := hj.1; omega, k F' H' _ R' s' ?_ wlk_rng⟩
        rw [rngD_length, sizeLine_eq]; omega
      · cases e
    · cases e) q⟩⟩
theorem iw_rng2 {a b : Expr} {T : TL} {p pos : Pos} (hg : Gl X "range") (hm : X.mg "range" = none) (ha : XA X [a, b] T) (hs : starEach [a, b] X.env = [(false, eval a X.env), (false, eval b X.env)] := by rfl) (hs2 : starEach [b] X.env = [(false, eval b X.env)] := by rfl) : IW X tg (.Call (.Name "range" p) [a, b] [] pos) (wOf gRng2 T) :=
  ⟨wOf_mono ha.mono, PI.imp (pi_range2 hg hm ha.pa hs hs2) fun σ H R ⟨B, F, ρ, R0, q⟩ => ⟨B, F, ρ, R0, ha.mono _ _ _ (fun ps ⟨zs, e, k⟩ F' H' vs R' s' d => by
    unfold gRng2 at e
    split at e
    · split at e
      · rename_i hj
        cases e
        obtain ⟨v, u, rfl, h1, h2⟩ := dp2 (d.dp R')
        refine ⟨_, _, by rw [Dp.inv_int h1, Dp.inv_int h2], ?_, k F' H' _ R' s' ?_ wlk_rng⟩
        · obtain ⟨⟨a1, a2, a3, a4⟩, _⟩ := hj
          exact ⟨by omega, by omega, by omega, by omega⟩
        · rw [rngD_length, sizeLine_eq]; omega
      · cases e
    · cases e) q⟩⟩
theorem if_rng1 {a : Expr} {f : Rho → Option (List D)} {p pos : Pos} (hg : Gl X "range") (hm : X.mg "range" = none) (ha : XAF X [a] f) (hs : starEach [a] X.env = [(false, eval a X.env)] := by rfl) : IF X tg (.Call (.Name "range" p) [a] [] pos) (aOf gRng1 f) :=
  (iw_rng1 hg hm ha hs).imp fW_mono aOf_w
theorem if_rng2 {a b : Expr} {f : Rho → Option (List D)} {p pos : Pos} (hg : Gl X "range") (hm : X.mg "range" = none) (ha : XAF X [a, b] f) (hs : starEach [a, b] X.env = [(false, eval a X.env), (false, eval b X.env)] := by rfl) (hs2 : starEach [b] X.env = [(false, eval b X.env)] := by rfl) : IF X tg (.Call (.Name "range" p) [a, b] [] pos) (aOf gRng2 f) :=
  (iw_rng2 hg hm ha hs hs2).imp fW_mono aOf_w
end
end L2.P

namespace L2.P
open PySem PySem.Spec PyProof.Rows L2
def minusH (H : Hp) (a : Addr) : Hp := fun b => if b = a then none else H b
theorem minusH_same (H : Hp) (a : Addr) : minusH H a a = none := by unfold minusH; rw [if_pos rfl]
theorem minusH_ne {H : Hp} {a b : Addr} (h : b ≠ a) : minusH H a b = H b := by unfold minusH; rw [if_neg h]
theorem upd_minus {H : Hp} {a : Addr} {o : HO} (h : H a = some o) : upd (minusH H a) a o = H := by
  funext b
  by_cases e : b = a
  · subst e; rw [upd_same, h]
  · rw [upd_ne e, minusH_ne e]
section
variable {K : Fg} {B : Bs} {F F' H H' : Hp} {σ σ' : St} {ρ ρ' : Rho} {a : Addr} {o : HO}
/-- what is pinned is taken away -/
theorem Rs.minus (R : Rs K (B.pin a o) F H σ ρ) (hr : B.r ≠ some a) (hF : B.Fa a = none) (hH : B.Ha a = none) (nt : ∀ xs, o ≠ HO.tup xs := by intro _ h; cases h) (nb : ¬ isTE o := by exact not_te rfl) : Rs K B F (minusH H a) σ ρ := by
  obtain ⟨p1, p2⟩ := R.pinned hr hF nt nb
  have U := R.unpin hr hF hH nb
  have far : ∀ c, (B.pin a o).Ha c = none ∨ B.r = some c → c ≠ a := fun c h e => by
    subst e
    rcases h with h | h
    · have z : (upd B.Ha c o) c = none := h
      rw [upd_same] at z; cases z
    · exact hr h
  refine ⟨fun b x e => ?_, U.ext, U.new, fun b x hb e => ?_, fun r h => ?_, U.hr2, U.len, fun i s hs => ?_, U.apart, ⟨U.tb.1, tabs_ext U.tb.2.1 fun b x e t => ?_, U.tb.2.2⟩, U.tbh⟩
  rotate_right
  · have ne : b ≠ a := fun z => by
      rw [z, p1] at e
      exact nb (by rw [Option.some.inj e]; exact t)
    rw [minusH_ne ne]; exact e
  · have ne : b ≠ a := fun q => by subst q; rw [p2] at e; cases e
    rw [minusH_ne ne]; exact U.sub b x e
  · have ne : b ≠ a := fun q => by subst q; rw [hH] at e; cases e
    rw [minusH_ne ne]; exact U.old b x hb e
  · obtain ⟨h1, h2⟩ := U.hrow r h
    have ne : r ≠ a := fun e => by subst e; exact hr h
    exact ⟨h1, h2.mono (Same.refl _) fun x e => by rw [minusH_ne ne]; exact e⟩
  · have q := R.at_ i s hs
    have q2 := U.at_ i s hs
    generalize σ[i]? = x at q q2
    cases q with
    | no => exact .no
    | v r => exact .v r
    | @ol c xs ps f h0 h1 r =>
      have ne := far c (.inl h0)
      cases q2 with
      | ol f' g0 g1 r' => exact .ol f g0 (by rw [minusH_ne ne]; exact h1) r
    | @row c _ f h0 h1 =>
      have ne := far c (h0.imp id And.left)
      cases q2 with
      | row f' g0 g1 => exact .row f g0 (h1.mono (Same.refl _) fun x e => by rw [minusH_ne ne]; exact e)
    | @od t c kvs f h0 h1 =>
      have ne := far c (.inl h0)
      cases q2 with
      | od f' g0 g1 => exact .od f g0 (h1.mono (Same.refl _) fun x e => by rw [minusH_ne ne]; exact e)
end

/-- over the items: the list that has come so far, what is wanted of the whole -/
def lcW (is : List Nat) (g : Tg) (T : TB) (E : TW) (ρ : Rho) : List D → List D → (List D → Prop) → Prop
  | [], acc, K => K acc
  | p :: ps, acc, K => ∃ ρ', g p (wipeR ρ is) = some ρ' ∧ T ρ' (fun b => if b = true then E ρ' (fun y => acc.length < sizeLine ∧ lcW is g T E ρ ps (acc ++ [y]) K) else lcW is g T E ρ ps acc K)
/-- .. where it can't get too long -/
def lcV (is : List Nat) (g : Tg) (T : TB) (E : TW) (ρ : Rho) : List D → List D → (List D → Prop) → Prop
  | [], acc, K => K acc
  | p :: ps, acc, K => ∃ ρ', g p (wipeR ρ is) = some ρ' ∧ T ρ' (fun b => if b = true then E ρ' (fun y => lcV is g T E ρ ps (acc ++ [y]) K) else lcV is g T E ρ ps acc K)
section
variable {is : List Nat} {g : Tg} {T : TB} {E : TW} {ρ : Rho}
theorem lcV_mono (mt : ∀ ρ K K', (∀ p, K p → K' p) → T ρ K → T ρ K') (me : ∀ ρ K K', (∀ p, K p → K' p) → E ρ K → E ρ K') : ∀ (ps acc : List D) (K K' : List D → Prop), (∀ p, K p → K' p) → lcV is g T E ρ ps acc K → lcV is g T E ρ ps acc K'
  | [], _, _, _, h, q => h _ q
  | p :: ps, acc, K, K', h, ⟨ρ', e, q⟩ => ⟨ρ', e, mt _ _ _ (fun b k => by
      cases b with
      | true => exact me _ _ _ (fun y k2 => lcV_mono mt me ps _ K K' h k2) k
      | false => exact lcV_mono mt me ps _ K K' h k) q⟩
theorem lcV_W (mt : ∀ ρ K K', (∀ p, K p → K' p) → T ρ K → T ρ K') (me : ∀ ρ K K', (∀ p, K p → K' p) → E ρ K → E ρ K') : ∀ (ps acc : List D) (K : List D → Prop), acc.length + ps.length ≤ sizeLine → lcV is g T E ρ ps acc K → lcW is g T E ρ ps acc K
  | [], _, _, _, q => q
  | p :: ps, acc, K, h, ⟨ρ', e, q⟩ => ⟨ρ', e, mt _ _ _ (fun b k => by
      rw [List.length_cons] at h
      cases b with
      | true => exact me _ _ _ (fun y k2 => ⟨by omega, lcV_W mt me ps _ K (by rw [List.length_append, List.length_singleton]; omega) k2⟩) k
      | false => exact lcV_W mt me ps _ K (by omega) k) q⟩
end

section
variable {X : Cx}
/-- the tests of a clause -/
structure TsW (X : Cx) (ifs : List Expr) (T : TB) : Prop where
  mono : ∀ ρ K K', (∀ p, K p → K' p) → T ρ K → T ρ K'
  pts : PTs X ifs (tT X.K T)
theorem PTs.imp {ifs : List Expr} {t t' : TT} (h : PTs X ifs t) (k : ∀ σ H Q, t' σ H Q → t σ H Q) : PTs X ifs t' := ⟨fun pins s σ H Q I hw => h.run pins s σ H Q I (k _ _ _ hw)⟩
def fYes : Rho → Option Bool := fun _ => some true
theorem ts_nil : TsW X [] (fW fYes) := ⟨fW_mono, PTs.imp pts_nil fun σ H Q ⟨B, F, ρ, R, p, e, q⟩ => by cases e; exact q F H R (Same.refl _)⟩
theorem ts_one {c : Expr} {T : TB} (h : TWT X c T) : TsW X [c] T := ⟨h.mono, pts_one h.pt⟩

/-- what the turns of one clause keep -/
def LcInv (K : Fg) (B : Bs) (F1 : Hp) (D : Addr) (σ : St) (ρ : Rho) (P : List PyData → Prop) (H : Hp) : Prop :=
  ∃ F acc ad, Rs K (B.pin D (.lst acc)) F H σ ρ ∧ Same F1 F ∧ DpAll K F acc ad ∧ P ad
/-- one clause's walk, from what it keeps to what is wanted -/
theorem lc_walk {K : Fg} {is : List Nat} {g : Tg} {T : TB} {E : TW} {B : Bs} {F1 : Hp} {D : Addr} {σ : St} {ρ : Rho} {ps : List PyData} {Kc : List PyData → Prop} {J : It} {Qd : Hp → Prop} {H1 : Hp} {ad : List PyData}
    (mt : ∀ ρ K K', (∀ p, K p → K' p) → T ρ K → T ρ K') (me : ∀ ρ K K', (∀ p, K p → K' p) → E ρ K → E ρ K') (hr : B.r ≠ some D) (hF : B.Fa D = none) (no : noOwn ρ is = true) (wk : Wlk K F1 J ps)
    (h : LcInv K B F1 D σ ρ (fun ad => lcW is g T E ρ ps ad Kc) H1) (hd : ∀ H, LcInv K B F1 D σ ρ Kc H → Qd H) :
    ∃ W : Nat → Nat → Hp → Prop, (∃ m, W 0 m H1) ∧ ∀ i m H, W i m H →
      (J.stop i H ∧ Qd H) ∨ (J.go i H ∧ ∃ Nx : Hp → Prop, (∀ H', Nx H' → ∃ m', m' < m ∧ W (i + 1) m' H') ∧ ∀ x H', J.yld i H x H' → tG K g is x (L2.wipe σ is) H' fun σ2 H2 => L2.wipe σ2 is = L2.wipe σ is ∧ tT K T σ2 H2 fun b H3 =>
        if b = true then tW K E σ2 H3 fun y H4 => ∃ acc, H4 D = some (.lst acc) ∧ acc.length < sizeLine ∧ Nx (upd H4 D (.lst (acc ++ [y]))) else Nx H3) := by
  refine ⟨fun i m H => m = ps.length - i ∧ i ≤ ps.length ∧ LcInv K B F1 D σ ρ (fun ad => lcW is g T E ρ (ps.drop i) ad Kc) H, ⟨ps.length, by simp, Nat.zero_le _, h⟩, ?_⟩
  rintro i m H ⟨rfl, hi, F, acc, ad, R, s, d, q⟩
  have sH : Same F1 H := s.trans R.sub
  by_cases hlt : i < ps.length
  · refine .inr ⟨wk.go i H hlt sH, fun H' => LcInv K B F1 D σ ρ (fun ad => lcW is g T E ρ (ps.drop (i + 1)) ad Kc) H', fun H' n => ⟨ps.length - (i + 1), by omega, rfl, hlt, n⟩, fun x H' hy => ?_⟩
    obtain ⟨p, hp, y⟩ := wk.yld i H x H' hlt sH hy
    have e0 : ps.drop i = p :: ps.drop (i + 1) := by
      rw [List.drop_eq_getElem_cons hlt]
      obtain ⟨_, e⟩ := List.getElem?_eq_some_iff.mp hp
      rw [e]
    rw [e0] at q
    obtain ⟨ρ', eg, q⟩ := q
    obtain ⟨F2, R2, s2, d2⟩ := yl_step (R.wipe is) s y
    refine ⟨_, F2, _, p, ρ', R2, d2, eg, fun σ' R3 hl hσ hρ => ⟨?_, ?_⟩⟩
    · have := wipe_eq (is := is) hl hσ
      rw [this]
      exact wipe_eq (wipe_length _ _) fun j hj => wipe_out hj
    · have hσ' : ∀ j, j ∉ is → σ'[j]? = σ[j]? := fun j hj => (hσ j hj).trans (wipe_out hj)
      have hρ' : ∀ j, j ∉ is → ρ'[j]? = ρ[j]? := fun j hj => (hρ j hj).trans (wipeR_out hj)
      refine ⟨_, F2, ρ', R3, mt _ _ _ (fun b k F3 H3 R4 s4 => ?_) q⟩
      cases b with
      | false => exact ⟨F3, acc, ad, R.back R4 (s2.trans s4) no hσ' hρ', (s.trans s2).trans s4, (d.same s2).same s4, k⟩
      | true =>
        refine ⟨_, F3, ρ', R4, me _ _ _ (fun z k2 F4 H4 v R5 s5 d5 => ?_) k⟩
        have s25 : Same F F4 := (s2.trans s4).trans s5
        have hacc : acc.length = ad.length := d.length
        refine ⟨acc, (R5.pinned hr hF).1, by rw [hacc]; exact k2.1, F4, acc ++ [v], ad ++ [z], (R.back R5 s25 no hσ' hρ').repin hr hF _, s.trans s25, (d.same s25).append (.cons d5 .nil), k2.2⟩
  · have e : i = ps.length := by omega
    subst e
    refine .inl ⟨wk.stop H sH, hd H ⟨F, acc, ad, R, s, d, ?_⟩⟩
    rw [List.drop_length] at q
    exact q

variable {elt tg iter tg1 iter1 : Expr} {ifs ifs1 : List Expr} {scope : Scope} {own : List (Str × Nat)} {vs1 : List Nat} {pos : Pos} {U U1 : TL} {g g1 : Tg} {T T1 : TB} {E : TW}
def wLc (is : List Nat) (g : Tg) (T : TB) (E : TW) (U : TL) : TL := fun ρ K => noOwn ρ is = true ∧ U ρ fun ps => lcV is g T E ρ ps [] K
theorem wLc_mono {is : List Nat} (mu : ∀ ρ K K', (∀ p, K p → K' p) → U ρ K → U ρ K') (mt : ∀ ρ K K', (∀ p, K p → K' p) → T ρ K → T ρ K') (me : ∀ ρ K K', (∀ p, K p → K' p) → E ρ K → E ρ K') :
    ∀ ρ K K', (∀ p, K p → K' p) → wLc is g T E U ρ K → wLc is g T E U ρ K' := fun ρ K K' h ⟨n, q⟩ => ⟨n, mu _ _ _ (fun ps k => lcV_mono mt me ps _ K K' h k) q⟩
theorem lc_conv {K : Fg} {is : List Nat} (mu : ∀ ρ K K', (∀ p, K p → K' p) → U ρ K → U ρ K') (mt : ∀ ρ K K', (∀ p, K p → K' p) → T ρ K → T ρ K') (me : ∀ ρ K K', (∀ p, K p → K' p) → E ρ K → E ρ K')
    {σ : St} {H : Hp} {Q : VK} (h : tN K (wLc is g T E U) σ H Q) : tLc (tI K U) (tG K g is) (tT K T) (tW K E) is σ H Q := by
  obtain ⟨B, F, ρ, R, no, q⟩ := h
  refine ⟨B, F, ρ, R, mu _ _ _ (fun ps k F1 H1 J R1 s1 hz wk D hD => ?_) q⟩
  obtain ⟨p1, p2, p3⟩ := R1.fresh hD
  have hF : B.Fa D = none := R1.ext.free p2
  refine lc_walk (Kc := fun ps => ∀ F' H' a xs, Rs K B F' H' σ ρ → Same F F' → H' a = none → DpAll K F' xs ps → Q (.ref a) (upd H' a (.lst xs))) (ad := []) mt me p3 hF no wk
    ⟨F1, [], [], R1.pin hD _, Same.refl _, .nil, lcV_W mt me ps [] _ (by simpa using hz) k⟩ fun H2 ⟨F2, acc, ad, R2, s2, d2, k2⟩ => ?_
  have e := upd_minus (R2.pinned p3 hF).1
  rw [← e]
  exact k2 F2 _ D acc (R2.minus p3 hF p1) (s1.trans s2) (minusH_same _ _) d2
theorem nw_lc (hc : X.calm = true) (hN : X.N.Nodup) (hi : IW X tg iter U) (ok : BlkOk X.N X.env.scope scope own)
    (hg : ∀ (s : Shared) (H : Hp) (C : Addr) (cl : List (Str × Addr)) (fp : List Addr), GW (X.blk s H scope (compEnvC scope cl C X.env) fp) tg g (own.map (·.2)))
    (ht : ∀ (s : Shared) (H : Hp) (C : Addr) (cl : List (Str × Addr)) (fp : List Addr), TsW (X.blk s H scope (compEnvC scope cl C X.env) fp) ifs T)
    (he : ∀ (s : Shared) (H : Hp) (C : Addr) (cl : List (Str × Addr)) (fp : List Addr), EW (X.blk s H scope (compEnvC scope cl C X.env) fp) elt E)
    (s0 : Shared) (hs : ∀ x, foldedSetIterable iter X.env x = pure x := by intro _; rfl) : NW X (.ListComp elt [⟨tg, iter, ifs, 0⟩] scope pos) (wLc (own.map (·.2)) g T E U) := by
  have mt := (ht s0 (fun _ => none) 0 [] []).mono
  have me := (he s0 (fun _ => none) 0 [] []).mono
  exact ⟨wLc_mono hi.mono mt me, (pe_lc (g := tG X.K g (List.map (fun (z : Str × Nat) => z.2) own)) (tt := tT X.K T) (te := tW X.K E) hc hN hi.pi ok hg (fun s H C cl fp => (ht s H C cl fp).pts) (fun s H C cl fp => (he s H C cl fp).pe) hs).imp fun σ H Q h => lc_conv hi.mono mt me h⟩
/-- name = a new list -/
structure NS (X : Cx) (st : Stmt) (i : Nat) (T : TL) : Prop where
  mono : ∀ ρ K K', (∀ p, K p → K' p) → T ρ K → T ρ K'
  ps : PS X st (tAsg (tN X.K T) (gName i))
theorem tAsg_imp {t t' : TE} {g : TG} (k : ∀ σ H Q, t' σ H Q → t σ H Q) (D : Ends) (σ : St) (H : Hp) (h : tAsg t' g D σ H) : tAsg t g D σ H := k _ _ _ h
theorem ns_lc {i : Nat} {y : Str} {py spos : Pos} (hc : X.calm = true) (hN : X.N.Nodup) (hy : X.N[i]? = some y) (hyl : X.env.scope.names.lookup y = some .local)
    (hi : IW X tg iter U) (ok : BlkOk X.N X.env.scope scope own)
    (hg : ∀ (s : Shared) (H : Hp) (C : Addr) (cl : List (Str × Addr)) (fp : List Addr), GW (X.blk s H scope (compEnvC scope cl C X.env) fp) tg g (own.map (·.2)))
    (ht : ∀ (s : Shared) (H : Hp) (C : Addr) (cl : List (Str × Addr)) (fp : List Addr), TsW (X.blk s H scope (compEnvC scope cl C X.env) fp) ifs T)
    (he : ∀ (s : Shared) (H : Hp) (C : Addr) (cl : List (Str × Addr)) (fp : List Addr), EW (X.blk s H scope (compEnvC scope cl C X.env) fp) elt E)
    (s0 : Shared) (hsw : swapsWith (.ListComp elt [⟨tg, iter, ifs, 0⟩] scope pos) (some (.Name y py)) spos.line X.env = pure true) (hs : ∀ x, foldedSetIterable iter X.env x = pure x := by intro _; rfl) :
    NS X (.Assign [.Name y py] (.ListComp elt [⟨tg, iter, ifs, 0⟩] scope pos) spos) i (wLc (own.map (·.2)) g T E U) := by
  have mt := (ht s0 (fun _ => none) 0 [] []).mono
  have me := (he s0 (fun _ => none) 0 [] []).mono
  refine ⟨wLc_mono hi.mono mt me, ?_⟩
  have z := ps_setLc (py := py) (pos := pos) (spos := spos) (i := i) (g := tG X.K g (List.map (fun (z : Str × Nat) => z.2) own)) (tt := tT X.K T) (te := tW X.K E) hc hN hy hyl hsw hi.pi ok hg (fun s H C cl fp => (ht s H C cl fp).pts) (fun s H C cl fp => (he s H C cl fp).pe) hs
  exact z.imp fun D σ H h => tAsg_imp (fun σ H Q q => lc_conv hi.mono mt me q) D σ H h

end

def lcF (is : List Nat) (g : Tg) (t : Rho → Option Bool) (f : Rho → Option D) (ρ : Rho) : List D → Option (List D)
  | [] => some []
  | p :: ps => (g p (wipeR ρ is)).bind fun ρ' => (t ρ').bind fun b => if b = true then (f ρ').bind fun y => (lcF is g t f ρ ps).map fun ys => y :: ys else lcF is g t f ρ ps
theorem lcF_V {is : List Nat} {g : Tg} {t : Rho → Option Bool} {f : Rho → Option D} {ρ : Rho} : ∀ (ps acc out : List D) (K : List D → Prop), lcF is g t f ρ ps = some out → K (acc ++ out) → lcV is g (fW t) (fW f) ρ ps acc K
  | [], acc, out, K, e, k => by
    cases e
    rw [List.append_nil] at k
    exact k
  | p :: ps, acc, out, K, e, k => by
    unfold lcF at e
    obtain ⟨ρ', e1, e⟩ := Option.bind_eq_some_iff.mp e
    obtain ⟨b, e2, e⟩ := Option.bind_eq_some_iff.mp e
    refine ⟨ρ', e1, b, e2, ?_⟩
    cases b with
    | true =>
      obtain ⟨y, e3, e⟩ := Option.bind_eq_some_iff.mp e
      obtain ⟨ys, e4, rfl⟩ := Option.map_eq_some_iff.mp e
      exact ⟨y, e3, lcF_V ps _ ys K e4 (by rw [List.append_assoc]; exact k)⟩
    | false => exact lcF_V ps _ out K e k
def cLc (is : List Nat) (g : Tg) (t : Rho → Option Bool) (f : Rho → Option D) (u : Rho → Option (List D)) : Rho → Option (List D) := fun ρ => if noOwn ρ is = true then (u ρ).bind fun ps => lcF is g t f ρ ps else none
theorem cLc_w {is : List Nat} {g : Tg} {t : Rho → Option Bool} {f : Rho → Option D} {u : Rho → Option (List D)} (ρ : Rho) (K : List D → Prop) (h : fW (cLc is g t f u) ρ K) : wLc is g (fW t) (fW f) (fW u) ρ K := by
  obtain ⟨out, e, k⟩ := h
  unfold cLc at e
  split at e
  · rename_i no
    obtain ⟨ps, e1, e2⟩ := Option.bind_eq_some_iff.mp e
    exact ⟨no, ps, e1, lcF_V ps [] out K e2 k⟩
  · cases e
theorem NW.lc {X : Cx} {e : Expr} {is : List Nat} {g : Tg} {t : Rho → Option Bool} {f : Rho → Option D} {u : Rho → Option (List D)} (h : NW X e (wLc is g (fW t) (fW f) (fW u))) : NF X e (cLc is g t f u) := h.imp fW_mono cLc_w

end L2.P

namespace L2.P
open PySem PySem.Spec PyProof.Rows L2

/-- the argument lists have so many items -/
def LenA (f : Rho → Option (List D)) (n : Nat) : Prop := ∀ ρ xs, f ρ = some xs → xs.length = n
theorem lenA_nil : LenA aNil 0 := fun _ _ e => by cases e; rfl
theorem lenA_cons {f : Rho → Option D} {g : Rho → Option (List D)} {n : Nat} (h : LenA g n) : LenA (aCons f g) (n + 1) := fun ρ xs e => by
  obtain ⟨x, e1, e⟩ := Option.bind_eq_some_iff.mp e
  obtain ⟨ys, e2, rfl⟩ := Option.map_eq_some_iff.mp e
  rw [List.length_cons, h ρ ys e2]
def LenW (T : TL) (n : Nat) : Prop := ∀ ρ K, T ρ K → T ρ fun ps => ps.length = n ∧ K ps
theorem lenW_nil : LenW wNil 0 := fun _ _ k => ⟨rfl, k⟩
theorem lenW_cons {X : Cx} {e : Expr} {T : TW} {U : TL} {n : Nat} (m : EW X e T) (h : LenW U n) (mu : ∀ ρ K K', (∀ p, K p → K' p) → U ρ K → U ρ K') : LenW (wCons T U) (n + 1) := fun ρ K q =>
  m.mono _ _ _ (fun x k => mu _ _ _ (fun xs (z : xs.length = n ∧ K (x :: xs)) => ⟨by rw [List.length_cons, z.1], z.2⟩) (h _ _ k)) q
def vTup (f : Rho → Option (List D)) : Rho → Option D := fun ρ => (f ρ).map PyData.tuple
section
variable {X : Cx} {e a b : Expr} {es : List Expr} {pos : Pos}
theorem ew_tup {T : TL} {x1} {n : Nat} (h : EA X es T) (hl : LenW T n) (hn : n ≤ 1000 := by decide) : EW X (.Tuple es x1 pos) (fun ρ K => T ρ fun ps => K (.tuple ps)) :=
  ⟨fun ρ K K' i q => h.mono _ _ _ (fun ps => i _) q, (pe_tup h.pa).imp fun σ H Q ⟨B, F, ρ, R, q⟩ => ⟨B, F, ρ, R, h.mono _ _ _ (fun ps k F1 H1 vs R1 s1 d1 => by
    refine ⟨?_, fun p hp => ?_⟩
    · rw [d1.length, k.1, sizeLine_eq]; omega
    · have n' := R1.sub.free hp
      exact k.2 _ _ _ (R1.grow hp) (s1.trans (same_upd n')) (.tup upd_same (d1.same (same_upd n')))) (hl _ _ q)⟩⟩
theorem ef_tup {f : Rho → Option (List D)} {x1} {n : Nat} (h : EAF X es f) (hl : LenA f n) (hn : n ≤ 1000 := by decide) : EF X (.Tuple es x1 pos) (vTup f) :=
  (ew_tup h (fun ρ K ⟨p, e, k⟩ => ⟨p, e, hl _ _ e, k⟩) hn).imp fW_mono fun ρ K ⟨p, e, k⟩ => by
    obtain ⟨ps, e1, rfl⟩ := Option.map_eq_some_iff.mp e
    exact ⟨ps, e1, k⟩
theorem nw_lst {T : TL} {n : Nat} (h : EA X es T) (hl : LenW T n) (hn : n ≤ 1000 := by decide) : NW X (.List es pos) T :=
  ⟨h.mono, (pe_lst h.pa).imp fun σ H Q ⟨B, F, ρ, R, q⟩ => ⟨B, F, ρ, R, h.mono _ _ _ (fun ps k F1 H1 vs R1 s1 d1 => by
    refine ⟨?_, fun p hp => k.2 F1 H1 p vs R1 s1 hp d1⟩
    rw [d1.length, k.1, sizeLine_eq]; omega) (hl _ _ q)⟩⟩
theorem nf_lst {f : Rho → Option (List D)} {n : Nat} (h : EAF X es f) (hl : LenA f n) (hn : n ≤ 1000 := by decide) : NF X (.List es pos) f := nw_lst h (fun ρ K ⟨p, e, k⟩ => ⟨p, e, hl _ _ e, k⟩) hn

def dIx : G2
  | .list xs, .int i => atI xs i
  | .tuple xs, .int i => atI xs i
  | .str z, .int i => if z.length ≤ sizeLine then (atI z.cps.toList i).map fun c => .str ⟨#[c]⟩ else none
  | _, _ => none
theorem atI_len {α β : Type} {xs : List α} {ys : List β} (h : xs.length = ys.length) {i : Int} {y : β} (e : atI ys i = some y) : ∃ j : Nat, ys[j]? = some y ∧ ∀ x, xs[j]? = some x → atI xs i = some x := by
  unfold atI at e ⊢
  obtain ⟨j, e1, e2⟩ := Option.bind_eq_some_iff.mp e
  refine ⟨j, e2, fun x hx => ?_⟩
  rw [h, e1]
  exact hx
theorem ix_ok {K : Fg} {B : Bs} {F H : Hp} {σ : St} {ρ : Rho} {x y : V} {p q z : D} {Q : VK} (R : Rs K B F H σ ρ) (hx : Pk K F σ ρ x p) (hy : Dp K H y q) (e : dIx p q = some z) (k : ∀ v, Dp K F v z → Q v H) : rIx K x y H Q := by
  unfold dIx at e
  split at e
  · obtain ⟨a, xs, rfl, r, h⟩ := pk_items R hx rfl
    obtain ⟨j, e1, e2⟩ := atI_len r.length e
    obtain ⟨v, hv, d⟩ := r.get e1
    rcases h with ⟨_, h⟩ | ⟨h, _⟩
    · exact .inl ⟨a, xs, _, v, rfl, Dp.inv_int hy, h, e2 v hv, k v d⟩
    · cases h
  · obtain ⟨a, xs, rfl, r, h⟩ := pk_items R hx rfl
    obtain ⟨j, e1, e2⟩ := atI_len r.length e
    obtain ⟨v, hv, d⟩ := r.get e1
    rcases h with ⟨h, _⟩ | ⟨_, h⟩
    · cases h
    · exact .inr (.inl ⟨a, xs, _, v, rfl, Dp.inv_int hy, sqT_same R.sub h, e2 v hv, k v d⟩)
  · split at e
    · rename_i hz
      obtain ⟨c, e1, rfl⟩ := Option.map_eq_some_iff.mp e
      exact .inr (.inr ⟨_, _, c, Dp.inv_str (hx.dp (Same.refl _) R), Dp.inv_int hy, hz, e1, k _ (.str _)⟩)
    · cases e
  · cases e
theorem ew_ix {T1 T2 : TW} (ha : XW X a T1) (hb : XW X b T2) (hs : PlainIx b := by intro _ _; rfl) : EW X (.Subscript a b pos) (w2 dIx T1 T2) :=
  ⟨w2_mono ha.mono hb.mono, (pe_ix ix_seq ha.pe hb.pe hs).imp fun σ H Q ⟨B, F, ρ, R, q⟩ => by
    refine ⟨B, F, ρ, R, ha.mono _ _ _ (fun x qx F1 H1 v1 R1 e1 d1 => ?_) q⟩
    refine ⟨B, F1, ρ, R1, hb.mono _ _ _ (fun y ⟨z, ez, qz⟩ F2 H2 v2 R2 e2 d2 => ?_) qx⟩
    exact ix_ok R2 (d1.mono e2) (d2.dp (Same.refl _) R2) ez fun v d => qz F2 H2 v R2 (e1.trans e2) d⟩
theorem ef_ix {f1 f2 : Rho → Option D} (ha : XF X a f1) (hb : XF X b f2) (hs : PlainIx b := by intro _ _; rfl) : EF X (.Subscript a b pos) (b2 dIx f1 f2) := (ew_ix ha hb hs).imp fW_mono b2_w
def dNeg : D → Option D
  | .int i => some (.int (-i))
  | _ => none
def vNeg (f : Rho → Option D) : Rho → Option D := fun ρ => (f ρ).bind dNeg
theorem ef_neg {f : Rho → Option D} (h : EF X a f) : EF X (.UnaryOp .USub a pos) (vNeg f) :=
  ⟨fW_mono, (pe_un un_neg h.pe).imp fun σ H Q ⟨B, F, ρ, R, p, e, q⟩ => by
    obtain ⟨x, e1, e2⟩ := Option.bind_eq_some_iff.mp e
    unfold dNeg at e2
    split at e2
    · cases e2
      exact ⟨B, F, ρ, R, _, e1, fun F' H' v R' e' d => ⟨_, Dp.inv_int d, q F' H' _ R' e' (.int _)⟩⟩
    · cases e2⟩
def dAdd : G2
  | .int i, .int j => some (.int (i + j))
  | .list xs, .list ys => if xs.length + ys.length ≤ sizeLine then some (.list (xs ++ ys)) else none
  | .tuple xs, .tuple ys => if xs.length + ys.length ≤ sizeLine then some (.tuple (xs ++ ys)) else none
  | .str x, .str y => if x.length + y.length ≤ sizeLine then some (.str (x ++ y)) else none
  | _, _ => none
theorem OpR.or {f : Value → Value → Sem Value} {r r' : R2} (h : OpR X f r) (h' : OpR X f r') : OpR X f (fun x y H Q => r x y H Q ∨ r' x y H Q) := by
  intro pins s σ H x y v u Q I rx ry q
  rcases q with q | q
  · exact h pins s σ H x y v u Q I rx ry q
  · exact h' pins s σ H x y v u Q I rx ry q
theorem og_add : OpG X (binaryOp .Add) dAdd := ⟨_, OpR.or op_add (OpR.or or_catL (OpR.or op_catA op_add_str)), fun B F H σ ρ x y p q z Q R hx hy e k => by
  unfold dAdd at e
  split at e
  · cases e
    exact .inl ⟨_, _, Dp.inv_int (hx.dp (Same.refl _) R), Dp.inv_int (hy.dp (Same.refl _) R), k F H _ R (Same.refl _) (.int _)⟩
  · split at e
    · rename_i hz
      cases e
      obtain ⟨a, xs, rfl, r1, h1⟩ := pk_items R hx rfl
      obtain ⟨b, ys, rfl, r2, h2⟩ := pk_items R hy rfl
      rcases h1 with ⟨_, h1⟩ | ⟨h1, _⟩
      · rcases h2 with ⟨_, h2⟩ | ⟨h2, _⟩
        · refine .inr (.inl ⟨a, b, xs, ys, rfl, rfl, h1, h2, by rw [r1.length, r2.length]; exact hz, fun p hp => ?_⟩)
          have n := R.sub.free hp
          exact k _ _ _ (R.grow hp) (same_upd n) (.lst (.inl (.inl upd_same)) ((r1.append r2).same (same_upd n)))
        · cases h2
      · cases h1
    · cases e
  · split at e
    · rename_i hz
      cases e
      obtain ⟨a, xs, rfl, r1, h1⟩ := pk_items R hx rfl
      obtain ⟨b, ys, rfl, r2, h2⟩ := pk_items R hy rfl
      rcases h1 with ⟨h1, _⟩ | ⟨_, h1⟩
      · cases h1
      · rcases h2 with ⟨h2, _⟩ | ⟨_, h2⟩
        · cases h2
        · refine .inr (.inr (.inl ⟨a, b, xs, ys, rfl, rfl, sqT_same R.sub h1, sqT_same R.sub h2, by rw [r1.length, r2.length]; exact hz, fun e => ?_, fun n e => ?_, fun _ _ p hp => ?_⟩))
          · subst e
            cases r1
            exact k F H _ R (Same.refl _) (pk_tup hy)
          · subst e
            cases r2
            rw [List.append_nil] at k
            exact k F H _ R (Same.refl _) (pk_tup hx)
          · have n := R.sub.free hp
            exact k _ _ _ (R.grow hp) (same_upd n) (.tup upd_same ((r1.append r2).same (same_upd n)))
    · cases e
  · split at e
    · rename_i hz
      cases e
      exact .inr (.inr (.inr ⟨_, _, Dp.inv_str (hx.dp (Same.refl _) R), Dp.inv_str (hy.dp (Same.refl _) R), hz, k F H _ R (Same.refl _) (.str _)⟩))
    · cases e
  · cases e⟩
def vIsi (T : String) (f : Rho → Option D) : Rho → Option D := fun ρ => (f ρ).bind fun p => if noIs p = true then none else some (gIsi T p)
theorem ef_isi {f : Rho → Option D} {T : String} {n : Str} {p p2 : Pos} (h : XF X a f) (hg : Gl X "isinstance") (hm : X.mg "isinstance" = none) (hgT : Gl X n) (hmT : X.mg n = none) (hvT : bootBuiltins n = some (.type T))
    (hT : T = "int" ∨ T = "bool" ∨ T = "str" ∨ T = "list" ∨ T = "tuple" := by decide) (hv : bootBuiltins "isinstance" = some (.builtin "isinstance") := by decide +kernel) (hn : n ≠ "__name__" := by decide) (hdb : (n == ("__debug__" : Str)) = false := by decide)
    (hs : starEach [a, .Name n p2] X.env = (false, eval a X.env) :: starEach [.Name n p2] X.env := by rfl) :
    EF X (.Call (.Name "isinstance" p) [a, .Name n p2] [] pos) (vIsi T f) :=
  ⟨fW_mono, (pe_callB call_isi hg hm hv (pa_cons h.pe (pa_cons (pe_bltn (v := .ty T) hgT hmT hvT rfl hn hdb) pa_nil) hs) (he := hs)).imp fun σ H Q ⟨B, F, ρ, R, z, e, q⟩ => by
    obtain ⟨x, e1, e2⟩ := Option.bind_eq_some_iff.mp e
    have nf : noIs x = false := by
      cases hx : noIs x with
      | false => rfl
      | true => rw [if_pos hx] at e2; cases e2
    rw [if_neg (by rw [nf]; simp)] at e2
    cases e2
    refine ⟨B, F, ρ, R, x, e1, fun F' H' v R' s' d => ?_⟩
    exact ⟨v, .ty T, _, _, _, rfl, .ty T, ty_of (d.dp (Same.refl _) R') nf, kit_ty (kit_isi T hT x), q F' H' _ R' s' (.bl _)⟩⟩
end
end L2.P

namespace L2.P
open PySem PySem.Spec PyProof.Rows L2

/-- how a statement ends -/
inductive Fl where
  | nx (ρ : Rho) | rt (p : D) | bk (ρ : Rho) | ct (ρ : Rho)
abbrev TSt := Rho → (Fl → Prop) → Prop
def endOk (K : Fg) (B : Bs) (F : Hp) (En : Ends) : Fl → Prop
  | .nx ρ' => ∀ F' H' σ', Rs K B F' H' σ' ρ' → Same F F' → En.nx σ' H'
  | .rt p => ∀ F' H' v, (∃ σ' ρ', Rs K B F' H' σ' ρ') → Same F F' → Dp K F' v p → En.rt v H'
  | .bk ρ' => ∀ F' H' σ', Rs K B F' H' σ' ρ' → Same F F' → En.bk σ' H'
  | .ct ρ' => ∀ F' H' σ', Rs K B F' H' σ' ρ' → Same F F' → En.ct σ' H'
theorem endOk.mono {K : Fg} {B : Bs} {F F' : Hp} {En : Ends} (s : Same F F') : ∀ {fl : Fl}, endOk K B F En fl → endOk K B F' En fl
  | .nx _, h => fun F2 H2 σ2 R2 s2 => h F2 H2 σ2 R2 (s.trans s2)
  | .rt _, h => fun F2 H2 v R2 s2 d => h F2 H2 v R2 (s.trans s2) d
  | .bk _, h => fun F2 H2 σ2 R2 s2 => h F2 H2 σ2 R2 (s.trans s2)
  | .ct _, h => fun F2 H2 σ2 R2 s2 => h F2 H2 σ2 R2 (s.trans s2)
def tS (K : Fg) (T : TSt) : TS := fun En σ H => ∃ B F ρ, Rs K B F H σ ρ ∧ T ρ (endOk K B F En)
structure SW (X : Cx) (st : Stmt) (T : TSt) : Prop where
  mono : ∀ ρ K K', (∀ p, K p → K' p) → T ρ K → T ρ K'
  ps : PS X st (tS X.K T)
structure SWs (X : Cx) (sts : List Stmt) (T : TSt) : Prop where
  mono : ∀ ρ K K', (∀ p, K p → K' p) → T ρ K → T ρ K'
  pss : PSs X sts (tS X.K T)
abbrev SF (X : Cx) (st : Stmt) (f : Rho → Option Fl) : Prop := SW X st (fW f)
abbrev SFs (X : Cx) (sts : List Stmt) (f : Rho → Option Fl) : Prop := SWs X sts (fW f)
theorem SW.imp {X : Cx} {st : Stmt} {T T' : TSt} (h : SW X st T) (m : ∀ ρ K K', (∀ p, K p → K' p) → T' ρ K → T' ρ K') (k : ∀ ρ K, T' ρ K → T ρ K) : SW X st T' := ⟨m, h.ps.imp fun _ _ _ ⟨B, F, ρ, R, q⟩ => ⟨B, F, ρ, R, k _ _ q⟩⟩
theorem SWs.imp {X : Cx} {st : List Stmt} {T T' : TSt} (h : SWs X st T) (m : ∀ ρ K K', (∀ p, K p → K' p) → T' ρ K → T' ρ K') (k : ∀ ρ K, T' ρ K → T ρ K) : SWs X st T' := ⟨m, h.pss.imp fun _ _ _ ⟨B, F, ρ, R, q⟩ => ⟨B, F, ρ, R, k _ _ q⟩⟩

section
variable {K : Fg} {B : Bs} {F F' H H' : Hp} {σ σ' : St} {ρ ρ' : Rho}
theorem set_some {α : Type} {l : List α} {i j : Nat} {x y : α} (h : (l.set i x)[j]? = some y) : (i = j ∧ i < l.length ∧ y = x) ∨ (i ≠ j ∧ l[j]? = some y) := by
  by_cases e : i = j
  · subst e
    by_cases hl : i < l.length
    · rw [List.getElem?_set_self hl] at h
      cases h; exact .inl ⟨rfl, hl, rfl⟩
    · rw [List.getElem?_eq_none (by simpa using hl)] at h; cases h
  · rw [List.getElem?_set_ne e] at h
    exact .inr ⟨e, h⟩
/-- the object o is what the slot s tells, s a slot that owns a list or a dict -/
def Holds (K : Fg) (F : Hp) (o : HO) : Sl → Prop
  | .ol ps => ∃ xs, o = .lst xs ∧ DpAll K F xs ps
  | .od false kvs => ∃ es, o = .dK es ∧ DkAll K F es kvs
  | .od true kvs => ∃ es, o = .dT es ∧ DtAll K F es kvs
  | _ => False
theorem Holds.ok {o : HO} {s : Sl} {a : Addr} (h : Holds K F o s) (f : F a = none) (h0 : B.Ha a = none) (e : H a = some o) : SlOk K B F H (some (some (.ref a))) s := by
  cases s with
  | no => exact h.elim
  | v _ => exact h.elim
  | rw _ => exact h.elim
  | ol ps => obtain ⟨xs, rfl, d⟩ := h; exact .ol f h0 e d
  | od t kvs =>
    cases t with
    | false => obtain ⟨es, rfl, d⟩ := h; exact .od f h0 ⟨es, e, d⟩
    | true => obtain ⟨es, rfl, d⟩ := h; exact .od f h0 ⟨es, e, d⟩
theorem Holds.owns {o : HO} {s : Sl} (h : Holds K F o s) : s.owns = true := by
  cases s with
  | no => exact h.elim
  | v _ => exact h.elim
  | rw _ => exact h.elim
  | ol ps => rfl
  | od t kvs => rfl
theorem Holds.nt {o : HO} {s : Sl} (h : Holds K F o s) : ∀ xs, o ≠ .tup xs := by
  cases s with
  | no => exact h.elim
  | v _ => exact h.elim
  | rw _ => exact h.elim
  | ol ps => obtain ⟨xs, rfl, d⟩ := h; intro _ z; cases z
  | od t kvs =>
    cases t with
    | false => obtain ⟨es, rfl, d⟩ := h; intro _ z; cases z
    | true => obtain ⟨es, rfl, d⟩ := h; intro _ z; cases z
theorem Holds.same {o : HO} {s : Sl} (h : Holds K F o s) (e : Same F F') : Holds K F' o s := by
  cases s with
  | no => exact h.elim
  | v _ => exact h.elim
  | rw _ => exact h.elim
  | ol ps => obtain ⟨xs, rfl, d⟩ := h; exact ⟨xs, rfl, d.same e⟩
  | od t kvs =>
    cases t with
    | false => obtain ⟨es, rfl, d⟩ := h; exact ⟨es, rfl, d.same e⟩
    | true => obtain ⟨es, rfl, d⟩ := h; exact ⟨es, rfl, d.same e⟩
theorem Holds.nte {o : HO} {s : Sl} (h : Holds K F o s) : ¬ isTE o := by
  cases s with
  | no => exact h.elim
  | v _ => exact h.elim
  | rw _ => exact h.elim
  | ol ps => obtain ⟨xs, rfl, d⟩ := h; exact not_te rfl
  | od t kvs =>
    cases t with
    | false => obtain ⟨es, rfl, d⟩ := h; exact not_te rfl
    | true => obtain ⟨es, rfl, d⟩ := h; exact not_te rfl
/-- a slot takes a new list that it alone holds -/
theorem Rs.putG {i : Nat} {a : Addr} {o : HO} {s0 : Sl} (R : Rs K B F H σ ρ) (n : H a = none) (hh : Holds K F o s0) : Rs K B F (upd H a o) (σ.set i (some (.ref a))) (ρ.set i s0) := by
  have L := R.lay n (o := o)
  obtain ⟨f1, f2, f3⟩ := R.fresh n
  refine ⟨L.sub, L.ext, L.new, L.old, L.hrow, L.hr2, by rw [List.length_set, List.length_set]; exact R.len, fun j s hs => ?_, fun j k c s t hjk h1 h2 o1 o2 e1 e2 => ?_, L.tb, L.tbh⟩
  · rcases set_some hs with ⟨rfl, hl, rfl⟩ | ⟨ne, hs⟩
    · rw [List.getElem?_set_self (by rw [R.len]; exact hl)]
      exact hh.ok f2 f1 upd_same
    · rw [List.getElem?_set_ne ne]; exact L.at_ j s hs
  · have far : ∀ (l : Nat) (s : Sl), ρ[l]? = some s → s.owns = true → σ[l]? = some (some (V.ref a)) → False := fun l s hs o e => by
      have q := R.at_ l s hs
      rw [e] at q
      cases q with
      | no => cases o
      | v _ => cases o
      | ol _ _ h _ => rw [n] at h; cases h
      | row _ _ h =>
        obtain ⟨u, hu⟩ := h.there
        rw [n] at hu; cases hu
      | od _ _ h =>
        obtain ⟨u, hu, _⟩ := h.there
        rw [n] at hu; cases hu
    rcases set_some h1 with ⟨rfl, hl, _⟩ | ⟨ne, h1n⟩
    · rw [List.getElem?_set_self (by rw [R.len]; exact hl)] at e1
      cases e1
      rcases set_some h2 with ⟨rfl, _⟩ | ⟨ne, h2n⟩
      · exact hjk rfl
      · rw [List.getElem?_set_ne ne] at e2
        exact far k t h2n o2 e2
    · rw [List.getElem?_set_ne ne] at e1
      rcases set_some h2 with ⟨rfl, hl, _⟩ | ⟨ne2, h2n⟩
      · rw [List.getElem?_set_self (by rw [R.len]; exact hl)] at e2
        cases e2
        exact far j s h1n o1 e1
      · rw [List.getElem?_set_ne ne2] at e2
        exact R.apart j k c s t hjk h1n h2n o1 o2 e1 e2
theorem Rs.putO {i : Nat} {a : Addr} {xs : List V} {ps : List D} (R : Rs K B F H σ ρ) (n : H a = none) (d : DpAll K F xs ps) : Rs K B F (upd H a (.lst xs)) (σ.set i (some (.ref a))) (ρ.set i (.ol ps)) := R.putG n ⟨xs, rfl, d⟩
/-- what a slot owns -/
theorem Rs.own {i : Nat} {ps : List D} (R : Rs K B F H σ ρ) (h : ρ[i]? = some (.ol ps)) : ∃ a xs, σ[i]? = some (some (.ref a)) ∧ F a = none ∧ B.Ha a = none ∧ H a = some (.lst xs) ∧ DpAll K F xs ps := by
  have q := R.at_ i _ h
  generalize hσ : σ[i]? = x at q
  cases q with
  | ol f h0 h1 r => exact ⟨_, _, rfl, f, h0, h1, r⟩
/-- .. in one word -/
theorem Rs.ownG {i : Nat} {s : Sl} (R : Rs K B F H σ ρ) (h : ρ[i]? = some s) (hs : s.owns = true) (nr : ¬ s.IsRw) : ∃ a o, σ[i]? = some (some (.ref a)) ∧ F a = none ∧ B.Ha a = none ∧ H a = some o ∧ Holds K F o s := by
  have q := R.at_ i _ h
  generalize hσ : σ[i]? = x at q
  cases q with
  | no => cases hs
  | v _ => cases hs
  | row _ _ _ => exact absurd (.mk _) nr
  | ol f h0 h1 r => exact ⟨_, _, rfl, f, h0, h1, _, rfl, r⟩
  | @od t a kvs f h0 h1 =>
    cases t with
    | false => obtain ⟨es, e, d⟩ := h1; exact ⟨a, _, rfl, f, h0, e, es, rfl, d⟩
    | true => obtain ⟨es, e, d⟩ := h1; exact ⟨a, _, rfl, f, h0, e, es, rfl, d⟩
/-- .. is changed -/
theorem Rs.setG {i : Nat} {a : Addr} {o : HO} {s0 s1 : Sl} (R : Rs K B F H σ ρ) (h : ρ[i]? = some s0) (hs0 : s0.owns = true) (nr0 : ¬ s0.IsRw) (hσ : σ[i]? = some (some (.ref a))) (hh : Holds K F o s1) :
    Rs K B F (upd H a o) σ (ρ.set i s1) := by
  obtain ⟨a', o', e, f, h0, h1, r⟩ := R.ownG h hs0 nr0
  rw [hσ] at e; cases e
  have hil : i < ρ.length := (List.getElem?_eq_some_iff.mp h).1
  have nr : B.r ≠ some a := fun e => by
    exact R.hr2 a e h0
  refine ⟨same_upd2 R.sub f, R.ext, R.new, fun b x hb e => ?_, fun r hr => ?_, R.hr2, by rw [List.length_set]; exact R.len, fun j s hs => ?_, fun j k c s t hjk h1' h2' o1 o2 e1 e2 => ?_, R.tb.chg h1 r.nte, R.tbh⟩
  · rw [upd_ne (ne_of_none e h0)]; exact R.old b x hb e
  · obtain ⟨g1, g2⟩ := R.hrow r hr
    have ne : r ≠ a := fun e => nr (by rw [hr, e])
    exact ⟨g1, g2.mono (Same.refl _) fun o e => by rw [upd_ne ne]; exact e⟩
  · rcases set_some hs with ⟨rfl, hl, rfl⟩ | ⟨ne, hs⟩
    · rw [hσ]; exact hh.ok f h0 upd_same
    · have q := R.at_ j s hs
      have far : s.owns = true → σ[j]? = some (some (.ref a)) → False := fun o e => R.apart i j a _ s ne h hs hs0 o hσ e
      generalize hx : σ[j]? = x at q far
      cases q with
      | no => exact .no
      | v r => exact .v r
      | @ol c zs rs g1 g2 g3 g4 => exact .ol g1 g2 (by rw [upd_ne (fun e => far rfl (by rw [e]))]; exact g3) g4
      | @od t c kvs g1 g2 g3 => exact .od g1 g2 (g3.mono (Same.refl _) fun o e => by rw [upd_ne (fun e => far rfl (by rw [e]))]; exact e)
      | @row c _ g1 g2 g3 => exact .row g1 g2 (g3.mono (Same.refl _) fun o e => by rw [upd_ne (fun e => far rfl (by rw [e]))]; exact e)
  · rcases set_some h1' with ⟨rfl, hl, _⟩ | ⟨ne, h1n⟩
    · rcases set_some h2' with ⟨rfl, _⟩ | ⟨ne, h2n⟩
      · exact hjk rfl
      · exact R.apart i k c _ t hjk h h2n hs0 o2 e1 e2
    · rcases set_some h2' with ⟨rfl, hl, _⟩ | ⟨ne2, h2n⟩
      · exact R.apart j i c s _ hjk h1n h o1 hs0 e1 e2
      · exact R.apart j k c s t hjk h1n h2n o1 o2 e1 e2
theorem Rs.setO {i : Nat} {a : Addr} {xs ys : List V} {ps qs : List D} (R : Rs K B F H σ ρ) (h : ρ[i]? = some (.ol ps)) (hσ : σ[i]? = some (some (.ref a))) (hH : H a = some (.lst xs)) (d : DpAll K F ys qs) :
    Rs K B F (upd H a (.lst ys)) σ (ρ.set i (.ol qs)) := R.setG h rfl (fun z => by cases z) hσ ⟨ys, rfl, d⟩
end
end L2.P

namespace L2.P
open PySem PySem.Spec PyProof.Rows L2
section
variable {X : Cx} {st : Stmt} {rest : List Stmt} {e : Expr} {pos spos : Pos}
def wSeq (T U : TSt) : TSt := fun ρ K => T ρ fun fl => match fl with
  | .nx ρ' => U ρ' K
  | fl => K fl
def sSeq (f g : Rho → Option Fl) : Rho → Option Fl := fun ρ => match f ρ with
  | some (.nx ρ') => g ρ'
  | r => r
theorem sws_one {T : TSt} (h : SW X st T) : SWs X [st] T := ⟨h.mono, pss_one h.ps⟩
theorem sws_cons {T U : TSt} (h : SW X st T) (h2 : SWs X rest U) : SWs X (st :: rest) (wSeq T U) :=
  ⟨fun ρ K K' i q => h.mono _ _ _ (fun fl k => by
    cases fl with
    | nx ρ' => exact h2.mono _ _ _ i k
    | rt p => exact i _ k
    | bk p => exact i _ k
    | ct p => exact i _ k) q, (pss_cons h.ps h2.pss).imp fun En σ H ⟨B, F, ρ, R, q⟩ => ⟨B, F, ρ, R, h.mono _ _ _ (fun fl k => by
    cases fl with
    | nx ρ' => exact fun F' H' σ' R' s' => ⟨B, F', ρ', R', h2.mono _ _ _ (fun fl2 k2 => k2.mono s') k⟩
    | rt p => exact k
    | bk p => exact k
    | ct p => exact k) q⟩⟩
theorem sfs_cons {f g : Rho → Option Fl} (h : SF X st f) (h2 : SFs X rest g) : SFs X (st :: rest) (sSeq f g) := (sws_cons h h2).imp fW_mono fun ρ K ⟨p, e, k⟩ => by
  unfold sSeq at e
  cases q : f ρ with
  | none => rw [q] at e; cases e
  | some fl =>
    rw [q] at e
    refine ⟨fl, q, ?_⟩
    cases fl with
    | nx ρ' => exact ⟨p, e, k⟩
    | rt p => cases e; exact k
    | bk p => cases e; exact k
    | ct p => cases e; exact k
def sNil : Rho → Option Fl := fun ρ => some (.nx ρ)
theorem sfs_nil : SFs X [] sNil := ⟨fW_mono, pss_nil.imp fun En σ H ⟨B, F, ρ, R, p, e, q⟩ => by cases e; exact q F H σ R (Same.refl _)⟩
def sNever : Rho → Option Fl := fun _ => none
theorem sf_never : SF X st sNever := ⟨fW_mono, ps_never.imp fun En σ H ⟨B, F, ρ, R, p, e, q⟩ => by cases e⟩
def wRet (T : TW) : TSt := fun ρ K => T ρ fun p => K (.rt p)
def sRet (f : Rho → Option D) : Rho → Option Fl := fun ρ => (f ρ).map Fl.rt
theorem sw_ret {T : TW} (h : EW X e T) : SW X (.Return (some e) pos) (wRet T) :=
  ⟨fun ρ K K' i q => h.mono _ _ _ (fun p k => i _ k) q, (ps_ret h.pe).imp fun En σ H ⟨B, F, ρ, R, q⟩ => ⟨B, F, ρ, R, h.mono _ _ _ (fun p k F' H' v R' s d => k F' H' v ⟨σ, ρ, R'⟩ s d) q⟩⟩
theorem sf_ret {f : Rho → Option D} (h : EF X e f) : SF X (.Return (some e) pos) (sRet f) := (sw_ret h).imp fW_mono fun ρ K ⟨p, e, k⟩ => by
  obtain ⟨q, e1, rfl⟩ := Option.map_eq_some_iff.mp e
  exact ⟨q, e1, k⟩
/-- a slot's list is frozen -/
theorem Rs.freezeG {K : Fg} {B : Bs} {F H : Hp} {σ : St} {ρ : Rho} {i : Nat} {s0 : Sl} {p : D} (R : Rs K B F H σ ρ) (h : ρ[i]? = some s0) (hs0 : s0.owns = true) (nr0 : ¬ s0.IsRw) (hp : ∀ (a : Addr) (o : HO) (F' : Hp), F' a = some o → Holds K F' o s0 → Dp K F' (.ref a) p) : ∃ F' v, Rs K B F' H σ (ρ.set i (.v p)) ∧ Same F F' ∧ σ[i]? = some (some v) ∧ Dp K F' v p := by
  obtain ⟨a, o, hσ, f, h0, h1, r⟩ := R.ownG h hs0 nr0
  have hil : i < ρ.length := (List.getElem?_eq_some_iff.mp h).1
  have s : Same F (upd F a o) := same_upd f
  have dd : Dp K (upd F a o) (.ref a) p := hp a o _ upd_same (r.same s)
  refine ⟨upd F a o, .ref a, ⟨fun b x e => ?_, fun b x e => s b x (R.ext b x e), fun b h2 h3 => ?_, R.old, fun r hr => ?_, R.hr2, by rw [List.length_set]; exact R.len, fun j t ht => ?_, fun j k c t u hjk h1' h2' o1 o2 e1 e2 => ?_, R.tb.frz h1 r.nte, R.tbh⟩, s, hσ, dd⟩
  · by_cases q : b = a
    · subst q; rw [upd_same] at e; rw [h1]; exact e
    · rw [upd_ne q] at e; exact R.sub b x e
  · by_cases q : b = a
    · subst q; exact .inl h0
    · rw [upd_ne q] at h3; exact R.new b h2 h3
  · obtain ⟨g1, g2⟩ := R.hrow r hr
    have ne : r ≠ a := fun e => R.hr2 r hr (by rw [e]; exact h0)
    exact ⟨by rw [upd_ne ne]; exact g1, g2.mono s fun o e => e⟩
  · rcases set_some ht with ⟨rfl, hl, rfl⟩ | ⟨ne, ht⟩
    · rw [hσ]; exact .v dd
    · have q := R.at_ j t ht
      have far : t.owns = true → σ[j]? = some (some (V.ref a)) → False := fun o e => R.apart i j a _ t ne h ht hs0 o hσ e
      generalize hx : σ[j]? = x at q far
      cases q with
      | no => exact .no
      | v r => exact .v (r.same s)
      | @ol c zs rs g1 g2 g3 g4 => exact .ol (by rw [upd_ne (fun e => far rfl (by rw [e]))]; exact g1) g2 g3 (g4.same s)
      | @od t c kvs g1 g2 g3 => exact .od (by rw [upd_ne (fun e => far rfl (by rw [e]))]; exact g1) g2 (g3.mono s fun o e => e)
      | @row c _ g1 g2 g3 => exact .row (by rw [upd_ne (fun e => far rfl (by rw [e]))]; exact g1) g2 (g3.mono s fun o e => e)
  · rcases set_some h1' with ⟨rfl, hl, rfl⟩ | ⟨ne, h1'⟩
    · cases o1
    · rcases set_some h2' with ⟨rfl, hl, rfl⟩ | ⟨ne2, h2'⟩
      · cases o2
      · exact R.apart j k c t u hjk h1' h2' o1 o2 e1 e2
theorem Rs.freeze {K : Fg} {B : Bs} {F H : Hp} {σ : St} {ρ : Rho} {i : Nat} {ps : List D} (R : Rs K B F H σ ρ) (h : ρ[i]? = some (.ol ps)) : ∃ F' v, Rs K B F' H σ (ρ.set i (.v (.list ps))) ∧ Same F F' ∧ σ[i]? = some (some v) ∧ Dp K F' v (.list ps) :=
  R.freezeG h rfl (fun z => by cases z) fun a o F' e hh => by obtain ⟨xs, rfl, d⟩ := hh; exact .lst (.inl (.inl e)) d
/-- return x, x a list of this def's own -/
theorem sw_retx {T : TW} (h : XW X e T) : SW X (.Return (some e) pos) (wRet T) :=
  ⟨fun ρ K K' i q => h.mono _ _ _ (fun p k => i _ k) q, (ps_ret h.pe).imp fun En σ H ⟨B, F, ρ, R, q⟩ => ⟨B, F, ρ, R, h.mono _ _ _ (fun p k F' H' v R' s d => by
    rcases d with d | ⟨i, ps, h1, h2, rfl⟩
    · exact k F' H' v ⟨σ, ρ, R'⟩ s d
    · obtain ⟨F2, v2, R2, s2, e2, d2⟩ := R'.freeze h1
      rw [h2] at e2
      cases e2
      exact k F2 H' v ⟨σ, _, R2⟩ (s.trans s2) d2) q⟩⟩
theorem sf_retx {f : Rho → Option D} (h : XF X e f) : SF X (.Return (some e) pos) (sRet f) := (sw_retx h).imp fW_mono fun ρ K ⟨p, e, k⟩ => by
  obtain ⟨q, e1, rfl⟩ := Option.map_eq_some_iff.mp e
  exact ⟨q, e1, k⟩
/-- ahead of a block: lists of this def's own are frozen from here on -/
def frz (ρ : Rho) : List Nat → Rho
  | [] => ρ
  | i :: is => match (frz ρ is)[i]? with
    | some (.ol ps) => (frz ρ is).set i (.v (.list ps))
    | _ => frz ρ is
theorem Rs.frz {K : Fg} {B : Bs} {F H : Hp} {σ : St} {ρ : Rho} (R : Rs K B F H σ ρ) : ∀ is : List Nat, ∃ F', Rs K B F' H σ (frz ρ is) ∧ Same F F'
  | [] => ⟨F, R, Same.refl _⟩
  | i :: is => by
    obtain ⟨F', R', s⟩ := Rs.frz R is
    unfold P.frz
    split
    · rename_i ps h
      obtain ⟨F2, v, R2, s2, _⟩ := R'.freeze h
      exact ⟨F2, R2, s.trans s2⟩
    · exact ⟨F', R', s⟩
def wSet (i : Nat) (T : TW) : TSt := fun ρ K => T ρ fun p => K (.nx (ρ.set i (.v p)))
def sSet (i : Nat) (f : Rho → Option D) : Rho → Option Fl := fun ρ => (f ρ).map fun p => .nx (ρ.set i (.v p))
theorem sw_set {i : Nat} {x : Str} {T : TW} {p' : Pos} (hN : X.N.Nodup) (hi : X.N[i]? = some x) (hx : Loc X.env.scope x) (h : EW X e T) (hs : swapsWith e (some (.Name x p')) pos.line X.env = pure false := by rfl)
    (hf : X.fn x = true ∨ X.env.scope.names.lookup x = some .local := by first | exact .inl rfl | exact .inr rfl | assumption) : SW X (.Assign [.Name x p'] e pos) (wSet i T) :=
  ⟨fun ρ K K' k q => h.mono _ _ _ (fun p => k _) q, (ps_set hN hi hx h.pe hs hf).imp fun En σ H ⟨B, F, ρ, R, q⟩ => ⟨B, F, ρ, R, h.mono _ _ _ (fun p k F' H' v R' s d => k F' H' _ (R'.put (.v d) rfl) s) q⟩⟩
theorem sf_set {i : Nat} {x : Str} {f : Rho → Option D} {p' : Pos} (hN : X.N.Nodup) (hi : X.N[i]? = some x) (hx : Loc X.env.scope x) (h : EF X e f) (hs : swapsWith e (some (.Name x p')) pos.line X.env = pure false := by rfl)
    (hf : X.fn x = true ∨ X.env.scope.names.lookup x = some .local := by first | exact .inl rfl | exact .inr rfl | assumption) : SF X (.Assign [.Name x p'] e pos) (sSet i f) := (sw_set hN hi hx h hs hf).imp fW_mono fun ρ K ⟨p, e, k⟩ => by
  obtain ⟨q, e1, rfl⟩ := Option.map_eq_some_iff.mp e
  exact ⟨q, e1, k⟩
theorem ns_set {i : Nat} {x : Str} {T : TL} {p' : Pos} (hN : X.N.Nodup) (hi : X.N[i]? = some x) (hx : Loc X.env.scope x) (h : NW X e T) (hs : swapsWith e (some (.Name x p')) pos.line X.env = pure false := by rfl)
    (hf : X.fn x = true ∨ X.env.scope.names.lookup x = some .local := by first | exact .inl rfl | exact .inr rfl | assumption) : NS X (.Assign [.Name x p'] e pos) i T := ⟨h.mono, ps_set hN hi hx h.pe hs hf⟩
def wSetO (i : Nat) (T : TL) : TSt := fun ρ K => T ρ fun p => K (.nx (ρ.set i (.ol p)))
def sSetO (i : Nat) (f : Rho → Option (List D)) : Rho → Option Fl := fun ρ => (f ρ).map fun p => .nx (ρ.set i (.ol p))
def wSetL (i : Nat) (T : TL) : TSt := fun ρ K => T ρ fun p => K (.nx (ρ.set i (.v (.list p))))
def sSetL (i : Nat) (f : Rho → Option (List D)) : Rho → Option Fl := fun ρ => (f ρ).map fun p => .nx (ρ.set i (.v (.list p)))
theorem NS.o {i : Nat} {T : TL} (h : NS X st i T) : SW X st (wSetO i T) :=
  ⟨fun ρ K K' k q => h.mono _ _ _ (fun p => k _) q, h.ps.imp fun En σ H ⟨B, F, ρ, R, q⟩ => ⟨B, F, ρ, R, h.mono _ _ _ (fun p k F' H' a xs R' s n d => k F' _ _ (R'.putO n d) s) q⟩⟩
theorem NS.l {i : Nat} {T : TL} (h : NS X st i T) : SW X st (wSetL i T) :=
  ⟨fun ρ K K' k q => h.mono _ _ _ (fun p => k _) q, h.ps.imp fun En σ H ⟨B, F, ρ, R, q⟩ => ⟨B, F, ρ, R, h.mono _ _ _ (fun p k F' H' a xs R' s n d => by
    have n' := R'.sub.free n
    exact k _ _ _ ((R'.grow n).put (.v (.lst (.inl (.inl upd_same)) (d.same (same_upd n')))) rfl) (s.trans (same_upd n'))) q⟩⟩
theorem NS.imp {i : Nat} {T T' : TL} (h : NS X st i T) (m : ∀ ρ K K', (∀ p, K p → K' p) → T' ρ K → T' ρ K') (k : ∀ ρ K, T' ρ K → T ρ K) : NS X st i T' := ⟨m, h.ps.imp fun D σ H q => tAsg_imp (t := tN X.K T) (t' := tN X.K T') (fun _ _ _ ⟨B, F, ρ, R, q⟩ => ⟨B, F, ρ, R, k _ _ q⟩) D σ H q⟩
abbrev NSF (X : Cx) (st : Stmt) (i : Nat) (f : Rho → Option (List D)) : Prop := NS X st i (fW f)
theorem NS.lc {i : Nat} {is : List Nat} {g : Tg} {t : Rho → Option Bool} {f : Rho → Option D} {u : Rho → Option (List D)} (h : NS X st i (wLc is g (fW t) (fW f) (fW u))) : NSF X st i (cLc is g t f u) := h.imp fW_mono cLc_w
theorem NSF.so {i : Nat} {f : Rho → Option (List D)} (h : NSF X st i f) : SF X st (sSetO i f) := (NS.o h).imp fW_mono fun ρ K ⟨p, e, k⟩ => by
  obtain ⟨q, e1, rfl⟩ := Option.map_eq_some_iff.mp e
  exact ⟨q, e1, k⟩
theorem NSF.sl {i : Nat} {f : Rho → Option (List D)} (h : NSF X st i f) : SF X st (sSetL i f) := (NS.l h).imp fW_mono fun ρ K ⟨p, e, k⟩ => by
  obtain ⟨q, e1, rfl⟩ := Option.map_eq_some_iff.mp e
  exact ⟨q, e1, k⟩
def wAsg (g : Tg) (T : TW) : TSt := fun ρ K => T ρ fun p => ∃ ρ', g p ρ = some ρ' ∧ K (.nx ρ')
theorem sw_asg {tg : Expr} {g : Tg} {is : List Nat} {T : TW} (h : EW X e T) (hg : GW X tg g is) (hs : swapsWithSole [tg] e pos.line X.env = pure false := by rfl) (hw : swappedStores [tg] e X.env = pure none := by rfl)
    (h1 : (assignEach [tg] X.env).map (·.2) = [assign tg X.env] := by rfl) : SW X (.Assign [tg] e pos) (wAsg g T) :=
  ⟨fun ρ K K' k q => h.mono _ _ _ (fun p ⟨ρ', e, z⟩ => ⟨ρ', e, k _ z⟩) q, (ps_asg h.pe hg hs hw h1).imp fun En σ H ⟨B, F, ρ, R, q⟩ => ⟨B, F, ρ, R, h.mono _ _ _ (fun p ⟨ρ', eg, k⟩ F' H' v R' s d =>
    ⟨B, F', ρ, p, ρ', R', d, eg, fun σ' R2 _ _ _ => k F' H' σ' R2 s⟩) q⟩⟩
def sDrop (f : Rho → Option D) : Rho → Option Fl := fun ρ => (f ρ).map fun _ => .nx ρ
theorem sf_expr {f : Rho → Option D} (h : EF X e f) (hs : swapsWith e none pos.line X.env = pure false := by rfl) : SF X (.Expr e pos) (sDrop f) :=
  ⟨fW_mono, (ps_expr h.pe hs).imp fun En σ H ⟨B, F, ρ, R, p, e, q⟩ => by
    obtain ⟨z, e1, rfl⟩ := Option.map_eq_some_iff.mp e
    exact ⟨B, F, ρ, R, z, e1, fun F' H' v R' s d => q F' H' σ R' s⟩⟩
def wApp (i : Nat) (T : TW) : TSt := fun ρ K => ∃ ps, ρ[i]? = some (.ol ps) ∧ T ρ fun p => ps.length < sizeLine ∧ K (.nx (ρ.set i (.ol (ps ++ [p]))))
def sApp (i : Nat) (f : Rho → Option D) : Rho → Option Fl := fun ρ => match ρ[i]? with
  | some (.ol ps) => (f ρ).bind fun p => if ps.length < sizeLine then some (.nx (ρ.set i (.ol (ps ++ [p])))) else none
  | _ => none
theorem sw_app {i : Nat} {x : Str} {T : TW} {p1 p2 p3 : Pos} (hN : X.N[i]? = some x) (hv : Vis X.env.scope x) (h : EW X e T) (hd : (x == ("__debug__" : Str)) = false := by decide) (hcd : (x == ("__classdict__" : Str)) = false := by decide)
    (hbase : attributeBase (.Name x p1) "append" X.env (eval (.Name x p1) X.env) = eval (.Name x p1) X.env := by rfl)
    (hfew : ((backTo p3 (starEach [e] X.env)).all (fun x => !x.1) && (backToKw p3 (keywordEach [] X.env)).all (fun x => x.1.isSome) && decide (([e] : List Expr).length + ([] : List Keyword).length + (if ([] : List Keyword).isEmpty then 0 else 1) < 30)) = true := by rfl)
    (hline : (p2.endLine == p3.line) = true := by rfl) (hs : starEach [e] X.env = (false, eval e X.env) :: starEach [] X.env := by rfl) (hs2 : swapsWith (.Call (.Attribute (.Name x p1) "append" p2) [e] [] p3) none pos.line X.env = pure false := by rfl) :
    SW X (.Expr (.Call (.Attribute (.Name x p1) "append" p2) [e] [] p3) pos) (wApp i T) :=
  ⟨fun ρ K K' k ⟨ps, e1, q⟩ => ⟨ps, e1, h.mono _ _ _ (fun p z => ⟨z.1, k _ z.2⟩) q⟩,
    (ps_expr (pe_bm PySem.F.plainAttrs_list PySem.F.slot_list_append PySem.F.type_list_append mt_append (pe_var hN hv hd hcd) (pa_cons h.pe pa_nil hs) hbase hfew hline hs rfl) hs2).imp fun En σ H ⟨B, F, ρ, R, ps, ei, q⟩ => by
      obtain ⟨a, xs, hσ, f, h0, h1, r⟩ := R.own ei
      refine ⟨.ref a, hσ, .inl ⟨rfl, xs, .inl (.inl h1)⟩, B, F, ρ, R, h.mono _ _ _ (fun p k F' H' v R' s d => ?_) q⟩
      obtain ⟨a', xs', hσ', f', h0', h1', r'⟩ := R'.own ei
      rw [hσ] at hσ'; cases hσ'
      have hl := r'.length
      exact ⟨a, xs', v, rfl, rfl, h1', by rw [hl]; exact k.1, k.2 F' _ σ (R'.setO ei hσ h1' (r'.append (.cons d .nil))) s⟩⟩
theorem sf_app {i : Nat} {x : Str} {fe : Rho → Option D} {p1 p2 p3 : Pos} (hN : X.N[i]? = some x) (hv : Vis X.env.scope x) (h : EF X e fe) (hd : (x == ("__debug__" : Str)) = false := by decide) (hcd : (x == ("__classdict__" : Str)) = false := by decide)
    (hbase : attributeBase (.Name x p1) "append" X.env (eval (.Name x p1) X.env) = eval (.Name x p1) X.env := by rfl)
    (hfew : ((backTo p3 (starEach [e] X.env)).all (fun x => !x.1) && (backToKw p3 (keywordEach [] X.env)).all (fun x => x.1.isSome) && decide (([e] : List Expr).length + ([] : List Keyword).length + (if ([] : List Keyword).isEmpty then 0 else 1) < 30)) = true := by rfl)
    (hline : (p2.endLine == p3.line) = true := by rfl) (hs : starEach [e] X.env = (false, eval e X.env) :: starEach [] X.env := by rfl) (hs2 : swapsWith (.Call (.Attribute (.Name x p1) "append" p2) [e] [] p3) none pos.line X.env = pure false := by rfl) :
    SF X (.Expr (.Call (.Attribute (.Name x p1) "append" p2) [e] [] p3) pos) (sApp i fe) := (sw_app hN hv h hd hcd hbase hfew hline hs hs2).imp fW_mono fun ρ K ⟨p, e, k⟩ => by
  unfold sApp at e
  split at e
  · rename_i ps hp
    obtain ⟨z, e1, e2⟩ := Option.bind_eq_some_iff.mp e
    split at e2
    · rename_i hz
      cases e2
      exact ⟨ps, hp, z, e1, hz, k⟩
    · cases e2
  · cases e
def wIfS (t : TB) (T U : TSt) : TSt := fun ρ K => t ρ fun b => if b = true then T ρ K else U ρ K
def sIf (t : Rho → Option Bool) (f g : Rho → Option Fl) : Rho → Option Fl := fun ρ => (t ρ).bind fun b => if b = true then f ρ else g ρ
theorem sw_if {c : Expr} {a b : List Stmt} {t : TB} {T U : TSt} (h : TWT X c t) (h1 : SWs X a T) (h2 : SWs X b U) : SW X (.If c a b pos) (wIfS t T U) :=
  ⟨fun ρ K K' i q => h.mono _ _ _ (fun b k => by
    cases b with
    | true => exact h1.mono _ _ _ i k
    | false => exact h2.mono _ _ _ i k) q, (ps_if h.pt h1.pss h2.pss).imp fun En σ H ⟨B, F, ρ, R, q⟩ => ⟨B, F, ρ, R, h.mono _ _ _ (fun b k F' H' R' s => by
      cases b with
      | true => exact ⟨B, F', ρ, R', h1.mono _ _ _ (fun fl z => z.mono s) k⟩
      | false => exact ⟨B, F', ρ, R', h2.mono _ _ _ (fun fl z => z.mono s) k⟩) q⟩⟩
theorem sf_if {c : Expr} {a b : List Stmt} {t : Rho → Option Bool} {f g : Rho → Option Fl} (h : TF X c t) (h1 : SFs X a f) (h2 : SFs X b g) : SF X (.If c a b pos) (sIf t f g) := (sw_if h h1 h2).imp fW_mono fun ρ K ⟨p, e, k⟩ => by
  obtain ⟨d, e1, e2⟩ := Option.bind_eq_some_iff.mp e
  refine ⟨d, e1, ?_⟩
  cases d with
  | true => exact ⟨p, e2, k⟩
  | false => exact ⟨p, e2, k⟩
def forW (g : Tg) (T : TSt) : List D → Rho → (Fl → Prop) → Prop
  | [], ρ, K => K (.nx ρ)
  | p :: ps, ρ, K => ∃ ρ', g p ρ = some ρ' ∧ T ρ' fun fl => match fl with
    | .nx ρ2 => forW g T ps ρ2 K
    | .ct ρ2 => forW g T ps ρ2 K
    | .bk ρ2 => K (.nx ρ2)
    | .rt v => K (.rt v)
theorem forW_mono {g : Tg} {T : TSt} (m : ∀ ρ K K', (∀ p, K p → K' p) → T ρ K → T ρ K') : ∀ (ps : List D) (ρ : Rho) (K K' : Fl → Prop), (∀ p, K p → K' p) → forW g T ps ρ K → forW g T ps ρ K'
  | [], _, _, _, h, q => h _ q
  | p :: ps, ρ, K, K', h, ⟨ρ', e, q⟩ => ⟨ρ', e, m _ _ _ (fun fl k => by
      cases fl with
      | nx ρ2 => exact forW_mono m ps ρ2 K K' h k
      | ct ρ2 => exact forW_mono m ps ρ2 K K' h k
      | bk ρ2 => exact h _ k
      | rt v => exact h _ k) q⟩
def forF (g : Tg) (f : Rho → Option Fl) : List D → Rho → Option Fl
  | [], ρ => some (.nx ρ)
  | p :: ps, ρ => (g p ρ).bind fun ρ' => match f ρ' with
    | some (.nx ρ2) => forF g f ps ρ2
    | some (.ct ρ2) => forF g f ps ρ2
    | some (.bk ρ2) => some (.nx ρ2)
    | some (.rt v) => some (.rt v)
    | none => none
theorem forF_W {g : Tg} {f : Rho → Option Fl} : ∀ (ps : List D) (ρ : Rho) (out : Fl) (K : Fl → Prop), forF g f ps ρ = some out → K out → forW g (fW f) ps ρ K
  | [], ρ, out, K, e, k => by cases e; exact k
  | p :: ps, ρ, out, K, e, k => by
    unfold forF at e
    obtain ⟨ρ', e1, e⟩ := Option.bind_eq_some_iff.mp e
    refine ⟨ρ', e1, ?_⟩
    split at e
    · rename_i ρ2 h; exact ⟨_, h, forF_W ps ρ2 out K e k⟩
    · rename_i ρ2 h; exact ⟨_, h, forF_W ps ρ2 out K e k⟩
    · rename_i ρ2 h; cases e; exact ⟨_, h, k⟩
    · rename_i v h; cases e; exact ⟨_, h, k⟩
    · cases e
def wFor (g : Tg) (U : TL) (T : TSt) : TSt := fun ρ K => U ρ fun ps => forW g T ps ρ K
def sFor (g : Tg) (u : Rho → Option (List D)) (f : Rho → Option Fl) : Rho → Option Fl := fun ρ => (u ρ).bind fun ps => forF g f ps ρ
theorem sw_for {tg iter : Expr} {body : List Stmt} {g : Tg} {is : List Nat} {U : TL} {T : TSt} (hp : PassesOwn (model X.prog X.w) X.A X.env X.xe) (hc : X.calm = true) (hi : IW X tg iter U) (hg : GW X tg g is) (hb : SWs X body T)
    (hs : ∀ x, foldedSetIterable iter X.env x = pure x := by intro _; rfl) : SW X (.For tg iter body [] pos) (wFor g U T) := by
  refine ⟨fun ρ K K' h q => hi.mono _ _ _ (fun ps k => forW_mono hb.mono ps ρ K K' h k) q, (ps_for hp hc hi.pi hg hb.pss hs).imp fun En σ H ⟨B, F, ρ, R, q⟩ => ⟨B, F, ρ, R, hi.mono _ _ _ (fun ps k F1 H1 J R1 s1 hz wk => ?_) q⟩⟩
  refine ⟨fun i m σ H => m = ps.length - i ∧ i ≤ ps.length ∧ ∃ F2 ρ2, Rs X.K B F2 H σ ρ2 ∧ Same F1 F2 ∧ forW g T (ps.drop i) ρ2 (endOk X.K B F En), ⟨ps.length, by simp, Nat.zero_le _, F1, ρ, R1, Same.refl _, k⟩, ?_⟩
  rintro i m σ2 H2 ⟨rfl, hi2, F2, ρ2, R2, s2, q2⟩
  have sH : Same F1 H2 := s2.trans R2.sub
  by_cases hlt : i < ps.length
  · refine .inr ⟨wk.go i H2 hlt sH, fun σ' H' => ∃ F3 ρ3, Rs X.K B F3 H' σ' ρ3 ∧ Same F1 F3 ∧ forW g T (ps.drop (i + 1)) ρ3 (endOk X.K B F En), fun σ' H' n => ⟨ps.length - (i + 1), by omega, rfl, hlt, n⟩, fun x H' hy => ?_⟩
    obtain ⟨p, hp', y⟩ := wk.yld i H2 x H' hlt sH hy
    have e0 : ps.drop i = p :: ps.drop (i + 1) := by
      rw [List.drop_eq_getElem_cons hlt]
      obtain ⟨_, e⟩ := List.getElem?_eq_some_iff.mp hp'
      rw [e]
    rw [e0] at q2
    obtain ⟨ρ', eg, q2⟩ := q2
    obtain ⟨F3, R3, s3, d3⟩ := yl_step R2 s2 y
    refine ⟨B, F3, ρ2, p, ρ', R3, d3, eg, fun σ' R4 _ _ _ => ⟨B, F3, ρ', R4, hb.mono _ _ _ (fun fl k => ?_) q2⟩⟩
    have sF : Same F F3 := (s1.trans s2).trans s3
    cases fl with
    | nx ρ3 => exact fun F4 H4 σ4 R5 s5 => ⟨F4, ρ3, R5, (s2.trans s3).trans s5, k⟩
    | ct ρ3 => exact fun F4 H4 σ4 R5 s5 => ⟨F4, ρ3, R5, (s2.trans s3).trans s5, k⟩
    | bk ρ3 => exact fun F4 H4 σ4 R5 s5 => k F4 H4 σ4 R5 (sF.trans s5)
    | rt v => exact fun F4 H4 u R5 s5 d5 => k F4 H4 u R5 (sF.trans s5) d5
  · have e : i = ps.length := by omega
    subst e
    rw [List.drop_length] at q2
    exact .inl ⟨wk.stop H2 sH, q2 F2 H2 σ2 R2 (s1.trans s2)⟩
theorem sf_for {tg iter : Expr} {body : List Stmt} {g : Tg} {is : List Nat} {u : Rho → Option (List D)} {f : Rho → Option Fl} (hp : PassesOwn (model X.prog X.w) X.A X.env X.xe) (hc : X.calm = true) (hi : IF X tg iter u) (hg : GW X tg g is) (hb : SFs X body f)
    (hs : ∀ x, foldedSetIterable iter X.env x = pure x := by intro _; rfl) : SF X (.For tg iter body [] pos) (sFor g u f) := (sw_for hp hc hi hg hb hs).imp fW_mono fun ρ K ⟨p, e, k⟩ => by
  obtain ⟨ps, e1, e2⟩ := Option.bind_eq_some_iff.mp e
  exact ⟨ps, e1, forF_W ps ρ p K e2 k⟩
end
end L2.P

namespace L2.P
open PySem PySem.Spec PyProof.Rows L2

/-- a def of n parameters: its result is a function of its arguments' data -/
def spF (K : Fg) (n : Nat) (T : List D → (D → Prop) → Prop) : Sp := fun vs H Q _ => vs.length = n ∧ ∃ F ps, Same F H ∧ TbOk K F H ∧ DpAll K F vs ps ∧
  T ps fun p => ∀ F' H' v, Same F F' → SameX K none H H' → Same F' H' → TbOk K F' H' → (∀ b, F b = none → F' b ≠ none → Fz (H b)) → Dp K F' v p → Q v H'
/-- a def whose first argument is the row of draws -/
def spR (K : Fg) (n : Nat) (T : List D → (D → Prop) → Prop) : Sp := fun vs H Q _ => vs.length = n + 1 ∧ ∃ r us F ps, vs = .ref r :: us ∧ Same F H ∧ TbOk K F H ∧ F r = none ∧ RowOk K none F H r ∧ DpAll K F us ps ∧
  T ps fun p => ∀ F' H' v, Same F F' → SameX K (some r) H H' → Same F' H' → TbOk K F' H' → (∀ b, F b = none → F' b ≠ none → Fz (H b)) → RowOk K none F' H' r → Dp K F' v p → Q v H'
/-- a def that may be called: its level k -/
def Cal (P : Program) (w : World) (K : Fg) (mg : Str → Option Value) (base : Heap) (A : Around) (x : Str) (sp : Sp) : Prop :=
  ∃ (k : Nat) (f : Addr) (fd : FuncData) (ps : List Str), FnOk P w K mg base CX0 k f fd ps sp ∧ Room k A ∧ mg x = some (.ref f) ∧ PySem.W.keepIn K (.ref f) = true ∧ Binds K fd ps []
abbrev CalX (X : Cx) (x : Str) (sp : Sp) : Prop := Cal X.prog X.w X.K X.mg X.base X.A x sp
section
variable {K : Fg} {B : Bs} {F F' H H' : Hp} {σ : St} {ρ : Rho}
/-- behind a call of a def -/
theorem Rs.call (R : Rs K B F H σ ρ) (s : Same F F') (sH : SameX K none H H') (sF : Same F' H') (tb : TbOk K F' H') (fr : ∀ b, F b = none → F' b ≠ none → Fz (H b)) : Rs K B F' H' σ ρ where
  tb := tb
  tbh := R.tbh
  sub := sF
  ext := R.ext.trans s
  new := fun b h1 h2 => by
    cases q : F b with
    | none => exact R.fz (fr b q h2)
    | some u => exact R.new b h1 (by rw [q]; simp)
  old := fun b x hb e => sH.any b x hb (R.old b x hb e)
  hrow := fun r hr => by
    obtain ⟨h1, h2⟩ := R.hrow r hr
    obtain ⟨u, hu, nt⟩ := h2.thereN
    have nr : ∀ p ∈ tbT K, p.1 ≠ r := h2.nob R.tb
    refine ⟨?_, h2.mono s fun o e => sH _ _ ⟨by simp, nr⟩ e⟩
    cases q : F' r with
    | none => rfl
    | some z =>
      rcases fr r h1 (by rw [q]; simp) with this | ⟨xs, this⟩
      · rw [hu] at this; cases this
      · rw [hu] at this; exact absurd (Option.some.inj this) (nt xs)
  hr2 := R.hr2
  len := R.len
  at_ := fun i t ht => (R.at_ i t ht).monoT s (fun a f ⟨o, q, nt⟩ => by
    cases z : F' a with
    | none => rfl
    | some u =>
      rcases fr a f (by rw [z]; simp) with this | ⟨xs, this⟩
      · rw [q] at this; cases this
      · rw [q] at this; exact absurd (Option.some.inj this) (nt xs)) fun a o f nt q => sH _ _ ⟨by simp, R.tb.ne q nt⟩ q
  apart := R.apart
/-- behind a call of a def that draws: the row is r -/
theorem Rs.callR {m : Option MG} {r : Addr} {i : Nat} (R : Rs K B F H σ ρ) (hi : ρ[i]? = some (.rw m)) (hσ : σ[i]? = some (some (.ref r))) (s : Same F F') (sH : SameX K (some r) H H') (sF : Same F' H') (tb : TbOk K F' H') (fr : ∀ b, F b = none → F' b ≠ none → Fz (H b)) (ok : RowOk K m F' H' r) : Rs K B F' H' σ ρ := by
  have q := R.at_ i _ hi
  rw [hσ] at q
  obtain ⟨f0, h0, ok0⟩ : F r = none ∧ (B.Ha r = none ∨ (B.r = some r ∧ B.m = m ∧ noX m)) ∧ RowOk K m F H r := by
    cases q with
    | row a b c => exact ⟨a, b, c⟩
  have fre : ∀ a, F a = none → (∃ o, H a = some o ∧ ∀ xs, o ≠ HO.tup xs) → F' a = none := fun a f ⟨o, q, nt⟩ => by
    cases z : F' a with
    | none => rfl
    | some u =>
      rcases fr a f (by rw [z]; simp) with this | ⟨xs, this⟩
      · rw [q] at this; cases this
      · rw [q] at this; exact absurd (Option.some.inj this) (nt xs)
  refine ⟨sF, R.ext.trans s, fun b h1 h2 => ?_, fun b x hb e => ?_, fun r' hr => ?_, R.hr2, R.len, fun j t ht => ?_, R.apart, tb, R.tbh⟩
  · cases q : F b with
    | none => exact R.fz (fr b q h2)
    | some u => exact R.new b h1 (by rw [q]; simp)
  · refine sH b x ⟨fun z => ?_, hb.2⟩ (R.old b x hb e)
    cases z
    rcases h0 with h0 | h0
    · rw [h0] at e; cases e
    · exact hb.1 h0.1.symm
  · obtain ⟨h1, h2⟩ := R.hrow r' hr
    refine ⟨fre r' h1 h2.thereN, ?_⟩
    by_cases e : r' = r
    · subst e
      rcases h0 with h0 | h0
      · exact absurd h0 (R.hr2 _ hr)
      · rw [h0.2.1]; exact ok
    · exact h2.mono s fun o z => sH _ _ ⟨fun y => e (by cases y; rfl), h2.nob R.tb⟩ z
  · by_cases e : i = j
    · subst e
      rw [hi] at ht; cases ht
      rw [hσ]
      exact .row (fre r f0 ok0.thereN) h0 ok
    · have q2 := R.at_ j t ht
      have far : t.owns = true → σ[j]? = some (some (V.ref r)) → False := fun o e2 => R.apart i j r _ t e hi ht rfl o hσ e2
      generalize hx : σ[j]? = x at q2 far
      cases q2 with
      | no => exact .no
      | v d => exact .v (d.same s)
      | @ol c zs rs g1 g2 g3 g4 => exact .ol (fre _ g1 ⟨_, g3, fun _ z => by cases z⟩) g2 (sH _ _ ⟨fun y => far rfl (by cases y; rfl), R.tb.ne g3 (not_te rfl)⟩ g3) (g4.same s)
      | @od t c kvs g1 g2 g3 => exact .od (fre _ g1 g3.there) g2 (g3.mono s fun o z => sH _ _ ⟨fun y => far rfl (by cases y; rfl), g3.nob R.tb⟩ z)
      | @row c _ g1 g2 g3 => exact .row (fre _ g1 g3.thereN) g2 (g3.mono s fun o z => sH _ _ ⟨fun y => far rfl (by cases y; rfl), g3.nob R.tb⟩ z)
end

section
variable {X : Cx} {x : Str} {p pos : Pos} {e : Expr} {es : List Expr} {n : Nat}
def wCal (T : List D → (D → Prop) → Prop) (U : TL) : TW := fun ρ K => U ρ fun ps => T ps K
theorem sp_ok {K : Fg} {U : TL} {T : List D → (D → Prop) → Prop} (mt : ∀ ps K K', (∀ p, K p → K' p) → T ps K → T ps K') (mu : ∀ ρ K K', (∀ p, K p → K' p) → U ρ K → U ρ K') (hl : LenW U n) {σ : St} {H : Hp} {Q : VK} (h : tW K (wCal T U) σ H Q) : tCall (spF K n T) [] E0 (tEA K U) σ H Q := by
  obtain ⟨B, F, ρ, R, q⟩ := h
  refine ⟨B, F, ρ, R, mu _ _ _ (fun ps k F1 H1 vs R1 s1 d1 => ?_) (hl _ _ q)⟩
  refine ⟨by rw [List.append_nil, d1.length]; exact k.1, F1, ps, R1.sub, R1.tb, by rw [List.append_nil]; exact d1, mt _ _ _ (fun z kz F2 H2 v s2 sH sF tb fr d2 => kz F2 H2 v (R1.call s2 sH sF tb fr) (s1.trans s2) d2) k.2⟩
theorem ew_call {T : List D → (D → Prop) → Prop} {U : TL} (c : CalX X x (spF X.K n T)) (mt : ∀ ps K K', (∀ p, K p → K' p) → T ps K → T ps K') (ha : EA X (e :: es) U) (hl : LenW U n) (hg : Gl X x) (hdb : (x == ("__debug__" : Str)) = false := by decide)
    (he : starEach (e :: es) X.env = (false, eval e X.env) :: starEach es X.env := by rfl) (hpl : (backTo pos (starEach es X.env)).any (·.1) = false := by rfl) : EW X (.Call (.Name x p) (e :: es) [] pos) (wCal T U) := by
  obtain ⟨k, f, fd, ps, F, hr, hm, hk, hb⟩ := c
  exact ⟨fun ρ K K' h q => ha.mono _ _ _ (fun ps => mt ps _ _ h) q, (pe_call F hr hg hm hk hb .nil pass0 ha.pa hdb he hpl).imp fun σ H Q h => sp_ok mt ha.mono hl h⟩
theorem ef_call {g : GA} {f : Rho → Option (List D)} (c : CalX X x (spF X.K n (fun ps K => ∃ z, g ps = some z ∧ K z))) (ha : EAF X (e :: es) f) (hl : LenA f n) (hg : Gl X x) (hdb : (x == ("__debug__" : Str)) = false := by decide)
    (he : starEach (e :: es) X.env = (false, eval e X.env) :: starEach es X.env := by rfl) (hpl : (backTo pos (starEach es X.env)).any (·.1) = false := by rfl) : EF X (.Call (.Name x p) (e :: es) [] pos) (aOf g f) :=
  EW.f ((ew_call c (fun ps K K' h ⟨z, e, k⟩ => ⟨z, e, h z k⟩) ha (fun ρ K ⟨p, e, k⟩ => ⟨p, e, hl _ _ e, k⟩) hg hdb he hpl).imp (wOf_mono fW_mono) fun ρ K q => q)
/-- f(row, e, ..): the row stands at slot i -/
theorem ew_callR {T : List D → (D → Prop) → Prop} {U : TL} {i : Nat} {y : Str} {py : Pos} (c : CalX X x (spR X.K n T)) (mt : ∀ ps K K', (∀ p, K p → K' p) → T ps K → T ps K') (hN : X.N[i]? = some y) (hv : Vis X.env.scope y) (ha : EA X es U) (hl : LenW U n) (hg : Gl X x) (hdb : (x == ("__debug__" : Str)) = false := by decide)
    (hd : (y == ("__debug__" : Str)) = false := by decide) (hcd : (y == ("__classdict__" : Str)) = false := by decide)
    (he : starEach (.Name y py :: es) X.env = (false, eval (.Name y py) X.env) :: starEach es X.env := by rfl) (hpl : (backTo pos (starEach es X.env)).any (·.1) = false := by rfl) : EW X (.Call (.Name x p) (.Name y py :: es) [] pos) (fun ρ K => ρ[i]? = some .row ∧ wCal T U ρ K) := by
  obtain ⟨k, f, fd, ps, F, hr, hm, hk, hb⟩ := c
  refine ⟨fun ρ K K' h ⟨z, q⟩ => ⟨z, ha.mono _ _ _ (fun ps => mt ps _ _ h) q⟩, (pe_call F hr hg hm hk hb .nil pass0 (pa_cons (pe_var hN hv hd hcd) ha.pa he) hdb he hpl).imp fun σ H Q ⟨B, F, ρ, R, hi, q⟩ => ?_⟩
  have z := R.at_ i _ hi
  generalize hσ : σ[i]? = o at z
  cases z with
  | @row r _ f0 h0 ok =>
    refine ⟨_, hσ, B, F, ρ, R, ha.mono _ _ _ (fun ps k F1 H1 vs R1 s1 d1 => ?_) (hl _ _ q)⟩
    have z1 := R1.at_ i _ hi
    rw [hσ] at z1
    cases z1 with
    | row f1 h1 ok1 =>
      refine ⟨by rw [List.append_nil, List.length_cons, d1.length]; rw [k.1], r, vs, F1, ps, by rw [List.append_nil], R1.sub, R1.tb, f1, ok1, d1, mt _ _ _ (fun z kz F2 H2 v s2 sH sF tb fr ok2 d2 => kz F2 H2 v (R1.callR hi hσ s2 sH sF tb fr ok2) (s1.trans s2) d2) k.2⟩
end

/-- the slots at the entry -/
def rho0 (n : Nat) (ps : List D) : Rho := ps.map Sl.v ++ List.replicate (n - ps.length) .no
/-- what the body makes of the arguments -/
def runW (n : Nat) (T : TSt) : List D → (D → Prop) → Prop := fun ps K => T (rho0 n ps) fun fl => match fl with
  | .rt p => K p
  | .nx _ => K .none
  | _ => False
def runF (n : Nat) (f : Rho → Option Fl) : GA := fun ps => match f (rho0 n ps) with
  | some (.rt p) => some p
  | some (.nx _) => some .none
  | _ => none
theorem start_at {N : List Str} {vs : List V} {i : Nat} {v : V} (h : vs[i]? = some v) : (start N vs)[i]? = some (some v) := by
  unfold start
  have hl : i < vs.length := (List.getElem?_eq_some_iff.mp h).1
  rw [List.getElem?_append_left (by simpa using hl), List.getElem?_map, h]
  rfl
theorem rho0_at {n : Nat} {ps : List D} {i : Nat} {s : Sl} (h : (rho0 n ps)[i]? = some s) : s = .no ∨ ∃ p, ps[i]? = some p ∧ s = .v p := by
  unfold rho0 at h
  by_cases hl : i < ps.length
  · rw [List.getElem?_append_left (by simpa using hl), List.getElem?_map, List.getElem?_eq_getElem hl] at h
    cases h
    exact .inr ⟨_, List.getElem?_eq_getElem hl, rfl⟩
  · rw [List.getElem?_append_right (by simpa using hl), List.getElem?_replicate] at h
    split at h
    · cases h; exact .inl rfl
    · cases h
section
variable {P : Program} {w : World} {K : Fg} {mg : Str → Option Value} {base : Heap} {x qual : Str} {params : Arguments} {body : List Stmt} {scope : Scope} {f : Addr} {fd : FuncData} {N ps : List Str} {k : Nat}
theorem rs_start {F H : Hp} {vs : List V} {ds : List D} (s : Same F H) (tb : TbOk K F H) (d : DpAll K F vs ds) (hl : vs.length ≤ N.length) : Rs K ⟨F, H, none, none⟩ F H (start N vs) (rho0 N.length ds) where
  sub := s
  ext := Same.refl _
  new := fun b h1 h2 => absurd h1 h2
  old := SameX.refl _
  hrow := fun r h => by cases h
  hr2 := fun r h => by cases h
  tb := tb
  tbh := fun p hp => by obtain ⟨ps, h1, _⟩ := tb.2.1 p hp; exact ⟨ps, h1⟩
  len := by unfold start rho0; have := d.length; simp only [List.length_append, List.length_map, List.length_replicate]; omega
  at_ := fun i t ht => by
    rcases rho0_at ht with rfl | ⟨p, hp, rfl⟩
    · exact .no
    · obtain ⟨v, hv, dv⟩ := d.get hp
      rw [start_at hv]
      exact .v dv
  apart := fun i j a s t hij h1 h2 o1 o2 e1 e2 => by
    rcases rho0_at h1 with rfl | ⟨p, hp, rfl⟩ <;> cases o1
/-- THE RULE: a def without draws -/
theorem fn_pure {T : TSt} {n : Nat} (Fd : FunD K x qual params body scope [] [] f fd) (S : FnScope N ps scope) (hn : ps.length = n) (hnN : n ≤ N.length)
    (hb : ∀ (cdv : Value) (A : Around) (outer : List Env) (s : Shared) (H : Hp) (E : XK), Room k (A.deeper (envOfC qual scope s.heap.objs.size f cdv)) → SWs (cxOf CX0 P w K mg base N qual scope f cdv A outer s H E).nox body T) :
    FnOk P w K mg base CX0 (k + 1) f fd ps (spF K n (runW N.length T)) := by
  refine Fd.ok S (fun vs H Q E h => by rw [h.1, hn]) fun cdv A outer s H vs Q E hr h => ?_
  have W := hb cdv A outer s H E hr
  refine ⟨_, PSs.nox W.pss, ?_⟩
  obtain ⟨hl, F, ds, sF, tb, d, q⟩ := h
  refine ⟨⟨F, H, none, none⟩, F, rho0 N.length ds, rs_start sF tb d (by omega), W.mono _ _ _ (fun fl k => ?_) q⟩
  cases fl with
  | nx ρ' => exact fun F' H' σ' R' s' => k F' H' .non s' R'.old R'.sub R'.tb R'.new .non
  | rt p => exact fun F' H' v ⟨σ', ρ', R'⟩ s' d' => k F' H' v s' R'.old R'.sub R'.tb R'.new d'
  | bk ρ' => exact k.elim
  | ct ρ' => exact k.elim
theorem fn_pureF {g : Rho → Option Fl} {n : Nat} (Fd : FunD K x qual params body scope [] [] f fd) (S : FnScope N ps scope) (hn : ps.length = n) (hnN : n ≤ N.length)
    (hb : ∀ (cdv : Value) (A : Around) (outer : List Env) (s : Shared) (H : Hp) (E : XK), Room k (A.deeper (envOfC qual scope s.heap.objs.size f cdv)) → SFs (cxOf CX0 P w K mg base N qual scope f cdv A outer s H E).nox body g) :
    FnOk P w K mg base CX0 (k + 1) f fd ps (spF K n (fun ds Kc => ∃ z, runF N.length g ds = some z ∧ Kc z)) := by
  refine FnOk.imp (fn_pure Fd S hn hnN hb) fun vs H Q E ⟨h0, F, ds, s, tb, d, z, e, q⟩ => ⟨h0, F, ds, s, tb, d, ?_⟩
  unfold runF at e
  split at e
  · rename_i p h; cases e; exact ⟨_, h, q⟩
  · rename_i p h; cases e; exact ⟨_, h, q⟩
  · cases e
/-- a weaker promise: by another function -/
theorem FnOk.fn {n : Nat} {g g' : GA} (h : FnOk P w K mg base CX0 k f fd ps (spF K n (fun ds Kc => ∃ z, g ds = some z ∧ Kc z))) (e : ∀ ds z, g' ds = some z → g ds = some z) : FnOk P w K mg base CX0 k f fd ps (spF K n (fun ds Kc => ∃ z, g' ds = some z ∧ Kc z)) :=
  FnOk.imp h fun vs H Q E ⟨h0, F, ds, s, tb, d, z, e1, q⟩ => ⟨h0, F, ds, s, tb, d, z, e ds z e1, q⟩
end
end L2.P

namespace L2.P
open PySem PySem.Spec PyProof.Rows L2
/-- built-in names that the module does not bind -/
structure Bi (mg : Str → Option Value) : Prop where
  len : mg "len" = none
  range : mg "range" = none
  tuple : mg "tuple" = none
  list : mg "list" = none
  sorted : mg "sorted" = none
  set : mg "set" = none
  any : mg "any" = none
  all : mg "all" = none
  min : mg "min" = none
  max : mg "max" = none
  sum : mg "sum" = none
  abs : mg "abs" = none
  int : mg "int" = none
  str : mg "str" = none
  bool : mg "bool" = none
  isinstance : mg "isinstance" = none
  enumerate : mg "enumerate" = none
  zip : mg "zip" = none
/-- a def that stands behind the top -/
def DefOk (P : Program) (w : World) (K : Fg) (mg : Str → Option Value) (base : Heap) (x : Str) (k : Nat) (sp : Sp) : Prop :=
  ∃ (f : Addr) (fd : FuncData) (ps : List Str), FnOk P w K mg base CX0 k f fd ps sp ∧ mg x = some (.ref f) ∧ PySem.W.keepIn K (.ref f) = true ∧ Binds K fd ps []
theorem DefOk.cal {P : Program} {w : World} {K : Fg} {mg : Str → Option Value} {base : Heap} {x : Str} {k j : Nat} {sp : Sp} {A : Around} (h : DefOk P w K mg base x k sp) (hr : Room j A) (hk : k ≤ j := by decide) : Cal P w K mg base A x sp := by
  obtain ⟨f, fd, ps, F, m, kp, b⟩ := h
  exact ⟨k, f, fd, ps, F, hr.mono hk, m, kp, b⟩
abbrev spG (K : Fg) (n : Nat) (g : GA) : Sp := spF K n (fun ps Kc => ∃ z, g ps = some z ∧ Kc z)
abbrev DG (P : Program) (w : World) (K : Fg) (mg : Str → Option Value) (base : Heap) (x : Str) (k n : Nat) (g : GA) : Prop := DefOk P w K mg base x k (spG K n g)
section
variable {X : Cx} {a b e : Expr} {es : List Expr} {p pos : Pos}
theorem ev (i : Nat) {x : Str} {pos : Pos} (hN : X.N[i]? = some x := by rfl) (hv : Vis X.env.scope x := by first | exact Or.inl rfl | exact Or.inr (Or.inl rfl) | exact Or.inr (Or.inr rfl)) (hd : (x == ("__debug__" : Str)) = false := by decide)
    (hcd : (x == ("__classdict__" : Str)) = false := by decide) : EF X (.Name x pos) (gV i) := ef_var hN hv hd hcd
theorem xv (i : Nat) {x : Str} {pos : Pos} (hN : X.N[i]? = some x := by rfl) (hv : Vis X.env.scope x := by first | exact Or.inl rfl | exact Or.inr (Or.inl rfl) | exact Or.inr (Or.inr rfl)) (hd : (x == ("__debug__" : Str)) = false := by decide)
    (hcd : (x == ("__classdict__" : Str)) = false := by decide) : XF X (.Name x pos) (gX i) := xf_var hN hv hd hcd
theorem ef_gint {i : Int} {x : Str} {pos : Pos} (h : ∃ t, X.mg x = some (.int i t)) (hg : Gl X x := by rfl) (hd : (x == ("__debug__" : Str)) = false := by decide) : EF X (.Name x pos) (gC (.int i)) := by
  obtain ⟨t, h⟩ := h
  exact ef_con (pe_glob (v := .int i) hg h ⟨_, rfl⟩ hd) fun _ _ => .int i
theorem c_len {f : Rho → Option (List D)} (B : Bi X.mg) (h : XAF X [a] f) (hg : Gl X "len" := by rfl) (he : starEach [a] X.env = (false, eval a X.env) :: starEach [] X.env := by rfl) : EF X (.Call (.Name "len" p) [a] [] pos) (aOf gLen f) := EW.f (ew_callB cg_len h hg B.len boot_len (he := he) (hpl := rfl))
theorem c_tuple {f : Rho → Option (List D)} (B : Bi X.mg) (h : XAF X [a] f) (hg : Gl X "tuple" := by rfl) (he : starEach [a] X.env = (false, eval a X.env) :: starEach [] X.env := by rfl) : EF X (.Call (.Name "tuple" p) [a] [] pos) (aOf gTup f) := EW.f (ew_callT cg_tuple h hg B.tuple (by decide +kernel) (he := he) (hpl := rfl))
theorem n_list {f : Rho → Option (List D)} (B : Bi X.mg) (h : XAF X [a] f) (hg : Gl X "list" := by rfl) (he : starEach [a] X.env = (false, eval a X.env) :: starEach [] X.env := by rfl) : NF X (.Call (.Name "list" p) [a] [] pos) (aOf gLst f) := NW.f (nw_callT cn_list h hg B.list (by decide +kernel) (he := he) (hpl := rfl))
theorem c_any {f : Rho → Option (List D)} (B : Bi X.mg) (h : XAF X [a] f) (hc : X.calm = true := by rfl) (hg : Gl X "any" := by rfl) (he : starEach [a] X.env = (false, eval a X.env) :: starEach [] X.env := by rfl) : EF X (.Call (.Name "any" p) [a] [] pos) (aOf gAny f) := EW.f (ew_callB (cg_any hc) h hg B.any (by decide +kernel) (he := he) (hpl := rfl))
theorem c_all {f : Rho → Option (List D)} (B : Bi X.mg) (h : XAF X [a] f) (hc : X.calm = true := by rfl) (hg : Gl X "all" := by rfl) (he : starEach [a] X.env = (false, eval a X.env) :: starEach [] X.env := by rfl) : EF X (.Call (.Name "all" p) [a] [] pos) (aOf gAll f) := EW.f (ew_callB (cg_all hc) h hg B.all (by decide +kernel) (he := he) (hpl := rfl))
end
end L2.P
namespace L2.P
open PySem PySem.Spec PyProof.Rows L2
theorem gw_sub {X : Cx} {tg : Expr} {g : Tg} {is is' : List Nat} (h : GW X tg g is) (hs : ∀ i ∈ is, i ∈ is' := by decide) : GW X tg g is' :=
  PG.imp h fun x σ H Q ⟨B, F, ρ, p, ρ', R, d, e, q⟩ => ⟨B, F, ρ, p, ρ', R, d, e, fun σ' R' hl h1 h2 => q σ' R' hl (fun j hj => h1 j fun z => hj (hs j z)) fun j hj => h2 j fun z => hj (hs j z)⟩
end L2.P
namespace L2.P
open PySem PySem.Spec PyProof.Rows L2
theorem bt_int : bootBuiltins "int" = some (.type "int") := by decide +kernel
theorem bt_bool : bootBuiltins "bool" = some (.type "bool") := by decide +kernel
theorem bt_str : bootBuiltins "str" = some (.type "str") := by decide +kernel
theorem bt_tuple : bootBuiltins "tuple" = some (.type "tuple") := by decide +kernel
theorem bt_isi : bootBuiltins "isinstance" = some (.builtin "isinstance") := by decide +kernel
end L2.P

namespace PySem
open Sem (wp)
open AutoSeq1 (wpAny_loadPart')
theorem meets_enumerate_newT_P (l : Addr) (items : Array Value) (n : Nat) (dct : Option Addr) (sl : Array (Option Value)) :
    Meets (Builtin.«enumerate.__new__» ⟨[.type "enumerate", .ref l], []⟩) (fun _ R s => s.heap.get? l = some { cls := .type "tuple", dict := dct, data := .seq items n, slots := sl } ∧
      R (.ok (.ret (.ref (s.heap.push { cls := .type "tuple_iterator", data := .fields #[.ref l, .int 0 0] }).objs.size)))
        { s with heap := (s.heap.push { cls := .type "tuple_iterator", data := .fields #[.ref l, .int 0 0] }).push { cls := .type "enumerate", data := .fields #[.none, .bool false, .ref s.heap.objs.size, rawInt 0, .none, .none] } }) :=
  .of_wp fun prog w A R s h => by
    obtain ⟨hp, g, d, tk, os⟩ := s; obtain ⟨hl, h⟩ := h
    have hsub := sub_enumerate
    have hL : Heap.IsTuple (Shared.heap ⟨hp, g, d, tk, os⟩) l items := ⟨_, hl, rfl, n, rfl⟩
    wp_walk using wpAny_loadPart' hl
    refine wpAny_stack_any fun st => wpAny_pure ?_
    split
    · rename_i c _ _ _ _ _
      cases (c == Value.type "enumerate")
      · wp_walk using wpAny_loadPart' hl, wpAny_pyIter_tuple hL
        exact ⟨_, rfl, h⟩
      · wp_walk using wpAny_loadPart' hl, wpAny_pyIter_tuple hL
        exact ⟨_, rfl, h⟩
    · wp_walk using wpAny_loadPart' hl, wpAny_pyIter_tuple hL
      exact ⟨_, rfl, h⟩
section
variable {prog : Program} {w : World} {A : Around} {E : Value → Shared → Prop} {s : Shared}
theorem call_enumerate_tuple_P {l : Addr} {items : Array Value} {Q : Value → Shared → Prop} (hL : s.heap.IsTuple l items)
    (h : ∀ h', IsEnum h' (s.heap.objs.size + 1) s.heap.objs.size 0 .none → h'.IsTupleIter s.heap.objs.size l 0 → h'.objs.size = s.heap.objs.size + 2 →
      (∀ b o, s.heap.get? b = some o → h'.get? b = some o) → Q (.ref (s.heap.objs.size + 1)) { s with heap := h' }) :
    wpAny (model prog w) A (call (.type "enumerate") [.ref l]) Q E s := by
  obtain ⟨⟨c, dct, dt, sl⟩, hl, hc, n, hd⟩ := hL
  replace hc : c = .type "tuple" := hc
  replace hd : dt = .seq items n := hd
  subst hc hd
  refine callType_new F.called_enumerate (by decide) (F.typeCall_enumerate_1 _) (F.newCall_enumerate_1 _) (fun obj => F.args_object_init_2 obj _) F.entry_enumerate_new
    (meets_enumerate_newT_P l items n dct sl) ⟨hl, ?_⟩
  have hz : (s.heap.push { cls := .type "tuple_iterator", data := .fields #[.ref l, .int 0 0] }).objs.size = s.heap.objs.size + 1 := Heap.size_push ..
  show _ ∧ _
  rw [hz]
  have he : IsEnum ((s.heap.push { cls := .type "tuple_iterator", data := .fields #[.ref l, .int 0 0] }).push
      { cls := .type "enumerate", data := .fields #[.none, .bool false, .ref s.heap.objs.size, rawInt 0, .none, .none] }) (s.heap.objs.size + 1) s.heap.objs.size 0 .none := by
    have := Heap.get?_push_size (s.heap.push { cls := .type "tuple_iterator", data := .fields #[.ref l, .int 0 0] })
      (o := { cls := .type "enumerate", data := .fields #[.none, .bool false, .ref s.heap.objs.size, rawInt 0, .none, .none] }) rfl
    rw [hz] at this; exact this
  refine ⟨⟨_, he, rfl⟩, h _ he ⟨_, Heap.get?_push_of_some _ (Heap.get?_push_size _ rfl), rfl, rfl⟩ (by rw [Heap.size_push, hz]) fun b o x => Heap.get?_push_of_some _ (Heap.get?_push_of_some _ x)⟩
end
end PySem
namespace L2.P
open PySem PySem.Spec PyProof.Rows L2
/-- the tuple at a, each item in a new pair -/
def ItetP (K : Fg) (a : Addr) : It :=
  ⟨fun i H => ∃ (xs : List V) (x : V), SqT K H a xs ∧ xs[i]? = some x, fun i H v H' => ∃ T x, v = .ref T ∧ H T = none ∧ H' = upd H T (.tup [.int (i : Nat), x]) ∧ ∀ xs, SqT K H a xs → xs[i]? = some x, fun i H => ∃ xs : List V, SqT K H a xs ∧ xs.length = i⟩
theorem turn_enumT {P : Program} {w : World} {K : Fg} {elts : List Expr} {kk : Nat} {tpos : Pos} (a e it : Addr) (hae : a ≠ e) (hai : a ≠ it) :
    Turn P w K (.Tuple elts kk tpos) (ItetP K a) [e, it] e (fun i h => (∃ old, IsEnum h e it ((i : Nat) : Int) old) ∧ h.IsTupleIter it a i ∧ e ≠ it) where
  mem := by simp
  obj := fun i h st b hb => by
    obtain ⟨⟨old, he⟩, ⟨o, ho, hc, hd⟩, _⟩ := st
    have e' : b = e ∨ b = it := by simpa using hb
    rcases e' with z | z
    · rw [z]; exact ⟨_, he, fun v q => nomatch q⟩
    · rw [z]; exact ⟨o, ho, fun v q => by rw [hd] at q; cases q⟩
  keep := fun i h h' st k => let ⟨⟨old, he⟩, hi, hne⟩ := st; ⟨⟨old, k e (by simp) _ he⟩, hi.at fun o q => k it (by simp) o q, hne⟩
  item := by
    intro X hP hw hK hc i pins s σ H E I hf st hg
    subst hP hw hK
    obtain ⟨⟨old, he⟩, hit, hne⟩ := st
    obtain ⟨xs, x, hq, hx⟩ := hg
    obtain ⟨its, rv, p, hz⟩ := I.tuple hq
    obtain ⟨u, hu, ru⟩ := rv.get hx
    have hel : e < s.heap.objs.size := Heap.lt_size he
    have hil : it < s.heap.objs.size := by obtain ⟨_, q, _⟩ := hit; exact Heap.lt_size q
    have hii : i < its.toArray.size := by
      have := (List.getElem?_eq_some_iff.mp hu).1
      simpa using this
    refine wpAny_pyNext_enum_itemD (Draws.tuple (A := X.A.in1) (I.ok.hd hc) it a hai its.toArray) he ⟨hit, p⟩ hii hne (by simp [hne, hae.symm]) fun y h' tk hy ho hst hT hsz hk => ?_
    have ey : y = u := by
      have : its.toArray[i]? = some u := by simpa using hu
      rw [this] at hy; exact (Option.some.inj hy).symm
    subst ey
    refine ⟨_, rfl, wpAny_letOwnedTupleGo_enum (s := { s with heap := h', toks := tk + 1 }) ho fun h'' he' sb => ?_⟩
    have hT2 : h''.get? s.heap.objs.size = some { cls := .type "tuple", data := .seq #[.int i tk, y] } := (sb.2 _ (Nat.ne_of_gt hel)).trans hT
    have new : ObjOk X.prog X.w (upd H s.heap.objs.size (.tup [.int (i : Nat), x])) h'' s.heap.objs.size (.tup [.int (i : Nat), x]) :=
      ⟨by show 2 ≤ sizeLine; decide, [.int i tk, y], .cons ⟨_, rfl⟩ (.cons ru .nil), ⟨_, hT2, rfl, _, rfl⟩⟩
    have I1 : Inv X pins σ (upd H s.heap.objs.size (.tup [.int (i : Nat), x])) { s with heap := h'', toks := tk + 1 } :=
      I.turnedNew (ch := [e, it]) (fun b ob hb q => (sb.2 b (fun z => hb (by simp [z]))).trans (hk b ob (fun z => hb (by simp [z])) (fun z => hb (by simp [z])) q)) hf (Nat.le_refl _) new
    refine ⟨.ref s.heap.objs.size, _, I1, rfl, ⟨_, x, rfl, I.hok.fresh (Nat.le_refl _), rfl, fun ys hy => by rw [I.tuple_inj hy hq]; exact hx⟩, ⟨⟨y, ?_⟩, hst.1.at fun o q => (sb.2 it (Ne.symm hne)).trans q, hne⟩, fun b hb => ?_⟩
    · have e1 : ((i + 1 : Nat) : Int) = (i : Int) + 1 := by omega
      rw [e1]; exact he'
    · have hb' : b < s.heap.objs.size := by
        have e' : b = e ∨ b = it := by simpa using hb
        rcases e' with z | z
        · rw [z]; exact hel
        · rw [z]; exact hil
      rw [upd_ne (Nat.ne_of_lt hb')]
      exact (hf b hb).1
  done := by
    intro X hP hw hK hc i pins s σ H E I hf st hg
    subst hP hw hK
    obtain ⟨⟨old, he⟩, hit, hne⟩ := st
    obtain ⟨xs, hq, hx⟩ := hg
    obtain ⟨its, rv, p, hz⟩ := I.tuple hq
    obtain ⟨f0, f1, f2, f3, f4, f5⟩ := hf it (by simp)
    have hl := rv.length
    have hi : its.toArray.size = i := by rw [List.size_toArray]; omega
    subst hi
    exact wpAny_pyNext_enum_endD (Draws.tuple (A := X.A.in1) (I.ok.hd hc) it a hai its.toArray) he ⟨hit, p⟩ fun h' eb => ⟨rfl, I.turned (t' := s.toks) (fun b o hb q => eb b o hb q) f0 f1 f3 f4 f5⟩
  self := fun A i s Q E st h => let ⟨⟨_, he⟩, _⟩ := st; wpAny_pyIter_enum he h
def iEnumG (K : Fg) (ta : TA) : TI := fun σ H R => ta σ H fun vs H1 => ∃ a xs, vs = [.ref a] ∧ ((SqL K H1 a xs ∧ R (Ite K a) H1) ∨ (SqT K H1 a xs ∧ R (ItetP K a) H1))
theorem pi_enumG {X : Cx} {e : Expr} {ta : TA} {p pos tpos : Pos} {elts : List Expr} {kk : Nat} (hg : Gl X "enumerate") (hm : X.mg "enumerate" = none) (ha : PA X [e] ta) (hs : starEach [e] X.env = [(false, eval e X.env)] := by rfl) :
    PI X (.Tuple elts kk tpos) (.Call (.Name "enumerate" p) [e] [] pos) (iEnumG X.K ta) := by
  refine ⟨fun pins s σ H R I h => ?_⟩
  refine Call_ (ld_blt I hg hm boot_enumerate (PyProof.Rows.callWith_type1 (thn (ha.run pos pins s σ H _ I h) fun us s1 ⟨vs, H1, I1, r1, q1⟩ => ?_) hs rfl))
  obtain ⟨a, xs, ex, q⟩ := q1
  subst ex
  have fpk : ∀ b ∈ [s1.heap.objs.size + 1, s1.heap.objs.size], FpOk X pins H1 b := fun b hb => by
    have e' : b = s1.heap.objs.size + 1 ∨ b = s1.heap.objs.size := by simpa using hb
    have hle : s1.heap.objs.size ≤ b := by
      rcases e' with z | z
      · rw [z]; exact Nat.le_add_right _ _
      · rw [z]; exact Nat.le_refl _
    exact I1.fpOk hle (I1.hok.fresh hle)
  cases r1 with
  | cons r rr =>
    cases rr
    cases r
    rcases q with ⟨hq, q⟩ | ⟨hq, q⟩
    · obtain ⟨its, rv, p', hz⟩ := I1.list hq
      refine call_enumerate_list p'.isList fun h' he hit hsz hk => wpAny_pyIter_enum he ?_
      have I2 : Inv X pins σ H1 { s1 with heap := h' } := I1.kept (t' := s1.toks) hk
      exact ⟨s1.heap.objs.size + 1, [s1.heap.objs.size + 1, s1.heap.objs.size], _, _, H1, rfl, I2, turn_enum a (s1.heap.objs.size + 1) s1.heap.objs.size, ⟨⟨.none, he⟩, hit, Nat.succ_ne_self _⟩, fpk, q⟩
    · obtain ⟨its, rv, p', hz⟩ := I1.tuple hq
      have hla : a < s1.heap.objs.size := p'.lt
      refine call_enumerate_tuple_P (show s1.heap.IsTuple a its.toArray from p') fun h' he hit hsz hk => wpAny_pyIter_enum he ?_
      have I2 : Inv X pins σ H1 { s1 with heap := h' } := I1.kept (t' := s1.toks) hk
      exact ⟨s1.heap.objs.size + 1, [s1.heap.objs.size + 1, s1.heap.objs.size], _, _, H1, rfl, I2, turn_enumT a (s1.heap.objs.size + 1) s1.heap.objs.size (Nat.ne_of_lt (Nat.lt_succ_of_lt hla)) (Nat.ne_of_lt hla), ⟨⟨.none, he⟩, hit, Nat.succ_ne_self _⟩, fpk, q⟩
/-- the items with their places -/
def enumD (ps : List D) : List D := (List.range ps.length).map fun i => .tuple [.int (i : Nat), ps.getD i .none]
theorem enumD_length (ps : List D) : (enumD ps).length = ps.length := by unfold enumD; rw [List.length_map, List.length_range]
theorem enumD_at {ps : List D} {i : Nat} {p : D} (h : ps[i]? = some p) : (enumD ps)[i]? = some (.tuple [.int (i : Nat), p]) := by
  unfold enumD
  have hl : i < ps.length := (List.getElem?_eq_some_iff.mp h).1
  rw [List.getElem?_map, List.getElem?_range hl, Option.map_some, List.getD_eq_getElem?_getD, h]
  rfl
section
variable {X : Cx}
theorem wlk_enumL {K : Fg} {F : Hp} {a : Addr} {xs : List V} {ps : List D} (s : SqL K F a xs) (d : DpAll K F xs ps) : Wlk K F (Ite K a) (enumD ps) where
  go := fun i H hi e => by
    rw [enumD_length] at hi
    have hl := d.length
    exact ⟨xs, xs[i], sqL_same e s, by simp⟩
  stop := fun H e => ⟨xs, sqL_same e s, by rw [enumD_length, d.length]; exact Nat.le_refl _⟩
  yld := fun i H x H' hi e ⟨T, y, ev, n, eH, y2⟩ => by
    obtain ⟨p, hp, dp⟩ := d.getV (y2 xs (sqL_same e s))
    exact ⟨_, enumD_at hp, .inr ⟨T, _, _, _, _, ev, n, eH, rfl, .int _, dp⟩⟩
theorem wlk_enumT {K : Fg} {F : Hp} {a : Addr} {xs : List V} {ps : List D} (s : SqT K F a xs) (d : DpAll K F xs ps) : Wlk K F (ItetP K a) (enumD ps) where
  go := fun i H hi e => by
    rw [enumD_length] at hi
    have hl := d.length
    exact ⟨xs, xs[i], sqT_same e s, by simp⟩
  stop := fun H e => ⟨xs, sqT_same e s, by rw [enumD_length, d.length]⟩
  yld := fun i H x H' hi e ⟨T, y, ev, n, eH, y2⟩ => by
    obtain ⟨p, hp, dp⟩ := d.getV (y2 xs (sqT_same e s))
    exact ⟨_, enumD_at hp, .inr ⟨T, _, _, _, _, ev, n, eH, rfl, .int _, dp⟩⟩
def fEnum (f : Rho → Option D) : Rho → Option (List D) := fun ρ => (f ρ).bind fun p => (items p).map enumD
theorem if_enum {e : Expr} {f : Rho → Option D} {p pos tpos : Pos} {elts : List Expr} {kk : Nat} (bi : Bi X.mg) (h : EF X e f) (hg : Gl X "enumerate" := by rfl) (hs : starEach [e] X.env = [(false, eval e X.env)] := by rfl) :
    IF X (.Tuple elts kk tpos) (.Call (.Name "enumerate" p) [e] [] pos) (fEnum f) :=
  ⟨fW_mono, PI.imp (pi_enumG hg bi.enumerate (pa_cons (PE.lens h.pe) pa_nil hs) hs) fun σ H R ⟨B, F, ρ, R0, qs, e, k⟩ => by
    obtain ⟨x, e1, e2⟩ := Option.bind_eq_some_iff.mp e
    obtain ⟨ps, e3, rfl⟩ := Option.map_eq_some_iff.mp e2
    refine ⟨B, F, ρ, R0, x, e1, fun F' H' v R' s' d hL => ?_⟩
    unfold items at e3
    split at e3
    · cases e3
      obtain ⟨a, xs, rfl, s, r⟩ := Dp.inv_lst d
      refine ⟨a, xs, rfl, .inl ⟨sqL_same R'.sub s, k F' H' _ R' s' ?_ (wlk_enumL s r)⟩⟩
      rw [enumD_length, ← r.length]
      exact hL a xs (.inl (sqL_same R'.sub s))
    · cases e3
      obtain ⟨a, xs, rfl, s, r⟩ := Dp.inv_tup d
      refine ⟨a, xs, rfl, .inr ⟨sqT_same R'.sub s, k F' H' _ R' s' ?_ (wlk_enumT s r)⟩⟩
      rw [enumD_length, ← r.length]
      exact hL a xs (.inr (sqT_same R'.sub s))
    · cases e3⟩

def RgB (z : Int × Int) : Bool := decide (0 ≤ z.1) && decide (z.1 ≤ 16777216) && decide (0 ≤ z.2) && decide (z.2 ≤ 16777216)
theorem RgB.ok {z : Int × Int} (h : RgB z = true) : RgOk z.1 z.2 := by
  unfold RgB at h
  simp only [Bool.and_eq_true, decide_eq_true_eq] at h
  exact RgOk.of_le h.1.1.1 h.2 h.1.1.2 h.1.2
def rSetT (w : World) (K : Fg) : List V → Hp → VK → Prop := fun xs H Q => ∃ (a : Addr) (ns : List Int), xs = [.ref a] ∧ SqT K H a (ns.map V.int) ∧ ns.length ≤ 1000 ∧
  ∀ (p : Addr) (c : Nat), H p = none → c ≤ ns.length → Q (.ref p) (upd H p (SetO w p (fun j => decide (j ∈ ns)) c))
theorem cr_setT (hc : X.calm = true) : CallR X (.type "set") (rSetT X.w X.K) := by
  intro pins s σ H xs us Q I r h
  obtain ⟨a, ns, rfl, hs, hl, q⟩ := h
  obtain ⟨its, rv, ht, hz⟩ := I.tuple hs
  rw [Vals.ref1 r]
  have hsb : ns.length + 1 < scanBound := Nat.lt_of_le_of_lt (Nat.add_le_add_right hl 1) (by decide)
  refine call_set_tupI ns (I.ok.hd hc) ht (by simpa using rv.ints) hsb fun h' tk c R hcl hk => ?_
  exact ⟨.ref _, upd H s.heap.objs.size (SetO X.w s.heap.objs.size (fun j => decide (j ∈ ns)) c), I.laid (t' := tk) hk (Nat.le_refl _) (setO_new R), rfl, q _ c (I.hok.fresh (Nat.le_refl _)) hcl⟩
/-- the ints of ns, each once, in order -/
def insI (n : Int) : List Int → List Int
  | [] => [n]
  | m :: ms => if n < m then n :: m :: ms else if n = m then m :: ms else m :: insI n ms
def sortD : List Int → List Int
  | [] => []
  | n :: ns => insI n (sortD ns)
theorem mem_insI {n k : Int} : ∀ {ms : List Int}, k ∈ insI n ms ↔ k = n ∨ k ∈ ms
  | [] => by simp [insI]
  | m :: ms => by
    unfold insI
    split
    · simp
    · split
      · rename_i h1 h2; subst h2; simp
      · simp only [List.mem_cons, mem_insI]
        constructor
        · rintro (h | h | h)
          · exact .inr (.inl h)
          · exact .inl h
          · exact .inr (.inr h)
        · rintro (h | h | h)
          · exact .inr (.inl h)
          · exact .inl h
          · exact .inr (.inr h)
theorem mem_sortD {k : Int} : ∀ {ns : List Int}, k ∈ sortD ns ↔ k ∈ ns
  | [] => by simp [sortD]
  | n :: ns => by unfold sortD; rw [mem_insI, mem_sortD]; simp
theorem pw_insI {n : Int} : ∀ {ms : List Int}, ms.Pairwise (· < ·) → (insI n ms).Pairwise (· < ·)
  | [], _ => List.pairwise_singleton _ _
  | m :: ms, h => by
    obtain ⟨h1, h2⟩ := List.pairwise_cons.mp h
    unfold insI
    split
    · rename_i hn
      refine List.pairwise_cons.mpr ⟨fun k hk => ?_, h⟩
      rcases List.mem_cons.mp hk with rfl | hk
      · exact hn
      · have := h1 k hk; omega
    · split
      · exact h
      · rename_i h3 h4
        refine List.pairwise_cons.mpr ⟨fun k hk => ?_, pw_insI h2⟩
        rcases mem_insI.mp hk with rfl | hk
        · omega
        · exact h1 k hk
theorem pw_sortD : ∀ ns : List Int, (sortD ns).Pairwise (· < ·)
  | [] => List.Pairwise.nil
  | n :: ns => pw_insI (pw_sortD ns)
theorem pw_unique : ∀ {xs ys : List Int}, xs.Pairwise (· < ·) → ys.Pairwise (· < ·) → (∀ k, k ∈ xs ↔ k ∈ ys) → xs = ys
  | [], [], _, _, _ => rfl
  | [], y :: ys, _, _, h => absurd ((h y).mpr List.mem_cons_self) (by simp)
  | x :: xs, [], _, _, h => absurd ((h x).mp List.mem_cons_self) (by simp)
  | x :: xs, y :: ys, hx, hy, h => by
    obtain ⟨a1, a2⟩ := List.pairwise_cons.mp hx
    obtain ⟨b1, b2⟩ := List.pairwise_cons.mp hy
    have e : x = y := by
      rcases List.mem_cons.mp ((h x).mp List.mem_cons_self) with e | e
      · exact e
      · rcases List.mem_cons.mp ((h y).mpr List.mem_cons_self) with e2 | e2
        · exact e2.symm
        · have := b1 x e; have := a1 y e2; omega
    subst e
    rw [pw_unique a2 b2 fun k => ?_]
    constructor
    · intro hk
      rcases List.mem_cons.mp ((h k).mp (List.mem_cons_of_mem _ hk)) with e | e
      · subst e; have := a1 k hk; omega
      · exact e
    · intro hk
      rcases List.mem_cons.mp ((h k).mpr (List.mem_cons_of_mem _ hk)) with e | e
      · subst e; have := b1 k hk; omega
      · exact e
def dSortSet : D → Option (List D)
  | .tuple xs => (intsD xs).bind fun ns => if ns.length < 64 then some ((sortD ns).map PyData.int) else none
  | _ => none
def nSortSet (f : Rho → Option D) : Rho → Option (List D) := fun ρ => (f ρ).bind dSortSet
theorem bt_sorted : bootBuiltins "sorted" = some (.builtin "sorted") := by decide +kernel
theorem bt_set : bootBuiltins "set" = some (.type "set") := by decide +kernel
theorem n_sortSet {e : Expr} {f : Rho → Option D} {p p2 pos pos2 : Pos} (bi : Bi X.mg) (h : XF X e f) (hc : X.calm = true := by rfl) (hg : Gl X "sorted" := by rfl) (hg2 : Gl X "set" := by rfl)
    (he2 : starEach [e] X.env = (false, eval e X.env) :: starEach [] X.env := by rfl) (he : starEach [.Call (.Name "set" p2) [e] [] pos2] X.env = (false, eval (.Call (.Name "set" p2) [e] [] pos2) X.env) :: starEach [] X.env := by rfl) :
    NF X (.Call (.Name "sorted" p) [.Call (.Name "set" p2) [e] [] pos2] [] pos) (nSortSet f) :=
  ⟨fW_mono, (pe_callB (cr_sortedSet hc) hg bi.sorted bt_sorted (pa_cons (pe_callTy (cr_setT hc) hg2 bi.set bt_set (pa_cons h.pe pa_nil he2) (he := he2) (hpl := rfl)) pa_nil he) (he := he) (hpl := rfl)).imp fun σ H Q ⟨B, F, ρ, R, ps, e, k⟩ => by
    obtain ⟨x, e1, e2⟩ := Option.bind_eq_some_iff.mp e
    unfold dSortSet at e2
    split at e2
    · obtain ⟨ns, e3, e4⟩ := Option.bind_eq_some_iff.mp e2
      split at e4
      · rename_i h64
        cases e4
        refine ⟨B, F, ρ, R, _, e1, fun F' H' v R' s' d => ?_⟩
        obtain ⟨a, xs, rfl, s, r⟩ := Dp.inv_tup (d.dp (Same.refl _) R')
        rw [intsD_some e3] at r
        rw [dpAll_ints ns r] at s
        refine ⟨a, ns, rfl, s, by omega, fun q c hq hcl => ?_⟩
        refine ⟨q, _, c, rfl, upd_same, by omega, fun ms l hp hm hl hn => ?_⟩
        have em : ms = sortD ns := pw_unique hp (pw_sortD ns) fun z => by rw [hm z, mem_sortD]; simp
        subst em
        exact k F' _ l _ (R'.lay hq) s' hn (dpAll_of_ints _)
      · cases e4
    · cases e2⟩
end
end L2.P

namespace L2.P
open PySem PySem.Spec PyProof.Rows L2
/-- a number from 0 on below the argument -/
def wTaken : List D → (D → Prop) → Prop := fun ps K => ∃ m : Int, ps = [.int m] ∧ 0 < m ∧ m < 1073741824 ∧ ∀ k : Int, 0 ≤ k → k < m → K (.int k)
theorem wTaken_mono (ps : List D) (K K' : D → Prop) (h : ∀ p, K p → K' p) (q : wTaken ps K) : wTaken ps K' := by
  obtain ⟨m, e, h1, h2, k⟩ := q
  exact ⟨m, e, h1, h2, fun i a b => h _ (k i a b)⟩
theorem upd_self {H : Hp} {a : Addr} {o : HO} (h : H a = some o) : upd H a o = H := by
  funext b
  by_cases e : b = a
  · subst e; rw [upd_same, h]
  · rw [upd_ne e]
/-- row[j] -/
theorem row_at {K : Fg} {σ : St} {H : Hp} {Q : VK} {r : Addr} {L : List V} {j : Int} {v : V} (hσ : σ[0]? = some (some (.ref r))) (e : atI L j = some v) (q : Q v (upd H r (.lst L))) : tOp (rIxL K) (tVar 0) (tC (.int j)) σ (upd H r (.lst L)) Q :=
  ⟨.ref r, hσ, r, L, j, v, rfl, rfl, .inl (.inl upd_same), e, q⟩
/-- row[j] = v -/
theorem row_set {σ : St} {H : Hp} {Q : St → Hp → Prop} {r : Addr} {L : List V} {j : Int} {n : Nat} {v : V} (hσ : σ[0]? = some (some (.ref r))) (e : ixN L.length j = some n) (q : Q σ (upd H r (.lst (L.set n v)))) : gSub (tVar 0) (tC (.int j)) rSetL v σ (upd H r (.lst L)) Q :=
  ⟨.ref r, hσ, r, L, j, n, rfl, rfl, upd_same, e, by rw [upd_upd]; exact q⟩
def tTaken (K : Fg) : TS :=
  let ix (j : Int) : TE := tOp (rIxL K) (tVar 0) (tC (.int j))
  let intOf (t : TE) : TE := tCB (fun xs H Q => (∃ i, xs = [.int i] ∧ Q (.int i) H) ∨ ∃ k, xs = [.bl k] ∧ Q (.int (if k then 1 else 0)) H) (tCons t tNil)
  let md (a b : TE) : TE := tOp (rI (fun _ j => 0 < j) fun i j => .int (i % j)) a b
  let dv (a b : TE) : TE := tOp (rI CDiv fun i j => .int (i / j)) a b
  let ad (a b : TE) : TE := tOp (rI0 fun i j => .int (i + j)) a b
  let ml (a b : TE) : TE := tOp (rI CMul fun i j => .int (i * j)) a b
  let st (j : Int) : TG := gSub (tVar 0) (tC (.int j)) rSetL
  tSeq (tIfS (tTest (tOp (rI0 fun i j => .bl (decide (j < i))) (ix 3) (tC (.int 0)))) (tSeq (tAsg (md (intOf (ix 3)) (tVar 1)) (gName 2)) (tSeq (tAsg (dv (ix 3) (tVar 1)) (st 3)) (tRet (tVar 2)))) tNext)
  (tSeq (tAsg (ad (ix 1) (tC (.int 1))) (st 1))
  (tSeq (tIfS (tTest (tOp (rI0 fun i j => .bl (decide (j < i))) (ix 1) (tCB (fun xs H Q => ∃ p ys, xs = [.ref p] ∧ (SqL K H p ys ∨ SqT K H p ys) ∧ Q (.int ys.length) H) (tCons (ix 0) tNil))))
      (tSeq (tAsg (md (intOf (ad (ml (ix 2) (tC (.int 48271))) (tC (.int 11)))) (tC (.int 2147483647))) (st 2)) (tRet (md (intOf (dv (ix 2) (tC (.int 7)))) (tVar 1)))) tNext)
  (tSeq (tAsg (tOp (rIxL K) (ix 0) (tOp (rI0 fun i j => .int (i - j)) (ix 1) (tC (.int 1)))) (gName 3))
  (tSeq (tAsg (md (intOf (ad (ad (ml (ix 2) (tC (.int 48271))) (tVar 3)) (tC (.int 11)))) (tC (.int 2147483647))) (st 2))
  (tSeq (tIfS (tTest (tOp (rI0 fun i j => .bl (decide (j ≤ i))) (tVar 3) (tOp (rI CPow fun i j => .int (i ^ j.toNat)) (tC (.int 10)) (tC (.int 18))))) (tAsg (dv (tVar 3) (tVar 1)) (st 3)) tNext)
  (tRet (md (intOf (tVar 3)) (tVar 1))))))))
theorem cmul_r {i j : Int} (h1 : -(2 ^ 64) < j) (h2 : j < 2 ^ 64) : CMul i j := .inr ⟨h1, h2⟩
/-- what the row's turn makes -/
theorem taken_ok {K : Fg} {En : Ends} {H : Hp} {r sa : Addr} {ns : List Int} {b c d m : Int} {Q : Int → Hp → Prop} (hS : ∀ L, SqL K (upd H r (.lst L)) sa (ns.map V.int)) (hb : 0 ≤ b) (hc : 0 ≤ c) (hd : 0 ≤ d) (hm : 0 < m) (hm2 : m < 1073741824)
    (hrt : ∀ k H', Q k H' → En.rt (.int k) H')
    (q : ∀ (k b' c' d' : Int), 0 ≤ k → k < m → 0 ≤ b' → 0 ≤ c' → 0 ≤ d' → Q k (upd H r (.lst [.ref sa, .int b', .int c', .int d']))) :
    tTaken K En [some (.ref r), some (.int m), none, none] (upd H r (.lst [.ref sa, .int b, .int c, .int d])) := by
  have mod0 : ∀ x : Int, 0 ≤ x % m ∧ x % m < m := fun x => ⟨Int.emod_nonneg _ (by omega), Int.emod_lt_of_pos _ hm⟩
  have big : (0 : Int) < 2147483647 := by decide
  have mod1 : ∀ x : Int, 0 ≤ x % 2147483647 := fun x => Int.emod_nonneg _ (by decide)
  refine row_at rfl rfl ⟨_, _, rfl, rfl, _, rfl, ?_⟩
  refine ite2 (fun h => ?_) (fun h => ?_)
  · -- a rest is left
    refine row_at rfl rfl (.inl ⟨_, rfl, ?_⟩)
    refine ⟨_, rfl, _, _, rfl, rfl, hm, ?_⟩
    refine row_at rfl rfl ⟨_, rfl, _, _, rfl, rfl, ⟨hm, hm2⟩, ?_⟩
    refine row_set rfl rfl ⟨_, rfl, hrt _ _ (q _ _ _ _ (mod0 d).1 (mod0 d).2 hb hc (Int.ediv_nonneg hd (by omega)))⟩
  · refine row_at rfl rfl ⟨_, _, rfl, rfl, ?_⟩
    refine row_set rfl rfl ?_
    refine row_at rfl rfl (row_at rfl rfl ⟨sa, _, rfl, .inl (hS _), ?_⟩)
    refine ⟨_, _, rfl, rfl, _, rfl, ?_⟩
    refine ite2 (fun h2 => ?_) (fun h2 => ?_)
    · -- the script is at its end
      refine row_at rfl rfl ⟨_, _, rfl, rfl, cmul_r (by decide) (by decide), ⟨_, _, rfl, rfl, .inl ⟨_, rfl, _, _, rfl, rfl, big, ?_⟩⟩⟩
      refine row_set rfl rfl ?_
      refine row_at rfl rfl ⟨_, _, rfl, rfl, ⟨by decide, by decide⟩, .inl ⟨_, rfl, _, rfl, _, _, rfl, rfl, hm, ?_⟩⟩
      exact hrt _ _ (q _ _ _ _ (mod0 _).1 (mod0 _).2 (by omega) (mod1 _) hd)
    · have hlt : ¬ ((ns.length : Int) < b + 1) := by
        intro z
        apply h2
        rw [List.length_map]
        exact decide_eq_true z
      have hi : b.toNat < ns.length := by omega
      refine row_at rfl rfl (row_at rfl rfl ⟨_, _, rfl, rfl, ?_⟩)
      refine ⟨sa, _, b + 1 - 1, .int ns[b.toNat], rfl, rfl, hS _, ?_, ?_⟩
      · have e : b + 1 - 1 = (b.toNat : Int) := by omega
        rw [e]
        exact atI_nat (by rw [List.getElem?_map, List.getElem?_eq_getElem hi]; rfl)
      · generalize ns[b.toNat] = x
        refine row_at rfl rfl ⟨_, _, rfl, rfl, cmul_r (by decide) (by decide), ⟨_, rfl, _, _, rfl, rfl, ⟨_, _, rfl, rfl, .inl ⟨_, rfl, _, _, rfl, rfl, big, ?_⟩⟩⟩⟩
        refine row_set rfl rfl ?_
        refine ⟨_, rfl, _, _, rfl, rfl, ⟨by decide, by decide, by decide⟩, ⟨_, _, rfl, rfl, ⟨_, rfl, ?_⟩⟩⟩
        refine ite2 (fun h3 => ?_) (fun h3 => ?_)
        · refine ⟨_, rfl, _, rfl, _, _, rfl, rfl, ⟨hm, hm2⟩, ?_⟩
          refine row_set rfl rfl ?_
          have hx : (0 : Int) ≤ x := by
            have := of_decide_eq_true h3
            have e : ((10 : Int) ^ (18 : Int).toNat) = 1000000000000000000 := by decide
            rw [e] at this; omega
          exact ⟨_, rfl, .inl ⟨_, rfl, _, rfl, _, _, rfl, rfl, hm, hrt _ _ (q _ _ _ _ (mod0 _).1 (mod0 _).2 (by omega) (mod1 _) (Int.ediv_nonneg hx (by omega)))⟩⟩
        · exact ⟨_, rfl, .inl ⟨_, rfl, _, rfl, _, _, rfl, rfl, hm, hrt _ _ (q _ _ _ _ (mod0 _).1 (mod0 _).2 (by omega) (mod1 _) hd)⟩⟩
end L2.P
namespace L2.P
open PySem PySem.Spec PyProof.Rows L2
theorem taken_sp {K : Fg} {vs : List V} {H : Hp} {Q : VK} {E : XK} {a b c d : Str} (h : spR K 1 wTaken vs H Q E) : tTaken K { nx := fun _ H' => Q .non H', rt := Q } (start [a, b, c, d] vs) H := by
  obtain ⟨hl, r, us, F, ps, rfl, sF, tb, fr, ⟨sa, ns, b, c, d, hr, hS, hlen, hb, hc, hd⟩, dd, m, rfl, h1, h2, k⟩ := h
  obtain ⟨v, rfl, dv⟩ := dp1 dd
  obtain rfl := Dp.inv_int dv
  have hS' : ∀ L, SqL K (upd H r (.lst L)) sa (ns.map V.int) := fun L => sqL_same (fun x o e => by
    have ne : x ≠ r := fun z => by subst z; rw [fr] at e; cases e
    rw [upd_ne ne]; exact sF x o e) hS
  have key := taken_ok (K := K) (En := { nx := fun _ H' => Q .non H', rt := Q }) (Q := fun k H' => Q (.int k) H') hS' hb hc hd h1 h2 (fun _ _ z => z) (fun k' b' c' d' g1 g2 g3 g4 g5 => by
    refine k k' g1 g2 F _ _ (Same.refl _) (fun x o ne e => ?_) (fun x o e => ?_) (tb.chg hr (not_te rfl)) (fun x e1 e2 => absurd e1 e2) ⟨sa, ns, b', c', d', upd_same, hS, hlen, g3, g4, g5⟩ (.int _)
    · have ne' : x ≠ r := fun z => ne.1 (by rw [z])
      rw [upd_ne ne']; exact e
    · have ne : x ≠ r := fun z => by subst z; rw [fr] at e; cases e
      rw [upd_ne ne]; exact sF x o e)
  rw [upd_self hr] at key
  exact key
end L2.P

namespace L2.P
open PySem PySem.Spec PyProof.Rows L2
def insF (j : Int) (r : List Int) : List Int := if j ∈ r then r else r ++ [j]
def modR (rows : List (List Int)) (i : Nat) (j : Int) : List (List Int) := rows.modify i (insF j)
def dkOf (r : List Int) : List (Key × V) := r.map fun j => ((Sum.inl j : Key), V.bl true)
/-- the dicts stand -/
structure Grid (H0 H : Hp) (L : Addr) (ds : List Addr) (rows : List (List Int)) : Prop where
  lst : H L = some (.lst (ds.map V.ref))
  nd : ds.Nodup
  nL : L ∉ ds
  len : rows.length = ds.length
  row : ∀ (i : Nat) (a : Addr) (r : List Int), ds[i]? = some a → rows[i]? = some r → H a = some (.dK (dkOf r))
  old : ∀ b o, H0 b = some o → H b = some o
  fre : ∀ a ∈ ds, H0 a = none
  freL : H0 L = none
theorem Grid.put {H0 H : Hp} {L : Addr} {ds : List Addr} {rows : List (List Int)} (G : Grid H0 H L ds rows) {i : Nat} {a : Addr} {r : List Int} (ha : ds[i]? = some a) (hr : rows[i]? = some r) (j : Int) :
    Grid H0 (upd H a (.dK (dkOf (insF j r)))) L ds (modR rows i j) where
  lst := by
    have ne : L ≠ a := fun e => G.nL (e ▸ List.mem_of_getElem? ha)
    rw [upd_ne ne]; exact G.lst
  nd := G.nd
  nL := G.nL
  len := by unfold modR; rw [List.length_modify]; exact G.len
  row := fun k b r' hb hr' => by
    unfold modR at hr'
    rw [List.getElem?_modify] at hr'
    by_cases e : i = k
    · subst e
      rw [ha] at hb; cases hb
      rw [hr] at hr'
      simp at hr'
      subst hr'
      exact upd_same
    · simp only [if_neg e] at hr'
      have ne : b ≠ a := fun q => by
        subst q
        exact e ((nodup_ix_addr G.nd ha hb))
      rw [upd_ne ne]
      exact G.row k b r' hb (by simpa using hr')
  old := fun b o e => by
    have ne : b ≠ a := fun q => by
      subst q
      rw [G.fre b (List.mem_of_getElem? ha)] at e; cases e
    rw [upd_ne ne]; exact G.old b o e
  fre := G.fre
  freL := G.freL
where
  nodup_ix_addr {l : List Addr} (h : l.Nodup) {i j : Nat} {x : Addr} (a : l[i]? = some x) (b : l[j]? = some x) : i = j := by
    obtain ⟨h1, e1⟩ := List.getElem?_eq_some_iff.mp a
    obtain ⟨h2, e2⟩ := List.getElem?_eq_some_iff.mp b
    exact (List.getElem_inj h).mp (e1.trans e2.symm)
end L2.P
namespace L2.P
open PySem PySem.Spec PyProof.Rows L2
/-- the new part of a heap, over what was frozen -/
def joinH (F H H' : Hp) : Hp := fun b => match F b with
  | some o => some o
  | none => match H b with
    | none => match H' b with
      | some (.tbl _) => none
      | o => o
    | some _ => none
theorem TbOk.join {K : Fg} {F H H' : Hp} (tb : TbOk K F H) (s : Same H H') : TbOk K (joinH F H H') H' :=
  ⟨fun p hp => by
    obtain ⟨ps, h1, _⟩ := tb.2.1 p hp
    unfold joinH
    rw [tb.1 p hp, h1], tabs_ext tb.2.1 (fun b o e _ => s b o e), fun b ps z => by
    unfold joinH at z
    split at z
    · rename_i u hu; cases z; exact tb.2.2 b ps hu
    · split at z
      · split at z
        · cases z
        · rename_i n; exact n ps z
      · cases z⟩
/-- the web of the rows -/
def webD (rows : List (List Int)) : D := .tuple (rows.map fun r => .tuple (r.map .int))
end L2.P

namespace L2.P
open PySem PySem.Spec PyProof.Rows L2
section
variable {X : Cx} {e a b : Expr} {es : List Expr} {p pos spos : Pos} {n : Nat}
/-- arguments of a known number -/
structure EAL (X : Cx) (es : List Expr) (T : TL) (n : Nat) : Prop where
  ea : EA X es T
  len : LenW T n
theorem eal_nil : EAL X [] wNil 0 := ⟨ea_nilw, lenW_nil⟩
theorem eal_cons {T : TW} {U : TL} (ha : EW X e T) (hr : EAL X es U n) (hs : starEach (e :: es) X.env = (false, eval e X.env) :: starEach es X.env := by rfl) : EAL X (e :: es) (wCons T U) (n + 1) :=
  ⟨ea_consw ha hr.ea hs, lenW_cons ha hr.len hr.ea.mono⟩
def wDraw (i : Nat) (w : List D → (D → Prop) → Prop) (U : TL) : TW := fun ρ K => ρ[i]? = some .row ∧ wCal w U ρ K
theorem ew_draw {T : List D → (D → Prop) → Prop} {U : TL} {i : Nat} {x y : Str} {py : Pos} (c : CalX X x (spR X.K n T)) (mt : ∀ ps K K', (∀ p, K p → K' p) → T ps K → T ps K') (hN : X.N[i]? = some y) (hv : Vis X.env.scope y) (h : EAL X es U n) (hg : Gl X x) (hdb : (x == ("__debug__" : Str)) = false := by decide)
    (hd : (y == ("__debug__" : Str)) = false := by decide) (hcd : (y == ("__classdict__" : Str)) = false := by decide)
    (he : starEach (.Name y py :: es) X.env = (false, eval (.Name y py) X.env) :: starEach es X.env := by rfl) (hpl : (backTo pos (starEach es X.env)).any (·.1) = false := by rfl) : EW X (.Call (.Name x p) (.Name y py :: es) [] pos) (wDraw i T U) :=
  ew_callR c mt hN hv h.ea h.len hg hdb hd hcd he hpl
theorem Rs.toRow {K : Fg} {B : Bs} {F H : Hp} {σ : St} {ρ : Rho} {i : Nat} {ns : List Int} {b c d : Int} (R : Rs K B F H σ ρ) (h : ρ[i]? = some (.ol [.list (ns.map .int), .int b, .int c, .int d])) (hl : ns.length ≤ 63) (hb : 0 ≤ b) (hc : 0 ≤ c) (hd : 0 ≤ d) :
    Rs K B F H σ (ρ.set i .row) := by
  obtain ⟨a, xs, hσ, f, h0, h1, r⟩ := R.own h
  have ok : RowOk K none F H a := by
    obtain ⟨v1, u1, rfl, d1, r1⟩ := r.uncons
    obtain ⟨v2, u2, rfl, d2, r2⟩ := r1.uncons
    obtain ⟨v3, u3, rfl, d3, r3⟩ := r2.uncons
    obtain ⟨v4, u4, rfl, d4, r4⟩ := r3.uncons
    obtain rfl := r4.unnil
    obtain ⟨sa, ys, rfl, s, ry⟩ := Dp.inv_lst d1
    rw [dpAll_ints ns ry] at s
    rw [Dp.inv_int d2, Dp.inv_int d3, Dp.inv_int d4] at h1
    exact ⟨sa, ns, b, c, d, h1, s, hl, hb, hc, hd⟩
  refine ⟨R.sub, R.ext, R.new, R.old, R.hrow, R.hr2, by rw [List.length_set]; exact R.len, fun j s hs => ?_, fun j k c s t hjk h1' h2' o1 o2 e1 e2 => ?_, R.tb, R.tbh⟩
  · rcases set_some hs with ⟨rfl, hl, rfl⟩ | ⟨ne, hs⟩
    · rw [hσ]; exact .row f (.inl h0) ok
    · exact R.at_ j s hs
  · rcases set_some h1' with ⟨rfl, hl, rfl⟩ | ⟨ne, h1'⟩
    · rcases set_some h2' with ⟨rfl, _⟩ | ⟨ne, h2'⟩
      · exact hjk rfl
      · exact R.apart i k c _ t hjk h h2' rfl o2 e1 e2
    · rcases set_some h2' with ⟨rfl, hl, rfl⟩ | ⟨ne2, h2'⟩
      · exact R.apart j i c s _ hjk h1' h o1 rfl e1 e2
      · exact R.apart j k c s t hjk h1' h2' o1 o2 e1 e2
def wRow (i : Nat) (T : TL) : TSt := fun ρ K => i < ρ.length ∧ T ρ fun ps => ∃ (ns : List Int) (b c d : Int), ps = [.list (ns.map .int), .int b, .int c, .int d] ∧ ns.length ≤ 63 ∧ 0 ≤ b ∧ 0 ≤ c ∧ 0 ≤ d ∧ K (.nx (ρ.set i .row))
theorem sw_row {st : Stmt} {i : Nat} {T : TL} (h : NS X st i T) : SW X st (wRow i T) :=
  ⟨fun ρ K K' k ⟨hl, q⟩ => ⟨hl, h.mono _ _ _ (fun p ⟨ns, b, c, d, e, h1, h2, h3, h4, z⟩ => ⟨ns, b, c, d, e, h1, h2, h3, h4, k _ z⟩) q⟩, h.ps.imp fun En σ H ⟨B, F, ρ, R, hl, q⟩ => ⟨B, F, ρ, R, h.mono _ _ _ (fun p ⟨ns, b, c, d, e, h1, h2, h3, h4, k⟩ F' H' a xs R' s n d' => by
    subst e
    have z := (R'.putO (i := i) n d').toRow (by rw [List.getElem?_set_self hl]) h1 h2 h3 h4
    rw [List.set_set] at z
    exact k F' _ _ z s) q⟩⟩
end
def rho0R (n : Nat) (ps : List D) : Rho := Sl.row :: rho0 (n - 1) ps
def runR (n : Nat) (T : TSt) : List D → (D → Prop) → Prop := fun ps K => T (rho0R n ps) fun fl => match fl with
  | .rt p => K p
  | .nx _ => K .none
  | _ => False
theorem runR_mono {n : Nat} {T : TSt} (m : ∀ ρ K K', (∀ p, K p → K' p) → T ρ K → T ρ K') (ps : List D) (K K' : D → Prop) (h : ∀ p, K p → K' p) (q : runR n T ps K) : runR n T ps K' := m _ _ _ (fun fl k => by
  cases fl with
  | rt p => exact h _ k
  | nx _ => exact h _ k
  | bk _ => exact k
  | ct _ => exact k) q
section
variable {P : Program} {w : World} {K : Fg} {mg : Str → Option Value} {base : Heap} {x qual : Str} {params : Arguments} {body : List Stmt} {scope : Scope} {f : Addr} {fd : FuncData} {N ps : List Str} {k : Nat}
theorem rs_startR {F H : Hp} {r : Addr} {vs : List V} {ds : List D} (s : Same F H) (tb : TbOk K F H) (fr : F r = none) (ok : RowOk K none F H r) (d : DpAll K F vs ds) (hl : vs.length + 1 ≤ N.length) : Rs K ⟨F, H, some r, none⟩ F H (start N (.ref r :: vs)) (rho0R N.length ds) where
  sub := s
  ext := Same.refl _
  new := fun b h1 h2 => absurd h1 h2
  old := SameX.refl _
  hrow := fun r' h => by cases h; exact ⟨fr, ok⟩
  tb := tb
  tbh := fun p hp => by obtain ⟨ps, h1, _⟩ := tb.2.1 p hp; exact ⟨ps, h1⟩
  hr2 := fun r' h => by cases h; obtain ⟨o, e⟩ := ok.there; show H r ≠ none; rw [e]; simp
  len := by unfold start rho0R rho0; have := d.length; simp only [List.length_append, List.length_map, List.length_replicate, List.length_cons]; omega
  at_ := fun i t ht => by
    cases i with
    | zero =>
      unfold rho0R at ht
      simp at ht
      subst ht
      rw [start_at (vs := .ref r :: vs) (i := 0) rfl]
      exact .row fr (.inr ⟨rfl, rfl, True.intro⟩) ok
    | succ i =>
      unfold rho0R at ht
      rw [List.getElem?_cons_succ] at ht
      rcases rho0_at ht with rfl | ⟨p, hp, rfl⟩
      · exact .no
      · obtain ⟨v, hv, dv⟩ := d.get hp
        rw [start_at (vs := .ref r :: vs) (i := i + 1) (by simpa using hv)]
        exact .v dv
  apart := fun i j a s t hij h1 h2 o1 o2 e1 e2 => by
    have z : ∀ (k : Nat) (u : Sl), (rho0R N.length ds)[k]? = some u → u.owns = true → k = 0 := fun k u h o => by
      cases k with
      | zero => rfl
      | succ k =>
        unfold rho0R at h
        rw [List.getElem?_cons_succ] at h
        rcases rho0_at h with rfl | ⟨p, hp, rfl⟩ <;> cases o
    exact hij ((z i s h1 o1).trans (z j t h2 o2).symm)
/-- closed upward -/
def clo (w : List D → (D → Prop) → Prop) : List D → (D → Prop) → Prop := fun ps K => ∃ K0, (∀ p, K0 p → K p) ∧ w ps K0
theorem clo_mono {w : List D → (D → Prop) → Prop} : ∀ ps K K', (∀ p, K p → K' p) → clo w ps K → clo w ps K' := fun ps K K' h ⟨K0, a, b⟩ => ⟨K0, fun p z => h p (a p z), b⟩
theorem clo_in {w : List D → (D → Prop) → Prop} {ps : List D} {K : D → Prop} (h : w ps K) : clo w ps K := ⟨K, fun _ z => z, h⟩
/-- THE RULE: a def that draws -/
theorem fn_row {T : TSt} {n : Nat} (Fd : FunD K x qual params body scope [] [] f fd) (S : FnScope N ps scope) (hn : ps.length = n + 1) (hnN : n + 1 ≤ N.length)
    (hb : ∀ (cdv : Value) (A : Around) (outer : List Env) (s : Shared) (H : Hp) (E : XK), Room k (A.deeper (envOfC qual scope s.heap.objs.size f cdv)) → SWs (cxOf CX0 P w K mg base N qual scope f cdv A outer s H E).nox body T) :
    FnOk P w K mg base CX0 (k + 1) f fd ps (spR K n (clo (runR N.length T))) := by
  refine Fd.ok S (fun vs H Q E h => by rw [h.1, hn]) fun cdv A outer s H vs Q E hr h => ?_
  have W := hb cdv A outer s H E hr
  refine ⟨_, PSs.nox W.pss, ?_⟩
  obtain ⟨hl, r, us, F, ds, rfl, sF, tb, fr, ok, d, K0, hK, q⟩ := h
  replace q := runR_mono W.mono ds K0 _ hK q
  refine ⟨⟨F, H, some r, none⟩, F, rho0R N.length ds, rs_startR sF tb fr ok d (by rw [List.length_cons] at hl; omega), W.mono _ _ _ (fun fl k => ?_) q⟩
  cases fl with
  | nx ρ' => exact fun F' H' σ' R' s' => k F' H' .non s' R'.old R'.sub R'.tb R'.new (R'.hrow r rfl).2 .non
  | rt p => exact fun F' H' v ⟨σ', ρ', R'⟩ s' d' => k F' H' v s' R'.old R'.sub R'.tb R'.new (R'.hrow r rfl).2 d'
  | bk ρ' => exact k.elim
  | ct ρ' => exact k.elim
end
end L2.P

namespace L2.P
open PySem PySem.Spec PyProof.Rows L2
/-- values of α as data, compared as α's own -/
structure EncOk {α : Type} [DecidableEq α] (enc : α → D) (n : Nat) : Prop where
  eqv : ∀ a b, PyData.eqv (enc a) (enc b) = decide (a = b)
  plain : ∀ a, (enc a).plain = true
  depth : ∀ a, (enc a).depth ≤ n
section
variable {α β : Type} [DecidableEq α] [DecidableEq β] {enc : α → D} {enc' : β → D} {n m : Nat}
theorem encInt : EncOk PyData.int 0 := ⟨fun a b => by simp only [PyData.eqv]; rw [Bool.eq_iff_iff, beq_iff_eq, decide_eq_true_eq], fun _ => rfl, fun _ => Nat.le_refl _⟩
theorem encBool : EncOk PyData.bool 0 := ⟨fun a b => by simp only [PyData.eqv]; rw [Bool.eq_iff_iff, beq_iff_eq, decide_eq_true_eq], fun _ => rfl, fun _ => Nat.le_refl _⟩
theorem EncOk.plainAll (h : EncOk enc n) : ∀ xs : List α, PyData.plainAll (xs.map enc) = true
  | [] => rfl
  | x :: xs => by rw [List.map_cons, PyData.plainAll, h.plain x, EncOk.plainAll h xs]; rfl
theorem EncOk.depthAll (h : EncOk enc n) : ∀ xs : List α, PyData.depthAll (xs.map enc) ≤ n
  | [] => Nat.zero_le _
  | x :: xs => by rw [List.map_cons, PyData.depthAll]; exact Nat.max_le.mpr ⟨h.depth x, EncOk.depthAll h xs⟩
theorem EncOk.eqvAll (h : EncOk enc n) : ∀ xs ys : List α, PyData.eqvAll (xs.map enc) (ys.map enc) = decide (xs = ys)
  | [], [] => by simp only [List.map_nil, PyData.eqvAll, decide_true]
  | [], _ :: _ => by simp [PyData.eqvAll]
  | _ :: _, [] => by simp [PyData.eqvAll]
  | x :: xs, y :: ys => by
    rw [List.map_cons, List.map_cons, PyData.eqvAll, h.eqv x y, EncOk.eqvAll h xs ys, ← Bool.decide_and]
    exact decide_eq_decide.mpr (by rw [List.cons.injEq])
theorem EncOk.list (h : EncOk enc n) : EncOk (fun xs : List α => PyData.list (xs.map enc)) (n + 1) :=
  ⟨fun a b => by simp only [PyData.eqv]; exact h.eqvAll a b, fun a => by simp only [PyData.plain]; exact h.plainAll a, fun a => by simp only [PyData.depth]; exact Nat.succ_le_succ (h.depthAll a)⟩
theorem EncOk.tup (h : EncOk enc n) : EncOk (fun xs : List α => PyData.tuple (xs.map enc)) (n + 1) :=
  ⟨fun a b => by simp only [PyData.eqv]; exact h.eqvAll a b, fun a => by simp only [PyData.plain]; exact h.plainAll a, fun a => by simp only [PyData.depth]; exact Nat.succ_le_succ (h.depthAll a)⟩
theorem EncOk.ok (h : EncOk enc n) (a : α) (hn : n ≤ 64 := by decide) : okD (enc a) = true := okD_iff.mpr ⟨h.plain a, Nat.le_trans (h.depth a) hn⟩
theorem EncOk.oks (h : EncOk enc n) (a : List α) (hn : n ≤ 64 := by decide) : okDs (a.map enc) = true := okDs_iff.mpr ⟨h.plainAll a, Nat.le_trans (h.depthAll a) hn⟩
theorem EncOk.eq (h : EncOk enc n) (a b : α) (hn : n ≤ 64 := by decide) : dEq (enc a) (enc b) = some (.bool (decide (a = b))) := by
  unfold dEq; rw [if_pos ⟨h.ok a hn, h.ok b hn⟩, h.eqv]
theorem EncOk.ne (h : EncOk enc n) (a b : α) (hn : n ≤ 64 := by decide) : dNe (enc a) (enc b) = some (.bool (!decide (a = b))) := by
  unfold dNe; rw [if_pos ⟨h.ok a hn, h.ok b hn⟩, h.eqv]
theorem EncOk.any (h : EncOk enc n) (a : α) : ∀ xs : List α, ((xs.map enc).any fun y => PyData.eqv y (enc a)) = decide (a ∈ xs)
  | [] => rfl
  | x :: xs => by
    rw [List.map_cons, List.any_cons, EncOk.any h a xs, h.eqv, ← Bool.decide_or]
    exact decide_eq_decide.mpr (by rw [List.mem_cons, eq_comm])
theorem EncOk.inT (h : EncOk enc n) (a : α) (xs : List α) (hn : n ≤ 64 := by decide) : dIn (enc a) (.tuple (xs.map enc)) = some (.bool (decide (a ∈ xs))) := by
  unfold dIn; rw [items, Option.bind_some, if_pos ⟨h.ok a hn, h.oks xs hn⟩, h.any]
theorem EncOk.inL (h : EncOk enc n) (a : α) (xs : List α) (hn : n ≤ 64 := by decide) : dIn (enc a) (.list (xs.map enc)) = some (.bool (decide (a ∈ xs))) := by
  unfold dIn; rw [items, Option.bind_some, if_pos ⟨h.ok a hn, h.oks xs hn⟩, h.any]
theorem EncOk.niT (h : EncOk enc n) (a : α) (xs : List α) (hn : n ≤ 64 := by decide) : dNotIn (enc a) (.tuple (xs.map enc)) = some (.bool (!decide (a ∈ xs))) := by
  unfold dNotIn; rw [items, Option.bind_some, if_pos ⟨h.ok a hn, h.oks xs hn⟩, h.any]
theorem EncOk.niL (h : EncOk enc n) (a : α) (xs : List α) (hn : n ≤ 64 := by decide) : dNotIn (enc a) (.list (xs.map enc)) = some (.bool (!decide (a ∈ xs))) := by
  unfold dNotIn; rw [items, Option.bind_some, if_pos ⟨h.ok a hn, h.oks xs hn⟩, h.any]
end
@[simp] theorem e_lt (i j : Int) : dLt (.int i) (.int j) = some (.bool (decide (i < j))) := rfl
@[simp] theorem e_le (i j : Int) : dLe (.int i) (.int j) = some (.bool (decide (i ≤ j))) := rfl
@[simp] theorem e_gt (i j : Int) : dGt (.int i) (.int j) = some (.bool (decide (j < i))) := rfl
@[simp] theorem e_sub (i j : Int) : dSub (.int i) (.int j) = some (.int (i - j)) := rfl
@[simp] theorem e_add (i j : Int) : dAdd (.int i) (.int j) = some (.int (i + j)) := rfl
@[simp] theorem e_eq (i j : Int) : dEq (.int i) (.int j) = some (.bool (decide (i = j))) := encInt.eq i j
@[simp] theorem e_ne (i j : Int) : dNe (.int i) (.int j) = some (.bool (!decide (i = j))) := encInt.ne i j
@[simp] theorem e_eqb (i j : Bool) : dEq (.bool i) (.bool j) = some (.bool (decide (i = j))) := encBool.eq i j
@[simp] theorem e_neb (i j : Bool) : dNe (.bool i) (.bool j) = some (.bool (!decide (i = j))) := encBool.ne i j
@[simp] theorem e_inT (i : Int) (xs : List Int) : dIn (.int i) (.tuple (xs.map .int)) = some (.bool (decide (i ∈ xs))) := encInt.inT i xs
@[simp] theorem e_inL (i : Int) (xs : List Int) : dIn (.int i) (.list (xs.map .int)) = some (.bool (decide (i ∈ xs))) := encInt.inL i xs
@[simp] theorem e_niT (i : Int) (xs : List Int) : dNotIn (.int i) (.tuple (xs.map .int)) = some (.bool (!decide (i ∈ xs))) := encInt.niT i xs
@[simp] theorem e_niL (i : Int) (xs : List Int) : dNotIn (.int i) (.list (xs.map .int)) = some (.bool (!decide (i ∈ xs))) := encInt.niL i xs
@[simp] theorem e_isB (b : Bool) : isB (.bool b) = some b := rfl
@[simp] theorem e_b2 (g : G2) (f1 f2 : Rho → Option D) (ρ : Rho) : b2 g f1 f2 ρ = (f1 ρ).bind fun x => (f2 ρ).bind fun y => g x y := rfl
@[simp] theorem e_b3 (g g' : G2) (f1 f2 f3 : Rho → Option D) (ρ : Rho) : b3 g g' f1 f2 f3 ρ = (f1 ρ).bind fun x => (f2 ρ).bind fun y => (g x y).bind fun r => (isB r).bind fun k => if k = true then (f3 ρ).bind fun z => g' y z else some (.bool false) := rfl
@[simp] theorem e_bB (f : Rho → Option D) (ρ : Rho) : bB f ρ = (f ρ).bind isB := rfl
@[simp] theorem e_bNot (f : Rho → Option Bool) (ρ : Rho) : bNot f ρ = (f ρ).map (!·) := rfl
@[simp] theorem e_bAnd (f g : Rho → Option Bool) (ρ : Rho) : bAnd f g ρ = (f ρ).bind fun b => if b = true then g ρ else some false := rfl
@[simp] theorem e_bOr (f g : Rho → Option Bool) (ρ : Rho) : bOr f g ρ = (f ρ).bind fun b => if b = true then some true else g ρ := rfl
@[simp] theorem e_vAnd (f g : Rho → Option D) (ρ : Rho) : vAnd f g ρ = (f ρ).bind fun x => (isB x).bind fun b => if b = true then g ρ else some (.bool false) := rfl
@[simp] theorem e_vNot (f : Rho → Option D) (ρ : Rho) : vNot f ρ = (f ρ).bind fun x => (isB x).map fun b => .bool (!b) := rfl
@[simp] theorem e_vIf (t : Rho → Option Bool) (f g : Rho → Option D) (ρ : Rho) : vIf t f g ρ = (t ρ).bind fun b => if b = true then f ρ else g ρ := rfl
@[simp] theorem e_aNil (ρ : Rho) : aNil ρ = some [] := rfl
@[simp] theorem e_aCons (f : Rho → Option D) (g : Rho → Option (List D)) (ρ : Rho) : aCons f g ρ = (f ρ).bind fun x => (g ρ).map fun xs => x :: xs := rfl
@[simp] theorem e_aOf {α : Type} (g : List D → Option α) (f : Rho → Option (List D)) (ρ : Rho) : aOf g f ρ = (f ρ).bind g := rfl
@[simp] theorem e_vTup (f : Rho → Option (List D)) (ρ : Rho) : vTup f ρ = (f ρ).map PyData.tuple := rfl
@[simp] theorem e_gC (p : D) (ρ : Rho) : gC p ρ = some p := rfl
@[simp] theorem e_wipe0 (ρ : Rho) : wipeR ρ [] = ρ := rfl
@[simp] theorem e_wipe (ρ : Rho) (i : Nat) (is : List Nat) : wipeR ρ (i :: is) = (wipeR ρ is).set i .no := rfl
@[simp] theorem e_fYes (ρ : Rho) : fYes ρ = some true := rfl
@[simp] theorem e_fItems (f : Rho → Option D) (ρ : Rho) : fItems f ρ = (f ρ).bind items := rfl
@[simp] theorem e_itT (xs : List D) : items (.tuple xs) = some xs := rfl
@[simp] theorem e_itL (xs : List D) : items (.list xs) = some xs := rfl
@[simp] theorem e_gTupL (xs : List D) : gTup [.list xs] = some (.tuple xs) := rfl
@[simp] theorem e_gTupT (xs : List D) : gTup [.tuple xs] = some (.tuple xs) := rfl
@[simp] theorem e_gLst (p : D) : gLst [p] = items p := rfl
@[simp] theorem e_gLenL (xs : List D) : gLen [.list xs] = some (.int xs.length) := rfl
@[simp] theorem e_gLenT (xs : List D) : gLen [.tuple xs] = some (.int xs.length) := rfl
@[simp] theorem e_vIsi (T : String) (f : Rho → Option D) (ρ : Rho) : vIsi T f ρ = (f ρ).bind fun p => if noIs p = true then none else some (gIsi T p) := rfl
@[simp] theorem e_gIsi (T : String) (p : D) : gIsi T p = .bool (isiB (tyN p) T) := rfl
@[simp] theorem e_gAny (bs : List Bool) : gAny [.list (bs.map .bool)] = some (.bool (bs.any id)) := by show (boolsD _).map _ = _; rw [boolsD_map]; rfl
@[simp] theorem e_gAll (bs : List Bool) : gAll [.list (bs.map .bool)] = some (.bool (bs.all id)) := by show (boolsD _).map _ = _; rw [boolsD_map]; rfl
@[simp] theorem e_gAnyC {α : Type} (xs : List α) (Q : α → Bool) : gAny [.list (xs.map (PyData.bool ∘ Q))] = some (.bool (xs.any Q)) := by rw [← List.map_map, e_gAny, List.any_map]; rfl
@[simp] theorem e_gAllC {α : Type} (xs : List α) (Q : α → Bool) : gAll [.list (xs.map (PyData.bool ∘ Q))] = some (.bool (xs.all Q)) := by rw [← List.map_map, e_gAll, List.all_map]; rfl
@[simp] theorem e_sNil (ρ : Rho) : sNil ρ = some (.nx ρ) := rfl
@[simp] theorem e_sRet (f : Rho → Option D) (ρ : Rho) : sRet f ρ = (f ρ).map Fl.rt := rfl
@[simp] theorem e_sSet (i : Nat) (f : Rho → Option D) (ρ : Rho) : sSet i f ρ = (f ρ).map fun p => .nx (ρ.set i (.v p)) := rfl
@[simp] theorem e_sSetO (i : Nat) (f : Rho → Option (List D)) (ρ : Rho) : sSetO i f ρ = (f ρ).map fun p => .nx (ρ.set i (.ol p)) := rfl
@[simp] theorem e_sSetL (i : Nat) (f : Rho → Option (List D)) (ρ : Rho) : sSetL i f ρ = (f ρ).map fun p => .nx (ρ.set i (.v (.list p))) := rfl
@[simp] theorem e_sDrop (f : Rho → Option D) (ρ : Rho) : sDrop f ρ = (f ρ).map fun _ => .nx ρ := rfl
@[simp] theorem e_sIf (t : Rho → Option Bool) (f g : Rho → Option Fl) (ρ : Rho) : sIf t f g ρ = (t ρ).bind fun b => if b = true then f ρ else g ρ := rfl
@[simp] theorem e_sFor (g : Tg) (u : Rho → Option (List D)) (f : Rho → Option Fl) (ρ : Rho) : sFor g u f ρ = (u ρ).bind fun ps => forF g f ps ρ := rfl
@[simp] theorem e_tgN (i : Nat) (p : D) (ρ : Rho) : tgN i p ρ = some (ρ.set i (.v p)) := rfl
@[simp] theorem e_tg2 (i j : Nat) (a b : D) (ρ : Rho) : tg2 i j (.tuple [a, b]) ρ = some ((ρ.set i (.v a)).set j (.v b)) := rfl
theorem atI_ix {α : Type} (xs : List α) (i : Int) (h0 : 0 ≤ i) (h1 : i < xs.length) : ∃ x, xs[i.toNat]? = some x ∧ atI xs i = some x := by
  have hi : i.toNat < xs.length := by omega
  refine ⟨xs[i.toNat], List.getElem?_eq_getElem hi, ?_⟩
  have e : i = (i.toNat : Int) := by omega
  have z := atI_nat (List.getElem?_eq_getElem hi)
  rw [← e] at z
  exact z
/-- range(n) -/
def upI (n : Nat) : List Int := (List.range n).map fun i => ((i : Nat) : Int)
theorem upI_length (n : Nat) : (upI n).length = n := by unfold upI; rw [List.length_map, List.length_range]
theorem rngD_upI (n : Nat) : rngD 0 n = (upI n).map PyData.int := by unfold rngD upI; rw [List.map_map]; apply List.map_congr_left; intro i _; show PyData.int _ = PyData.int _; rw [Int.zero_add]
theorem gRng1_upI (n : Nat) (h : n ≤ 16777216) : gRng1 [.int (n : Int)] = some ((upI n).map PyData.int) := by
  show (if _ then some (rngD 0 ((n : Int)).toNat) else none) = _; rw [if_pos (by omega), Int.toNat_natCast, rngD_upI]
end L2.P

namespace L2.P
open PySem PySem.Spec PyProof.Rows L2
abbrev tR (r : List Int) : D := .tuple (r.map .int)
@[simp] theorem e_gLenW (w : List (List Int)) : gLen [webD w] = some (.int w.length) := by show some (PyData.int ((w.map tR).length : Int)) = _; rw [List.length_map]
@[simp] theorem e_gLenR (r : List Int) : gLen [tR r] = some (.int r.length) := by show some (PyData.int ((r.map PyData.int).length : Int)) = _; rw [List.length_map]
/-- the friends of i -/
def fr (w : List (List Int)) (i : Int) : List Int := w.getD i.toNat []
structure Web (w : List (List Int)) : Prop where
  pos : 1 ≤ w.length
  le : w.length ≤ 7
  up : ∀ i : Int, 0 ≤ i → i < w.length → (fr w i).Pairwise (· < ·)
  inn : ∀ i k : Int, 0 ≤ i → i < w.length → k ∈ fr w i → 0 ≤ k ∧ k < w.length ∧ k ≠ i
  sym : ∀ i k : Int, 0 ≤ i → i < w.length → k ∈ fr w i → i ∈ fr w k
/-- people of a web of n, each once, from the shortest up -/
structure Ppl (n : Nat) (st : List Int) : Prop where
  up : st.Pairwise (· < ·)
  inn : ∀ k ∈ st, 0 ≤ k ∧ k < (n : Int)
theorem len_span : ∀ {l : List Int} {a b : Int}, a ≤ b → l.Pairwise (· < ·) → (∀ k ∈ l, a ≤ k ∧ k < b) → (l.length : Int) ≤ b - a
  | [], a, b, h, _, _ => by simp; omega
  | x :: t, a, b, h, p, q => by
    have hx := q x List.mem_cons_self
    obtain ⟨p1, p2⟩ := List.pairwise_cons.mp p
    have := len_span (a := x + 1) (b := b) (by omega) p2 fun k hk => ⟨by have := p1 k hk; omega, (q k (List.mem_cons_of_mem _ hk)).2⟩
    rw [List.length_cons]; omega
theorem Ppl.len {n : Nat} {st : List Int} (h : Ppl n st) : st.length ≤ n := by
  have := len_span (a := 0) (b := n) (by omega) h.up h.inn
  omega
@[simp] theorem e_sortSet (r : List Int) (h : r.length < 64) : dSortSet (tR r) = some ((sortD r).map PyData.int) := by
  show (intsD _).bind _ = _
  rw [intsD_map, Option.bind_some, if_pos h]
end L2.P
namespace L2.P
open PySem PySem.Spec PyProof.Rows L2
theorem Web.all {w : List (List Int)} (h : Web w) {i : Int} (h0 : 0 ≤ i) (h1 : i < w.length) : ((fr w i).all fun k => decide (0 ≤ k) && decide (k ≤ (w.length : Int) - 1)) = true := by
  rw [List.all_eq_true]
  intro k hk
  have := h.inn i k h0 h1 hk
  simp; omega
theorem Ppl.all {n : Nat} {st : List Int} (h : Ppl n st) : (st.all fun k => decide (0 ≤ k) && decide (k ≤ (n : Int) - 1)) = true := by
  rw [List.all_eq_true]
  intro k hk
  have := h.inn k hk
  simp; omega
end L2.P

namespace L2.P
open PySem PySem.Spec PyProof.Rows L2
section
variable {f g a b : Rho → Option Fl} {e : Rho → Option D} {es : Rho → Option (List D)} {t : Rho → Option Bool} {u : Rho → Option (List D)} {tg : Tg} {ρ : Rho} {K : Fl → Prop} {i : Nat}
end
end L2.P

namespace L2.P
open PySem PySem.Spec PyProof.Rows L2
theorem forW_inv {α S : Type} {enc : α → D} (st : S → Rho) (J : Nat → S → Prop) {g : Tg} {T : TSt} {K : Fl → Prop} (N : Nat) : ∀ (xs : List α) (i : Nat) (s : S), i + xs.length ≤ N → J i s →
    (∀ (i : Nat) (s : S) (x : α) (K' : Fl → Prop), x ∈ xs → i < N → J i s → (∀ s', J (i + 1) s' → K' (.nx (st s'))) → ∃ ρ', g (enc x) (st s) = some ρ' ∧ T ρ' K') → (∀ s, J (i + xs.length) s → K (.nx (st s))) → forW g T (xs.map enc) (st s) K
  | [], i, s, _, hJ, _, k => k s hJ
  | x :: xs, i, s, hN, hJ, h, k => by
    rw [List.length_cons] at hN
    obtain ⟨ρ', h1, h2⟩ := h i s x (fun fl => match fl with
      | .nx ρ2 => forW g T (xs.map enc) ρ2 K
      | .ct ρ2 => forW g T (xs.map enc) ρ2 K
      | .bk ρ2 => K (.nx ρ2)
      | .rt v => K (.rt v)) List.mem_cons_self (by omega) hJ (fun s' hs' => forW_inv st J N xs (i + 1) s' (by omega) hs' (fun i s y K' hy => h i s y K' (List.mem_cons_of_mem _ hy)) fun s2 hs2 => k s2 (by rw [List.length_cons]; rw [Nat.add_assoc, Nat.add_comm 1] at hs2; exact hs2))
    exact ⟨ρ', h1, h2⟩
end L2.P

namespace L2.P
open PySem PySem.Spec PyProof.Rows L2
inductive Pv where
  | f (p : D) | o (ps : List D) | d (t : Bool) (kvs : List (D × D))
def Pv.sl : Pv → Sl
  | .f p => .v p
  | .o ps => .ol ps
  | .d t kvs => .od t kvs
/-- values beside one another: frozen ones, and new lists that nobody else holds -/
inductive OwAll (K : Fg) (B : Bs) (F H : Hp) (σ : St) (ρ : Rho) : List V → List Pv → List Addr → Prop
  | nil : OwAll K B F H σ ρ [] [] []
  | f {v : V} {p : D} {vs : List V} {ps : List Pv} {as : List Addr} : Dp K F v p → OwAll K B F H σ ρ vs ps as → OwAll K B F H σ ρ (v :: vs) (.f p :: ps) as
  | o {a : Addr} {ob : HO} {q : Pv} {vs : List V} {ps : List Pv} {as : List Addr} : F a = none → B.Ha a = none → H a = some ob → Holds K F ob q.sl → (∀ (l : Nat) (s : Sl), ρ[l]? = some s → s.owns = true → σ[l]? = some (some (V.ref a)) → False) → a ∉ as →
      OwAll K B F H σ ρ vs ps as → OwAll K B F H σ ρ (.ref a :: vs) (q :: ps) (a :: as)
abbrev TP := Rho → (List Pv → Prop) → Prop
def tOA (K : Fg) (T : TP) : TA := fun σ H Q => ∃ B F ρ, Rs K B F H σ ρ ∧ T ρ (fun ps => ∀ F' H' vs as, Rs K B F' H' σ ρ → Same F F' → OwAll K B F' H' σ ρ vs ps as → Q vs H')
structure OA (X : Cx) (es : List Expr) (T : TP) : Prop where
  mono : ∀ ρ K K', (∀ p, K p → K' p) → T ρ K → T ρ K'
  pa : PA X es (tOA X.K T)
section
variable {X : Cx} {e : Expr} {es : List Expr} {pos : Pos}
theorem OwAll.unpin {K : Fg} {B : Bs} {F H : Hp} {σ : St} {ρ : Rho} {a : Addr} {o : HO} (hH : B.Ha a = none) : ∀ {vs : List V} {ps : List Pv} {as : List Addr}, OwAll K (B.pin a o) F H σ ρ vs ps as → OwAll K B F H σ ρ vs ps as ∧ a ∉ as
  | _, _, _, .nil => ⟨.nil, by simp⟩
  | _, _, _, .f d r => ⟨.f d (OwAll.unpin hH r).1, (OwAll.unpin hH r).2⟩
  | _, _, _, .o (a := b) h1 h2 h3 h4 h5 h6 r => by
    obtain ⟨r1, r2⟩ := OwAll.unpin hH r
    have z : (upd B.Ha a o) b = none := h2
    have ne : b ≠ a := fun e => by subst e; rw [upd_same] at z; cases z
    rw [upd_ne ne] at z
    refine ⟨.o h1 z h3 h4 h5 h6 r1, fun m => ?_⟩
    rcases List.mem_cons.mp m with e | m
    · exact ne e.symm
    · exact r2 m
def oD (t : Bool) (T : Rho → (List (D × D) → Prop) → Prop) (U : TP) : TP := fun ρ K => T ρ fun p => U ρ fun ps => K (.d t p :: ps)
theorem OwAll.put {K : Fg} {B : Bs} {F H : Hp} {σ : St} {ρ : Rho} {i : Nat} {v : V} {s : Sl} {vs : List V} {ps : List Pv} {as : List Addr} (g : ∀ a, v = .ref a → s.owns = true → a ∉ as) (d : OwAll K B F H σ ρ vs ps as) (hl : ρ.length = σ.length) : OwAll K B F H (σ.set i (some v)) (ρ.set i s) vs ps as := by
  induction d with
  | nil => exact .nil
  | f d _ ih => exact .f d (ih g)
  | @o b ob q vs ps as h1 h2 h3 h4 h5 h6 r ih =>
    refine .o h1 h2 h3 h4 (fun l t ht ho e => ?_) h6 (ih fun a e1 e2 m => g a e1 e2 (List.mem_cons_of_mem _ m))
    rcases set_some ht with ⟨rfl, hl2, rfl⟩ | ⟨ne, ht⟩
    · rw [List.getElem?_set_self (by rw [← hl]; exact hl2)] at e
      cases e
      exact g b rfl ho List.mem_cons_self
    · rw [List.getElem?_set_ne ne] at e
      exact h5 l t ht ho e
theorem OwAll.len {K : Fg} {B : Bs} {F H : Hp} {σ : St} {ρ : Rho} : ∀ {vs : List V} {ps : List Pv} {as : List Addr}, OwAll K B F H σ ρ vs ps as → vs.length = ps.length
  | _, _, _, .nil => rfl
  | _, _, _, .f _ r => congrArg (· + 1) (OwAll.len r)
  | _, _, _, .o _ _ _ _ _ _ r => congrArg (· + 1) (OwAll.len r)
end
end L2.P
namespace L2.P
open PySem PySem.Spec PyProof.Rows L2
def pF (f : Rho → Option D) (g : Rho → Option (List Pv)) : Rho → Option (List Pv) := fun ρ => (f ρ).bind fun x => (g ρ).map fun xs => .f x :: xs
section
variable {X : Cx} {e : Expr} {es : List Expr} {pos : Pos} {st : Stmt}
theorem OA.imp {T T' : TP} (h : OA X es T) (m : ∀ ρ K K', (∀ p, K p → K' p) → T' ρ K → T' ρ K') (k : ∀ ρ K, T' ρ K → T ρ K) : OA X es T' := ⟨m, PA.imp h.pa fun _ _ _ ⟨B, F, ρ, R, q⟩ => ⟨B, F, ρ, R, k _ _ q⟩⟩
end
@[simp] theorem e_pF (f : Rho → Option D) (g : Rho → Option (List Pv)) (ρ : Rho) : pF f g ρ = (f ρ).bind fun x => (g ρ).map fun xs => .f x :: xs := rfl
end L2.P

namespace L2.P
open PySem PySem.Spec PyProof.Rows L2
def notN : D → Bool
  | .none => false
  | _ => true
def okM (ps : List D) : Bool := (ps.all fun x => notN x && ps.all fun y => PySem.W.alike x y) && okDs ps
section
variable {X : Cx}
def gPick (g : D → List D → D) : GA
  | [.list (x :: xs)] => if okM (x :: xs) = true then some (g x xs) else none
  | _ => none
def gMax : GA := gPick PySem.W.maxD
theorem pk_lst {K : Fg} {B : Bs} {F H : Hp} {σ : St} {ρ : Rho} {v : V} {ps : List D} (R : Rs K B F H σ ρ) (d : Pk K F σ ρ v (.list ps)) : ∃ a ys, v = .ref a ∧ SqL K H a ys ∧ DpAll K F ys ps := by
  rcases d with d | ⟨i, qs, h1, h2, e⟩
  · obtain ⟨a, xs, rfl, s, r⟩ := Dp.inv_lst d
    exact ⟨a, xs, rfl, sqL_same R.sub s, r⟩
  · cases e
    obtain ⟨a, xs, e, f, h0, h3, r⟩ := R.own h1
    rw [h2] at e; cases e
    exact ⟨a, xs, rfl, .inl (.inl h3), r⟩
variable {a : Expr} {p pos : Pos}
end
end L2.P

namespace L2.P
open PySem PySem.Spec PyProof.Rows L2
/-- who of st has a friend in st that q tells -/
def has (w : List (List Int)) (st : List Int) (q : Int → Int → Bool) (x : Int) : Bool := (fr w x).any fun k => q x k && decide (k ∈ st)
end L2.P

namespace L2.P
open PySem PySem.Spec PyProof.Rows L2
section
variable {f g : Rho → Option Fl} {u : Rho → Option (List D)} {tg : Tg} {ρ : Rho} {K : Fl → Prop}
end
@[simp] theorem e_slF (p : D) : (Pv.f p).sl = .v p := rfl
@[simp] theorem e_slO (p : List D) : (Pv.o p).sl = .ol p := rfl
/-- a slot that owns nothing -/
def nv : Option D → Sl
  | none => .no
  | some p => .v p
@[simp] theorem e_nvS (p : D) : nv (some p) = .v p := rfl
@[simp] theorem e_nvN : nv none = .no := rfl
@[simp] theorem e_fEnum (f : Rho → Option D) (ρ : Rho) : fEnum f ρ = (f ρ).bind fun p => (items p).map enumD := rfl
@[simp] theorem e_vNeg (f : Rho → Option D) (ρ : Rho) : vNeg f ρ = (f ρ).bind dNeg := rfl
@[simp] theorem e_dNeg (i : Int) : dNeg (.int i) = some (.int (-i)) := rfl
theorem ix_ints {cs : List Int} {i : Int} (h0 : 0 ≤ i) (h1 : i < cs.length) : dIx (tR cs) (.int i) = some (.int (cs.getD i.toNat 0)) := by
  show atI _ i = _
  have hi : i.toNat < cs.length := by omega
  have e : ((i.toNat : Nat) : Int) = i := by omega
  have z := atI_nat (xs := cs.map PyData.int) (j := i.toNat) (v := .int (cs.getD i.toNat 0)) (by rw [List.getElem?_map, List.getElem?_eq_getElem hi, List.getD_eq_getElem?_getD, List.getElem?_eq_getElem hi]; rfl)
  rw [e] at z
  exact z
/-- people of a web -/
def Row (n : Nat) (cs : List Int) : Prop := ∀ c ∈ cs, 0 ≤ c ∧ c < (n : Int)
/-- p calls -/
def callM (w : List (List Int)) (st : List Int) (p : Int) : List Int := if p ∈ st then st.filter fun o => decide (p ≤ o) || !decide (o ∈ fr w p) else st
theorem callM_sub (w : List (List Int)) (st : List Int) (p : Int) : (callM w st p).Sublist st := by
  unfold callM
  split
  · exact List.filter_sublist
  · exact List.Sublist.refl _
def moversM (w : List (List Int)) (st : List Int) : List Int := st.filter fun p => has w st (fun x k => decide (k < x)) p
/-- who makes somebody sit -/
theorem movers_iff {w : List (List Int)} {st : List Int} {p : Int} (hp : p ∈ st) : callM w st p ≠ st ↔ has w st (fun x k => decide (k < x)) p = true := by
  unfold callM has
  rw [if_pos hp, List.any_eq_true]
  constructor
  · intro h
    apply Classical.byContradiction
    intro q
    apply h
    rw [List.filter_eq_self]
    intro o ho
    rw [Bool.or_eq_true, decide_eq_true_eq, Bool.not_eq_true', decide_eq_false_iff_not]
    by_cases c : p ≤ o
    · exact .inl c
    · refine .inr fun hf => q ⟨o, hf, ?_⟩
      rw [Bool.and_eq_true, decide_eq_true_eq, decide_eq_true_eq]
      exact ⟨by omega, ho⟩
  · rintro ⟨k, hk, q⟩ e
    rw [Bool.and_eq_true, decide_eq_true_eq, decide_eq_true_eq] at q
    rw [List.filter_eq_self] at e
    have := e k q.2
    rw [Bool.or_eq_true, decide_eq_true_eq, Bool.not_eq_true', decide_eq_false_iff_not] at this
    rcases this with c | c
    · omega
    · exact c hk
end L2.P
namespace L2.P
open PySem PySem.Spec PyProof.Rows L2
end L2.P

namespace L2.P
open PySem PySem.Spec PyProof.Rows L2
section
variable {prog : Program} {w : World} {A : Around} {E : Value → Shared → Prop} {s : Shared}
end
end L2.P
namespace L2.P
open PySem PySem.Spec PyProof.Rows L2
section
variable {X : Cx} {e : Expr} {pos : Pos}
end
end L2.P

namespace L2.P
open PySem PySem.Spec PyProof.Rows L2
section
variable {X : Cx} {e : Expr} {pos : Pos}
end
end L2.P
namespace L2.P
open PySem PySem.Spec PyProof.Rows L2
end L2.P

namespace L2.PS
open PySem PySem.Calls PySem.SeqAt PySem.W PyProof.Rows
section
variable {prog : Program} {w : World} {A : Around} {E : Value → Shared → Prop} {s : Shared}
theorem call_tuple_lt {Q : Value → Shared → Prop} {l b : Addr} {items items2 : Array Value} {e r : Nat → Bool} (hl : s.heap.IsTuple l items) (hb : s.heap.IsTuple b items2)
    (he : ∀ j (h1 : j < items.size) (h2 : j < items2.size), EqAt A.in1 s items[j] items2[j] (e j)) (hr : ∀ j (h1 : j < items.size) (h2 : j < items2.size), e j = false → RcLt A.in1 s items[j] items2[j] (r j))
    (h : Q (.bool (firstLt e r (decide (items.size < items2.size)) (List.range (min items.size items2.size)))) s) : wpAny (model prog w) A (call (.builtin "tuple.__lt__") [.ref l, .ref b]) Q E s := by
  obtain ⟨⟨cls, dd, data, sl⟩, ho, hc, n, hd⟩ := id hl
  obtain ⟨⟨cls2, dd2, data2, sl2⟩, ho2, hc2, n2, hd2⟩ := id hb
  simp only at hc hd hc2 hd2
  subst hc hd hc2 hd2
  exact call_meets F.slot_tuple_lt ⟨_, ho, rfl⟩ F.entry_tuple_lt (F.args_tuple_lt_2 _ _) (tuple_ltAt l b items items2 n n2 dd dd2 sl sl2 e r) ⟨ho, ho2, he, hr, h⟩
/-- one tuple against another, as sorting asks -/
theorem oneLt_tup {f : Bool} {xs ys : List PyData} {a b : Value} {as bs : List Addr} {Q : Bool → Shared → Prop} (ra : Reads s.heap a (.tuple xs) as) (rb : Reads s.heap b (.tuple ys) bs) (h : alike (.tuple xs) (.tuple ys) = true)
    (hu : A.units + min (PyData.tuple xs).depth (PyData.tuple ys).depth < cLine) (hq : Q (dataLt (.tuple xs) (.tuple ys)) s) : wpAny (model prog w) A (oneLt' f a b) Q E s := by
  cases f with
  | false =>
    rw [oneLt'_eq]
    simp only [Bool.false_eq_true, if_false]
    exact wpAny_bind (rcLt_alike _ _ A s a b as bs ra rb h (by simp) hu prog w E _ (wpAny_truthy_bool hq))
  | true =>
    have hal : alikeAll xs ys = true := by simpa [alike] using h
    cases ra with
    | @tuple l o vs n _ as₁ h1 h2 h3 h4 =>
      cases rb with
      | @tuple l' o' vs' n' _ bs₁ k1 k2 k3 k4 =>
        have n1 : vs.size = xs.length := by simpa using SeqAt.ReadsAll.length _ _ _ h4
        have n2 : vs'.size = ys.length := by simpa using SeqAt.ReadsAll.length _ _ _ k4
        rw [dataLt_tuple, ← firstLt_toks xs ys hal, ← n1, ← n2] at hq
        rw [oneLt'_eq]
        simp only [if_true]
        refine wpAny_bind (wpAny_cRoomFor (room_here hu) ?_)
        refine wpAny_bind (wpAny_callSpecialIfBound?_slot (T := "tuple") ⟨_, h1, h2⟩ F.slot_tuple_lt (call_tuple_lt (e := pairEq xs ys) (r := fun j => dataLt (xs.getD j .none) (ys.getD j .none)) ⟨_, h1, h2, _, h3⟩ ⟨_, k1, k2, _, k3⟩ (fun j j1 j2 => ?_) (fun j j1 j2 hj => ?_) ?_))
        · have := eqAt_alikeAll xs ys A.in1 s vs.toList vs'.toList _ _ h4 k4 hal (room_in hu) j (by simpa using j1) (by simpa using j2)
          simpa using this
        · have := rcLt_alikeAll xs ys A.in1 s vs.toList vs'.toList _ _ h4 k4 hal (room_in hu) j (by simpa using j1) (by simpa using j2) hj
          simpa using this
        · exact wpAny_truthy_bool hq
def neT : PyData → Bool
  | .tuple (_ :: _) => true
  | _ => false
theorem firsts {M : Model} : ∀ (vs : List Value) (ds : List PyData) {Q : List (Option Value) → Shared → Prop}, EachIs (fun v d => ∃ as, Reads s.heap v d as) vs ds → (∀ d ∈ ds, ∃ xs, d = .tuple xs) →
    (∀ fs : List (Option Value), EachIs (fun f d => f.isSome = neT d) fs ds → Q fs s) → wpAny M A (vs.mapM firstOfTuple') Q E s
  | _, _, _, .nil, _, h => by rw [List.mapM_nil]; exact wpAny_pure (h [] .nil)
  | _, _, Q, .cons (a := v) (as := vs) (b := d) (bs := ds) ⟨as, r⟩ t, ht, h => by
    obtain ⟨xs, rfl⟩ := ht d List.mem_cons_self
    cases r with
    | @tuple a o its n _ _ ho hc hd hr =>
      rw [List.mapM_cons]
      refine wpAny_bind ?_
      rw [kas_first_eq]
      refine wpAny_bind (Looks.here (show Looks M s.heap (typeOf (.ref a)) o.cls from (Looks.ld ho).andThen .now) ?_)
      rw [hc, if_neg (by first | decide | simp)]
      refine wpAny_bind (listItems_at ho hd (wpAny_pure ?_))
      refine wpAny_bind (firsts vs ds (Q := fun bs s' => wpAny M A (pure (its[0]? :: bs)) Q E s') t (fun d hd => ht d (List.mem_cons_of_mem _ hd)) fun fs hfs => wpAny_pure (h _ (.cons ?_ hfs)))
      rw [← Array.getElem?_toList]
      have hl : its.toList.length = xs.length := SeqAt.ReadsAll.length _ _ _ hr
      cases q : its.toList with
      | nil =>
        rw [q] at hl
        cases xs with
        | nil => rfl
        | cons x xs => simp at hl
      | cons z zs =>
        rw [q] at hl
        cases xs with
        | nil => simp at hl
        | cons x xs => rfl
theorem each_all {α β : Type} {R : α → β → Prop} {p : α → Bool} {q : β → Bool} (hR : ∀ a b, R a b → p a = q b) : ∀ {as : List α} {bs : List β}, EachIs R as bs → as.all p = bs.all q
  | _, _, .nil => rfl
  | _, _, .cons h t => by rw [List.all_cons, List.all_cons, hR _ _ h, each_all hR t]
theorem SortsAt.tups {vs : List Value} {ds : List PyData} (e : EachIs (fun v d => ∃ as, Reads s.heap v d as) vs ds) (hal : AllAlike ds) (ht : ∀ d ∈ ds, ∃ xs, d = .tuple xs) (hu : ∀ d, d ∈ ds → A.units + d.depth < cLine) (hne : ds.all neT = false) :
    SortsAt prog w A s (dataKind s.heap ds) vs := by
  have room : ∀ {d d' : PyData}, d ∈ ds → A.units + min d.depth d'.depth < cLine := fun {d d'} hd => Nat.lt_of_le_of_lt (Nat.add_le_add_left (Nat.min_le_left _ _) _) (hu d hd)
  refine ⟨fun v hv => ?_, ?_⟩
  · obtain ⟨d, hd, as, r⟩ := e.left v hv
    exact ⟨_, dataKind_some hal hd r⟩
  · have lt : ∀ (f : Bool) (kd : SortKind), (∀ x y, keyLt' kd x y = oneLt' f x y) → H.LtAt prog w A s (dataKind s.heap ds) kd := fun f kd hk => by
      intro E x y a b Q ha hb hq
      obtain ⟨d, as, hd, ra, rfl⟩ := dataKind_inv ha
      obtain ⟨d', as', hd', rb, rfl⟩ := dataKind_inv hb
      have hdd := hal d hd d' hd'
      have hroom := room (d' := d') hd
      obtain ⟨x1, rfl⟩ := ht d hd
      obtain ⟨x2, rfl⟩ := ht d' hd'
      rw [hk]
      exact oneLt_tup ra rb hdd hroom hq
    cases ds with
    | nil => simp at hne
    | cons d₀ ds₀ =>
      cases e with
      | @cons v₀ _ vs₀ _ r₀ e₀ =>
        have e : EachIs (fun v d => ∃ as, Reads s.heap v d as) (v₀ :: vs₀) (d₀ :: ds₀) := .cons r₀ e₀
        cases h0 : neT d₀ with
        | true =>
          refine ⟨general', lt false general' (fun _ _ => rfl), fun h2 E Q hq => ?_⟩
          rw [keyKind'_eq, List.mapM_toArray, map_eq_pure_bind]
          refine wpAny_bind (wpAny_bind (firsts _ _ e ht fun fs hfs => wpAny_pure ?_))
          have ha := each_all (p := Option.isSome) (q := neT) (fun _ _ h => h) hfs
          rw [hne] at ha
          rw [if_neg (by rw [List.all_toArray, ha]; decide)]
          cases hfs with
          | @cons f _ fs _ hf hfs =>
            rw [h0] at hf
            obtain ⟨z, rfl⟩ := Option.isSome_iff_exists.mp hf
            rw [if_pos (by simp)]
            exact wpAny_pure hq
        | false =>
          refine ⟨oneType', lt true oneType' (fun _ _ => keyLt'_oneType _ _), fun h2 E Q hq => ?_⟩
          rw [keyKind'_eq, List.mapM_toArray, map_eq_pure_bind]
          refine wpAny_bind (wpAny_bind (firsts _ _ e ht fun fs hfs => wpAny_pure ?_))
          have ha := each_all (p := Option.isSome) (q := neT) (fun _ _ h => h) hfs
          rw [hne] at ha
          rw [if_neg (by rw [List.all_toArray, ha]; decide)]
          cases hfs with
          | @cons f _ fs _ hf hfs =>
            rw [h0] at hf
            cases f with
            | some z => cases hf
            | none =>
              rw [if_neg (by simp)]
              rw [oneTypeOnly'_eq, List.mapM_toArray, map_eq_pure_bind]
              refine wpAny_bind (wpAny_bind (wpAny_bind (kas_mapM (r := Value.type "tuple") _ (fun v hv Q' hq' => ?_) (wpAny_pure ?_))))
              · obtain ⟨d, hd, as, r⟩ := e.left v hv
                obtain ⟨xs, rfl⟩ := ht d hd
                exact (looks_reads r).here hq'
              · have hall : ((List.map (fun _ => Value.type "tuple") (v₀ :: vs₀)).toArray.all fun x => x == Value.type "tuple") = true := by
                  simp only [List.all_toArray, List.all_map, List.all_eq_true]
                  intro _ _
                  exact beq_self_eq_true _
                have h0 : (List.map (fun _ => Value.type "tuple") (v₀ :: vs₀)).toArray[0]? = some (Value.type "tuple") := by simp
                rw [h0]
                simp only [hall, if_true]
                exact wpAny_pure (wpAny_pure hq)
theorem alike_tuple {d d' : PyData} (h : alike d d' = true) (ht : ∃ xs, d = .tuple xs) : ∃ xs, d' = .tuple xs := by
  obtain ⟨xs, rfl⟩ := ht
  cases d' <;> first | exact ⟨_, rfl⟩ | exact absurd h (by simp [alike])
/-- alike data but None can be sorted -/
theorem SortsAt.any {vs : List Value} {ds : List PyData} (e : EachIs (fun v d => ∃ as, Reads s.heap v d as) vs ds) (hal : AllAlike ds) (hn : ∀ d ∈ ds, d ≠ .none) (hu : ∀ d, d ∈ ds → A.units + d.depth < cLine) : SortsAt prog w A s (dataKind s.heap ds) vs := by
  by_cases h1 : ∀ d ∈ ds, ∀ xs, d ≠ .tuple xs
  · exact SortsAt.data e hal (.inr fun d hd => ⟨hn d hd, h1 d hd⟩) hu
  · have ⟨d, hd, xs, hx⟩ : ∃ d, d ∈ ds ∧ ∃ xs, d = .tuple xs := by
      apply Classical.byContradiction
      intro q
      exact h1 fun d hd xs hx => q ⟨d, hd, xs, hx⟩
    have ht : ∀ d ∈ ds, ∃ xs, d = .tuple xs := fun d' hd' => alike_tuple (hal d hd d' hd') ⟨xs, hx⟩
    cases hb : ds.all neT with
    | false => exact SortsAt.tups e hal ht hu hb
    | true =>
      rw [List.all_eq_true] at hb
      refine SortsAt.data e hal (.inl fun d hd => ?_) hu
      obtain ⟨ys, rfl⟩ := ht d hd
      have := hb _ hd
      cases ys with
      | nil => cases this
      | cons y ys => exact ⟨_, _, rfl⟩
variable {β : Type} {R : Value → β → Prop} {enc : β → PyData} {vs : List Value} {bs : List β}
end
end L2.PS
namespace L2.P
open PySem PySem.Spec PyProof.Rows L2
section
variable {X : Cx}
variable {a : Expr} {p pos : Pos}
end
end L2.P
namespace L2.P
open PySem PySem.Spec PyProof.Rows L2
end L2.P

namespace L2.P
open PySem PySem.Spec PyProof.Rows L2
section
variable {K : Fg} {B : Bs} {F F' H H' : Hp} {σ σ' : St} {ρ ρ' : Rho} {a : Addr} {o : HO} {i : Nat} {ps : List D} {xs : List V}
end
section
variable {X : Cx} {elt tg : Expr} {ifs : List Expr} {scope : Scope} {own : List (Str × Nat)} {pos : Pos} {g : Tg} {T : TB} {E : TW}
variable {e : Expr}
end
end L2.P

namespace L2.P
open PySem PySem.Spec PyProof.Rows L2
def chM (ps : List Int) : List (List Int) := ps.foldl (fun acc p => acc ++ acc.map (· ++ [p])) [[]]
theorem chM_snoc (ps : List Int) (p : Int) : chM (ps ++ [p]) = chM ps ++ (chM ps).map (· ++ [p]) := by unfold chM; rw [List.foldl_append]; rfl
theorem sub_snoc {α : Type} {r l : List α} {p : α} : r.Sublist (l ++ [p]) ↔ r.Sublist l ∨ ∃ s, r = s ++ [p] ∧ s.Sublist l := by
  rw [List.sublist_append_iff]
  constructor
  · rintro ⟨a, b, rfl, ha, hb⟩
    cases hb with
    | cons _ h =>
      cases h
      rw [List.append_nil]; exact .inl ha
    | cons_cons _ h =>
      cases h
      exact .inr ⟨a, rfl, ha⟩
  · rintro (h | ⟨s, rfl, h⟩)
    · exact ⟨r, [], by simp, h, List.nil_sublist _⟩
    · exact ⟨s, [p], rfl, h, List.Sublist.refl _⟩
theorem snoc_ind {α : Type} {P : List α → Prop} (h0 : P []) (h1 : ∀ l x, P l → P (l ++ [x])) : ∀ l, P l := fun l => by
  have : ∀ n (l : List α), l.length = n → P l := fun n => by
    induction n with
    | zero => intro l hl; rw [List.length_eq_zero_iff.mp hl]; exact h0
    | succ n ih =>
      intro l hl
      have hne : l ≠ [] := fun e => by rw [e] at hl; cases hl
      rw [← List.dropLast_concat_getLast hne]
      exact h1 _ _ (ih _ (by rw [List.length_dropLast]; omega))
  exact this _ l rfl
theorem mem_chM {r : List Int} : ∀ {ps : List Int}, r ∈ chM ps ↔ r.Sublist ps := fun {ps} => by
  revert r
  refine snoc_ind (P := fun ps => ∀ {r : List Int}, r ∈ chM ps ↔ r.Sublist ps) (fun {r} => ?_) (fun l x ih {r} => ?_) ps
  · show r ∈ [[]] ↔ _
    rw [List.mem_singleton, List.sublist_nil]
  · rw [chM_snoc, List.mem_append, List.mem_map, sub_snoc, ih]
    constructor
    · rintro (h | ⟨s, hs, rfl⟩)
      · exact .inl h
      · exact .inr ⟨s, rfl, ih.mp hs⟩
    · rintro (h | ⟨s, rfl, hs⟩)
      · exact .inl h
      · exact .inr ⟨s, ih.mpr hs, rfl⟩
theorem chM_len : ∀ ps : List Int, (chM ps).length = 2 ^ ps.length := snoc_ind rfl fun l x ih => by
  rw [chM_snoc, List.length_append, List.length_map, ih, List.length_append, List.length_singleton]
  omega
theorem Ppl.sub {n : Nat} {st r : List Int} (h : Ppl n st) (hr : r.Sublist st) : Ppl n r := ⟨h.up.sublist hr, fun k hk => h.inn k (hr.subset hk)⟩
def sortR (rs : List (List Int)) : List (List Int) := rs.mergeSort (PySem.W.dataLe false tR)
theorem sortR_perm (rs : List (List Int)) : (sortR rs).Perm rs := List.mergeSort_perm _ _
theorem alike_tR (r s : List Int) : PySem.W.alike (tR r) (tR s) = true := by
  show PySem.W.alikeAll (r.map .int) (s.map .int) = true
  exact PySem.W.alike_ints r s
end L2.P

namespace L2.P
open PySem PySem.Spec PyProof.Rows L2
section
variable {X : Cx} {a b : Expr} {pos : Pos}
end
end L2.P

namespace L2.P
open PySem PySem.Spec PyProof.Rows L2
theorem pw_nodup {xs : List Int} (h : xs.Pairwise (· < ·)) : xs.Nodup := h.imp fun h => by omega
theorem okM_I (xs : List Int) : okM (xs.map .int) = true := by
  unfold okM
  rw [Bool.and_eq_true, List.all_eq_true]
  refine ⟨fun x hx => ?_, encInt.oks xs⟩
  obtain ⟨e, _, rfl⟩ := List.mem_map.mp hx
  rw [Bool.and_eq_true, List.all_eq_true]
  refine ⟨rfl, fun y hy => ?_⟩
  obtain ⟨e', _, rfl⟩ := List.mem_map.mp hy
  rfl
end L2.P

namespace L2.P
open PySem PySem.Spec PyProof.Rows L2
section
variable {X : Cx} {k v e : Expr} {pos : Pos}
end
end L2.P
namespace L2.P
open PySem PySem.Spec PyProof.Rows L2
def lookD (kvs : List (D × D)) (k : D) : Option D := (kvs.find? fun e => PyData.eqv e.1 k).map (·.2)
def putD (kvs : List (D × D)) (k v : D) : List (D × D) := if (kvs.any fun e => PyData.eqv e.1 k) = true then kvs.map (fun e => if PyData.eqv e.1 k = true then (e.1, v) else e) else kvs ++ [(k, v)]
def kindOf : List (D × D) → Option Bool
  | (.int _, .dict [(.none, .none)]) :: _ => none
  | (.int _, _) :: _ => some false
  | (.tuple _, _) :: _ => some true
  | [] => some false
  | _ => none
/-- a dict to be read: unlocked or locked -/
def DRd (K : Fg) (F H : Hp) (t : Bool) (a : Addr) (kvs : List (D × D)) : Prop := match t with
  | false => ∃ es, Rd H a (.dK es) ∧ DkAll K F es kvs
  | true => ∃ es, Rd H a (.dT es) ∧ DtAll K F es kvs
/-- a dict locked for good -/
def DLk (K : Fg) (F : Hp) (t : Bool) (a : Addr) (kvs : List (D × D)) : Prop := match t with
  | false => ∃ o es, F a = some (.frz o (.dK es)) ∧ DkAll K F es kvs
  | true => ∃ o es, F a = some (.frz o (.dT es)) ∧ DtAll K F es kvs
/-- both or none -/
inductive OpD (K : Fg) (F : Hp) : Option V → Option D → Prop
  | no : OpD K F none none
  | yes {v : V} {p : D} : Dp K F v p → OpD K F (some v) (some p)
theorem OpD.isSome {K : Fg} {F : Hp} {o : Option V} {p : Option D} (h : OpD K F o p) : o.isSome = p.isSome := by cases h <;> rfl
theorem eqv_int (a b : Int) : PyData.eqv (.int a) (.int b) = decide (a = b) := encInt.1 a b
theorem eqv_ints (a b : List Int) : PyData.eqv (.tuple (a.map .int)) (.tuple (b.map .int)) = decide (a = b) := encInt.tup.1 a b
theorem lookD_cons (q : D × D) (kvs : List (D × D)) (k : D) : lookD (q :: kvs) k = if PyData.eqv q.1 k = true then some q.2 else lookD kvs k := by
  unfold lookD
  rw [List.find?_cons]
  cases PyData.eqv q.1 k <;> rfl
theorem valV_cons {κ : Type} [DecidableEq κ] (q : κ × V) (kvs : List (κ × V)) (k : κ) : valV (q :: kvs) k = if q.1 = k then some q.2 else valV kvs k := by
  by_cases h : q.1 = k
  · rw [if_pos h]; exact valV_pos h
  · rw [if_neg h]; exact valV_neg h
theorem inlM_inj {a b : List Int} : a.map (Sum.inl (β := Str)) = b.map Sum.inl ↔ a = b := by
  constructor
  · intro h
    induction a generalizing b with
    | nil => cases b with
      | nil => rfl
      | cons _ _ => cases h
    | cons x a ih => cases b with
      | nil => cases h
      | cons y b =>
        rw [List.map_cons, List.map_cons] at h
        obtain ⟨h1, h2⟩ := List.cons.inj h
        rw [Sum.inl.inj h1, ih h2]
  · rintro rfl; rfl
section
variable {K : Fg} {F : Hp}
theorem DkAll.val (n : Int) : ∀ {es : List (Key × V)} {kvs : List (D × D)}, DkAll K F es kvs → OpD K F (valV es (.inl n)) (lookD kvs (.int n))
  | _, _, .nil => .no
  | _, _, .cons (k := k) d r => by
    rw [valV_cons, lookD_cons, eqv_int]
    by_cases h : k = n
    · subst h; rw [if_pos rfl, if_pos (by simp)]; exact .yes d
    · rw [if_neg (fun z => h (Sum.inl.inj z)), if_neg (by simpa using h)]; exact DkAll.val n r
theorem DtAll.val (ns : List Int) : ∀ {es : List (List Key × V)} {kvs : List (D × D)}, DtAll K F es kvs → OpD K F (valV es (ns.map .inl)) (lookD kvs (.tuple (ns.map .int)))
  | _, _, .nil _ => .no
  | _, _, .cons (ks := ks) d r => by
    rw [valV_cons, lookD_cons, eqv_ints]
    by_cases h : ks = ns
    · subst h; rw [if_pos rfl, if_pos (by simp)]; exact .yes d
    · rw [if_neg (fun z => h (inlM_inj.mp z)), if_neg (by simpa using h)]; exact DtAll.val ns r
theorem DkAll.append : ∀ {es es' : List (Key × V)} {kvs kvs' : List (D × D)}, DkAll K F es kvs → DkAll K F es' kvs' → DkAll K F (es ++ es') (kvs ++ kvs')
  | _, _, _, _, .nil, h => h
  | _, _, _, _, .cons d r, h => .cons d (DkAll.append r h)
theorem DtAll.append : ∀ {es es' : List (List Key × V)} {kvs kvs' : List (D × D)}, DtAll K F es kvs → DtAll K F es' kvs' → DtAll K F (es ++ es') (kvs ++ kvs')
  | _, _, _, _, .nil _, h => h
  | _, _, _, _, .cons d r, h => .cons d (DtAll.append r h)
theorem DkAll.len : ∀ {es : List (Key × V)} {kvs : List (D × D)}, DkAll K F es kvs → es.length = kvs.length
  | _, _, .nil => rfl
  | _, _, .cons _ r => congrArg (· + 1) (DkAll.len r)
theorem DtAll.len : ∀ {es : List (List Key × V)} {kvs : List (D × D)}, DtAll K F es kvs → es.length = kvs.length
  | _, _, .nil _ => rfl
  | _, _, .cons _ r => congrArg (· + 1) (DtAll.len r)
theorem DkAll.repl (n : Int) {v : V} {p : D} (d : Dp K F v p) : ∀ {es : List (Key × V)} {kvs : List (D × D)}, DkAll K F es kvs → DkAll K F (es.map fun kv => if kv.1 = Sum.inl n then (kv.1, v) else kv) (kvs.map fun e => if PyData.eqv e.1 (.int n) = true then (e.1, p) else e)
  | _, _, .nil => .nil
  | _, _, .cons (k := k) d0 r => by
    rw [List.map_cons, List.map_cons]
    by_cases h : k = n
    · subst h; rw [if_pos rfl, if_pos (by rw [eqv_int]; simp)]; exact .cons d (DkAll.repl k d r)
    · rw [if_neg (fun z => h (Sum.inl.inj z)), if_neg (by rw [eqv_int]; simpa using h)]; exact .cons d0 (DkAll.repl n d r)
theorem DtAll.repl (ns : List Int) {v : V} {p : D} (d : Dp K F v p) : ∀ {es : List (List Key × V)} {kvs : List (D × D)}, DtAll K F es kvs → DtAll K F (es.map fun kv => if kv.1 = ns.map Sum.inl then (kv.1, v) else kv) (kvs.map fun e => if PyData.eqv e.1 (.tuple (ns.map .int)) = true then (e.1, p) else e)
  | _, _, .nil l => .nil l
  | _, _, .cons (ks := ks) d0 r => by
    rw [List.map_cons, List.map_cons]
    by_cases h : ks = ns
    · subst h; rw [if_pos rfl, if_pos (by rw [eqv_ints]; simp)]; exact .cons d (DtAll.repl ks d r)
    · rw [if_neg (fun z => h (inlM_inj.mp z)), if_neg (by rw [eqv_ints]; simpa using h)]; exact .cons d0 (DtAll.repl ns d r)
theorem DkAll.any (n : Int) : ∀ {es : List (Key × V)} {kvs : List (D × D)}, DkAll K F es kvs → (es.any fun kv => decide (kv.1 = Sum.inl n)) = kvs.any fun e => PyData.eqv e.1 (.int n)
  | _, _, .nil => rfl
  | _, _, .cons (k := k) d0 r => by
    rw [List.any_cons, List.any_cons, DkAll.any n r, eqv_int]
    congr 1
    by_cases h : k = n
    · subst h; simp
    · simp [h]
theorem DtAll.any (ns : List Int) : ∀ {es : List (List Key × V)} {kvs : List (D × D)}, DtAll K F es kvs → (es.any fun kv => decide (kv.1 = ns.map Sum.inl)) = kvs.any fun e => PyData.eqv e.1 (.tuple (ns.map .int))
  | _, _, .nil _ => rfl
  | _, _, .cons (ks := ks) d0 r => by
    rw [List.any_cons, List.any_cons, DtAll.any ns r, eqv_ints]
    congr 1
    by_cases h : ks = ns
    · subst h; simp
    · have : ¬ ks.map (Sum.inl (β := Str)) = ns.map Sum.inl := fun z => h (inlM_inj.mp z)
      simp [h, this]
theorem DkAll.put (n : Int) {v : V} {p : D} (d : Dp K F v p) {es : List (Key × V)} {kvs : List (D × D)} (r : DkAll K F es kvs) : DkAll K F (putK es (.inl n) v) (putD kvs (.int n) p) := by
  unfold putK putD
  rw [r.any n]
  by_cases h : (kvs.any fun e => PyData.eqv e.1 (.int n)) = true
  · rw [if_pos h, if_pos h]; exact r.repl n d
  · rw [if_neg h, if_neg h]; exact r.append (.cons d .nil)
theorem DtAll.put (ns : List Int) {v : V} {p : D} (d : Dp K F v p) {es : List (List Key × V)} {kvs : List (D × D)} (r : DtAll K F es kvs) : DtAll K F (putK es (ns.map .inl) v) (putD kvs (.tuple (ns.map .int)) p) := by
  unfold putK putD
  rw [r.any ns]
  by_cases h : (kvs.any fun e => PyData.eqv e.1 (.tuple (ns.map .int))) = true
  · rw [if_pos h, if_pos h]; exact r.repl ns d
  · rw [if_neg h, if_neg h]; exact r.append (.cons d (.nil r.strict))
variable {B : Bs} {H : Hp} {σ : St} {ρ : Rho} {i : Nat} {t : Bool} {kvs : List (D × D)}
theorem DLk.same {F' : Hp} {a : Addr} (h : DLk K F t a kvs) (s : Same F F') : DLk K F' t a kvs := by
  cases t with
  | false => obtain ⟨o, es, e, d⟩ := h; exact ⟨o, es, s _ _ e, d.same s⟩
  | true => obtain ⟨o, es, e, d⟩ := h; exact ⟨o, es, s _ _ e, d.same s⟩
theorem DRd.same {F' : Hp} {a : Addr} (h : DRd K F H t a kvs) (s : Same F F') : DRd K F' H t a kvs := by
  cases t with
  | false => obtain ⟨es, e, d⟩ := h; exact ⟨es, e, d.same s⟩
  | true => obtain ⟨es, e, d⟩ := h; exact ⟨es, e, d.same s⟩
/-- a value that is a dict of a kind is locked -/
theorem Dp.lk {v : V} (d : Dp K F v (.dict kvs)) (hk : kindOf kvs = some t) : ∃ a, v = .ref a ∧ DLk K F t a kvs := by
  obtain ⟨a, rfl, hd⟩ := Dp.inv_dictQ d (fun _ z => by subst z; cases hk) (fun _ z => by subst z; cases hk) (fun _ z => by subst z; cases hk)
  refine ⟨a, rfl, ?_⟩
  rcases hd with ⟨o, es, e, r⟩ | ⟨o, e1, es, e, r⟩ | ⟨i1, i2, e, _⟩ | ⟨q1, vs1, ps1, e, _⟩
  · cases r with
    | nil => cases hk; exact ⟨o, _, e, .nil⟩
    | cons d1 r1 =>
      have : t = false := by
        unfold kindOf at hk
        split at hk
        · cases hk
        · cases hk; rfl
        · rename_i h; cases h
        · rename_i h; cases h
        · cases hk
      subst this
      exact ⟨o, _, e, .cons d1 r1⟩
  · cases r with
    | cons d1 r1 => cases hk; exact ⟨o, _, e, .cons d1 r1⟩
  · subst e
    cases hk
  · subst e
    cases hk
end
end L2.P

namespace L2.P
open PySem PySem.Spec PyProof.Rows L2
section
variable {X : Cx} {k v e : Expr} {pos : Pos} {i : Nat} {x : Str} {px : Pos}
end
end L2.P

namespace L2.P
open PySem PySem.Spec PyProof.Rows L2
section
variable {X : Cx} {e : Expr} {pos : Pos} {i : Nat} {x : Str} {px p : Pos}
end
end L2.P
namespace L2.P
open PySem PySem.Spec PyProof.Rows L2
section
variable {X : Cx} {k : Expr} {pos : Pos} {i : Nat} {x : Str} {px : Pos}
end
end L2.P

namespace L2.P
open PySem PySem.Spec PyProof.Rows L2
section
variable {X : Cx} {a b e : Expr} {pos : Pos}
end
theorem le_tR : PySem.W.dataLe false tR = fun p q : List Int => decide (p ≤ q) := by
  have e : PySem.W.dataLe false tR = PySem.W.dataLe false (fun r : List Int => PyData.list (r.map .int)) := by
    funext p q
    unfold PySem.W.dataLe PySem.W.sortLe
    simp only [PySem.W.keyToks]
  rw [e]
  exact PySem.W.dataLe_rows id
theorem sortR_pw (rs : List (List Int)) : (sortR rs).Pairwise (· ≤ ·) := by
  have := List.pairwise_mergeSort (le := PySem.W.dataLe false tR) (fun a b c h1 h2 => by
    rw [le_tR] at *
    simp only [decide_eq_true_eq] at *
    exact List.le_trans h1 h2) (fun a b => by
    rw [le_tR]
    simp only [Bool.or_eq_true, decide_eq_true_eq]
    exact List.le_total a b) rs
  unfold sortR
  refine this.imp fun {a b} h => ?_
  rw [le_tR] at h
  simpa using h
theorem sortR_uniq {xs ys : List (List Int)} (hp : xs.Perm ys) (h : ys.Pairwise (· ≤ ·)) : sortR xs = ys :=
  ((sortR_perm xs).trans hp).eq_of_pairwise (fun a b _ _ h1 h2 => List.le_antisymm h1 h2) (sortR_pw xs) h
theorem sortR_congr {xs ys : List (List Int)} (hp : xs.Perm ys) : sortR xs = sortR ys := sortR_uniq (hp.trans (sortR_perm ys).symm) (sortR_pw ys)
end L2.P

namespace L2.P
open PySem PySem.Spec PyProof.Rows L2
/-- s is reached from st by calls -/
def Rch (w : List (List Int)) (st s : List Int) : Prop := ∃ cs : List Int, s = cs.foldl (callM w) st
theorem Rch.refl (w : List (List Int)) (st : List Int) : Rch w st st := ⟨[], rfl⟩
theorem Rch.step {w : List (List Int)} {st s : List Int} (h : Rch w st s) (p : Int) : Rch w st (callM w s p) := by
  obtain ⟨cs, rfl⟩ := h
  exact ⟨cs ++ [p], by rw [List.foldl_append]; rfl⟩
theorem fold_sublist {w : List (List Int)} : ∀ (cs st : List Int), (cs.foldl (callM w) st).Sublist st
  | [], st => List.Sublist.refl _
  | c :: cs, st => (fold_sublist cs (callM w st c)).trans (callM_sub w st c)
theorem Rch.sub {w : List (List Int)} {st s : List Int} (h : Rch w st s) : s.Sublist st := by
  obtain ⟨cs, rfl⟩ := h
  exact fold_sublist cs st
theorem call_not {w : List (List Int)} {st : List Int} {p : Int} (h : p ∉ st) : callM w st p = st := by unfold callM; rw [if_neg h]
/-- all that s brings at once is in ks -/
def Cl (w : List (List Int)) (ks : List (List Int)) (s : List Int) : Prop := ∀ p ∈ moversM w s, callM w s p ∈ ks
theorem Cl.mono {w : List (List Int)} {ks ks' : List (List Int)} {s : List Int} (h : Cl w ks s) (hk : ∀ x ∈ ks, x ∈ ks') : Cl w ks' s := fun p hp => hk _ (h p hp)
theorem mem_movers {w : List (List Int)} {s : List Int} {p : Int} : p ∈ moversM w s ↔ p ∈ s ∧ callM w s p ≠ s := by
  unfold moversM
  rw [List.mem_filter]
  exact ⟨fun ⟨a, b⟩ => ⟨a, (movers_iff a).mpr b⟩, fun ⟨a, b⟩ => ⟨a, (movers_iff a).mp b⟩⟩
theorem closed_rch {w : List (List Int)} {ks : List (List Int)} {st : List Int} (h0 : st ∈ ks) (h : ∀ s ∈ ks, Cl w ks s) : ∀ s, Rch w st s → s ∈ ks := by
  rintro s ⟨cs, rfl⟩
  revert cs
  refine snoc_ind (by exact h0) fun cs c ih => ?_
  rw [List.foldl_append]
  show callM w (cs.foldl (callM w) st) c ∈ ks
  by_cases e : callM w (cs.foldl (callM w) st) c = cs.foldl (callM w) st
  · rw [e]; exact ih
  · refine h _ ih c (mem_movers.mpr ⟨?_, e⟩)
    apply Classical.byContradiction
    intro hn
    exact e (call_not hn)
theorem call_len {w : List (List Int)} {s : List Int} {p : Int} (h : p ∈ moversM w s) : (callM w s p).length < s.length := by
  have h1 := (mem_movers.mp h).2
  have h2 := callM_sub w s p
  rcases Nat.lt_or_ge (callM w s p).length s.length with h | h
  · exact h
  · exact absurd (h2.eq_of_length_le h) h1
theorem nodup_len {α : Type} [DecidableEq α] : ∀ {ks ls : List α}, ks.Nodup → (∀ x ∈ ks, x ∈ ls) → ks.length ≤ ls.length
  | [], _, _, _ => Nat.zero_le _
  | k :: ks, ls, hn, hs => by
    obtain ⟨h1, h2⟩ := List.nodup_cons.mp hn
    have hk := hs k List.mem_cons_self
    have := nodup_len (ks := ks) (ls := ls.erase k) h2 fun x hx => (List.mem_erase_of_ne (by rintro rfl; exact h1 hx)).mpr (hs x (List.mem_cons_of_mem _ hx))
    rw [List.length_erase_of_mem hk] at this
    have hp : 0 < ls.length := List.length_pos_of_mem hk
    rw [List.length_cons]
    omega
/-- in the midst of a round of a search: j states of last are done -/
structure Mid (w : List (List Int)) (st : List Int) (c : Nat) (last : List (List Int)) (j : Nat) (ks fresh : List (List Int)) : Prop where
  nd : ks.Nodup
  rch : ∀ s ∈ ks, Rch w st s
  beg : st ∈ ks
  fk : ∀ s ∈ fresh, s ∈ ks
  lk : ∀ s ∈ last, s ∈ ks
  cl : ∀ s ∈ ks, s ∉ fresh → s ∉ last ∨ s ∈ last.take j → Cl w ks s
  szl : ∀ s ∈ last, s.length + c ≤ st.length
  sz : ∀ s ∈ fresh, s.length + (c + 1) ≤ st.length
  fl : fresh.length ≤ ks.length
theorem Mid.len {w : List (List Int)} {st : List Int} {c : Nat} {last : List (List Int)} {j : Nat} {ks fresh : List (List Int)} (M : Mid w st c last j ks fresh) : ks.length ≤ 2 ^ st.length := by
  rw [← chM_len]
  exact nodup_len M.nd fun s hs => mem_chM.mpr (M.rch s hs).sub
/-- .. m of here's movers, too -/
structure Mid2 (w : List (List Int)) (st : List Int) (c : Nat) (last : List (List Int)) (j : Nat) (here : List Int) (m : Nat) (ks fresh : List (List Int)) : Prop extends Mid w st c last j ks fresh where
  mv : ∀ q ∈ (moversM w here).take m, callM w here q ∈ ks
theorem Mid.start {w : List (List Int)} {st : List Int} {c : Nat} {last : List (List Int)} {j : Nat} {ks fresh : List (List Int)} (M : Mid w st c last j ks fresh) (here : List Int) : Mid2 w st c last j here 0 ks fresh := ⟨M, fun q hq => by cases hq⟩
theorem Mid2.done {w : List (List Int)} {st : List Int} {c : Nat} {last : List (List Int)} {j : Nat} {here : List Int} {ks fresh : List (List Int)} (M : Mid2 w st c last j here (moversM w here).length ks fresh) (hj : last[j]? = some here) : Mid w st c last (j + 1) ks fresh := by
  refine ⟨M.nd, M.rch, M.beg, M.fk, M.lk, fun s hs hf ho => ?_, M.szl, M.sz, M.fl⟩
  rcases ho with ho | ho
  · exact M.cl s hs hf (.inl ho)
  · rw [List.take_add_one, hj] at ho
    rcases List.mem_append.mp ho with ho | ho
    · exact M.cl s hs hf (.inr ho)
    · have : s = here := by simpa using ho
      subst this
      intro q hq
      refine M.mv q ?_
      rw [List.take_length]
      exact hq
theorem Mid2.old {w : List (List Int)} {st : List Int} {c : Nat} {last : List (List Int)} {j m : Nat} {here : List Int} {q : Int} {ks fresh : List (List Int)} (M : Mid2 w st c last j here m ks fresh) (hq : (moversM w here)[m]? = some q) (hin : callM w here q ∈ ks) : Mid2 w st c last j here (m + 1) ks fresh := by
  refine ⟨M.toMid, fun r hr => ?_⟩
  rw [List.take_add_one, hq] at hr
  rcases List.mem_append.mp hr with hr | hr
  · exact M.mv r hr
  · have : r = q := by simpa using hr
    subst this; exact hin
theorem Mid2.new {w : List (List Int)} {st : List Int} {c : Nat} {last : List (List Int)} {j m : Nat} {here : List Int} {q : Int} {ks fresh : List (List Int)} (M : Mid2 w st c last j here m ks fresh) (hq : (moversM w here)[m]? = some q) (hh : here ∈ last) (hin : callM w here q ∉ ks) : Mid2 w st c last j here (m + 1) (ks ++ [callM w here q]) (fresh ++ [callM w here q]) := by
  have up : ∀ x ∈ ks, x ∈ ks ++ [callM w here q] := fun x hx => List.mem_append_left _ hx
  have hqm := List.mem_of_getElem? hq
  refine ⟨⟨?_, fun s hs => ?_, up _ M.beg, fun s hs => ?_, fun s hs => up _ (M.lk s hs), fun s hs hf ho => ?_, M.szl, fun s hs => ?_, ?_⟩, fun r hr => ?_⟩
  · rw [List.nodup_append]
    refine ⟨M.nd, by simp, fun a ha b hb e => ?_⟩
    rw [List.mem_singleton] at hb
    subst hb; subst e
    exact hin ha
  · rcases List.mem_append.mp hs with hs | hs
    · exact M.rch s hs
    · rw [List.mem_singleton] at hs
      subst hs
      exact (M.rch here (M.lk here hh)).step q
  · rcases List.mem_append.mp hs with hs | hs
    · exact up _ (M.fk s hs)
    · exact List.mem_append_right _ hs
  · have hf' : s ∉ fresh := fun z => hf (List.mem_append_left _ z)
    rcases List.mem_append.mp hs with hs | hs
    · exact (M.cl s hs hf' ho).mono up
    · exact absurd (List.mem_append_right _ hs) hf
  · rcases List.mem_append.mp hs with hs | hs
    · exact M.sz s hs
    · rw [List.mem_singleton] at hs
      subst hs
      have a := call_len hqm
      have b := M.szl here hh
      omega
  · rw [List.length_append, List.length_append]
    have := M.fl
    simp only [List.length_singleton]; omega
  · rw [List.take_add_one, hq] at hr
    rcases List.mem_append.mp hr with hr | hr
    · exact up _ (M.mv r hr)
    · have : r = q := by simpa using hr
      subst this
      exact List.mem_append_right _ (List.mem_singleton.mpr rfl)
/-- ahead of a round -/
structure Rnd (w : List (List Int)) (st : List Int) (c : Nat) (ks last : List (List Int)) : Prop where
  nd : ks.Nodup
  rch : ∀ s ∈ ks, Rch w st s
  beg : st ∈ ks
  lk : ∀ s ∈ last, s ∈ ks
  cl : ∀ s ∈ ks, s ∉ last → Cl w ks s
  sz : ∀ s ∈ last, s.length + c ≤ st.length
  ll : last.length ≤ ks.length
theorem Rnd.start (w : List (List Int)) (st : List Int) : Rnd w st 0 [st] [st] :=
  ⟨by simp, fun s hs => by rw [List.mem_singleton] at hs; subst hs; exact Rch.refl _ _, List.mem_singleton.mpr rfl, fun s hs => hs, fun s hs hn => absurd hs hn, fun s hs => by rw [List.mem_singleton] at hs; subst hs; omega, Nat.le_refl _⟩
theorem Rnd.mid {w : List (List Int)} {st : List Int} {c : Nat} {ks last : List (List Int)} (R : Rnd w st c ks last) : Mid w st c last 0 ks [] := by
  refine ⟨R.nd, R.rch, R.beg, fun s hs => (by cases hs), R.lk, fun s hs _ ho => ?_, R.sz, fun s hs => (by cases hs), Nat.zero_le _⟩
  rcases ho with ho | ho
  · exact R.cl s hs ho
  · cases ho
theorem Rnd.full {w : List (List Int)} {st : List Int} {c : Nat} {ks : List (List Int)} (R : Rnd w st c ks []) (s : List Int) : s ∈ ks ↔ Rch w st s :=
  ⟨R.rch s, closed_rch R.beg (fun s hs => R.cl s hs (by simp)) s⟩
theorem Rnd.len {w : List (List Int)} {st : List Int} {c : Nat} {ks last : List (List Int)} (R : Rnd w st c ks last) : ks.length ≤ 2 ^ st.length := R.mid.len
theorem neT (r s : List Int) : dNe (tR r) (tR s) = some (.bool (!decide (r = s))) := encInt.tup.ne r s
end L2.P

namespace L2.P
open PySem PySem.Spec PyProof.Rows L2
/-- the order of pairs -/
def LtP (a b : Int × List Int) : Prop := a.1 < b.1 ∨ (a.1 = b.1 ∧ a.2 < b.2)
theorem LtP.trans {a b c : Int × List Int} (h1 : LtP a b) (h2 : LtP b c) : LtP a c := by
  rcases h1 with h1 | ⟨h1, h1'⟩ <;> rcases h2 with h2 | ⟨h2, h2'⟩
  · exact .inl (by omega)
  · exact .inl (by omega)
  · exact .inl (by omega)
  · exact .inr ⟨by omega, List.lt_trans h1' h2'⟩
theorem max_ints {ns : List Int} (hne : ns ≠ []) : ∃ M ∈ ns, gMax [.list (ns.map .int)] = some (.int M) ∧ ∀ n ∈ ns, n ≤ M := by
  cases ns with
  | nil => exact absurd rfl hne
  | cons n ns =>
    have key : ∀ (ns : List Int) (n : Int), ns.foldl max n ∈ n :: ns ∧ ∀ k ∈ n :: ns, k ≤ ns.foldl max n := fun ns => by
      induction ns with
      | nil => intro n; simp
      | cons k ns ih =>
        intro n
        obtain ⟨a, b⟩ := ih (max n k)
        rw [List.foldl_cons]
        refine ⟨?_, fun x hx => ?_⟩
        · rcases List.mem_cons.mp a with e | a
          · rw [e]
            by_cases c : n ≤ k
            · rw [Int.max_eq_right c]; simp
            · rw [Int.max_eq_left (by omega)]; simp
          · exact List.mem_cons_of_mem _ (List.mem_cons_of_mem _ a)
        · have b0 := b (max n k) List.mem_cons_self
          rcases List.mem_cons.mp hx with rfl | hx
          · omega
          · rcases List.mem_cons.mp hx with rfl | hx
            · omega
            · exact b x (List.mem_cons_of_mem _ hx)
    obtain ⟨a, b⟩ := key ns n
    refine ⟨_, a, ?_, b⟩
    show (if okM _ = true then some (PySem.W.maxD _ _) else none) = _
    have ok := okM_I (n :: ns)
    rw [List.map_cons] at ok
    rw [if_pos (by exact ok), PySem.W.maxD_ints]
end L2.P

namespace L2.P
open PySem PySem.Spec PyProof.Rows L2
theorem Ppl.row {n : Nat} {st : List Int} (h : Ppl n st) : Row n st := fun k hk => h.inn k hk
section
variable {κ β : Type} [DecidableEq κ]
def encK (ek : κ → D) (ev : β → D) (e : κ × β) : D × D := (ek e.1, ev e.2)
def EqK (ek : κ → D) : Prop := ∀ a b, PyData.eqv (ek a) (ek b) = decide (a = b)
def putM (kvs : List (κ × β)) (k : κ) (b : β) : List (κ × β) := if k ∈ kvs.map (·.1) then kvs.map (fun e => if e.1 = k then (e.1, b) else e) else kvs ++ [(k, b)]
def getM (kvs : List (κ × β)) (k : κ) : Option β := (kvs.find? fun e => decide (e.1 = k)).map (·.2)
theorem keys_putM {kvs : List (κ × β)} {k : κ} {b : β} : (putM kvs k b).map (·.1) = if k ∈ kvs.map (·.1) then kvs.map (·.1) else kvs.map (·.1) ++ [k] := by
  unfold putM
  split
  · rw [List.map_map]
    refine List.map_congr_left fun e he => ?_
    show (if e.1 = k then (e.1, b) else e).1 = e.1
    split <;> rfl
  · rw [List.map_append]; rfl
theorem getM_isSome {kvs : List (κ × β)} {k : κ} : (getM kvs k).isSome = decide (k ∈ kvs.map (·.1)) := by
  unfold getM
  rw [Option.isSome_map, Bool.eq_iff_iff, List.find?_isSome]
  simp
theorem putK {ek : κ → D} (he : EqK ek) (ev : β → D) (k : κ) (b : β) (kvs : List (κ × β)) : putD (kvs.map (encK ek ev)) (ek k) (ev b) = (putM kvs k b).map (encK ek ev) := by
  unfold putD putM
  have hc : ((kvs.map (encK ek ev)).any fun e => PyData.eqv e.1 (ek k)) = decide (k ∈ kvs.map (·.1)) := by
    rw [List.any_map, Bool.eq_iff_iff, List.any_eq_true]
    simp only [decide_eq_true_eq, List.mem_map]
    constructor
    · rintro ⟨e, h1, h2⟩
      refine ⟨e, h1, ?_⟩
      have : PyData.eqv (ek e.1) (ek k) = true := h2
      rw [he] at this
      exact of_decide_eq_true this
    · rintro ⟨e, h1, rfl⟩
      exact ⟨e, h1, (he _ _).trans (by simp)⟩
  rw [hc]
  by_cases h : k ∈ kvs.map (·.1)
  · rw [if_pos (by simpa using h), if_pos h, List.map_map, List.map_map]
    refine List.map_congr_left fun e _ => ?_
    show (if PyData.eqv (ek e.1) (ek k) = true then (ek e.1, ev b) else (ek e.1, ev e.2)) = encK ek ev (if e.1 = k then (e.1, b) else e)
    rw [he]
    by_cases h2 : e.1 = k
    · rw [if_pos (by simpa using h2), if_pos h2]; rfl
    · rw [if_neg (by simpa using h2), if_neg h2]; rfl
  · rw [if_neg (by simpa using h), if_neg h, List.map_append]; rfl
theorem putM_nodup {kvs : List (κ × β)} {k : κ} {b : β} (h : (kvs.map (·.1)).Nodup) : ((putM kvs k b).map (·.1)).Nodup := by
  rw [keys_putM]
  split
  · exact h
  · rename_i hk
    exact List.nodup_append.mpr ⟨h, by simp, fun a ha b hb e => hk (by
      have : b = k := by simpa using hb
      rw [← this, ← e]; exact ha)⟩
theorem mem_keys_putM {kvs : List (κ × β)} {k s : κ} {b : β} : s ∈ (putM kvs k b).map (·.1) ↔ s ∈ kvs.map (·.1) ∨ s = k := by
  rw [keys_putM]
  split
  · rename_i h
    exact ⟨.inl, fun z => z.elim id fun e => e ▸ h⟩
  · rw [List.mem_append, List.mem_singleton]
theorem getM_put {kvs : List (κ × β)} {k s : κ} {b : β} : getM (putM kvs k b) s = if k = s then some b else getM kvs s := by
  unfold putM
  split
  · rename_i hk
    induction kvs with
    | nil => cases hk
    | cons e kvs ih =>
      rw [List.map_cons]
      unfold getM
      rw [List.find?_cons, List.find?_cons]
      by_cases h1 : e.1 = k
      · rw [if_pos h1]
        by_cases h2 : k = s
        · rw [if_pos h2]
          simp [h1, h2]
        · rw [if_neg h2]
          have h3 : ¬ e.1 = s := fun z => h2 (h1 ▸ z)
          simp only [decide_eq_false h3]
          by_cases h4 : k ∈ kvs.map (·.1)
          · have := ih h4
            rw [if_neg h2] at this
            exact this
          · have : kvs.map (fun e => if e.1 = k then (e.1, b) else e) = kvs := by
              rw [List.map_congr_left (g := id), List.map_id]
              intro x hx
              rw [if_neg fun z => h4 (List.mem_map.mpr ⟨x, hx, z⟩)]; rfl
            rw [this]
      · rw [if_neg h1]
        have h4 : k ∈ kvs.map (·.1) := by
          rw [List.map_cons] at hk
          rcases List.mem_cons.mp hk with z | z
          · exact absurd z.symm h1
          · exact z
        by_cases h3 : e.1 = s
        · have h2 : ¬ k = s := fun z => h1 (h3.trans z.symm)
          rw [if_neg h2]
          simp [h3]
        · simp only [decide_eq_false h3]
          exact ih h4
  · rename_i hk
    unfold getM
    rw [List.find?_append]
    by_cases h2 : k = s
    · subst h2
      rw [if_pos rfl]
      have : kvs.find? (fun e => decide (e.1 = k)) = none := by
        rw [List.find?_eq_none]
        intro x hx
        simp only [decide_eq_true_eq]
        intro z
        exact hk (List.mem_map.mpr ⟨x, hx, z⟩)
      rw [this]
      simp
    · rw [if_neg h2]
      simp [h2]
theorem getM_mem {kvs : List (κ × β)} {k : κ} {b : β} (h : getM kvs k = some b) : (k, b) ∈ kvs := by
  unfold getM at h
  obtain ⟨e, h1, rfl⟩ := Option.map_eq_some_iff.mp h
  have h2 := List.find?_some h1
  have : e.1 = k := of_decide_eq_true h2
  subst this
  exact List.mem_of_find?_eq_some h1
end
end L2.P

namespace L2.P
open PySem PySem.Spec PyProof.Rows L2
end L2.P

set_option maxHeartbeats 3200000
namespace L2.PS
open PySem PySem.Calls PySem.SeqAt PySem.W PyProof.Rows L2
section
variable {P : Program} {w : World} {A : Around} {E : Value → Shared → Prop} {s : Shared}
abbrev set0 (w : World) : Obj := { cls := .type "set", dict := none, data := .set #[] 0 (.fresh 0 0 (!w.params.followText "set-order")) }
theorem call_set_listR {l : Addr} {items : Array Value} (ns : List Int) {Q : Value → Shared → Prop} (hh : A.handled = none) (hl : s.heap.IsList l items) (hit : IntsAre items.toList ns) (hb : ns.length + 1 < scanBound)
    (h : ∀ (h' : Heap) (tk c : Nat), SetR w h' s.heap.objs.size (fun j => decide (j ∈ ns)) c → c ≤ ns.length → (∀ b o, s.heap.get? b = some o → h'.get? b = some o) → Q (.ref s.heap.objs.size) { s with heap := h', toks := tk }) :
    wpAny (model P w) A (call (.type "set") [.ref l]) Q E s := by
  have hlen : items.size = ns.length := by rw [← Array.length_toList]; exact IntsAre.length hit
  have hlS : l < s.heap.objs.size := by obtain ⟨o, ho, _⟩ := id hl; exact Heap.lt_size ho
  have hS : (s.heap.push (set0 w)).get? s.heap.objs.size = some (set0 w) := Heap.get?_push_size _ rfl
  have hsz : (s.heap.push (set0 w)).objs.size = s.heap.objs.size + 1 := Heap.size_push ..
  obtain ⟨c, tl, hmro⟩ := F.called_set.mro
  have hmade := F.called_set.made
  have hsub := F.called_set.sub
  have h1 := F.called_set.notType
  have h2 := F.called_set.canCreate
  have hct := F.typeCall_set_1 (.ref l)
  have hli := F.called_set.init.lookup
  have hbi := F.called_set.init.bind (.ref s.heap.objs.size)
  have hT : Shared.TypeIs { s with heap := s.heap.push (set0 w) } (.ref s.heap.objs.size) "set" := ⟨_, hS, rfl⟩
  refine wpAny_call (codeAny_of_tree ?_)
  show wpAny _ _ (callAny (.type "set") _) _ _ _
  refine wpAny_pure ⟨Code.quiet_builtin _ (by decide +kernel), codeAny_builtin F.entry_type_call ?_⟩
  rw [Around.under_plain (weight_type_call_type "set" [.ref l] []) rfl]
  repeat (any_goals (first | assumption | wp_step))
  refine codeAny_mono (code_set_led1 (.ref l) (E := E) (Q₁ := fun obj s₁ => obj = .ref s.heap.objs.size ∧ s₁ = { s with heap := s.heap.push (set0 w) }) ⟨rfl, rfl⟩) fun r s₁ hr => ?_
  cases r with
  | error e => exact hr
  | ok fl =>
    cases fl with
    | ret obj =>
      obtain ⟨rfl, rfl⟩ := hr
      repeat (any_goals (first | assumption | wp_step))
      refine codeAny_mono (codeAny_call_builtin (R := wants (fun r s₂ => r = .none ∧ ∃ h' tk c, s₂ = { s with heap := h', toks := tk } ∧ SetR w h' s.heap.objs.size (fun j => decide (j ∈ ns)) c ∧ c ≤ ns.length ∧ (∀ b o, s.heap.get? b = some o → h'.get? b = some o)) E) F.called_set.init.plain F.entry_set_init (check_set_init_1 hT ?_)) fun r₂ s₂ hr₂ => ?_
      · obtain ⟨⟨ocls, odict, odata, oslots⟩, hol, hcl, nl, hdl⟩ := id hl
        simp only at hcl hdl
        subst hcl hdl
        have hol' : (s.heap.push (set0 w)).get? l = some { cls := .type "list", dict := odict, data := .seq items nl, slots := oslots } := Heap.get?_push_of_some _ hol
        have hsls := F.sub_list_set
        have hslf := F.sub_list_frozenset
        have hne : (Value.type "list" == Value.type "dict") = false := by decide
        have hl1 : (s.heap.push (set0 w)).IsList l items := ⟨_, hol', rfl, nl, rfl⟩
        unfold Builtin.«set.__init__» noKeywords Builtin.Frozenset.updateFrom
        generalize hPI : pyIter = PI
        wp_walk
        subst hPI
        refine wpAny_pyIter_list hl1 (wpAny_bind (wpAny_runValue ?_))
        have hh3 : A.in1.in1.in1.handled = none := by simp [hh]
        have hneI : l ≠ (s.heap.push (set0 w)).objs.size := Nat.ne_of_lt (hsz ▸ Nat.lt_succ_of_lt hlS)
        have hval : ∀ (i : Nat) (v : Value), items[i]? = some v → ∃ k t, ns[i]? = some k ∧ v = .int k t := fun i v hv => by
          have hi : i < ns.length := by rw [← hlen]; exact (Array.getElem?_eq_some_iff.mp hv).1
          obtain ⟨t, e⟩ := IntsAre.int_at hit i v (by rw [Array.getElem?_toList]; exact hv)
          exact ⟨ns[i], t, List.getElem?_eq_getElem hi, by rw [e, List.getD_eq_getElem?_getD, List.getElem?_eq_getElem hi]; rfl⟩
        refine set_update_ints (Walks.list hh3 _ l hneI items).toS s.heap.objs.size (by simp only [List.mem_cons, List.not_mem_nil, or_false, not_or]; exact ⟨Nat.ne_of_lt (hsz ▸ Nat.lt_succ_self _), Nat.ne_of_gt hlS⟩) ns hlen hb hval (items.size - 0) 0 _ (by omega) (Nat.zero_le _) ⟨⟨_, Heap.get?_push_size _ rfl, rfl, rfl⟩, hl1.push _⟩
          ⟨0, Nat.le_refl 0, setR_new_at (Heap.get?_push_of_some _ hS)⟩ fun s' c' hm hc' hS' => ?_
        obtain ⟨h', g2, d', tk', os'⟩ := s'
        have eg : g2 = s.gens := hm.gens
        have ed : d' = s.drawn := hm.drawn
        have eo : os' = s.os := hm.os
        subst eg ed eo
        show wpAny _ _ _ _ _ _
        refine wpAny_pure ?_
        show wpAny _ _ (ret Value.none) _ _ _
        refine wpAny_pure ⟨rfl, h', tk', c', rfl, hS', by omega, fun b o e => ?_⟩
        have hb0 : b < s.heap.objs.size := Heap.lt_size e
        exact hm.heap b o (by simp only [List.mem_cons, List.not_mem_nil, or_false, not_or]; exact ⟨Nat.ne_of_lt hb0, Nat.ne_of_lt (hsz ▸ Nat.lt_succ_of_lt hb0)⟩) (Heap.get?_push_of_some _ (Heap.get?_push_of_some _ e))
      · cases r₂ with
        | error e => exact hr₂
        | ok fl₂ =>
          cases fl₂ with
          | ret r =>
            obtain ⟨rfl, h', tk, c', rfl, hS', hc', hk'⟩ := hr₂
            repeat (any_goals (first | assumption | wp_step))
            exact h _ _ _ hS' hc' hk'
          | _ => exact hr₂.elim
    | _ => exact hr.elim
end
end L2.PS
namespace L2.P
open PySem PySem.Spec PyProof.Rows L2
variable {X : Cx}
def rSetL (w : World) (K : Fg) : List V → Hp → VK → Prop := fun xs H Q => ∃ (a : Addr) (ns : List Int), xs = [.ref a] ∧ SqL K H a (ns.map V.int) ∧ ns.length ≤ 1000 ∧
  ∀ (p : Addr), H p = none → Q (.ref p) (upd H p (SetO w p (fun j => decide (j ∈ ns)) (sortD ns).length))
theorem setR_len {w : World} {h : Heap} {a : Addr} {ns : List Int} {c : Nat} (R : SetR w h a (fun j => decide (j ∈ ns)) c) : c = (sortD ns).length := by
  obtain ⟨o, es, ep, t, _, _, _, g, nd, hm, _, _, hn, _⟩ := R
  have p : (es.toList.map keyOf).Perm (sortD ns) := (List.perm_ext_iff_of_nodup nd (pw_nodup (pw_sortD ns))).mpr fun k => by rw [← hm k, mem_sortD]; simp
  have := p.length_eq
  rw [List.length_map, Array.length_toList] at this
  omega
theorem cr_setL (hc : X.calm = true) : CallR X (.type "set") (rSetL X.w X.K) := by
  intro pins s σ H xs us Q I r h
  obtain ⟨a, ns, rfl, hs, hl, q⟩ := h
  obtain ⟨its, rv, pl, hz⟩ := I.list hs
  rw [Vals.ref1 r]
  have hsb : ns.length + 1 < scanBound := Nat.lt_of_le_of_lt (Nat.add_le_add_right hl 1) (by decide)
  refine PS.call_set_listR ns (I.ok.hd hc) pl.isList (by simpa using rv.ints) hsb fun h' tk c R hcl hk => ?_
  have hc := setR_len R
  subst hc
  exact ⟨.ref _, upd H s.heap.objs.size (SetO X.w s.heap.objs.size (fun j => decide (j ∈ ns)) (sortD ns).length), I.laid (t' := tk) hk (Nat.le_refl _) (setO_new R), rfl, q _ (I.hok.fresh (Nat.le_refl _))⟩
end L2.P
namespace L2.PS
open PySem PySem.Calls PySem.SeqAt PySem.W PyProof.Rows L2
theorem perm_map_inv {α β : Type} {f : α → β} : ∀ {vs ys : List β}, vs.Perm ys → ∀ {L : List α}, ys = L.map f → ∃ L1 : List α, L1.Perm L ∧ vs = L1.map f := by
  intro vs ys h
  induction h with
  | nil => intro L e; cases L with
    | nil => exact ⟨[], .nil, rfl⟩
    | cons _ _ => cases e
  | cons x _ ih => intro L e; cases L with
    | nil => cases e
    | cons y L =>
      rw [List.map_cons] at e
      injection e with e1 e2
      obtain ⟨L1, p, e3⟩ := ih e2
      exact ⟨y :: L1, p.cons y, by rw [List.map_cons, e1, e3]⟩
  | swap x y l => intro L e
                  match L, e with
                  | a :: b :: L, e =>
                    rw [List.map_cons, List.map_cons] at e
                    injection e with e1 e2
                    injection e2 with e2 e3
                    exact ⟨b :: a :: L, List.Perm.swap a b L, by rw [List.map_cons, List.map_cons, e1, e2, e3]⟩
  | trans _ _ ih1 ih2 => intro L e
                         obtain ⟨L2, p2, e2⟩ := ih2 e
                         obtain ⟨L1, p1, e1⟩ := ih1 e2
                         exact ⟨L1, p1.trans p2, e1⟩
theorem reads_ints {h : Heap} : ∀ {vs : List Value} {ns : List Int}, IntsAre vs ns → ∃ as, ReadsAll h vs (ns.map .int) as
  | _, _, .nil => ⟨_, .nil⟩
  | _, _, .cons n t r => by
    obtain ⟨as, q⟩ := reads_ints (h := h) r
    exact ⟨_, .cons (.int n t) q⟩
theorem each_refs {h : Heap} : ∀ {L : List (Addr × List Int)}, (∀ p ∈ L, TS.TupInts h (.ref p.1) p.2) → EachIs (fun (v : Value) (p : Addr × List Int) => ∃ as, Reads h v (L2.P.tR p.2) as) (L.map fun p => Value.ref p.1) L
  | [], _ => .nil
  | p :: L, hL => .cons (by
      obtain ⟨b, items, e, ⟨o, ho, hc, n, hd⟩, hi⟩ := hL p List.mem_cons_self
      injection e with e
      subst e
      obtain ⟨as, q⟩ := reads_ints (h := h) hi
      exact ⟨as, .tuple ho hc hd q⟩) (each_refs fun q hq => hL q (List.mem_cons_of_mem _ hq))
theorem each_self : ∀ (L : List (Addr × List Int)), EachIs (fun (v : Value) (p : Addr × List Int) => v = Value.ref p.1) (L.map fun p => Value.ref p.1) L
  | [] => .nil
  | p :: L => .cons rfl (each_self L)
theorem each_self_inv : ∀ {out : List Value} {L : List (Addr × List Int)}, EachIs (fun (v : Value) (p : Addr × List Int) => v = Value.ref p.1) out L → out = L.map fun p => Value.ref p.1
  | _, _, .nil => rfl
  | _, _, .cons e r => by rw [e, each_self_inv r]; rfl
section
variable {P : Program} {w : World} {A : Around} {E : Value → Shared → Prop} {s : Shared}
theorem sorted_setA {a : Addr} {L : List (Addr × List Int)} {es : Array (Int × Value)} {ep : Nat} {t : SetTable} {Q : Value → Shared → Prop} (R : SetTR P w s.heap a L es ep t) (hh : A.handled = none) (hu : A.units + 20 < cLine)
    (hQ : ∀ s' p (out : Array Value) (c : Nat) (L' : List (Addr × List Int)), (∀ b o, s.heap.get? b = some o → s'.heap.get? b = some o) → s'.gens = s.gens → s'.os = s.os → s.heap.objs.size ≤ p →
      s'.heap.get? p = some (seqObj "list" out c) → out.toList = L'.map (fun q => Value.ref q.1) → L'.Perm L → L'.map (·.2) = L2.P.sortR (L.map (·.2)) → Q (.ref p) s') :
    wpAny (model P w) A (call (.builtin "sorted") [.ref a]) Q E s := by
  obtain ⟨o, ho, hex, hd⟩ := R.ob
  have hsz := R.size
  have hfew := R.few
  refine call_function_entry_kw kind_sorted plain_sorted entry_sorted (args_sorted1 _) ?_
  unfold Builtin.«sorted»
  refine wpAny_bind (m := checkCount "sorted" 1 1 _) (wpAny_pure ?_)
  refine wpAny_bind (collect_set (A := A.in1) hh ⟨o, ho, hex.1, hd⟩ R.fits (by unfold scanBound; omega) R.tab.ris R.led fun s1 vs k1 hz g1 o1 pm => ?_)
  have hes : es.toList.map (·.2) = L.map fun q => Value.ref q.1 := by
    rw [R.rows]
    unfold rowsOf
    rw [List.map_map] <;> rfl
  obtain ⟨L1, hp1, rfl⟩ := perm_map_inv pm hes
  have hL1 : L1.length < 64 := by rw [hp1.length_eq]; exact hfew
  have hvl : (L1.map fun q => Value.ref q.1).length < 64 := by rw [List.length_map]; exact hL1
  generalize hvs : (L1.map fun q => Value.ref q.1) = vs at hvl
  refine wpAny_bind (wpAny_newList ?_ (by rw [sizeLine_eq]; omega))
  have hoL : (s1.heap.push (seqObj "list" vs.toArray 0)).get? s1.heap.objs.size = some (seqObj "list" vs.toArray 0) := Heap.get?_push_size _ rfl
  have tk : ∀ q ∈ L1, TS.TupInts (sortingHeap (s1.heap.push (seqObj "list" vs.toArray 0)) s1.heap.objs.size vs) (.ref q.1) q.2 := fun q hq => tupInts_of (P := P) (w := w) (isT_keep (R.tup q (hp1.mem_iff.mp hq)) fun b u e => by
    have e2 := k1 b u e
    exact sortingHeap_old (Nat.ne_of_lt (Heap.lt_size e2)) (Heap.get?_push_of_some _ e2))
  have er : EachIs (fun (v : Value) (p : Addr × List Int) => ∃ as, Reads (sortingHeap (s1.heap.push (seqObj "list" vs.toArray 0)) s1.heap.objs.size vs) v (L2.P.tR p.2) as) vs L1 := hvs ▸ each_refs (hvs.symm ▸ tk)
  have e0 : EachIs (fun (v : Value) (p : Addr × List Int) => v = Value.ref p.1) vs L1 := hvs ▸ each_self L1
  have hal : AllAlike (L1.map fun p => L2.P.tR p.2) := fun d hd d' hd' => by
    obtain ⟨p, _, rfl⟩ := List.mem_map.mp hd
    obtain ⟨q, _, rfl⟩ := List.mem_map.mp hd'
    exact L2.P.alike_tR _ _
  have hdep : ∀ d, d ∈ (L1.map fun p => L2.P.tR p.2) → d.depth ≤ 2 := fun d hd => by
    obtain ⟨p, _, rfl⟩ := List.mem_map.mp hd
    have : ∀ ns : List Int, PyData.depthAll (ns.map PyData.int) ≤ 1 := fun ns => by
      induction ns with
      | nil => simp [PyData.depthAll]
      | cons n ns ih =>
        rw [List.map_cons, PyData.depthAll]
        exact Nat.max_le.mpr ⟨by simp [PyData.depth], ih⟩
    show (PyData.tuple (p.2.map .int)).depth ≤ 2
    rw [PyData.depth]
    have := this p.2
    omega
  refine wpAny_bind (wpAny_holding (wpAny_call_entry_kw slot_list_sort ⟨_, hoL, rfl⟩ entry_list_sort ?body (args_list_sort _)))
  case body =>
    refine list_sort_vals (κ := dataKind (sortingHeap (s1.heap.push (seqObj "list" vs.toArray 0)) s1.heap.objs.size vs) (L1.map fun p => L2.P.tR p.2)) (s := { s1 with heap := s1.heap.push (seqObj "list" vs.toArray 0) }) hoL (SortsAt.any (each_map (R := fun v d => ∃ as, Reads (sortingHeap (s1.heap.push (seqObj "list" vs.toArray 0)) s1.heap.objs.size vs) v d as) (fun p : Addr × List Int => L2.P.tR p.2) er) hal (fun d hd z => by
        obtain ⟨p, _, rfl⟩ := List.mem_map.mp hd
        cases z) fun d hd => ?_) (by rw [sizeLine_eq]; omega) ?_
    · have := hdep d hd
      show A.in1.in1.units + d.depth < cLine
      have : A.in1.in1.units ≤ A.units + 2 := Nat.le_refl _
      omega
    · have so := sortVals_data (h' := sortingHeap (s1.heap.push (seqObj "list" vs.toArray 0)) s1.heap.objs.size vs) (R := fun (v : Value) (p : Addr × List Int) => v = Value.ref p.1) (enc := fun p : Addr × List Int => L2.P.tR p.2) false e0 er hal
      obtain ⟨c, hc⟩ := sortedHeap_at (vs := vs) (out := (sortVals (dataKind (sortingHeap (s1.heap.push (seqObj "list" vs.toArray 0)) s1.heap.objs.size vs) (L1.map fun p => L2.P.tR p.2)) false vs vs).toArray) hoL
      refine ⟨_, rfl, wpAny_pure ⟨_, rfl, hQ _ s1.heap.objs.size _ c (L1.mergeSort (dataLe false fun p : Addr × List Int => L2.P.tR p.2)) (fun b u e => ?_) g1 o1 hz hc (each_self_inv so) ((List.mergeSort_perm _ _).trans hp1) ?_⟩⟩
      · have q := k1 b u e
        have hlt := Heap.lt_size q
        show (sortedHeap (s1.heap.push (seqObj "list" vs.toArray 0)) s1.heap.objs.size vs _).get? b = some u
        rw [sortedHeap_old (Nat.ne_of_lt hlt) (by rw [size_push']; exact Nat.lt_succ_of_lt hlt)]
        exact Heap.get?_push_of_some _ q
      · have z := List.map_mergeSort (f := fun p : Addr × List Int => p.2) (r := dataLe false fun p : Addr × List Int => L2.P.tR p.2) (s := dataLe false L2.P.tR) (l := L1) (fun a _ b _ => rfl)
        rw [z]
        exact L2.P.sortR_congr (hp1.map _)
end
end L2.PS
namespace L2.P
open PySem PySem.Spec PyProof.Rows L2
section
variable {X : Cx}
def rSortedTA (K : Fg) (P : Program) (w : World) : List V → Hp → VK → Prop := fun vs H Q => ∃ (a : Addr) (L : List (Addr × List Int)), vs = [V.ref a] ∧ H a = some (SetTO P w a L) ∧ (∀ p ∈ L, SqT K H p.1 (p.2.map V.int)) ∧
  ∀ (L' : List (Addr × List Int)) (p : Addr), L'.Perm L → (L'.map (·.2)).Nodup → L'.length < 64 → L'.map (·.2) = sortR (L.map (·.2)) → H p = none → Q (.ref p) (upd H p (.lst (L'.map fun q => V.ref q.1)))
theorem cr_sortedTA (hc : X.calm = true) (hu : Rm X) : CallR X (.builtin "sorted") (rSortedTA X.K X.prog X.w) := by
  intro pins s σ H vs us Q I r h
  obtain ⟨a, L, rfl, ha, hk, q⟩ := h
  have R0 : SetT0 X.prog X.w s.heap a L := (I.hok a _ ha).1
  obtain ⟨es, ep, t, R⟩ := R0.full fun p hp => I.isT (hk p hp)
  rw [Vals.ref1 r]
  refine PS.sorted_setA R (I.ok.hd hc) (by unfold Rm at hu; omega) fun s' p out c L' k g o hp hg hout pm pw => ?_
  have hfew : L'.length < 64 := by rw [pm.length_eq]; exact R.few
  have hlen : (L'.map fun q => V.ref q.1).length ≤ sizeLine := by rw [List.length_map, sizeLine_eq]; omega
  have hn : H p = none := I.hok.fresh hp
  have hv : Vals (L'.map fun q => V.ref q.1) out.toList := by rw [hout]; exact vals_of_refs L'
  have J : Inv X pins σ (upd H p (.lst (L'.map fun q => V.ref q.1))) { s with heap := s'.heap, gens := s'.gens, drawn := s'.drawn, toks := s'.toks } :=
    I.call (ch := []) (Un.laid k hp hn) (I.hok.laid k hp ⟨hlen, out.toList, c, hv, hg⟩) (by rw [g]; exact I.bare) (fun _ z => nomatch z)
  have e : s' = { s with heap := s'.heap, gens := s'.gens, drawn := s'.drawn, toks := s'.toks } := by
    cases s'
    cases s
    cases o
    rfl
  rw [e]
  exact ⟨.ref p, _, J, rfl, q L' p pm ((pm.map (·.2)).nodup_iff.mpr R.nd) hfew pw hn⟩
/-- the tuples of ints of ps -/
def rowsD : List D → Option (List (List Int))
  | [] => some []
  | .tuple xs :: r => (intsD xs).bind fun ns => (rowsD r).map fun rs => ns :: rs
  | _ :: _ => none
theorem rowsD_some : ∀ {ps : List D} {rs : List (List Int)}, rowsD ps = some rs → ps = rs.map tR
  | [], _, h => by cases h; rfl
  | p :: ps, rs, h => by
    cases p with
    | tuple xs =>
      obtain ⟨ns, h1, h2⟩ := Option.bind_eq_some_iff.mp h
      obtain ⟨rs', h3, rfl⟩ := Option.map_eq_some_iff.mp h2
      rw [List.map_cons, ← rowsD_some h3, intsD_some h1]
    | _ => cases h
/-- each once -/
def dedR : List (List Int) → List (List Int)
  | [] => []
  | r :: rs => if r ∈ rs then dedR rs else r :: dedR rs
theorem mem_dedR {x : List Int} : ∀ {rs : List (List Int)}, x ∈ dedR rs ↔ x ∈ rs
  | [] => Iff.rfl
  | r :: rs => by
    unfold dedR
    split
    · rename_i h
      rw [mem_dedR, List.mem_cons]
      exact ⟨.inr, fun z => z.elim (fun e => e ▸ h) id⟩
    · rw [List.mem_cons, List.mem_cons, mem_dedR]
theorem nodup_dedR : ∀ (rs : List (List Int)), (dedR rs).Nodup
  | [] => List.nodup_nil
  | r :: rs => by
    unfold dedR
    split
    · exact nodup_dedR rs
    · rename_i h
      exact List.nodup_cons.mpr ⟨fun z => h (mem_dedR.mp z), nodup_dedR rs⟩
def dSortAll : D → Option (List D)
  | .tuple xs => (intsD xs).bind fun ns => if ns.length < 64 then some ((sortD ns).map PyData.int) else none
  | .list xs => match intsD xs with
    | some ns => if ns.length ≤ 1000 ∧ (sortD ns).length < 64 then some ((sortD ns).map PyData.int) else none
    | none => (rowsD xs).bind fun rs => if rs.length < 64 then some ((sortR (dedR rs)).map tR) else none
  | _ => none
def nSortAll (f : Rho → Option D) : Rho → Option (List D) := fun ρ => (f ρ).bind dSortAll
theorem dpAll_rows {K : Fg} {F : Hp} : ∀ {vs : List V} {rs : List (List Int)}, DpAll K F vs (rs.map tR) → ∃ ks : List (Addr × List Int), vs = ks.map (fun p => V.ref p.1) ∧ ks.map (·.2) = rs ∧ ∀ p ∈ ks, SqT K F p.1 (p.2.map V.int) ∧ Dp K F (.ref p.1) (tR p.2)
  | _, [], .nil => ⟨[], rfl, rfl, fun p hp => by cases hp⟩
  | _, r :: rs, .cons a b => by
    obtain ⟨ks, rfl, rfl, h⟩ := dpAll_rows b
    obtain ⟨p, xs, rfl, s, d⟩ := Dp.inv_tup a
    rw [dpAll_ints r d] at s
    refine ⟨(p, r) :: ks, rfl, rfl, fun q hq => ?_⟩
    rcases List.mem_cons.mp hq with rfl | hq
    · exact ⟨s, a⟩
    · exact h q hq
theorem dpAll_refs {K : Fg} {F : Hp} : ∀ {ks : List (Addr × List Int)}, (∀ p ∈ ks, Dp K F (.ref p.1) (tR p.2)) → DpAll K F (ks.map fun p => V.ref p.1) ((ks.map (·.2)).map tR)
  | [], _ => .nil
  | p :: ks, h => .cons (h p List.mem_cons_self) (dpAll_refs fun q hq => h q (List.mem_cons_of_mem _ hq))
theorem n_sortAll {e : Expr} {f : Rho → Option D} {p p2 pos pos2 : Pos} (bi : Bi X.mg) (hu : Rm X) (h : XF X e f) (hc : X.calm = true := by rfl) (hg : Gl X "sorted" := by rfl) (hg2 : Gl X "set" := by rfl)
    (he2 : starEach [e] X.env = (false, eval e X.env) :: starEach [] X.env := by rfl) (he : starEach [.Call (.Name "set" p2) [e] [] pos2] X.env = (false, eval (.Call (.Name "set" p2) [e] [] pos2) X.env) :: starEach [] X.env := by rfl) :
    NF X (.Call (.Name "sorted" p) [.Call (.Name "set" p2) [e] [] pos2] [] pos) (nSortAll f) :=
  ⟨fW_mono, (pe_callB (CallR.or (cr_sortedSet hc) (cr_sortedTA hc hu)) hg bi.sorted bt_sorted (pa_cons (pe_callTy (CallR.or (CallR.or (cr_setT hc) (cr_setL hc)) (cr_setOfT hc (by unfold Rm at hu; omega))) hg2 bi.set bt_set (pa_cons h.pe pa_nil he2) (he := he2) (hpl := rfl)) pa_nil he) (he := he) (hpl := rfl)).imp fun σ H Q ⟨B, F, ρ, R, ps, e, k⟩ => by
    obtain ⟨x, e1, e2⟩ := Option.bind_eq_some_iff.mp e
    unfold dSortAll at e2
    split at e2
    · obtain ⟨ns, e3, e4⟩ := Option.bind_eq_some_iff.mp e2
      split at e4
      · rename_i h64
        cases e4
        refine ⟨B, F, ρ, R, _, e1, fun F' H' v R' s' d => ?_⟩
        obtain ⟨a, xs, rfl, s, r⟩ := Dp.inv_tup (d.dp (Same.refl _) R')
        rw [intsD_some e3] at r
        rw [dpAll_ints ns r] at s
        refine .inl (.inl ⟨a, ns, rfl, s, by omega, fun q c hq hcl => ?_⟩)
        refine .inl ⟨q, _, c, rfl, upd_same, by omega, fun ms l hp hm hl hn => ?_⟩
        have em : ms = sortD ns := pw_unique hp (pw_sortD ns) fun z => by rw [hm z, mem_sortD]; simp
        subst em
        exact k F' _ l _ (R'.lay hq) s' hn (dpAll_of_ints _)
      · cases e4
    · split at e2
      · rename_i ns e3
        split at e2
        · rename_i h64
          cases e2
          refine ⟨B, F, ρ, R, _, e1, fun F' H' v R' s' d => ?_⟩
          obtain ⟨a, xs, rfl, r, sq⟩ := pk_items R' d rfl
          have s : SqL X.K H' a xs := by
            rcases sq with ⟨_, s⟩ | ⟨z, _⟩
            · exact s
            · cases z
          rw [intsD_some e3] at r
          rw [dpAll_ints ns r] at s
          refine .inl (.inr ⟨a, ns, rfl, s, h64.1, fun q hq => ?_⟩)
          refine .inl ⟨q, _, _, rfl, upd_same, h64.2, fun ms l hp hm hl hn => ?_⟩
          have em : ms = sortD ns := pw_unique hp (pw_sortD ns) fun z => by rw [hm z, mem_sortD]; simp
          subst em
          exact k F' _ l _ (R'.lay hq) s' hn (dpAll_of_ints _)
        · cases e2
      · obtain ⟨rs, e3, e4⟩ := Option.bind_eq_some_iff.mp e2
        split at e4
        · rename_i h64
          cases e4
          refine ⟨B, F, ρ, R, _, e1, fun F' H' v R' s' d => ?_⟩
          obtain ⟨a, xs, rfl, r, sq⟩ := pk_items R' d rfl
          have s : SqL X.K H' a xs := by
            rcases sq with ⟨_, s⟩ | ⟨z, _⟩
            · exact s
            · cases z
          rw [rowsD_some e3] at r
          obtain ⟨ks, rfl, rfl, hks⟩ := dpAll_rows r
          refine .inr ⟨a, ks, rfl, s, fun p hp => sqT_same R'.sub (hks p hp).1, by rw [List.length_map] at h64; exact h64, fun q L hq hL1 hL2 => ?_⟩
          refine .inr ⟨q, L, rfl, upd_same, fun p hp => ?_, fun L' l hpm hnd hlt hso hn => ?_⟩
          · exact sqT_same (same_upd hq) (sqT_same R'.sub (hks p (hL1 p hp)).1)
          · have hmem : ∀ x, x ∈ L'.map (·.2) ↔ x ∈ ks.map (·.2) := fun x => by
              rw [(hpm.map (·.2)).mem_iff]
              constructor
              · intro hx
                obtain ⟨p, hp, rfl⟩ := List.mem_map.mp hx
                exact List.mem_map_of_mem (hL1 p hp)
              · intro hx
                obtain ⟨p, hp, rfl⟩ := List.mem_map.mp hx
                exact hL2 p hp
            have em : L'.map (·.2) = sortR (dedR (ks.map (·.2))) := by
              rw [hso]
              refine sortR_congr ((hpm.map (·.2)).symm.trans ((List.perm_ext_iff_of_nodup hnd (nodup_dedR _)).mpr fun x => ?_))
              rw [hmem, mem_dedR]
            have hd : DpAll X.K F' (L'.map fun p => V.ref p.1) ((L'.map (·.2)).map tR) := dpAll_refs fun p hp => (hks p (hL1 p (hpm.mem_iff.mp hp))).2
            rw [em] at hd
            exact k F' _ l _ (R'.lay hq) s' hn hd
        · cases e4
    · cases e2⟩
end
end L2.P

set_option maxHeartbeats 4000000
namespace L2.P
open PySem PySem.Spec PyProof.Rows L2
section
variable {o : G2} {A B : Rho → Option D} {ρ : Rho} {p q : D} {b c : Bool} {f g : Rho → Option Bool}
end
end L2.P
namespace L2.P
open PySem PySem.Spec PyProof.Rows L2
end L2.P

namespace L2.P
open PySem PySem.Spec PyProof.Rows L2
section
variable {w : List (List Int)} {st s t : List Int}
end
end L2.P

namespace L2.P
open PySem PySem.Spec PyProof.Rows L2
section
variable {X : Cx} {e : Expr} {lo hi : Option Expr} {pos p2 : Pos}
end
end L2.P
namespace L2.P
open PySem PySem.Spec PyProof.Rows L2
section
variable {X : Cx} {a b c : Expr} {pos : Pos}
end
end L2.P

namespace L2.P
open PySem PySem.Spec PyProof.Rows L2
/-- weights of n people -/
structure Wts (n : Nat) (ws : List Int) : Prop where
  len : ws.length = n
  inn : ∀ k ∈ ws, 0 ≤ k ∧ k ≤ 99
def wtM (ws : List Int) (p : Int) : Int := ws.getD p.toNat 0
theorem Wts.get {n : Nat} {ws : List Int} (h : Wts n ws) {p : Int} (h0 : 0 ≤ p) (h1 : p < n) : wtM ws p ∈ ws := by
  have hl := h.len
  unfold wtM
  rw [List.getD_eq_getElem?_getD, List.getElem?_eq_getElem (by omega)]
  exact List.getElem_mem _
theorem Wts.ix {n : Nat} {ws : List Int} (h : Wts n ws) {p : Int} (h0 : 0 ≤ p) (h1 : p < n) : dIx (tR ws) (.int p) = some (.int (wtM ws p)) := ix_ints h0 (by rw [h.len]; exact h1)
/-- the cheapest -/
def Chp (f : List Int → Int) (rs : List (List Int)) (e : List Int) : Prop := e ∈ rs ∧ ∀ y ∈ rs, f e < f y ∨ (f e = f y ∧ e ≤ y)
theorem Chp.le {f : List Int → Int} {rs : List (List Int)} {e y : List Int} (h : Chp f rs e) (hy : y ∈ rs) : f e ≤ f y := by
  rcases h.2 y hy with c | ⟨c, _⟩ <;> omega
end L2.P
namespace L2.P
open PySem PySem.Spec PyProof.Rows L2
end L2.P

namespace L2.P
open PySem PySem.Spec PyProof.Rows L2
def dCountA : G2
  | .list xs, d => if okDs xs = true ∧ okD d = true then some (.int (xs.countP fun y => PyData.eqv y d : Nat)) else none
  | _, _ => none
section
variable {X : Cx} {a b : Expr} {pos : Pos}
def rCntD (K : Fg) : V → List V → Hp → VK → Prop := fun x xs H Q => ∃ (v : V) (ys : List D) (d : D), xs = [v] ∧ Dp K H x (.list ys) ∧ Dp K H v d ∧ okDs ys = true ∧ okD d = true ∧ Q (.int (ys.countP fun y => PyData.eqv y d : Nat)) H
theorem mt_lcountD (hu : Rm X) : MtR X "list.count" (rCntD X.K) := by
  intro pins s σ H x xs v us Q I rx rxs h
  obtain ⟨v', ys, d, rfl, hx, hv, h1, h2, q⟩ := h
  obtain ⟨p1, z1⟩ := okDs_iff.mp h1
  obtain ⟨p2, z2⟩ := okD_iff.mp h2
  obtain ⟨u, rfl, ru⟩ := rxs.one
  obtain ⟨a, vs, rfl, hs, hd⟩ := Dp.inv_lst hx
  cases rx
  obtain ⟨its, rv, pl, hz⟩ := I.list hs
  obtain ⟨as, hr⟩ := Dp.readsAll I _ vs its hd p1 rv
  obtain ⟨bs, r2⟩ := Dp.reads I d v' u hv p2 ru
  refine SeqAt.count_list_data pl.isList hr r2 p1 p2 (by unfold Rm at hu; omega) ?_
  exact ⟨.int _, H, I.tok _, ⟨s.toks, rfl⟩, q⟩
theorem ef_countA {f g : Rho → Option D} {p2 cpos : Pos} (hu : Rm X) (ha : XF X a f) (hb : EF X b g) (hbase : attributeBase a "count" X.env (eval a X.env) = eval a X.env := by rfl)
    (hfew : ((backTo cpos (starEach [b] X.env)).all (fun x => !x.1) && (backToKw cpos (keywordEach [] X.env)).all (fun x => x.1.isSome) && decide (([b] : List Expr).length + ([] : List Keyword).length + (if ([] : List Keyword).isEmpty then 0 else 1) < 30)) = true := by rfl)
    (hline : (p2.endLine == cpos.line) = true := by rfl) (hs : starEach [b] X.env = (false, eval b X.env) :: starEach [] X.env := by rfl) : EF X (.Call (.Attribute a "count" p2) [b] [] cpos) (b2 dCountA f g) :=
  ⟨fW_mono, (pe_bm PySem.F.plainAttrs_list PySem.F.slot_list_count PySem.F.type_list_count (mt_lcountD hu) ha.pe (pa_cons hb.pe pa_nil hs) hbase hfew hline hs rfl).imp fun σ H Q ⟨B, F, ρ, R, z, e, k⟩ => by
    have ⟨x, y, e1, e2, e3⟩ : ∃ x y, f ρ = some x ∧ g ρ = some y ∧ dCountA x y = some z := by
      obtain ⟨x, e1, e⟩ := Option.bind_eq_some_iff.mp e
      obtain ⟨y, e2, e⟩ := Option.bind_eq_some_iff.mp e
      exact ⟨x, y, e1, e2, e⟩
    unfold dCountA at e3
    split at e3
    · split at e3
      · rename_i hok
        cases e3
        refine ⟨B, F, ρ, R, _, e1, fun F1 H1 v R1 s1 d => ?_⟩
        obtain ⟨c, ys, rfl, s, r⟩ := pk_lst R1 d
        refine ⟨.inl ⟨rfl, ys, s⟩, B, F1, ρ, R1, _, e2, fun F2 H2 u R2 s2 du => ?_⟩
        have d2 := (d.mono s2).dp (Same.refl _) R2
        exact ⟨u, _, _, rfl, d2, du.same R2.sub, hok.1, hok.2, k F2 H2 _ R2 (s1.trans s2) (.int _)⟩
      · cases e3
    · cases e3⟩
end
end L2.P

namespace L2.P
open PySem PySem.Spec PyProof.Rows L2
section
variable {X : Cx} {pos : Pos} {i j : Nat} {x y : Str} {e k v : Expr} {px : Pos}
end
end L2.P

namespace L2.PS
open PySem PyProof.Rows L2
section
variable {prog : Program} {w : World} {A : Around} {E : Value → Shared → Prop} {s : Shared} {l : Addr} {xs : Array (Int × Tok)} {its : List Value} {ns : List Int}
end
end L2.PS
namespace L2.P
open PySem PySem.Spec PyProof.Rows L2
end L2.P

namespace L2.P
open PySem PySem.Spec PyProof.Rows L2
section
variable {X : Cx}
def gMaxA : GA
  | [.list (x :: xs)] => if okM (x :: xs) = true then some (PySem.W.maxD x xs) else none
  | [.tuple (x :: xs)] => if okM (x :: xs) = true then some (PySem.W.maxD x xs) else none
  | _ => none
variable {a : Expr} {p pos : Pos}
end
theorem maxA_L (xs : List D) : gMaxA [.list xs] = gMax [.list xs] := by cases xs <;> rfl
theorem max_intsL {ns : List Int} (hne : ns ≠ []) : ∃ M ∈ ns, gMaxA [.list (ns.map .int)] = some (.int M) ∧ ∀ n ∈ ns, n ≤ M := by rw [maxA_L]; exact max_ints hne
end L2.P

namespace L2.P
open PySem PySem.Spec PyProof.Rows L2
section
variable {X : Cx} {e : Expr} {pos : Pos}
end
section
variable {w : List (List Int)} {st goal : List Int}
end
end L2.P

namespace L2.P
open PySem PySem.Spec PyProof.Rows L2
def LtE (a b : Int × Int) : Prop := a.1 < b.1 ∨ (a.1 = b.1 ∧ a.2 < b.2)
section
variable {w : List (List Int)} {st cs : List Int}
end
end L2.P

namespace L2.P
open PySem PySem.Spec PyProof.Rows L2
section
variable {w : List (List Int)} {st cs : List Int}
end
end L2.P

namespace L2.P
open PySem PySem.Spec PyProof.Rows L2
def modA (rows : List (List Int)) (i : Nat) (j : Int) : List (List Int) := rows.modify i (· ++ [j])
/-- the lists stand -/
structure GridL (H0 H : Hp) (L : Addr) (ds : List Addr) (rows : List (List Int)) : Prop where
  lst : H L = some (.lst (ds.map V.ref))
  nd : ds.Nodup
  nL : L ∉ ds
  len : rows.length = ds.length
  row : ∀ (i : Nat) (a : Addr) (r : List Int), ds[i]? = some a → rows[i]? = some r → H a = some (.lst (r.map V.int))
  old : ∀ b o, H0 b = some o → H b = some o
  fre : ∀ a ∈ ds, H0 a = none
  freL : H0 L = none
theorem GridL.put {H0 H : Hp} {L : Addr} {ds : List Addr} {rows : List (List Int)} (G : GridL H0 H L ds rows) {i : Nat} {a : Addr} {r : List Int} (ha : ds[i]? = some a) (hr : rows[i]? = some r) (j : Int) :
    GridL H0 (upd H a (.lst (r.map V.int ++ [V.int j]))) L ds (modA rows i j) where
  lst := by
    have ne : L ≠ a := fun e => G.nL (e ▸ List.mem_of_getElem? ha)
    rw [upd_ne ne]; exact G.lst
  nd := G.nd
  nL := G.nL
  len := by unfold modA; rw [List.length_modify]; exact G.len
  row := fun k b r' hb hr' => by
    unfold modA at hr'
    rw [List.getElem?_modify] at hr'
    by_cases e : i = k
    · subst e
      rw [ha] at hb; cases hb
      rw [hr] at hr'
      simp at hr'
      subst hr'
      rw [upd_same, List.map_append]; rfl
    · simp only [if_neg e] at hr'
      have ne : b ≠ a := fun q => by
        subst q
        exact e ((Grid.put.nodup_ix_addr G.nd ha hb))
      rw [upd_ne ne]
      exact G.row k b r' hb (by simpa using hr')
  old := fun b o e => by
    have ne : b ≠ a := fun q => by
      subst q
      rw [G.fre b (List.mem_of_getElem? ha)] at e; cases e
    rw [upd_ne ne]; exact G.old b o e
  fre := G.fre
  freL := G.freL
end L2.P

namespace L2.P
open PySem PySem.Spec PyProof.Rows L2
section
variable {X : Cx}
end
end L2.P

namespace L2.P
open PySem PySem.Spec PyProof.Rows L2
section
variable {prog : Program} {w : World} {A : Around} {E : Value → Shared → Prop} {s : Shared}
end
section
variable {X : Cx} {e : Expr} {pos : Pos}
end
end L2.P

namespace L2.P
open PySem PySem.Spec PyProof.Rows L2
theorem DtAll.getV {K : Fg} {F : Hp} : ∀ {es : List (List Key × V)} {kvs : List (D × D)} {i : Nat} {k : List Key} {v : V}, DtAll K F es kvs → es[i]? = some (k, v) → ∃ q, kvs[i]? = some q ∧ Dp K F v q.2
  | _, _, _, _, _, .nil _, h => by simp at h
  | _, _, 0, _, _, .cons a _, h => by
    simp at h
    obtain ⟨_, rfl⟩ := h
    exact ⟨_, rfl, a⟩
  | _, _, i + 1, _, _, .cons _ b, h => by simpa using DtAll.getV (i := i) b (by simpa using h)
theorem DkAll.getV {K : Fg} {F : Hp} : ∀ {es : List (Key × V)} {kvs : List (D × D)} {i : Nat} {k : Key} {v : V}, DkAll K F es kvs → es[i]? = some (k, v) → ∃ n q, k = .inl n ∧ kvs[i]? = some (.int n, q) ∧ Dp K F v q
  | _, _, _, _, _, .nil, h => by simp at h
  | _, _, 0, _, _, .cons (k := n) (p := p) a _, h => by
    simp at h
    obtain ⟨rfl, rfl⟩ := h
    exact ⟨n, p, rfl, rfl, a⟩
  | _, _, i + 1, _, _, .cons _ b, h => by simpa using DkAll.getV (i := i) b (by simpa using h)
/-- the dict that a value is -/
def dictT : D → Option (List (D × D))
  | .dict kvs => if (kindOf kvs).isSome = true then some kvs else none
  | _ => none
def hD (f : Rho → Option D) : Rho → Option (List (D × D)) := fun ρ => (f ρ).bind dictT
section
variable {X : Cx} {e : Expr}
end
end L2.P
namespace L2.P
open PySem PySem.Spec PyProof.Rows L2
section
variable {P : Program} {w : World} {K : PySem.W.Frag} {tg : Expr} {d : Addr} {o : Obj} {es : Array DictEntry} {ep : Nat}
end
section
variable {X : Cx} {tg e : Expr} {td : TE} {apos cpos : Pos}
theorem _root_.L2.PI.or {tg e : Expr} {t t' : TI} (h : PI X tg e t) (h' : PI X tg e t') : PI X tg e (fun σ H R => t σ H R ∨ t' σ H R) := ⟨fun pins s σ H R I hw => by
  rcases hw with hw | hw
  · exact h.run pins s σ H R I hw
  · exact h'.run pins s σ H R I hw⟩
end
section
end
section
variable {X : Cx} {tg e : Expr} {apos cpos : Pos}
end
end L2.P

namespace L2.P
open PySem PySem.Spec PyProof.Rows L2
section
variable {X : Cx} {a b : Expr} {p pos : Pos}
end
section
variable {X : Cx} {e : Expr} {td : TE} {p pos apos cpos : Pos}
variable {x : Str} {i : Nat} {px : Pos}
end
end L2.P

set_option maxHeartbeats 1000000
namespace L2.P
open PySem PySem.Spec PyProof.Rows L2
section
variable {X : Cx} {a b : Expr} {pos : Pos}
end
end L2.P

set_option maxHeartbeats 4000000
namespace L2.P
open PySem PySem.Spec PyProof.Rows L2
section
variable {X : Cx}
variable {a b : Expr} {pos : Pos}
variable {p : Pos}
end
end L2.P

namespace L2.PS
open PySem PySem.Spec PySem.Calls PySem.W PyProof.Rows L2
section
variable {prog : Program} {w : World} {A : Around} {E : Value → Shared → Prop} {s : Shared} {r d : Addr} {es : Array DictEntry} {ep : Nat}
end
end L2.PS
namespace L2.P
open PySem PySem.Spec PyProof.Rows L2
/-- what stands in the tuples of the items -/
def cont (bs : List Addr) (es : List (List Key × V)) : List (List V) := (bs.zip es).map fun p => [.ref p.1, p.2.2]
section
variable {X : Cx} {e : Expr} {te : TE} {p apos cpos pos : Pos}
end
section
variable {X : Cx} {e : Expr} {p apos cpos pos : Pos}
/-- a locked dict whose keys are tuples -/
def hT (h : Rho → Option (List (D × D))) : Rho → Option (List (D × D)) := fun ρ => (h ρ).bind fun kvs => if kindOf kvs = some true then some kvs else none
end
end L2.P

namespace L2.P
open PySem PySem.Spec PyProof.Rows L2
theorem Rs.drop {K : Fg} {B : Bs} {F H : Hp} {σ : St} {ρ : Rho} (R : Rs K B F H σ ρ) (j : Nat) : Rs K B F H σ (ρ.set j .no) where
  sub := R.sub
  ext := R.ext
  new := R.new
  old := R.old
  hrow := R.hrow
  hr2 := R.hr2
  tb := R.tb
  tbh := R.tbh
  len := by rw [List.length_set]; exact R.len
  at_ := fun k t ht => by
    rcases set_some ht with ⟨rfl, hl, rfl⟩ | ⟨ne, ht⟩
    · exact .no
    · exact R.at_ k t ht
  apart := fun k l c t u hkl h1 h2 o1 o2 e1 e2 => by
    rcases set_some h1 with ⟨rfl, hl, rfl⟩ | ⟨ne, h1⟩
    · cases o1
    · rcases set_some h2 with ⟨rfl, hl, rfl⟩ | ⟨ne2, h2⟩
      · cases o2
      · exact R.apart k l c t u hkl h1 h2 o1 o2 e1 e2
section
variable {X : Cx} {x y : Str} {i j : Nat} {py p' pos : Pos}
end
section
variable {X : Cx}
end
end L2.P

namespace L2.P
open PySem PySem.Spec PyProof.Rows L2
end L2.P

namespace L2.P
open PySem PySem.Spec PyProof.Rows L2 NdefX LamX
section
variable {P : Program} {w : World} {H H' H0 : Hp} {h h' : Heap} {C : List Addr}
end
abbrev lamF (q : Str) (L : LamD) (cl : List (Str × Addr)) (c' : Addr) : NdefX.NF := ⟨"<lambda>", lamQ q, L.params, [], L.scope, cl, c'⟩
/-- the names' cells of a lambda's body -/
abbrev lamC (L : LamD) (s : Shared) (cl : List (Str × Addr)) : List (Str × Addr) := cellsFrom (s.heap.objs.size + 1) L.scope.names cl
/-- the context of a lambda's body -/
abbrev lamCx (X : Cx) (N : List Str) (q : Str) (L : LamD) (cl : List (Str × Addr)) (c' f : Addr) (s : Shared) (H : Hp) : Cx := ncx CX0 X.prog X.w X.K X.mg X.base N (lamF q L (lamC L s cl) c') f X.A X.stack s H E0
section
variable {CX : CXT} {P : Program} {w : World} {K : PySem.W.Frag} {mg : Str → Option Value} {base : Heap} {N fr : List Str} {F : NdefX.NF} {f : Addr} {A : Around} {outer : List Env} {s : Shared} {H : Hp} {E : XK} {u : Value} {v : V} {ws : List (Option V)} {z : Str} {cl : List (Str × Addr)} {rest : List (Str × NameKind)}
end
section
variable {X : Cx} {x : Str} {i k : Nat} {a : Expr} {ta : TA} {p pos : Pos}
end
end L2.P

namespace L2.P
open PySem PySem.Spec PyProof.Rows L2 NdefX LamX
section
variable {P : Program} {w : World} {H H' : Hp} {h h' : Heap} {C fs : List Addr}
end
section
variable {X : Cx} {pins : List (Addr × Obj)} {σ : L2.St} {H : Hp} {s : Shared}
end
section
variable {X : Cx} {L : LamD} {q : Str} {c P : Addr} {pos : Pos}
end
section
variable {X : Cx} {k : Nat} {x : Str} {f : Addr} {fd : FuncData} {ps fr : List Str} {js : List Nat} {cl : List (Str × Addr)} {sp : Sp} {t : TA} {e : Expr} {es : List Expr} {p pos : Pos}
end
section
variable {X : Cx} {L : LamD} {q x : Str} {c P : Addr} {js : List Nat} {g : GA} {f1 f2 : Rho → Option D} {e1 e2 : Expr} {p pos lpos : Pos}
end
end L2.P

namespace L2.P
open PySem PySem.Spec PyProof.Rows L2 NdefX LamX
def mkB (K : Fg) (q : Str) : Bool := decide ((He.tabOf K (He.codeOf K (q, none)), lamQ q) ∈ tbT K) && (tbT K).all fun p => !decide (p.1 = He.tabOf K (He.codeOf K (q, none))) || decide (p.2 = lamQ q)
section
variable {P : Program} {w : World} {K : Fg} {mg : Str → Option Value} {base : Heap} {x qual : Str} {params : Arguments} {body : List Stmt} {scope : Scope} {fd : FuncData} {N ps : List Str} {k : Nat} {dvs : List V} {kws : List (Str × V)}
end
def tabsOkB (K : Fg) (tf : List He.Defn) : Bool := (tbT K).all fun p => tf.any fun q => decide ((He.cT K q).2 = p.1)
def noTbH (H : Hp) : Hp := fun b => match H b with
  | some (.tbl _) => none
  | o => o
theorem noTbH_sub {H : Hp} : Same (noTbH H) H := fun b o e => by
  unfold noTbH at e
  split at e
  · cases e
  · exact e
theorem noTbH_at {H : Hp} {b : Addr} {o : HO} (e : H b = some o) (no : ∀ ps, o ≠ .tbl ps) : noTbH H b = some o := by
  unfold noTbH
  rw [e]
  split
  · rename_i z; cases z; exact absurd rfl (no _)
  · rfl
theorem noTbH_lst {K : Fg} {H : Hp} {a : Addr} {xs : List V} (h : SqL K H a xs) : SqL K (noTbH H) a xs := by
  rcases h with (h | ⟨o, h⟩) | h
  · exact .inl (.inl (noTbH_at h fun _ z => by cases z))
  · exact .inl (.inr ⟨o, noTbH_at h fun _ z => by cases z⟩)
  · exact .inr h
theorem TbOk.start {K : Fg} {H : Hp} {tf : List He.Defn} (hc : tabsOkB K tf = true) (hH : ∀ p ∈ tf.map (He.cT K), H p.2 = some (.tbl #[])) : TbOk K (noTbH H) H := by
  have key : ∀ p ∈ tbT K, H p.1 = some (.tbl #[]) := fun p hp => by
    have := List.all_eq_true.mp hc p hp
    obtain ⟨q, hq, e⟩ := List.any_eq_true.mp this
    rw [← of_decide_eq_true e]
    exact hH _ (List.mem_map.mpr ⟨q, hq, rfl⟩)
  refine ⟨fun p hp => by unfold noTbH; rw [key p hp], fun p hp => TabS.nil (key p hp), fun b ps e => ?_⟩
  unfold noTbH at e
  split at e
  · cases e
  · rename_i n; exact n ps e
end L2.P

namespace L2.P
open PySem PySem.Spec PyProof.Rows L2
section
variable {X : Cx} {a : Expr} {p pos : Pos}
end
def rD (p : Nat × Nat) : D := .tuple [.int (p.1 : Int), .int (p.2 : Int)]
end L2.P

namespace L2.P
open PySem PySem.Spec PyProof.Rows L2
abbrev Ch := List (List Int × Nat)
def incM (d : Ch) (k : List Int) (x : Nat) : Ch := putM d k ((getM d k).getD 0 + x)
def innM (w : List (List Int)) (s : List Int) (x : Nat) (cs : List Int) (d : Ch) : Ch := cs.foldl (fun d c => incM d (callM w s c) x) d
structure ChOk (st : List Int) (d : Ch) : Prop where
  nd : (d.map fun e => e.1).Nodup
  sub : ∀ k ∈ d.map (fun e => e.1), k.Sublist st
theorem ChOk.len {st : List Int} {d : Ch} (h : ChOk st d) : d.length ≤ 2 ^ st.length := by
  have := nodup_len h.nd fun k hk => mem_chM.mpr (h.sub k hk)
  rw [List.length_map, chM_len] at this
  exact this
theorem ChOk.nil (st : List Int) : ChOk st [] := ⟨by simp, by simp⟩
theorem ChOk.inc {st k : List Int} {d : Ch} {x : Nat} (h : ChOk st d) (hk : k.Sublist st) : ChOk st (incM d k x) := ⟨putM_nodup h.nd, fun s hs => by
  rcases mem_keys_putM.mp hs with hs | rfl
  · exact h.sub _ hs
  · exact hk⟩
theorem ChOk.inn {w : List (List Int)} {st s : List Int} {x : Nat} (hk : s.Sublist st) : ∀ (cs : List Int) {d : Ch}, ChOk st d → ChOk st (innM w s x cs d)
  | [], _, h => h
  | c :: cs, d, h => ChOk.inn hk cs (d := incM d (callM w s c) x) (h.inc ((callM_sub w s c).trans hk))
section
variable {β : Type}
end
end L2.P

namespace L2.P
open PySem PySem.Spec PyProof.Rows L2
section
variable {κ β : Type} [DecidableEq κ]
theorem mem_putM {kvs : List (κ × β)} {k : κ} {b : β} {e : κ × β} (h : e ∈ putM kvs k b) : e = (k, b) ∨ e ∈ kvs := by
  unfold putM at h
  split at h
  · obtain ⟨x, hx, rfl⟩ := List.mem_map.mp h
    split
    · rename_i c; exact .inl (by rw [c])
    · exact .inr hx
  · rcases List.mem_append.mp h with h | h
    · exact .inr h
    · exact .inl (by simpa using h)
end
theorem mem_moversM {w : List (List Int)} {s : List Int} {p : Int} : p ∈ moversM w s ↔ p ∈ s ∧ callM w s p ≠ s := by
  unfold moversM
  rw [List.mem_filter]
  exact ⟨fun h => ⟨h.1, (movers_iff h.1).mpr h.2⟩, fun h => ⟨h.1, (movers_iff h.1).mp h.2⟩⟩
theorem call_lt {w : List (List Int)} {s : List Int} {p : Int} (h : p ∈ moversM w s) : (callM w s p).length < s.length := by
  have h1 := callM_sub w s p
  have h2 := (mem_moversM.mp h).2
  rcases Nat.lt_or_ge (callM w s p).length s.length with c | c
  · exact c
  · exact absurd (h1.eq_of_length (Nat.le_antisymm h1.length_le c)) h2
theorem movers_lt {w : List (List Int)} {s : List Int} {n : Nat} (hs : Ppl n s) (h : moversM w s ≠ []) : (moversM w s).length < s.length := by
  cases s with
  | nil => exact absurd rfl h
  | cons a t =>
    obtain ⟨p1, p2⟩ := List.pairwise_cons.mp hs.up
    have : moversM w (a :: t) = t.filter fun p => has w (a :: t) (fun x k => decide (k < x)) p := by
      unfold moversM
      rw [List.filter_cons, if_neg]
      intro z
      unfold has at z
      rw [List.any_eq_true] at z
      obtain ⟨k, _, hk⟩ := z
      rw [Bool.and_eq_true, decide_eq_true_eq, decide_eq_true_eq] at hk
      rcases List.mem_cons.mp hk.2 with rfl | h2
      · omega
      · have := p1 k h2; omega
    rw [this]
    exact Nat.lt_of_le_of_lt (List.length_filter_le _ _) (by simp)
def cD : Nat → Nat
  | 0 => 1
  | 1 => 1
  | 2 => 1
  | 3 => 2
  | 4 => 12
  | _ + 5 => 144
theorem cD_dvd {a b : Nat} (h : a ≤ b) (hb : b ≤ 5) : cD a ∣ cD b := by
  have key : ∀ b : Fin 6, ∀ a : Fin 6, a.1 ≤ b.1 → cD a.1 ∣ cD b.1 := by decide
  exact key ⟨b, by omega⟩ ⟨a, by omega⟩ h
theorem cD_part {n m : Nat} (hn : n ≤ 5) (h1 : 1 ≤ m) (h2 : m < n) : cD (n - 1) * m ∣ cD n := by
  have key : ∀ n : Fin 6, ∀ m : Fin 6, 1 ≤ m.1 → m.1 < n.1 → cD (n.1 - 1) * m.1 ∣ cD n.1 := by decide
  exact key ⟨n, by omega⟩ ⟨m, by omega⟩ h1 h2
def floS (w : List (List Int)) (d : Ch) (s : List Int) : Ch := innM w s ((getM d s).getD 0 / (moversM w s).length) (moversM w s) d
structure FloOk (st : List Int) (d : Ch) : Prop where
  ok : ChOk st d
  dv : ∀ e ∈ d, cD e.1.length ∣ e.2
  top : getM d st = some 144
theorem FloOk.inc {st k : List Int} {d : Ch} {q : Nat} (h : FloOk st d) (hk : k.Sublist st) (hl : k.length < st.length) (hq : cD k.length ∣ q) : FloOk st (incM d k q) := by
  refine ⟨h.ok.inc hk, fun e he => ?_, ?_⟩
  · rcases mem_putM he with rfl | he
    · refine Nat.dvd_add ?_ hq
      cases g : getM d k with
      | none => exact Nat.dvd_zero _
      | some y => exact h.dv _ (getM_mem g)
    · exact h.dv e he
  · unfold incM
    rw [getM_put, if_neg (fun z => by rw [z] at hl; omega)]
    exact h.top
theorem FloOk.inn {w : List (List Int)} {st s : List Int} {q : Nat} (hs : s.Sublist st) (h5 : st.length ≤ 5) (hq : cD (s.length - 1) ∣ q) : ∀ (ps : List Int) {d : Ch}, (∀ p ∈ ps, p ∈ moversM w s) → FloOk st d → FloOk st (innM w s q ps d)
  | [], _, _, h => h
  | p :: ps, d, hp, h => by
    have hlt := call_lt (hp p List.mem_cons_self)
    have hsl := hs.length_le
    refine FloOk.inn hs h5 hq ps (d := incM d (callM w s p) q) (fun z hz => hp z (List.mem_cons_of_mem _ hz)) (h.inc ((callM_sub w s p).trans hs) (by omega) (Nat.dvd_trans (cD_dvd (by omega) (by omega)) hq))
/-- what a part is -/
theorem FloOk.part {w : List (List Int)} {st s : List Int} {n x : Nat} {d : Ch} (h : FloOk st d) (hp : Ppl n s) (h5 : s.length ≤ 5) (hm : moversM w s ≠ []) (hx : getM d s = some x) : cD (s.length - 1) * (moversM w s).length ∣ x :=
  Nat.dvd_trans (cD_part h5 (List.length_pos_iff.mpr hm) (movers_lt hp hm)) (h.dv _ (getM_mem hx))
theorem FloOk.step {w : List (List Int)} {st s : List Int} {n : Nat} {d : Ch} (h : FloOk st d) (hp : Ppl n st) (h5 : st.length ≤ 5) (hs : s.Sublist st) (hk : s ∈ d.map fun e => e.1) : FloOk st (floS w d s) := by
  unfold floS
  by_cases hm : moversM w s = []
  · rw [hm]; exact h
  · have hsl := hs.length_le
    have : (getM d s).isSome = true := by rw [getM_isSome]; simpa using hk
    obtain ⟨x, hx⟩ := Option.isSome_iff_exists.mp this
    rw [hx]
    show FloOk st (innM w s (x / _) _ d)
    obtain ⟨y, hy⟩ := h.part (w := w) (hp.sub hs) (by omega) hm hx
    have hml := List.length_pos_iff.mpr hm
    refine FloOk.inn hs h5 ⟨y, ?_⟩ _ (fun _ z => z) h
    rw [hy, Nat.mul_comm (cD _), Nat.mul_assoc, Nat.mul_div_cancel_left _ hml]
end L2.P

namespace L2.P
open PySem PySem.Spec PyProof.Rows L2
end L2.P

namespace L2.P
open PySem PySem.Spec PyProof.Rows L2
end L2.P

namespace L2.P
open PySem PySem.Spec PyProof.Rows L2
end L2.P

namespace L2.P
open PySem PySem.Spec PyProof.Rows L2 NdefX LamX
/-- what is known of the class C that is raised -/
structure NmOk (K : Fg) (mg : Str → Option Value) (x : Str) (C : Addr) : Prop where
  g : mg x = some (.ref C)
  ex : PySem.W.excIn K C He.veBase "ValueError.__new__" = true
  kp : PySem.W.keepIn K (.ref C) = true
  sub : PySem.W.subIn K (.ref C) (.type "BaseException") = some true
  ty : PySem.W.typeIn K (.ref C) = some (.type "type")
/-- a def of n parameters: where r says so, it lets C out -/
def spZ (K : Fg) (n : Nat) (C : Addr) (r : List D → Bool) : Sp := fun vs H _ E => vs.length = n ∧ ∃ F ps, Same F H ∧ TbOk K F H ∧ DpAll K F vs ps ∧ r ps = true ∧
  ∀ F' H', Same F F' → SameX K none H H' → Same F' H' → TbOk K F' H' → (∀ b, F b = none → F' b ≠ none → Fz (H b)) → E (.ref C) none H'
theorem pss_no {X : Cx} {sts : List Stmt} : PSs X sts (fun _ _ _ => False) := ⟨fun _ _ _ _ _ _ z => z.elim⟩
theorem ps_unx {X : Cx} {st : Stmt} {t : TS} (h : PS X.nox st t) : PS X st t := ⟨fun pn s σ H D I hw =>
  wpAny_mono (h.run pn s σ H D (I.wish _) hw) (fun _ _ q => q.unwish) fun _ _ z => False.elim z⟩
section
variable {X : Cx} {C : Addr} {W : WX} {st : Stmt} {rest : List Stmt} {x : Str} {p pos pos' : Pos} {e : Expr} {es : List Expr}
/-- x() makes the exception -/
theorem pmk_zero (N : NmOk X.K X.mg x C) (hg : Gl X x) (hdb : (x == ("__debug__" : Str)) = false := by decide) : PMk X (.Call (.Name x p) [] [] pos) (fun _ H Q => Q (.ref C) none H) := by
  intro pn s σ H Q I h
  have r : Raises X (.ref C) := raises_own N.sub N.ty
  refine wpAny_Call_Name_kw (ld_glob I hg N.g ?_ hdb)
  refine PySem.W.callWith_K0 I.kIn N.kp ?_
  obtain ⟨_, _, _, _, _, _, _, _, _, _, _, _, _, _, _, _, _, hC, hN, hni, T⟩ := exc_obj I.kIn N.ex
  exact wpAny_call_exc_subT PySem.F.excBase_ValueError T hC hN hni (fun h' e hm => mk_of I hm r h (I.hok.gone hm.new)) (Nat.zero_le _)
/-- a def that may let C out -/
def CalZ (X : Cx) (x : Str) (C : Addr) (n : Nat) (r : List D → Bool) : Prop :=
  ∃ (k : Nat) (f : Addr) (fd : FuncData) (ps : List Str), FnOk X.prog X.w X.K X.mg X.base (L2.CX X.prog X.w) k f fd ps (spZ X.K n C r) ∧ Room k X.A ∧ X.mg x = some (.ref f) ∧ PySem.W.keepIn X.K (.ref f) = true ∧ Binds X.K fd ps []
end
/-- a def that lets C out, behind the top -/
def DefZ (P : Program) (w : World) (K : Fg) (mg : Str → Option Value) (base : Heap) (C : Addr) (x : Str) (k n : Nat) (r : List D → Bool) : Prop :=
  ∃ (f : Addr) (fd : FuncData) (ps : List Str), FnOk P w K mg base (L2.CX P w) k f fd ps (spZ K n C r) ∧ mg x = some (.ref f) ∧ PySem.W.keepIn K (.ref f) = true ∧ Binds K fd ps []
section
variable {P : Program} {w : World} {K : Fg} {mg : Str → Option Value} {base : Heap} {x qual : Str} {params : Arguments} {body : List Stmt} {scope : Scope} {f C : Addr} {fd : FuncData} {N ps : List Str} {k : Nat}
theorem DefZ.cal {X : Cx} {n : Nat} {r : List D → Bool} {j : Nat} (h : DefZ X.prog X.w X.K X.mg X.base C x k n r) (hr : Room j X.A) (hk : k ≤ j := by decide) : CalZ X x C n r := by
  obtain ⟨f, fd, ps, F, m, kp, b⟩ := h
  exact ⟨k, f, fd, ps, F, hr.mono hk, m, kp, b⟩
/-- THE RULE: a def, its code object told -/
theorem fn_pureWC {T : TSt} {n : Nat} (Fd : FunD K x qual params body scope [] [] (He.fAd K (x, none)) fd) (S : FnScope N ps scope) (hn : ps.length = n) (hnN : n ≤ N.length)
    (hb : ∀ (A : Around) (outer : List Env) (s : Shared) (H : Hp) (E : XK), Room k (A.deeper (envOfC qual scope s.heap.objs.size (He.fAd K (x, none)) (.ref (He.codeOf K (x, none))))) → SWs (cxOf CX0 P w K mg base N qual scope (He.fAd K (x, none)) (.ref (He.codeOf K (x, none))) A outer s H E).nox body T) :
    FnOk P w K mg base CX0 (k + 1) (He.fAd K (x, none)) fd ps (spF K n (runW N.length T)) := by
  obtain ⟨oc, od, dV, kV, doc, pm, an, cdv, ct, osl, rfl, lk, hcd, _, _⟩ := Fd.ex
  obtain ⟨c, rfl⟩ := He.codeIn_ref hcd
  have ec := He.codeOf_eq lk rfl
  rw [ec] at hb
  refine fn_of lk hcd S (fun vs H Q E h => by rw [h.1, hn]) fun A outer s H vs Q E hr h => ?_
  have Wb := hb A outer s H E hr
  obtain ⟨hl, F, ds, sF, tb, d, q⟩ := h
  refine ⟨_, PSs.nox Wb.pss, ⟨F, H, none, none⟩, F, rho0 N.length ds, rs_start sF tb d (by omega), Wb.mono _ _ _ (fun fl k => ?_) q⟩
  cases fl with
  | nx ρ' => exact fun F' H' σ' R' s' => k F' H' .non s' R'.old R'.sub R'.tb R'.new .non
  | rt p => exact fun F' H' v ⟨σ', ρ', R'⟩ s' d' => k F' H' v s' R'.old R'.sub R'.tb R'.new d'
  | bk ρ' => exact k.elim
  | ct ρ' => exact k.elim
end
section
variable {X : Cx} {pins : List (Addr × Obj)} {σ : L2.St} {H : Hp} {s : Shared}
theorem lam_made3 {q : Str} {c P : Addr} {params : Arguments} {body : Expr} {scope : Scope} {pos : Pos} {E Q : Value → Shared → Prop} (I : Inv X pins σ H s) (TB : TabB X.base X.mg c P) (hcode : X.env.code = .ref c) (hq : X.env.qual ++ "<lambda>" = q)
    (hm : (P, q) ∈ tbT X.K) (hu : ∀ p ∈ tbT X.K, p.1 = P → p.2 = q) (hT : Tabs (tbT X.K) H) (hdef : defaultsOf params X.env = ([], [])) (hfree : ∀ y ∈ scope.names, y.2 = .free → ∃ c, X.env.cells.lookup y.1 = some c)
    (h : ∀ (f c' : Addr) (pm ctv : Value) (H1 : Hp) (s' : Shared), Inv X pins σ H1 s' → (∀ b o, b ≠ P → H b = some o → H1 b = some o) → Tabs (tbT X.K) H1 →
      s'.heap.get? f = some (PySem.W.kla_obj "<lambda>" q params body scope (cloFrom X.env.cells scope.names []) pm c' ctv) → H1 f = none → f ∉ frs X.stack → H1 c' = some (CodeO c' q) → Q (.ref f) s') :
    wpAny (model X.prog X.w) X.A (eval (.Lambda params body scope pos) X.env) Q E s := by
  have far : ∀ {pn : List (Addr × Obj)} {σ0 : L2.St} {H0 : Hp} {s0 : Shared} (J : Inv X pn σ0 H0 s0) (g : Addr), s0.heap.objs.size ≤ g → g ∉ frs X.stack := fun {pn σ0 H0 s0} J g hg z => by
    rcases List.mem_cons.mp (J.stkSub g z) with e | e
    · have lt := J.lt
      rw [← e] at lt
      exact Nat.lt_irrefl _ (Nat.lt_of_lt_of_le lt hg)
    · exact J.nofs hg e
  subst hq
  obtain ⟨ps, hP, ht, ha⟩ := hT _ hm
  have atP : s.heap.get? P = some { cls := .none, data := .fields ps } := I.hok P _ hP
  have bP : s.heap.BuiltinsAt X.mg P := TB.bm.keeps I.bk
  refine PySem.W.kla_eval hdef ?_
  cases hc : codeAmong pos ps.toList with
  | some cv =>
    obtain ⟨c', rfl, hco⟩ := ha pos cv hc
    refine PySem.W.kla_makeFunctionHit (mg := X.mg) (c := c) (P := P) (ps := ps) (closure_ok hfree) I.ok.glob (I.mod.glob.keeps I.bk) hcode (TB.code.keeps I.bk) atP ht hc bP fun ctv h' tk hx hsz => ?_
    have I1 : Inv X pins σ H { s with heap := h', toks := tk } := I.kept hx
    have I2 : Inv X pins σ H { s with heap := h'.push _, toks := tk } := I1.kept (t' := tk) fun b o e => Heap.get?_push_of_some (PySem.W.kla_obj "<lambda>" (X.env.qual ++ "<lambda>") params body scope (cloFrom X.env.cells scope.names []) ((X.mg "__name__").getD .none) c' ctv) e
    exact h h'.objs.size c' ((X.mg "__name__").getD .none) ctv H _ I2 (fun b o _ e => e) hT (Heap.get?_push_size _ rfl) (I1.hok.fresh (Nat.le_refl _)) (far I1 _ (Nat.le_refl _)) hco
  | none =>
    refine PySem.W.kla_makeFunction (mg := X.mg) (c := c) (P := P) (ps := ps) (closure_ok hfree) I.ok.glob (I.mod.glob.keeps I.bk) hcode (TB.code.keeps I.bk) atP ht hc TB.gP bP fun c' ctv h' tk hx hge hlt hrec htb => ?_
    obtain ⟨c2, oc, vs, t, e2, hoc, hd, hv⟩ := hrec
    cases e2
    have nC : H c' = none := I.hok.fresh hge
    have I1 := inv_table (t' := tk) (more := #[rawInt pos.line, rawInt pos.col, .ref c']) (h' := h') I hP (fun b o hb e => hx b o hb e) htb hge ⟨oc, vs, t, hoc, hd, hv⟩
    have I2 := I1.kept (t' := tk) fun b o e => Heap.get?_push_of_some (PySem.W.kla_obj "<lambda>" (X.env.qual ++ "<lambda>") params body scope (cloFrom X.env.cells scope.names []) ((X.mg "__name__").getD .none) c' ctv) e
    have keep : ∀ b o, b ≠ P → H b = some o → upd (upd H P (.tbl (ps ++ #[rawInt pos.line, rawInt pos.col, .ref c']))) c' (CodeO c' (X.env.qual ++ "<lambda>")) b = some o := fun b o n e => by
      rw [upd_ne (ne_of_none e nC), upd_ne n]; exact e
    have T1 : Tabs (tbT X.K) (upd (upd H P (.tbl (ps ++ #[rawInt pos.line, rawInt pos.col, .ref c']))) c' (CodeO c' (X.env.qual ++ "<lambda>"))) := fun p hp => by
      have coP : ∀ c0, H c0 = some (CodeO c0 p.2) → c0 ≠ P := fun c0 e z => by
        rw [z, hP] at e
        exact codeO_ne ps (Option.some.inj e).symm
      by_cases hb : p.1 = P
      · have hp2 := hu p hp hb
        refine ⟨ps ++ #[rawInt pos.line, rawInt pos.col, .ref c'], by rw [hb, upd_ne (ne_of_none hP nC), upd_same], by simpa using PySem.TriplesOk_snoc _ _ _ _ ht, fun p' cv hcv => ?_⟩
        have hcv' : codeAmong p' (ps.toList ++ [rawInt pos.line, rawInt pos.col, .ref c']) = some cv := by simpa using hcv
        rcases among_app _ ht hcv' with z | z
        · obtain ⟨c0, e1, e2⟩ := ha p' cv z
          exact ⟨c0, e1, by rw [hp2]; exact keep _ _ (coP c0 (by rw [hp2]; exact e2)) e2⟩
        · exact ⟨c', z, by rw [hp2]; exact upd_same⟩
      · obtain ⟨qs, a1, a2, a3⟩ := hT p hp
        refine ⟨qs, keep _ _ hb a1, a2, fun p' cv hcv => ?_⟩
        obtain ⟨c0, e1, e2⟩ := a3 p' cv hcv
        exact ⟨c0, e1, keep _ _ (coP c0 e2) e2⟩
    exact h h'.objs.size c' ((X.mg "__name__").getD .none) ctv _ _ I2 keep T1 (Heap.get?_push_size _ rfl) (I1.hok.fresh (Nat.le_refl _)) (far I1 _ (Nat.le_refl _)) upd_same
end
section
variable {X : Cx} {S C c P : Addr} {pg params : Arguments} {bg : List Stmt} {sg scope : Scope} {body : Expr} {lpos p pos : Pos} {fv : Rho → Option D} {rz : Rho → Bool} {k : Nat}
end
end L2.P

namespace L2.P
open PySem PySem.Spec PyProof.Rows L2 NdefX LamX
/-- a def whose code object's table is known -/
structure MkT (K : Fg) (mg : Str → Option Value) (base : Heap) (q : Str) : Prop where
  tb : TabB base mg (He.codeOf K (q, none)) (He.tabOf K (He.codeOf K (q, none)))
  tm : (He.tabOf K (He.codeOf K (q, none)), lamQ q) ∈ tbT K
  tu : ∀ p ∈ tbT K, p.1 = He.tabOf K (He.codeOf K (q, none)) → p.2 = lamQ q
theorem mkB_okT {K : Fg} {mg : Str → Option Value} {base : Heap} {q : Str} (h : mkB K q = true) (tb : TabB base mg (He.codeOf K (q, none)) (He.tabOf K (He.codeOf K (q, none)))) : MkT K mg base q := by
  obtain ⟨h1, h2⟩ := Bool.and_eq_true_iff.mp h
  refine ⟨tb, of_decide_eq_true h1, fun p hp e => ?_⟩
  have := List.all_eq_true.mp h2 p hp
  rw [Bool.or_eq_true] at this
  rcases this with z | z
  · rw [decide_eq_true e] at z; cases z
  · exact of_decide_eq_true z
section
variable {X : Cx} {S C c P : Addr} {pg params : Arguments} {bg : List Stmt} {sg scope : Scope} {body : Expr} {lpos p pos : Pos} {fv : Rho → Option D} {rz : Rho → Bool}
end
end L2.P
namespace L2.P
open PySem PySem.Spec PyProof.Rows L2
section
variable {f g : Rho → Option D} {rz r : Rho → Bool} {ρ ρ' : Rho} {t : Rho → Option Bool} {b : Bool} {p q : D} {xs : List D}
end
end L2.P

namespace L2.P
open PySem PySem.Spec PyProof.Rows L2
section
variable {X : Cx}
end
section
variable {X : Cx}
end
section
variable {w : List (List Int)} {st goal : List Int}
end
/-- q is the first of xs for which f is greatest -/
def FM (f : Int → Int) (xs : List Int) (q : Int) : Prop := ∃ i : Nat, xs[i]? = some q ∧ (∀ (j : Nat) (y : Int), j < i → xs[j]? = some y → f y < f q) ∧ ∀ y ∈ xs, f y ≤ f q
theorem FM.mem {f : Int → Int} {xs : List Int} {q : Int} (h : FM f xs q) : q ∈ xs := by
  obtain ⟨i, h1, _⟩ := h
  exact List.mem_of_getElem? h1
theorem FM.one (f : Int → Int) {xs : List Int} {p : Int} (h : xs[0]? = some p) : FM f (xs.take 1) p := by
  cases xs with
  | nil => cases h
  | cons x xs =>
    cases h
    exact ⟨0, rfl, fun j y hj => absurd hj (Nat.not_lt_zero _), fun y hy => by
      rw [List.take_succ_cons, List.take_zero, List.mem_singleton] at hy
      subst hy; exact Int.le_refl _⟩
theorem FM.step {f : Int → Int} {xs : List Int} {i : Nat} {p q : Int} (h : FM f (xs.take i) q) (hp : xs[i]? = some p) : FM f (xs.take (i + 1)) (if f q < f p then p else q) := by
  have hi := (List.getElem?_eq_some_iff.mp hp).1
  have ht : xs.take (i + 1) = xs.take i ++ [p] := by rw [List.take_add_one, hp]; rfl
  have hl : (xs.take i).length = i := by rw [List.length_take]; omega
  obtain ⟨j, a1, a2, a3⟩ := h
  have hj := (List.getElem?_eq_some_iff.mp a1).1
  rw [ht]
  split
  · rename_i c
    refine ⟨i, by rw [List.getElem?_append_right (by omega), hl]; simp, fun k y hk e => ?_, fun y hy => ?_⟩
    · rw [List.getElem?_append_left (by omega)] at e
      have := a3 y (List.mem_of_getElem? e)
      omega
    · rcases List.mem_append.mp hy with hy | hy
      · have := a3 y hy; omega
      · rw [List.mem_singleton] at hy; subst hy; exact Int.le_refl _
  · rename_i c
    refine ⟨j, by rw [List.getElem?_append_left hj]; exact a1, fun k y hk e => ?_, fun y hy => ?_⟩
    · rw [List.getElem?_append_left (by omega)] at e
      exact a2 k y hk e
    · rcases List.mem_append.mp hy with hy | hy
      · exact a3 y hy
      · rw [List.mem_singleton] at hy; subst hy; omega
/-- xs[sizes.index(max(sizes))] -/
theorem FM.index (f : Int → Int) {xs : List Int} (hne : xs ≠ []) : ∃ (M q : Int), gMaxA [.list ((xs.map f).map .int)] = some (.int M) ∧ M ∈ xs.map f ∧ xs[(xs.map f).idxOf M]? = some q ∧ FM f xs q := by
  obtain ⟨M, h1, h2, h3⟩ := max_intsL (ns := xs.map f) (fun z => hne (List.map_eq_nil_iff.mp z))
  have hl := List.idxOf_lt_length_iff.mpr h1
  have hg : (xs.map f)[(xs.map f).idxOf M]? = some M := by
    rw [List.getElem?_eq_getElem hl, List.getElem_idxOf]
  rw [List.getElem?_map] at hg
  obtain ⟨q, e1, e2⟩ := Option.map_eq_some_iff.mp hg
  refine ⟨M, q, h2, h1, e1, _, e1, fun j y hj e => ?_, fun y hy => by rw [e2]; exact h3 _ (List.mem_map_of_mem hy)⟩
  have hy : f y ≤ M := h3 _ (List.mem_map_of_mem (List.mem_of_getElem? e))
  rw [e2]
  refine Int.lt_iff_le_and_ne.mpr ⟨hy, fun z => ?_⟩
  have hj' : j < (xs.map f).length := by omega
  have : (xs.map f)[j]'hj' ≠ M := by
    have := List.not_of_lt_findIdx (p := (· == M)) (xs := xs.map f) hj
    simpa using this
  refine this ?_
  have e3 : (xs.map f)[j]? = some (f y) := by rw [List.getElem?_map, e]; rfl
  rw [List.getElem?_eq_getElem hj'] at e3
  rw [Option.some.inj e3, z]
section
variable {w : List (List Int)} {may : List Int}
def covL (w : List (List Int)) (left : List Int) (p : Int) : List Int := left.filter fun o => decide (o < p) && decide (o ∈ fr w p)
abbrev covM (w : List (List Int)) (left : List Int) (p : Int) : Int := ((covL w left p).length : Nat)
def leftN (w : List (List Int)) (left : List Int) (b : Int) : List Int := left.filter fun o => decide (b < o) || !decide (o ∈ fr w b)
inductive GR (w : List (List Int)) (may : List Int) : List Int → List Int → Prop
  | nil : GR w may [] []
  | cons {left row : List Int} {b : Int} : left ≠ [] → FM (covM w left) may b → GR w may (leftN w left b) row → GR w may left (b :: row)
def Covd (w : List (List Int)) (may left : List Int) : Prop := ∀ x ∈ left, ∃ k ∈ may, x < k ∧ x ∈ fr w k
theorem Covd.next {left : List Int} {b : Int} (h : Covd w may left) : Covd w may (leftN w left b) := fun x hx => h x (List.mem_filter.mp hx).1
theorem FM.pos {left : List Int} {b : Int} (hc : Covd w may left) (hne : left ≠ []) (h : FM (covM w left) may b) : ∃ o ∈ left, o < b ∧ o ∈ fr w b := by
  obtain ⟨x, hx⟩ := List.exists_mem_of_ne_nil _ hne
  obtain ⟨k, k1, k2, k3⟩ := hc x hx
  obtain ⟨i, _, _, h3⟩ := h
  have := h3 k k1
  have hk : 0 < (covL w left k).length := List.length_pos_of_mem (List.mem_filter.mpr ⟨hx, by simp [k2, k3]⟩)
  have hb : 0 < (covL w left b).length := by
    have e : covM w left k ≤ covM w left b := this
    unfold covM at e
    omega
  obtain ⟨o, ho⟩ := List.exists_mem_of_length_pos hb
  obtain ⟨o1, o2⟩ := List.mem_filter.mp ho
  rw [Bool.and_eq_true, decide_eq_true_eq, decide_eq_true_eq] at o2
  exact ⟨o, o1, o2⟩
theorem left_lt {left : List Int} {b : Int} (hc : Covd w may left) (hne : left ≠ []) (h : FM (covM w left) may b) : (leftN w left b).length < left.length := by
  obtain ⟨o, o1, o2, o3⟩ := h.pos hc hne
  refine Nat.lt_of_le_of_ne (List.length_filter_le _ _) fun e => ?_
  have := List.length_filter_eq_length_iff.mp e o o1
  simp [o3] at this
  omega
theorem GR.len : ∀ {left row : List Int}, GR w may left row → Covd w may left → row.length ≤ left.length
  | _, _, .nil, _ => Nat.le_refl _
  | left, _, .cons hne f g, hc => by
    have h1 := GR.len g hc.next
    have h2 := left_lt hc hne f
    rw [List.length_cons]
    omega
theorem GR.ne {left row : List Int} (h : GR w may left row) (hne : left ≠ []) : row ≠ [] := by
  cases h with
  | nil => exact absurd rfl hne
  | cons _ _ _ => exact List.cons_ne_nil _ _
end
end L2.P

namespace L2.P
open PySem PySem.Spec PyProof.Rows L2
section
variable {w : List (List Int)} {goal : List Int}
end
end L2.P

namespace L2.P
open PySem PySem.Spec PyProof.Rows L2
section
variable {X : Cx} {x y : Str} {p pos py : Pos} {e1 e2 e3 ed : Expr} {f1 f2 f3 : Rho → Option D} {M : List D → D → D → Prop} {g : GA} {i : Nat}
end
section
variable {X : Cx} {x y : Str} {px py p1 p2 p3 q1 q2 q3 pos pos1 pos2 pos3 pos4 : Pos} {i j : Nat} {v : Expr}
end
section
variable {X : Cx} {x y : Str} {px py p1 p2 p3 q1 q2 q3 pos pos1 pos2 pos3 pos4 : Pos} {i j : Nat} {v k : Expr} {st : Stmt} {rest : List Stmt}
end
section
variable {P : Program} {w : World} {K : Fg} {mg : Str → Option Value} {base : Heap} {x qual : Str} {params : Arguments} {body : List Stmt} {scope : Scope} {f : Addr} {fd : FuncData} {N ps : List Str} {k : Nat}
end
end L2.P

namespace L2.P
open PySem PySem.Spec PyProof.Rows L2
section
variable {X : Cx} {x y : Str} {p pos py : Pos} {e1 e2 e3 ed : Expr} {f1 f2 f3 : Rho → Option D} {M : List D → D → D → Prop} {g : GA} {i : Nat}
open Classical in
open Classical in
end
section
variable {w : List (List Int)}
end
def rowOf : D → Option (List Int)
  | .tuple xs => intsD xs
  | _ => none
def rowsOf : List D → Option (List (List Int))
  | [] => some []
  | x :: xs => (rowOf x).bind fun r => (rowsOf xs).map (r :: ·)
instance (n : Nat) (st : List Int) : Decidable (Ppl n st) := decidable_of_iff (st.Pairwise (· < ·) ∧ ∀ k ∈ st, 0 ≤ k ∧ k < (n : Int)) ⟨fun h => ⟨h.1, h.2⟩, fun h => ⟨h.up, h.inn⟩⟩
end L2.P

namespace L2.P
open PySem PySem.Spec PyProof.Rows L2
end L2.P

namespace PySem
open Sem (wp)
end PySem
namespace PySem.W
open PySem PySem.SeqAt PyProof.Rows
end PySem.W
namespace L2.P
open PySem PySem.Spec PyProof.Rows L2
section
variable {X : Cx} {a b : Expr} {p pos : Pos}
end
end L2.P

namespace L2.P
open PySem PySem.Spec PyProof.Rows L2
section
variable {X : Cx}
end
end L2.P
namespace L2
open PySem PySem.Spec PyProof.Rows
section
variable {X : Cx}
end
end L2
namespace L2.P
open PySem PySem.Spec PyProof.Rows L2
section
variable {t : Bool} {is : List Nat} {g : Tg} {T : TB} {U E : TW} {ρ : Rho}
end
def o0 (t : Bool) : HO := if t = true then .dT [] else .dK []
section
variable {X : Cx} {kx vx tg iter : Expr} {ifs : List Expr} {scope : Scope} {own : List (Str × Nat)} {pos : Pos} {L : TL} {g : Tg} {T : TB} {U E : TW}
end
end L2.P

namespace L2.P
open PySem PySem.Spec PyProof.Rows L2
section
variable {X : Cx} {k v e : Expr} {pos : Pos}
end
section
variable {w : List (List Int)}
end
end L2.P

namespace L2.P
open PySem PySem.Spec PyProof.Rows L2
section
variable {α : Type} {A B C E : Rho → Option D} {ρ : Rho} {p q r t : D} {β : Type} {g : List D → Option β} {z : Option β}
theorem c1 (hA : A ρ = some p) (h : g [p] = z) : aOf g (aCons A aNil) ρ = z := by simp only [e_aOf, e_aCons, e_aNil, hA, Option.bind_some, Option.map_some, h]
theorem c2 (hA : A ρ = some p) (hB : B ρ = some q) (h : g [p, q] = z) : aOf g (aCons A (aCons B aNil)) ρ = z := by simp only [e_aOf, e_aCons, e_aNil, hA, hB, Option.bind_some, Option.map_some, h]
theorem c3 (hA : A ρ = some p) (hB : B ρ = some q) (hC : C ρ = some r) (h : g [p, q, r] = z) : aOf g (aCons A (aCons B (aCons C aNil))) ρ = z := by simp only [e_aOf, e_aCons, e_aNil, hA, hB, hC, Option.bind_some, Option.map_some, h]
variable [DecidableEq α] {enc : α → D} {n : Nat} {a b : α} {xs : List α}
end
end L2.P

namespace L2.P
open PySem PySem.Spec PyProof.Rows L2
section
variable {w : List (List Int)}
end
section
variable {f : Rho → Option Fl} {u : Rho → Option (List D)} {tg : Tg} {ρ : Rho} {K : Fl → Prop}
end
end L2.P

namespace L2.P
open PySem PySem.Spec PyProof.Rows L2
section
variable {w : List (List Int)} {st : List Int}
/-- the taller friends who stand -/
def upsM (w : List (List Int)) (st : List Int) (x : Int) : List Int := ((fr w x).filter fun k => decide (x < k)).filter fun k => decide (k ∈ st)
theorem mem_ups {x k : Int} : k ∈ upsM w st x ↔ k ∈ fr w x ∧ x < k ∧ k ∈ st := by
  unfold upsM
  simp only [List.mem_filter, decide_eq_true_eq, and_assoc]
def hgtF (w : List (List Int)) (st : List Int) : Nat → Int → Int
  | 0, _ => 0
  | n + 1, x => ((upsM w st x).map fun k => hgtF w st n k + 1).foldl max 0
/-- the most steps uphill -/
def hgt (w : List (List Int)) (st : List Int) (x : Int) : Int := hgtF w st w.length x
end
end L2.P

namespace L2.P
open PySem PySem.Spec PyProof.Rows L2
section
variable {X : Cx} {a b c d : Expr} {pos : Pos}
end
section
variable {X : Cx} {a b e : Expr} {pos : Pos} {x : Str} {i : Nat}
end
end L2.P

namespace L2.P
open PySem PySem.Spec PyProof.Rows L2
section
variable {w : List (List Int)} {st : List Int}
inductive Upw (w : List (List Int)) (st : List Int) : Int → Int → Prop
  | one {x k : Int} : k ∈ upsM w st x → Upw w st x k
  | more {x k l : Int} : Upw w st x k → l ∈ upsM w st k → Upw w st x l
theorem Upw.mem {x y : Int} (h : Upw w st x y) : y ∈ st := by
  cases h with
  | one h => exact (mem_ups.mp h).2.2
  | more _ h => exact (mem_ups.mp h).2.2
theorem Upw.lt {x y : Int} (h : Upw w st x y) : x < y := by
  induction h with
  | one h => exact (mem_ups.mp h).2.1
  | more _ h ih => have := (mem_ups.mp h).2.1; omega
theorem Upw.hd {x y : Int} (h : Upw w st x y) : ∃ k ∈ upsM w st x, y = k ∨ Upw w st k y := by
  induction h with
  | one h => exact ⟨_, h, .inl rfl⟩
  | more _ h ih =>
    obtain ⟨k, k1, k2⟩ := ih
    rcases k2 with rfl | k2
    · exact ⟨_, k1, .inr (.one h)⟩
    · exact ⟨_, k1, .inr (.more k2 h)⟩
open Classical in
open Classical in
open Classical in
end
end L2.P

namespace L2.P
open PySem PySem.Spec PyProof.Rows L2
section
variable {β : Type} {w : List (List Int)}
end
section
variable (w : List (List Int))
end
section
variable {w : List (List Int)} {st : List Int}
end
end L2.P

namespace L2.P
open PySem PySem.Spec PyProof.Rows L2
section
variable (w : List (List Int))
end
section
variable {w : List (List Int)}
end
end L2.P

namespace L2.P
open PySem PySem.Spec PyProof.Rows L2
end L2.P

namespace L2.NS
open PySem PySem.Calls PySem.SeqAt PySem.W PyProof.Rows L2
section
variable {P : Program} {w : World}
mutual
def IntK : NestedKey → Prop
  | .num _ => True
  | .tup ks => IntKs ks
  | _ => False
def IntKs : List NestedKey → Prop
  | [] => True
  | k :: ks => IntK k ∧ IntKs ks
end
/-- the key k, of ints and tuples, stands at b -/
structure At (h : Heap) (k : NestedKey) (b : Addr) : Prop where
  is : NestedIs h k (.ref b)
  few : k.depth ≤ 8
  ik : IntK k
theorem At.nk {s : Shared} {k : NestedKey} {b : Addr} (x : At s.heap k b) : (nestedKind P w).is s.heap k b := ⟨x.is, x.few⟩
theorem At.seq {h : Heap} {k : NestedKey} {b : Addr} (x : At h k b) : ∃ o vs n, h.get? b = some o ∧ o.data = .seq vs n := by
  have q := x.is
  generalize e : Value.ref b = v at q
  cases q with
  | tup h1 h2 h3 h4 =>
    injection e with e
    subst e
    exact ⟨_, _, _, h1, h3⟩
  | _ => cases e
theorem At.keep {h h' : Heap} {k : NestedKey} {b : Addr} (x : At h k b) (hk : ∀ a o vs n, h.get? a = some o → o.data = .seq vs n → h'.get? a = some o) : At h' k b := ⟨NestedIs.at hk k _ x.is, x.few, x.ik⟩
theorem At.all {h h' : Heap} {k : NestedKey} {b : Addr} (x : At h k b) (hk : ∀ a o, h.get? a = some o → h'.get? a = some o) : At h' k b := x.keep fun a o _ _ e _ => hk a o e
abbrev Row := Addr × NestedKey
abbrev hx (w : World) (p : Row) : Int := p.2.hash w
/-- the set at a holds the keys of L -/
structure Has (w : World) (h : Heap) (a : Addr) (L : List Row) (es : Array (Int × Value)) (ep : Nat) (t : SetTable) : Prop where
  ob : ∃ o, h.get? a = some o ∧ o.ExactSet ∧ o.data = .set es ep t
  ent : es.toList = L.map fun p => (hx w p, Value.ref p.1)
  tab : TabOk t (L.map (hx w))
  once : (L.map (·.2)).Nodup
  keys : ∀ p ∈ L, At h p.2 p.1
  pl : t.plain = true
  sn : w.params.followText "set-order" = true ∨ t.led = true
  room : L.length * 5 < t.mask * 3
theorem ent_size {L : List Row} {es : Array (Int × Value)} (h : es.toList = L.map fun p => (hx w p, Value.ref p.1)) : es.size = L.length := by
  rw [← Array.length_toList, h, List.length_map]
theorem fits_of {hs : List Int} {t : SetTable} (T : TabOk t hs) (hl : hs.length ≤ t.mask) : t.fits hs.length = true := by
  unfold SetTable.fits SetTable.fill
  rw [T.dm, Bool.and_eq_true, beq_iff_eq, decide_eq_true_eq]
  have := T.sz
  show t.place.size = hs.length ∧ t.place.size + 0 ≤ t.mask
  omega
section
variable {s : Shared} {A : Around} {E : Value → Shared → Prop} {a : Addr} {L : List Row} {es : Array (Int × Value)} {ep : Nat} {t : SetTable}
theorem Has.size (R : Has w s.heap a L es ep t) : es.size = L.length := ent_size R.ent
theorem Has.fits (R : Has w s.heap a L es ep t) : t.fits es.size = true := by
  have := fits_of R.tab (by rw [List.length_map]; have := R.room; omega)
  rwa [List.length_map, ← R.size] at this
end
end
end L2.NS

namespace L2.NS
open PySem PySem.Calls PySem.SeqAt PySem.W PyProof.Rows L2
section
variable {P : Program} {w : World} {s : Shared} {A : Around} {E : Value → Shared → Prop} {a : Addr} {L : List Row} {es : Array (Int × Value)} {ep : Nat} {t : SetTable}
theorem Has.keep {h h' : Heap} (R : Has w h a L es ep t) (ha : ∀ o, h.get? a = some o → h'.get? a = some o) (hk : ∀ p ∈ L, At h' p.2 p.1) : Has w h' a L es ep t := by
  obtain ⟨o, ho, r⟩ := R.ob
  exact ⟨⟨o, ha o ho, r⟩, R.ent, R.tab, R.once, hk, R.pl, R.sn, R.room⟩
end
end L2.NS

namespace L2.NS
open PySem PySem.Calls PySem.SeqAt PySem.W PyProof.Rows L2
def nkR (r : List Int) : NestedKey := .tup (r.map .num)
def nkW (w : List (List Int)) : NestedKey := .tup (w.map nkR)
structure Set0 (w : World) (h : Heap) (a : Addr) (L : List Row) : Prop where
  ex : ∃ (es : Array (Int × Value)) (ep : Nat) (t : SetTable), (∃ o, h.get? a = some o ∧ o.ExactSet ∧ o.data = .set es ep t) ∧ es.size = L.length ∧ t.fits es.size = true ∧ L.length ≤ 76
theorem Has.s0 {w : World} {h : Heap} {a : Addr} {L : List Row} {es : Array (Int × Value)} {ep : Nat} {t : SetTable} (R : Has w h a L es ep t) : Set0 w h a L := by
  have h1 := ent_size R.ent
  have h2 := fits_of R.tab (by rw [List.length_map]; have := R.room; omega)
  rw [List.length_map, ← h1] at h2
  exact ⟨es, ep, t, R.ob, h1, h2, by have := R.room; rcases R.tab.mok with e | e | e <;> omega⟩
end L2.NS
namespace L2.P
open PySem PySem.Spec PyProof.Rows L2
abbrev WRow := Addr × List (List Int)
def rowW (p : WRow) : NS.Row := (p.1, NS.nkW p.2)
section
variable {X : Cx}
end
end L2.P

namespace L2.P
open PySem PySem.Spec PyProof.Rows L2
end L2.P

namespace L2.P
open PySem PySem.Spec PyProof.Rows L2
def sortW (ws : List (List (List Int))) : List (List (List Int)) := ws.mergeSort (PySem.W.dataLe false webD)
end L2.P
namespace L2.PS
open PySem PySem.Calls PySem.SeqAt PySem.W PyProof.Rows L2
open L2.P (WRow rowW webD sortW)
section
variable {P : Program} {w : World} {A : Around} {E : Value → Shared → Prop} {s : Shared}
end
end L2.PS
namespace L2.P
open PySem PySem.Spec PyProof.Rows L2
section
variable {X : Cx}
end
end L2.P

namespace L2.P
open PySem PySem.Spec PyProof.Rows L2 NdefX LamX
section
variable {P : Program} {w : World} {H H' : Hp} {h B h' : Heap} {C fs : List Addr}
end
section
variable {X : Cx} {k : Nat} {x : Str} {f : Addr} {fd : FuncData} {ps fr : List Str} {js : List Nat} {cl : List (Str × Addr)} {sp : Sp} {t : TA} {e : Expr} {es : List Expr} {p pos : Pos}
end
section
variable {X : Cx} {L : LamD} {q x : Str} {c P : Addr} {js : List Nat} {f1 f2 : Rho → Option D} {e1 e2 : Expr} {p pos lpos : Pos}
end
section
variable {P : Program} {w : World} {K : Fg} {mg : Str → Option Value} {base : Heap} {x qual : Str} {params : Arguments} {body : List Stmt} {scope : Scope} {C : Addr} {fd : FuncData} {N ps : List Str} {k : Nat}
end
end L2.P

namespace L2.P
open PySem PySem.Spec PyProof.Rows L2
section
variable {X : Cx} {a : Expr} {p pos : Pos}
end
end L2.P

namespace L2.P
open PySem PySem.Spec PySem.Calls PySem.W PyProof.Rows L2
mutual
theorem NkD.hash : ∀ {k : NestedKey} {d : D}, NkD k d → ∀ w w' : World, k.hash w = k.hash w'
  | _, _, .none, _, _ => rfl
  | _, _, .num i, _, _ => rfl
  | _, _, .bool b, _, _ => rfl
  | _, _, .tup h, w, w' => by
    simp only [NestedKey.hash]
    rw [NkDs.hashes h w w']
theorem NkDs.hashes : ∀ {ks : List NestedKey} {ds : List D}, NkDs ks ds → ∀ w w' : World, NestedKey.hashes w ks = NestedKey.hashes w' ks
  | _, _, .nil, _, _ => rfl
  | _, _, .cons a b, w, w' => by
    simp only [NestedKey.hashes]
    rw [NkD.hash a w w', NkDs.hashes b w w']
end
mutual
theorem NkD.is {h : Heap} : ∀ {k : NestedKey} {d : D}, NkD k d → ∀ {u : Value} {as : List Addr}, Reads h u d as → NestedIs h k u
  | _, _, .none, u, as, q => by cases q; exact .none
  | _, _, .num i, u, as, q => by cases q; exact .int _ _
  | _, _, .bool b, u, as, q => by cases q; exact .bool rfl
  | _, _, .tup n, u, as, q => by
    cases q with
    | tuple h1 h2 h3 h4 => exact .tup h1 h2 h3 (NkDs.all n h4)
theorem NkDs.all {h : Heap} : ∀ {ks : List NestedKey} {ds : List D}, NkDs ks ds → ∀ {us : List Value} {as : List Addr}, ReadsAll h us ds as → NestedAll h ks us
  | _, _, .nil, us, as, q => by cases q; exact .nil
  | _, _, .cons a b, us, as, q => by
    cases q with
    | cons q1 q2 => exact .cons (NkD.is a q1) (NkDs.all b q2)
end
/-- what stands at the key -/
def atN (L : List NEnt) (k : NestedKey) : Option V := (L.find? fun p => decide (p.1 = k)).map fun p => p.2.2
def putN (L : List NEnt) (k : NestedKey) (b : Addr) (v : V) : List NEnt := if (atN L k).isSome then L.map fun p => if p.1 = k then (p.1, p.2.1, v) else p else L ++ [(k, b, v)]
theorem putN_len {L : List NEnt} {k : NestedKey} {b : Addr} {v : V} : (putN L k b v).length ≤ L.length + 1 := by
  unfold putN
  split
  · rw [List.length_map]; omega
  · rw [List.length_append]; exact Nat.le_refl _
/-- the keys of the entries stand in the heap -/
def EntsOk (K : Fg) (H : Hp) (L : List NEnt) : Prop := ∀ p ∈ L, ∃ d, NkD p.1 d ∧ p.1.depth ≤ 8 ∧ d.plain = true ∧ Dp K H (.ref p.2.1) d
section
variable {X : Cx} {pins : List (Addr × Obj)} {σ : St} {H : Hp} {s : Shared} {a b : Addr} {L : List NEnt} {k : NestedKey} {d : D} {A : Around} {E : Value → Shared → Prop}
end
/-- d[y] -/
def tNGet (K : Fg) (td ty : TE) : TE := fun σ H Q => td σ H fun x H1 => ty σ H1 fun y H2 => ∃ (a b : Addr) (L : List NEnt) (k : NestedKey) (d : D) (v : V), x = .ref a ∧ y = .ref b ∧ H2 a = some (DictNO a L) ∧ EntsOk K H2 L ∧ NkD k d ∧ k.depth ≤ 8 ∧ d.plain = true ∧ Dp K H2 (.ref b) d ∧ atN L k = some v ∧ Q v H2
/-- d[y] = v -/
def sNPut (K : Fg) (td ty tv : TE) : TS := fun En σ H => tv σ H fun v H1 => td σ H1 fun x H2 => ty σ H2 fun y H3 => ∃ (a b : Addr) (L : List NEnt) (k : NestedKey) (d : D), x = .ref a ∧ y = .ref b ∧ H3 a = some (DictNO a L) ∧ EntsOk K H3 L ∧ NkD k d ∧ k.depth ≤ 8 ∧ d.plain = true ∧ Dp K H3 (.ref b) d ∧ L.length ≤ sizeLine ∧ En.nx σ (upd H3 a (DictNO a (putN L k b v)))
section
variable {X : Cx} {o i e value : Expr} {pos pos' tpos : Pos} {td ty tv : TE}
end
end L2.P

namespace L2.P
open PySem PySem.Spec PyProof.Rows L2
section
variable {X : Cx} {x y : Str} {p pos py : Pos} {e1 e2 e3 e4 ed : Expr} {f1 f2 f3 f4 : Rho → Option D} {M : List D → D → D → Prop} {g : GA} {i : Nat}
open Classical in
end
section
variable {K : Fg} {B : Bs} {F H : Hp} {σ : St} {ρ : Rho} {X : Cx}
end
theorem atN_map {k : NestedKey} {v : V} : ∀ {L : List NEnt}, (atN L k).isSome = true → atN (L.map fun q => if q.1 = k then (q.1, q.2.1, v) else q) k = some v
  | [], h => by cases h
  | q :: L, h => by
    unfold atN at *
    rw [List.map_cons, List.find?_cons]
    rw [List.find?_cons] at h
    by_cases c : q.1 = k
    · rw [if_pos c, decide_eq_true c]; rfl
    · rw [if_neg c, decide_eq_false c]
      rw [decide_eq_false c] at h
      exact atN_map h
theorem atN_app {k : NestedKey} {b : Addr} {v : V} : ∀ {L : List NEnt}, atN L k = none → atN (L ++ [(k, b, v)]) k = some v
  | [], _ => by unfold atN; simp
  | q :: L, h => by
    unfold atN at *
    rw [List.cons_append, List.find?_cons]
    rw [List.find?_cons] at h
    by_cases c : q.1 = k
    · rw [decide_eq_true c] at h; cases h
    · rw [decide_eq_false c] at h ⊢
      exact atN_app h
theorem atN_put {L : List NEnt} {k : NestedKey} {b : Addr} {v : V} : atN (putN L k b v) k = some v := by
  unfold putN
  split
  · rename_i h; exact atN_map h
  · rename_i h; exact atN_app (by simpa using h)
theorem atN_none {L : List NEnt} {k : NestedKey} (h : atN L k = none) : k ∉ L.map (·.1) := fun z => by
  obtain ⟨p, hp, e⟩ := List.mem_map.mp z
  unfold atN at h
  rw [Option.map_eq_none_iff, List.find?_eq_none] at h
  exact h p hp (decide_eq_true e)
theorem putN_nodup {L : List NEnt} {k : NestedKey} {b : Addr} {v : V} (h : (L.map (·.1)).Nodup) : ((putN L k b v).map (·.1)).Nodup := by
  unfold putN
  split
  · have e : (L.map fun p => if p.1 = k then (p.1, p.2.1, v) else p).map (·.1) = L.map (·.1) := by
      rw [List.map_map]
      refine List.map_congr_left fun p _ => ?_
      show (if p.1 = k then (p.1, p.2.1, v) else p).1 = p.1
      split <;> rfl
    rw [e]; exact h
  · rename_i z
    rw [List.map_append]
    refine List.pairwise_append.mpr ⟨h, List.nodup_cons.mpr ⟨by simp, List.nodup_nil⟩, fun a ha c hc e => ?_⟩
    rw [List.mem_singleton.mp hc] at e
    exact atN_none (by simpa using z) (e ▸ ha)
section
variable {X : Cx} {x y : Str} {px py p1 p2 p3 q1 q2 q3 pos pos1 pos2 pos3 pos4 : Pos} {i j : Nat} {v k : Expr} {st : Stmt} {rest : List Stmt}
end
section
variable {P : Program} {w : World} {K : Fg} {mg : Str → Option Value} {base : Heap} {x qual : Str} {params : Arguments} {body : List Stmt} {scope : Scope} {f : Addr} {fd : FuncData} {N ps : List Str} {k : Nat}
end
end L2.P

namespace L2.P
open PySem PySem.Spec PyProof.Rows L2
def nkR (r : List Int) : NestedKey := .tup (r.map .num)
end L2.P

namespace L2.P
open PySem PySem.Spec PySem.Calls PySem.W PyProof.Rows L2
mutual
/-- the key that the data is -/
def nkOf : D → Option NestedKey
  | .none => some .none
  | .int i => some (.num i)
  | .bool b => some (.num (if b = true then 1 else 0))
  | .tuple ds => (nkAll ds).map .tup
  | _ => none
def nkAll : List D → Option (List NestedKey)
  | [] => some []
  | d :: ds => (nkOf d).bind fun k => (nkAll ds).map fun ks => k :: ks
end
mutual
theorem nkOf_is : ∀ {d : D} {k : NestedKey}, nkOf d = some k → NkD k d ∧ d.plain = true
  | .int i, k, h => by
    unfold nkOf at h
    cases h
    exact ⟨.num i, rfl⟩
  | .bool b, k, h => by
    unfold nkOf at h
    cases h
    exact ⟨.bool b, rfl⟩
  | .tuple ds, k, h => by
    unfold nkOf at h
    obtain ⟨ks, e, rfl⟩ := Option.map_eq_some_iff.mp h
    obtain ⟨h1, h2⟩ := nkAll_is e
    exact ⟨.tup h1, by unfold PyData.plain; exact h2⟩
  | .none, k, h => by
    unfold nkOf at h
    cases h
    exact ⟨.none, rfl⟩
  | .str _, k, h => by unfold nkOf at h; cases h
  | .list _, k, h => by unfold nkOf at h; cases h
  | .dict _, k, h => by unfold nkOf at h; cases h
theorem nkAll_is : ∀ {ds : List D} {ks : List NestedKey}, nkAll ds = some ks → NkDs ks ds ∧ PyData.plainAll ds = true
  | [], ks, h => by
    unfold nkAll at h
    cases h
    exact ⟨.nil, rfl⟩
  | d :: ds, ks, h => by
    unfold nkAll at h
    obtain ⟨k, e1, h⟩ := Option.bind_eq_some_iff.mp h
    obtain ⟨ks', e2, rfl⟩ := Option.map_eq_some_iff.mp h
    obtain ⟨h1, h2⟩ := nkOf_is e1
    obtain ⟨h3, h4⟩ := nkAll_is e2
    exact ⟨.cons h1 h3, by unfold PyData.plainAll; rw [h2, h4]; rfl⟩
end
mutual
theorem nkOf_of : ∀ {k : NestedKey} {d : D}, NkD k d → nkOf d = some k
  | _, _, .none => by unfold nkOf; rfl
  | _, _, .num i => by unfold nkOf; rfl
  | _, _, .bool b => by unfold nkOf; rfl
  | _, _, .tup h => by unfold nkOf; rw [nkAll_of h]; rfl
theorem nkAll_of : ∀ {ks : List NestedKey} {ds : List D}, NkDs ks ds → nkAll ds = some ks
  | _, _, .nil => by unfold nkAll; rfl
  | _, _, .cons a b => by unfold nkAll; rw [nkOf_of a, nkAll_of b]; rfl
end
/-- a tuple that may be a key -/
def nkeyX : D → Option NestedKey
  | .tuple ds => (nkOf (.tuple ds)).bind fun k => if k.depth ≤ 8 then some k else none
  | _ => none
theorem nkeyX_is {d : D} {k : NestedKey} (h : nkeyX d = some k) : ∃ ds, d = .tuple ds ∧ NkD k d ∧ k.depth ≤ 8 ∧ d.plain = true := by
  unfold nkeyX at h
  split at h
  · obtain ⟨k', e, h⟩ := Option.bind_eq_some_iff.mp h
    split at h
    · rename_i h8
      cases h
      obtain ⟨h1, h2⟩ := nkOf_is e
      exact ⟨_, rfl, h1, h8, h2⟩
    · cases h
  · cases h
/-- an item's key, value -/
def fstZ : D → D
  | .tuple [d, _] => d
  | z => z
def sndZ : D → D
  | .tuple [_, p] => p
  | z => z
def nisK (k : NestedKey) (z : D) : Bool := decide (nkOf (fstZ z) = some k)
def nhX (zs : List D) (k : NestedKey) : Bool := zs.any (nisK k)
def npX (zs : List D) (k : NestedKey) (kd p : D) : List D := if nhX zs k = true then zs.map (fun z => if nisK k z = true then .tuple [fstZ z, p] else z) else zs ++ [.tuple [kd, p]]
def ndD (zs : List D) : D := .dict [(.none, .list zs)]
section
variable {K : Fg} {F H : Hp}
theorem dnAll_len : ∀ {L : List NEnt} {zs : List D}, DnAll K F L zs → L.length = zs.length
  | _, _, .nil => rfl
  | _, _, .cons _ _ _ _ _ t => congrArg (· + 1) (dnAll_len t)
theorem dnAll_ok (s : Same F H) : ∀ {L : List NEnt} {zs : List D}, DnAll K F L zs → EntsOk K H L
  | _, _, .nil => fun p hp => by cases hp
  | _, _, .cons a b c d e t => fun p hp => by
    rcases List.mem_cons.mp hp with rfl | hp
    · exact ⟨_, a, b, c, d.same s⟩
    · exact dnAll_ok s t p hp
theorem nisK_of {k k' : NestedKey} {d p : D} (n : NkD k d) : nisK k' (.tuple [d, p]) = decide (k = k') := by
  unfold nisK fstZ
  rw [nkOf_of n]
  by_cases e : k = k'
  · rw [decide_eq_true e, e]; exact decide_eq_true rfl
  · rw [decide_eq_false e]; exact decide_eq_false fun z => e (Option.some.inj z)
theorem dnAll_has (k : NestedKey) : ∀ {L : List NEnt} {zs : List D}, DnAll K F L zs → (atN L k).isSome = nhX zs k
  | _, _, .nil => rfl
  | _, _, .cons (k := k1) a b c d e t => by
    have ih := dnAll_has k t
    unfold atN nhX at *
    rw [List.find?_cons, List.any_cons, nisK_of a]
    by_cases q : k1 = k
    · rw [decide_eq_true q]; rfl
    · rw [decide_eq_false q]; exact ih
theorem dnAll_map {k : NestedKey} {v : V} {p : D} (dv : Dp K F v p) : ∀ {L : List NEnt} {zs : List D}, DnAll K F L zs → DnAll K F (L.map fun q => if q.1 = k then (q.1, q.2.1, v) else q) (zs.map fun z => if nisK k z = true then .tuple [fstZ z, p] else z)
  | _, _, .nil => .nil
  | _, _, .cons (k := k1) a b c d e t => by
    rw [List.map_cons, List.map_cons, nisK_of a]
    by_cases q : k1 = k
    · rw [if_pos q, if_pos (decide_eq_true q)]
      exact .cons a b c d dv (dnAll_map dv t)
    · rw [if_neg q, if_neg (by rw [decide_eq_false q]; exact Bool.false_ne_true)]
      exact .cons a b c d e (dnAll_map dv t)
theorem dnAll_app {k : NestedKey} {b : Addr} {v : V} {d p : D} (n : NkD k d) (h8 : k.depth ≤ 8) (pl : d.plain = true) (dy : Dp K F (.ref b) d) (dv : Dp K F v p) : ∀ {L : List NEnt} {zs : List D}, DnAll K F L zs → DnAll K F (L ++ [(k, b, v)]) (zs ++ [.tuple [d, p]])
  | _, _, .nil => .cons n h8 pl dy dv .nil
  | _, _, .cons a b c d e t => .cons a b c d e (dnAll_app n h8 pl dy dv t)
theorem dnAll_put {L : List NEnt} {zs : List D} {k : NestedKey} {b : Addr} {v : V} {d p : D} (n : NkD k d) (h8 : k.depth ≤ 8) (pl : d.plain = true) (dy : Dp K F (.ref b) d) (dv : Dp K F v p) (h : DnAll K F L zs) : DnAll K F (putN L k b v) (npX zs k d p) := by
  unfold putN npX
  rw [dnAll_has k h]
  split
  · exact dnAll_map dv h
  · exact dnAll_app n h8 pl dy dv h
end
section
variable {X : Cx} {k v e : Expr} {pos : Pos}
end
section
variable {K : Fg} {B : Bs} {F H : Hp} {σ : St} {ρ : Rho} {X : Cx}
end
section
variable {X : Cx} {x : Str} {i : Nat} {p1 p2 pos px : Pos} {v k : Expr}
end
section
variable {P : Program} {w : World} {K : PySem.W.Frag} {tg : Expr} {d : Addr} {o : Obj} {es : Array DictEntry} {ep : Nat}
end
section
variable {X : Cx} {tg e : Expr} {td : TE}
end
end L2.P

namespace L2.P
open PySem PySem.Spec PyProof.Rows L2
abbrev RRow := Addr × List Int
def rowRR (p : RRow) : NS.Row := (p.1, NS.nkR p.2)
section
variable {X : Cx}
end
end L2.P
namespace L2.PS
open PySem PySem.Calls PySem.SeqAt PySem.W PyProof.Rows L2
open L2.P (RRow rowRR tR sortR)
section
variable {P : Program} {w : World} {A : Around} {E : Value → Shared → Prop} {s : Shared}
end
end L2.PS
namespace L2.P
open PySem PySem.Spec PyProof.Rows L2
section
variable {X : Cx}
end
end L2.P

namespace L2.P
open PySem PySem.Spec PyProof.Rows L2
def strsD : List D → Option (List Str)
  | [] => some []
  | .str z :: r => (strsD r).map fun zs => z :: zs
  | _ :: _ => none
theorem strsD_some : ∀ {ps : List D} {zs : List Str}, strsD ps = some zs → ps = zs.map .str
  | [], _, h => by cases h; rfl
  | p :: ps, zs, h => by
    cases p with
    | str z =>
      obtain ⟨zs', h1, rfl⟩ := Option.map_eq_some_iff.mp h
      rw [List.map_cons, ← strsD_some h1]
    | _ => cases h
theorem dpAll_strs {K : Fg} {F : Hp} : ∀ {vs : List V} (zs : List Str), DpAll K F vs (zs.map PyData.str) → vs = zs.map V.str
  | _, [], h => DpAll.unnil h
  | _, z :: zs, h => by
    obtain ⟨v, us, rfl, r, t⟩ := DpAll.uncons h
    rw [Dp.inv_str r, dpAll_strs zs t]
    rfl
theorem dpAll_of_strs {K : Fg} {F : Hp} : ∀ zs : List Str, DpAll K F (zs.map V.str) (zs.map PyData.str)
  | [] => .nil
  | z :: zs => .cons (.str z) (dpAll_of_strs zs)
def gStr : GA
  | [.int i] => if i.natAbs.log2 < 1920 then some (.str (toString i)) else none
  | _ => none
def gIntS : GA
  | [.str a] => if a.length ≤ 640 then (intText? a).map PyData.int else none
  | _ => none
section
variable {X : Cx} {a b o e tg : Expr} {p pos apos : Pos}
theorem cg_str : CallG X (.type "str") gStr := ⟨_, call_str_int, fun B F H σ ρ vs ps z Q R d e k => by
  unfold gStr at e
  split at e
  · split at e
    · rename_i hl
      cases e
      obtain ⟨v, rfl, h⟩ := dp1 (d.dp R)
      exact ⟨_, by rw [Dp.inv_int h], hl, k F H _ R (Same.refl _) (.str _)⟩
    · cases e
  · cases e⟩
theorem cg_intS : CallG X (.type "int") gIntS := ⟨_, call_int_str, fun B F H σ ρ vs ps z Q R d e k => by
  unfold gIntS at e
  split at e
  · split at e
    · rename_i hl
      obtain ⟨n, e1, rfl⟩ := Option.map_eq_some_iff.mp e
      obtain ⟨v, rfl, h⟩ := dp1 (d.dp R)
      exact ⟨_, n, by rw [Dp.inv_str h], e1, hl, k F H _ R (Same.refl _) (.int _)⟩
    · cases e
  · cases e⟩
theorem c_str {f : Rho → Option (List D)} (B : Bi X.mg) (h : XAF X [a] f) (hg : Gl X "str" := by rfl) (he : starEach [a] X.env = (false, eval a X.env) :: starEach [] X.env := by rfl) : EF X (.Call (.Name "str" p) [a] [] pos) (aOf gStr f) := EW.f (ew_callT cg_str h hg B.str (by decide +kernel) (he := he) (hpl := rfl))
theorem c_intS {f : Rho → Option (List D)} (B : Bi X.mg) (h : XAF X [a] f) (hg : Gl X "int" := by rfl) (he : starEach [a] X.env = (false, eval a X.env) :: starEach [] X.env := by rfl) : EF X (.Call (.Name "int" p) [a] [] pos) (aOf gIntS f) := EW.f (ew_callT cg_intS h hg B.int (by decide +kernel) (he := he) (hpl := rfl))
/-- a text that the module binds -/
theorem ef_gstr {z : Str} {x : Str} {pos : Pos} (h : ∃ t, X.mg x = some (.str z t)) (hg : Gl X x := by rfl) (hd : (x == ("__debug__" : Str)) = false := by decide) : EF X (.Name x pos) (gC (.str z)) := by
  obtain ⟨t, h⟩ := h
  exact ef_con (pe_glob (v := .str z) hg h ⟨_, rfl⟩ hd) fun _ _ => .str z
def dJoin : G2
  | .str y, .list ps => (strsD ps).bind fun zs => if (zs.map (·.length)).sum + zs.length * y.length ≤ 16777216 then some (.str (Txt.join y zs)) else none
  | _, _ => none
theorem ef_join {f g : Rho → Option D} (hf : EF X o f) (hg : EF X e g) (hs : starEach [e] X.env = [(false, eval e X.env)] := by rfl) (hbase : attributeBase o "join" X.env (eval o X.env) = eval o X.env := by rfl) (hline : (apos.endLine == pos.line) = true := by rfl) :
    EF X (.Call (.Attribute o "join" apos) [e] [] pos) (b2 dJoin f g) :=
  ⟨fW_mono, (pe_join hf.pe hg.pe hs hbase hline).imp fun σ H Q ⟨B, F, ρ, R, z, e, q⟩ => by
    obtain ⟨a, e1, e⟩ := Option.bind_eq_some_iff.mp e
    obtain ⟨p, e2, e⟩ := Option.bind_eq_some_iff.mp e
    unfold dJoin at e
    split at e
    · obtain ⟨zs, e3, e⟩ := Option.bind_eq_some_iff.mp e
      split at e
      · rename_i hl
        cases e
        refine ⟨B, F, ρ, R, _, e1, fun F1 H1 v R1 s1 d1 => ⟨⟨_, Dp.inv_str d1⟩, B, F1, ρ, R1, _, e2, fun F2 H2 u R2 s2 d2 => ?_⟩⟩
        obtain ⟨a, xs, rfl, sq, r⟩ := Dp.inv_lst d2
        rw [strsD_some e3] at r
        rw [dpAll_strs zs r] at sq
        exact ⟨_, a, zs, Dp.inv_str d1, rfl, .inl (sqL_same R2.sub sq), hl, q F2 H2 _ R2 (s1.trans s2) (.str _)⟩
      · cases e
    · cases e⟩
def dSplit : D → D → Option (List D)
  | .str x, .str y => if (y.length == 0) = false ∧ x.length + 2 ≤ sizeLine then some ((Txt.split x y).map .str) else none
  | _, _ => none
def nSplit (f g : Rho → Option D) : Rho → Option (List D) := fun ρ => (f ρ).bind fun a => (g ρ).bind fun b => dSplit a b
theorem nf_split {f g : Rho → Option D} (hf : EF X o f) (hg : EF X e g) (hs : starEach [e] X.env = [(false, eval e X.env)] := by rfl) (hbase : attributeBase o "split" X.env (eval o X.env) = eval o X.env := by rfl) (hline : (apos.endLine == pos.line) = true := by rfl) :
    NF X (.Call (.Attribute o "split" apos) [e] [] pos) (nSplit f g) :=
  ⟨fW_mono, (pe_split hf.pe hg.pe hs hbase hline).imp fun σ H Q ⟨B, F, ρ, R, z, e, q⟩ => by
    obtain ⟨a, e1, e⟩ := Option.bind_eq_some_iff.mp e
    obtain ⟨p, e2, e⟩ := Option.bind_eq_some_iff.mp e
    unfold dSplit at e
    split at e
    · split at e
      · rename_i hl
        cases e
        refine ⟨B, F, ρ, R, _, e1, fun F1 H1 v R1 s1 d1 => ⟨⟨_, Dp.inv_str d1⟩, B, F1, ρ, R1, _, e2, fun F2 H2 u R2 s2 d2 => ?_⟩⟩
        exact ⟨_, _, Dp.inv_str d1, by rw [Dp.inv_str d2], hl.1, hl.2, fun p hp => q F2 H2 p _ R2 (s1.trans s2) hp (dpAll_of_strs _)⟩
      · cases e
    · cases e⟩
def charsD : D → Option (List D)
  | .str x => if x.cps.toList.length ≤ sizeLine then some (x.cps.toList.map fun c => .str ⟨#[c]⟩) else none
  | _ => none
def fChars (f : Rho → Option D) : Rho → Option (List D) := fun ρ => (f ρ).bind charsD
theorem wlk_str {K : Fg} {F : Hp} {x : Str} : Wlk K F (Its x) (x.cps.toList.map fun c => .str ⟨#[c]⟩) where
  go := fun i H hi e => by rw [List.length_map, Array.length_toList] at hi; exact hi
  stop := fun H e => by rw [List.length_map, Array.length_toList]; exact Nat.le_refl _
  yld := fun i H v H' hi e ⟨y1, c, y2, y3⟩ => by
    subst y1 y3
    exact ⟨.str ⟨#[c]⟩, by rw [List.getElem?_map, Array.getElem?_toList, y2]; rfl, .inl ⟨rfl, .str _⟩⟩
theorem if_str {f : Rho → Option D} (he : EF X e f) : IF X tg e (fChars f) :=
  ⟨fW_mono, PI.imp (pi_str he.pe) fun σ H R ⟨B, F, ρ, R0, z, e, k⟩ => by
    obtain ⟨p, e1, e⟩ := Option.bind_eq_some_iff.mp e
    unfold charsD at e
    split at e
    · split at e
      · rename_i hl
        cases e
        refine ⟨B, F, ρ, R0, _, e1, fun F1 H1 v R1 s1 d1 => ?_⟩
        exact ⟨_, Dp.inv_str d1, k F1 H1 _ R1 s1 (by rw [List.length_map]; exact hl) wlk_str⟩
      · cases e
    · cases e⟩
/-- a sign not in a text -/
def dNotInS : G2
  | .str x, .str z => match x.cps.toList with
    | [c] => some (.bool (!decide (c ∈ z.cps.toList)))
    | _ => none
  | _, _ => none
theorem og_notInS : OpG X (compareOp .NotIn) dNotInS := ⟨_, op_notIn_sign, fun B F H σ ρ x y p q z Q R hx hy e k => by
  unfold dNotInS at e
  split at e
  · rename_i x' z'
    split at e
    · rename_i c hc
      cases e
      have ex : x' = ⟨#[c]⟩ := TL.ext_tl hc
      subst ex
      exact ⟨c, z', Dp.inv_str (hx.dp (Same.refl _) R), Dp.inv_str (hy.dp (Same.refl _) R), k F H _ R (Same.refl _) (.bl _)⟩
    · cases e
  · cases e⟩
end
end L2.P

namespace L2.P
open PySem PySem.Spec PyProof.Rows L2
/-- every test is false -/
def chkF (g : Tg) (t : Rho → Option Bool) : List D → Rho → Option Rho
  | [], ρ => some ρ
  | p :: ps, ρ => (g p ρ).bind fun ρ' => (t ρ').bind fun b => if b = true then none else chkF g t ps ρ'
def sChkO (i : Nat) (g : Tg) (t : Rho → Option Bool) : Rho → Option Fl := fun ρ => match ρ[i]? with
  | some (.ol ps) => (chkF g t (enumD ps) ρ).map .nx
  | _ => none
section
variable {X : Cx} {i : Nat} {x : Str} {p px pos ipos tpos fpos : Pos} {elts : List Expr} {kk : Nat} {g : Tg} {is : List Nat} {c : Expr} {bad : Stmt} {t : Rho → Option Bool}
theorem sf_chkO (hp : PassesOwn (model X.prog X.w) X.A X.env X.xe) (hc : X.calm = true) (bi : Bi X.mg) (hN : X.N[i]? = some x) (hv : Vis X.env.scope x) (hg : GW X (.Tuple elts kk tpos) g is) (ht : TF X c t) (hni : i ∉ is) (hge : Gl X "enumerate" := by rfl)
    (hd : (x == ("__debug__" : Str)) = false := by decide) (hcd : (x == ("__classdict__" : Str)) = false := by decide) (hs1 : starEach [.Name x px] X.env = [(false, eval (.Name x px) X.env)] := by rfl)
    (hs : ∀ y, foldedSetIterable (.Call (.Name "enumerate" p) [.Name x px] [] pos) X.env y = pure y := by intro _; rfl) :
    SF X (.For (.Tuple elts kk tpos) (.Call (.Name "enumerate" p) [.Name x px] [] pos) [.If c [bad] [] ipos] [] fpos) (sChkO i g t) := by
  refine ⟨fW_mono, (ps_for hp hc (pi_enum hge bi.enumerate (pa_cons (pe_var hN hv hd hcd) pa_nil hs1) hs1) hg (pss_one (ps_if ht.pt (pss_one ps_never) pss_nil)) hs).imp fun En σ H ⟨B, F, ρ, R, fl, e, k⟩ => ?_⟩
  unfold sChkO at e
  split at e
  · rename_i ps hi
    obtain ⟨ρe, ee, rfl⟩ := Option.map_eq_some_iff.mp e
    obtain ⟨a, xs, hσ, fa, h0, hH, dx⟩ := R.own hi
    refine ⟨_, hσ, a, xs, rfl, .inl (.inl hH), fun j m σ2 H2 => m = (enumD ps).length - j ∧ j ≤ (enumD ps).length ∧ ∃ F2 ρ2, Rs X.K B F2 H2 σ2 ρ2 ∧ Same F F2 ∧ ρ2[i]? = some (.ol ps) ∧ σ2[i]? = some (some (.ref a)) ∧ chkF g t ((enumD ps).drop j) ρ2 = some ρe, ⟨(enumD ps).length, by simp, Nat.zero_le _, F, ρ, R, Same.refl _, hi, hσ, by rw [List.drop_zero]; exact ee⟩, ?_⟩
    rintro j m σ2 H2 ⟨rfl, hj, F2, ρ2, R2, s2, hi2, hσ2, q2⟩
    obtain ⟨a', xs2, hσ', fa2, h02, hH2, dx2⟩ := R2.own hi2
    obtain rfl : a' = a := by rw [hσ2] at hσ'; cases hσ'; rfl
    have sq : SqL X.K H2 a' xs2 := .inl (.inl hH2)
    by_cases hlt : j < (enumD ps).length
    · have hlt' := hlt
      rw [enumD_length] at hlt'
      refine .inr ⟨⟨xs2, xs2[j]'(by rw [dx2.length]; exact hlt'), sq, by simp⟩, fun σ' H' => ∃ F3 ρ3, Rs X.K B F3 H' σ' ρ3 ∧ Same F F3 ∧ ρ3[i]? = some (.ol ps) ∧ σ'[i]? = some (some (.ref a')) ∧ chkF g t ((enumD ps).drop (j + 1)) ρ3 = some ρe, fun σ' H' n => ⟨(enumD ps).length - (j + 1), by omega, rfl, hlt, n⟩, fun y H' hy => ?_⟩
      obtain ⟨T, z, ev, n, eH, y2⟩ := hy
      obtain ⟨pz, hpz, dz⟩ := dx2.getV (y2 xs2 sq)
      have e0 : (enumD ps).drop j = .tuple [.int (j : Nat), pz] :: (enumD ps).drop (j + 1) := by
        rw [List.drop_eq_getElem_cons hlt]
        obtain ⟨_, e⟩ := List.getElem?_eq_some_iff.mp (enumD_at hpz)
        rw [e]
      rw [e0] at q2
      obtain ⟨ρ', eg, q2⟩ := Option.bind_eq_some_iff.mp q2
      obtain ⟨b, eb, q2⟩ := Option.bind_eq_some_iff.mp q2
      cases b with
      | true => cases q2
      | false =>
        obtain ⟨F3, R3, s3, d3⟩ := yl_step R2 (Same.refl F2) (.inr ⟨T, _, _, _, _, ev, n, eH, rfl, .int (j : Nat), dz⟩)
        refine ⟨B, F3, ρ2, _, ρ', R3, d3, eg, fun σ' R4 hl hσ3 hρ3 => ?_⟩
        refine ⟨B, F3, ρ', R4, _, eb, fun F4 H4 R5 s5 => ?_⟩
        exact ⟨F4, ρ', R5, ((s2.trans s3).trans s5), by rw [hρ3 i hni]; exact hi2, by rw [hσ3 i hni]; exact hσ2, q2⟩
    · have e1 : j = (enumD ps).length := by omega
      subst e1
      rw [List.drop_length] at q2
      cases q2
      exact .inl ⟨⟨xs2, sq, by rw [enumD_length, dx2.length]; exact Nat.le_refl _⟩, k F2 H2 σ2 R2 s2⟩
  · cases e
end
end L2.P

namespace L2.P
open PySem PySem.Spec PySem.Calls PySem.W PyProof.Rows L2 NdefX LamX
section
variable {X : Cx} {e : Expr} {te : TE} {p apos cpos pos : Pos}
end
section
variable {prog : Program} {w : World} {A : Around} {E : Value → Shared → Prop} {s : Shared}
end
section
variable {prog : Program} {w : World} {A : Around} {E : Value → Shared → Prop} {s : Shared} {a : Addr} {vs : List Value} {P : PySem.Fin → Shared → Prop}
end
theorem reads_ints {h : Heap} : ∀ {is : List Int} {vs : List Value} {as : List Addr}, ReadsAll h vs (is.map .int) as → as = []
  | [], vs, as, r => by cases r; rfl
  | i :: is, vs, as, r => by
    cases r with
    | cons r1 r2 =>
      cases r1
      rw [reads_ints r2]; rfl
section
variable {X : Cx} {q z : Str} {params : Arguments} {body : Expr} {scope : Scope}
end
end L2.P

namespace L2.P
open PySem PySem.Spec PySem.Calls PySem.W PyProof.Rows L2 NdefX LamX
section
variable {X : Cx} {q0 z : Str} {params : Arguments} {body e : Expr} {scope : Scope} {p p2 pos pos2 apos cpos lpos kpos : Pos}
end
section
variable {X : Cx} {x y : Str} {i j : Nat} {k k1 v1 k2 v2 : Expr} {pos px py pt pd1 pd2 : Pos}
end
end L2.P

namespace L2.P
theorem app_lt : ∀ {r r' x y : List Int}, r.length = r'.length → r < r' → r ++ x < r' ++ y
  | [], [], _, _, _, h => absurd h (List.lt_irrefl _)
  | [], _ :: _, _, _, h, _ => by simp at h
  | _ :: _, [], _, _, h, _ => by simp at h
  | a :: r, b :: r', x, y, hl, h => by
    rw [List.cons_append, List.cons_append]
    rcases List.cons_lt_cons_iff.mp h with h2 | ⟨rfl, h2⟩
    · exact List.cons_lt_cons_iff.mpr (.inl h2)
    · exact List.cons_lt_cons_iff.mpr (.inr ⟨rfl, app_lt (by simpa using hl) h2⟩)
theorem lt_or_eqR {r r' : List Int} (h : r ≤ r') : r < r' ∨ r = r' := by
  by_cases c : r' ≤ r
  · exact .inr (List.le_antisymm h c)
  · exact .inl (List.not_le.mp c)
theorem app_le {r r' x : List Int} (hl : r.length = r'.length) (h : r ≤ r') : r ++ x ≤ r' ++ x := by
  rcases lt_or_eqR h with h | rfl
  · exact List.le_of_lt (app_lt hl h)
  · exact List.le_refl _
theorem app_one {p q : Int} (h : p ≤ q) : ∀ r : List Int, r ++ [p] ≤ r ++ [q]
  | [] => by
    rcases Int.lt_or_eq_of_le h with h | rfl
    · exact List.le_of_lt (List.cons_lt_cons_iff.mpr (.inl h))
    · exact List.le_refl _
  | a :: r => by
    rcases lt_or_eqR (app_one h r) with h' | h'
    · exact List.le_of_lt (List.cons_lt_cons_iff.mpr (.inr ⟨rfl, h'⟩))
    · rw [List.cons_append, List.cons_append, h']; exact List.le_refl _
/-- a row of these people -/
def ValR (ps r : List Int) : Prop := ∀ x ∈ r, x ∈ ps
section
variable {S : Type} [DecidableEq S] {step : S → Int → S} {ps : List Int} {k0 : S}
def nxtC (step : S → Int → S) (ps : List Int) (es : List (S × List Int)) : List (S × List Int) := es.flatMap fun e => ps.map fun p => (step e.1 p, e.2 ++ [p])
def insC (s : List S × List (S × List Int)) (c : S × List Int) : List S × List (S × List Int) := if c.1 ∈ s.1 then s else (s.1 ++ [c.1], s.2 ++ [c])
structure InsOk (cs : List (S × List Int)) (m0 : List S) (f0 : List (S × List Int)) (s : List S × List (S × List Int)) : Prop where
  met : ∀ k, k ∈ s.1 ↔ k ∈ m0 ∨ ∃ c ∈ cs, c.1 = k
  ndm : s.1.Nodup
  ndf : (s.2.map (·.1)).Nodup
  sub : ∀ e ∈ s.2, e ∈ f0 ∨ e ∈ cs ∧ e.1 ∉ m0 ∧ ∀ c ∈ cs, c.1 = e.1 → e.2 ≤ c.2
  has : ∀ c ∈ cs, c.1 ∉ m0 → ∃ e ∈ s.2, e.1 = c.1
  old : ∀ e ∈ f0, e ∈ s.2
  l1 : s.1.length ≤ m0.length + cs.length
  l2 : s.2.length ≤ f0.length + cs.length
theorem ins_spec : ∀ (cs : List (S × List Int)) (m0 : List S) (f0 : List (S × List Int)), cs.Pairwise (fun a b => a.2 ≤ b.2) → m0.Nodup → (f0.map (·.1)).Nodup → (∀ e ∈ f0, e.1 ∈ m0) → InsOk cs m0 f0 (cs.foldl insC (m0, f0))
  | [], m0, f0, _, h1, h2, _ => ⟨fun k => by simp, h1, h2, fun e he => .inl he, fun c hc => (by cases hc), fun e he => he, Nat.le_refl _, Nat.le_refl _⟩
  | c :: cs, m0, f0, hp, h1, h2, h3 => by
    obtain ⟨q1, q2⟩ := List.pairwise_cons.mp hp
    rw [List.foldl_cons]
    by_cases hc : c.1 ∈ m0
    · rw [show insC (m0, f0) c = (m0, f0) from if_pos hc]
      have I := ins_spec cs m0 f0 q2 h1 h2 h3
      refine ⟨fun k => ?_, I.ndm, I.ndf, fun e he => ?_, fun d hd hn => ?_, I.old, Nat.le_trans I.l1 (by simp), Nat.le_trans I.l2 (by simp)⟩
      · rw [I.met]
        constructor
        · rintro (h | ⟨d, hd, e⟩)
          · exact .inl h
          · exact .inr ⟨d, List.mem_cons_of_mem _ hd, e⟩
        · rintro (h | ⟨d, hd, e⟩)
          · exact .inl h
          · rcases List.mem_cons.mp hd with hd | hd
            · exact .inl (by rw [← e, hd]; exact hc)
            · exact .inr ⟨d, hd, e⟩
      · rcases I.sub e he with h | ⟨a1, a2, a3⟩
        · exact .inl h
        · refine .inr ⟨List.mem_cons_of_mem _ a1, a2, fun d hd ed => ?_⟩
          rcases List.mem_cons.mp hd with rfl | hd
          · exact absurd (ed ▸ hc) a2
          · exact a3 d hd ed
      · rcases List.mem_cons.mp hd with rfl | hd
        · exact absurd hc hn
        · exact I.has d hd hn
    · rw [show insC (m0, f0) c = (m0 ++ [c.1], f0 ++ [c]) from if_neg hc]
      have I := ins_spec cs (m0 ++ [c.1]) (f0 ++ [c]) q2 (List.nodup_append.mpr ⟨h1, by simp, fun a ha b hb => by
        rw [List.mem_singleton.mp hb]; exact fun z => hc (z ▸ ha)⟩) (by
        rw [List.map_append]
        refine List.nodup_append.mpr ⟨h2, by simp, fun a ha b hb => ?_⟩
        obtain ⟨e', he', rfl⟩ := List.mem_map.mp ha
        have : b = c.1 := by simpa using hb
        rw [this]
        exact fun z => hc (z ▸ h3 e' he')) (fun e he => by
        rcases List.mem_append.mp he with he | he
        · exact List.mem_append_left _ (h3 e he)
        · rw [List.mem_singleton.mp he]; exact List.mem_append_right _ (List.mem_singleton.mpr rfl))
      have hcm : c ∈ (cs.foldl insC (m0 ++ [c.1], f0 ++ [c])).2 := I.old c (List.mem_append_right _ (List.mem_singleton.mpr rfl))
      refine ⟨fun k => ?_, I.ndm, I.ndf, fun e he => ?_, fun d hd hn => ?_, fun e he => I.old e (List.mem_append_left _ he), ?_, ?_⟩
      · rw [I.met, List.mem_append, List.mem_singleton]
        constructor
        · rintro ((h | h) | ⟨d, hd, e⟩)
          · exact .inl h
          · exact .inr ⟨c, List.mem_cons_self, h.symm⟩
          · exact .inr ⟨d, List.mem_cons_of_mem _ hd, e⟩
        · rintro (h | ⟨d, hd, e⟩)
          · exact .inl (.inl h)
          · rcases List.mem_cons.mp hd with hd | hd
            · exact .inl (.inr (by rw [← e, hd]))
            · exact .inr ⟨d, hd, e⟩
      · rcases I.sub e he with h | ⟨a1, a2, a3⟩
        · rcases List.mem_append.mp h with h | h
          · exact .inl h
          · rw [List.mem_singleton.mp h]
            refine .inr ⟨List.mem_cons_self, hc, fun d hd _ => ?_⟩
            rcases List.mem_cons.mp hd with rfl | hd
            · exact List.le_refl _
            · exact q1 d hd
        · rw [List.mem_append, List.mem_singleton, not_or] at a2
          refine .inr ⟨List.mem_cons_of_mem _ a1, a2.1, fun d hd ed => ?_⟩
          rcases List.mem_cons.mp hd with rfl | hd
          · exact absurd ed.symm a2.2
          · exact a3 d hd ed
      · rcases List.mem_cons.mp hd with rfl | hd
        · exact ⟨d, hcm, rfl⟩
        · by_cases z : d.1 = c.1
          · exact ⟨c, hcm, z.symm⟩
          · exact I.has d hd (by rw [List.mem_append, List.mem_singleton, not_or]; exact ⟨hn, z⟩)
      · have := I.l1; rw [List.length_append, List.length_singleton] at this; rw [List.length_cons]; omega
      · have := I.l2; rw [List.length_append, List.length_singleton] at this; rw [List.length_cons]; omega
/-- after t levels: last holds what is reached by t calls and by no fewer, met all that is reached -/
structure Lev (step : S → Int → S) (ps : List Int) (k0 : S) (t : Nat) (last : List (S × List Int)) (met : List S) : Prop where
  row : ∀ e ∈ last, e.2.length = t ∧ ValR ps e.2 ∧ e.2.foldl step k0 = e.1
  min : ∀ e ∈ last, ∀ r, r.length = t → ValR ps r → r.foldl step k0 = e.1 → e.2 ≤ r
  mt : ∀ k, k ∈ met ↔ ∃ r, r.length ≤ t ∧ ValR ps r ∧ r.foldl step k0 = k
  new : ∀ e ∈ last, ∀ r, r.length < t → ValR ps r → r.foldl step k0 ≠ e.1
  all : ∀ r, r.length = t → ValR ps r → (∃ e ∈ last, e.1 = r.foldl step k0) ∨ ∃ r', r'.length < t ∧ ValR ps r' ∧ r'.foldl step k0 = r.foldl step k0
  nd : (last.map (·.1)).Nodup
  ndm : List.Nodup met
theorem val_snoc {ps q : List Int} {p : Int} : ValR ps (q ++ [p]) ↔ ValR ps q ∧ p ∈ ps := by
  unfold ValR
  simp only [List.mem_append, List.mem_singleton]
  exact ⟨fun h => ⟨fun x hx => h x (.inl hx), h p (.inr rfl)⟩, fun h x hx => hx.elim (h.1 x) (fun e => e ▸ h.2)⟩
theorem snoc_of {r : List Int} {t : Nat} (h : r.length = t + 1) : ∃ q p, r = q ++ [p] ∧ q.length = t := by
  rcases List.eq_nil_or_concat r with rfl | ⟨q, p, e⟩
  · simp at h
  · refine ⟨q, p, by rw [e]; simp, ?_⟩
    rw [e] at h
    simpa using h
theorem mem_nxtC {es : List (S × List Int)} {c : S × List Int} : c ∈ nxtC step ps es ↔ ∃ e ∈ es, ∃ p ∈ ps, c = (step e.1 p, e.2 ++ [p]) := by
  unfold nxtC
  rw [List.mem_flatMap]
  constructor
  · rintro ⟨e, he, h⟩
    obtain ⟨p, hp, rfl⟩ := List.mem_map.mp h
    exact ⟨e, he, p, hp, rfl⟩
  · rintro ⟨e, he, p, hp, rfl⟩
    exact ⟨e, he, List.mem_map.mpr ⟨p, hp, rfl⟩⟩
theorem pw_nxtC {t : Nat} (hps : ps.Pairwise (· ≤ ·)) : ∀ {es : List (S × List Int)}, es.Pairwise (fun a b => a.2 < b.2) → (∀ e ∈ es, e.2.length = t) → (nxtC step ps es).Pairwise (fun a b => a.2 ≤ b.2)
  | [], _, _ => .nil
  | e :: es, h, hl => by
    obtain ⟨h1, h2⟩ := List.pairwise_cons.mp h
    show ((ps.map fun p => (step e.1 p, e.2 ++ [p])) ++ nxtC step ps es).Pairwise _
    refine List.pairwise_append.mpr ⟨List.pairwise_map.mpr (hps.imp fun {a b} hab => app_one hab _), pw_nxtC hps h2 fun x hx => hl x (List.mem_cons_of_mem _ hx), fun a ha b hb => ?_⟩
    obtain ⟨p, _, rfl⟩ := List.mem_map.mp ha
    obtain ⟨e', he', q, _, rfl⟩ := mem_nxtC.mp hb
    exact List.le_of_lt (app_lt ((hl e List.mem_cons_self).trans (hl e' (List.mem_cons_of_mem _ he')).symm) (h1 e' he'))
/-- the rows of a level are different ones -/
theorem Lev.strict {t : Nat} {last es : List (S × List Int)} {met : List S} (L : Lev step ps k0 t last met) (hp : es.Perm last) (h : es.Pairwise fun a b => a.2 ≤ b.2) : es.Pairwise fun a b => a.2 < b.2 := by
  have nd : (es.map (·.1)).Nodup := (hp.map _).nodup_iff.mpr L.nd
  have nd' : es.Pairwise fun a b => a.1 ≠ b.1 := List.pairwise_map.mp nd
  refine (List.Pairwise.and h nd').imp_of_mem fun {a b} ha hb ⟨h1, h2⟩ => ?_
  rcases lt_or_eqR h1 with h1 | h1
  · exact h1
  · refine absurd ?_ h2
    rw [← (L.row a (hp.mem_iff.mp ha)).2.2, ← (L.row b (hp.mem_iff.mp hb)).2.2, h1]
theorem Lev.next {t : Nat} {last es : List (S × List Int)} {met : List S} (L : Lev step ps k0 t last met) (hps : ps.Pairwise (· ≤ ·)) (hp : es.Perm last) (h : es.Pairwise fun a b => a.2 ≤ b.2) :
    Lev step ps k0 (t + 1) ((nxtC step ps es).foldl insC (met, [])).2 ((nxtC step ps es).foldl insC (met, [])).1 := by
  have I := ins_spec (nxtC step ps es) met [] (pw_nxtC hps (L.strict hp h) fun e he => (L.row e (hp.mem_iff.mp he)).1) L.ndm (by simp) (fun e he => by cases he)
  generalize (nxtC step ps es).foldl insC (met, []) = s at I ⊢
  have cand : ∀ c ∈ nxtC step ps es, c.2.length = t + 1 ∧ ValR ps c.2 ∧ c.2.foldl step k0 = c.1 := fun c hc => by
    obtain ⟨e, he, p, hp', rfl⟩ := mem_nxtC.mp hc
    obtain ⟨a, b, d⟩ := L.row e (hp.mem_iff.mp he)
    refine ⟨by rw [List.length_append, a, List.length_singleton], val_snoc.mpr ⟨b, hp'⟩, ?_⟩
    rw [List.foldl_append, d]; rfl
  have sub : ∀ e ∈ s.2, e ∈ nxtC step ps es ∧ e.1 ∉ met ∧ ∀ c ∈ nxtC step ps es, c.1 = e.1 → e.2 ≤ c.2 := fun e he => (I.sub e he).resolve_left (fun z => by cases z)
  -- a row of t + 1 calls: what it leads to is a candidate's, or is reached earlier
  have last1 : ∀ r, r.length = t + 1 → ValR ps r → (∃ c ∈ nxtC step ps es, c.1 = r.foldl step k0 ∧ c.2 ≤ r) ∨ ∃ r', r'.length < t + 1 ∧ ValR ps r' ∧ r'.foldl step k0 = r.foldl step k0 := fun r hr hv => by
    obtain ⟨q, p, rfl, hq⟩ := snoc_of hr
    obtain ⟨v1, v2⟩ := val_snoc.mp hv
    rcases L.all q hq v1 with ⟨e, he, e1⟩ | ⟨q', a1, a2, a3⟩
    · refine .inl ⟨(step e.1 p, e.2 ++ [p]), mem_nxtC.mpr ⟨e, hp.mem_iff.mpr he, p, v2, rfl⟩, by rw [List.foldl_append, ← e1]; rfl, app_le ((L.row e he).1.trans hq.symm) (L.min e he q hq v1 e1.symm)⟩
    · exact .inr ⟨q' ++ [p], by rw [List.length_append, List.length_singleton]; omega, val_snoc.mpr ⟨a2, v2⟩, by rw [List.foldl_append, List.foldl_append, a3]⟩
  refine ⟨fun e he => cand e (sub e he).1, fun e he r hr hv hf => ?_, fun k => ?_, fun e he r hr hv hf => ?_, fun r hr hv => ?_, I.ndf, I.ndm⟩
  · obtain ⟨s1, s2, s3⟩ := sub e he
    rcases last1 r hr hv with ⟨c, hc, c1, c2⟩ | ⟨r', a1, a2, a3⟩
    · exact List.le_trans (s3 c hc (c1.trans hf)) c2
    · exact absurd ((L.mt _).mpr ⟨r', by omega, a2, a3.trans hf⟩) s2
  · rw [I.met]
    constructor
    · rintro (h | ⟨c, hc, rfl⟩)
      · obtain ⟨r, a, b, d⟩ := (L.mt k).mp h
        exact ⟨r, by omega, b, d⟩
      · obtain ⟨a, b, d⟩ := cand c hc
        exact ⟨c.2, by omega, b, d⟩
    · rintro ⟨r, a, b, d⟩
      by_cases hr : r.length = t + 1
      · rcases last1 r hr b with ⟨c, hc, c1, _⟩ | ⟨r', a1, a2, a3⟩
        · exact .inr ⟨c, hc, c1.trans d⟩
        · exact .inl ((L.mt k).mpr ⟨r', by omega, a2, a3.trans d⟩)
      · exact .inl ((L.mt k).mpr ⟨r, by omega, b, d⟩)
  · exact (sub e he).2.1 ((L.mt _).mpr ⟨r, by omega, hv, hf⟩)
  · rcases last1 r hr hv with ⟨c, hc, c1, _⟩ | h
    · by_cases hm : c.1 ∈ met
      · obtain ⟨r', a, b, d⟩ := (L.mt _).mp hm
        exact .inr ⟨r', by omega, b, d.trans c1⟩
      · obtain ⟨e, he, e1⟩ := I.has c hc hm
        exact .inl ⟨e, he, e1.trans c1⟩
    · exact .inr h
/-- the least of the shortest rows that lead to one that is calm -/
structure LeastR (step : S → Int → S) (ps : List Int) (k0 : S) (calm : S → Bool) (r : List Int) : Prop where
  val : ValR ps r
  good : calm (r.foldl step k0) = true
  least : ∀ r', ValR ps r' → calm (r'.foldl step k0) = true → r.length < r'.length ∨ r.length = r'.length ∧ r ≤ r'
def NoCalm (step : S → Int → S) (ps : List Int) (k0 : S) (calm : S → Bool) (t : Nat) : Prop := ∀ r, r.length < t → ValR ps r → calm (r.foldl step k0) = false
theorem Lev.found {t : Nat} {last es : List (S × List Int)} {met : List S} {calm : S → Bool} {e : S × List Int} (L : Lev step ps k0 t last met) (nc : NoCalm step ps k0 calm t) (hp : es.Perm last) (h : es.Pairwise fun a b => a.2 ≤ b.2) (hf : es.find? (fun e => calm e.1) = some e) :
    LeastR step ps k0 calm e.2 := by
  have he := List.mem_of_find?_eq_some hf
  obtain ⟨a, b, d⟩ := L.row e (hp.mem_iff.mp he)
  have hc : calm e.1 = true := by
    have := List.find?_some hf
    exact this
  refine ⟨b, by rw [d]; exact hc, fun r' hv hg => ?_⟩
  by_cases h1 : r'.length < t
  · rw [nc r' h1 hv] at hg; cases hg
  by_cases h2 : r'.length = t
  · refine .inr ⟨by omega, ?_⟩
    rcases L.all r' h2 hv with ⟨e', he', e1⟩ | ⟨q, a1, a2, a3⟩
    · have m := L.min e' he' r' h2 hv e1.symm
      refine List.le_trans ?_ m
      rw [← e1] at hg
      obtain ⟨as, bs, e2, e3⟩ := (List.find?_eq_some_iff_append.mp hf).2
      have me : e' ∈ es := hp.mem_iff.mpr he'
      rw [e2] at me h
      rcases List.mem_append.mp me with me | me
      · have := e3 e' me
        simp [hg] at this
      · rcases List.mem_cons.mp me with rfl | me
        · exact List.le_refl _
        · exact (List.pairwise_cons.mp (List.pairwise_append.mp h).2.1).1 e' me
    · rw [← a3, nc q a1 a2] at hg; cases hg
  · exact .inl (by omega)
theorem Lev.none {t : Nat} {last es : List (S × List Int)} {met : List S} {calm : S → Bool} (L : Lev step ps k0 t last met) (nc : NoCalm step ps k0 calm t) (hp : es.Perm last) (hf : es.find? (fun e => calm e.1) = none) : NoCalm step ps k0 calm (t + 1) := fun r hr hv => by
  by_cases h1 : r.length < t
  · exact nc r h1 hv
  rcases L.all r (by omega) hv with ⟨e', he', e1⟩ | ⟨q, a1, a2, a3⟩
  · have := List.find?_eq_none.mp hf e' (hp.mem_iff.mpr he')
    rw [← e1]
    simpa using this
  · rw [← a3]; exact nc q a1 a2
end
section
open PySem PySem.Spec PyProof.Rows L2
end
end L2.P

namespace L2.DM
open PySem PySem.Calls PySem.W PyProof.Rows PySem.Spec
section
variable {prog : Program} {w : World} {K : Type} [DecidableEq K] {knd : HeapKind prog w K} {A : Around} {E : Value → Shared → Prop} {s : Shared} {d a : Addr} {k : K} {xs ys : List (K × Addr × Value)}
end
end L2.DM

namespace L2.P
open PySem PySem.Spec PySem.Calls PySem.W PyProof.Rows L2
section
variable {X : Cx} {pins : List (Addr × Obj)} {σ : St} {H : Hp} {s : Shared} {a : Addr} {L : List NEnt} {o : Obj}
end
section
variable {X : Cx} {k v e1 : Expr} {pos : Pos} {t1 tk tv : TE}
end
end L2.P

namespace L2.P
open PySem PySem.Spec PySem.Calls PySem.W PyProof.Rows L2
section
variable {P : Program} {w : World} {K : PySem.W.Frag} {tg : Expr} {d : Addr} {o : Obj} {es : Array DictEntry} {ep : Nat}
end
section
variable {X : Cx} {tg e : Expr} {td : TE} {apos cpos p : Pos}
end
end L2.P

namespace L2.P
open PySem PySem.Spec PySem.Calls PySem.W PyProof.Rows L2
def tEmptyN : TE := fun σ H Q => ∀ p, H p = none → (p == sysModules) = false → Q (.ref p) (upd H p (DictNO p []))
def tNGet2 (K : Fg) (td ty tz : TE) : TE := fun σ H Q => td σ H fun x H1 => ∃ a, x = .ref a ∧ (a == sysModules) = false ∧ (∃ L0, H1 a = some (DictNO a L0)) ∧ ty σ H1 fun y H2 => tz σ H2 fun z H3 => ∃ (b : Addr) (L : List NEnt) (k : NestedKey) (dd : D), y = .ref b ∧ H3 a = some (DictNO a L) ∧ EntsOk K H3 L ∧ NkD k dd ∧ k.depth ≤ 8 ∧ dd.plain = true ∧ Dp K H3 (.ref b) dd ∧ Q ((atN L k).getD z) H3
section
variable {X : Cx} {o e f : Expr} {pos apos cpos : Pos} {td ty tz : TE}
end
def lookNX (zs : List D) (k : NestedKey) : Option D := (zs.find? (nisK k)).map sndZ
/-- the items of the dict at the key, or none -/
def innX (zs : List D) (k : NestedKey) : Option (List D) := match lookNX zs k with
  | none => some []
  | some (.dict [(.none, .list zs')]) => some zs'
  | _ => none
section
variable {X : Cx} {x : Str} {i : Nat} {ky k v : Expr} {pos px apos cpos epos : Pos}
end
end L2.P

namespace L2.P
open PySem PySem.Spec PyProof.Rows L2 NdefX LamX
section
variable {X : Cx} {L : LamD} {q x : Str} {c P : Addr} {js : List Nat} {g : GA} {f0 f1 f2 : Rho → Option D} {e0 e1 e2 : Expr} {p pos lpos : Pos}
end
end L2.P

namespace L2.P
open PySem PySem.Spec PyProof.Rows L2 NdefX LamX
section
variable {H : Hp} {cs : List Addr} {g : Addr → HO} {b c : Addr}
end
section
variable {X : Cx} {pins : List (Addr × Obj)} {σ : St} {s : Shared}
variable {ss rest : List Stmt} {S : Stmt} {t : TS}
end
structure NIn where
  k : NestedKey
  b : Addr
  c : Addr
  L : List NEnt
  d : D
  zs : List D
def topL (es : List NIn) : List NEnt := es.map fun e => (e.k, e.b, V.ref e.c)
def nzs (es : List NIn) : List D := es.map fun e => .tuple [e.d, ndD e.zs]
structure Nst (K : Fg) (B : Bs) (F H : Hp) (a : Addr) (es : List NIn) : Prop where
  sm : (a == sysModules) = false
  fa : F a = none
  ha : B.Ha a = none
  hh : H a = some (DictNO a (topL es))
  kn : (es.map (·.k)).Nodup
  len : es.length ≤ sizeLine
  cn : (a :: es.map (·.c)).Nodup
  ent : ∀ e ∈ es, NkD e.k e.d ∧ e.k.depth ≤ 8 ∧ e.d.plain = true ∧ Dp K F (.ref e.b) e.d
  fc : ∀ e ∈ es, F e.c = none ∧ B.Ha e.c = none ∧ (e.c == sysModules) = false
  hc : ∀ e ∈ es, H e.c = some (DictNO e.c e.L)
  inn : ∀ e ∈ es, DnAll K F e.L e.zs ∧ (e.L.map (·.1)).Nodup ∧ e.L.length ≤ sizeLine
/-- the frame between two turns: nothing of its own but the dicts -/
structure NJ (K : Fg) (B : Bs) (F H : Hp) (σ : St) (ρ : Rho) (ix : Nat) (a : Addr) (es : List NIn) : Prop where
  R : Rs K B F H σ ρ
  no : ρ[ix]? = some .no
  own : ∀ (j : Nat) (s : Sl), ρ[j]? = some s → s.owns = false
  hσ : σ[ix]? = some (some (.ref a))
  N : Nst K B F H a es
/-- cells that nobody of the frame looks at may change -/
theorem Rs.quiet {K : Fg} {B : Bs} {F H H' : Hp} {σ : St} {ρ : Rho} (R : Rs K B F H σ ρ) (own : ∀ (j : Nat) (s : Sl), ρ[j]? = some s → s.owns = false) (D : List Addr) (hD : ∀ b ∈ D, F b = none ∧ B.Ha b = none ∧ (H b = none ∨ ∃ L, H b = some (DictNO b L))) (hk : ∀ b o, b ∉ D → H b = some o → H' b = some o) : Rs K B F H' σ ρ := by
  have nD : ∀ b x, F b = some x → b ∉ D := fun b x e z => by rw [(hD b z).1] at e; cases e
  refine ⟨fun b x e => hk b x (nD b x e) (R.sub b x e), R.ext, R.new, fun b x hb e => hk b x (fun z => by rw [(hD b z).2.1] at e; cases e) (R.old b x hb e), fun r hr => ?_, R.hr2, R.len, fun j t ht => ?_, fun j k c t u hjk h1 h2 o1 o2 e1 e2 => ?_, ⟨R.tb.1, tabs_ext R.tb.2.1 fun b o e te => hk b o (fun z => ?_) e, R.tb.2.2⟩, R.tbh⟩
  · obtain ⟨g1, g2⟩ := R.hrow r hr
    have rD : r ∉ D := fun z => R.hr2 r hr (hD r z).2.1
    exact ⟨g1, g2.mono (Same.refl _) fun o e => hk r o rD e⟩
  · have q := R.at_ j t ht
    have o := own j t ht
    generalize hx : σ[j]? = x at q
    cases q with
    | no => exact .no
    | v d => exact .v d
    | ol => cases o
    | row => cases o
    | od => cases o
  · rw [own j t h1] at o1; cases o1
  · rcases (hD b z).2.2 with q | ⟨L, q⟩
    · rw [q] at e; cases e
    · rw [q] at e; cases e; exact dict_te _ _ te
theorem topL_at {es : List NIn} {nk : NestedKey} : (∀ v, atN (topL es) nk = some v → ∃ e ∈ es, e.k = nk ∧ v = .ref e.c) ∧ (atN (topL es) nk = none → ∀ e ∈ es, e.k ≠ nk) := by
  induction es with
  | nil => exact ⟨fun v h => by simp [atN, topL] at h, fun _ e he => by cases he⟩
  | cons x es ih =>
    unfold atN topL at *
    rw [List.map_cons, List.find?_cons]
    by_cases q : x.k = nk
    · rw [decide_eq_true q]
      exact ⟨fun v h => ⟨x, List.mem_cons_self, q, by cases h; rfl⟩, fun h => by cases h⟩
    · rw [decide_eq_false q]
      refine ⟨fun v h => ?_, fun h e he => ?_⟩
      · obtain ⟨e, he, a, b⟩ := ih.1 v h
        exact ⟨e, List.mem_cons_of_mem _ he, a, b⟩
      · rcases List.mem_cons.mp he with rfl | he
        · exact q
        · exact ih.2 h e he
theorem map_one {α β : Type} (g : α → β) : ∀ {es : List α}, (es.map g).Nodup → ∀ {e f : α}, e ∈ es → f ∈ es → g e = g f → e = f
  | [], _, e, f, h, _, _ => by cases h
  | x :: es, nd, e, f, he, hf, ek => by
    rw [List.map_cons, List.nodup_cons] at nd
    obtain ⟨nd1, nd2⟩ := nd
    rcases List.mem_cons.mp he with h1 | h1
    · rcases List.mem_cons.mp hf with h2 | h2
      · rw [h1, h2]
      · exact absurd (List.mem_map.mpr ⟨f, h2, by rw [← ek, h1]⟩) nd1
    · rcases List.mem_cons.mp hf with h2 | h2
      · exact absurd (List.mem_map.mpr ⟨e, h1, by rw [ek, h2]⟩) nd1
      · exact map_one g nd2 h1 h2 ek
theorem key_one {es : List NIn} (nd : (es.map (·.k)).Nodup) {e f : NIn} (he : e ∈ es) (hf : f ∈ es) (ek : e.k = f.k) : e = f := map_one (·.k) nd he hf ek
theorem look_nzs {nk : NestedKey} : ∀ {es : List NIn}, (∀ e ∈ es, NkD e.k e.d) → (∀ e ∈ es, e.k = nk → (es.map (·.k)).Nodup → lookNX (nzs es) nk = some (ndD e.zs)) ∧ ((∀ e ∈ es, e.k ≠ nk) → lookNX (nzs es) nk = none ∧ nhX (nzs es) nk = false)
  | [], _ => ⟨(fun e h => by cases h), fun _ => ⟨rfl, rfl⟩⟩
  | x :: es, h => by
    have ih := look_nzs (nk := nk) (es := es) fun e he => h e (List.mem_cons_of_mem _ he)
    have hx : nisK nk (.tuple [x.d, ndD x.zs]) = decide (x.k = nk) := nisK_of (h x List.mem_cons_self)
    have e0 : nzs (x :: es) = .tuple [x.d, ndD x.zs] :: nzs es := rfl
    have l0 : lookNX (nzs (x :: es)) nk = if x.k = nk then some (ndD x.zs) else lookNX (nzs es) nk := by
      rw [e0]
      unfold lookNX
      rw [List.find?_cons, hx]
      by_cases q : x.k = nk
      · rw [if_pos q, decide_eq_true q]; rfl
      · rw [if_neg q, decide_eq_false q]
    have n0 : nhX (nzs (x :: es)) nk = (decide (x.k = nk) || nhX (nzs es) nk) := by
      rw [e0]
      unfold nhX
      rw [List.any_cons, hx]
    refine ⟨fun e he ek nd => ?_, fun hn => ?_⟩
    · by_cases q : x.k = nk
      · have : e = x := key_one nd he List.mem_cons_self (ek.trans q.symm)
        rw [l0, if_pos q, this]
      · rw [l0, if_neg q]
        rcases List.mem_cons.mp he with h1 | h1
        · exact absurd (h1 ▸ ek) q
        · rw [List.map_cons, List.nodup_cons] at nd
          exact ih.1 e h1 ek nd.2
    · have q := hn x List.mem_cons_self
      rw [l0, if_neg q, n0, decide_eq_false q, Bool.false_or]
      exact ih.2 fun e he => hn e (List.mem_cons_of_mem _ he)
/-- the entries behind the two puts -/
def upE (nk hk : NestedKey) (bh : Addr) (hd : D) (e : NIn) : NIn := if e.k = nk then { e with L := putN e.L hk bh (.bl true), zs := npX e.zs hk hd (.bool true) } else e
theorem upE_k {nk hk : NestedKey} {bh : Addr} {hd : D} (e : NIn) : (upE nk hk bh hd e).k = e.k ∧ (upE nk hk bh hd e).b = e.b ∧ (upE nk hk bh hd e).c = e.c ∧ (upE nk hk bh hd e).d = e.d := by
  unfold upE; split <;> exact ⟨rfl, rfl, rfl, rfl⟩
theorem NJ.put {K : Fg} {B : Bs} {F H : Hp} {σ : St} {ρ : Rho} {ix kx hx : Nat} {a : Addr} {es : List NIn} {kd hd : D} {nk hk : NestedKey} {ws : List D} {En : Ends} (J : NJ K B F H σ ρ ix a es) (e1 : ρ[kx]? = some (.v kd)) (e2 : ρ[hx]? = some (.v hd)) (e3 : nkeyX kd = some nk) (e4 : nkeyX hd = some hk) (e5 : innX (nzs es) nk = some ws) (hl : es.length < sizeLine) (hw : ws.length < sizeLine)
    (k : ∀ H' es', NJ K B F H' σ ρ ix a es' → nzs es' = npX (nzs es) nk kd (ndD (npX ws hk hd (.bool true))) → En.nx σ H') :
    tSeq (sNPut K (tVar ix) (tVar kx) (tNGet2 K (tVar ix) (tVar kx) tEmptyN)) (sNPut K (tNGet K (tVar ix) (tVar kx)) (tVar hx) (tC (.bl true))) En σ H := by
  obtain ⟨R, no, own, hσ, N⟩ := J
  obtain ⟨ds, rfl, n, h8, pl⟩ := nkeyX_is e3
  obtain ⟨ds2, rfl, n2, h82, pl2⟩ := nkeyX_is e4
  have slot : ∀ {i : Nat} {p : D}, ρ[i]? = some (.v p) → ∃ v, σ[i]? = some (some v) ∧ Dp K F v p := fun {i p} h => by
    have q := R.at_ i _ h
    obtain ⟨o, ho⟩ : ∃ o, σ[i]? = o := ⟨_, rfl⟩
    rw [ho] at q ⊢
    cases q with
    | v d => exact ⟨_, rfl, d⟩
  obtain ⟨vk, hvk, dk⟩ := slot e1
  obtain ⟨vh, hvh, dh⟩ := slot e2
  obtain ⟨bk, _, rfl, _, _⟩ := Dp.inv_tup dk
  obtain ⟨bh, _, rfl, _, _⟩ := Dp.inv_tup dh
  obtain ⟨an, cn⟩ := List.nodup_cons.mp N.cn
  have ents : ∀ {H' : Hp}, Same F H' → EntsOk K H' (topL es) := fun {H'} s p hp => by
    obtain ⟨e, he, rfl⟩ := List.mem_map.mp hp
    obtain ⟨q1, q2, q3, q4⟩ := N.ent e he
    exact ⟨e.d, q1, q2, q3, q4.same s⟩
  refine ⟨.ref a, hσ, a, rfl, N.sm, ⟨_, N.hh⟩, .ref bk, hvk, fun p hp smp => ?_⟩
  have pa : a ≠ p := fun z => by rw [← z, N.hh] at hp; cases hp
  have pF : F p = none := R.sub.free hp
  have pB := (R.fresh hp).1
  have s5 : Same F (upd H p (DictNO p [])) := fun b x e => by
    rw [upd_ne (fun z => by rw [z, pF] at e; cases e)]; exact R.sub b x e
  have h5a : (upd H p (DictNO p [])) a = some (DictNO a (topL es)) := by rw [upd_ne pa]; exact N.hh
  refine ⟨bk, topL es, nk, _, rfl, h5a, ents s5, n, h8, pl, dk.same s5, .ref a, hσ, .ref bk, hvk, a, bk, topL es, nk, _, rfl, rfl, h5a, ents s5, n, h8, pl, dk.same s5, by unfold topL; rw [List.length_map]; omega, ?_⟩
  have s6 : ∀ u, Same F (upd (upd H p (DictNO p [])) a u) := fun u b x e => by
    rw [upd_ne (fun z => by rw [z, N.fa] at e; cases e)]; exact s5 b x e
  have entp : ∀ {H' : Hp} {v : V}, Same F H' → EntsOk K H' (putN (topL es) nk bk v) := fun {H' v} s q hq => by
    unfold putN at hq
    split at hq
    · obtain ⟨q0, hq0, rfl⟩ := List.mem_map.mp hq
      have := ents s q0 hq0
      split <;> exact this
    · rcases List.mem_append.mp hq with hq | hq
      · exact ents s q hq
      · rw [List.mem_singleton.mp hq]; exact ⟨_, n, h8, pl, dk.same s⟩
  have inner : ∀ {H' : Hp} {L : List NEnt} {zs : List D}, Same F H' → DnAll K F L zs → EntsOk K H' L := fun {H' L zs} s d => dnAll_ok s d
  refine ⟨.ref a, hσ, .ref bk, hvk, a, bk, putN (topL es) nk bk _, nk, _, _, rfl, rfl, upd_same, entp (s6 _), n, h8, pl, dk.same (s6 _), atN_put, ?_⟩
  cases hat : atN (topL es) nk with
  | some v =>
    obtain ⟨e0, he0, ek, rfl⟩ := topL_at.1 v hat
    have hlk := (look_nzs (nk := nk) (es := es) fun e he => (N.ent e he).1).1 e0 he0 ek N.kn
    have hws : ws = e0.zs := by
      unfold innX at e5
      rw [hlk] at e5
      exact (Option.some.inj e5).symm
    subst hws
    obtain ⟨dn, ndL, hL⟩ := N.inn e0 he0
    have c0a : e0.c ≠ a := fun z => an (z ▸ List.mem_map.mpr ⟨e0, he0, rfl⟩)
    have c0p : e0.c ≠ p := fun z => by have := N.hc e0 he0; rw [z, hp] at this; cases this
    have hput : putN (topL es) nk bk (.ref e0.c) = topL es := by
      unfold putN
      rw [hat]
      show (topL es).map _ = _
      refine (List.map_congr_left (g := id) fun q hq => ?_).trans (List.map_id _)
      obtain ⟨e, he, rfl⟩ := List.mem_map.mp hq
      by_cases c : e.k = nk
      · have : e = e0 := key_one N.kn he he0 (c.trans ek.symm)
        rw [this]
        show (if e0.k = nk then (e0.k, e0.b, V.ref e0.c) else _) = _
        rw [if_pos ek]; rfl
      · show (if e.k = nk then _ else _) = _
        rw [if_neg c]; rfl
    refine ⟨.ref bh, hvh, e0.c, bh, e0.L, hk, _, rfl, rfl, by show upd _ a _ e0.c = _; rw [upd_ne c0a, upd_ne c0p]; exact N.hc e0 he0, inner (s6 _) dn, n2, h82, pl2, dh.same (s6 _), by omega, ?_⟩
    show En.nx σ (upd (upd (upd H p (DictNO p [])) a (DictNO a (putN (topL es) nk bk (.ref e0.c)))) e0.c (DictNO e0.c (putN e0.L hk bh (.bl true))))
    rw [hput]
    have hmk : (es.map (upE nk hk bh (.tuple ds2))).map (·.k) = es.map (·.k) := by rw [List.map_map]; exact List.map_congr_left fun e _ => (upE_k e).1
    have hmc : (es.map (upE nk hk bh (.tuple ds2))).map (·.c) = es.map (·.c) := by rw [List.map_map]; exact List.map_congr_left fun e _ => (upE_k e).2.2.1
    have hmt : topL (es.map (upE nk hk bh (.tuple ds2))) = topL es := by
      unfold topL
      rw [List.map_map]
      exact List.map_congr_left fun e _ => by
        obtain ⟨q1, q2, q3, _⟩ := upE_k (nk := nk) (hk := hk) (bh := bh) (hd := .tuple ds2) e
        show (_, _, V.ref _) = _
        rw [q1, q2, q3]
    refine k _ (es.map (upE nk hk bh (.tuple ds2))) ⟨R.quiet own [p, a, e0.c] (fun b hb => ?_) (fun b o hb e => ?_), no, own, hσ, ⟨N.sm, N.fa, N.ha, ?_, by rw [hmk]; exact N.kn, by rw [List.length_map]; exact N.len, by rw [hmc]; exact N.cn, fun e he => ?_, fun e he => ?_, fun e he => ?_, fun e he => ?_⟩⟩ ?_
    · simp only [List.mem_cons, List.not_mem_nil, or_false] at hb
      rcases hb with rfl | rfl | rfl
      · exact ⟨pF, pB, .inl hp⟩
      · exact ⟨N.fa, N.ha, .inr ⟨_, N.hh⟩⟩
      · exact ⟨(N.fc e0 he0).1, (N.fc e0 he0).2.1, .inr ⟨_, N.hc e0 he0⟩⟩
    · simp only [List.mem_cons, List.not_mem_nil, or_false, not_or] at hb
      rw [upd_ne hb.2.2, upd_ne hb.2.1, upd_ne hb.1]; exact e
    · rw [hmt, upd_ne (Ne.symm c0a), upd_same]
    · obtain ⟨f, hf, rfl⟩ := List.mem_map.mp he
      obtain ⟨q1, q2, q3, q4⟩ := upE_k (nk := nk) (hk := hk) (bh := bh) (hd := .tuple ds2) f
      rw [q1, q2, q4]; exact N.ent f hf
    · obtain ⟨f, hf, rfl⟩ := List.mem_map.mp he
      rw [(upE_k f).2.2.1]; exact N.fc f hf
    · obtain ⟨f, hf, rfl⟩ := List.mem_map.mp he
      by_cases c : f.k = nk
      · have : f = e0 := key_one N.kn hf he0 (c.trans ek.symm)
        subst this
        unfold upE
        rw [if_pos c]
        exact upd_same
      · have fc : f.c ≠ e0.c := fun z => by
          have : f = e0 := map_one (·.c) cn hf he0 z
          exact c (this ▸ ek)
        have fa : f.c ≠ a := fun z => an (z ▸ List.mem_map.mpr ⟨f, hf, rfl⟩)
        have fp : f.c ≠ p := fun z => by have := N.hc f hf; rw [z, hp] at this; cases this
        unfold upE
        rw [if_neg c, upd_ne fc, upd_ne fa, upd_ne fp]
        exact N.hc f hf
    · obtain ⟨f, hf, rfl⟩ := List.mem_map.mp he
      by_cases c : f.k = nk
      · have : f = e0 := key_one N.kn hf he0 (c.trans ek.symm)
        subst this
        unfold upE
        rw [if_pos c]
        have hz := dnAll_len dn
        have := putN_len (L := f.L) (k := hk) (b := bh) (v := .bl true)
        exact ⟨dnAll_put n2 h82 pl2 dh (.bl true) dn, putN_nodup ndL, by show (putN f.L hk bh (.bl true)).length ≤ _; omega⟩
      · unfold upE
        rw [if_neg c]; exact N.inn f hf
    · have hh : nhX (nzs es) nk = true := by
        unfold nhX
        rw [List.any_eq_true]
        exact ⟨_, List.mem_map.mpr ⟨e0, he0, rfl⟩, by rw [nisK_of (N.ent e0 he0).1, decide_eq_true ek]⟩
      unfold npX
      rw [if_pos hh]
      unfold nzs
      rw [List.map_map, List.map_map]
      refine List.map_congr_left fun e he => ?_
      show _ = if nisK nk (.tuple [e.d, ndD e.zs]) = true then PyData.tuple [e.d, _] else PyData.tuple [e.d, ndD e.zs]
      rw [nisK_of (N.ent e he).1]
      by_cases c : e.k = nk
      · have : e = e0 := key_one N.kn he he0 (c.trans ek.symm)
        subst this
        rw [if_pos (decide_eq_true c)]
        show PyData.tuple [(upE nk hk bh (.tuple ds2) e).d, ndD (upE nk hk bh (.tuple ds2) e).zs] = _
        unfold upE
        rw [if_pos c]
        rfl
      · rw [if_neg (by rw [decide_eq_false c]; simp)]
        show PyData.tuple [(upE nk hk bh (.tuple ds2) e).d, ndD (upE nk hk bh (.tuple ds2) e).zs] = _
        unfold upE
        rw [if_neg c]
  | none =>
    have hno := topL_at.2 hat
    obtain ⟨hlk, hnh⟩ := (look_nzs (nk := nk) (es := es) fun e he => (N.ent e he).1).2 hno
    have hws : ws = [] := by
      unfold innX at e5
      rw [hlk] at e5
      exact (Option.some.inj e5).symm
    subst hws
    have hput : putN (topL es) nk bk (.ref p) = topL es ++ [(nk, bk, .ref p)] := by
      unfold putN
      rw [hat]; rfl
    refine ⟨.ref bh, hvh, p, bh, [], hk, _, rfl, rfl, by show upd _ a _ p = _; rw [upd_ne (Ne.symm pa), upd_same], fun q hq => (by cases hq), n2, h82, pl2, dh.same (s6 _), Nat.zero_le _, ?_⟩
    show En.nx σ (upd (upd (upd H p (DictNO p [])) a (DictNO a (putN (topL es) nk bk (.ref p)))) p (DictNO p (putN [] hk bh (.bl true))))
    rw [hput]
    have pcs : p ∉ es.map (·.c) := fun z => by
      obtain ⟨e, he, hc⟩ := List.mem_map.mp z
      have := N.hc e he
      rw [show e.c = p from hc, hp] at this; cases this
    refine k _ (es ++ [⟨nk, bk, p, putN [] hk bh (.bl true), .tuple ds, npX [] hk (.tuple ds2) (.bool true)⟩]) ⟨R.quiet own [p, a] (fun b hb => ?_) (fun b o hb e => ?_), no, own, hσ, ⟨N.sm, N.fa, N.ha, ?_, ?_, by rw [List.length_append, List.length_singleton]; omega, ?_, fun e he => ?_, fun e he => ?_, fun e he => ?_, fun e he => ?_⟩⟩ ?_
    · simp only [List.mem_cons, List.not_mem_nil, or_false] at hb
      rcases hb with rfl | rfl
      · exact ⟨pF, pB, .inl hp⟩
      · exact ⟨N.fa, N.ha, .inr ⟨_, N.hh⟩⟩
    · simp only [List.mem_cons, List.not_mem_nil, or_false, not_or] at hb
      rw [upd_ne hb.1, upd_ne hb.2, upd_ne hb.1]; exact e
    · rw [upd_ne pa, upd_same]
      unfold topL
      rw [List.map_append]; rfl
    · rw [List.map_append]
      refine List.nodup_append.mpr ⟨N.kn, by simp, fun x hx y hy e => ?_⟩
      obtain ⟨f, hf, rfl⟩ := List.mem_map.mp hx
      exact hno f hf (e.trans (by simpa using hy))
    · rw [List.map_append]
      refine List.nodup_cons.mpr ⟨fun z => ?_, List.nodup_append.mpr ⟨cn, by simp, fun x hx y hy e => ?_⟩⟩
      · rcases List.mem_append.mp z with z | z
        · exact an z
        · exact pa (by simpa using z)
      · have : y = p := by simpa using hy
        exact pcs (this ▸ e ▸ hx)
    · rcases List.mem_append.mp he with he | he
      · exact N.ent e he
      · rw [List.mem_singleton.mp he]; exact ⟨n, h8, pl, dk⟩
    · rcases List.mem_append.mp he with he | he
      · exact N.fc e he
      · rw [List.mem_singleton.mp he]; exact ⟨pF, pB, smp⟩
    · rcases List.mem_append.mp he with he | he
      · have ep : e.c ≠ p := fun z => pcs (z ▸ List.mem_map.mpr ⟨e, he, rfl⟩)
        have ea : e.c ≠ a := fun z => an (z ▸ List.mem_map.mpr ⟨e, he, rfl⟩)
        rw [upd_ne ep, upd_ne ea, upd_ne ep]; exact N.hc e he
      · rw [List.mem_singleton.mp he]; exact upd_same
    · rcases List.mem_append.mp he with he | he
      · exact N.inn e he
      · rw [List.mem_singleton.mp he]
        exact ⟨dnAll_put n2 h82 pl2 dh (.bl true) .nil, putN_nodup (L := []) List.nodup_nil, by
          have := putN_len (L := []) (k := hk) (b := bh) (v := .bl true)
          show (putN [] hk bh (.bl true)).length ≤ _
          rw [sizeLine_eq]
          simp at this
          omega⟩
    · unfold npX
      rw [if_neg (show ¬ nhX (nzs es) nk = true by rw [hnh]; simp)]
      unfold nzs
      rw [List.map_append]
      rfl
section
variable {X : Cx} {tg iter : Expr} {S1 S2 S3 : Stmt} {g : Tg} {is : List Nat} {u : Rho → Option (List D)} {f1 f2 f3 : Rho → Option Fl} {ix kx hx : Nat} {xd xk xh : Str} {j : Nat} {pd1 pk1 ps1 pd pk pe apos cpos pos4 pd2 pk2 ps2 ph2 ps3 pc pos5 pos : Pos}
end
end L2.P

namespace L2.P
open PySem PySem.Spec PyProof.Rows L2
def IndE {α : Type} (i : Nat) (f : Rho → α) : Prop := ∀ ρ s, f (ρ.set i s) = f ρ
def setF (i : Nat) (s : Sl) : Fl → Fl
  | .nx ρ => .nx (ρ.set i s)
  | .rt v => .rt v
  | .bk ρ => .bk (ρ.set i s)
  | .ct ρ => .ct (ρ.set i s)
def IndS (i : Nat) (f : Rho → Option Fl) : Prop := ∀ ρ s, f (ρ.set i s) = (f ρ).map (setF i s)
section
variable {i j : Nat} {A B : Rho → Option D} {C : Rho → Option (List D)} {o : G2} {f g : Rho → Option Fl} {t : Rho → Option Bool} {U V : Rho → Option (List Pv)}
theorem is_set (h : j ≠ i) (ha : IndE i A) : IndS i (sSet j A) := fun ρ s => by
  unfold sSet
  rw [ha ρ s, Option.map_map]
  congr 1
  funext p
  show Fl.nx ((ρ.set i s).set j (.v p)) = Fl.nx ((ρ.set j (.v p)).set i s)
  rw [List.set_comm _ _ (Ne.symm h)]
end
end L2.P

namespace L2.P
open PySem PySem.Spec PyProof.Rows L2 LamX
end L2.P

namespace L2.P
open PySem PySem.Spec PyProof.Rows L2
section
variable {K : Fg}
theorem codeIn_z (cd : Value) (q : Str) : PySem.W.codeIn (Kz K) cd q = PySem.W.codeIn K cd q := by
  unfold PySem.W.codeIn
  cases cd <;> simp only [Kz_look]
theorem nsIn_z (a : Addr) (x : Str) : PySem.W.nsIn (Kz K) a x = PySem.W.nsIn K a x := by
  unfold PySem.W.nsIn
  rw [Kz_look]
theorem _root_.L2.FunD.z {x qual : Str} {params : Arguments} {body : List Stmt} {scope : Scope} {dvs : List V} {kws : List (Str × V)} {f : Addr} {fd : FuncData} (F : FunD K x qual params body scope dvs kws f fd) : FunD (Kz K) x qual params body scope dvs kws f fd := by
  obtain ⟨⟨oc, od, dV, kV, doc, pm, an, cdv, ct, osl, h1, lk, h2, h3, h4⟩, kp⟩ := F
  refine ⟨⟨oc, od, dV, kV, doc, pm, an, cdv, ct, osl, h1, by rw [Kz_look]; exact lk, by rw [codeIn_z]; exact h2, ?_, ?_⟩, ?_⟩
  · rcases h3 with h3 | ⟨ne, T, o, its, n, e, l, r⟩
    · exact .inl h3
    · exact .inr ⟨ne, T, o, its, n, e, by rw [Kz_look]; exact l, r⟩
  · rcases h4 with h4 | ⟨D, e, h⟩
    · exact .inl h4
    · exact .inr ⟨D, e, fun q hq => by rw [nsIn_z]; exact h q hq⟩
  · unfold PySem.W.keepIn at kp ⊢
    simp only [Kz_look, lk]
theorem _root_.L2.FnOk.z {P : Program} {w : World} {mg : Str → Option Value} {base : Heap} {CX : CXT} {k : Nat} {f : Addr} {fd : FuncData} {ps : List Str} {sp : Sp} (F : FnOk P w (Kz K) mg base CX k f fd ps sp) : FnOk P w K mg base CX k f fd ps sp :=
  ⟨F.len, fun A outer s H args us vs Q E hr he hb hv hs => F.run A outer s H args us vs Q E hr ⟨he.frames, ⟨fun a o e => he.mod.kin a o (by rw [← Kz_look]; exact e), he.mod.glob, he.mod.blt, he.mod.nolimit⟩, he.bs, he.bsz, he.funs, he.frf, he.hok, he.bare⟩ hb hv hs⟩
theorem cdOf_z (x : Str) : cdOf (Kz K) x = cdOf K x := by
  unfold cdOf
  simp only [nsIn_z, Kz_look]
theorem tbT_z : tbT (Kz K) = tbT K := by
  unfold tbT
  congr 1
  funext x
  unfold tbOf
  rw [cdOf_z]
  simp only [Kz_look]
theorem TbOk.z {F H : Hp} (h : TbOk K F H) : TbOk (Kz K) F H := by
  unfold TbOk at h ⊢
  rw [tbT_z]
  exact h
theorem sqL_z {H : Hp} {a : Addr} {xs : List V} (h : SqL K H a xs) : SqL (Kz K) H a xs := by
  rcases h with h | ⟨o, its, n, h1, h2⟩
  · exact .inl h
  · exact .inr ⟨o, its, n, by rw [Kz_look]; exact h1, h2⟩
end
def kOf : D → Option (List Int)
  | .dict [(.none, .int 0), (.none, .tuple ps)] => intsD ps
  | _ => none
theorem kOf_kD (ns : List Int) : kOf (kD ns) = some ns := by
  show intsD (ns.map .int) = _
  exact intsD_map ns
theorem kOf_some {p : D} {ns : List Int} (h : kOf p = some ns) : p = kD ns := by
  unfold kOf at h
  split at h
  · rw [intsD_some h]; rfl
  · cases h
theorem Dp.inv_k {K : Fg} {F : Hp} {v : V} {ns : List Int} (h : Dp K F v (kD ns)) : ∃ a o, v = .ref a ∧ F a = some (.frz o (.tup (ns.map V.int))) ∧ o.dict = none := by
  unfold kD at h
  generalize hp : PyData.dict [(.none, .int 0), (.none, .tuple (ns.map .int))] = p at h
  cases h with
  | kt s d =>
    unfold kD at hp
    have e := (PyData.tuple.inj (Prod.mk.inj (List.cons.inj (List.cons.inj (PyData.dict.inj hp)).2).1).2)
    rw [List.map_inj_right (fun x y z => PyData.int.inj z)] at e
    subst e
    exact ⟨_, _, rfl, s, d⟩
  | dk s r =>
    cases hp
    cases r
  | dt s r =>
    cases hp
    cases r
  | q a b c d f => cases hp
  | fn h r => cases hp
  | nd m s r => cases hp
  | _ => cases hp
/-- as a plain tuple -/
def fgt (p : D) : D := match kOf p with
  | some ns => .tuple (ns.map .int)
  | none => p
theorem fgt_k (ns : List Int) : fgt (kD ns) = tR ns := by unfold fgt; rw [kOf_kD]
theorem Dp.fgt {K : Fg} {F : Hp} {v : V} {p : D} (l : lenK K) (h : Dp K F v p) : Dp K F v (fgt p) := by
  unfold L2.P.fgt
  cases e : kOf p with
  | none => exact h
  | some ns =>
    rw [kOf_some e] at h
    obtain ⟨a, o, rfl, s, _⟩ := Dp.inv_k h
    exact .tupZ l s (dpAll_of_ints ns)
section
variable {X : Cx} {e a b : Expr} {es : List Expr} {pos p : Pos} {f g : Rho → Option D}
end
end L2.P

namespace L2.P
open PySem PySem.Spec PyProof.Rows L2
theorem fgt_n {p : D} (h : kOf p = none) : fgt p = p := by unfold fgt; rw [h]
section
variable {X : Cx} {a b e : Expr} {es : List Expr} {p pos : Pos}
end
mutual
/-- no dict in it, nothing known -/
def kf : D → Bool
  | .list xs => kfAll xs
  | .tuple xs => kfAll xs
  | .dict _ => false
  | _ => true
def kfAll : List D → Bool
  | [] => true
  | p :: ps => kf p && kfAll ps
end
mutual
theorem Dp.z {K : Fg} {F : Hp} : ∀ {v : V} {p : D}, Dp K F v p → kf p = true → Dp (Kz K) F v p
  | _, _, .non, _ => .non
  | _, _, .bl b, _ => .bl b
  | _, _, .int i, _ => .int i
  | _, _, .str i, _ => .str i
  | _, _, .tup s r, h => .tup s (DpAll.z r (by simpa [kf] using h))
  | _, _, .tupK a b c d f g r, h => .tupK (by rw [Kz_look]; exact a) b c d f g (DpAll.z r (by simpa [kf] using h))
  | _, _, .tupZ l s r, h => by
    obtain ⟨p, l', rfl⟩ := l
    exact .tupZ ⟨p, _, rfl⟩ s (DpAll.z r (by simpa [kf] using h))
  | _, _, .kt _ _, h => by simp [kD, kf] at h
  | _, _, .adr _, h => by simp [adrD, kf] at h
  | _, _, .exc _ _, h => by simp [excD, kf] at h
  | _, _, .lst s r, h => .lst (sqL_z s) (DpAll.z r (by simpa [kf] using h))
  | _, _, .dk s r, h => by simp [kf] at h
  | _, _, .dt s r, h => by simp [kf] at h
  | _, _, .q a b c d f, h => by simp [rqD, kf] at h
  | _, _, .fn _ _, h => by simp [fnD, kf] at h
  | _, _, .nd _ _ _, h => by simp [kf] at h
theorem DpAll.z {K : Fg} {F : Hp} : ∀ {vs : List V} {ps : List D}, DpAll K F vs ps → kfAll ps = true → DpAll (Kz K) F vs ps
  | _, _, .nil, _ => .nil
  | _, _, .cons a b, h => by
    rw [kfAll, Bool.and_eq_true] at h
    exact .cons (Dp.z a h.1) (DpAll.z b h.2)
end
def okKz (p : D) : Bool := (kOf p).isSome || kf p
theorem dp_zk {K : Fg} {F : Hp} {v : V} {p : D} (ne : K ≠ []) (h : Dp K F v p) (hk : okKz p = true) : Dp (Kz K) F v (fgt p) := by
  cases e : kOf p with
  | some ns =>
    rw [kOf_some e] at h ⊢
    obtain ⟨a, o, rfl, s, _⟩ := Dp.inv_k h
    rw [fgt_k]
    exact .tupZ (Kz_len ne) s (dpAll_of_ints ns)
  | none =>
    unfold okKz at hk
    rw [e] at hk
    rw [fgt_n e]
    exact h.z (by simpa using hk)
theorem dpAll_zk {K : Fg} {F : Hp} (ne : K ≠ []) : ∀ {vs : List V} {ps : List D}, DpAll K F vs ps → ps.all okKz = true → DpAll (Kz K) F vs (ps.map fgt)
  | _, _, .nil, _ => .nil
  | _, _, .cons a b, h => by
    rw [List.all_cons, Bool.and_eq_true] at h
    exact .cons (dp_zk ne a h.1) (dpAll_zk ne b h.2)
def gKz (g : GA) : GA := fun ps => if ps.all okKz = true then match g (ps.map fgt) with
  | some (.bool b) => some (.bool b)
  | some .none => some .none
  | _ => none
  else none
theorem SameX.uz {K : Fg} {r : Option Addr} {H H' : Hp} (h : SameX (Kz K) r H H') : SameX K r H H' := by
  unfold SameX Ex at h ⊢
  rw [tbT_z] at h
  exact h
theorem TbOk.uz {K : Fg} {F H : Hp} (h : TbOk (Kz K) F H) : TbOk K F H := by
  unfold TbOk at h ⊢
  rw [tbT_z] at h
  exact h
theorem DG.kz {P : Program} {w : World} {K : Fg} {mg : Str → Option Value} {base : Heap} {x : Str} {k n : Nat} {g g0 : GA} {k0 n0 : Nat} (ne : K ≠ []) (c0 : DG P w K mg base x k0 n0 g0) (h : DG P w (Kz K) mg base x k n g) : DG P w K mg base x k n (gKz g) := by
  obtain ⟨f, fd, ps, F, m, _, b⟩ := h
  have kp : PySem.W.keepIn K (.ref f) = true := by
    obtain ⟨f', _, _, _, m', kp, _⟩ := c0
    rw [m] at m'
    cases m'
    exact kp
  refine ⟨f, fd, ps, FnOk.imp F.z fun vs H Q E ⟨h0, F, ds, s, tb, d, z, e, q⟩ => ?_, m, kp, ?_⟩
  · unfold gKz at e
    split at e
    · rename_i hk
      split at e
      · rename_i b' e1
        cases e
        exact ⟨h0, F, ds.map fgt, s, tb.z, dpAll_zk ne d hk, _, e1, fun F' H' v s1 sX s2 tb' fr d' => q F' H' v s1 sX.uz s2 tb'.uz fr (by rw [Dp.inv_bl d']; exact .bl _)⟩
      · rename_i e1
        cases e
        exact ⟨h0, F, ds.map fgt, s, tb.z, dpAll_zk ne d hk, _, e1, fun F' H' v s1 sX s2 tb' fr d' => q F' H' v s1 sX.uz s2 tb'.uz fr (by rw [Dp.inv_non d']; exact .non)⟩
      · cases e
    · cases e
  · exact fun s us kin hl => b s us (fun a o e => kin a o (by rw [← Kz_look]; exact e)) hl
/-- the base of the frame that the top calls: nothing known -/
structure BV (X : Cx) (B : Bs) : Prop where
  ha : B.Ha = X.H_0
  nf : ∀ b o xs, B.Fa b ≠ some (.frz o (.tup xs))
  nr : B.r = none
def endV (X : Cx) (En : Ends) : Fl → Prop
  | .nx ρ' => ∀ B F' H' σ', BV X B → Rs X.K B F' H' σ' ρ' → En.nx σ' H'
  | .rt p => ∀ F' H' v, Dp X.K F' v p → En.rt v H'
  | .bk ρ' => ∀ B F' H' σ', BV X B → Rs X.K B F' H' σ' ρ' → En.bk σ' H'
  | .ct ρ' => ∀ B F' H' σ', BV X B → Rs X.K B F' H' σ' ρ' → En.ct σ' H'
theorem endV.ok {X : Cx} {En : Ends} {B : Bs} {F : Hp} (bv : BV X B) : ∀ {fl : Fl}, endV X En fl → endOk X.K B F En fl
  | .nx _, h => fun F' H' σ' R' _ => h B F' H' σ' bv R'
  | .rt _, h => fun F' H' v _ _ d => h F' H' v d
  | .bk _, h => fun F' H' σ' R' _ => h B F' H' σ' bv R'
  | .ct _, h => fun F' H' σ' R' _ => h B F' H' σ' bv R'
section
variable {X : Cx} {st : Stmt} {rest : List Stmt} {pos : Pos}
end
section
variable {P : Program} {w : World} {K : Fg} {mg : Str → Option Value} {base : Heap} {x qual : Str} {params : Arguments} {body : List Stmt} {scope : Scope} {f : Addr} {fd : FuncData} {N ps : List Str} {k : Nat}
end
end L2.P

namespace L2.P
open PySem PySem.Spec PyProof.Rows L2
section
variable {X : Cx} {a : Expr} {p pos : Pos}
end
end L2.P

namespace L2.XI
open PySem PySem.Spec PySem.Calls PyProof.Rows L2
open PySem.W (kxs_mw KxsAt)
section
variable {prog : Program} {w : World} {A : Around} {E : Value → Shared → Prop} {h : Heap} {g : Array GenState} {d : Drawn} {t : Nat} {os : OsState}
variable {nm q : Str} {C N : Addr} {bs bm : List Value} {hdct : Bool} {sn : List Str} {sub : List Value} {ab : Bool} {col : Option Bool} {dd : Option Addr} {k0 k1 k2 k3 k5 : Option Value}
/-- the bound ValueError.__init__, called -/
theorem call_mw {u e t0 : Addr} {rest : List Value} {Q : Value → Shared → Prop}
    (hC : h.get? C = some (excClassObj nm q C N bs bm hdct sn sub ab col dd k0 k1 k2 k3 k5 "ValueError.__new__")) (he : h.get? e = some (HandSPX.excO C t0)) (hu : h.get? u = some (kxs_mw "ValueError.__init__" e)) (hrest : rest.length ≤ sizeLine)
    (hq : ∀ h' t1, (∀ b o, b ≠ e → h.get? b = some o → h'.get? b = some o) → h'.get? e = some (HandSPX.excO C t1) → Q .none ⟨h', g, d, t, os⟩) :
    wpAny (model prog w) A (call (.ref u) rest) Q E ⟨h, g, d, t, os⟩ := by
  refine wpAny_call (codeAny_of_tree ?_)
  show wpAny _ A.in1 (callAny (.ref u) ⟨rest, []⟩) _ _ _
  simp only [callAny]
  refine wpAny_bind (wpAny_load hu ?_)
  simp only [kxs_mw, show (Value.type "method-wrapper" == Value.type "method" || Value.type "method-wrapper" == Value.type "builtin_function_or_method" || Value.type "method-wrapper" == Value.type "method-wrapper") = true by decide, if_true]
  refine W.KFB.if_so (by decide) ?_
  refine wpAny_bind (PySem.W.check_bound_init F.excBase_ValueError.toExcCallFacts hC he rfl ?_)
  refine wpAny_bind (wpAny_pure (wpAny_pure ?_))
  refine ⟨Code.quiet_builtin _ (by decide +kernel), codeAny_builtin F.excBase_ValueError.initEntry ?_⟩
  rw [Around.under_plainId F.excBase_ValueError.init.plain _]
  exact PySem.W.exc_init_tree he hrest fun h' k e1 _ => hq h' _ k e1
end
/-- the words of such an __init__ at fI, its class at C -/
structure InI (K : PySem.W.Frag) (P : Program) (C fI : Addr) (q : Str) (params : Arguments) (body : List Stmt) (scope : Scope) (cc cda : Addr) : Prop where
  lk : ∃ oc od doc pm an ct osl, K.lookup fI = some ⟨oc, od, .func (PySem.W.ksFn "__init__" q params body scope .none .none doc pm an (.ref cda) ct cc), osl⟩
  cd : PySem.W.codeIn K (.ref cda) q = true
  file : ∃ ccl cdd vs ccs file tf, K.lookup cda = some ⟨ccl, cdd, .fields vs, ccs⟩ ∧ vs[2]? = some (.str file tf) ∧ ((P.main.file : Str) == file) = true
  cell : ∃ cl cld csl, K.lookup cc = some ⟨cl, cld, .cell (some (.ref C)), csl⟩
  cls : PySem.W.excInitIn K C He.veBase "ValueError.__new__" = true
  own : ∃ cd, PySem.W.clsIn K C = some cd ∧ HandSPX.refsVE cd.mro = true ∧ cd.hasDict = true
  sa : PySem.W.findIn K (.ref C) "__setattr__" = some (some (.builtin "object.__setattr__"))
  sup : PySem.W.ks_superIn K C C "__init__" = some (some (.builtin "ValueError.__init__"))
  mro : PySem.W.mroIn K C (.ref C) = some true
  ve : PySem.W.subIn K (.ref C) (.type "ValueError") = some true
  opq : PySem.W.nsIn K cStatics "thirdparty.any" = some none
  top : (P.main.scope.names.lookup ("super" : Str)).isSome = false
  iC : PySem.W.findIn K (.ref C) "__init__" = some (some (.ref fI))
  tI : PySem.W.typeIn K (.ref fI) = some (.type "function")
  exC : PySem.W.subIn K (.ref C) (.type "BaseException") = some true
  tyC : PySem.W.typeIn K (.ref C) = some (.type "type")
  kC : PySem.W.keepIn K (.ref C) = true
/-- its scope -/
structure InS (ps : List Str) (params : Arguments) (scope : Scope) : Prop where
  nS : scope.names.lookup ("super" : Str) = some .globalImplicit
  nC : scope.names.lookup ("__class__" : Str) = some .free
  nP : ∀ x ∈ ("self" : Str) :: ps, scope.names.lookup x = some .local
  nd : (("self" : Str) :: ps).Nodup
  hcell : ∀ x ∈ scope.names, x.2 ≠ .cell
  co : scope.isCoroutine = false
  gen : scope.isGenerator = false
  kd : scope.kind = .function
  hp : ∃ ar, (params.posonlyargs ++ params.args).head? = some ar ∧ ar.arg = "self"
  ndb : ∀ x ∈ ("self" : Str) :: ps, (x == ("__debug__" : Str)) = false
section
variable {prog : Program} {w : World} {K : PySem.W.Frag} {A A' : Around} {E : Value → Shared → Prop} {s : Shared} {mg mb : Str → Option Value} {C fI cc cda : Addr} {q : Str} {params : Arguments} {body : List Stmt} {scope : Scope} {ps : List Str}
abbrev enI (q : Str) (scope : Scope) (L fI cda cc : Addr) : Env := PySem.W.ksEnv q scope L fI (.ref cda) cc
theorem ldI {x : Str} {L : Addr} {m : Str → Option Value} {pos : Pos} {v : Value} {Q : Value → Shared → Prop} (S : InS ps params scope) (hx : x ∈ ("self" : Str) :: ps) (hn : s.heap.Ns L m) (hv : m x = some v) (h : Q v s) :
    wpAny (model prog w) A (eval (.Name x pos) (enI q scope L fI cda cc)) Q E s := wpAny_Name (wpAny_loadName_local S.kd (S.nP x hx) hn hv h) (S.ndb x hx)
/-- how the call is read -/
def HasM (q : Str) (scope : Scope) (L fI cda cc : Addr) (args : List Expr) (p0 p1 p2 p3 : Pos) : Prop := ∃ pl : Sem Bool, eval (.Call (.Attribute (.Call (.Name "super" p0) [] [] p1) "__init__" p2) args [] p3) (enI q scope L fI cda cc) = (do
      let ov ← attributeBase (.Call (.Name "super" p0) [] [] p1) "__init__" (enI q scope L fI cda cc) (eval (.Call (.Name "super" p0) [] [] p1) (enI q scope L fI cda cc))
      standAt p2.atName
      let (f, first) ← holding [ov] (getMethod ov "__init__" pl)
      callWith p3 f first (backTo p3 (starEach args (enI q scope L fI cda cc))) [])
theorem inter_no {L : Addr} (S : InS ps params scope) : interactive (enI q scope L fI cda cc) = false := by
  unfold interactive
  simp [S.kd]
/-- super().__init__(..) within it -/
theorem super_st (I : InI K prog C fI q params body scope cc cda) (S : InS ps params scope) {hp : Heap} {g : Array GenState} {d : Drawn} {t : Nat} {os : OsState} (X : K.In hp) (G : hp.Ns mainGlobals mg) (mS : mg ("super" : Str) = none) (Bl : hp.Ns builtinsNs mb) (bS : mb ("super" : Str) = some (.type "super"))
    {L e t0 : Addr} {m : Str → Option Value} (hL : hp.Ns L m) (Le : L ≠ e) (mv : m ("self" : Str) = some (.ref e)) (he : hp.get? e = some (HandSPX.excO C t0)) {args : List Expr} {us : List Value} {p0 p1 p2 p3 p4 : Pos} {Q : Flow → Shared → Prop} (hl : us.length ≤ sizeLine)
    (hpl : (backTo p3 (starEach args (enI q scope L fI cda cc))).any (·.1) = false)
    (ha : ∀ (f : Value) (s : Shared) (Q : Args → Shared → Prop), s.heap.Ns L m → Q ⟨us, []⟩ s → wpAny (model prog w) A (evalArgs f true (backTo p3 (starEach args (enI q scope L fI cda cc))) []) Q E s)
    (hm : HasM q scope L fI cda cc args p0 p1 p2 p3)
    (hi : interactive (enI q scope L fI cda cc) = false) (hsw : swapsWith (.Call (.Attribute (.Call (.Name "super" p0) [] [] p1) "__init__" p2) args [] p3) none p4.line (enI q scope L fI cda cc) = pure false)
    (hq : ∀ h' t' t1, (∀ b o, b ≠ e → hp.get? b = some o → h'.get? b = some o) → h'.get? e = some (HandSPX.excO C t1) → Q .next ⟨h', g, d, t', os⟩) :
    _root_.PySem.wpAt (model prog w) A (.func body (enI q scope L fI cda cc)) (exec (.Expr (.Call (.Attribute (.Call (.Name "super" p0) [] [] p1) "__init__" p2) args [] p3) p4) (enI q scope L fI cda cc)) Q E ⟨hp, g, d, t, os⟩ := by
  obtain ⟨oc, od, doc, pm, an, ct, osl, lk⟩ := I.lk
  obtain ⟨ccl, cdd, vs, ccs, file, tf, hcode, hvs, hfile⟩ := I.file
  obtain ⟨cl, cld, csl, hcell⟩ := I.cell
  obtain ⟨cd, hcd, hmro, hdct⟩ := I.own
  obtain ⟨ar, hpa, har⟩ := S.hp
  obtain ⟨pl, hm⟩ := hm
  obtain ⟨nm, N', qn, bs, bm, hdt, sn, sub, ab, col, dd, k0, k1, k2, k3, k5, hC, hT⟩ := PySem.W.excInit_of X I.cls
  obtain ⟨oD, hD1, hD2⟩ : ∃ oD, hp.get? C = some oD ∧ oD.data = .cls cd := by
    unfold PySem.W.clsIn at hcd
    split at hcd
    · rename_i c d cd' sl ho
      cases hcd
      exact ⟨_, X _ _ ho, rfl⟩
    · cases hcd
  have eC : e ≠ C := fun z => by
    rw [z, hC] at he
    cases he
  have hI : PySem.W.Looks (model prog w) hp (isInstance (.ref e) (.type "ValueError")) true :=
    (show PySem.W.InstAt hp e (HandSPX.excO C t0) C none from ⟨he, rfl, rfl, trivial⟩).type.andThen (PySem.W.looks_subIn X I.ve)
  refine ks_wpAt_Expr_any (ks_wpAt_MethodCall (pl := pl) (ks_wpAt_super_base (ar := ar) S.nS S.nC (by decide) rfl (X _ _ lk) rfl hpa rfl (X _ _ hcode) rfl hvs hfile I.top ?_) hm) hi hsw
  refine PySem.W.ks_loadName_global S.kd S.nS (loadGlobal_builtin (env := enI q scope L fI cda cc) G mS Bl bS ⟨rfl, ?_⟩)
  refine wpAny_loadName_free S.kd S.nC rfl ⟨_, X _ _ hcell, rfl⟩ ?_
  rw [har]
  refine wpAny_loadName_local S.kd (S.nP _ List.mem_cons_self) hL mv ?_
  refine ks_wpAny_isType_cls hD1 hD2 ⟨rfl, ?_⟩
  refine ks_wpAny_call_super hD1 hD2 he rfl (fun c z => by cases z) (PySem.W.looks_mroIn X I.mro) (fun h1 e1 k1 => ?_)
  have X1 : K.In h1 := X.keeps k1
  have sp := I.sup
  unfold PySem.W.ks_superIn at sp
  rw [hcd] at sp
  refine PySem.W.kxs_getMethod PySem.W.kxs_ValueError e1 (PySem.W.looks_opaque X1 I.opq) (l₀ := cd.mro) (fun A Q E s k q => wpAny_bind ((PySem.W.looks_clsIn X1 hcd) A _ E s k (wpAny_pure q))) rfl X1 sp (hI.keeps k1) eC (by decide) ?_
  have k2 : ∀ b o, hp.get? b = some o → (h1.push (kxs_mw "ValueError.__init__" e)).get? b = some o := fun b o z => Heap.get?_push_of_some _ (k1 b o z)
  refine PySem.W.kxs_callWith (i := "ValueError.__init__") (x := e) hpl (ha _ _ _ (hL.keeps k2) ⟨Heap.get?_push_at rfl rfl, ?_⟩)
  refine call_mw (k2 _ _ hC) (k2 _ _ he) (Heap.get?_push_at rfl rfl) hl fun h' t1 k3 e3 => ?_
  exact hq h' _ t1 (fun b o nb z => k3 b o nb (k2 b o z)) e3
/-- self.f = f, the first field -/
theorem asg_new (I : InI K prog C fI q params body scope cc cda) (S : InS ps params scope) {f : Str} {hp : Heap} {g : Array GenState} {d : Drawn} {t : Nat} {os : OsState} (X : K.In hp) (hno : PySem.W.findIn K (.ref C) f = some none) (hf : f ∈ ps)
    {L e t0 : Addr} {m : Str → Option Value} {u : Value} (hL : hp.Ns L m) (mv : m ("self" : Str) = some (.ref e)) (mf : m f = some u) (he : hp.get? e = some (HandSPX.excO C t0)) {p0 p1 p2 p3 : Pos} {Q : Flow → Shared → Prop}
    (hsw : swapsWith (.Name f p2) (some (.Attribute (.Name "self" p0) f p1)) p3.line (enI q scope L fI cda cc) = pure false)
    (hq : ∀ h' t' dx, (∀ b o, b ≠ e → hp.get? b = some o → h'.get? b = some o) → hp.objs.size ≤ dx → dx ≠ e → h'.get? e = some { cls := .ref C, dict := some dx, data := .fields #[.ref t0, .none, .none, .none, .bool false, .none] } →
      h'.Ns1 dx (fun y => if y = f then some u else none) → Q .next ⟨h', g, d, t', os⟩) :
    _root_.PySem.wpAt (model prog w) A (.func body (enI q scope L fI cda cc)) (exec (.Assign [.Attribute (.Name "self" p0) f p1] (.Name f p2) p3) (enI q scope L fI cda cc)) Q E ⟨hp, g, d, t, os⟩ := by
  obtain ⟨cd, hcd, hmro, hdct⟩ := I.own
  refine ks_wpAt_Assign_Attr (wpAt_of_wpAny (ldI S (List.mem_cons_of_mem _ hf) hL mf ?_)) hsw
  refine ldI S List.mem_cons_self hL mv ?_
  refine PySem.W.set_plain X (ox := HandSPX.excO C t0) (od := none) ⟨he, rfl, rfl, trivial⟩ I.sa ?_
  exact HandSPX.exc_osa X he hcd hmro hdct hno fun h' tk' dx k dn dne hx hn => hq h' tk' dx k dn dne hx hn
/-- self.f = f, a further field -/
theorem asg_old (I : InI K prog C fI q params body scope cc cda) (S : InS ps params scope) {f : Str} {hp : Heap} {g : Array GenState} {d : Drawn} {t : Nat} {os : OsState} (X : K.In hp) (hno : PySem.W.findIn K (.ref C) f = some none) (hf : f ∈ ps)
    {L e t0 dx : Addr} {m m0 : Str → Option Value} {nl : List Str} {u : Value} (hL : hp.Ns L m) (mv : m ("self" : Str) = some (.ref e)) (mf : m f = some u) (he : hp.get? e = some { cls := .ref C, dict := some dx, data := .fields #[.ref t0, .none, .none, .none, .bool false, .none] })
    (hns : hp.Ns1 dx m0) (hw : Within m0 nl) (hz : nl.length ≤ 1000) {p0 p1 p2 p3 : Pos} {Q : Flow → Shared → Prop}
    (hsw : swapsWith (.Name f p2) (some (.Attribute (.Name "self" p0) f p1)) p3.line (enI q scope L fI cda cc) = pure false)
    (hq : ∀ h' t', (∀ b o, b ≠ dx → hp.get? b = some o → h'.get? b = some o) → h'.Ns1 dx (fun y => if y = f then some u else m0 y) → Q .next ⟨h', g, d, t', os⟩) :
    _root_.PySem.wpAt (model prog w) A (.func body (enI q scope L fI cda cc)) (exec (.Assign [.Attribute (.Name "self" p0) f p1] (.Name f p2) p3) (enI q scope L fI cda cc)) Q E ⟨hp, g, d, t, os⟩ := by
  obtain ⟨cd, hcd, hmro, hdct⟩ := I.own
  obtain ⟨oD, esD, epD, hoD, hdD, _⟩ := hns.count hw
  refine ks_wpAt_Assign_Attr (wpAt_of_wpAny (ldI S (List.mem_cons_of_mem _ hf) hL mf ?_)) hsw
  refine ldI S List.mem_cons_self hL mv ?_
  refine PySem.W.set_plain X (ox := { cls := .ref C, dict := some dx, data := .fields #[.ref t0, .none, .none, .none, .bool false, .none] }) (od := some oD) ⟨he, rfl, rfl, hoD⟩ I.sa ?_
  exact PySem.OEX.osa_old X he hns hw hz hcd hmro hdct hno fun h' tk' k hn => hq h' tk' k hn

def bodyI1 (f : Str) (p0 p1 p2 p3 p4 pa q0 q1 q2 q3 : Pos) : List Stmt :=
  [.Expr (.Call (.Attribute (.Call (.Name "super" p0) [] [] p1) "__init__" p2) [.Name f pa] [] p3) p4, .Assign [.Attribute (.Name "self" q0) f q1] (.Name f q2) q3]
def bodyI2 (f f2 : Str) (p0 p1 p2 p3 p4 pa pb q0 q1 q2 q3 r0 r1 r2 r3 : Pos) : List Stmt :=
  [.Expr (.Call (.Attribute (.Call (.Name "super" p0) [] [] p1) "__init__" p2) [.Name f pa, .Name f2 pb] [] p3) p4, .Assign [.Attribute (.Name "self" q0) f q1] (.Name f q2) q3, .Assign [.Attribute (.Name "self" r0) f2 r1] (.Name f2 r2) r3]
variable {R : Result → Shared → Prop}
/-- the __init__ with one field, called -/
theorem code_one {f : Str} {p0 p1 p2 p3 p4 pa q0 q1 q2 q3 : Pos} (I : InI K prog C fI q params (bodyI1 f p0 p1 p2 p3 p4 pa q0 q1 q2 q3) scope cc cda) (S : InS [f] params scope) (hno : PySem.W.findIn K (.ref C) f = some none) (hM : ∀ L, HasM q scope L fI cda cc [.Name f pa] p0 p1 p2 p3)
    (hb : ∀ (doc pm ct : Value) (an : Option Addr) (a u : Value), bindArgs (PySem.W.ksFn "__init__" q params (bodyI1 f p0 p1 p2 p3 p4 pa q0 q1 q2 q3) scope .none .none doc pm an (.ref cda) ct cc) ⟨[a, u], []⟩ = pure [(("self" : Str), a), (f, u)])
    {hp : Heap} {g : Array GenState} {d : Drawn} {t : Nat} {os : OsState} (X : K.In hp) {e t0 : Addr} (Xe : ∀ b o, K.lookup b = some o → b ≠ e) (lim : hp.NoLimit) (G : hp.Ns mainGlobals mg) (mS : mg ("super" : Str) = none) (Bl : hp.Ns builtinsNs mb) (bS : mb ("super" : Str) = some (.type "super"))
    (hroom : A.depth < recursionLimit) {u : Value} (he : hp.get? e = some (HandSPX.excO C t0))
    (hq : ∀ h' t' dx t1, (∀ b o, b ≠ e → hp.get? b = some o → h'.get? b = some o) → hp.get? dx = none → dx ≠ e → h'.get? e = some { cls := .ref C, dict := some dx, data := .fields #[.ref t1, .none, .none, .none, .bool false, .none] } →
      h'.Ns1 dx (fun y => if y = f then some u else none) → R (.ok (.ret .none)) ⟨h', g, d, t', os⟩) :
    codeAny (model prog w) A (.call (.ref fI) ⟨[.ref e, u], []⟩) R ⟨hp, g, d, t, os⟩ := by
  obtain ⟨oc, od, doc, pm, an, ct, osl, lk⟩ := I.lk
  have nf : ¬ (f = ("self" : Str)) := fun z => by
    have := S.nd
    rw [z] at this
    simp at this
  have Le : hp.objs.size ≠ e := Nat.ne_of_gt (Heap.lt_size he)
  refine ks_codeAny_call_defAt (fd := PySem.W.ksFn "__init__" q params (bodyI1 f p0 p1 p2 p3 p4 pa q0 q1 q2 q3) scope .none .none doc pm an (.ref cda) ct cc) (body := bodyI1 f p0 p1 p2 p3 p4 pa q0 q1 q2 q3) (binds := [(("self" : Str), .ref e), (f, u)]) hroom (X _ _ lk) rfl lim (PySem.W.codeRec_of X I.cd) rfl
    (BindsTo.of_eq (hb _ _ _ _ _ _)) S.hcell (fun y hy => ?_) (fun h0 hns hk => ?_) S.co S.gen S.kd
  · rcases List.mem_cons.mp hy with rfl | hy
    · exact S.nP _ List.mem_cons_self
    · obtain rfl : y = (f, u) := by simpa using hy
      exact S.nP _ (List.mem_cons_of_mem _ List.mem_cons_self)
  show _root_.PySem.wpAt (model prog w) _ (.func _ (enI q scope hp.objs.size fI cda cc)) (execs (bodyI1 f p0 p1 p2 p3 p4 pa q0 q1 q2 q3) (enI q scope hp.objs.size fI cda cc)) _ _ ⟨h0, g, d, _, os⟩
  have mv : (fun x => ([(("self" : Str), Value.ref e), (f, u)].reverse.lookup x)) ("self" : Str) = some (.ref e) := by
    have : (("self" : Str) == f) = false := by simpa using fun z => nf z.symm
    simp [List.lookup, this]
  have mf : (fun x => ([(("self" : Str), Value.ref e), (f, u)].reverse.lookup x)) f = some u := by simp [List.lookup]
  have ndb := S.ndb f (by simp)
  refine ks_wpAt_execs_cons (super_st (us := [u]) I S (X.keeps hk) (G.keeps hk) mS (Bl.keeps hk) bS hns Le mv (hk _ _ he) (show 1 ≤ sizeLine by rw [sizeLine_eq]; omega) rfl (fun fv s Q hL hQ => ?_) (hM _) (inter_no S) (by rfl) (fun h1 t1 t' k1 e1 => ?_))
  · exact evalArgs_plain (spliced_cons (ldI S (by simp) hL mf (spliced_nil hQ)))
  have hns1 : h1.Ns hp.objs.size (fun x => ([(("self" : Str), Value.ref e), (f, u)].reverse.lookup x)) := by
    obtain ⟨o, es, ep, e1, r⟩ := hns
    exact ⟨o, es, ep, k1 _ _ Le e1, r⟩
  have eb : hp.get? e ≠ none := by rw [he]; simp
  have X1 : K.In h1 := fun b o z => k1 b o (Xe _ _ z) (hk _ _ (X _ _ z))
  refine ks_wpAt_execs_cons (asg_new I S X1 hno (by simp) hns1 mv mf e1 rfl (fun h2 t2 dx k2 dn dne hx hn => ?_))
  refine wpAt_of_wpAny (wpAny_of_eq (a := Flow.next) (by first | rfl | exact execs_nil _) ?_)
  refine hq h2 t2 dx t' (fun b o nb z => k2 b o nb (k1 b o nb (hk b o z))) ?_ dne hx hn
  cases z : hp.get? dx with
  | none => rfl
  | some o => exact absurd (Heap.lt_size (k1 _ _ dne (hk _ _ z))) (Nat.not_lt.mpr dn)
/-- the __init__ with two fields, called -/
theorem code_two {f f2 : Str} {p0 p1 p2 p3 p4 pa pb q0 q1 q2 q3 r0 r1 r2 r3 : Pos} (I : InI K prog C fI q params (bodyI2 f f2 p0 p1 p2 p3 p4 pa pb q0 q1 q2 q3 r0 r1 r2 r3) scope cc cda) (S : InS [f, f2] params scope) (hno : PySem.W.findIn K (.ref C) f = some none) (hno2 : PySem.W.findIn K (.ref C) f2 = some none) (hM : ∀ L, HasM q scope L fI cda cc [.Name f pa, .Name f2 pb] p0 p1 p2 p3)
    (hb : ∀ (doc pm ct : Value) (an : Option Addr) (a u u2 : Value), bindArgs (PySem.W.ksFn "__init__" q params (bodyI2 f f2 p0 p1 p2 p3 p4 pa pb q0 q1 q2 q3 r0 r1 r2 r3) scope .none .none doc pm an (.ref cda) ct cc) ⟨[a, u, u2], []⟩ = pure [(("self" : Str), a), (f, u), (f2, u2)])
    {hp : Heap} {g : Array GenState} {d : Drawn} {t : Nat} {os : OsState} (X : K.In hp) {e t0 : Addr} (Xe : ∀ b o, K.lookup b = some o → b ≠ e) (lim : hp.NoLimit) (G : hp.Ns mainGlobals mg) (mS : mg ("super" : Str) = none) (Bl : hp.Ns builtinsNs mb) (bS : mb ("super" : Str) = some (.type "super"))
    (hroom : A.depth < recursionLimit) {u u2 : Value} (he : hp.get? e = some (HandSPX.excO C t0))
    (hq : ∀ h' t' dx t1, (∀ b o, b ≠ e → hp.get? b = some o → h'.get? b = some o) → hp.get? dx = none → dx ≠ e → h'.get? e = some { cls := .ref C, dict := some dx, data := .fields #[.ref t1, .none, .none, .none, .bool false, .none] } →
      h'.Ns1 dx (fun y => if y = f2 then some u2 else if y = f then some u else none) → R (.ok (.ret .none)) ⟨h', g, d, t', os⟩) :
    codeAny (model prog w) A (.call (.ref fI) ⟨[.ref e, u, u2], []⟩) R ⟨hp, g, d, t, os⟩ := by
  obtain ⟨oc, od, doc, pm, an, ct, osl, lk⟩ := I.lk
  have nf : ¬ (f = ("self" : Str)) := fun z => by
    have := S.nd
    rw [z] at this
    simp at this
  have nf2 : ¬ (f2 = ("self" : Str)) := fun z => by
    have := S.nd
    rw [z] at this
    simp at this
  have nff : ¬ (f = f2) := fun z => by
    have := S.nd
    rw [z] at this
    simp at this
  have Le : hp.objs.size ≠ e := Nat.ne_of_gt (Heap.lt_size he)
  refine ks_codeAny_call_defAt (fd := PySem.W.ksFn "__init__" q params (bodyI2 f f2 p0 p1 p2 p3 p4 pa pb q0 q1 q2 q3 r0 r1 r2 r3) scope .none .none doc pm an (.ref cda) ct cc) (body := bodyI2 f f2 p0 p1 p2 p3 p4 pa pb q0 q1 q2 q3 r0 r1 r2 r3) (binds := [(("self" : Str), .ref e), (f, u), (f2, u2)]) hroom (X _ _ lk) rfl lim (PySem.W.codeRec_of X I.cd) rfl
    (BindsTo.of_eq (hb _ _ _ _ _ _ _)) S.hcell (fun y hy => ?_) (fun h0 hns hk => ?_) S.co S.gen S.kd
  · rcases List.mem_cons.mp hy with rfl | hy
    · exact S.nP _ List.mem_cons_self
    · rcases List.mem_cons.mp hy with rfl | hy
      · exact S.nP _ (by simp)
      · obtain rfl : y = (f2, u2) := by simpa using hy
        exact S.nP _ (by simp)
  show _root_.PySem.wpAt (model prog w) _ (.func _ (enI q scope hp.objs.size fI cda cc)) (execs (bodyI2 f f2 p0 p1 p2 p3 p4 pa pb q0 q1 q2 q3 r0 r1 r2 r3) (enI q scope hp.objs.size fI cda cc)) _ _ ⟨h0, g, d, _, os⟩
  have mv : (fun x => ([(("self" : Str), Value.ref e), (f, u), (f2, u2)].reverse.lookup x)) ("self" : Str) = some (.ref e) := by
    have : (("self" : Str) == f) = false := by simpa using fun z => nf z.symm
    have t2 : (("self" : Str) == f2) = false := by simpa using fun z => nf2 z.symm
    simp [List.lookup, this, t2]
  have mf : (fun x => ([(("self" : Str), Value.ref e), (f, u), (f2, u2)].reverse.lookup x)) f = some u := by
    have : (f == f2) = false := by simpa using nff
    simp [List.lookup, this]
  have mf2 : (fun x => ([(("self" : Str), Value.ref e), (f, u), (f2, u2)].reverse.lookup x)) f2 = some u2 := by simp [List.lookup]
  have ndb := S.ndb f (by simp)
  refine ks_wpAt_execs_cons (super_st (us := [u, u2]) I S (X.keeps hk) (G.keeps hk) mS (Bl.keeps hk) bS hns Le mv (hk _ _ he) (show 2 ≤ sizeLine by rw [sizeLine_eq]; omega) rfl (fun fv s Q hL hQ => ?_) (hM _) (inter_no S) (by rfl) (fun h1 t1 t' k1 e1 => ?_))
  · exact evalArgs_plain (spliced_cons (ldI S (by simp) hL mf (spliced_cons (ldI S (by simp) hL mf2 (spliced_nil hQ)))))
  have hns1 : h1.Ns hp.objs.size (fun x => ([(("self" : Str), Value.ref e), (f, u), (f2, u2)].reverse.lookup x)) := by
    obtain ⟨o, es, ep, e1, r⟩ := hns
    exact ⟨o, es, ep, k1 _ _ Le e1, r⟩
  have eb : hp.get? e ≠ none := by rw [he]; simp
  have X1 : K.In h1 := fun b o z => k1 b o (Xe _ _ z) (hk _ _ (X _ _ z))
  refine ks_wpAt_execs_cons (asg_new I S X1 hno (by simp) hns1 mv mf e1 rfl (fun h2 t2 dx k2 dn dne hx hn => ?_))
  have Ld : hp.objs.size ≠ dx := fun z => by
    obtain ⟨o, es, ep, e1, r⟩ := hns1
    rw [z] at e1
    exact absurd (Heap.lt_size e1) (Nat.not_lt.mpr dn)
  have hns2 : h2.Ns hp.objs.size (fun x => ([(("self" : Str), Value.ref e), (f, u), (f2, u2)].reverse.lookup x)) := by
    obtain ⟨o, es, ep, e1, r⟩ := hns1
    exact ⟨o, es, ep, k2 _ _ Le e1, r⟩
  have X2 : K.In h2 := fun b o z => k2 b o (Xe _ _ z) (X1 _ _ z)
  have nd : hp.get? dx = none := by
    cases z : hp.get? dx with
    | none => rfl
    | some o => exact absurd (Heap.lt_size (k1 _ _ dne (hk _ _ z))) (Nat.not_lt.mpr dn)
  refine ks_wpAt_execs_cons (asg_old (nl := [f]) I S X2 hno2 (by simp) hns2 mv mf2 hx hn (fun y hy => ?_) (by simp) rfl (fun h3 t3 k3 hn3 => ?_))
  · by_cases q : y = f
    · simp [q]
    · exact absurd (if_neg q) hy
  refine wpAt_of_wpAny (wpAny_of_eq (a := Flow.next) (by first | rfl | exact execs_nil _) ?_)
  exact hq h3 t3 dx t' (fun b o nb z => k3 b o (fun y => by rw [y, nd] at z; cases z) (k2 b o nb (k1 b o nb (hk b o z)))) nd dne (k3 _ _ dne.symm hx) hn3
end
section
variable {X : Cx} {C fI cc cda : Addr} {q : Str} {params : Arguments} {scope : Scope} {x : Str} {ta : TA} {e : Expr} {es : List Expr} {p pos : Pos}
/-- behind the call of the class -/
theorem made_end {pins : List (Addr × Obj)} {σ : St} {H1 : Hp} {hp h2 : Heap} {g : Array GenState} {d0 : Drawn} {t1 t2 : Nat} {os : OsState} {a d t0 : Addr} {fs : List (Str × V)} {Q : XK} {m : Str → Option Value} (T : Raises X (.ref C)) (I1 : Inv X pins σ H1 ⟨hp, g, d0, t1, os⟩)
    (na : hp.get? a = none) (k : ∀ b o, b ≠ a → hp.get? b = some o → h2.get? b = some o) (nd : hp.get? d = none) (dne : d ≠ a)
    (hx : h2.get? a = some { cls := .ref C, dict := some d, data := .fields #[.ref t0, .none, .none, .none, .bool false, .none] }) (hn : h2.Ns1 d m) (rel : ∀ f, RelO (fs.lookup f) (m f)) (q : ∀ d, H1 d = none → Q (.ref C) (some d) (upd H1 d (.xd fs))) :
    MkP X pins σ Q (.ref a) ⟨h2, g, d0, t2, os⟩ := by
  obtain ⟨G, g1', g2'⟩ := restrict h2 fun b => decide (b ≠ a)
  have gk : ∀ b, b ≠ a → G.get? b = h2.get? b := fun b hb => g1' b (decide_eq_true hb)
  have ge : G.get? a = none := g2' a (by simp)
  have kG : ∀ b o, hp.get? b = some o → G.get? b = some o := fun b o z => by
    have nb : b ≠ a := fun y => by rw [y, na] at z; cases z
    rw [gk b nb]
    exact k b o nb z
  have nH : H1 d = none := I1.hok.gone nd
  have nHa : H1 a = none := I1.hok.gone na
  have J : Inv X pins σ (upd H1 d (.xd fs)) ⟨G, g, d0, t2, os⟩ := I1.laidN (t' := t2) (h' := G) kG nd nH ⟨m, hn.at fun o y => (gk d dne).trans y, rel⟩
  refine ⟨a, _, _, ⟨G, g, d0, t2, os⟩, upd H1 d (.xd fs), .ref C, some d, rfl, J, fun b o z => ?_, ge, hx, ⟨rfl, rfl⟩, rfl, rfl, ?_, rfl, I1.bare, T, q d nH⟩
  · have nb : b ≠ a := fun y => by rw [y, ge] at z; cases z
    rw [gk b nb] at z
    exact z
  · rw [upd_ne dne.symm]
    exact nHa
/-- C(e), one field -/
theorem pmk_one {f : Str} {p0 p1 p2 p3 p4 pa q0 q1 q2 q3 : Pos} (I : InI X.K X.prog C fI q params (bodyI1 f p0 p1 p2 p3 p4 pa q0 q1 q2 q3) scope cc cda) (S : InS [f] params scope) (hno : PySem.W.findIn X.K (.ref C) f = some none) (hM : ∀ L, HasM q scope L fI cda cc [.Name f pa] p0 p1 p2 p3)
    (hb : ∀ (doc pm ct : Value) (an : Option Addr) (a u : Value), bindArgs (PySem.W.ksFn "__init__" q params (bodyI1 f p0 p1 p2 p3 p4 pa q0 q1 q2 q3) scope .none .none doc pm an (.ref cda) ct cc) ⟨[a, u], []⟩ = pure [(("self" : Str), a), (f, u)])
    (hr : Room 1 X.A) (hg : Gl X x) (hm : X.mg x = some (.ref C)) (mS : X.mg ("super" : Str) = none) (ha : PA X (e :: es) ta)
    (hdb : (x == ("__debug__" : Str)) = false := by decide) (he : starEach (e :: es) X.env = (false, eval e X.env) :: starEach es X.env := by rfl) (hpl : (backTo pos (starEach es X.env)).any (·.1) = false := by rfl) :
    PMk X (.Call (.Name x p) (e :: es) [] pos) (fun σ H Q => ta σ H fun vs H1 => ∃ v, vs = [v] ∧ ∀ d, H1 d = none → Q (.ref C) (some d) (upd H1 d (.xd [(f, v)]))) := by
  intro pins s σ H Q Iv h
  refine wpAny_Call_Name_kw (ld_glob Iv hg hm ?_ hdb)
  refine PySem.W.callWith_K (h₀ := X.base) Iv.ok.mod.kin I.kC (thn (ha.run pos pins s σ H _ Iv h) fun us s1 ⟨vs, H1, I1, r1, q1⟩ => ⟨I1.kIn, ?_⟩) he hpl
  obtain ⟨v, rfl, q1⟩ := q1
  cases r1 with
  | @cons _ u _ us rv rn =>
  cases rn
  show wpAny _ _ (call (.ref C) [u]) _ _ _
  obtain ⟨cd, hcd, hmro, hdct⟩ := I.own
  obtain ⟨nm, N', qn, bs, bm, hdt, sn, sub, ab, col, dd, k0, k1, k2, k3, k5, hC, hT⟩ := PySem.W.excInit_of I1.kIn I.cls
  have e0 := I1.env0
  obtain ⟨mb, Bl, hmb⟩ := e0.mod.blt
  have kb : ∀ b o, X.base.get? b = some o → s1.heap.get? b = some o := fun b o z => (e0.bs b o z).1
  obtain ⟨hp, g, dr, tk, os⟩ := s1
  have kk : ∀ b o, hp.get? b = some o → ((hp.push (PySem.W.kdv_tup [u])).push (PySem.HandSPX.excO C hp.objs.size)).get? b = some o := fun b o e => Heap.get?_push_of_some _ (Heap.get?_push_of_some _ e)
  have hget : ((hp.push (PySem.W.kdv_tup [u])).push (PySem.HandSPX.excO C hp.objs.size)).get? (hp.objs.size + 1) = some (PySem.HandSPX.excO C hp.objs.size) := by heap_get
  have na : hp.get? (hp.objs.size + 1) = none := by
    cases z : hp.get? (hp.objs.size + 1) with
    | none => rfl
    | some o => exact absurd (Heap.lt_size z) (Nat.not_lt.mpr (Nat.le_succ _))
  refine wpAny_call (PySem.HandSPX.call_own F.excBase_ValueError (fun Y => hT Y) (hC) (PySem.W.looks_findIn I1.kIn I.iC) (fun self => PySem.W.bind_fn I1.kIn self I.tI) (show 1 ≤ sizeLine by rw [sizeLine_eq]; omega)
    (code_one (mg := X.mg) (mb := mb) I S hno hM hb (I1.kIn.keeps kk) (fun b o z y => ?_) ((e0.mod.nolimit.keeps kb).keeps kk) ((e0.mod.glob.keeps kb).keeps kk) mS ((Bl.keeps kb).keeps kk) ((hmb _ (by decide)).trans (by first | rfl | kernel_rfl)) (hr.make C [u] []).depth hget fun h' t' dx t1 k hnd dne hx hn => ?_))
  · have := I1.kIn _ _ z
    rw [y] at this
    rw [show hp.get? (hp.objs.size + 1) = none from na] at this
    cases this
  · refine ⟨rfl, made_end (hp := hp) (raises_own I.exC I.tyC) I1 na (fun b o nb z => k b o nb (kk b o z)) ?_ dne hx hn (relO_put (fs := []) rv fun g => True.intro) q1⟩
    cases z : hp.get? dx with
    | none => rfl
    | some o => rw [kk _ _ z] at hnd; cases hnd
/-- C(e), two fields -/
theorem pmk_two {f f2 : Str} {p0 p1 p2 p3 p4 pa pb q0 q1 q2 q3 r0 r1 r2 r3 : Pos} (I : InI X.K X.prog C fI q params (bodyI2 f f2 p0 p1 p2 p3 p4 pa pb q0 q1 q2 q3 r0 r1 r2 r3) scope cc cda) (S : InS [f, f2] params scope) (hno : PySem.W.findIn X.K (.ref C) f = some none) (hno2 : PySem.W.findIn X.K (.ref C) f2 = some none) (hM : ∀ L, HasM q scope L fI cda cc [.Name f pa, .Name f2 pb] p0 p1 p2 p3)
    (hb : ∀ (doc pm ct : Value) (an : Option Addr) (a u u2 : Value), bindArgs (PySem.W.ksFn "__init__" q params (bodyI2 f f2 p0 p1 p2 p3 p4 pa pb q0 q1 q2 q3 r0 r1 r2 r3) scope .none .none doc pm an (.ref cda) ct cc) ⟨[a, u, u2], []⟩ = pure [(("self" : Str), a), (f, u), (f2, u2)])
    (hr : Room 1 X.A) (hg : Gl X x) (hm : X.mg x = some (.ref C)) (mS : X.mg ("super" : Str) = none) (ha : PA X (e :: es) ta)
    (hdb : (x == ("__debug__" : Str)) = false := by decide) (he : starEach (e :: es) X.env = (false, eval e X.env) :: starEach es X.env := by rfl) (hpl : (backTo pos (starEach es X.env)).any (·.1) = false := by rfl) :
    PMk X (.Call (.Name x p) (e :: es) [] pos) (fun σ H Q => ta σ H fun vs H1 => ∃ v v2, vs = [v, v2] ∧ ∀ d, H1 d = none → Q (.ref C) (some d) (upd H1 d (.xd [(f2, v2), (f, v)]))) := by
  intro pins s σ H Q Iv h
  refine wpAny_Call_Name_kw (ld_glob Iv hg hm ?_ hdb)
  refine PySem.W.callWith_K (h₀ := X.base) Iv.ok.mod.kin I.kC (thn (ha.run pos pins s σ H _ Iv h) fun us s1 ⟨vs, H1, I1, r1, q1⟩ => ⟨I1.kIn, ?_⟩) he hpl
  obtain ⟨v, v2, rfl, q1⟩ := q1
  cases r1 with
  | @cons _ u _ us rv rn =>
  cases rn with
  | @cons _ u2 _ us2 rv2 rn =>
  cases rn
  show wpAny _ _ (call (.ref C) [u, u2]) _ _ _
  obtain ⟨cd, hcd, hmro, hdct⟩ := I.own
  obtain ⟨nm, N', qn, bs, bm, hdt, sn, sub, ab, col, dd, k0, k1, k2, k3, k5, hC, hT⟩ := PySem.W.excInit_of I1.kIn I.cls
  have e0 := I1.env0
  obtain ⟨mb, Bl, hmb⟩ := e0.mod.blt
  have kb : ∀ b o, X.base.get? b = some o → s1.heap.get? b = some o := fun b o z => (e0.bs b o z).1
  obtain ⟨hp, g, dr, tk, os⟩ := s1
  have kk : ∀ b o, hp.get? b = some o → ((hp.push (PySem.W.kdv_tup [u, u2])).push (PySem.HandSPX.excO C hp.objs.size)).get? b = some o := fun b o e => Heap.get?_push_of_some _ (Heap.get?_push_of_some _ e)
  have hget : ((hp.push (PySem.W.kdv_tup [u, u2])).push (PySem.HandSPX.excO C hp.objs.size)).get? (hp.objs.size + 1) = some (PySem.HandSPX.excO C hp.objs.size) := by heap_get
  have na : hp.get? (hp.objs.size + 1) = none := by
    cases z : hp.get? (hp.objs.size + 1) with
    | none => rfl
    | some o => exact absurd (Heap.lt_size z) (Nat.not_lt.mpr (Nat.le_succ _))
  refine wpAny_call (PySem.HandSPX.call_own F.excBase_ValueError (fun Y => hT Y) (hC) (PySem.W.looks_findIn I1.kIn I.iC) (fun self => PySem.W.bind_fn I1.kIn self I.tI) (show 2 ≤ sizeLine by rw [sizeLine_eq]; omega)
    (code_two (mg := X.mg) (mb := mb) I S hno hno2 hM hb (I1.kIn.keeps kk) (fun b o z y => ?_) ((e0.mod.nolimit.keeps kb).keeps kk) ((e0.mod.glob.keeps kb).keeps kk) mS ((Bl.keeps kb).keeps kk) ((hmb _ (by decide)).trans (by first | rfl | kernel_rfl)) (hr.make C [u, u2] []).depth hget fun h' t' dx t1 k hnd dne hx hn => ?_))
  · have := I1.kIn _ _ z
    rw [y] at this
    rw [show hp.get? (hp.objs.size + 1) = none from na] at this
    cases this
  · refine ⟨rfl, made_end (hp := hp) (raises_own I.exC I.tyC) I1 na (fun b o nb z => k b o nb (kk b o z)) ?_ dne hx hn (relO_put (fs := [(f, v)]) rv2 (relO_put (fs := []) rv fun g => True.intro)) q1⟩
    cases z : hp.get? dx with
    | none => rfl
    | some o => rw [kk _ _ z] at hnd; cases hnd
end
end L2.XI

namespace L2.P
open PySem PySem.Spec PyProof.Rows L2 NdefX LamX
/-- an error: its class's name, its fields, the last stored first -/
abbrev Er := Str × List (Str × D)
/-- the error's dict, new over H0 -/
def XAt (K : Fg) (H0 F H : Hp) : List (Str × D) → Option Addr → Prop
  | [], d => d = none
  | f :: fs, d => ∃ dd vs, d = some dd ∧ H0 dd = none ∧ F dd = none ∧ H dd = some (.xd (((f :: fs).map (·.1)).zip vs)) ∧ DpAll K F vs ((f :: fs).map (·.2))
theorem XAt.base {K : Fg} {H0 H1 F H : Hp} {d : Option Addr} (h : ∀ a, H1 a = none → H0 a = none) : ∀ {fs : List (Str × D)}, XAt K H1 F H fs d → XAt K H0 F H fs d
  | [], x => x
  | _ :: _, ⟨dd, vs, e, n, r⟩ => ⟨dd, vs, e, h _ n, r⟩
/-- a def of n parameters: where r gives an error, it lets that out -/
def spE (K : Fg) (n : Nat) (r : List D → Option Er) : Sp := fun vs H _ E => vs.length = n ∧ ∃ F ps er, Same F H ∧ TbOk K F H ∧ DpAll K F vs ps ∧ r ps = some er ∧
  ∀ F' H' d, Same F F' → SameX K none H H' → Same F' H' → TbOk K F' H' → (∀ b, F b = none → F' b ≠ none → Fz (H b)) → XAt K H F' H' er.2 d → E (.ref (He.ga K er.1)) d H'
def tR_ (K : Fg) (W : WX) (r : Rho → Option Er) : TS := fun _ σ H => ∃ B F ρ er, Rs K B F H σ ρ ∧ r ρ = some er ∧ ∀ F' H' σ' d, (∃ ρ', Rs K B F' H' σ' ρ') → Same F F' → XAt K B.Ha F' H' er.2 d → W (.ref (He.ga K er.1)) d σ' H'
def SEs (X : Cx) (W : WX) (sts : List Stmt) (r : Rho → Option Er) : Prop := PSs X sts (tR_ X.K W r)
def SE (X : Cx) (W : WX) (st : Stmt) (r : Rho → Option Er) : Prop := PS X st (tR_ X.K W r)
section
variable {X : Cx} {W : WX} {st : Stmt} {rest : List Stmt} {x : Str} {p pos pos' : Pos} {e : Expr} {es : List Expr}
theorem e_head {r : Rho → Option Er} (h : SE X W st r) : SEs X W (st :: rest) r := (pss_cons h pss_no).imp fun _ _ _ q => q
def eSeq (f : Rho → Option Fl) (r : Rho → Option Er) : Rho → Option Er := fun ρ => match f ρ with
  | some (.nx ρ') => r ρ'
  | _ => none
theorem e_cons {f : Rho → Option Fl} {r : Rho → Option Er} (h : SF X.nox st f) (h2 : SEs X W rest r) : SEs X W (st :: rest) (eSeq f r) :=
  (pss_cons (ps_unx h.ps) h2).imp fun En σ H ⟨B, F, ρ, er, R, e, k⟩ => by
    unfold eSeq at e
    split at e
    · rename_i ρ' h1
      exact ⟨B, F, ρ, R, .nx ρ', h1, fun F' H' σ' R' s' => ⟨B, F', ρ', er, R', e, fun F2 H2 σ2 d R2 s2 => k F2 H2 σ2 d R2 (s'.trans s2)⟩⟩
    · cases e
def eFrz (is : List Nat) (r : Rho → Option Er) : Rho → Option Er := fun ρ => r (frz ρ is)
theorem e_frz {r : Rho → Option Er} (is : List Nat) (h : SEs X W rest r) : SEs X W rest (eFrz is r) := PSs.imp h fun En σ H ⟨B, F, ρ, er, R, e, k⟩ => by
  obtain ⟨F', R', s⟩ := R.frz is
  exact ⟨B, F', _, er, R', e, fun F2 H2 σ2 d R2 s2 => k F2 H2 σ2 d R2 (s.trans s2)⟩
def eOr (r s : Rho → Option Er) : Rho → Option Er := fun ρ => match r ρ with
  | some z => some z
  | none => s ρ
theorem e_or {r s : Rho → Option Er} (h1 : SEs X W rest r) (h2 : SEs X W rest s) : SEs X W rest (eOr r s) := ⟨fun pn s' σ H D I ⟨B, F, ρ, er, R, e, k⟩ => by
  unfold eOr at e
  split at e
  · rename_i z h
    exact h1.run pn s' σ H D I ⟨B, F, ρ, er, R, h.trans e, k⟩
  · exact h2.run pn s' σ H D I ⟨B, F, ρ, er, R, e, k⟩⟩
def eIf (t : Rho → Option Bool) (r : Rho → Option Er) : Rho → Option Er := fun ρ => match t ρ with
  | some true => r ρ
  | _ => none
theorem e_if {c : Expr} {a b : List Stmt} {t : Rho → Option Bool} {r : Rho → Option Er} (h : TF X.nox c t) (h2 : SEs X W a r) : SE X W (.If c a b pos) (eIf t r) :=
  PS.imp (ps_if (PT.nox h.pt) h2 pss_no) fun En σ H ⟨B, F, ρ, er, R, e, k⟩ => by
    unfold eIf at e
    split at e
    · rename_i h1
      exact ⟨B, F, ρ, R, true, h1, fun F' H' R' s' => by
        show (if true = true then tR_ X.K W r En σ H' else False)
        rw [if_pos rfl]
        exact ⟨B, F', ρ, er, R', e, fun F2 H2 σ2 d R2 s2 => k F2 H2 σ2 d R2 (s'.trans s2)⟩⟩
    · cases e
theorem e_raise0 (hc : X.calm = true) (tk : Takes X W) (N : NmOk X.K X.mg x (He.ga X.K x)) (hg : Gl X x) (hdb : (x == ("__debug__" : Str)) = false := by decide) : SE X W (.Raise (some (.Call (.Name x p) [] [] pos)) none pos') (fun _ => some (x, [])) :=
  PS.imp (ps_raise hc tk (pmk_zero N hg hdb)) fun En σ H ⟨B, F, ρ, er, R, e, k⟩ => by
    cases e
    exact k F H σ none ⟨ρ, R⟩ (Same.refl _) rfl
/-- what is known of a class with one field -/
def MkX1 (K : Fg) (P : Program) (mg : Str → Option Value) (x f : Str) : Prop := ∃ fI cc cda q params scope p0 p1 p2 p3 p4 pa q0 q1 q2 q3, XI.InI K P (He.ga K x) fI q params (XI.bodyI1 f p0 p1 p2 p3 p4 pa q0 q1 q2 q3) scope cc cda ∧ XI.InS [f] params scope ∧
  PySem.W.findIn K (.ref (He.ga K x)) f = some none ∧ (∀ L, XI.HasM q scope L fI cda cc [.Name f pa] p0 p1 p2 p3) ∧
  (∀ (doc pm ct : Value) (an : Option Addr) (a u : Value), bindArgs (PySem.W.ksFn "__init__" q params (XI.bodyI1 f p0 p1 p2 p3 p4 pa q0 q1 q2 q3) scope .none .none doc pm an (.ref cda) ct cc) ⟨[a, u], []⟩ = pure [(("self" : Str), a), (f, u)]) ∧
  mg x = some (.ref (He.ga K x)) ∧ mg ("super" : Str) = none
/-- .. with two -/
def MkX2 (K : Fg) (P : Program) (mg : Str → Option Value) (x f f2 : Str) : Prop := ∃ fI cc cda q params scope p0 p1 p2 p3 p4 pa pb q0 q1 q2 q3 r0 r1 r2 r3, XI.InI K P (He.ga K x) fI q params (XI.bodyI2 f f2 p0 p1 p2 p3 p4 pa pb q0 q1 q2 q3 r0 r1 r2 r3) scope cc cda ∧ XI.InS [f, f2] params scope ∧
  PySem.W.findIn K (.ref (He.ga K x)) f = some none ∧ PySem.W.findIn K (.ref (He.ga K x)) f2 = some none ∧ (∀ L, XI.HasM q scope L fI cda cc [.Name f pa, .Name f2 pb] p0 p1 p2 p3) ∧
  (∀ (doc pm ct : Value) (an : Option Addr) (a u u2 : Value), bindArgs (PySem.W.ksFn "__init__" q params (XI.bodyI2 f f2 p0 p1 p2 p3 p4 pa pb q0 q1 q2 q3 r0 r1 r2 r3) scope .none .none doc pm an (.ref cda) ct cc) ⟨[a, u, u2], []⟩ = pure [(("self" : Str), a), (f, u), (f2, u2)]) ∧
  mg x = some (.ref (He.ga K x)) ∧ mg ("super" : Str) = none
def eRaise1 (x f : Str) (g : Rho → Option (List D)) : Rho → Option Er := fun ρ => match g ρ with
  | some [v] => some (x, [(f, v)])
  | _ => none
def eRaise2 (x f f2 : Str) (g : Rho → Option (List D)) : Rho → Option Er := fun ρ => match g ρ with
  | some [v, v2] => some (x, [(f2, v2), (f, v)])
  | _ => none
theorem _root_.L2.PA.nox {ta : TA} (h : PA X.nox (e :: es) ta) : PA X (e :: es) ta := ⟨fun pos pins s σ H Q I hw => wpAny_mono (h.run pos pins s σ H Q (I.wish _) hw) (fun _ _ ⟨vs, H1, I1, r, q⟩ => ⟨vs, H1, I1.unwish, r, q⟩) fun _ _ z => False.elim z⟩
theorem e_raise1 {f : Str} {g : Rho → Option (List D)} (hc : X.calm = true) (tk : Takes X W) (M : MkX1 X.K X.prog X.mg x f) (hr : Room 1 X.A) (hg : Gl X x) (ha : EAF X.nox (e :: es) g) (hdb : (x == ("__debug__" : Str)) = false := by decide)
    (he : starEach (e :: es) X.env = (false, eval e X.env) :: starEach es X.env := by rfl) (hpl : (backTo pos (starEach es X.env)).any (·.1) = false := by rfl) :
    SE X W (.Raise (some (.Call (.Name x p) (e :: es) [] pos)) none pos') (eRaise1 x f g) := by
  obtain ⟨fI, cc, cda, q, params, scope, p0, p1, p2, p3, p4, pa, q0, q1, q2, q3, I, S, hno, hM, hb, hm, mS⟩ := M
  refine PS.imp (ps_raise hc tk (XI.pmk_one I S hno hM hb hr hg hm mS ha.pa.nox hdb he hpl)) fun En σ H ⟨B, F, ρ, er, R, e, k⟩ => ?_
  unfold eRaise1 at e
  split at e
  · rename_i v h
    cases e
    refine ⟨B, F, ρ, R, [v], h, fun F1 H1 vs R1 s1 d1 => ?_⟩
    obtain ⟨u, us, rfl, du, dn⟩ := DpAll.uncons d1
    obtain rfl := DpAll.unnil dn
    refine ⟨u, rfl, fun d hd => k F1 _ σ (some d) ⟨ρ, R1.lay hd⟩ s1 ⟨d, [u], rfl, (R1.fresh hd).1, (R1.fresh hd).2.1, upd_same, .cons du .nil⟩⟩
  · cases e
theorem e_raise2 {f f2 : Str} {g : Rho → Option (List D)} (hc : X.calm = true) (tk : Takes X W) (M : MkX2 X.K X.prog X.mg x f f2) (hr : Room 1 X.A) (hg : Gl X x) (ha : EAF X.nox (e :: es) g) (hdb : (x == ("__debug__" : Str)) = false := by decide)
    (he : starEach (e :: es) X.env = (false, eval e X.env) :: starEach es X.env := by rfl) (hpl : (backTo pos (starEach es X.env)).any (·.1) = false := by rfl) :
    SE X W (.Raise (some (.Call (.Name x p) (e :: es) [] pos)) none pos') (eRaise2 x f f2 g) := by
  obtain ⟨fI, cc, cda, q, params, scope, p0, p1, p2, p3, p4, pa, pb, q0, q1, q2, q3, r0, r1, r2, r3, I, S, hno, hno2, hM, hb, hm, mS⟩ := M
  refine PS.imp (ps_raise hc tk (XI.pmk_two I S hno hno2 hM hb hr hg hm mS ha.pa.nox hdb he hpl)) fun En σ H ⟨B, F, ρ, er, R, e, k⟩ => ?_
  unfold eRaise2 at e
  split at e
  · rename_i v v2 h
    cases e
    refine ⟨B, F, ρ, R, [v, v2], h, fun F1 H1 vs R1 s1 d1 => ?_⟩
    obtain ⟨u, us, rfl, du, dn⟩ := DpAll.uncons d1
    obtain ⟨u2, us, rfl, du2, dn⟩ := DpAll.uncons dn
    obtain rfl := DpAll.unnil dn
    refine ⟨u, u2, rfl, fun d hd => k F1 _ σ (some d) ⟨ρ, R1.lay hd⟩ s1 ⟨d, [u2, u], rfl, (R1.fresh hd).1, (R1.fresh hd).2.1, upd_same, .cons du2 (.cons du .nil)⟩⟩
  · cases e
/-- a def that may let an error out -/
def CalE (X : Cx) (x : Str) (n : Nat) (r : List D → Option Er) : Prop :=
  ∃ (k : Nat) (f : Addr) (fd : FuncData) (ps : List Str), FnOk X.prog X.w X.K X.mg X.base (L2.CX X.prog X.w) k f fd ps (spE X.K n r) ∧ Room k X.A ∧ X.mg x = some (.ref f) ∧ PySem.W.keepIn X.K (.ref f) = true ∧ Binds X.K fd ps []
def eCall (f : Rho → Option (List D)) (r : List D → Option Er) : Rho → Option Er := fun ρ => (f ρ).bind r
theorem Rs.base_none {K : Fg} {B : Bs} {F H : Hp} {σ : St} {ρ : Rho} (R : Rs K B F H σ ρ) : ∀ a, H a = none → B.Ha a = none := fun _ h => (R.fresh h).1
theorem pe_callE {n : Nat} {f : Rho → Option (List D)} {r : List D → Option Er} (c : CalE X x n r) (tk : Takes X W) (ha : EAF X.nox (e :: es) f) (hl : LenA f n) (hg : Gl X x) (hdb : (x == ("__debug__" : Str)) = false := by decide)
    (he : starEach (e :: es) X.env = (false, eval e X.env) :: starEach es X.env := by rfl) (hpl : (backTo pos (starEach es X.env)).any (·.1) = false := by rfl) :
    PE X (.Call (.Name x p) (e :: es) [] pos) (fun σ H _ => ∃ B F ρ er, Rs X.K B F H σ ρ ∧ eCall f r ρ = some er ∧ ∀ F' H' d, Rs X.K B F' H' σ ρ → Same F F' → XAt X.K B.Ha F' H' er.2 d → W (.ref (He.ga X.K er.1)) d σ H') := by
  obtain ⟨k, fa, fd, ps, F, hr, hm, hk, hb⟩ := c
  refine (pe_callS (E := WE W) F hr hg hm hk hb (fun σ => passAt tk σ) ha.pa.nox hdb he hpl).imp fun σ H Q ⟨B, F0, ρ, er, R, e0, k0⟩ => ?_
  obtain ⟨ds, h1, e0⟩ := Option.bind_eq_some_iff.mp e0
  refine ⟨B, F0, ρ, R, ds, h1, fun F1 H1 vs R1 s1 d1 => ?_⟩
  exact ⟨by rw [d1.length]; exact hl _ _ h1, F1, ds, er, R1.sub, R1.tb, d1, e0, fun F' H' d s' sH sF tb fr xa => k0 F' H' d (R1.call s' sH sF tb fr) (s1.trans s') (xa.base R1.base_none)⟩
theorem e_call {n : Nat} {f : Rho → Option (List D)} {r : List D → Option Er} (c : CalE X x n r) (tk : Takes X W) (ha : EAF X.nox (e :: es) f) (hl : LenA f n) (hg : Gl X x) (hdb : (x == ("__debug__" : Str)) = false := by decide)
    (he : starEach (e :: es) X.env = (false, eval e X.env) :: starEach es X.env := by rfl) (hpl : (backTo pos (starEach es X.env)).any (·.1) = false := by rfl) (hs : swapsWith (.Call (.Name x p) (e :: es) [] pos) none pos'.line X.env = pure false := by rfl) :
    SE X W (.Expr (.Call (.Name x p) (e :: es) [] pos) pos') (eCall f r) :=
  PS.imp (ps_expr (pe_callE c tk ha hl hg hdb he hpl) hs) fun En σ H ⟨B, F, ρ, er, R, e, k⟩ => ⟨B, F, ρ, er, R, e, fun F' H' d R' s' => k F' H' σ d ⟨ρ, R'⟩ s'⟩
/-- return f(..), where f lets it out -/
theorem e_ret {n : Nat} {f : Rho → Option (List D)} {r : List D → Option Er} (c : CalE X x n r) (tk : Takes X W) (ha : EAF X.nox (e :: es) f) (hl : LenA f n) (hg : Gl X x) (hdb : (x == ("__debug__" : Str)) = false := by decide)
    (he : starEach (e :: es) X.env = (false, eval e X.env) :: starEach es X.env := by rfl) (hpl : (backTo pos (starEach es X.env)).any (·.1) = false := by rfl) :
    SE X W (.Return (some (.Call (.Name x p) (e :: es) [] pos)) pos') (eCall f r) :=
  PS.imp (ps_ret (pe_callE c tk ha hl hg hdb he hpl)) fun En σ H ⟨B, F, ρ, er, R, e, k⟩ => ⟨B, F, ρ, er, R, e, fun F' H' d R' s' => k F' H' σ d ⟨ρ, R'⟩ s'⟩
theorem _root_.L2.PI.nox {tg iter : Expr} {t : TI} (h : PI X.nox tg iter t) : PI X tg iter t := ⟨fun pins s σ H R I hw =>
  wpAny_mono (h.run pins s σ H R (I.wish _) hw) (fun v s1 q => wpAny_mono q (fun itv s2 ⟨it, fp, tn, J, H', e, I', T, t0, f, r⟩ => ⟨it, fp, tn, J, H', e, I'.unwish, T, t0, f, r⟩) fun _ _ z => False.elim z) fun _ _ z => False.elim z⟩
theorem _root_.L2.PG.nox {tg : Expr} {t : TG} (h : PG X.nox tg t) : PG X tg t := ⟨fun pins s σ H v u Q I r hw =>
  wpAny_mono (h.run pins s σ H v u Q (I.wish _) r hw) (fun _ _ ⟨σ', H', I', q⟩ => ⟨σ', H', I'.unwish, q⟩) fun _ _ z => False.elim z⟩
def forE (g : Tg) (f : Rho → Option Fl) (r : Rho → Option Er) : List D → Rho → Option Er
  | [], _ => none
  | p :: ps, ρ => match g p ρ with
    | none => none
    | some ρ1 => match r ρ1 with
      | some z => some z
      | none => match f ρ1 with
        | some (.nx ρ2) => forE g f r ps ρ2
        | some (.ct ρ2) => forE g f r ps ρ2
        | _ => none
def eFor (g : Tg) (u : Rho → Option (List D)) (f : Rho → Option Fl) (r : Rho → Option Er) : Rho → Option Er := fun ρ => (u ρ).bind fun ps => forE g f r ps ρ
theorem e_for {tg iter : Expr} {body : List Stmt} {g : Tg} {is : List Nat} {u : Rho → Option (List D)} {f : Rho → Option Fl} {r : Rho → Option Er} (hp : PassesOwn (model X.prog X.w) X.A X.env X.xe) (hc : X.calm = true) (hi : IF X.nox tg iter u) (hg : GW X.nox tg g is) (hb : SFs X.nox body f) (hz : SEs X W body r)
    (hs : ∀ x, foldedSetIterable iter X.env x = pure x := by intro _; rfl) : SE X W (.For tg iter body [] pos) (eFor g u f r) := by
  have hb2 : PSs X body (fun D σ H => tS X.K (fW f) D σ H ∨ tR_ X.K W r D σ H) := ⟨fun pn s' σ H D I h => by
    rcases h with h | h
    · exact hb.pss.nox.run pn s' σ H D I h
    · exact hz.run pn s' σ H D I h⟩
  have hg' : GW X tg g is := PG.nox (show PG X.nox tg (tG X.K g is) from hg)
  refine (ps_for hp hc hi.pi.nox hg' hb2 hs).imp fun En σ H ⟨B, F, ρ, er, R, e, k⟩ => ?_
  obtain ⟨ps, e1, e⟩ := Option.bind_eq_some_iff.mp e
  refine ⟨B, F, ρ, R, ps, e1, fun F1 H1 J R1 s1 hz wk => ?_⟩
  refine ⟨fun i m σ H => m = ps.length - i ∧ i ≤ ps.length ∧ ∃ F2 ρ2, Rs X.K B F2 H σ ρ2 ∧ Same F1 F2 ∧ forE g f r (ps.drop i) ρ2 = some er, ⟨ps.length, by simp, Nat.zero_le _, F1, ρ, R1, Same.refl _, e⟩, ?_⟩
  rintro i m σ2 H2 ⟨rfl, hi2, F2, ρ2, R2, s2, q2⟩
  have sH : Same F1 H2 := s2.trans R2.sub
  by_cases hlt : i < ps.length
  · refine .inr ⟨wk.go i H2 hlt sH, fun σ' H' => ∃ F3 ρ3, Rs X.K B F3 H' σ' ρ3 ∧ Same F1 F3 ∧ forE g f r (ps.drop (i + 1)) ρ3 = some er, fun σ' H' n => ⟨ps.length - (i + 1), by omega, rfl, hlt, n⟩, fun x H' hy => ?_⟩
    obtain ⟨p, hp', y⟩ := wk.yld i H2 x H' hlt sH hy
    have e0 : ps.drop i = p :: ps.drop (i + 1) := by
      rw [List.drop_eq_getElem_cons hlt]
      obtain ⟨_, e⟩ := List.getElem?_eq_some_iff.mp hp'
      rw [e]
    rw [e0] at q2
    obtain ⟨F3, R3, s3, d3⟩ := yl_step R2 s2 y
    have sF : Same F F3 := (s1.trans s2).trans s3
    unfold forE at q2
    split at q2
    · cases q2
    · rename_i ρ' eg
      refine ⟨B, F3, ρ2, p, ρ', R3, d3, eg, fun σ' R4 _ _ _ => ?_⟩
      split at q2
      · rename_i z hr
        cases q2
        exact .inr ⟨B, F3, ρ', _, R4, hr, fun F4 H4 σ4 d R5 s5 xa => k F4 H4 σ4 d R5 (sF.trans s5) xa⟩
      · split at q2
        · rename_i ρ3 hf
          exact .inl ⟨B, F3, ρ', R4, .nx ρ3, hf, fun F4 H4 σ4 R5 s5 => ⟨F4, ρ3, R5, (s2.trans s3).trans s5, q2⟩⟩
        · rename_i ρ3 hf
          exact .inl ⟨B, F3, ρ', R4, .ct ρ3, hf, fun F4 H4 σ4 R5 s5 => ⟨F4, ρ3, R5, (s2.trans s3).trans s5, q2⟩⟩
        · cases q2
  · have e : i = ps.length := by omega
    subst e
    rw [List.drop_length] at q2
    cases q2
end
/-- a def that lets errors out, behind the top -/
def DefE (P : Program) (w : World) (K : Fg) (mg : Str → Option Value) (base : Heap) (x : Str) (k n : Nat) (r : List D → Option Er) : Prop :=
  ∃ (f : Addr) (fd : FuncData) (ps : List Str), FnOk P w K mg base (L2.CX P w) k f fd ps (spE K n r) ∧ mg x = some (.ref f) ∧ PySem.W.keepIn K (.ref f) = true ∧ Binds K fd ps []
section
variable {P : Program} {w : World} {K : Fg} {mg : Str → Option Value} {base : Heap} {x qual : Str} {params : Arguments} {body : List Stmt} {scope : Scope} {f : Addr} {fd : FuncData} {N ps : List Str} {k : Nat}
theorem DefE.cal {X : Cx} {n : Nat} {r : List D → Option Er} {j : Nat} (h : DefE X.prog X.w X.K X.mg X.base x k n r) (hr : Room j X.A) (hk : k ≤ j := by decide) : CalE X x n r := by
  obtain ⟨f, fd, ps, F, m, kp, b⟩ := h
  exact ⟨k, f, fd, ps, F, hr.mono hk, m, kp, b⟩
/-- where the body raises -/
def runE (n : Nat) (r : Rho → Option Er) : List D → Option Er := fun ds => r (rho0 n ds)
/-- THE RULE: a def that raises -/
theorem fn_e {r : Rho → Option Er} {n : Nat} (Fd : FunD K x qual params body scope [] [] f fd) (S : FnScope N ps scope) (hn : ps.length = n) (hnN : n ≤ N.length)
    (hb : ∀ (cdv : Value) (A : Around) (outer : List Env) (s : Shared) (H : Hp) (E : XK) (W : WX), Room k (A.deeper (envOfC qual scope s.heap.objs.size f cdv)) → Takes (cxOf (L2.CX P w) P w K mg base N qual scope f cdv A outer s H E) W →
      SEs (cxOf (L2.CX P w) P w K mg base N qual scope f cdv A outer s H E) W body r) :
    FnOk P w K mg base (L2.CX P w) (k + 1) f fd ps (spE K n (runE N.length r)) := by
  refine Fd.ok S (fun vs H Q E h => by rw [h.1, hn]) fun cdv A outer s H vs Q E hr h => ?_
  refine ⟨_, hb cdv A outer s H E (fun cls d _ H' => E cls d H') hr (takes_of rfl rfl rfl rfl), ?_⟩
  obtain ⟨hl, F, ds, er, sF, tb, d, e, q⟩ := h
  exact ⟨⟨F, H, none, none⟩, F, rho0 N.length ds, er, rs_start sF tb d (by omega), e, fun F' H' σ' d' ⟨ρ', R'⟩ s' xa => q F' H' d' s' R'.old R'.sub R'.tb R'.new xa⟩
end
end L2.P

namespace PySem.W
open PySem PySem.Spec PySem.Calls PyProof.Rows
section
variable {prog : Program} {w : World} {A : Around} {E : Value → Shared → Prop} {s : Shared} {K : Frag} {x D : Addr} {ox : Obj} {od : Option Obj}
theorem findObj_dataO {C : Addr} {name : Str} {a g : Value} (hc : (clsIn K C).isSome = true) (ha : findIn K (.ref C) name = some (some a)) (hg : specialIn K a "__get__" = some (some g)) (ht : takesIn K a = some true) : findObj K C od name = some (.bind g a) := by
  obtain ⟨cd, hc⟩ := Option.isSome_iff_exists.mp hc
  unfold findObj
  rw [hc, Option.bind_some, ha, Option.bind_some]
  simp [hg, ht]
theorem kin_classO {Q : Option Value → Shared → Prop} (hga : findIn K (.ref D) "__getattribute__" = some (some (.builtin "BaseException.__getattribute__"))) (hgt : findIn K (.ref D) "__getattr__" = some none) (hsub : subIn K (.ref D) (.type "BaseException") = some true)
    (hdct : hasDictIn K D = true) (ha : findIn K (.ref D) "__class__" = some (some (.builtin "object.__class__")))
    (hn : specialIn K (.builtin "object.__class__") "__get__" = some (some (.builtin "getset_descriptor.__get__"))) (htk : takesIn K (.builtin "object.__class__") = some true) (hm : mroIn K D (.type "object") = some true)
    (X : K.In s.heap) (I : InstAt s.heap x ox D od) (h : Q (some (.ref D)) { s with toks := s.toks + 1 }) : wpAny (model prog w) A (getAttr? (.ref x) "__class__") Q E s := by
  have hf : findObj K D od "__class__" = some (.bind (.builtin "getset_descriptor.__get__") (.builtin "object.__class__")) := findObj_dataO (by obtain ⟨cd, hc, _⟩ := any_some hdct; rw [hc]; rfl) ha hn htk
  obtain ⟨hp, g, d, t, os⟩ := s
  have L0 := I.type (M := model prog w)
  have L1 := looks_findIn (M := model prog w) X hga
  have L2 := looks_findIn (M := model prog w) X hgt
  have L3 := looks_find (M := model prog w) X I hf
  have sub : Looks (model prog w) hp (isInstance (.ref x) (.type "BaseException")) true := L0.andThen (looks_subIn X hsub)
  have hx0 : (false && onTheHeap (Value.builtin "BaseException.__getattribute__")) = false := rfl
  have hx2 : (Value.builtin "BaseException.__getattribute__" == Value.builtin "object.__getattribute__") = false := by decide +kernel
  have hx1 : (onTheHeap (Value.ref D) && Value.builtin "BaseException.__getattribute__" == Value.builtin "object.__getattribute__") = false := by rw [hx2]; rfl
  unfold getAttr? getAttrBy? getAttrBy
  refine wpAny_bind (wpAny_mkText (wpAny_bind (wpAny_attempt (wpAny_holding (wpAny_bind (L0.at (wpAny_bind (L1.at ?_))))))))
  show wpAny _ _ (if (onTheHeap (Value.ref D) && Value.builtin "BaseException.__getattribute__" == Value.builtin "object.__getattribute__") = true then _ else _) _ _ _
  rw [hx1, if_neg Bool.false_ne_true]
  unfold getAttrByItsOwn hookBefore
  refine wpAny_bind ?_
  rw [if_pos (show onTheHeap (Value.ref D) = true from rfl)]
  refine L2.at ?_
  refine wpAny_bind (wpAny_attempt (wpAny_holding ?_))
  unfold callGetattribute
  rw [hx0, if_neg Bool.false_ne_true]
  unfold boundAndCalled
  rw [PySem.F.excAttr_ValueError.ga.bind (.ref x)]
  refine wpAny_bind (wpAny_pure ?_)
  show wpAny _ _ (call (.builtin "BaseException.__getattribute__") [.ref x, .str "__class__" t]) _ _ _
  refine wpAny_call (codeAny_call_builtin PySem.F.excAttr_ValueError.ga.plain PySem.F.entry_bexc_ga ?_)
  refine @check_slot (model prog w) _ _ ⟨hp, g, d, t + 1, os⟩ "BaseException.__getattribute__" "BaseException" "__getattribute__" (.ref x) [.str "__class__" t] [] _ (by decide +kernel) (by decide +kernel) sub (PySem.F.args_bexc_ga (.ref x) (.str "__class__" t)) ?_
  unfold Builtin.«object.__getattribute__»
  refine wpAny_bind (wpAny_of_eq (a := ((Value.ref x : Value), [Value.str "__class__" t])) (by first | rfl | (simp only [slotArgs]; rfl)) ?_)
  refine wpAny_bind (wpAny_pure (wpAny_bind (L0.at (wpAny_bind (L3.at ?_)))))
  show wpAny _ _ (holding [Value.builtin "object.__class__"] (call (.builtin "getset_descriptor.__get__") [.builtin "object.__class__", .ref x, .ref D]) >>= ret) _ _ _
  refine wpAny_bind (wpAny_holding (wpAny_call (class_get (s := ⟨hp, g, d, t + 1, os⟩) (ox := ox) (od := od) X I hm ?_)))
  refine wpAny_pure ?_
  show wpAny _ _ (handedOut (.ref D)) _ _ _
  rw [handedOut_of (v := .ref D) rfl]
  first
    | exact wpAny_pure (wpAny_pure h)
    | exact wpAny_pure h
    | exact wpAny_pure (wpAny_bind (wpAny_pure (wpAny_pure h)))
theorem kitx_excO (hga : findIn K (.ref D) "__getattribute__" = some (some (.builtin "BaseException.__getattribute__"))) (hgt : findIn K (.ref D) "__getattr__" = some none) (hsub : subIn K (.ref D) (.type "BaseException") = some true) (hdct : hasDictIn K D = true) (ha : findIn K (.ref D) "__class__" = some (some (.builtin "object.__class__")))
    (hn : specialIn K (.builtin "object.__class__") "__get__" = some (some (.builtin "getset_descriptor.__get__"))) (htk : takesIn K (.builtin "object.__class__") = some true) (hm : mroIn K D (.type "object") = some true) :
    KitX K (.ref x) (.ref D) (fun h => ∃ od, InstAt h x ox D od) where
  ty := fun _ _ _ ⟨od, I⟩ => I.type
  it := fun _ _ X _ => by
    obtain ⟨cdD, hcD, _⟩ := any_some hdct
    unfold clsIn at hcD
    split at hcD
    · rename_i c' d' cd' sl' ho
      intro A' Q' E' s' k q
      unfold isType loadHead
      exact wpAny_bind (wpAny_loadPart (k _ _ (X _ _ ho)) (wpAny_pure q))
    · cases hcD
  ne := fun h tp dd its n sl X htp => by
    obtain ⟨cdD, hcD, _⟩ := any_some hdct
    refine Bool.eq_false_iff.mpr fun q => ?_
    have e : D = tp := Value.ref.inj (beq_iff_eq.mp q)
    subst e
    unfold clsIn at hcD
    split at hcD
    · rename_i c' d' cd' sl' ho
      have z := (X _ _ ho).symm.trans htp
      cases z
    · cases hcD
  ca := fun X ⟨od, I⟩ k => kin_classO hga hgt hsub hdct ha hn htk hm X I k
end
end PySem.W
namespace L2.P
open PySem PySem.Spec PyProof.Rows L2 NdefX LamX
/-- the exception's dict stands -/
def XdH (d : Option Addr) (H : Hp) : Prop := d = none ∨ ∃ dd fs, d = some dd ∧ H dd = some (.xd fs)
def rIsO (K : Fg) (D a : Addr) (d : Option Addr) : List V → Hp → VK → Prop := fun xs H Q => ∃ (c : V) (cv : Value) (b : Bool), xs = [.ref a, c] ∧ (∀ u, RelV c u → u = cv) ∧ PySem.W.kitOne K (.ref D) cv = some b ∧ XdH d H ∧ Q (.bl b) H
theorem call_isO {X : Cx} {a D : Addr} {d : Option Addr} {oe : Obj} {pn : List (Addr × Obj)} (C : ExcC X.K D) (hz : Zc (.ref D) d oe) (hf : ∃ vs, oe.data = .fields vs) : CallR (X.suite a ((a, oe) :: pn)) (.builtin "isinstance") (rIsO X.K D a d) := by
  intro pins s σ H xs us Q I r h
  obtain ⟨c, cv, b, rfl, hcv, e, hx, q⟩ := h
  cases r with
  | cons rx rr =>
    cases rr with
    | cons rt rr =>
      cases rr
      cases rx
      have ec := hcv _ rt
      subst ec
      obtain ⟨hget, _⟩ := I.pin (a, oe) (List.mem_append.mpr (.inl List.mem_cons_self))
      obtain ⟨vs, hv⟩ := hf
      have J : ∃ od, PySem.W.InstAt s.heap a oe D od := by
        rcases hx with hx | ⟨dd, fs, hx, hd⟩
        · obtain ⟨oc, od, oda, osl⟩ := oe
          obtain ⟨h1, h2⟩ := hz
          dsimp only at h1 h2 hv
          subst h1 h2 hv hx
          exact ⟨none, hget, rfl, rfl, trivial⟩
        · have y : ObjOk X.prog X.w H s.heap dd (.xd fs) := I.hok dd _ hd
          obtain ⟨mA, hns, hr⟩ := y
          obtain ⟨od0, ho, hl⟩ := lookIn_ns hns
          obtain ⟨oc, od, oda, osl⟩ := oe
          obtain ⟨h1, h2⟩ := hz
          dsimp only at h1 h2 hv
          subst h1 h2 hv hx
          exact ⟨some od0, hget, rfl, rfl, ho⟩
      exact PySem.W.kia_one (PySem.W.kitx_excO C.hg C.hk C.hs C.hd C.ha C.hn C.ht C.hm) I.kIn J e (fun z => nomatch z) fun tk => ⟨.bl b, H, I.kept (t' := tk) fun _ _ z => z, rfl, q⟩
/-- the data is the exception at a, its dict at d -/
def eMatch (a : Addr) (d : Option Addr) : D → Bool
  | .dict [(.none, .int 2), (.none, .tuple [.int b])] => decide (b = Int.ofNat a) && decide (d = none)
  | .dict [(.none, .int 2), (.none, .tuple (.int b :: .int c :: _))] => decide (b = Int.ofNat a) && (match d with | some dd => decide (c = Int.ofNat dd) | none => false)
  | _ => false
theorem eMatch_ok {K : Fg} {F : Hp} {v : V} {p : D} {a : Addr} {d : Option Addr} (h : Dp K F v p) (e : eMatch a d p = true) : v = .ref a ∧ ((d = none ∧ p = adrD a) ∨ ∃ dd ns vs ps, d = some dd ∧ p = excD a dd ns ps ∧ F dd = some (.xd (ns.zip vs)) ∧ DpAll K F vs ps) := by
  cases h with
  | adr b =>
    unfold eMatch adrD at e
    simp only [Bool.and_eq_true, decide_eq_true_eq] at e
    obtain ⟨e1, e2⟩ := e
    have : b = a := Int.ofNat.inj e1
    subst this
    exact ⟨rfl, .inl ⟨e2, rfl⟩⟩
  | @exc b dd ns vs ps h r =>
    unfold eMatch excD at e
    simp only [Bool.and_eq_true, decide_eq_true_eq] at e
    obtain ⟨e1, e2⟩ := e
    have : b = a := Int.ofNat.inj e1
    subst this
    cases d with
    | none => cases e2
    | some d0 =>
      have : dd = d0 := Int.ofNat.inj (of_decide_eq_true e2)
      subst this
      exact ⟨rfl, .inr ⟨_, _, _, _, rfl, rfl, h, r⟩⟩
  | kt s d => unfold kD at e; cases e
  | q a b c d f => unfold rqD mkD at e; cases e
  | fn h r => unfold fnD at e; cases e
  | dk s r =>
    cases r with
    | nil => cases e
    | cons d r => cases e
  | dt s r =>
    cases r with
    | cons d r => cases e
  | nd m s r => cases e
  | _ => cases e
/-- what the class x says, so that its caught errors are asked and read -/
structure ErC (K : Fg) (mg : Str → Option Value) (x : Str) : Prop where
  ex : PySem.W.exmOne K (.ref (He.ga K x)) (.ref (He.ga K "SitError")) = some true
  cc : ExcC K (He.ga K x)
  xf : XfC K (He.ga K x)
/-- isinstance(e, y) of an error of the class x -/
def KitC (K : Fg) (x y : Str) : Prop := PySem.W.kitOne K (.ref (He.ga K x)) (.ref (He.ga K y)) = some (decide (x = y))
def dIsE (m : D → Bool) (x y : Str) (i : Nat) : Rho → Option D := fun ρ => match ρ[i]? with
  | some (.v q) => if m q = true then some (.bool (decide (x = y))) else none
  | _ => none
def fldL : List D → List D → Str → Option D
  | .str n :: ns, p :: ps, f => if f = n then some p else fldL ns ps f
  | _, _, _ => none
def fldOf : D → Str → Option D
  | .dict [(.none, .int 2), (.none, .tuple (.int _ :: .int _ :: .tuple ns :: ps))], f => fldL ns ps f
  | _, _ => none
def dFld (m : D → Bool) (f : Str) (i : Nat) : Rho → Option D := fun ρ => match ρ[i]? with
  | some (.v q) => if m q = true then fldOf q f else none
  | _ => none
theorem zip_fld {K : Fg} {F : Hp} {f : Str} {p : D} : ∀ {ns : List Str} {vs : List V} {ps : List D}, DpAll K F vs ps → fldL (ns.map PyData.str) ps f = some p → ∃ v, (ns.zip vs).lookup f = some v ∧ Dp K F v p
  | [], _, _, _, e => by cases e
  | _ :: _, _, _, .nil, e => by cases e
  | n :: ns, _, _, .cons (v := v) (vs := vs) r t, e => by
    rw [List.zip_cons_cons, List.lookup_cons]
    rw [List.map_cons] at e
    unfold fldL at e
    by_cases h : f = n
    · subst h
      rw [if_pos rfl] at e
      cases e
      exact ⟨v, by simp, r⟩
    · have h2 : (f == n) = false := beq_eq_false_iff_ne.mpr h
      rw [if_neg h] at e
      rw [h2]
      exact zip_fld t e
section
variable {X : Cx} {a : Addr} {d : Option Addr} {oe : Obj} {pn : List (Addr × Obj)} {x y f : Str} {i : Nat}
theorem ef_isE {ev : Str} {p p1 p2 pos : Pos} (T : ErC X.K X.mg x) (Ky : KitC X.K x y) (hy : X.mg y = some (.ref (He.ga X.K y))) (bi : Bi X.mg) (hz : Zc (.ref (He.ga X.K x)) d oe) (hf : ∃ vs, oe.data = .fields vs) (hN : X.N[i]? = some ev) (hv : Vis X.env.scope ev)
    (hi : X.env.scope.names.lookup ("isinstance" : Str) = some NameKind.globalImplicit) (hg : X.env.scope.names.lookup y = some NameKind.globalImplicit) (hdb : (y == ("__debug__" : Str)) = false := by decide) (hd : (ev == ("__debug__" : Str)) = false := by decide) (hcd : (ev == ("__classdict__" : Str)) = false := by decide) :
    EF (X.suite a ((a, oe) :: pn)) (.Call (.Name "isinstance" p) [.Name ev p1, .Name y p2] [] pos) (dIsE (eMatch a d) x y i) := by
  have v1 : PE (X.suite a ((a, oe) :: pn)) (.Name ev p1) _ := pe_var (i := i) hN hv hd hcd
  have v2 : PE (X.suite a ((a, oe) :: pn)) (.Name y p2) (tC (.ref (He.ga X.K y))) := pe_glob (u := .ref (He.ga X.K y)) hg hy rfl hdb
  refine ⟨fW_mono, (pe_callB (p := p) (pos := pos) (x := "isinstance") (call_isO (X := X) (pn := pn) T.cc hz hf) hi bi.isinstance PyProof.Rows.boot_isinstance (pa_cons v1 (pa_cons v2 pa_nil))).imp fun σ H Q ⟨B, F, ρ, R, z, e, k⟩ => ?_⟩
  unfold dIsE at e
  split at e
  · rename_i q hs
    split at e
    · rename_i hm
      cases e
      have s := R.at_ i _ hs
      generalize hσ : σ[i]? = o at s
      cases s with
      | v r =>
        obtain ⟨rfl, h⟩ := eMatch_ok r hm
        have hx : XdH d H := by
          rcases h with ⟨h, _⟩ | ⟨dd, ns, vs, ps, h, _, h2, _⟩
          · exact .inl h
          · exact .inr ⟨dd, _, h, R.sub _ _ h2⟩
        exact ⟨.ref a, hσ, .ref (He.ga X.K y), .ref (He.ga X.K y), _, rfl, fun u hu => hu, Ky, hx, k F H _ R (Same.refl _) (.bl _)⟩
    · cases e
  · cases e
theorem ef_fld {ev : Str} {p1 pos : Pos} (T : ErC X.K X.mg x) (hno : PySem.W.findIn X.K (.ref (He.ga X.K x)) f = some none) (hz : Zc (.ref (He.ga X.K x)) d oe) (hf : ∃ vs, oe.data = .fields vs) (hN : X.N[i]? = some ev) (hv : Vis X.env.scope ev)
    (hd : (ev == ("__debug__" : Str)) = false := by decide) (hcd : (ev == ("__classdict__" : Str)) = false := by decide) (hb : attributeBase (.Name ev p1) f (X.suite a ((a, oe) :: pn)).env (eval (.Name ev p1) (X.suite a ((a, oe) :: pn)).env) = eval (.Name ev p1) (X.suite a ((a, oe) :: pn)).env := by rfl) :
    EF (X.suite a ((a, oe) :: pn)) (.Attribute (.Name ev p1) f pos) (dFld (eMatch a d) f i) := by
  have v1 : PE (X.suite a ((a, oe) :: pn)) (.Name ev p1) _ := pe_var (i := i) hN hv hd hcd
  refine ⟨fW_mono, (pe_xf T.xf hno hz hf v1 hb).imp fun σ H Q ⟨B, F, ρ, R, z, e, k⟩ => ?_⟩
  unfold dFld at e
  split at e
  · rename_i q hs
    split at e
    · rename_i hm
      have s := R.at_ i _ hs
      generalize hσ : σ[i]? = o at s
      cases s with
      | v r =>
        obtain ⟨rfl, h⟩ := eMatch_ok r hm
        rcases h with ⟨_, rfl⟩ | ⟨dd, ns, vs, ps, h, rfl, h2, h3⟩
        · unfold fldOf adrD at e
          cases e
        · have e2 : fldL (ns.map PyData.str) ps f = some z := e
          obtain ⟨v, hl, dv⟩ := zip_fld h3 e2
          exact ⟨.ref a, hσ, rfl, rfl, dd, _, v, h, R.sub _ _ h2, hl, k F H v R (Same.refl _) dv⟩
    · cases e
  · cases e
end
/-- the error as a value -/
def eD (a : Addr) (d : Option Addr) : List (Str × D) → D
  | [] => adrD a
  | f :: fs => match d with
    | some dd => excD a dd ((f :: fs).map (·.1)) ((f :: fs).map (·.2))
    | none => adrD a
/-- the slots at the suite's entry -/
def rhoE (n : Nat) (q : D) : Rho := (List.replicate n Sl.no).set 1 (.v q)
theorem rs_cold {K : Fg} {F H : Hp} {σ : St} {n : Nat} {v : V} {q : D} (s : Same F H) (tb : TbOk K F H) (hl : σ.length = n) (hσ : σ[1]? = some (some v)) (d : Dp K F v q) : Rs K ⟨F, H, none, none⟩ F H σ (rhoE n q) where
  sub := s
  ext := Same.refl _
  new := fun b h1 h2 => absurd h1 h2
  old := SameX.refl _
  hrow := fun r h => by cases h
  hr2 := fun r h => by cases h
  len := by unfold rhoE; simpa using hl
  at_ := fun i t ht => by
    unfold rhoE at ht
    by_cases e : 1 = i
    · subst e
      have h1 : 1 < n := by
        rw [← hl]
        exact (List.getElem?_eq_some_iff.mp hσ).1
      rw [List.getElem?_set_self (by simpa using h1)] at ht
      cases ht
      rw [hσ]
      exact .v d
    · rw [List.getElem?_set_ne e, List.getElem?_replicate] at ht
      split at ht
      · cases ht; exact .no
      · cases ht
  apart := fun i j a s t hij h1 h2 o1 o2 _ _ => by
    have key : ∀ {k : Nat} {u : Sl}, (rhoE n q)[k]? = some u → u.owns = false := fun {k u} h => by
      unfold rhoE at h
      by_cases e : 1 = k
      · subst e
        have h1 : 1 < n := by
          rw [← hl]
          exact (List.getElem?_eq_some_iff.mp hσ).1
        rw [List.getElem?_set_self (by simpa using h1)] at h
        cases h; rfl
      · rw [List.getElem?_set_ne e, List.getElem?_replicate] at h
        split at h
        · cases h; rfl
        · cases h
    rw [key h1] at o1
    cases o1
  tb := tb
  tbh := fun p hp => by
    obtain ⟨ps, h, _⟩ := tb.2.1 p hp
    exact ⟨ps, h⟩
/-- told's text -/
structure TellT (N : List Str) (bg : List Stmt) (sg : Scope) (b0 : Stmt) (su rest : List Stmt) : Prop where
  body : ∃ p1 p2 p3 p4 p5 p6, bg = .Try [.Expr (.Call (.Name "_law_work" p1) [] [] p2) p3] [.ExceptHandler (some (.Name "SitError" p4)) (some "e") (b0 :: su) p5] [] [] p6 :: rest
  sc : FnScope N ["_law_work"] sg
  e1 : N[1]? = some ("e" : Str)
  n1 : sg.names.lookup ("_law_work" : Str) = some NameKind.local
  n2 : sg.names.lookup ("e" : Str) = some NameKind.local
  n3 : sg.names.lookup ("SitError" : Str) = some NameKind.globalImplicit
/-- the error's dict, frozen -/
def XFr (K : Fg) (F : Hp) : List (Str × D) → Option Addr → Prop
  | [], d => d = none
  | f :: fs, d => ∃ dd vs, d = some dd ∧ F dd = some (.xd (((f :: fs).map (·.1)).zip vs)) ∧ DpAll K F vs ((f :: fs).map (·.2))
theorem eD_dp {K : Fg} {F : Hp} {d : Option Addr} (a : Addr) : ∀ {fs : List (Str × D)}, XFr K F fs d → Dp K F (.ref a) (eD a d fs) ∧ (fs ≠ [] → d ≠ none) ∧ (fs = [] → d = none)
  | [], h => ⟨.adr a, fun z => absurd rfl z, fun _ => h⟩
  | f :: fs, ⟨dd, vs, e, h, r⟩ => by
    subst e
    exact ⟨.exc h r, (fun _ z => by cases z), fun z => by cases z⟩
def TTellE (K : Fg) (xs : List Str) (ans : Er → Option D) : (XK → Hp → VK → Prop) → Hp → VK → Prop := fun tl H Q => tl (fun cls d H' => ∃ F1 er z, cls = .ref (He.ga K er.1) ∧ er.1 ∈ xs ∧ ans er = some z ∧ Same F1 H' ∧ TbOk K F1 H' ∧ XFr K F1 er.2 d ∧
  ∀ F3 H3 v, Same F1 F3 → SameX K none H' H3 → Same F3 H3 → TbOk K F3 H3 → (∀ b, F1 b = none → F3 b ≠ none → Fz (H' b)) → Dp K F3 v z → Q v H3) H (fun _ _ => False)
theorem tell_gives {X : Cx} {N : List Str} {bg su rest : List Stmt} {b0 : Stmt} {sg : Scope} {g : Addr} {cdg : Value} {q : Str} {xs : List Str} {ans : Er → Option D} {hH : (D → Bool) → Str → Rho → Option Fl} (T : TellT N bg sg b0 su rest) (hS : X.mg "SitError" = some (.ref (He.ga X.K "SitError")))
    (hC : ∀ x ∈ xs, ErC X.K X.mg x)
    (hsu : ∀ (s : Shared) (H : Hp) (a : Addr) (oe : Obj) (d : Option Addr) (x : Str) (pn : List (Addr × Obj)), x ∈ xs → Zc (.ref (He.ga X.K x)) d oe → (∃ vs, oe.data = .fields vs) → SFs ((cxOf C8.CX0 X.prog X.w X.K X.mg X.base N "_law_told" sg g cdg X.A X.stack s H C8.E0).nox.suite a ((a, oe) :: pn)) (b0 :: su) (hH (eMatch a d) x))
    (hans : ∀ (a : Addr) (d : Option Addr) (er : Er) (z : D), er.1 ∈ xs → (er.2 ≠ [] → d ≠ none) → (er.2 = [] → d = none) → ans er = some z → hH (eMatch a d) er.1 (rhoE N.length (eD a d er.2)) = some (.rt z)) :
    GivesTo X N "_law_told" sg g cdg bg "_law_work" q (TTellE X.K xs ans) := by
  intro f c' s H Q tl act hc h
  obtain ⟨p1, p2, p3, p4, p5, p6, rfl⟩ := T.body
  let X0 : Cx := (cxOf C8.CX0 X.prog X.w X.K X.mg X.base N "_law_told" sg g cdg X.A X.stack s H C8.E0).nox
  have key : PS X0 (.Try [.Expr (.Call (.Name "_law_work" p1) [] [] p2) p3] [.ExceptHandler (some (.Name "SitError" p4)) (some "e") (b0 :: su) p5] [] [] p6) _ :=
    ps_try_as (X := X0) (i := 1) (c := .ref (He.ga X.K "SitError")) (Wout := fun _ _ _ _ => False)
      (tb := fun W D σ H => ∃ Ech : XK, (∀ cls d σ' H', Ech cls d H' → W cls d σ' H') ∧ σ[0]? = some (some (.ref f)) ∧ H c' = some (CodeO c' q) ∧ tl Ech H (fun _ H1 => D.nx σ H1))
      (ts := fun a cls d D σ H => ∃ x, x ∈ xs ∧ cls = .ref (He.ga X.K x) ∧ (σ.length = N.length → tS X.K (fW (hH (eMatch a d) x)) D σ H))
      rfl rfl T.sc.nd T.e1 T.n2 ⟨T.n3, rfl, .inl hS⟩ takes0
      (fun W pn xe tk _ => ⟨fun pins s' σ H' D I ⟨Ech, hW, h1, h2, h3⟩ => (pss_one (ps_expr (pos := p3) (act W pn xe Ech p1 p2 tk hW) rfl)).run pins s' σ H' D I ⟨h1, h2, h3⟩⟩)
      (fun a oe cls d pn hz hf => ⟨fun pins s' σ H' D I ⟨x, hx, e, q⟩ => by
        subst e
        exact (hsu s H a oe d x pn hx hz hf).pss.run pins s' σ H' D I (q I.len)⟩)
  refine ⟨_, pss_cons key pss_no, ?_⟩
  refine ⟨fun cls d H' => ∃ F1 er z, cls = .ref (He.ga X.K er.1) ∧ er.1 ∈ xs ∧ ans er = some z ∧ Same F1 H' ∧ TbOk X.K F1 H' ∧ XFr X.K F1 er.2 d ∧
    ∀ F3 H3 v, Same F1 F3 → SameX X.K none H' H3 → Same F3 H3 → TbOk X.K F3 H3 → (∀ b, F1 b = none → F3 b ≠ none → Fz (H' b)) → Dp X.K F3 v z → Q v H3, fun cls d σ' H' ⟨F1, er, z, e1, e2, e3, sF, tb, xf, k⟩ => ?_, rfl, hc, h⟩
  subst e1
  refine ⟨true, (hC _ e2).ex, fun _ a na => ⟨er.1, e2, rfl, fun hl => ?_⟩, fun z => by cases z⟩
  have hl' : σ'.length = N.length := by simpa using hl
  have h1 : 1 < σ'.length := by
    rw [hl']
    exact (List.getElem?_eq_some_iff.mp T.e1).1
  obtain ⟨de, d1, d2⟩ := eD_dp a xf
  exact ⟨⟨F1, H', none, none⟩, F1, rhoE N.length (eD a d er.2), rs_cold sF tb hl (List.getElem?_set_self h1) de, .rt z, hans a d er z e2 d1 d2 e3, fun F3 H3 v ⟨σ3, ρ3, R3⟩ s3 d3 => k F3 H3 v s3 R3.old R3.sub R3.tb R3.new d3⟩
theorem xd_nte {fs : List (Str × V)} : ¬ isTE (.xd fs) := not_te rfl
def noO (ρ : Rho) : Bool := ρ.all fun s => match s with
  | .rw (some (.o _ _)) => false
  | _ => true
/-- a new error's dict is frozen -/
theorem Rs.frzX {K : Fg} {B : Bs} {F H : Hp} {σ : St} {ρ : Rho} {dd : Addr} {xs : List (Str × V)} (R : Rs K B F H σ ρ) (hx : H dd = some (.xd xs)) (hF : F dd = none) (hB : B.Ha dd = none) (ho : noO ρ = true) : Rs K B (upd F dd (.xd xs)) H σ ρ where
  sub := fun b o e => by
    by_cases q : b = dd
    · subst q; rw [upd_same] at e; rw [← e]; exact hx
    · rw [upd_ne q] at e; exact R.sub b o e
  ext := fun b o e => by
    have := R.ext b o e
    rw [upd_ne (ne_of_none this hF)]; exact this
  new := fun b hb hn => by
    by_cases q : b = dd
    · subst q; exact .inl hB
    · rw [upd_ne q] at hn; exact R.new b hb hn
  old := R.old
  hrow := fun r hr => by
    obtain ⟨h1, h2⟩ := R.hrow r hr
    have ne : r ≠ dd := fun z => R.hr2 r hr (by rw [z]; exact hB)
    exact ⟨by rw [upd_ne ne]; exact h1, h2.mono (same_upd hF) fun o e => e⟩
  hr2 := R.hr2
  len := R.len
  at_ := fun i s hs => by
    have z := R.at_ i s hs
    generalize hσ : σ[i]? = o at z
    have sF := same_upd (o := .xd xs) hF
    cases z with
    | no => exact .no
    | v r => exact .v (r.same sF)
    | ol f h0 h1 r => exact .ol (by rw [upd_ne (fun q => by subst q; rw [hx] at h1; cases h1)]; exact f) h0 h1 (r.same sF)
    | @row a m f h0 h1 =>
      have ne : a ≠ dd := fun q => by
        subst q
        cases m with
        | none =>
          obtain ⟨_, _, _, _, _, h, _⟩ := h1
          rw [hx] at h; cases h
        | some G =>
          cases G with
          | t G =>
            obtain ⟨_, _, h, _⟩ := h1
            rw [hx] at h; cases h
          | n G =>
            obtain ⟨_, _, _, h, _⟩ := h1
            rw [hx] at h
            unfold DictNO at h; cases h
          | x zs =>
            obtain ⟨_, _, h, _⟩ := h1
            rw [hx] at h
            unfold DictNO at h; cases h
          | o a u =>
            have := List.all_eq_true.mp ho _ (List.mem_of_getElem? hs)
            cases this
      exact .row (by rw [upd_ne ne]; exact f) h0 (h1.mono sF fun o e => e)
    | @od t a kvs f h0 h1 =>
      have ne : a ≠ dd := fun q => by
        subst q
        cases t with
        | false =>
          obtain ⟨_, h, _⟩ := h1
          rw [hx] at h; cases h
        | true =>
          obtain ⟨_, h, _⟩ := h1
          rw [hx] at h; cases h
      exact .od (by rw [upd_ne ne]; exact f) h0 (h1.mono sF fun o e => e)
  apart := R.apart
  tb := R.tb.frz hx xd_nte
  tbh := R.tbh
/-- the frozen dict of what was let out -/
theorem Rs.xfr {K : Fg} {B : Bs} {F H : Hp} {σ : St} {ρ : Rho} {d : Option Addr} (R : Rs K B F H σ ρ) (ho : noO ρ = true) : ∀ {fs : List (Str × D)}, XAt K B.Ha F H fs d → ∃ F1, Rs K B F1 H σ ρ ∧ Same F F1 ∧ XFr K F1 fs d
  | [], x => ⟨F, R, Same.refl _, x⟩
  | f :: fs, ⟨dd, vs, e, hB, hF, hx, r⟩ => ⟨_, R.frzX hx hF hB ho, same_upd hF, dd, vs, e, upd_same, r.same (same_upd hF)⟩
def tRE (K : Fg) (E : XK) (r : Rho → Option Er) : TE := fun σ H _ => ∃ B F ρ er, Rs K B F H σ ρ ∧ r ρ = some er ∧ ∀ F' H' d, Rs K B F' H' σ ρ → Same F F' → XAt K B.Ha F' H' er.2 d → E (.ref (He.ga K er.1)) d H'
/-- all that is known of told -/
structure TellE (K : Fg) (P : Program) (w : World) (mg : Str → Option Value) (base : Heap) (N : List Str) (pg : Arguments) (bg : List Stmt) (sg : Scope) (xs : List Str) (ans : Er → Option D) : Prop where
  fd : ∃ g fd, FunD K "_law_told" "_law_told" pg bg sg [] [] g fd ∧ mg "_law_told" = some (.ref g) ∧ Binds K fd ["_law_work"] []
  sc : FnScope N ["_law_work"] sg
  n0 : N[0]? = some ("_law_work" : Str)
  n1 : sg.names.lookup ("_law_work" : Str) = some NameKind.local
  gv : ∀ (X : Cx) (g : Addr) (cdg : Value) (q : Str), X.K = K → X.mg = mg → X.base = base → X.prog = P → X.w = w → Room 1 X.A → GivesTo X N "_law_told" sg g cdg bg "_law_work" q (TTellE K xs ans)
def fTellE (xs : List Str) (r : Rho → Option Er) (ans : Er → Option D) : Rho → Option D := fun ρ => (r ρ).bind fun er => if xs.contains er.1 = true ∧ noO ρ = true then ans er else none
section
variable {X : Cx} {c P : Addr} {N : List Str} {pg params : Arguments} {bg : List Stmt} {sg scope : Scope} {body : Expr} {lpos p pos : Pos} {rz : Rho → Option Er} {k : Nat} {xs : List Str} {ans : Er → Option D}
theorem ef_tellE (td : TellE X.K X.prog X.w X.mg X.base N pg bg sg xs ans) (TB : TabB X.base X.mg c P) (hm : (P, X.env.qual ++ "<lambda>") ∈ tbT X.K) (hu : ∀ p ∈ tbT X.K, p.1 = P → p.2 = X.env.qual ++ "<lambda>") (hr : Room (k + 2) X.A) (hcode : X.env.code = .ref c) (hg : Gl X "_law_told")
    (L : LamS X.env.scope scope) (hdef : defaultsOf params X.env = ([], []))
    (hbind : ∀ (q : Str) (cl : List (Str × Addr)) (pm cv ctv : Value), bindArgs (PySem.W.kla_fn "<lambda>" q params body scope cl pm cv ctv) ⟨[], []⟩ = pure [])
    (hz : ∀ (A : Around) (outer : List Env) (s : Shared) (H : Hp) (E : XK) (f c' : Addr), Room k (A.deeper (LamX.lamEnv X scope s.heap.objs.size f c')) → PE (LamX.lamCx X A outer s H E scope f c') body (tRE X.K E rz)) :
    EF X (.Call (.Name "_law_told" p) [.Lambda params body scope lpos] [] pos) (fTellE xs rz ans) := by
  refine ⟨fW_mono, ⟨fun pins s σ H Q I h => ?_⟩⟩
  obtain ⟨B, F, ρ, R, z, e, k0⟩ := h
  obtain ⟨er, e1, e⟩ := Option.bind_eq_some_iff.mp e
  split at e
  case isFalse => cases e
  rename_i hxo
  obtain ⟨hxs, ho⟩ := hxo
  have hxs' : er.1 ∈ xs := by simpa using hxs
  obtain ⟨g, fd, Fd, hmg, hb⟩ := td.fd
  have kp := Fd.kp
  obtain ⟨oc, od, dV, kV, doc, pm, an, cdv, ct, osl, rfl, lk, hcd, _, _⟩ := Fd.ex
  refine wpAny_Call_Name_kw (ld_glob I hg hmg ?_ rfl)
  refine PySem.W.callWith_K (h₀ := X.base) I.ok.mod.kin kp ?_ (by rfl) (by rfl)
  refine Calls.spliced_cons (lam_made3 I TB hcode rfl hm hu R.tb.2.1 hdef (L.has I.ok) fun f c' pm' ctv H1 s' I1 keep T1 hf hfn hfr hco => ?_)
  have hP : F P = none := R.tb.1 _ hm
  have R1 : Rs X.K B F H1 σ ρ := R.call (Same.refl F) (fun b o hx e => keep b o (fun z => hx.2 _ hm z.symm) e) (fun b o e => keep b o (fun z => by rw [z, hP] at e; cases e) (R.sub b o e)) ⟨R.tb.1, T1, R.tb.2.2⟩ (fun b h1 h2 => absurd h1 h2)
  have go : codeAny (model X.prog X.w) X.A (.call (.ref g) ⟨[.ref f], []⟩) (CR C8.CX0 X.stack X.prog X.w H1 s' Q C8.E0) s' := by
    refine run_ofS (N := N) (ps := ["_law_work"]) (us := [.ref f]) (vs := [.ref f]) lk hcd td.sc hr I1.env0 (hb s' [.ref f] I1.kIn rfl) (.cons rfl .nil) rfl fun hr' => ?_
    obtain ⟨t', ht', hq'⟩ := td.gv X g cdv _ rfl rfl rfl rfl rfl (hr.mono (by omega)) f c' s' H1 Q (fun E H' Q' => tRE X.K E rz σ H' Q')
      (fun W pn xe E p1 p2 tk hW => pe_act (i := 0) I1 L hf hfn hfr (hbind _ _ _ _ _) tk hW hr' (fun A outer s H hr2 => hz A outer s H E f c' hr2) td.n0 (.inl td.n1) rfl rfl) hco
      ⟨B, F, ρ, er, R1, e1, fun F' H' d R' s' xa => by
        obtain ⟨F1, R2, s2, xf⟩ := R'.xfr ho xa
        refine ⟨F1, er, z, rfl, hxs', e, R2.sub, R2.tb, xf, fun F3 H3 v s3 sH sF tb fr dv => ?_⟩
        exact k0 F3 H3 v (R2.call s3 sH sF tb fr) ((s'.trans s2).trans s3) dv⟩
    exact ⟨t', ht'.nox, hq'⟩
  refine Calls.spliced_nil ⟨I1.kIn, wpAny_call (codeAny_mono go fun r s2 hq => ?_)⟩
  cases r with
  | error e => exact (show False from hq).elim
  | ok fl =>
    cases fl with
    | ret u => exact I1.after hq
    | next => exact False.elim hq
    | brk => exact False.elim hq
    | cont => exact False.elim hq
/-- the lambda's call, where it raises -/
theorem lam_e {A : Around} {outer : List Env} {s : Shared} {H : Hp} {E : XK} {f c' : Addr} {x : Str} {e : Expr} {es : List Expr} {n : Nat} {fa : Rho → Option (List D)} {r : List D → Option Er} (cz : CalE (LamX.lamCx X A outer s H E scope f c') x n r) (ha : EAF (LamX.lamCx X A outer s H E scope f c').nox (e :: es) fa) (hl : LenA fa n)
    (hg : Gl (LamX.lamCx X A outer s H E scope f c') x) (hdb : (x == ("__debug__" : Str)) = false := by decide)
    (he : starEach (e :: es) (LamX.lamCx X A outer s H E scope f c').env = (false, eval e (LamX.lamCx X A outer s H E scope f c').env) :: starEach es (LamX.lamCx X A outer s H E scope f c').env := by rfl) (hpl : (backTo pos (starEach es (LamX.lamCx X A outer s H E scope f c').env)).any (·.1) = false := by rfl) :
    PE (LamX.lamCx X A outer s H E scope f c') (.Call (.Name x p) (e :: es) [] pos) (tRE X.K E (eCall fa r)) :=
  (pe_callE (W := fun cls d _ H => E cls d H) cz (takes_of rfl rfl rfl rfl) ha hl hg hdb he hpl).imp fun σ H Q q => q
theorem ef_tellR (k : Nat) (td : TellE X.K X.prog X.w X.mg X.base N pg bg sg xs ans) (TB : TabB X.base X.mg c P) (hm : (P, X.env.qual ++ "<lambda>") ∈ tbT X.K) (hu : ∀ p ∈ tbT X.K, p.1 = P → p.2 = X.env.qual ++ "<lambda>") (hr : Room (k + 2) X.A) (hcode : X.env.code = .ref c) (hg : Gl X "_law_told")
    (L : lamSB X.env.scope scope = true) (hdef : defaultsOf params X.env = ([], []))
    (hbind : ∀ (q : Str) (cl : List (Str × Addr)) (pm cv ctv : Value), bindArgs (PySem.W.kla_fn "<lambda>" q params body scope cl pm cv ctv) ⟨[], []⟩ = pure [])
    (hz : ∀ (A : Around) (outer : List Env) (s : Shared) (H : Hp) (E : XK) (f c' : Addr), Room k (A.deeper (LamX.lamEnv X scope s.heap.objs.size f c')) → Rm (LamX.lamCx X A outer s H E scope f c').nox → PE (LamX.lamCx X A outer s H E scope f c') body (tRE X.K E rz)) :
    EF X (.Call (.Name "_law_told" p) [.Lambda params body scope lpos] [] pos) (fTellE xs rz ans) :=
  ef_tellE td TB hm hu hr hcode hg (lamS_by L) hdef hbind (fun A outer s H E f c' h => hz A outer s H E f c' h (rm_of (X := (LamX.lamCx X A outer s H E scope f c').nox) h))
end
end L2.P

namespace L2.P
open PySem PySem.Spec PyProof.Rows L2 NdefX LamX
abbrev FnI : Type := Option (Str × Str × Arguments × FuncBody × Scope × Addr × Addr)
/-- the class x's own __init__ -/
def fnI (K : Fg) (x : Str) : FnI := match K.lookup (He.ma K (He.ga K x) "__init__") with
  | some ⟨_, _, .func fd, _⟩ => some (fd.name, fd.qualname, fd.params, fd.body, fd.scope, fd.globals, fd.builtins)
  | _ => none
structure IniD where
  x : Str
  qual : Str
  params : Arguments
  body : List Stmt
  scope : Scope
def IniD.val (d : IniD) : FnI := some ("__init__", d.qual, d.params, .stmts d.body, d.scope, mainGlobals, builtinsNs)
/-- the addresses: what the module's names reach in n steps; the classes' __init__ with its code and cells; the statics -/
def asY (g : Addr → Option Obj) (n : Nat) (xs : List Str) : List Addr :=
  He.asD g n ++ cStatics :: xs.flatMap fun x => He.ma (He.frG g (He.asD g n)) (He.ga (He.frG g (He.asD g n)) x) "__init__" :: (match g (He.ma (He.frG g (He.asD g n)) (He.ga (He.frG g (He.asD g n)) x) "__init__") with
    | some o => He.refsD o
    | none => [])
abbrev AlY : Type := He.AlX × List FnI
def obsY (n : Nat) (fa : List He.Fa) (fn : List He.DefD) (tf : List He.Defn) (ex : Fg → Bool) (fi : List IniD) (g : Addr → Option Obj) : AlY :=
  ((He.obsT fa fn [] (He.frT g (asY g n (fi.map (·.x)))), ex (He.frT g (asY g n (fi.map (·.x)))) && He.tabsB g tf (He.frT g (asY g n (fi.map (·.x))))), fi.map fun d => fnI (He.frT g (asY g n (fi.map (·.x)))) d.x)
def valY (fn : List He.DefD) (fi : List IniD) (w : World) : AlY := (He.valX fn [] w, fi.map IniD.val)
/-- what is told -/
structure SaysY (fa : List He.Fa) (fn : List He.DefD) (tf : List He.Defn) (ex : Fg → Bool) (fi : List IniD) (w : World) (h : Heap) (K : Fg) : Prop where
  x : He.SaysX fa fn [] tf ex w h K
  i : fi.map (fun d => fnI K d.x) = fi.map IniD.val
theorem saysY_of {n : Nat} {fa : List He.Fa} {fn : List He.DefD} {tf : List He.Defn} {ex : Fg → Bool} {fi : List IniD} {w : World} {h : Heap} (e : obsY n fa fn tf ex fi h.get? = valY fn fi w) : SaysY fa fn tf ex fi w h (He.frT h.get? (asY h.get? n (fi.map (·.x)))) := by
  generalize has : asY h.get? n (fi.map (·.x)) = as at *
  have e0 : ((He.obsT fa fn [] (He.frT h.get? as), ex (He.frT h.get? as) && He.tabsB h.get? tf (He.frT h.get? as)), fi.map fun d => fnI (He.frT h.get? as) d.x) = valY fn fi w := by
    rw [← has]; exact e
  have e1 : He.obsT fa fn [] (He.frT h.get? as) = He.valT fn [] w := congrArg (fun z : AlY => z.1.1) e0
  have e2 : (ex (He.frT h.get? as) && He.tabsB h.get? tf (He.frT h.get? as)) = true := congrArg (fun z : AlY => z.1.2) e0
  have e3 : fi.map (fun d => fnI (He.frT h.get? as) d.x) = fi.map IniD.val := congrArg (fun z : AlY => z.2) e0
  obtain ⟨h1, h2⟩ := He.ba e2
  have key : ∀ p ∈ tf, PySem.W.codeHdIn (He.frT h.get? as) (He.cT (He.frT h.get? as) p).1 (He.cT (He.frT h.get? as) p).2 = true ∧ ∃ o, h.get? (He.cT (He.frT h.get? as) p).2 = some o ∧ He.emptyTab o = true := fun p hp => by
    obtain ⟨h3, h4⟩ := He.ba (List.all_eq_true.mp h2 p hp)
    refine ⟨h3, ?_⟩
    cases q : h.get? (He.cT (He.frT h.get? as) p).2 with
    | none =>
      rw [q] at h4
      cases h4
    | some o =>
      rw [q] at h4
      exact ⟨o, rfl, h4⟩
  exact ⟨⟨e1, h1, fun p hp => (key p hp).1, fun p hp => by
    obtain ⟨_, o, q, z⟩ := key p hp
    exact He.frT_none q z, fun p hp => by
    obtain ⟨_, o, q, z⟩ := key p hp
    rw [q, He.emptyTab_eq z]⟩, e3⟩
def hookY (n : Nat) (fa : List He.Fa) (fn : List He.DefD) (tf : List He.Defn) (ex : Fg → Bool) (fi : List IniD) : PySem.W.Hook where
  α := AlY
  obs := fun s => obsY n fa fn tf ex fi s.heap.get?
  val := fun w => valY fn fi w
  says := fun w h => ∃ K : Fg, K.In h ∧ SaysY fa fn tf ex fi w h K
  of := fun _ _ e => ⟨_, He.frT_in, saysY_of e⟩
  keeps := fun _ _ _ ⟨K, hK, c⟩ k => ⟨K, PySem.W.Frag.In.keeps hK k, ⟨⟨c.x.t, c.x.more, c.x.hd, c.x.out, fun p hp => k _ _ (c.x.empty p hp)⟩, c.i⟩⟩
theorem obsY_eq {n : Nat} {fa : List He.Fa} {fn : List He.DefD} {tf : List He.Defn} {ex : Fg → Bool} {fi : List IniD} {g : Addr → Option Obj} {s : Shared} (h : ∀ a, g a = s.heap.get? a) : obsY n fa fn tf ex fi g = (hookY n fa fn tf ex fi).obs s := by
  have e : g = s.heap.get? := funext h
  rw [e] <;> rfl
def iniV (q : Str) (params : Arguments) (body : List Stmt) (scope : Scope) : FnI := some (("__init__" : Str), q, params, FuncBody.stmts body, scope, mainGlobals, builtinsNs)
def noneV : Value → Bool
  | .none => true
  | _ => false
theorem noneV_ok : ∀ {v : Value}, noneV v = true → v = .none
  | .none, _ => rfl
def iniB (file : Str) (K : Fg) (x : Str) (fs : List Str) : Bool :=
  (match K.lookup (He.ma K (He.ga K x) "__init__") with
    | some ⟨_, _, .func fd, _⟩ => (match fd.closure, fd.code with
      | [(cn, cc)], .ref cda => decide (cn = "__class__") && (noneV fd.defaults && noneV fd.kwdefaults) && (PySem.W.codeIn K (.ref cda) fd.qualname && ((match K.lookup cda with
          | some ⟨_, _, .fields vs, _⟩ => (match (show Option Value from vs[2]?) with
            | some (.str f _) => file == f
            | _ => false)
          | _ => false) && (match K.lookup cc with
          | some ⟨_, _, .cell (some (.ref D)), _⟩ => decide (D = He.ga K x)
          | _ => false)))
      | _, _ => false)
    | _ => false) && (PySem.W.excInitIn K (He.ga K x) He.veBase "ValueError.__new__" && ((match PySem.W.clsIn K (He.ga K x) with
    | some cd => HandSPX.refsVE cd.mro && cd.hasDict
    | none => false) && (decide (PySem.W.findIn K (.ref (He.ga K x)) "__setattr__" = some (some (.builtin "object.__setattr__"))) && (decide (PySem.W.ks_superIn K (He.ga K x) (He.ga K x) "__init__" = some (some (.builtin "ValueError.__init__"))) && (
    decide (PySem.W.mroIn K (He.ga K x) (.ref (He.ga K x)) = some true) && (decide (PySem.W.subIn K (.ref (He.ga K x)) (.type "ValueError") = some true) && (decide (PySem.W.nsIn K cStatics "thirdparty.any" = some none) && (
    decide (PySem.W.findIn K (.ref (He.ga K x)) "__init__" = some (some (.ref (He.ma K (He.ga K x) "__init__")))) && (decide (PySem.W.typeIn K (.ref (He.ma K (He.ga K x) "__init__")) = some (.type "function")) && (
    decide (PySem.W.subIn K (.ref (He.ga K x)) (.type "BaseException") = some true) && (decide (PySem.W.typeIn K (.ref (He.ga K x)) = some (.type "type")) && (PySem.W.keepIn K (.ref (He.ga K x)) && fs.all fun f => decide (PySem.W.findIn K (.ref (He.ga K x)) f = some none)))))))))))))
theorem iniB_ok {K : Fg} {P : Program} {x q : Str} {fs : List Str} {params : Arguments} {body : List Stmt} {scope : Scope} (h : iniB P.main.file K x fs = true) (e : fnI K x = iniV q params body scope) (top : (P.main.scope.names.lookup ("super" : Str)).isSome = false) :
    ∃ fI cc cda, XI.InI K P (He.ga K x) fI q params body scope cc cda ∧ ∀ f ∈ fs, PySem.W.findIn K (.ref (He.ga K x)) f = some none := by
  unfold iniB at h
  simp only [Bool.and_eq_true, decide_eq_true_eq, List.all_eq_true] at h
  obtain ⟨h0, h1, h2, h3, h4, h5, h6, h7, h8, h9, h10, h11, h12, h13⟩ := h
  unfold fnI at e
  split at h0
  · rename_i oc od fd osl hl
    rw [hl] at e
    obtain ⟨nm, qn, pr, bd, sc, gl, clo, dfl, kwd, doc, pm, an, code, ct, bl⟩ := fd
    dsimp only at e h0
    obtain ⟨rfl, rfl, rfl, rfl, rfl, rfl, rfl⟩ : nm = "__init__" ∧ qn = q ∧ pr = params ∧ bd = .stmts body ∧ sc = scope ∧ gl = mainGlobals ∧ bl = builtinsNs := by
      simpa [iniV] using e
    split at h0
    · rename_i cn cc cda
      simp only [Bool.and_eq_true, decide_eq_true_eq] at h0
      obtain ⟨⟨rfl, n1, n2⟩, c1, c2, c3⟩ := h0
      obtain rfl := noneV_ok n1
      obtain rfl := noneV_ok n2
      refine ⟨He.ma K (He.ga K x) "__init__", cc, cda, ⟨⟨_, _, _, _, _, _, _, hl⟩, c1, ?_, ?_, h1, ?_, h3, h4, h5, h6, h7, top, h8, h9, h10, h11, h12⟩, h13⟩
      · split at c2
        · rename_i a b vs c hv
          split at c2
          · rename_i f t hf
            exact ⟨_, _, _, _, f, t, hv, hf, c2⟩
          · cases c2
        · cases c2
      · split at c3
        · rename_i a b D c hv
          have : D = He.ga K x := of_decide_eq_true c3
          subst this
          exact ⟨_, _, _, hv⟩
        · cases c3
      · split at h2
        · rename_i cd hcd
          obtain ⟨z1, z2⟩ := He.ba h2
          exact ⟨cd, hcd, z1, z2⟩
        · cases h2
    · cases h0
  · cases h0
def erB (K : Fg) (x : Str) : Bool :=
  decide (PySem.W.exmOne K (.ref (He.ga K x)) (.ref (He.ga K "SitError")) = some true) && (
  decide (PySem.W.findIn K (.ref (He.ga K x)) "__getattribute__" = some (some (.builtin "BaseException.__getattribute__"))) && (
  decide (PySem.W.findIn K (.ref (He.ga K x)) "__getattr__" = some none) && (
  decide (PySem.W.subIn K (.ref (He.ga K x)) (.type "BaseException") = some true) && (
  PySem.W.hasDictIn K (He.ga K x) && (
  decide (PySem.W.findIn K (.ref (He.ga K x)) "__class__" = some (some (.builtin "object.__class__"))) && (
  decide (PySem.W.specialIn K (.builtin "object.__class__") "__get__" = some (some (.builtin "getset_descriptor.__get__"))) && (
  decide (PySem.W.takesIn K (.builtin "object.__class__") = some true) &&
  decide (PySem.W.mroIn K (He.ga K x) (.type "object") = some true))))))))
theorem erB_ok {K : Fg} {mg : Str → Option Value} {x : Str} (h : erB K x = true) : ErC K mg x := by
  unfold erB at h
  simp only [Bool.and_eq_true, decide_eq_true_eq] at h
  obtain ⟨h1, h3, h4, h5, h6, h7, h8, h9, h10⟩ := h
  exact ⟨h1, ⟨h3, h4, h5, h6, h7, h8, h9, h10⟩, ⟨h3, h4, h5, h6⟩⟩
def ersB (K : Fg) (xs : List Str) : Bool := xs.all (erB K)
theorem ersB_ok {K : Fg} {mg : Str → Option Value} {xs : List Str} (h : ersB K xs = true) : ∀ x ∈ xs, ErC K mg x := fun x hx => erB_ok (List.all_eq_true.mp h x hx)
def kitB (K : Fg) (xs ys : List Str) : Bool := xs.all fun x => ys.all fun y => decide (PySem.W.kitOne K (.ref (He.ga K x)) (.ref (He.ga K y)) = some (decide (x = y)))
theorem kitB_ok {K : Fg} {xs ys : List Str} (h : kitB K xs ys = true) : ∀ x ∈ xs, ∀ y ∈ ys, KitC K x y := fun x hx y hy => @of_decide_eq_true (PySem.W.kitOne K (.ref (He.ga K x)) (.ref (He.ga K y)) = some (decide (x = y))) _ (List.all_eq_true.mp (List.all_eq_true.mp h x hx) y hy)
def noAtB (K : Fg) (xs fs : List Str) : Bool := xs.all fun x => fs.all fun f => decide (PySem.W.findIn K (.ref (He.ga K x)) f = some none)
theorem noAtB_ok {K : Fg} {xs fs : List Str} (h : noAtB K xs fs = true) : ∀ x ∈ xs, ∀ f ∈ fs, PySem.W.findIn K (.ref (He.ga K x)) f = some none := fun x hx f hf => of_decide_eq_true (List.all_eq_true.mp (List.all_eq_true.mp h x hx) f hf)
def nmB (K : Fg) (x : Str) : Bool := PySem.W.excIn K (He.ga K x) He.veBase "ValueError.__new__" && (PySem.W.keepIn K (.ref (He.ga K x)) && (decide (PySem.W.subIn K (.ref (He.ga K x)) (.type "BaseException") = some true) && decide (PySem.W.typeIn K (.ref (He.ga K x)) = some (.type "type"))))
theorem nmB_ok {K : Fg} {mg : Str → Option Value} {x : Str} (h : nmB K x = true) (hm : mg x = some (.ref (He.ga K x))) : NmOk K mg x (He.ga K x) := by
  unfold nmB at h
  simp only [Bool.and_eq_true, decide_eq_true_eq] at h
  obtain ⟨h1, h2, h3, h4⟩ := h
  exact ⟨hm, h1, h2, h3, h4⟩
def nmsB (K : Fg) (xs : List Str) : Bool := xs.all (nmB K)
theorem nmsB_ok {K : Fg} {mg : Str → Option Value} {xs : List Str} {x : Str} (h : nmsB K xs = true) (hx : x ∈ xs) (hm : mg x = some (.ref (He.ga K x))) : NmOk K mg x (He.ga K x) := nmB_ok (List.all_eq_true.mp h x hx) hm
theorem mkX1_of {K : Fg} {P : Program} {mg : Str → Option Value} {x f q : Str} {params : Arguments} {body : List Stmt} {scope : Scope} (h : iniB P.main.file K x [f] = true) (e : fnI K x = iniV q params body scope) (top : (P.main.scope.names.lookup ("super" : Str)).isSome = false)
    (S : XI.InS [f] params scope) (hm : mg x = some (.ref (He.ga K x))) (mS : mg ("super" : Str) = none)
    (hb : ∃ p0 p1 p2 p3 p4 pa q0 q1 q2 q3, body = XI.bodyI1 f p0 p1 p2 p3 p4 pa q0 q1 q2 q3 ∧ (∀ fI cda cc L, XI.HasM q scope L fI cda cc [.Name f pa] p0 p1 p2 p3))
    (hbi : ∀ (doc pm ct : Value) (an : Option Addr) (cda cc : Addr) (a u : Value), bindArgs (PySem.W.ksFn "__init__" q params body scope .none .none doc pm an (.ref cda) ct cc) ⟨[a, u], []⟩ = pure [(("self" : Str), a), (f, u)]) : MkX1 K P mg x f := by
  obtain ⟨fI, cc, cda, I, no⟩ := iniB_ok h e top
  obtain ⟨p0, p1, p2, p3, p4, pa, q0, q1, q2, q3, rfl, hM⟩ := hb
  exact ⟨fI, cc, cda, q, params, scope, p0, p1, p2, p3, p4, pa, q0, q1, q2, q3, I, S, no f (by simp), hM fI cda cc, fun doc pm ct an a u => hbi doc pm ct an cda cc a u, hm, mS⟩
theorem mkX2_of {K : Fg} {P : Program} {mg : Str → Option Value} {x f f2 q : Str} {params : Arguments} {body : List Stmt} {scope : Scope} (h : iniB P.main.file K x [f, f2] = true) (e : fnI K x = iniV q params body scope) (top : (P.main.scope.names.lookup ("super" : Str)).isSome = false)
    (S : XI.InS [f, f2] params scope) (hm : mg x = some (.ref (He.ga K x))) (mS : mg ("super" : Str) = none)
    (hb : ∃ p0 p1 p2 p3 p4 pa pb q0 q1 q2 q3 r0 r1 r2 r3, body = XI.bodyI2 f f2 p0 p1 p2 p3 p4 pa pb q0 q1 q2 q3 r0 r1 r2 r3 ∧ (∀ fI cda cc L, XI.HasM q scope L fI cda cc [.Name f pa, .Name f2 pb] p0 p1 p2 p3))
    (hbi : ∀ (doc pm ct : Value) (an : Option Addr) (cda cc : Addr) (a u u2 : Value), bindArgs (PySem.W.ksFn "__init__" q params body scope .none .none doc pm an (.ref cda) ct cc) ⟨[a, u, u2], []⟩ = pure [(("self" : Str), a), (f, u), (f2, u2)]) : MkX2 K P mg x f f2 := by
  obtain ⟨fI, cc, cda, I, no⟩ := iniB_ok h e top
  obtain ⟨p0, p1, p2, p3, p4, pa, pb, q0, q1, q2, q3, r0, r1, r2, r3, rfl, hM⟩ := hb
  exact ⟨fI, cc, cda, q, params, scope, p0, p1, p2, p3, p4, pa, pb, q0, q1, q2, q3, r0, r1, r2, r3, I, S, no f (by simp), no f2 (by simp), hM fI cda cc, fun doc pm ct an a u u2 => hbi doc pm ct an cda cc a u u2, hm, mS⟩
theorem eMatch_eD {a : Addr} {d : Option Addr} : ∀ {fs : List (Str × D)}, (fs ≠ [] → d ≠ none) → (fs = [] → d = none) → eMatch a d (eD a d fs) = true
  | [], _, h => by
    obtain rfl := h rfl
    unfold eD eMatch adrD
    simp
  | f :: fs, h, _ => by
    cases d with
    | none => exact absurd rfl (h (by simp))
    | some dd =>
      unfold eD eMatch excD
      simp
def rtOf : Option Fl → Option D
  | some (.rt z) => some z
  | _ => none
theorem rtOf_some {o : Option Fl} {z : D} (h : rtOf o = some z) : o = some (.rt z) := by
  unfold rtOf at h
  split at h
  · cases h; rfl
  · cases h
/-- f and g alike where the slot 1 holds q -/
def Agr (q : D) (f g : Rho → Option Fl) : Prop := ∀ ρ : Rho, ρ[1]? = some (.v q) → f ρ = g ρ ∧ ∀ ρ', f ρ = some (.nx ρ') → ρ'[1]? = some (.v q)
section
variable {q : D} {f f' g g' : Rho → Option Fl}
theorem agr_seq (h1 : Agr q f f') (h2 : Agr q g g') : Agr q (sSeq f g) (sSeq f' g') := fun ρ hρ => by
  obtain ⟨e, n⟩ := h1 ρ hρ
  unfold sSeq
  rw [← e]
  cases hf : f ρ with
  | none => exact ⟨rfl, fun _ z => by cases z⟩
  | some fl =>
    cases fl with
    | nx ρ' => exact h2 ρ' (n ρ' hf)
    | rt p => exact ⟨rfl, fun _ z => by cases z⟩
    | bk ρ' => exact ⟨rfl, fun _ z => by cases z⟩
    | ct ρ' => exact ⟨rfl, fun _ z => by cases z⟩
theorem agr_if {t t' : Rho → Option Bool} (ht : ∀ ρ : Rho, ρ[1]? = some (.v q) → t ρ = t' ρ) (h1 : Agr q f f') (h2 : Agr q g g') : Agr q (sIf t f g) (sIf t' f' g') := fun ρ hρ => by
  unfold sIf
  rw [← ht ρ hρ]
  cases hb : t ρ with
  | none => exact ⟨rfl, fun _ z => by cases z⟩
  | some b =>
    cases b with
    | true => exact h1 ρ hρ
    | false => exact h2 ρ hρ
theorem agr_set {i : Nat} {e e' : Rho → Option D} (hi : i ≠ 1) (h : ∀ ρ : Rho, ρ[1]? = some (.v q) → e ρ = e' ρ) : Agr q (sSet i e) (sSet i e') := fun ρ hρ => by
  unfold sSet
  rw [← h ρ hρ]
  refine ⟨rfl, fun ρ' z => ?_⟩
  obtain ⟨p, _, z⟩ := Option.map_eq_some_iff.mp z
  cases z
  rw [List.getElem?_set_ne hi]
  exact hρ
theorem agr_ret {e e' : Rho → Option D} (h : ∀ ρ : Rho, ρ[1]? = some (.v q) → e ρ = e' ρ) : Agr q (sRet e) (sRet e') := fun ρ hρ => by
  unfold sRet
  rw [← h ρ hρ]
  refine ⟨rfl, fun ρ' z => ?_⟩
  obtain ⟨p, _, z⟩ := Option.map_eq_some_iff.mp z
  cases z
theorem agr_nil : Agr q sNil sNil := fun ρ hρ => ⟨rfl, fun ρ' z => by cases z; exact hρ⟩
end
theorem dIsE_c {m : D → Bool} {x y : Str} {q : D} {ρ : Rho} (hm : m q = true) (h : ρ[1]? = some (.v q)) : dIsE m x y 1 ρ = some (.bool (decide (x = y))) := by
  unfold dIsE
  rw [h]
  simp [hm]
theorem dFld_c {m : D → Bool} {f : Str} {q : D} {ρ : Rho} (hm : m q = true) (h : ρ[1]? = some (.v q)) : dFld m f 1 ρ = fldOf q f := by
  unfold dFld
  rw [h]
  simp [hm]
theorem hans_of {n : Nat} {xs : List Str} {hH : (D → Bool) → Str → Rho → Option Fl} {hv : Str → (Str → Option D) → Rho → Option Fl} {ans : Er → Option D} (hn : 1 < n) (h1 : ∀ (m : D → Bool) (x : Str) (q : D), m q = true → Agr q (hH m x) (hv x (fldOf q)))
    (h2 : ∀ x ∈ xs, ∀ g q, rtOf (hv x g (rhoE n q)) = rtOf (hv x g (rhoE n .none))) (h4 : ∀ er, ans er = rtOf (hv er.1 (fldOf (eD 0 (some 0) er.2)) (rhoE n .none))) :
    ∀ (a : Addr) (d : Option Addr) (er : Er) (z : D), er.1 ∈ xs → (er.2 ≠ [] → d ≠ none) → (er.2 = [] → d = none) → ans er = some z → hH (eMatch a d) er.1 (rhoE n (eD a d er.2)) = some (.rt z) := fun a d er z hx d1 d2 e => by
  have r1 : (rhoE n (eD a d er.2))[1]? = some (.v (eD a d er.2)) := by
    unfold rhoE
    rw [List.getElem?_set_self (by simpa using hn)]
  rw [((h1 _ _ _ (eMatch_eD d1 d2)) _ r1).1]
  rw [h4] at e
  have ef : fldOf (eD a d er.2) = fldOf (eD 0 (some 0) er.2) := by
    obtain ⟨x, fs⟩ := er
    cases fs with
    | nil => funext f; rfl
    | cons f fs =>
      cases d with
      | none => exact absurd rfl (d1 (by simp))
      | some dd => funext f; rfl
  rw [ef]
  exact rtOf_some ((h2 _ hx _ _).trans e)
/-- the first statement of a class's body -/
def initS : Stmt → Stmt
  | .ClassDef _ _ _ (b :: _) _ _ _ _ _ _ _ => b
  | s => s
theorem ini_at {fi : List IniD} {K : Fg} (c : fi.map (fun d => fnI K d.x) = fi.map IniD.val) (i : Nat) {d : IniD} (hd : fi[i]? = some d := by rfl) : fnI K d.x = d.val := by
  have e := congrArg (fun l => l[i]?) c
  simp only [List.getElem?_map, hd, Option.map_some] at e
  exact Option.some.inj e
end L2.P

namespace L2.P
open PySem PySem.Spec PyProof.Rows L2
def repS (k : Nat) (x : Str) : Str := ⟨(List.replicate k x.cps).foldl (· ++ ·) #[]⟩
theorem rep_size (xs : Array Nat) : ∀ (k : Nat) (acc : Array Nat), ((List.replicate k xs).foldl (· ++ ·) acc).size = acc.size + k * xs.size
  | 0, acc => by simp
  | k + 1, acc => by
    rw [List.replicate_succ, List.foldl_cons, rep_size xs k, Array.size_append, Nat.succ_mul]
    omega
def dMulS : G2
  | .str x, .int k => if 2 ≤ k ∧ k ≤ 1000 ∧ 0 < x.length ∧ x.length ≤ 100 then some (.str (repS k.toNat x)) else none
  | _, _ => none
section
variable {X : Cx}
theorem op_mulS : OpR X (binaryOp .Mult) (fun x y H Q => ∃ i k, x = .str i ∧ y = .int k ∧ 2 ≤ k ∧ k ≤ 1000 ∧ 0 < i.length ∧ i.length ≤ 100 ∧ Q (.str (repS k.toNat i)) H) := by
  intro pins s σ H x y v u Q I rx ry h
  obtain ⟨i, k, rfl, rfl, h1, h2, h3, h4, q⟩ := h
  obtain ⟨t, rfl⟩ := rx
  obtain ⟨t', rfl⟩ := ry
  have hk : ((k == 1) || (i.length == 0)) = false := by
    have e1 : (k == 1) = false := beq_eq_false_iff_ne.mpr (by omega)
    have e2 : (i.length == 0) = false := beq_eq_false_iff_ne.mpr (by omega)
    rw [e1, e2]; rfl
  have hs : (repS k.toNat i).length ≤ 100000 := by
    show ((List.replicate k.toNat i.cps).foldl (· ++ ·) #[]).size ≤ _
    rw [rep_size]
    have : i.cps.size = i.length := rfl
    rw [this]
    have a : k.toNat * i.length ≤ 1000 * 100 := Nat.mul_le_mul (by omega) h4
    simpa using a
  refine PySem.P.mul_str ?_ (fun _ _ => ?_) (fun _ _ => ?_) ?_
  · rw [decide_eq_false (show ¬ k < -(2 ^ 63 : Int) by omega), decide_eq_false (show ¬ k ≥ 2 ^ 63 by omega)]; rfl
  · have : (1000 : Int) ≤ (2 ^ 63 - 1) / k := by
      apply Int.le_ediv_of_mul_le (by omega)
      omega
    omega
  · unfold Builtin.Str.tooLong
    refine decide_eq_false ?_
    have a : i.length * k.toNat ≤ 100 * 1000 := Nat.mul_le_mul h4 (by omega)
    rw [sizeLine_eq]
    omega
  · rw [if_neg (by omega), if_neg (by rw [hk]; decide)]
    exact ⟨(show (repS k.toNat i).length ≤ sizeLine by rw [sizeLine_eq]; omega), .str (repS k.toNat i), H, I.tok _, ⟨_, rfl⟩, q⟩
theorem og_mulS : OpG X (binaryOp .Mult) dMulS := ⟨_, op_mulS, fun B F H σ ρ x y p q z Q R dx dy e k => by
  unfold dMulS at e
  split at e
  · rename_i a b
    split at e
    · rename_i hh
      cases e
      obtain rfl := Dp.inv_str (dx.dp (Same.refl _) R)
      obtain rfl := Dp.inv_int (dy.dp (Same.refl _) R)
      exact ⟨_, _, rfl, rfl, hh.1, hh.2.1, hh.2.2.1, hh.2.2.2, k F H _ R (Same.refl _) (.str _)⟩
    · cases e
  · cases e⟩
def dIndexB : G2
  | .list xs, .bool true => (boolsD xs).bind fun bs => if true ∈ bs then some (.int (bs.idxOf true : Nat)) else none
  | _, _ => none
theorem idxOf_leB : ∀ {bs : List Bool} {m : Nat}, bs[m]? = some true → bs.idxOf true ≤ m
  | [], m, h => by simp at h
  | true :: bs, m, _ => by rw [List.idxOf_cons_self]; exact Nat.zero_le _
  | false :: bs, 0, h => by simp at h
  | false :: bs, m + 1, h => by
    have e := idxOf_leB (bs := bs) (m := m) (by simpa using h)
    rw [List.idxOf_cons]
    show _ + 1 ≤ _
    omega
theorem ef_indexB {a b : Expr} {f g : Rho → Option D} {p2 cpos : Pos} (ha : XF X a f) (hb : EF X b g) (hbase : attributeBase a "index" X.env (eval a X.env) = eval a X.env := by rfl)
    (hfew : ((backTo cpos (starEach [b] X.env)).all (fun x => !x.1) && (backToKw cpos (keywordEach [] X.env)).all (fun x => x.1.isSome) && decide (([b] : List Expr).length + ([] : List Keyword).length + (if ([] : List Keyword).isEmpty then 0 else 1) < 30)) = true := by rfl)
    (hline : (p2.endLine == cpos.line) = true := by rfl) (hs : starEach [b] X.env = (false, eval b X.env) :: starEach [] X.env := by rfl) : EF X (.Call (.Attribute a "index" p2) [b] [] cpos) (b2 dIndexB f g) :=
  ⟨fW_mono, (pe_bm PySem.F.plainAttrs_list PySem.F.slot_list_index PySem.F.type_list_index mt_index ha.pe (pa_cons hb.pe pa_nil hs) hbase hfew hline hs rfl).imp fun σ H Q ⟨B, F, ρ, R, z, e, k⟩ => by
    have ⟨x, y, e1, e2, e3⟩ : ∃ x y, f ρ = some x ∧ g ρ = some y ∧ dIndexB x y = some z := by
      obtain ⟨x, e1, e⟩ := Option.bind_eq_some_iff.mp e
      obtain ⟨y, e2, e⟩ := Option.bind_eq_some_iff.mp e
      exact ⟨x, y, e1, e2, e⟩
    unfold dIndexB at e3
    split at e3
    · rename_i xs
      obtain ⟨ns, e4, e5⟩ := Option.bind_eq_some_iff.mp e3
      split at e5
      · rename_i hm
        cases e5
        refine ⟨B, F, ρ, R, _, e1, fun F1 H1 v R1 s1 d => ?_⟩
        obtain ⟨c, ys, rfl, s, r⟩ := pk_lst R1 d
        refine ⟨.inl ⟨rfl, ys, s⟩, B, F1, ρ, R1, _, e2, fun F2 H2 u R2 s2 du => ?_⟩
        obtain rfl := Dp.inv_bl du
        obtain ⟨c', ys', ec, s', r'⟩ := pk_lst R2 (d.mono s2)
        cases ec
        rw [boolsD_some e4] at r'
        rw [dpAll_bls ns r'] at s'
        have hlt : ns.idxOf true < ns.length := List.idxOf_lt_length_of_mem hm
        refine ⟨c, ns.map V.bl, .bl true, ns.idxOf true, .bl true, rfl, rfl, s', rfl, by simp [flatV], ?_, rfl, fun m z' hml hz => ?_, k F2 H2 _ R2 (s1.trans s2) (.int _)⟩
        · rw [List.getElem?_map, List.getElem?_eq_getElem hlt]
          simp
        · rw [List.getElem?_map] at hz
          obtain ⟨n, hn, rfl⟩ := Option.map_eq_some_iff.mp hz
          cases n with
          | false => rfl
          | true =>
            have := idxOf_leB hn
            omega
      · cases e5
    · cases e3⟩
end
end L2.P

namespace W
open PySem PySem.Spec PyProof.Rows L2 L2.P
def topS (i : Nat) : Stmt := PySem.Challenge.pw_tallsits_k29_texts_refused.main.body.getD i (.Pass ⟨0, 0, 0, 0⟩)
noncomputable section
variable {P : Program} {w : World} {K : PySem.W.Frag} {mg : Str → Option Value} {base : Heap} {S C : Addr}
def B_is_integer : Rho → Option Fl := (sRet (vAnd (vIsi "int" (gX 0)) (vNot (vIsi "bool" (gX 0)))))
def g_is_integer : GA := runF 1 B_is_integer

abbrev s_is_integer : Stmt := topS 1
theorem sc_is_integer : FnScope ["value"] ["value"] (defScope s_is_integer) := ⟨rfl, rfl, rfl, by decide +kernel, rfl, by decide +kernel, by decide +kernel⟩
theorem ok_is_integer (bi : Bi mg) (Fd : ∃ f fd, FunD K "is_integer" "is_integer" (defArgs s_is_integer) (defBody s_is_integer) (defScope s_is_integer) [] [] f fd ∧ mg "is_integer" = some (.ref f)) : DG P w K mg base "is_integer" 1 1 g_is_integer := by
  obtain ⟨f, fd, Fd, m⟩ := Fd
  refine ⟨f, fd, ["value"], fn_pureF (k := 0) (N := ["value"]) (g := B_is_integer) Fd sc_is_integer rfl (by decide) (fun cdv A outer s H E hr => ?_), m, Fd.kp, Fd.bindsN fun _ _ _ _ _ _ us hl => match us, hl with | [_], _ => by kernel_rfl⟩
  have rm := rm_of (X := (cxOf CX0 P w K mg base ["value"] "is_integer" (defScope s_is_integer) f cdv A outer s H E).nox) hr
  have nd := sc_is_integer.nd
  exact (sws_one (sf_ret (ef_and (ef_isi (T := "int") (xv 0) rfl bi.isinstance rfl bi.int bt_int (hv := bt_isi)) (ef_one (ef_not (ef_isi (T := "bool") (xv 0) rfl bi.isinstance rfl bi.bool bt_bool (hv := bt_isi)))))))

def B_is_in : Rho → Option Fl := (sRet (vAnd (aOf g_is_integer (aCons (gV 0) aNil)) (b3 dLe dLe (gX 1) (gX 0) (gX 2))))
def g_is_in : GA := runF 3 B_is_in

abbrev s_is_in : Stmt := topS 2
theorem sc_is_in : FnScope ["value", "least", "most"] ["value", "least", "most"] (defScope s_is_in) := ⟨rfl, rfl, rfl, by decide +kernel, rfl, by decide +kernel, by decide +kernel⟩
theorem ok_is_in (bi : Bi mg) (c_is_integer : DG P w K mg base "is_integer" 1 1 g_is_integer) (Fd : ∃ f fd, FunD K "is_in" "is_in" (defArgs s_is_in) (defBody s_is_in) (defScope s_is_in) [] [] f fd ∧ mg "is_in" = some (.ref f)) : DG P w K mg base "is_in" 2 3 g_is_in := by
  obtain ⟨f, fd, Fd, m⟩ := Fd
  refine ⟨f, fd, ["value", "least", "most"], fn_pureF (k := 1) (N := ["value", "least", "most"]) (g := B_is_in) Fd sc_is_in rfl (by decide) (fun cdv A outer s H E hr => ?_), m, Fd.kp, Fd.bindsN fun _ _ _ _ _ _ us hl => match us, hl with | [_, _, _], _ => by kernel_rfl⟩
  have rm := rm_of (X := (cxOf CX0 P w K mg base ["value", "least", "most"] "is_in" (defScope s_is_in) f cdv A outer s H E).nox) hr
  have nd := sc_is_in.nd
  exact (sws_one (sf_ret (ef_and (ef_call (c_is_integer.cal hr) (ea_cons (ev 0) ea_nil) (lenA_cons lenA_nil) rfl) (ef_one (ef_chain og_le og_le (xv 1) (xv 0) (xv 2))))))

def B_is_list : Rho → Option Fl := (sRet (vAnd (vIsi "tuple" (gX 0)) (b3 dLe dLe (gX 1) (aOf gLen (aCons (gX 0) aNil)) (gX 2))))
def g_is_list : GA := runF 3 B_is_list

abbrev s_is_list : Stmt := topS 3
theorem sc_is_list : FnScope ["value", "least", "most"] ["value", "least", "most"] (defScope s_is_list) := ⟨rfl, rfl, rfl, by decide +kernel, rfl, by decide +kernel, by decide +kernel⟩
theorem ok_is_list (bi : Bi mg) (Fd : ∃ f fd, FunD K "is_list" "is_list" (defArgs s_is_list) (defBody s_is_list) (defScope s_is_list) [] [] f fd ∧ mg "is_list" = some (.ref f)) : DG P w K mg base "is_list" 1 3 g_is_list := by
  obtain ⟨f, fd, Fd, m⟩ := Fd
  refine ⟨f, fd, ["value", "least", "most"], fn_pureF (k := 0) (N := ["value", "least", "most"]) (g := B_is_list) Fd sc_is_list rfl (by decide) (fun cdv A outer s H E hr => ?_), m, Fd.kp, Fd.bindsN fun _ _ _ _ _ _ us hl => match us, hl with | [_, _, _], _ => by kernel_rfl⟩
  have rm := rm_of (X := (cxOf CX0 P w K mg base ["value", "least", "most"] "is_list" (defScope s_is_list) f cdv A outer s H E).nox) hr
  have nd := sc_is_list.nd
  exact (sws_one (sf_ret (ef_and (ef_isi (T := "tuple") (xv 0) rfl bi.isinstance rfl bi.tuple bt_tuple (hv := bt_isi)) (ef_one (ef_chain og_le og_le (xv 1) (EW.x (c_len bi (xa_cons (xv 0) xa_nil))) (xv 2))))))

def B_need_web : Rho → Option Fl := (sSeq (sIf (bNot (bB (aOf g_is_list (aCons (gV 0) (aCons (gC (.int 1)) (aCons (gC (.int 7)) aNil)))))) sNever sNil)
  (sSeq (sSet 1 (aOf gLen (aCons (gX 0) aNil)))
  (sSeq (sFor (tg2 2 3) (fEnum (gV 0)) (sSeq (sIf (bOr (bNot (bB (aOf g_is_list (aCons (gV 3) (aCons (gC (.int 0)) (aCons (b2 dSub (gX 1) (gC (.int 1))) aNil)))))) (bNot (bB (aOf gAll (aCons (fun ρ => ((cLc [4] (tgN 4) fYes (aOf g_is_in (aCons (gV 4) (aCons (gC (.int 0)) (aCons (b2 dSub (gX 1) (gC (.int 1))) aNil)))) (fItems (gV 3))) ρ).map PyData.list) aNil))))) sNever sNil)
  (sIf (bOr (bB (b2 dNe (fun ρ => ((aOf gLst (aCons (gX 3) aNil)) ρ).map PyData.list) (fun ρ => ((nSortSet (gX 3)) ρ).map PyData.list))) (bB (b2 dIn (gX 2) (gX 3)))) sNever sNil)))
  (sFor (tg2 2 3) (fEnum (gV 0)) (sIf (bB (aOf gAny (aCons (fun ρ => ((cLc [4] (tgN 4) fYes (b2 dNotIn (gX 2) (b2 dIx (gX 0) (gX 4))) (fItems (gV 3))) ρ).map PyData.list) aNil))) sNever sNil)))))
def g_need_web : GA := runF 5 B_need_web

abbrev s_need_web : Stmt := topS 13
theorem sc_need_web : FnScope ["web", "people", "index", "friends", "other"] ["web"] (defScope s_need_web) := ⟨rfl, rfl, rfl, by decide +kernel, rfl, by decide +kernel, by decide +kernel⟩
theorem ok_need_web (bi : Bi mg) (k_MOST_PEOPLE : ∃ t, mg "MOST_PEOPLE" = some (.int 7 t)) (c_is_list : DG P w K mg base "is_list" 1 3 g_is_list) (c_is_in : DG P w K mg base "is_in" 2 3 g_is_in) (Fd : ∃ f fd, FunD K "need_web" "need_web" (defArgs s_need_web) (defBody s_need_web) (defScope s_need_web) [] [] f fd ∧ mg "need_web" = some (.ref f)) : DG P w K mg base "need_web" 3 1 g_need_web := by
  obtain ⟨f, fd, Fd, m⟩ := Fd
  refine ⟨f, fd, ["web"], fn_pureF (k := 2) (N := ["web", "people", "index", "friends", "other"]) (g := B_need_web) Fd sc_need_web rfl (by decide) (fun cdv A outer s H E hr => ?_), m, Fd.kp, Fd.bindsN fun _ _ _ _ _ _ us hl => match us, hl with | [_], _ => by kernel_rfl⟩
  have rm := rm_of (X := (cxOf CX0 P w K mg base ["web", "people", "index", "friends", "other"] "need_web" (defScope s_need_web) f cdv A outer s H E).nox) hr
  have nd := sc_need_web.nd
  exact (sfs_cons (sf_if (tf_not (tf_val (ef_call (c_is_list.cal hr) (ea_cons (ev 0) (ea_cons ef_int (ea_cons (ef_gint k_MOST_PEOPLE) ea_nil))) (lenA_cons (lenA_cons (lenA_cons lenA_nil))) rfl))) (sws_one sf_never) sfs_nil)
    (sfs_cons (sf_set (i := 1) nd rfl (by first | exact .inl rfl | exact .inr rfl) (c_len bi (xa_cons (xv 0) xa_nil)))
    (sfs_cons (sf_for PassesOwn.never rfl (if_enum bi (ev 0)) (gw_two (i := 2) (j := 3) rfl nd rfl (by first | exact .inl rfl | exact .inr rfl) rfl (by first | exact .inl rfl | exact .inr rfl)) (sfs_cons (sf_if (TWW.t (tf_or (tf_not (tf_val (ef_call (c_is_list.cal hr) (ea_cons (ev 3) (ea_cons ef_int (ea_cons (ef_bin og_sub (xv 1) (EW.x ef_int)) ea_nil))) (lenA_cons (lenA_cons (lenA_cons lenA_nil))) rfl))) (tf_or1 (tf_not (tf_val (c_all bi (xa_cons (EW.x (NF.e (NW.lc (nw_lc (own := [("other", 4)]) (g := (tgN 4)) (T := fW fYes) (E := fW (aOf g_is_in (aCons (gV 4) (aCons (gC (.int 0)) (aCons (b2 dSub (gX 1) (gC (.int 1))) aNil))))) rfl nd (if_seq (ev 3)) (blkOk_by (own := [("other", 4)]) (by kernel_rfl)) (fun _ _ _ _ _ => (gw_sub (gw_name (i := 4) nd rfl (by first | exact .inl rfl | exact .inr rfl)))) (fun _ _ _ _ _ => ts_nil) (fun _ _ _ _ _ => (ef_call (c_is_in.cal hr) (ea_cons (ev 4) (ea_cons ef_int (ea_cons (ef_bin og_sub (xv 1) (EW.x ef_int)) ea_nil))) (lenA_cons (lenA_cons (lenA_cons lenA_nil))) rfl)) s)))) xa_nil))))))) (sws_one sf_never) sfs_nil)
    (sws_one (sf_if (TWW.t (tf_or (tf_cmp (og_ne rm) (EW.x (NF.e (n_list bi (xa_cons (xv 3) xa_nil)))) (EW.x (NF.e (n_sortSet bi (xv 3)))) (nomark _)) (tf_or1 (tf_cmp (og_in rm) (xv 2) (xv 3) (by rfl))))) (sws_one sf_never) sfs_nil))))
    (sws_one (sf_for PassesOwn.never rfl (if_enum bi (ev 0)) (gw_two (i := 2) (j := 3) rfl nd rfl (by first | exact .inl rfl | exact .inr rfl) rfl (by first | exact .inl rfl | exact .inr rfl)) (sws_one (sf_if (tf_val (c_any bi (xa_cons (EW.x (NF.e (NW.lc (nw_lc (own := [("other", 4)]) (g := (tgN 4)) (T := fW fYes) (E := fW (b2 dNotIn (gX 2) (b2 dIx (gX 0) (gX 4)))) rfl nd (if_seq (ev 3)) (blkOk_by (own := [("other", 4)]) (by kernel_rfl)) (fun _ _ _ _ _ => (gw_sub (gw_name (i := 4) nd rfl (by first | exact .inl rfl | exact .inr rfl)))) (fun _ _ _ _ _ => ts_nil) (fun _ _ _ _ _ => (ef_cmp (og_notIn rm) (xv 2) (EW.x (ef_ix (xv 0) (xv 4))) (by rfl))) s)))) xa_nil))) (sws_one sf_never) sfs_nil)))))))

def E_need_web : Rho → Option Er := (eOr (eIf (bNot (bB (aOf g_is_list (aCons (gV 0) (aCons (gC (.int 1)) (aCons (gC (.int 7)) aNil)))))) (eRaise1 "BadWeb" "index" (aCons (gC .none) aNil))) (eSeq (sIf (bNot (bB (aOf g_is_list (aCons (gV 0) (aCons (gC (.int 1)) (aCons (gC (.int 7)) aNil)))))) sNever sNil)
  (eSeq (sSet 1 (aOf gLen (aCons (gX 0) aNil)))
  (eOr (eFor (tg2 2 3) (fEnum (gV 0)) (sSeq (sIf (bOr (bNot (bB (aOf g_is_list (aCons (gV 3) (aCons (gC (.int 0)) (aCons (b2 dSub (gX 1) (gC (.int 1))) aNil)))))) (bNot (bB (aOf gAll (aCons (fun ρ => ((cLc [4] (tgN 4) fYes (aOf g_is_in (aCons (gV 4) (aCons (gC (.int 0)) (aCons (b2 dSub (gX 1) (gC (.int 1))) aNil)))) (fItems (gV 3))) ρ).map PyData.list) aNil))))) sNever sNil)
  (sIf (bOr (bB (b2 dNe (fun ρ => ((aOf gLst (aCons (gX 3) aNil)) ρ).map PyData.list) (fun ρ => ((nSortSet (gX 3)) ρ).map PyData.list))) (bB (b2 dIn (gX 2) (gX 3)))) sNever sNil)) (eOr (eIf (bOr (bNot (bB (aOf g_is_list (aCons (gV 3) (aCons (gC (.int 0)) (aCons (b2 dSub (gX 1) (gC (.int 1))) aNil)))))) (bNot (bB (aOf gAll (aCons (fun ρ => ((cLc [4] (tgN 4) fYes (aOf g_is_in (aCons (gV 4) (aCons (gC (.int 0)) (aCons (b2 dSub (gX 1) (gC (.int 1))) aNil)))) (fItems (gV 3))) ρ).map PyData.list) aNil))))) (eRaise1 "BadWeb" "index" (aCons (gV 2) aNil))) (eSeq (sIf (bOr (bNot (bB (aOf g_is_list (aCons (gV 3) (aCons (gC (.int 0)) (aCons (b2 dSub (gX 1) (gC (.int 1))) aNil)))))) (bNot (bB (aOf gAll (aCons (fun ρ => ((cLc [4] (tgN 4) fYes (aOf g_is_in (aCons (gV 4) (aCons (gC (.int 0)) (aCons (b2 dSub (gX 1) (gC (.int 1))) aNil)))) (fItems (gV 3))) ρ).map PyData.list) aNil))))) sNever sNil)
  (eIf (bOr (bB (b2 dNe (fun ρ => ((aOf gLst (aCons (gX 3) aNil)) ρ).map PyData.list) (fun ρ => ((nSortSet (gX 3)) ρ).map PyData.list))) (bB (b2 dIn (gX 2) (gX 3)))) (eRaise1 "BadWeb" "index" (aCons (gV 2) aNil)))))) (eSeq (sFor (tg2 2 3) (fEnum (gV 0)) (sSeq (sIf (bOr (bNot (bB (aOf g_is_list (aCons (gV 3) (aCons (gC (.int 0)) (aCons (b2 dSub (gX 1) (gC (.int 1))) aNil)))))) (bNot (bB (aOf gAll (aCons (fun ρ => ((cLc [4] (tgN 4) fYes (aOf g_is_in (aCons (gV 4) (aCons (gC (.int 0)) (aCons (b2 dSub (gX 1) (gC (.int 1))) aNil)))) (fItems (gV 3))) ρ).map PyData.list) aNil))))) sNever sNil)
  (sIf (bOr (bB (b2 dNe (fun ρ => ((aOf gLst (aCons (gX 3) aNil)) ρ).map PyData.list) (fun ρ => ((nSortSet (gX 3)) ρ).map PyData.list))) (bB (b2 dIn (gX 2) (gX 3)))) sNever sNil)))
  (eFor (tg2 2 3) (fEnum (gV 0)) (sIf (bB (aOf gAny (aCons (fun ρ => ((cLc [4] (tgN 4) fYes (b2 dNotIn (gX 2) (b2 dIx (gX 0) (gX 4))) (fItems (gV 3))) ρ).map PyData.list) aNil))) sNever sNil) (eIf (bB (aOf gAny (aCons (fun ρ => ((cLc [4] (tgN 4) fYes (b2 dNotIn (gX 2) (b2 dIx (gX 0) (gX 4))) (fItems (gV 3))) ρ).map PyData.list) aNil))) (eRaise1 "BadWeb" "index" (aCons (gV 2) aNil)))))))))
def re_need_web : List D → Option Er := runE 5 E_need_web
theorem oke_need_web (bi : Bi mg) (k_MOST_PEOPLE : ∃ t, mg "MOST_PEOPLE" = some (.int 7 t)) (c_is_in : DG P w K mg base "is_in" 2 3 g_is_in) (c_is_list : DG P w K mg base "is_list" 1 3 g_is_list) (M_BadWeb : MkX1 K P mg "BadWeb" "index") (Fd : ∃ f fd, FunD K "need_web" "need_web" (defArgs s_need_web) (defBody s_need_web) (defScope s_need_web) [] [] f fd ∧ mg "need_web" = some (.ref f)) : DefE P w K mg base "need_web" 3 1 re_need_web := by
  obtain ⟨f, fd, Fd, m⟩ := Fd
  refine ⟨f, fd, ["web"], fn_e (k := 2) (N := ["web", "people", "index", "friends", "other"]) (r := E_need_web) Fd sc_need_web rfl (by decide) (fun cdv A outer s H E W hr tk => ?_), m, Fd.kp, Fd.bindsN fun _ _ _ _ _ _ us hl => match us, hl with | [_], _ => by kernel_rfl⟩
  have rm := rm_of (X := (cxOf (L2.CX P w) P w K mg base ["web", "people", "index", "friends", "other"] "need_web" (defScope s_need_web) f cdv A outer s H E).nox) hr
  have nd := sc_need_web.nd
  exact (e_or (e_head (e_if (tf_not (tf_val (ef_call (c_is_list.cal hr) (ea_cons (ev 0) (ea_cons ef_int (ea_cons (ef_gint k_MOST_PEOPLE) ea_nil))) (lenA_cons (lenA_cons (lenA_cons lenA_nil))) rfl))) (e_head (e_raise1 rfl tk M_BadWeb (hr.mono (by decide)) rfl (ea_cons ef_non ea_nil))))) (e_cons (sf_if (tf_not (tf_val (ef_call (c_is_list.cal hr) (ea_cons (ev 0) (ea_cons ef_int (ea_cons (ef_gint k_MOST_PEOPLE) ea_nil))) (lenA_cons (lenA_cons (lenA_cons lenA_nil))) rfl))) (sws_one sf_never) sfs_nil)
    (e_cons (sf_set (i := 1) nd rfl (by first | exact .inl rfl | exact .inr rfl) (c_len bi (xa_cons (xv 0) xa_nil)))
    (e_or (e_head (e_for (passes_of rfl) rfl (if_enum bi (ev 0)) (gw_two (i := 2) (j := 3) rfl nd rfl (by first | exact .inl rfl | exact .inr rfl) rfl (by first | exact .inl rfl | exact .inr rfl)) (sfs_cons (sf_if (TWW.t (tf_or (tf_not (tf_val (ef_call (c_is_list.cal hr) (ea_cons (ev 3) (ea_cons ef_int (ea_cons (ef_bin og_sub (xv 1) (EW.x ef_int)) ea_nil))) (lenA_cons (lenA_cons (lenA_cons lenA_nil))) rfl))) (tf_or1 (tf_not (tf_val (c_all bi (xa_cons (EW.x (NF.e (NW.lc (nw_lc (own := [("other", 4)]) (g := (tgN 4)) (T := fW fYes) (E := fW (aOf g_is_in (aCons (gV 4) (aCons (gC (.int 0)) (aCons (b2 dSub (gX 1) (gC (.int 1))) aNil))))) rfl nd (if_seq (ev 3)) (blkOk_by (own := [("other", 4)]) (by kernel_rfl)) (fun _ _ _ _ _ => (gw_sub (gw_name (i := 4) nd rfl (by first | exact .inl rfl | exact .inr rfl)))) (fun _ _ _ _ _ => ts_nil) (fun _ _ _ _ _ => (ef_call (c_is_in.cal hr) (ea_cons (ev 4) (ea_cons ef_int (ea_cons (ef_bin og_sub (xv 1) (EW.x ef_int)) ea_nil))) (lenA_cons (lenA_cons (lenA_cons lenA_nil))) rfl)) s)))) xa_nil))))))) (sws_one sf_never) sfs_nil)
    (sws_one (sf_if (TWW.t (tf_or (tf_cmp (og_ne rm) (EW.x (NF.e (n_list bi (xa_cons (xv 3) xa_nil)))) (EW.x (NF.e (n_sortSet bi (xv 3)))) (nomark _)) (tf_or1 (tf_cmp (og_in rm) (xv 2) (xv 3) (by rfl))))) (sws_one sf_never) sfs_nil))) (e_or (e_head (e_if (TWW.t (tf_or (tf_not (tf_val (ef_call (c_is_list.cal hr) (ea_cons (ev 3) (ea_cons ef_int (ea_cons (ef_bin og_sub (xv 1) (EW.x ef_int)) ea_nil))) (lenA_cons (lenA_cons (lenA_cons lenA_nil))) rfl))) (tf_or1 (tf_not (tf_val (c_all bi (xa_cons (EW.x (NF.e (NW.lc (nw_lc (own := [("other", 4)]) (g := (tgN 4)) (T := fW fYes) (E := fW (aOf g_is_in (aCons (gV 4) (aCons (gC (.int 0)) (aCons (b2 dSub (gX 1) (gC (.int 1))) aNil))))) rfl nd (if_seq (ev 3)) (blkOk_by (own := [("other", 4)]) (by kernel_rfl)) (fun _ _ _ _ _ => (gw_sub (gw_name (i := 4) nd rfl (by first | exact .inl rfl | exact .inr rfl)))) (fun _ _ _ _ _ => ts_nil) (fun _ _ _ _ _ => (ef_call (c_is_in.cal hr) (ea_cons (ev 4) (ea_cons ef_int (ea_cons (ef_bin og_sub (xv 1) (EW.x ef_int)) ea_nil))) (lenA_cons (lenA_cons (lenA_cons lenA_nil))) rfl)) s)))) xa_nil))))))) (e_head (e_raise1 rfl tk M_BadWeb (hr.mono (by decide)) rfl (ea_cons (ev 2) ea_nil))))) (e_cons (sf_if (TWW.t (tf_or (tf_not (tf_val (ef_call (c_is_list.cal hr) (ea_cons (ev 3) (ea_cons ef_int (ea_cons (ef_bin og_sub (xv 1) (EW.x ef_int)) ea_nil))) (lenA_cons (lenA_cons (lenA_cons lenA_nil))) rfl))) (tf_or1 (tf_not (tf_val (c_all bi (xa_cons (EW.x (NF.e (NW.lc (nw_lc (own := [("other", 4)]) (g := (tgN 4)) (T := fW fYes) (E := fW (aOf g_is_in (aCons (gV 4) (aCons (gC (.int 0)) (aCons (b2 dSub (gX 1) (gC (.int 1))) aNil))))) rfl nd (if_seq (ev 3)) (blkOk_by (own := [("other", 4)]) (by kernel_rfl)) (fun _ _ _ _ _ => (gw_sub (gw_name (i := 4) nd rfl (by first | exact .inl rfl | exact .inr rfl)))) (fun _ _ _ _ _ => ts_nil) (fun _ _ _ _ _ => (ef_call (c_is_in.cal hr) (ea_cons (ev 4) (ea_cons ef_int (ea_cons (ef_bin og_sub (xv 1) (EW.x ef_int)) ea_nil))) (lenA_cons (lenA_cons (lenA_cons lenA_nil))) rfl)) s)))) xa_nil))))))) (sws_one sf_never) sfs_nil)
    (e_head (e_if (TWW.t (tf_or (tf_cmp (og_ne rm) (EW.x (NF.e (n_list bi (xa_cons (xv 3) xa_nil)))) (EW.x (NF.e (n_sortSet bi (xv 3)))) (nomark _)) (tf_or1 (tf_cmp (og_in rm) (xv 2) (xv 3) (by rfl))))) (e_head (e_raise1 rfl tk M_BadWeb (hr.mono (by decide)) rfl (ea_cons (ev 2) ea_nil))))))))) (e_cons (sf_for PassesOwn.never rfl (if_enum bi (ev 0)) (gw_two (i := 2) (j := 3) rfl nd rfl (by first | exact .inl rfl | exact .inr rfl) rfl (by first | exact .inl rfl | exact .inr rfl)) (sfs_cons (sf_if (TWW.t (tf_or (tf_not (tf_val (ef_call (c_is_list.cal hr) (ea_cons (ev 3) (ea_cons ef_int (ea_cons (ef_bin og_sub (xv 1) (EW.x ef_int)) ea_nil))) (lenA_cons (lenA_cons (lenA_cons lenA_nil))) rfl))) (tf_or1 (tf_not (tf_val (c_all bi (xa_cons (EW.x (NF.e (NW.lc (nw_lc (own := [("other", 4)]) (g := (tgN 4)) (T := fW fYes) (E := fW (aOf g_is_in (aCons (gV 4) (aCons (gC (.int 0)) (aCons (b2 dSub (gX 1) (gC (.int 1))) aNil))))) rfl nd (if_seq (ev 3)) (blkOk_by (own := [("other", 4)]) (by kernel_rfl)) (fun _ _ _ _ _ => (gw_sub (gw_name (i := 4) nd rfl (by first | exact .inl rfl | exact .inr rfl)))) (fun _ _ _ _ _ => ts_nil) (fun _ _ _ _ _ => (ef_call (c_is_in.cal hr) (ea_cons (ev 4) (ea_cons ef_int (ea_cons (ef_bin og_sub (xv 1) (EW.x ef_int)) ea_nil))) (lenA_cons (lenA_cons (lenA_cons lenA_nil))) rfl)) s)))) xa_nil))))))) (sws_one sf_never) sfs_nil)
    (sws_one (sf_if (TWW.t (tf_or (tf_cmp (og_ne rm) (EW.x (NF.e (n_list bi (xa_cons (xv 3) xa_nil)))) (EW.x (NF.e (n_sortSet bi (xv 3)))) (nomark _)) (tf_or1 (tf_cmp (og_in rm) (xv 2) (xv 3) (by rfl))))) (sws_one sf_never) sfs_nil))))
    (e_head (e_for (passes_of rfl) rfl (if_enum bi (ev 0)) (gw_two (i := 2) (j := 3) rfl nd rfl (by first | exact .inl rfl | exact .inr rfl) rfl (by first | exact .inl rfl | exact .inr rfl)) (sws_one (sf_if (tf_val (c_any bi (xa_cons (EW.x (NF.e (NW.lc (nw_lc (own := [("other", 4)]) (g := (tgN 4)) (T := fW fYes) (E := fW (b2 dNotIn (gX 2) (b2 dIx (gX 0) (gX 4)))) rfl nd (if_seq (ev 3)) (blkOk_by (own := [("other", 4)]) (by kernel_rfl)) (fun _ _ _ _ _ => (gw_sub (gw_name (i := 4) nd rfl (by first | exact .inl rfl | exact .inr rfl)))) (fun _ _ _ _ _ => ts_nil) (fun _ _ _ _ _ => (ef_cmp (og_notIn rm) (xv 2) (EW.x (ef_ix (xv 0) (xv 4))) (by rfl))) s)))) xa_nil))) (sws_one sf_never) sfs_nil)) (e_head (e_if (tf_val (c_any bi (xa_cons (EW.x (NF.e (NW.lc (nw_lc (own := [("other", 4)]) (g := (tgN 4)) (T := fW fYes) (E := fW (b2 dNotIn (gX 2) (b2 dIx (gX 0) (gX 4)))) rfl nd (if_seq (ev 3)) (blkOk_by (own := [("other", 4)]) (by kernel_rfl)) (fun _ _ _ _ _ => (gw_sub (gw_name (i := 4) nd rfl (by first | exact .inl rfl | exact .inr rfl)))) (fun _ _ _ _ _ => ts_nil) (fun _ _ _ _ _ => (ef_cmp (og_notIn rm) (xv 2) (EW.x (ef_ix (xv 0) (xv 4))) (by rfl))) s)))) xa_nil))) (e_head (e_raise1 rfl tk M_BadWeb (hr.mono (by decide)) rfl (ea_cons (ev 2) ea_nil))))))))))))

def B_is_set : Rho → Option Fl := (sSeq (sSet 2 (aOf gLen (aCons (gX 0) aNil)))
  (sSeq (sIf (bOr (bNot (bB (aOf g_is_list (aCons (gV 1) (aCons (gC (.int 0)) (aCons (gV 2) aNil)))))) (bNot (bB (aOf gAll (aCons (fun ρ => ((cLc [3] (tgN 3) fYes (aOf g_is_in (aCons (gV 3) (aCons (gC (.int 0)) (aCons (b2 dSub (gX 2) (gC (.int 1))) aNil)))) (fItems (gV 1))) ρ).map PyData.list) aNil))))) (sRet (gC (.bool false))) sNil)
  (sRet (b2 dEq (fun ρ => ((aOf gLst (aCons (gX 1) aNil)) ρ).map PyData.list) (fun ρ => ((nSortSet (gX 1)) ρ).map PyData.list)))))
def g_is_set : GA := runF 4 B_is_set

abbrev s_is_set : Stmt := topS 14
theorem sc_is_set : FnScope ["web", "people", "many", "person"] ["web", "people"] (defScope s_is_set) := ⟨rfl, rfl, rfl, by decide +kernel, rfl, by decide +kernel, by decide +kernel⟩
theorem ok_is_set (bi : Bi mg) (c_is_list : DG P w K mg base "is_list" 1 3 g_is_list) (c_is_in : DG P w K mg base "is_in" 2 3 g_is_in) (Fd : ∃ f fd, FunD K "is_set" "is_set" (defArgs s_is_set) (defBody s_is_set) (defScope s_is_set) [] [] f fd ∧ mg "is_set" = some (.ref f)) : DG P w K mg base "is_set" 3 2 g_is_set := by
  obtain ⟨f, fd, Fd, m⟩ := Fd
  refine ⟨f, fd, ["web", "people"], fn_pureF (k := 2) (N := ["web", "people", "many", "person"]) (g := B_is_set) Fd sc_is_set rfl (by decide) (fun cdv A outer s H E hr => ?_), m, Fd.kp, Fd.bindsN fun _ _ _ _ _ _ us hl => match us, hl with | [_, _], _ => by kernel_rfl⟩
  have rm := rm_of (X := (cxOf CX0 P w K mg base ["web", "people", "many", "person"] "is_set" (defScope s_is_set) f cdv A outer s H E).nox) hr
  have nd := sc_is_set.nd
  exact (sfs_cons (sf_set (i := 2) nd rfl (by first | exact .inl rfl | exact .inr rfl) (c_len bi (xa_cons (xv 0) xa_nil)))
    (sfs_cons (sf_if (TWW.t (tf_or (tf_not (tf_val (ef_call (c_is_list.cal hr) (ea_cons (ev 1) (ea_cons ef_int (ea_cons (ev 2) ea_nil))) (lenA_cons (lenA_cons (lenA_cons lenA_nil))) rfl))) (tf_or1 (tf_not (tf_val (c_all bi (xa_cons (EW.x (NF.e (NW.lc (nw_lc (own := [("person", 3)]) (g := (tgN 3)) (T := fW fYes) (E := fW (aOf g_is_in (aCons (gV 3) (aCons (gC (.int 0)) (aCons (b2 dSub (gX 2) (gC (.int 1))) aNil))))) rfl nd (if_seq (ev 1)) (blkOk_by (own := [("person", 3)]) (by kernel_rfl)) (fun _ _ _ _ _ => (gw_sub (gw_name (i := 3) nd rfl (by first | exact .inl rfl | exact .inr rfl)))) (fun _ _ _ _ _ => ts_nil) (fun _ _ _ _ _ => (ef_call (c_is_in.cal hr) (ea_cons (ev 3) (ea_cons ef_int (ea_cons (ef_bin og_sub (xv 2) (EW.x ef_int)) ea_nil))) (lenA_cons (lenA_cons (lenA_cons lenA_nil))) rfl)) s)))) xa_nil))))))) (sws_one (sf_ret ef_bl)) sfs_nil)
    (sws_one (sf_ret (ef_cmp (og_eq rm) (EW.x (NF.e (n_list bi (xa_cons (xv 1) xa_nil)))) (EW.x (NF.e (n_sortSet bi (xv 1)))) (nomark _))))))

def B_need_state : Rho → Option Fl := (sSeq (sDrop (aOf g_need_web (aCons (gV 0) aNil)))
  (sIf (bNot (bB (aOf g_is_set (aCons (gV 0) (aCons (gV 1) aNil))))) sNever sNil))
def g_need_state : GA := runF 2 B_need_state

abbrev s_need_state : Stmt := topS 15
theorem sc_need_state : FnScope ["web", "standing"] ["web", "standing"] (defScope s_need_state) := ⟨rfl, rfl, rfl, by decide +kernel, rfl, by decide +kernel, by decide +kernel⟩
theorem ok_need_state (bi : Bi mg) (c_need_web : DG P w K mg base "need_web" 3 1 g_need_web) (c_is_set : DG P w K mg base "is_set" 3 2 g_is_set) (Fd : ∃ f fd, FunD K "need_state" "need_state" (defArgs s_need_state) (defBody s_need_state) (defScope s_need_state) [] [] f fd ∧ mg "need_state" = some (.ref f)) : DG P w K mg base "need_state" 4 2 g_need_state := by
  obtain ⟨f, fd, Fd, m⟩ := Fd
  refine ⟨f, fd, ["web", "standing"], fn_pureF (k := 3) (N := ["web", "standing"]) (g := B_need_state) Fd sc_need_state rfl (by decide) (fun cdv A outer s H E hr => ?_), m, Fd.kp, Fd.bindsN fun _ _ _ _ _ _ us hl => match us, hl with | [_, _], _ => by kernel_rfl⟩
  have rm := rm_of (X := (cxOf CX0 P w K mg base ["web", "standing"] "need_state" (defScope s_need_state) f cdv A outer s H E).nox) hr
  have nd := sc_need_state.nd
  exact (sfs_cons (sf_expr (ef_call (c_need_web.cal hr) (ea_cons (ev 0) ea_nil) (lenA_cons lenA_nil) rfl))
    (sws_one (sf_if (tf_not (tf_val (ef_call (c_is_set.cal hr) (ea_cons (ev 0) (ea_cons (ev 1) ea_nil)) (lenA_cons (lenA_cons lenA_nil)) rfl))) (sws_one sf_never) sfs_nil)))

def E_need_state : Rho → Option Er := (eOr (eCall (aCons (gV 0) aNil) re_need_web) (eSeq (sDrop (aOf g_need_web (aCons (gV 0) aNil)))
  (eIf (bNot (bB (aOf g_is_set (aCons (gV 0) (aCons (gV 1) aNil))))) (fun _ => some ("BadStanding", [])))))
def re_need_state : List D → Option Er := runE 2 E_need_state
theorem oke_need_state (bi : Bi mg) (c_is_set : DG P w K mg base "is_set" 3 2 g_is_set) (c_need_web : DG P w K mg base "need_web" 3 1 g_need_web) (e_need_web : DefE P w K mg base "need_web" 3 1 re_need_web) (N_BadStanding : NmOk K mg "BadStanding" (He.ga K "BadStanding")) (Fd : ∃ f fd, FunD K "need_state" "need_state" (defArgs s_need_state) (defBody s_need_state) (defScope s_need_state) [] [] f fd ∧ mg "need_state" = some (.ref f)) : DefE P w K mg base "need_state" 4 2 re_need_state := by
  obtain ⟨f, fd, Fd, m⟩ := Fd
  refine ⟨f, fd, ["web", "standing"], fn_e (k := 3) (N := ["web", "standing"]) (r := E_need_state) Fd sc_need_state rfl (by decide) (fun cdv A outer s H E W hr tk => ?_), m, Fd.kp, Fd.bindsN fun _ _ _ _ _ _ us hl => match us, hl with | [_, _], _ => by kernel_rfl⟩
  have rm := rm_of (X := (cxOf (L2.CX P w) P w K mg base ["web", "standing"] "need_state" (defScope s_need_state) f cdv A outer s H E).nox) hr
  have nd := sc_need_state.nd
  exact (e_or (e_head (e_call (e_need_web.cal hr) tk (ea_cons (ev 0) ea_nil) (lenA_cons lenA_nil) rfl)) (e_cons (sf_expr (ef_call (c_need_web.cal hr) (ea_cons (ev 0) ea_nil) (lenA_cons lenA_nil) rfl))
    (e_head (e_if (tf_not (tf_val (ef_call (c_is_set.cal hr) (ea_cons (ev 0) (ea_cons (ev 1) ea_nil)) (lenA_cons (lenA_cons lenA_nil)) rfl))) (e_head (e_raise0 rfl tk N_BadStanding rfl))))))

def B_pairs_in : Rho → Option Fl := (sSeq (sSetO 1 aNil)
  (sSeq (sFor (tgN 2) (aOf gRng1 (aCons (aOf gLen (aCons (gX 0) aNil)) aNil)) (sFor (tgN 3) (fItems (b2 dIx (gX 0) (gX 2))) (sIf (bB (b2 dLt (gX 2) (gX 3))) (sApp 1 (vTup (aCons (gV 2) (aCons (gV 3) aNil)))) sNil)))
  (sRet (gX 1))))
def g_pairs_in : GA := runF 4 B_pairs_in

abbrev s_pairs_in : Stmt := topS 16
theorem sc_pairs_in : FnScope ["web", "found", "one", "other"] ["web"] (defScope s_pairs_in) := ⟨rfl, rfl, rfl, by decide +kernel, rfl, by decide +kernel, by decide +kernel⟩
theorem ok_pairs_in (bi : Bi mg) (Fd : ∃ f fd, FunD K "pairs_in" "pairs_in" (defArgs s_pairs_in) (defBody s_pairs_in) (defScope s_pairs_in) [] [] f fd ∧ mg "pairs_in" = some (.ref f)) : DG P w K mg base "pairs_in" 1 1 g_pairs_in := by
  obtain ⟨f, fd, Fd, m⟩ := Fd
  refine ⟨f, fd, ["web"], fn_pureF (k := 0) (N := ["web", "found", "one", "other"]) (g := B_pairs_in) Fd sc_pairs_in rfl (by decide) (fun cdv A outer s H E hr => ?_), m, Fd.kp, Fd.bindsN fun _ _ _ _ _ _ us hl => match us, hl with | [_], _ => by kernel_rfl⟩
  have rm := rm_of (X := (cxOf CX0 P w K mg base ["web", "found", "one", "other"] "pairs_in" (defScope s_pairs_in) f cdv A outer s H E).nox) hr
  have nd := sc_pairs_in.nd
  exact (sfs_cons (NSF.so (ns_set (i := 1) nd rfl (by first | exact .inl rfl | exact .inr rfl) (nf_lst ea_nil lenA_nil)))
    (sfs_cons (sf_for PassesOwn.never rfl (if_rng1 rfl bi.range (xa_cons (EW.x (c_len bi (xa_cons (xv 0) xa_nil))) xa_nil)) (gw_name (i := 2) nd rfl (by first | exact .inl rfl | exact .inr rfl)) (sws_one (sf_for PassesOwn.never rfl (if_seq (ef_ix (xv 0) (xv 2))) (gw_name (i := 3) nd rfl (by first | exact .inl rfl | exact .inr rfl)) (sws_one (sf_if (tf_cmp og_lt (xv 2) (xv 3) (nomark _)) (sws_one (sf_app (i := 1) rfl (by first | exact .inl rfl | exact .inr (.inl rfl) | exact .inr (.inr rfl)) (ef_tup (ea_cons (ev 2) (ea_cons (ev 3) ea_nil)) (lenA_cons (lenA_cons lenA_nil))))) sfs_nil)))))
    (sws_one (sf_retx (xv 1)))))

def B_need_calls : Rho → Option Fl := (sSeq (sIf (bNot (bB (aOf g_is_list (aCons (gV 1) (aCons (gC (.int 0)) (aCons (gC (.int 60)) aNil)))))) sNever sNil)
  (sFor (tg2 2 3) (fEnum (gV 1)) (sIf (bNot (bB (aOf g_is_in (aCons (gV 3) (aCons (gC (.int 0)) (aCons (b2 dSub (aOf gLen (aCons (gX 0) aNil)) (gC (.int 1))) aNil)))))) sNever sNil)))
def g_need_calls : GA := runF 4 B_need_calls

abbrev s_need_calls : Stmt := topS 19
theorem sc_need_calls : FnScope ["web", "calls", "index", "person"] ["web", "calls"] (defScope s_need_calls) := ⟨rfl, rfl, rfl, by decide +kernel, rfl, by decide +kernel, by decide +kernel⟩
theorem ok_need_calls (bi : Bi mg) (k_MOST_CALLS : ∃ t, mg "MOST_CALLS" = some (.int 60 t)) (c_is_list : DG P w K mg base "is_list" 1 3 g_is_list) (c_is_in : DG P w K mg base "is_in" 2 3 g_is_in) (Fd : ∃ f fd, FunD K "need_calls" "need_calls" (defArgs s_need_calls) (defBody s_need_calls) (defScope s_need_calls) [] [] f fd ∧ mg "need_calls" = some (.ref f)) : DG P w K mg base "need_calls" 3 2 g_need_calls := by
  obtain ⟨f, fd, Fd, m⟩ := Fd
  refine ⟨f, fd, ["web", "calls"], fn_pureF (k := 2) (N := ["web", "calls", "index", "person"]) (g := B_need_calls) Fd sc_need_calls rfl (by decide) (fun cdv A outer s H E hr => ?_), m, Fd.kp, Fd.bindsN fun _ _ _ _ _ _ us hl => match us, hl with | [_, _], _ => by kernel_rfl⟩
  have rm := rm_of (X := (cxOf CX0 P w K mg base ["web", "calls", "index", "person"] "need_calls" (defScope s_need_calls) f cdv A outer s H E).nox) hr
  have nd := sc_need_calls.nd
  exact (sfs_cons (sf_if (tf_not (tf_val (ef_call (c_is_list.cal hr) (ea_cons (ev 1) (ea_cons ef_int (ea_cons (ef_gint k_MOST_CALLS) ea_nil))) (lenA_cons (lenA_cons (lenA_cons lenA_nil))) rfl))) (sws_one sf_never) sfs_nil)
    (sws_one (sf_for PassesOwn.never rfl (if_enum bi (ev 1)) (gw_two (i := 2) (j := 3) rfl nd rfl (by first | exact .inl rfl | exact .inr rfl) rfl (by first | exact .inl rfl | exact .inr rfl)) (sws_one (sf_if (tf_not (tf_val (ef_call (c_is_in.cal hr) (ea_cons (ev 3) (ea_cons ef_int (ea_cons (ef_bin og_sub (EW.x (c_len bi (xa_cons (xv 0) xa_nil))) (EW.x ef_int)) ea_nil))) (lenA_cons (lenA_cons (lenA_cons lenA_nil))) rfl))) (sws_one sf_never) sfs_nil)))))

def E_need_calls : Rho → Option Er := (eOr (eIf (bNot (bB (aOf g_is_list (aCons (gV 1) (aCons (gC (.int 0)) (aCons (gC (.int 60)) aNil)))))) (eRaise1 "BadCalls" "index" (aCons (gC .none) aNil))) (eSeq (sIf (bNot (bB (aOf g_is_list (aCons (gV 1) (aCons (gC (.int 0)) (aCons (gC (.int 60)) aNil)))))) sNever sNil)
  (eFor (tg2 2 3) (fEnum (gV 1)) (sIf (bNot (bB (aOf g_is_in (aCons (gV 3) (aCons (gC (.int 0)) (aCons (b2 dSub (aOf gLen (aCons (gX 0) aNil)) (gC (.int 1))) aNil)))))) sNever sNil) (eIf (bNot (bB (aOf g_is_in (aCons (gV 3) (aCons (gC (.int 0)) (aCons (b2 dSub (aOf gLen (aCons (gX 0) aNil)) (gC (.int 1))) aNil)))))) (eRaise1 "BadCalls" "index" (aCons (gV 2) aNil))))))
def re_need_calls : List D → Option Er := runE 4 E_need_calls
theorem oke_need_calls (bi : Bi mg) (k_MOST_CALLS : ∃ t, mg "MOST_CALLS" = some (.int 60 t)) (c_is_in : DG P w K mg base "is_in" 2 3 g_is_in) (c_is_list : DG P w K mg base "is_list" 1 3 g_is_list) (M_BadCalls : MkX1 K P mg "BadCalls" "index") (Fd : ∃ f fd, FunD K "need_calls" "need_calls" (defArgs s_need_calls) (defBody s_need_calls) (defScope s_need_calls) [] [] f fd ∧ mg "need_calls" = some (.ref f)) : DefE P w K mg base "need_calls" 3 2 re_need_calls := by
  obtain ⟨f, fd, Fd, m⟩ := Fd
  refine ⟨f, fd, ["web", "calls"], fn_e (k := 2) (N := ["web", "calls", "index", "person"]) (r := E_need_calls) Fd sc_need_calls rfl (by decide) (fun cdv A outer s H E W hr tk => ?_), m, Fd.kp, Fd.bindsN fun _ _ _ _ _ _ us hl => match us, hl with | [_, _], _ => by kernel_rfl⟩
  have rm := rm_of (X := (cxOf (L2.CX P w) P w K mg base ["web", "calls", "index", "person"] "need_calls" (defScope s_need_calls) f cdv A outer s H E).nox) hr
  have nd := sc_need_calls.nd
  exact (e_or (e_head (e_if (tf_not (tf_val (ef_call (c_is_list.cal hr) (ea_cons (ev 1) (ea_cons ef_int (ea_cons (ef_gint k_MOST_CALLS) ea_nil))) (lenA_cons (lenA_cons (lenA_cons lenA_nil))) rfl))) (e_head (e_raise1 rfl tk M_BadCalls (hr.mono (by decide)) rfl (ea_cons ef_non ea_nil))))) (e_cons (sf_if (tf_not (tf_val (ef_call (c_is_list.cal hr) (ea_cons (ev 1) (ea_cons ef_int (ea_cons (ef_gint k_MOST_CALLS) ea_nil))) (lenA_cons (lenA_cons (lenA_cons lenA_nil))) rfl))) (sws_one sf_never) sfs_nil)
    (e_head (e_for (passes_of rfl) rfl (if_enum bi (ev 1)) (gw_two (i := 2) (j := 3) rfl nd rfl (by first | exact .inl rfl | exact .inr rfl) rfl (by first | exact .inl rfl | exact .inr rfl)) (sws_one (sf_if (tf_not (tf_val (ef_call (c_is_in.cal hr) (ea_cons (ev 3) (ea_cons ef_int (ea_cons (ef_bin og_sub (EW.x (c_len bi (xa_cons (xv 0) xa_nil))) (EW.x ef_int)) ea_nil))) (lenA_cons (lenA_cons (lenA_cons lenA_nil))) rfl))) (sws_one sf_never) sfs_nil)) (e_head (e_if (tf_not (tf_val (ef_call (c_is_in.cal hr) (ea_cons (ev 3) (ea_cons ef_int (ea_cons (ef_bin og_sub (EW.x (c_len bi (xa_cons (xv 0) xa_nil))) (EW.x ef_int)) ea_nil))) (lenA_cons (lenA_cons (lenA_cons lenA_nil))) rfl))) (e_head (e_raise1 rfl tk M_BadCalls (hr.mono (by decide)) rfl (ea_cons (ev 2) ea_nil)))))))))

def B_number_of : Rho → Option Fl := (sSeq (sIf (bOr (bB (b2 dNe (aOf gLen (aCons (gX 0) aNil)) (gC (.int 1)))) (bB (b2 dNotInS (gX 0) (gC (.str "0123456"))))) (sRet (gC .none)) sNil)
  (sRet (vIf (bB (b2 dLe (aOf gIntS (aCons (gX 0) aNil)) (gX 1))) (aOf gIntS (aCons (gX 0) aNil)) (gC .none))))
def g_number_of : GA := runF 2 B_number_of

abbrev s_number_of : Stmt := topS 22
theorem sc_number_of : FnScope ["word", "most"] ["word", "most"] (defScope s_number_of) := ⟨rfl, rfl, rfl, by decide +kernel, rfl, by decide +kernel, by decide +kernel⟩
theorem ok_number_of (bi : Bi mg) (k_DIGITS : ∃ t, mg "DIGITS" = some (.str "0123456" t)) (Fd : ∃ f fd, FunD K "number_of" "number_of" (defArgs s_number_of) (defBody s_number_of) (defScope s_number_of) [] [] f fd ∧ mg "number_of" = some (.ref f)) : DG P w K mg base "number_of" 1 2 g_number_of := by
  obtain ⟨f, fd, Fd, m⟩ := Fd
  refine ⟨f, fd, ["word", "most"], fn_pureF (k := 0) (N := ["word", "most"]) (g := B_number_of) Fd sc_number_of rfl (by decide) (fun cdv A outer s H E hr => ?_), m, Fd.kp, Fd.bindsN fun _ _ _ _ _ _ us hl => match us, hl with | [_, _], _ => by kernel_rfl⟩
  have rm := rm_of (X := (cxOf CX0 P w K mg base ["word", "most"] "number_of" (defScope s_number_of) f cdv A outer s H E).nox) hr
  have nd := sc_number_of.nd
  exact (sfs_cons (sf_if (TWW.t (tf_or (tf_cmp (og_ne rm) (EW.x (c_len bi (xa_cons (xv 0) xa_nil))) (EW.x ef_int) (nomark _)) (tf_or1 (tf_cmp og_notInS (xv 0) (EW.x (ef_gstr k_DIGITS)) (by rfl))))) (sws_one (sf_ret ef_non)) sfs_nil)
    (sws_one (sf_ret (ef_if (tf_cmp og_le (EW.x (c_intS bi (xa_cons (xv 0) xa_nil))) (xv 1) (nomark _)) (c_intS bi (xa_cons (xv 0) xa_nil)) ef_non))))

def B_words_of : Rho → Option Fl := (sRet (fun ρ => ((cLc [1] (tgN 1) (bB (b2 dNe (gX 1) (gC (.str "")))) (gV 1) (fItems (fun ρ => ((nSplit (gV 0) (gC (.str " "))) ρ).map PyData.list))) ρ).map PyData.list))
def g_words_of : GA := runF 2 B_words_of

abbrev s_words_of : Stmt := topS 23
theorem sc_words_of : FnScope ["text", "word"] ["text"] (defScope s_words_of) := ⟨rfl, rfl, rfl, by decide +kernel, rfl, by decide +kernel, by decide +kernel⟩
theorem ok_words_of (bi : Bi mg) (Fd : ∃ f fd, FunD K "words_of" "words_of" (defArgs s_words_of) (defBody s_words_of) (defScope s_words_of) [] [] f fd ∧ mg "words_of" = some (.ref f)) : DG P w K mg base "words_of" 1 1 g_words_of := by
  obtain ⟨f, fd, Fd, m⟩ := Fd
  refine ⟨f, fd, ["text"], fn_pureF (k := 0) (N := ["text", "word"]) (g := B_words_of) Fd sc_words_of rfl (by decide) (fun cdv A outer s H E hr => ?_), m, Fd.kp, Fd.bindsN fun _ _ _ _ _ _ us hl => match us, hl with | [_], _ => by kernel_rfl⟩
  have rm := rm_of (X := (cxOf CX0 P w K mg base ["text", "word"] "words_of" (defScope s_words_of) f cdv A outer s H E).nox) hr
  have nd := sc_words_of.nd
  exact (sws_one (sf_ret (NF.e (NW.lc (nw_lc (own := [("word", 1)]) (g := (tgN 1)) (T := fW (bB (b2 dNe (gX 1) (gC (.str ""))))) (E := fW (gV 1)) rfl nd (if_seq (NF.e (nf_split (ev 0) ef_str))) (blkOk_by (own := [("word", 1)]) (by kernel_rfl)) (fun _ _ _ _ _ => (gw_sub (gw_name (i := 1) nd rfl (by first | exact .inl rfl | exact .inr rfl)))) (fun _ _ _ _ _ => (ts_one (tf_cmp (og_ne rm) (xv 1) (EW.x ef_str) (nomark _)))) (fun _ _ _ _ _ => (ev 1)) s)))))

def B_need_text : Rho → Option Fl := (sIf (bNot (bB (vIsi "str" (gX 0)))) sNever sNil)
def g_need_text : GA := runF 1 B_need_text

abbrev s_need_text : Stmt := topS 24
theorem sc_need_text : FnScope ["text"] ["text"] (defScope s_need_text) := ⟨rfl, rfl, rfl, by decide +kernel, rfl, by decide +kernel, by decide +kernel⟩
theorem ok_need_text (bi : Bi mg) (Fd : ∃ f fd, FunD K "need_text" "need_text" (defArgs s_need_text) (defBody s_need_text) (defScope s_need_text) [] [] f fd ∧ mg "need_text" = some (.ref f)) : DG P w K mg base "need_text" 1 1 g_need_text := by
  obtain ⟨f, fd, Fd, m⟩ := Fd
  refine ⟨f, fd, ["text"], fn_pureF (k := 0) (N := ["text"]) (g := B_need_text) Fd sc_need_text rfl (by decide) (fun cdv A outer s H E hr => ?_), m, Fd.kp, Fd.bindsN fun _ _ _ _ _ _ us hl => match us, hl with | [_], _ => by kernel_rfl⟩
  have rm := rm_of (X := (cxOf CX0 P w K mg base ["text"] "need_text" (defScope s_need_text) f cdv A outer s H E).nox) hr
  have nd := sc_need_text.nd
  exact (sws_one (sf_if (tf_not (tf_val (ef_isi (T := "str") (xv 0) rfl bi.isinstance rfl bi.str bt_str (hv := bt_isi)))) (sws_one sf_never) sfs_nil))

def E_need_text : Rho → Option Er := (eIf (bNot (bB (vIsi "str" (gX 0)))) (fun _ => some ("NotText", [])))
def re_need_text : List D → Option Er := runE 1 E_need_text
theorem oke_need_text (bi : Bi mg) (N_NotText : NmOk K mg "NotText" (He.ga K "NotText")) (Fd : ∃ f fd, FunD K "need_text" "need_text" (defArgs s_need_text) (defBody s_need_text) (defScope s_need_text) [] [] f fd ∧ mg "need_text" = some (.ref f)) : DefE P w K mg base "need_text" 2 1 re_need_text := by
  obtain ⟨f, fd, Fd, m⟩ := Fd
  refine ⟨f, fd, ["text"], fn_e (k := 1) (N := ["text"]) (r := E_need_text) Fd sc_need_text rfl (by decide) (fun cdv A outer s H E W hr tk => ?_), m, Fd.kp, Fd.bindsN fun _ _ _ _ _ _ us hl => match us, hl with | [_], _ => by kernel_rfl⟩
  have rm := rm_of (X := (cxOf (L2.CX P w) P w K mg base ["text"] "need_text" (defScope s_need_text) f cdv A outer s H E).nox) hr
  have nd := sc_need_text.nd
  exact (e_head (e_if (tf_not (tf_val (ef_isi (T := "str") (xv 0) rfl bi.isinstance rfl bi.str bt_str (hv := bt_isi)))) (e_head (e_raise0 rfl tk N_NotText rfl))))

def B_friends_word : Rho → Option Fl := (sRet (vIf (bB (b2 dNe (gX 0) (vTup aNil))) (b2 dJoin (gC (.str "")) (fun ρ => ((cLc [1] (tgN 1) fYes (aOf gStr (aCons (gX 1) aNil)) (fItems (gV 0))) ρ).map PyData.list)) (gC (.str "-"))))
def g_friends_word : GA := runF 2 B_friends_word

abbrev s_friends_word : Stmt := topS 25
theorem sc_friends_word : FnScope ["friends", "other"] ["friends"] (defScope s_friends_word) := ⟨rfl, rfl, rfl, by decide +kernel, rfl, by decide +kernel, by decide +kernel⟩
theorem ok_friends_word (bi : Bi mg) (Fd : ∃ f fd, FunD K "friends_word" "friends_word" (defArgs s_friends_word) (defBody s_friends_word) (defScope s_friends_word) [] [] f fd ∧ mg "friends_word" = some (.ref f)) : DG P w K mg base "friends_word" 1 1 g_friends_word := by
  obtain ⟨f, fd, Fd, m⟩ := Fd
  refine ⟨f, fd, ["friends"], fn_pureF (k := 0) (N := ["friends", "other"]) (g := B_friends_word) Fd sc_friends_word rfl (by decide) (fun cdv A outer s H E hr => ?_), m, Fd.kp, Fd.bindsN fun _ _ _ _ _ _ us hl => match us, hl with | [_], _ => by kernel_rfl⟩
  have rm := rm_of (X := (cxOf CX0 P w K mg base ["friends", "other"] "friends_word" (defScope s_friends_word) f cdv A outer s H E).nox) hr
  have nd := sc_friends_word.nd
  exact (sws_one (sf_ret (ef_if (tf_cmp (og_ne rm) (xv 0) (EW.x (ef_tup ea_nil lenA_nil)) (nomark _)) (ef_join ef_str (NF.e (NW.lc (nw_lc (own := [("other", 1)]) (g := (tgN 1)) (T := fW fYes) (E := fW (aOf gStr (aCons (gX 1) aNil))) rfl nd (if_seq (ev 0)) (blkOk_by (own := [("other", 1)]) (by kernel_rfl)) (fun _ _ _ _ _ => (gw_sub (gw_name (i := 1) nd rfl (by first | exact .inl rfl | exact .inr rfl)))) (fun _ _ _ _ _ => ts_nil) (fun _ _ _ _ _ => (c_str bi (xa_cons (xv 1) xa_nil))) s)))) ef_str)))

def B_write_web : Rho → Option Fl := (sSeq (sDrop (aOf g_need_web (aCons (gV 0) aNil)))
  (sRet (b2 dJoin (gC (.str " ")) (fun ρ => ((cLc [1] (tgN 1) fYes (aOf g_friends_word (aCons (gV 1) aNil)) (fItems (gV 0))) ρ).map PyData.list))))
def g_write_web : GA := runF 2 B_write_web

abbrev s_write_web : Stmt := topS 26
theorem sc_write_web : FnScope ["web", "friends"] ["web"] (defScope s_write_web) := ⟨rfl, rfl, rfl, by decide +kernel, rfl, by decide +kernel, by decide +kernel⟩
theorem ok_write_web (bi : Bi mg) (c_need_web : DG P w K mg base "need_web" 3 1 g_need_web) (c_friends_word : DG P w K mg base "friends_word" 1 1 g_friends_word) (Fd : ∃ f fd, FunD K "write_web" "write_web" (defArgs s_write_web) (defBody s_write_web) (defScope s_write_web) [] [] f fd ∧ mg "write_web" = some (.ref f)) : DG P w K mg base "write_web" 4 1 g_write_web := by
  obtain ⟨f, fd, Fd, m⟩ := Fd
  refine ⟨f, fd, ["web"], fn_pureF (k := 3) (N := ["web", "friends"]) (g := B_write_web) Fd sc_write_web rfl (by decide) (fun cdv A outer s H E hr => ?_), m, Fd.kp, Fd.bindsN fun _ _ _ _ _ _ us hl => match us, hl with | [_], _ => by kernel_rfl⟩
  have rm := rm_of (X := (cxOf CX0 P w K mg base ["web", "friends"] "write_web" (defScope s_write_web) f cdv A outer s H E).nox) hr
  have nd := sc_write_web.nd
  exact (sfs_cons (sf_expr (ef_call (c_need_web.cal hr) (ea_cons (ev 0) ea_nil) (lenA_cons lenA_nil) rfl))
    (sws_one (sf_ret (ef_join ef_str (NF.e (NW.lc (nw_lc (own := [("friends", 1)]) (g := (tgN 1)) (T := fW fYes) (E := fW (aOf g_friends_word (aCons (gV 1) aNil))) rfl nd (if_seq (ev 0)) (blkOk_by (own := [("friends", 1)]) (by kernel_rfl)) (fun _ _ _ _ _ => (gw_sub (gw_name (i := 1) nd rfl (by first | exact .inl rfl | exact .inr rfl)))) (fun _ _ _ _ _ => ts_nil) (fun _ _ _ _ _ => (ef_call (c_friends_word.cal hr) (ea_cons (ev 1) ea_nil) (lenA_cons lenA_nil) rfl)) s)))))))

def E_write_web : Rho → Option Er := (eCall (aCons (gV 0) aNil) re_need_web)
def re_write_web : List D → Option Er := runE 2 E_write_web
theorem oke_write_web (bi : Bi mg) (e_need_web : DefE P w K mg base "need_web" 3 1 re_need_web) (Fd : ∃ f fd, FunD K "write_web" "write_web" (defArgs s_write_web) (defBody s_write_web) (defScope s_write_web) [] [] f fd ∧ mg "write_web" = some (.ref f)) : DefE P w K mg base "write_web" 4 1 re_write_web := by
  obtain ⟨f, fd, Fd, m⟩ := Fd
  refine ⟨f, fd, ["web"], fn_e (k := 3) (N := ["web", "friends"]) (r := E_write_web) Fd sc_write_web rfl (by decide) (fun cdv A outer s H E W hr tk => ?_), m, Fd.kp, Fd.bindsN fun _ _ _ _ _ _ us hl => match us, hl with | [_], _ => by kernel_rfl⟩
  have rm := rm_of (X := (cxOf (L2.CX P w) P w K mg base ["web", "friends"] "write_web" (defScope s_write_web) f cdv A outer s H E).nox) hr
  have nd := sc_write_web.nd
  exact (e_head (e_call (e_need_web.cal hr) tk (ea_cons (ev 0) ea_nil) (lenA_cons lenA_nil) rfl))

def B_friends_of : Rho → Option Fl := (sSeq (sIf (bB (b2 dEq (gX 0) (gC (.str "-")))) (sRet (vTup aNil)) sNil)
  (sSeq (sSetL 3 (cLc [4] (tgN 4) fYes (aOf g_number_of (aCons (gV 4) (aCons (b2 dSub (gX 2) (gC (.int 1))) aNil))) (fChars (gV 0))))
  (sSeq (sIf (bOr (bB (b2 dIn (gC .none) (gX 3))) (bOr (bB (b2 dNe (gX 3) (fun ρ => ((nSortAll (gX 3)) ρ).map PyData.list))) (bB (b2 dIn (gX 1) (gX 3))))) (sRet (gC .none)) sNil)
  (sRet (aOf gTup (aCons (gX 3) aNil))))))
def g_friends_of : GA := runF 5 B_friends_of

abbrev s_friends_of : Stmt := topS 27
theorem sc_friends_of : FnScope ["word", "person", "people", "found", "figure"] ["word", "person", "people"] (defScope s_friends_of) := ⟨rfl, rfl, rfl, by decide +kernel, rfl, by decide +kernel, by decide +kernel⟩
theorem ok_friends_of (bi : Bi mg) (c_number_of : DG P w K mg base "number_of" 1 2 g_number_of) (Fd : ∃ f fd, FunD K "friends_of" "friends_of" (defArgs s_friends_of) (defBody s_friends_of) (defScope s_friends_of) [] [] f fd ∧ mg "friends_of" = some (.ref f)) : DG P w K mg base "friends_of" 2 3 g_friends_of := by
  obtain ⟨f, fd, Fd, m⟩ := Fd
  refine ⟨f, fd, ["word", "person", "people"], fn_pureF (k := 1) (N := ["word", "person", "people", "found", "figure"]) (g := B_friends_of) Fd sc_friends_of rfl (by decide) (fun cdv A outer s H E hr => ?_), m, Fd.kp, Fd.bindsN fun _ _ _ _ _ _ us hl => match us, hl with | [_, _, _], _ => by kernel_rfl⟩
  have rm := rm_of (X := (cxOf CX0 P w K mg base ["word", "person", "people", "found", "figure"] "friends_of" (defScope s_friends_of) f cdv A outer s H E).nox) hr
  have nd := sc_friends_of.nd
  exact (sfs_cons (sf_if (tf_cmp (og_eq rm) (xv 0) (EW.x ef_str) (nomark _)) (sws_one (sf_ret (ef_tup ea_nil lenA_nil))) sfs_nil)
    (sfs_cons (NSF.sl (NS.lc (ns_lc (i := 3) (own := [("figure", 4)]) (g := (tgN 4)) (T := fW fYes) (E := fW (aOf g_number_of (aCons (gV 4) (aCons (b2 dSub (gX 2) (gC (.int 1))) aNil)))) rfl nd rfl rfl (if_str (ev 0)) (blkOk_by (own := [("figure", 4)]) (by kernel_rfl)) (fun _ _ _ _ _ => (gw_sub (gw_name (i := 4) nd rfl (by first | exact .inl rfl | exact .inr rfl)))) (fun _ _ _ _ _ => ts_nil) (fun _ _ _ _ _ => (ef_call (c_number_of.cal hr) (ea_cons (ev 4) (ea_cons (ef_bin og_sub (xv 2) (EW.x ef_int)) ea_nil)) (lenA_cons (lenA_cons lenA_nil)) rfl)) s (sw_true rfl rfl rfl (by decide +kernel)))))
    (sfs_cons (sf_if (TWW.t (tf_or (tf_cmp (og_in rm) (EW.x ef_non) (xv 3) (by rfl)) (tf_or (tf_cmp (og_ne rm) (xv 3) (EW.x (NF.e (n_sortAll bi rm (xv 3)))) (nomark _)) (tf_or1 (tf_cmp (og_in rm) (xv 1) (xv 3) (by rfl)))))) (sws_one (sf_ret ef_non)) sfs_nil)
    (sws_one (sf_ret (c_tuple bi (xa_cons (xv 3) xa_nil)))))))

def B_web_of_words : Rho → Option Fl := (sSeq (sSetO 3 aNil)
  (sSeq (sFor (tgN 4) (aOf gRng2 (aCons (gX 1) (aCons (aOf gLen (aCons (gX 0) aNil)) aNil))) (sSeq (sSet 5 (aOf g_friends_of (aCons (b2 dIx (gX 0) (gX 4)) (aCons (aOf gLen (aCons (gX 3) aNil)) (aCons (gV 2) aNil)))))
  (sSeq (sIf (bOr (bB (b2 dIsN (gX 5) (gC .none))) (bB (b2 dEq (aOf gLen (aCons (gX 3) aNil)) (gX 2)))) sNever sNil)
  (sSeq (sChkO 3 (tg2 6 7) (bB (b2 dNe (b2 dIn (gX 6) (gX 5)) (b2 dIn (aOf gLen (aCons (gX 3) aNil)) (gX 7)))))
  (sApp 3 (gV 5))))))
  (sSeq (sIf (bB (b2 dLt (aOf gLen (aCons (gX 3) aNil)) (gX 2))) sNever sNil)
  (sRet (aOf gTup (aCons (gX 3) aNil))))))
def g_web_of_words : GA := runF 8 B_web_of_words

abbrev s_web_of_words : Stmt := topS 28
theorem sc_web_of_words : FnScope ["words", "first", "people", "found", "at", "friends", "person", "others"] ["words", "first", "people"] (defScope s_web_of_words) := ⟨rfl, rfl, rfl, by decide +kernel, rfl, by decide +kernel, by decide +kernel⟩
theorem ok_web_of_words (bi : Bi mg) (c_friends_of : DG P w K mg base "friends_of" 2 3 g_friends_of) (Fd : ∃ f fd, FunD K "web_of_words" "web_of_words" (defArgs s_web_of_words) (defBody s_web_of_words) (defScope s_web_of_words) [] [] f fd ∧ mg "web_of_words" = some (.ref f)) : DG P w K mg base "web_of_words" 3 3 g_web_of_words := by
  obtain ⟨f, fd, Fd, m⟩ := Fd
  refine ⟨f, fd, ["words", "first", "people"], fn_pureF (k := 2) (N := ["words", "first", "people", "found", "at", "friends", "person", "others"]) (g := B_web_of_words) Fd sc_web_of_words rfl (by decide) (fun cdv A outer s H E hr => ?_), m, Fd.kp, Fd.bindsN fun _ _ _ _ _ _ us hl => match us, hl with | [_, _, _], _ => by kernel_rfl⟩
  have rm := rm_of (X := (cxOf CX0 P w K mg base ["words", "first", "people", "found", "at", "friends", "person", "others"] "web_of_words" (defScope s_web_of_words) f cdv A outer s H E).nox) hr
  have nd := sc_web_of_words.nd
  exact (sfs_cons (NSF.so (ns_set (i := 3) nd rfl (by first | exact .inl rfl | exact .inr rfl) (nf_lst ea_nil lenA_nil)))
    (sfs_cons (sf_for PassesOwn.never rfl (if_rng2 rfl bi.range (xa_cons (xv 1) (xa_cons (EW.x (c_len bi (xa_cons (xv 0) xa_nil))) xa_nil))) (gw_name (i := 4) nd rfl (by first | exact .inl rfl | exact .inr rfl)) (sfs_cons (sf_set (i := 5) nd rfl (by first | exact .inl rfl | exact .inr rfl) (ef_call (c_friends_of.cal hr) (ea_cons (ef_ix (xv 0) (xv 4)) (ea_cons (c_len bi (xa_cons (xv 3) xa_nil)) (ea_cons (ev 2) ea_nil))) (lenA_cons (lenA_cons (lenA_cons lenA_nil))) rfl))
    (sfs_cons (sf_if (TWW.t (tf_or (tf_cmp og_isN (xv 5) (EW.x ef_non) (nomark _)) (tf_or1 (tf_cmp (og_eq rm) (EW.x (c_len bi (xa_cons (xv 3) xa_nil))) (xv 2) (nomark _))))) (sws_one sf_never) sfs_nil)
    (sfs_cons (sf_chkO (i := 3) PassesOwn.never rfl bi rfl (by first | exact .inl rfl | exact .inr (.inl rfl) | exact .inr (.inr rfl)) (gw_two (i := 6) (j := 7) rfl nd rfl (by first | exact .inl rfl | exact .inr rfl) rfl (by first | exact .inl rfl | exact .inr rfl)) (tf_cmp (og_ne rm) (EW.x (ef_cmp (og_in rm) (xv 6) (xv 5) (by rfl))) (EW.x (ef_cmp (og_in rm) (EW.x (c_len bi (xa_cons (xv 3) xa_nil))) (xv 7) (by rfl))) (nomark _)) (by decide))
    (sws_one (sf_app (i := 3) rfl (by first | exact .inl rfl | exact .inr (.inl rfl) | exact .inr (.inr rfl)) (ev 5)))))))
    (sfs_cons (sf_if (tf_cmp og_lt (EW.x (c_len bi (xa_cons (xv 3) xa_nil))) (xv 2) (nomark _)) (sws_one sf_never) sfs_nil)
    (sws_one (sf_ret (c_tuple bi (xa_cons (xv 3) xa_nil)))))))

def E_web_of_words : Rho → Option Er := (eSeq (sSetO 3 aNil)
  (eOr (eFor (tgN 4) (aOf gRng2 (aCons (gX 1) (aCons (aOf gLen (aCons (gX 0) aNil)) aNil))) (sSeq (sSet 5 (aOf g_friends_of (aCons (b2 dIx (gX 0) (gX 4)) (aCons (aOf gLen (aCons (gX 3) aNil)) (aCons (gV 2) aNil)))))
  (sSeq (sIf (bOr (bB (b2 dIsN (gX 5) (gC .none))) (bB (b2 dEq (aOf gLen (aCons (gX 3) aNil)) (gX 2)))) sNever sNil)
  (sSeq (sChkO 3 (tg2 6 7) (bB (b2 dNe (b2 dIn (gX 6) (gX 5)) (b2 dIn (aOf gLen (aCons (gX 3) aNil)) (gX 7)))))
  (sApp 3 (gV 5))))) (eSeq (sSet 5 (aOf g_friends_of (aCons (b2 dIx (gX 0) (gX 4)) (aCons (aOf gLen (aCons (gX 3) aNil)) (aCons (gV 2) aNil)))))
  (eOr (eIf (bOr (bB (b2 dIsN (gX 5) (gC .none))) (bB (b2 dEq (aOf gLen (aCons (gX 3) aNil)) (gX 2)))) (eRaise2 "InvalidText" "line" "word" (aCons (gC (.int 1)) (aCons (b2 dAdd (gX 4) (gC (.int 1))) aNil)))) (eSeq (sIf (bOr (bB (b2 dIsN (gX 5) (gC .none))) (bB (b2 dEq (aOf gLen (aCons (gX 3) aNil)) (gX 2)))) sNever sNil)
  (eFrz [3] (eFor (tg2 6 7) (fEnum (gV 3)) (sIf (bB (b2 dNe (b2 dIn (gX 6) (gX 5)) (b2 dIn (aOf gLen (aCons (gX 3) aNil)) (gX 7)))) sNever sNil) (eIf (bB (b2 dNe (b2 dIn (gX 6) (gX 5)) (b2 dIn (aOf gLen (aCons (gX 3) aNil)) (gX 7)))) (eRaise2 "InvalidText" "line" "word" (aCons (gC (.int 1)) (aCons (b2 dAdd (gX 4) (gC (.int 1))) aNil)))))))))) (eSeq (sFor (tgN 4) (aOf gRng2 (aCons (gX 1) (aCons (aOf gLen (aCons (gX 0) aNil)) aNil))) (sSeq (sSet 5 (aOf g_friends_of (aCons (b2 dIx (gX 0) (gX 4)) (aCons (aOf gLen (aCons (gX 3) aNil)) (aCons (gV 2) aNil)))))
  (sSeq (sIf (bOr (bB (b2 dIsN (gX 5) (gC .none))) (bB (b2 dEq (aOf gLen (aCons (gX 3) aNil)) (gX 2)))) sNever sNil)
  (sSeq (sChkO 3 (tg2 6 7) (bB (b2 dNe (b2 dIn (gX 6) (gX 5)) (b2 dIn (aOf gLen (aCons (gX 3) aNil)) (gX 7)))))
  (sApp 3 (gV 5))))))
  (eIf (bB (b2 dLt (aOf gLen (aCons (gX 3) aNil)) (gX 2))) (eRaise2 "InvalidText" "line" "word" (aCons (gC (.int 1)) (aCons (b2 dAdd (aOf gLen (aCons (gX 0) aNil)) (gC (.int 1))) aNil)))))))
def re_web_of_words : List D → Option Er := runE 8 E_web_of_words
theorem oke_web_of_words (bi : Bi mg) (c_friends_of : DG P w K mg base "friends_of" 2 3 g_friends_of) (M_InvalidText : MkX2 K P mg "InvalidText" "line" "word") (Fd : ∃ f fd, FunD K "web_of_words" "web_of_words" (defArgs s_web_of_words) (defBody s_web_of_words) (defScope s_web_of_words) [] [] f fd ∧ mg "web_of_words" = some (.ref f)) : DefE P w K mg base "web_of_words" 3 3 re_web_of_words := by
  obtain ⟨f, fd, Fd, m⟩ := Fd
  refine ⟨f, fd, ["words", "first", "people"], fn_e (k := 2) (N := ["words", "first", "people", "found", "at", "friends", "person", "others"]) (r := E_web_of_words) Fd sc_web_of_words rfl (by decide) (fun cdv A outer s H E W hr tk => ?_), m, Fd.kp, Fd.bindsN fun _ _ _ _ _ _ us hl => match us, hl with | [_, _, _], _ => by kernel_rfl⟩
  have rm := rm_of (X := (cxOf (L2.CX P w) P w K mg base ["words", "first", "people", "found", "at", "friends", "person", "others"] "web_of_words" (defScope s_web_of_words) f cdv A outer s H E).nox) hr
  have nd := sc_web_of_words.nd
  exact (e_cons (NSF.so (ns_set (i := 3) nd rfl (by first | exact .inl rfl | exact .inr rfl) (nf_lst ea_nil lenA_nil)))
    (e_or (e_head (e_for (passes_of rfl) rfl (if_rng2 rfl bi.range (xa_cons (xv 1) (xa_cons (EW.x (c_len bi (xa_cons (xv 0) xa_nil))) xa_nil))) (gw_name (i := 4) nd rfl (by first | exact .inl rfl | exact .inr rfl)) (sfs_cons (sf_set (i := 5) nd rfl (by first | exact .inl rfl | exact .inr rfl) (ef_call (c_friends_of.cal hr) (ea_cons (ef_ix (xv 0) (xv 4)) (ea_cons (c_len bi (xa_cons (xv 3) xa_nil)) (ea_cons (ev 2) ea_nil))) (lenA_cons (lenA_cons (lenA_cons lenA_nil))) rfl))
    (sfs_cons (sf_if (TWW.t (tf_or (tf_cmp og_isN (xv 5) (EW.x ef_non) (nomark _)) (tf_or1 (tf_cmp (og_eq rm) (EW.x (c_len bi (xa_cons (xv 3) xa_nil))) (xv 2) (nomark _))))) (sws_one sf_never) sfs_nil)
    (sfs_cons (sf_chkO (i := 3) PassesOwn.never rfl bi rfl (by first | exact .inl rfl | exact .inr (.inl rfl) | exact .inr (.inr rfl)) (gw_two (i := 6) (j := 7) rfl nd rfl (by first | exact .inl rfl | exact .inr rfl) rfl (by first | exact .inl rfl | exact .inr rfl)) (tf_cmp (og_ne rm) (EW.x (ef_cmp (og_in rm) (xv 6) (xv 5) (by rfl))) (EW.x (ef_cmp (og_in rm) (EW.x (c_len bi (xa_cons (xv 3) xa_nil))) (xv 7) (by rfl))) (nomark _)) (by decide))
    (sws_one (sf_app (i := 3) rfl (by first | exact .inl rfl | exact .inr (.inl rfl) | exact .inr (.inr rfl)) (ev 5)))))) (e_cons (sf_set (i := 5) nd rfl (by first | exact .inl rfl | exact .inr rfl) (ef_call (c_friends_of.cal hr) (ea_cons (ef_ix (xv 0) (xv 4)) (ea_cons (c_len bi (xa_cons (xv 3) xa_nil)) (ea_cons (ev 2) ea_nil))) (lenA_cons (lenA_cons (lenA_cons lenA_nil))) rfl))
    (e_or (e_head (e_if (TWW.t (tf_or (tf_cmp og_isN (xv 5) (EW.x ef_non) (nomark _)) (tf_or1 (tf_cmp (og_eq rm) (EW.x (c_len bi (xa_cons (xv 3) xa_nil))) (xv 2) (nomark _))))) (e_head (e_raise2 rfl tk M_InvalidText (hr.mono (by decide)) rfl (ea_cons ef_int (ea_cons (ef_bin og_add (xv 4) (EW.x ef_int)) ea_nil)))))) (e_cons (sf_if (TWW.t (tf_or (tf_cmp og_isN (xv 5) (EW.x ef_non) (nomark _)) (tf_or1 (tf_cmp (og_eq rm) (EW.x (c_len bi (xa_cons (xv 3) xa_nil))) (xv 2) (nomark _))))) (sws_one sf_never) sfs_nil)
    (e_frz [3] (e_head (e_for (passes_of rfl) rfl (if_enum bi (ev 3)) (gw_two (i := 6) (j := 7) rfl nd rfl (by first | exact .inl rfl | exact .inr rfl) rfl (by first | exact .inl rfl | exact .inr rfl)) (sws_one (sf_if (tf_cmp (og_ne rm) (EW.x (ef_cmp (og_in rm) (xv 6) (xv 5) (by rfl))) (EW.x (ef_cmp (og_in rm) (EW.x (c_len bi (xa_cons (xv 3) xa_nil))) (xv 7) (by rfl))) (nomark _)) (sws_one sf_never) sfs_nil)) (e_head (e_if (tf_cmp (og_ne rm) (EW.x (ef_cmp (og_in rm) (xv 6) (xv 5) (by rfl))) (EW.x (ef_cmp (og_in rm) (EW.x (c_len bi (xa_cons (xv 3) xa_nil))) (xv 7) (by rfl))) (nomark _)) (e_head (e_raise2 rfl tk M_InvalidText (hr.mono (by decide)) rfl (ea_cons ef_int (ea_cons (ef_bin og_add (xv 4) (EW.x ef_int)) ea_nil)))))))))))))) (e_cons (sf_for PassesOwn.never rfl (if_rng2 rfl bi.range (xa_cons (xv 1) (xa_cons (EW.x (c_len bi (xa_cons (xv 0) xa_nil))) xa_nil))) (gw_name (i := 4) nd rfl (by first | exact .inl rfl | exact .inr rfl)) (sfs_cons (sf_set (i := 5) nd rfl (by first | exact .inl rfl | exact .inr rfl) (ef_call (c_friends_of.cal hr) (ea_cons (ef_ix (xv 0) (xv 4)) (ea_cons (c_len bi (xa_cons (xv 3) xa_nil)) (ea_cons (ev 2) ea_nil))) (lenA_cons (lenA_cons (lenA_cons lenA_nil))) rfl))
    (sfs_cons (sf_if (TWW.t (tf_or (tf_cmp og_isN (xv 5) (EW.x ef_non) (nomark _)) (tf_or1 (tf_cmp (og_eq rm) (EW.x (c_len bi (xa_cons (xv 3) xa_nil))) (xv 2) (nomark _))))) (sws_one sf_never) sfs_nil)
    (sfs_cons (sf_chkO (i := 3) PassesOwn.never rfl bi rfl (by first | exact .inl rfl | exact .inr (.inl rfl) | exact .inr (.inr rfl)) (gw_two (i := 6) (j := 7) rfl nd rfl (by first | exact .inl rfl | exact .inr rfl) rfl (by first | exact .inl rfl | exact .inr rfl)) (tf_cmp (og_ne rm) (EW.x (ef_cmp (og_in rm) (xv 6) (xv 5) (by rfl))) (EW.x (ef_cmp (og_in rm) (EW.x (c_len bi (xa_cons (xv 3) xa_nil))) (xv 7) (by rfl))) (nomark _)) (by decide))
    (sws_one (sf_app (i := 3) rfl (by first | exact .inl rfl | exact .inr (.inl rfl) | exact .inr (.inr rfl)) (ev 5)))))))
    (e_head (e_if (tf_cmp og_lt (EW.x (c_len bi (xa_cons (xv 3) xa_nil))) (xv 2) (nomark _)) (e_head (e_raise2 rfl tk M_InvalidText (hr.mono (by decide)) rfl (ea_cons ef_int (ea_cons (ef_bin og_add (EW.x (c_len bi (xa_cons (xv 0) xa_nil))) (EW.x ef_int)) ea_nil)))))))))

def B_read_web : Rho → Option Fl := (sSeq (sDrop (aOf g_need_text (aCons (gV 0) aNil)))
  (sSeq (sSet 1 (aOf g_words_of (aCons (gV 0) aNil)))
  (sSeq (sIf (bB (b2 dEq (gX 1) (fun ρ => (aNil ρ).map PyData.list))) sNever sNil)
  (sSeq (sIf (bB (b2 dGt (aOf gLen (aCons (gX 1) aNil)) (gC (.int 7)))) sNever sNil)
  (sRet (aOf g_web_of_words (aCons (gV 1) (aCons (gC (.int 0)) (aCons (aOf gLen (aCons (gX 1) aNil)) aNil)))))))))
def g_read_web : GA := runF 2 B_read_web

abbrev s_read_web : Stmt := topS 29
theorem sc_read_web : FnScope ["text", "words"] ["text"] (defScope s_read_web) := ⟨rfl, rfl, rfl, by decide +kernel, rfl, by decide +kernel, by decide +kernel⟩
theorem ok_read_web (bi : Bi mg) (k_MOST_PEOPLE : ∃ t, mg "MOST_PEOPLE" = some (.int 7 t)) (c_need_text : DG P w K mg base "need_text" 1 1 g_need_text) (c_words_of : DG P w K mg base "words_of" 1 1 g_words_of) (c_web_of_words : DG P w K mg base "web_of_words" 3 3 g_web_of_words) (Fd : ∃ f fd, FunD K "read_web" "read_web" (defArgs s_read_web) (defBody s_read_web) (defScope s_read_web) [] [] f fd ∧ mg "read_web" = some (.ref f)) : DG P w K mg base "read_web" 4 1 g_read_web := by
  obtain ⟨f, fd, Fd, m⟩ := Fd
  refine ⟨f, fd, ["text"], fn_pureF (k := 3) (N := ["text", "words"]) (g := B_read_web) Fd sc_read_web rfl (by decide) (fun cdv A outer s H E hr => ?_), m, Fd.kp, Fd.bindsN fun _ _ _ _ _ _ us hl => match us, hl with | [_], _ => by kernel_rfl⟩
  have rm := rm_of (X := (cxOf CX0 P w K mg base ["text", "words"] "read_web" (defScope s_read_web) f cdv A outer s H E).nox) hr
  have nd := sc_read_web.nd
  exact (sfs_cons (sf_expr (ef_call (c_need_text.cal hr) (ea_cons (ev 0) ea_nil) (lenA_cons lenA_nil) rfl))
    (sfs_cons (sf_set (i := 1) nd rfl (by first | exact .inl rfl | exact .inr rfl) (ef_call (c_words_of.cal hr) (ea_cons (ev 0) ea_nil) (lenA_cons lenA_nil) rfl))
    (sfs_cons (sf_if (tf_cmp (og_eq rm) (xv 1) (EW.x (NF.e (nf_lst ea_nil lenA_nil))) (nomark _)) (sws_one sf_never) sfs_nil)
    (sfs_cons (sf_if (tf_cmp og_gt (EW.x (c_len bi (xa_cons (xv 1) xa_nil))) (EW.x (ef_gint k_MOST_PEOPLE)) (nomark _)) (sws_one sf_never) sfs_nil)
    (sws_one (sf_ret (ef_call (c_web_of_words.cal hr) (ea_cons (ev 1) (ea_cons ef_int (ea_cons (c_len bi (xa_cons (xv 1) xa_nil)) ea_nil))) (lenA_cons (lenA_cons (lenA_cons lenA_nil))) rfl)))))))

def E_read_web : Rho → Option Er := (eOr (eCall (aCons (gV 0) aNil) re_need_text) (eSeq (sDrop (aOf g_need_text (aCons (gV 0) aNil)))
  (eSeq (sSet 1 (aOf g_words_of (aCons (gV 0) aNil)))
  (eOr (eIf (bB (b2 dEq (gX 1) (fun ρ => (aNil ρ).map PyData.list))) (eRaise2 "InvalidText" "line" "word" (aCons (gC (.int 1)) (aCons (gC (.int 1)) aNil)))) (eSeq (sIf (bB (b2 dEq (gX 1) (fun ρ => (aNil ρ).map PyData.list))) sNever sNil)
  (eOr (eIf (bB (b2 dGt (aOf gLen (aCons (gX 1) aNil)) (gC (.int 7)))) (eRaise2 "InvalidText" "line" "word" (aCons (gC (.int 1)) (aCons (b2 dAdd (gC (.int 7)) (gC (.int 1))) aNil)))) (eSeq (sIf (bB (b2 dGt (aOf gLen (aCons (gX 1) aNil)) (gC (.int 7)))) sNever sNil)
  (eCall (aCons (gV 1) (aCons (gC (.int 0)) (aCons (aOf gLen (aCons (gX 1) aNil)) aNil))) re_web_of_words))))))))
def re_read_web : List D → Option Er := runE 2 E_read_web
theorem oke_read_web (bi : Bi mg) (k_MOST_PEOPLE : ∃ t, mg "MOST_PEOPLE" = some (.int 7 t)) (c_need_text : DG P w K mg base "need_text" 1 1 g_need_text) (c_words_of : DG P w K mg base "words_of" 1 1 g_words_of) (e_need_text : DefE P w K mg base "need_text" 2 1 re_need_text) (e_web_of_words : DefE P w K mg base "web_of_words" 3 3 re_web_of_words) (M_InvalidText : MkX2 K P mg "InvalidText" "line" "word") (Fd : ∃ f fd, FunD K "read_web" "read_web" (defArgs s_read_web) (defBody s_read_web) (defScope s_read_web) [] [] f fd ∧ mg "read_web" = some (.ref f)) : DefE P w K mg base "read_web" 4 1 re_read_web := by
  obtain ⟨f, fd, Fd, m⟩ := Fd
  refine ⟨f, fd, ["text"], fn_e (k := 3) (N := ["text", "words"]) (r := E_read_web) Fd sc_read_web rfl (by decide) (fun cdv A outer s H E W hr tk => ?_), m, Fd.kp, Fd.bindsN fun _ _ _ _ _ _ us hl => match us, hl with | [_], _ => by kernel_rfl⟩
  have rm := rm_of (X := (cxOf (L2.CX P w) P w K mg base ["text", "words"] "read_web" (defScope s_read_web) f cdv A outer s H E).nox) hr
  have nd := sc_read_web.nd
  exact (e_or (e_head (e_call (e_need_text.cal hr) tk (ea_cons (ev 0) ea_nil) (lenA_cons lenA_nil) rfl)) (e_cons (sf_expr (ef_call (c_need_text.cal hr) (ea_cons (ev 0) ea_nil) (lenA_cons lenA_nil) rfl))
    (e_cons (sf_set (i := 1) nd rfl (by first | exact .inl rfl | exact .inr rfl) (ef_call (c_words_of.cal hr) (ea_cons (ev 0) ea_nil) (lenA_cons lenA_nil) rfl))
    (e_or (e_head (e_if (tf_cmp (og_eq rm) (xv 1) (EW.x (NF.e (nf_lst ea_nil lenA_nil))) (nomark _)) (e_head (e_raise2 rfl tk M_InvalidText (hr.mono (by decide)) rfl (ea_cons ef_int (ea_cons ef_int ea_nil)))))) (e_cons (sf_if (tf_cmp (og_eq rm) (xv 1) (EW.x (NF.e (nf_lst ea_nil lenA_nil))) (nomark _)) (sws_one sf_never) sfs_nil)
    (e_or (e_head (e_if (tf_cmp og_gt (EW.x (c_len bi (xa_cons (xv 1) xa_nil))) (EW.x (ef_gint k_MOST_PEOPLE)) (nomark _)) (e_head (e_raise2 rfl tk M_InvalidText (hr.mono (by decide)) rfl (ea_cons ef_int (ea_cons (ef_bin og_add (EW.x (ef_gint k_MOST_PEOPLE)) (EW.x ef_int)) ea_nil)))))) (e_cons (sf_if (tf_cmp og_gt (EW.x (c_len bi (xa_cons (xv 1) xa_nil))) (EW.x (ef_gint k_MOST_PEOPLE)) (nomark _)) (sws_one sf_never) sfs_nil)
    (e_head (e_ret (e_web_of_words.cal hr) tk (ea_cons (ev 1) (ea_cons ef_int (ea_cons (c_len bi (xa_cons (xv 1) xa_nil)) ea_nil))) (lenA_cons (lenA_cons (lenA_cons lenA_nil))) rfl)))))))))

def B_write_calls : Rho → Option Fl := (sSeq (sDrop (aOf g_need_web (aCons (gV 0) aNil)))
  (sSeq (sDrop (aOf g_need_calls (aCons (gV 0) (aCons (gV 1) aNil))))
  (sRet (b2 dJoin (gC (.str " ")) (fun ρ => ((cLc [2] (tgN 2) fYes (aOf gStr (aCons (gX 2) aNil)) (fItems (gV 1))) ρ).map PyData.list)))))
def g_write_calls : GA := runF 3 B_write_calls

abbrev s_write_calls : Stmt := topS 30
theorem sc_write_calls : FnScope ["web", "calls", "person"] ["web", "calls"] (defScope s_write_calls) := ⟨rfl, rfl, rfl, by decide +kernel, rfl, by decide +kernel, by decide +kernel⟩
theorem ok_write_calls (bi : Bi mg) (c_need_web : DG P w K mg base "need_web" 3 1 g_need_web) (c_need_calls : DG P w K mg base "need_calls" 3 2 g_need_calls) (Fd : ∃ f fd, FunD K "write_calls" "write_calls" (defArgs s_write_calls) (defBody s_write_calls) (defScope s_write_calls) [] [] f fd ∧ mg "write_calls" = some (.ref f)) : DG P w K mg base "write_calls" 4 2 g_write_calls := by
  obtain ⟨f, fd, Fd, m⟩ := Fd
  refine ⟨f, fd, ["web", "calls"], fn_pureF (k := 3) (N := ["web", "calls", "person"]) (g := B_write_calls) Fd sc_write_calls rfl (by decide) (fun cdv A outer s H E hr => ?_), m, Fd.kp, Fd.bindsN fun _ _ _ _ _ _ us hl => match us, hl with | [_, _], _ => by kernel_rfl⟩
  have rm := rm_of (X := (cxOf CX0 P w K mg base ["web", "calls", "person"] "write_calls" (defScope s_write_calls) f cdv A outer s H E).nox) hr
  have nd := sc_write_calls.nd
  exact (sfs_cons (sf_expr (ef_call (c_need_web.cal hr) (ea_cons (ev 0) ea_nil) (lenA_cons lenA_nil) rfl))
    (sfs_cons (sf_expr (ef_call (c_need_calls.cal hr) (ea_cons (ev 0) (ea_cons (ev 1) ea_nil)) (lenA_cons (lenA_cons lenA_nil)) rfl))
    (sws_one (sf_ret (ef_join ef_str (NF.e (NW.lc (nw_lc (own := [("person", 2)]) (g := (tgN 2)) (T := fW fYes) (E := fW (aOf gStr (aCons (gX 2) aNil))) rfl nd (if_seq (ev 1)) (blkOk_by (own := [("person", 2)]) (by kernel_rfl)) (fun _ _ _ _ _ => (gw_sub (gw_name (i := 2) nd rfl (by first | exact .inl rfl | exact .inr rfl)))) (fun _ _ _ _ _ => ts_nil) (fun _ _ _ _ _ => (c_str bi (xa_cons (xv 2) xa_nil))) s))))))))

def E_write_calls : Rho → Option Er := (eOr (eCall (aCons (gV 0) aNil) re_need_web) (eSeq (sDrop (aOf g_need_web (aCons (gV 0) aNil)))
  (eCall (aCons (gV 0) (aCons (gV 1) aNil)) re_need_calls)))
def re_write_calls : List D → Option Er := runE 3 E_write_calls
theorem oke_write_calls (bi : Bi mg) (c_need_web : DG P w K mg base "need_web" 3 1 g_need_web) (e_need_calls : DefE P w K mg base "need_calls" 3 2 re_need_calls) (e_need_web : DefE P w K mg base "need_web" 3 1 re_need_web) (Fd : ∃ f fd, FunD K "write_calls" "write_calls" (defArgs s_write_calls) (defBody s_write_calls) (defScope s_write_calls) [] [] f fd ∧ mg "write_calls" = some (.ref f)) : DefE P w K mg base "write_calls" 4 2 re_write_calls := by
  obtain ⟨f, fd, Fd, m⟩ := Fd
  refine ⟨f, fd, ["web", "calls"], fn_e (k := 3) (N := ["web", "calls", "person"]) (r := E_write_calls) Fd sc_write_calls rfl (by decide) (fun cdv A outer s H E W hr tk => ?_), m, Fd.kp, Fd.bindsN fun _ _ _ _ _ _ us hl => match us, hl with | [_, _], _ => by kernel_rfl⟩
  have rm := rm_of (X := (cxOf (L2.CX P w) P w K mg base ["web", "calls", "person"] "write_calls" (defScope s_write_calls) f cdv A outer s H E).nox) hr
  have nd := sc_write_calls.nd
  exact (e_or (e_head (e_call (e_need_web.cal hr) tk (ea_cons (ev 0) ea_nil) (lenA_cons lenA_nil) rfl)) (e_cons (sf_expr (ef_call (c_need_web.cal hr) (ea_cons (ev 0) ea_nil) (lenA_cons lenA_nil) rfl))
    (e_head (e_call (e_need_calls.cal hr) tk (ea_cons (ev 0) (ea_cons (ev 1) ea_nil)) (lenA_cons (lenA_cons lenA_nil)) rfl))))

def B_read_calls : Rho → Option Fl := (sSeq (sDrop (aOf g_need_web (aCons (gV 0) aNil)))
  (sSeq (sDrop (aOf g_need_text (aCons (gV 1) aNil)))
  (sSeq (sSetO 2 aNil)
  (sSeq (sFor (tg2 3 4) (fEnum (aOf g_words_of (aCons (gV 1) aNil))) (sSeq (sSet 5 (aOf g_number_of (aCons (gV 4) (aCons (b2 dSub (aOf gLen (aCons (gX 0) aNil)) (gC (.int 1))) aNil))))
  (sSeq (sIf (bOr (bB (b2 dIsN (gX 5) (gC .none))) (bB (b2 dEq (gX 3) (gC (.int 60))))) sNever sNil)
  (sApp 2 (gV 5)))))
  (sRet (aOf gTup (aCons (gX 2) aNil)))))))
def g_read_calls : GA := runF 6 B_read_calls

abbrev s_read_calls : Stmt := topS 31
theorem sc_read_calls : FnScope ["web", "text", "found", "place", "word", "person"] ["web", "text"] (defScope s_read_calls) := ⟨rfl, rfl, rfl, by decide +kernel, rfl, by decide +kernel, by decide +kernel⟩
theorem ok_read_calls (bi : Bi mg) (c_need_web : DG P w K mg base "need_web" 3 1 g_need_web) (c_need_text : DG P w K mg base "need_text" 1 1 g_need_text) (c_words_of : DG P w K mg base "words_of" 1 1 g_words_of) (c_number_of : DG P w K mg base "number_of" 1 2 g_number_of) (Fd : ∃ f fd, FunD K "read_calls" "read_calls" (defArgs s_read_calls) (defBody s_read_calls) (defScope s_read_calls) [] [] f fd ∧ mg "read_calls" = some (.ref f)) : DG P w K mg base "read_calls" 4 2 g_read_calls := by
  obtain ⟨f, fd, Fd, m⟩ := Fd
  refine ⟨f, fd, ["web", "text"], fn_pureF (k := 3) (N := ["web", "text", "found", "place", "word", "person"]) (g := B_read_calls) Fd sc_read_calls rfl (by decide) (fun cdv A outer s H E hr => ?_), m, Fd.kp, Fd.bindsN fun _ _ _ _ _ _ us hl => match us, hl with | [_, _], _ => by kernel_rfl⟩
  have rm := rm_of (X := (cxOf CX0 P w K mg base ["web", "text", "found", "place", "word", "person"] "read_calls" (defScope s_read_calls) f cdv A outer s H E).nox) hr
  have nd := sc_read_calls.nd
  exact (sfs_cons (sf_expr (ef_call (c_need_web.cal hr) (ea_cons (ev 0) ea_nil) (lenA_cons lenA_nil) rfl))
    (sfs_cons (sf_expr (ef_call (c_need_text.cal hr) (ea_cons (ev 1) ea_nil) (lenA_cons lenA_nil) rfl))
    (sfs_cons (NSF.so (ns_set (i := 2) nd rfl (by first | exact .inl rfl | exact .inr rfl) (nf_lst ea_nil lenA_nil)))
    (sfs_cons (sf_for PassesOwn.never rfl (if_enum bi (ef_call (c_words_of.cal hr) (ea_cons (ev 1) ea_nil) (lenA_cons lenA_nil) rfl)) (gw_two (i := 3) (j := 4) rfl nd rfl (by first | exact .inl rfl | exact .inr rfl) rfl (by first | exact .inl rfl | exact .inr rfl)) (sfs_cons (sf_set (i := 5) nd rfl (by first | exact .inl rfl | exact .inr rfl) (ef_call (c_number_of.cal hr) (ea_cons (ev 4) (ea_cons (ef_bin og_sub (EW.x (c_len bi (xa_cons (xv 0) xa_nil))) (EW.x ef_int)) ea_nil)) (lenA_cons (lenA_cons lenA_nil)) rfl))
    (sfs_cons (sf_if (TWW.t (tf_or (tf_cmp og_isN (xv 5) (EW.x ef_non) (nomark _)) (tf_or1 (tf_cmp (og_eq rm) (xv 3) (EW.x ef_int) (nomark _))))) (sws_one sf_never) sfs_nil)
    (sws_one (sf_app (i := 2) rfl (by first | exact .inl rfl | exact .inr (.inl rfl) | exact .inr (.inr rfl)) (ev 5))))))
    (sws_one (sf_ret (c_tuple bi (xa_cons (xv 2) xa_nil))))))))

def E_read_calls : Rho → Option Er := (eOr (eCall (aCons (gV 0) aNil) re_need_web) (eSeq (sDrop (aOf g_need_web (aCons (gV 0) aNil)))
  (eOr (eCall (aCons (gV 1) aNil) re_need_text) (eSeq (sDrop (aOf g_need_text (aCons (gV 1) aNil)))
  (eSeq (sSetO 2 aNil)
  (eFor (tg2 3 4) (fEnum (aOf g_words_of (aCons (gV 1) aNil))) (sSeq (sSet 5 (aOf g_number_of (aCons (gV 4) (aCons (b2 dSub (aOf gLen (aCons (gX 0) aNil)) (gC (.int 1))) aNil))))
  (sSeq (sIf (bOr (bB (b2 dIsN (gX 5) (gC .none))) (bB (b2 dEq (gX 3) (gC (.int 60))))) sNever sNil)
  (sApp 2 (gV 5)))) (eSeq (sSet 5 (aOf g_number_of (aCons (gV 4) (aCons (b2 dSub (aOf gLen (aCons (gX 0) aNil)) (gC (.int 1))) aNil))))
  (eIf (bOr (bB (b2 dIsN (gX 5) (gC .none))) (bB (b2 dEq (gX 3) (gC (.int 60))))) (eRaise2 "InvalidText" "line" "word" (aCons (gC (.int 1)) (aCons (b2 dAdd (gX 3) (gC (.int 1))) aNil)))))))))))
def re_read_calls : List D → Option Er := runE 6 E_read_calls
theorem oke_read_calls (bi : Bi mg) (c_need_text : DG P w K mg base "need_text" 1 1 g_need_text) (c_need_web : DG P w K mg base "need_web" 3 1 g_need_web) (c_number_of : DG P w K mg base "number_of" 1 2 g_number_of) (c_words_of : DG P w K mg base "words_of" 1 1 g_words_of) (e_need_text : DefE P w K mg base "need_text" 2 1 re_need_text) (e_need_web : DefE P w K mg base "need_web" 3 1 re_need_web) (M_InvalidText : MkX2 K P mg "InvalidText" "line" "word") (Fd : ∃ f fd, FunD K "read_calls" "read_calls" (defArgs s_read_calls) (defBody s_read_calls) (defScope s_read_calls) [] [] f fd ∧ mg "read_calls" = some (.ref f)) : DefE P w K mg base "read_calls" 4 2 re_read_calls := by
  obtain ⟨f, fd, Fd, m⟩ := Fd
  refine ⟨f, fd, ["web", "text"], fn_e (k := 3) (N := ["web", "text", "found", "place", "word", "person"]) (r := E_read_calls) Fd sc_read_calls rfl (by decide) (fun cdv A outer s H E W hr tk => ?_), m, Fd.kp, Fd.bindsN fun _ _ _ _ _ _ us hl => match us, hl with | [_, _], _ => by kernel_rfl⟩
  have rm := rm_of (X := (cxOf (L2.CX P w) P w K mg base ["web", "text", "found", "place", "word", "person"] "read_calls" (defScope s_read_calls) f cdv A outer s H E).nox) hr
  have nd := sc_read_calls.nd
  exact (e_or (e_head (e_call (e_need_web.cal hr) tk (ea_cons (ev 0) ea_nil) (lenA_cons lenA_nil) rfl)) (e_cons (sf_expr (ef_call (c_need_web.cal hr) (ea_cons (ev 0) ea_nil) (lenA_cons lenA_nil) rfl))
    (e_or (e_head (e_call (e_need_text.cal hr) tk (ea_cons (ev 1) ea_nil) (lenA_cons lenA_nil) rfl)) (e_cons (sf_expr (ef_call (c_need_text.cal hr) (ea_cons (ev 1) ea_nil) (lenA_cons lenA_nil) rfl))
    (e_cons (NSF.so (ns_set (i := 2) nd rfl (by first | exact .inl rfl | exact .inr rfl) (nf_lst ea_nil lenA_nil)))
    (e_head (e_for (passes_of rfl) rfl (if_enum bi (ef_call (c_words_of.cal hr) (ea_cons (ev 1) ea_nil) (lenA_cons lenA_nil) rfl)) (gw_two (i := 3) (j := 4) rfl nd rfl (by first | exact .inl rfl | exact .inr rfl) rfl (by first | exact .inl rfl | exact .inr rfl)) (sfs_cons (sf_set (i := 5) nd rfl (by first | exact .inl rfl | exact .inr rfl) (ef_call (c_number_of.cal hr) (ea_cons (ev 4) (ea_cons (ef_bin og_sub (EW.x (c_len bi (xa_cons (xv 0) xa_nil))) (EW.x ef_int)) ea_nil)) (lenA_cons (lenA_cons lenA_nil)) rfl))
    (sfs_cons (sf_if (TWW.t (tf_or (tf_cmp og_isN (xv 5) (EW.x ef_non) (nomark _)) (tf_or1 (tf_cmp (og_eq rm) (xv 3) (EW.x ef_int) (nomark _))))) (sws_one sf_never) sfs_nil)
    (sws_one (sf_app (i := 2) rfl (by first | exact .inl rfl | exact .inr (.inl rfl) | exact .inr (.inr rfl)) (ev 5))))) (e_cons (sf_set (i := 5) nd rfl (by first | exact .inl rfl | exact .inr rfl) (ef_call (c_number_of.cal hr) (ea_cons (ev 4) (ea_cons (ef_bin og_sub (EW.x (c_len bi (xa_cons (xv 0) xa_nil))) (EW.x ef_int)) ea_nil)) (lenA_cons (lenA_cons lenA_nil)) rfl))
    (e_head (e_if (TWW.t (tf_or (tf_cmp og_isN (xv 5) (EW.x ef_non) (nomark _)) (tf_or1 (tf_cmp (og_eq rm) (xv 3) (EW.x ef_int) (nomark _))))) (e_head (e_raise2 rfl tk M_InvalidText (hr.mono (by decide)) rfl (ea_cons ef_int (ea_cons (ef_bin og_add (xv 3) (EW.x ef_int)) ea_nil))))))))))))))

def B_write_pairs : Rho → Option Fl := (sSeq (sDrop (aOf g_need_web (aCons (gV 0) aNil)))
  (sRet (b2 dJoin (gC (.str " ")) (fun ρ => ((cLc [1, 2] (tg2 1 2) fYes (b2 dAdd (b2 dAdd (aOf gStr (aCons (gX 1) aNil)) (gC (.str "+"))) (aOf gStr (aCons (gX 2) aNil))) (fItems (aOf g_pairs_in (aCons (gV 0) aNil)))) ρ).map PyData.list))))
def g_write_pairs : GA := runF 3 B_write_pairs

abbrev s_write_pairs : Stmt := topS 32
theorem sc_write_pairs : FnScope ["web", "one", "other"] ["web"] (defScope s_write_pairs) := ⟨rfl, rfl, rfl, by decide +kernel, rfl, by decide +kernel, by decide +kernel⟩
theorem ok_write_pairs (bi : Bi mg) (c_need_web : DG P w K mg base "need_web" 3 1 g_need_web) (c_pairs_in : DG P w K mg base "pairs_in" 1 1 g_pairs_in) (Fd : ∃ f fd, FunD K "write_pairs" "write_pairs" (defArgs s_write_pairs) (defBody s_write_pairs) (defScope s_write_pairs) [] [] f fd ∧ mg "write_pairs" = some (.ref f)) : DG P w K mg base "write_pairs" 4 1 g_write_pairs := by
  obtain ⟨f, fd, Fd, m⟩ := Fd
  refine ⟨f, fd, ["web"], fn_pureF (k := 3) (N := ["web", "one", "other"]) (g := B_write_pairs) Fd sc_write_pairs rfl (by decide) (fun cdv A outer s H E hr => ?_), m, Fd.kp, Fd.bindsN fun _ _ _ _ _ _ us hl => match us, hl with | [_], _ => by kernel_rfl⟩
  have rm := rm_of (X := (cxOf CX0 P w K mg base ["web", "one", "other"] "write_pairs" (defScope s_write_pairs) f cdv A outer s H E).nox) hr
  have nd := sc_write_pairs.nd
  exact (sfs_cons (sf_expr (ef_call (c_need_web.cal hr) (ea_cons (ev 0) ea_nil) (lenA_cons lenA_nil) rfl))
    (sws_one (sf_ret (ef_join ef_str (NF.e (NW.lc (nw_lc (own := [("one", 1), ("other", 2)]) (g := (tg2 1 2)) (T := fW fYes) (E := fW (b2 dAdd (b2 dAdd (aOf gStr (aCons (gX 1) aNil)) (gC (.str "+"))) (aOf gStr (aCons (gX 2) aNil)))) rfl nd (if_seq (ef_call (c_pairs_in.cal hr) (ea_cons (ev 0) ea_nil) (lenA_cons lenA_nil) rfl)) (blkOk_by (own := [("one", 1), ("other", 2)]) (by kernel_rfl)) (fun _ _ _ _ _ => (gw_sub (gw_two (i := 1) (j := 2) rfl nd rfl (by first | exact .inl rfl | exact .inr rfl) rfl (by first | exact .inl rfl | exact .inr rfl)))) (fun _ _ _ _ _ => ts_nil) (fun _ _ _ _ _ => (ef_bin og_add (EW.x (ef_bin og_add (EW.x (c_str bi (xa_cons (xv 1) xa_nil))) (EW.x ef_str))) (EW.x (c_str bi (xa_cons (xv 2) xa_nil))))) s)))))))

def E_write_pairs : Rho → Option Er := (eCall (aCons (gV 0) aNil) re_need_web)
def re_write_pairs : List D → Option Er := runE 3 E_write_pairs
theorem oke_write_pairs (bi : Bi mg) (e_need_web : DefE P w K mg base "need_web" 3 1 re_need_web) (Fd : ∃ f fd, FunD K "write_pairs" "write_pairs" (defArgs s_write_pairs) (defBody s_write_pairs) (defScope s_write_pairs) [] [] f fd ∧ mg "write_pairs" = some (.ref f)) : DefE P w K mg base "write_pairs" 4 1 re_write_pairs := by
  obtain ⟨f, fd, Fd, m⟩ := Fd
  refine ⟨f, fd, ["web"], fn_e (k := 3) (N := ["web", "one", "other"]) (r := E_write_pairs) Fd sc_write_pairs rfl (by decide) (fun cdv A outer s H E W hr tk => ?_), m, Fd.kp, Fd.bindsN fun _ _ _ _ _ _ us hl => match us, hl with | [_], _ => by kernel_rfl⟩
  have rm := rm_of (X := (cxOf (L2.CX P w) P w K mg base ["web", "one", "other"] "write_pairs" (defScope s_write_pairs) f cdv A outer s H E).nox) hr
  have nd := sc_write_pairs.nd
  exact (e_head (e_call (e_need_web.cal hr) tk (ea_cons (ev 0) ea_nil) (lenA_cons lenA_nil) rfl))

def B_write_standing : Rho → Option Fl := (sSeq (sDrop (aOf g_need_state (aCons (gV 0) (aCons (gV 1) aNil))))
  (sRet (b2 dJoin (gC (.str " ")) (fun ρ => ((cLc [2] (tgN 2) fYes (aOf gStr (aCons (gX 2) aNil)) (fItems (gV 1))) ρ).map PyData.list))))
def g_write_standing : GA := runF 3 B_write_standing

abbrev s_write_standing : Stmt := topS 33
theorem sc_write_standing : FnScope ["web", "standing", "person"] ["web", "standing"] (defScope s_write_standing) := ⟨rfl, rfl, rfl, by decide +kernel, rfl, by decide +kernel, by decide +kernel⟩
theorem ok_write_standing (bi : Bi mg) (c_need_state : DG P w K mg base "need_state" 4 2 g_need_state) (Fd : ∃ f fd, FunD K "write_standing" "write_standing" (defArgs s_write_standing) (defBody s_write_standing) (defScope s_write_standing) [] [] f fd ∧ mg "write_standing" = some (.ref f)) : DG P w K mg base "write_standing" 5 2 g_write_standing := by
  obtain ⟨f, fd, Fd, m⟩ := Fd
  refine ⟨f, fd, ["web", "standing"], fn_pureF (k := 4) (N := ["web", "standing", "person"]) (g := B_write_standing) Fd sc_write_standing rfl (by decide) (fun cdv A outer s H E hr => ?_), m, Fd.kp, Fd.bindsN fun _ _ _ _ _ _ us hl => match us, hl with | [_, _], _ => by kernel_rfl⟩
  have rm := rm_of (X := (cxOf CX0 P w K mg base ["web", "standing", "person"] "write_standing" (defScope s_write_standing) f cdv A outer s H E).nox) hr
  have nd := sc_write_standing.nd
  exact (sfs_cons (sf_expr (ef_call (c_need_state.cal hr) (ea_cons (ev 0) (ea_cons (ev 1) ea_nil)) (lenA_cons (lenA_cons lenA_nil)) rfl))
    (sws_one (sf_ret (ef_join ef_str (NF.e (NW.lc (nw_lc (own := [("person", 2)]) (g := (tgN 2)) (T := fW fYes) (E := fW (aOf gStr (aCons (gX 2) aNil))) rfl nd (if_seq (ev 1)) (blkOk_by (own := [("person", 2)]) (by kernel_rfl)) (fun _ _ _ _ _ => (gw_sub (gw_name (i := 2) nd rfl (by first | exact .inl rfl | exact .inr rfl)))) (fun _ _ _ _ _ => ts_nil) (fun _ _ _ _ _ => (c_str bi (xa_cons (xv 2) xa_nil))) s)))))))

def E_write_standing : Rho → Option Er := (eCall (aCons (gV 0) (aCons (gV 1) aNil)) re_need_state)
def re_write_standing : List D → Option Er := runE 3 E_write_standing
theorem oke_write_standing (bi : Bi mg) (e_need_state : DefE P w K mg base "need_state" 4 2 re_need_state) (Fd : ∃ f fd, FunD K "write_standing" "write_standing" (defArgs s_write_standing) (defBody s_write_standing) (defScope s_write_standing) [] [] f fd ∧ mg "write_standing" = some (.ref f)) : DefE P w K mg base "write_standing" 5 2 re_write_standing := by
  obtain ⟨f, fd, Fd, m⟩ := Fd
  refine ⟨f, fd, ["web", "standing"], fn_e (k := 4) (N := ["web", "standing", "person"]) (r := E_write_standing) Fd sc_write_standing rfl (by decide) (fun cdv A outer s H E W hr tk => ?_), m, Fd.kp, Fd.bindsN fun _ _ _ _ _ _ us hl => match us, hl with | [_, _], _ => by kernel_rfl⟩
  have rm := rm_of (X := (cxOf (L2.CX P w) P w K mg base ["web", "standing", "person"] "write_standing" (defScope s_write_standing) f cdv A outer s H E).nox) hr
  have nd := sc_write_standing.nd
  exact (e_head (e_call (e_need_state.cal hr) tk (ea_cons (ev 0) (ea_cons (ev 1) ea_nil)) (lenA_cons (lenA_cons lenA_nil)) rfl))

def B_standing_of_words : Rho → Option Fl := (sSeq (sSetO 3 aNil)
  (sSeq (sFor (tgN 4) (aOf gRng2 (aCons (gX 2) (aCons (aOf gLen (aCons (gX 1) aNil)) aNil))) (sSeq (sSet 5 (aOf g_number_of (aCons (b2 dIx (gX 1) (gX 4)) (aCons (b2 dSub (aOf gLen (aCons (gX 0) aNil)) (gC (.int 1))) aNil))))
  (sSeq (sIf (bOr (bB (b2 dIsN (gX 5) (gC .none))) (bAnd (bB (b2 dNe (gX 3) (fun ρ => (aNil ρ).map PyData.list))) (bB (b2 dLe (gX 5) (b2 dIx (gX 3) (vNeg (gC (.int 1)))))))) sNever sNil)
  (sApp 3 (gV 5)))))
  (sRet (aOf gTup (aCons (gX 3) aNil)))))
def g_standing_of_words : GA := runF 6 B_standing_of_words

abbrev s_standing_of_words : Stmt := topS 34
theorem sc_standing_of_words : FnScope ["web", "words", "first", "found", "at", "person"] ["web", "words", "first"] (defScope s_standing_of_words) := ⟨rfl, rfl, rfl, by decide +kernel, rfl, by decide +kernel, by decide +kernel⟩
theorem ok_standing_of_words (bi : Bi mg) (c_number_of : DG P w K mg base "number_of" 1 2 g_number_of) (Fd : ∃ f fd, FunD K "standing_of_words" "standing_of_words" (defArgs s_standing_of_words) (defBody s_standing_of_words) (defScope s_standing_of_words) [] [] f fd ∧ mg "standing_of_words" = some (.ref f)) : DG P w K mg base "standing_of_words" 2 3 g_standing_of_words := by
  obtain ⟨f, fd, Fd, m⟩ := Fd
  refine ⟨f, fd, ["web", "words", "first"], fn_pureF (k := 1) (N := ["web", "words", "first", "found", "at", "person"]) (g := B_standing_of_words) Fd sc_standing_of_words rfl (by decide) (fun cdv A outer s H E hr => ?_), m, Fd.kp, Fd.bindsN fun _ _ _ _ _ _ us hl => match us, hl with | [_, _, _], _ => by kernel_rfl⟩
  have rm := rm_of (X := (cxOf CX0 P w K mg base ["web", "words", "first", "found", "at", "person"] "standing_of_words" (defScope s_standing_of_words) f cdv A outer s H E).nox) hr
  have nd := sc_standing_of_words.nd
  exact (sfs_cons (NSF.so (ns_set (i := 3) nd rfl (by first | exact .inl rfl | exact .inr rfl) (nf_lst ea_nil lenA_nil)))
    (sfs_cons (sf_for PassesOwn.never rfl (if_rng2 rfl bi.range (xa_cons (xv 2) (xa_cons (EW.x (c_len bi (xa_cons (xv 1) xa_nil))) xa_nil))) (gw_name (i := 4) nd rfl (by first | exact .inl rfl | exact .inr rfl)) (sfs_cons (sf_set (i := 5) nd rfl (by first | exact .inl rfl | exact .inr rfl) (ef_call (c_number_of.cal hr) (ea_cons (ef_ix (xv 1) (xv 4)) (ea_cons (ef_bin og_sub (EW.x (c_len bi (xa_cons (xv 0) xa_nil))) (EW.x ef_int)) ea_nil)) (lenA_cons (lenA_cons lenA_nil)) rfl))
    (sfs_cons (sf_if (TWW.t (tf_or (tf_cmp og_isN (xv 5) (EW.x ef_non) (nomark _)) (tf_or1 (TWW.t (tf_and (tf_cmp (og_ne rm) (xv 3) (EW.x (NF.e (nf_lst ea_nil lenA_nil))) (nomark _)) (tf_and1 (tf_cmp og_le (xv 5) (EW.x (ef_ix (xv 3) (EW.x (ef_neg ef_int)))) (nomark _)))))))) (sws_one sf_never) sfs_nil)
    (sws_one (sf_app (i := 3) rfl (by first | exact .inl rfl | exact .inr (.inl rfl) | exact .inr (.inr rfl)) (ev 5))))))
    (sws_one (sf_ret (c_tuple bi (xa_cons (xv 3) xa_nil))))))

def E_standing_of_words : Rho → Option Er := (eSeq (sSetO 3 aNil)
  (eFor (tgN 4) (aOf gRng2 (aCons (gX 2) (aCons (aOf gLen (aCons (gX 1) aNil)) aNil))) (sSeq (sSet 5 (aOf g_number_of (aCons (b2 dIx (gX 1) (gX 4)) (aCons (b2 dSub (aOf gLen (aCons (gX 0) aNil)) (gC (.int 1))) aNil))))
  (sSeq (sIf (bOr (bB (b2 dIsN (gX 5) (gC .none))) (bAnd (bB (b2 dNe (gX 3) (fun ρ => (aNil ρ).map PyData.list))) (bB (b2 dLe (gX 5) (b2 dIx (gX 3) (vNeg (gC (.int 1)))))))) sNever sNil)
  (sApp 3 (gV 5)))) (eSeq (sSet 5 (aOf g_number_of (aCons (b2 dIx (gX 1) (gX 4)) (aCons (b2 dSub (aOf gLen (aCons (gX 0) aNil)) (gC (.int 1))) aNil))))
  (eIf (bOr (bB (b2 dIsN (gX 5) (gC .none))) (bAnd (bB (b2 dNe (gX 3) (fun ρ => (aNil ρ).map PyData.list))) (bB (b2 dLe (gX 5) (b2 dIx (gX 3) (vNeg (gC (.int 1)))))))) (eRaise2 "InvalidText" "line" "word" (aCons (gC (.int 1)) (aCons (b2 dAdd (gX 4) (gC (.int 1))) aNil)))))))
def re_standing_of_words : List D → Option Er := runE 6 E_standing_of_words
theorem oke_standing_of_words (bi : Bi mg) (c_number_of : DG P w K mg base "number_of" 1 2 g_number_of) (M_InvalidText : MkX2 K P mg "InvalidText" "line" "word") (Fd : ∃ f fd, FunD K "standing_of_words" "standing_of_words" (defArgs s_standing_of_words) (defBody s_standing_of_words) (defScope s_standing_of_words) [] [] f fd ∧ mg "standing_of_words" = some (.ref f)) : DefE P w K mg base "standing_of_words" 2 3 re_standing_of_words := by
  obtain ⟨f, fd, Fd, m⟩ := Fd
  refine ⟨f, fd, ["web", "words", "first"], fn_e (k := 1) (N := ["web", "words", "first", "found", "at", "person"]) (r := E_standing_of_words) Fd sc_standing_of_words rfl (by decide) (fun cdv A outer s H E W hr tk => ?_), m, Fd.kp, Fd.bindsN fun _ _ _ _ _ _ us hl => match us, hl with | [_, _, _], _ => by kernel_rfl⟩
  have rm := rm_of (X := (cxOf (L2.CX P w) P w K mg base ["web", "words", "first", "found", "at", "person"] "standing_of_words" (defScope s_standing_of_words) f cdv A outer s H E).nox) hr
  have nd := sc_standing_of_words.nd
  exact (e_cons (NSF.so (ns_set (i := 3) nd rfl (by first | exact .inl rfl | exact .inr rfl) (nf_lst ea_nil lenA_nil)))
    (e_head (e_for (passes_of rfl) rfl (if_rng2 rfl bi.range (xa_cons (xv 2) (xa_cons (EW.x (c_len bi (xa_cons (xv 1) xa_nil))) xa_nil))) (gw_name (i := 4) nd rfl (by first | exact .inl rfl | exact .inr rfl)) (sfs_cons (sf_set (i := 5) nd rfl (by first | exact .inl rfl | exact .inr rfl) (ef_call (c_number_of.cal hr) (ea_cons (ef_ix (xv 1) (xv 4)) (ea_cons (ef_bin og_sub (EW.x (c_len bi (xa_cons (xv 0) xa_nil))) (EW.x ef_int)) ea_nil)) (lenA_cons (lenA_cons lenA_nil)) rfl))
    (sfs_cons (sf_if (TWW.t (tf_or (tf_cmp og_isN (xv 5) (EW.x ef_non) (nomark _)) (tf_or1 (TWW.t (tf_and (tf_cmp (og_ne rm) (xv 3) (EW.x (NF.e (nf_lst ea_nil lenA_nil))) (nomark _)) (tf_and1 (tf_cmp og_le (xv 5) (EW.x (ef_ix (xv 3) (EW.x (ef_neg ef_int)))) (nomark _)))))))) (sws_one sf_never) sfs_nil)
    (sws_one (sf_app (i := 3) rfl (by first | exact .inl rfl | exact .inr (.inl rfl) | exact .inr (.inr rfl)) (ev 5))))) (e_cons (sf_set (i := 5) nd rfl (by first | exact .inl rfl | exact .inr rfl) (ef_call (c_number_of.cal hr) (ea_cons (ef_ix (xv 1) (xv 4)) (ea_cons (ef_bin og_sub (EW.x (c_len bi (xa_cons (xv 0) xa_nil))) (EW.x ef_int)) ea_nil)) (lenA_cons (lenA_cons lenA_nil)) rfl))
    (e_head (e_if (TWW.t (tf_or (tf_cmp og_isN (xv 5) (EW.x ef_non) (nomark _)) (tf_or1 (TWW.t (tf_and (tf_cmp (og_ne rm) (xv 3) (EW.x (NF.e (nf_lst ea_nil lenA_nil))) (nomark _)) (tf_and1 (tf_cmp og_le (xv 5) (EW.x (ef_ix (xv 3) (EW.x (ef_neg ef_int)))) (nomark _)))))))) (e_head (e_raise2 rfl tk M_InvalidText (hr.mono (by decide)) rfl (ea_cons ef_int (ea_cons (ef_bin og_add (xv 4) (EW.x ef_int)) ea_nil))))))))))

def B_read_standing : Rho → Option Fl := (sSeq (sDrop (aOf g_need_web (aCons (gV 0) aNil)))
  (sSeq (sDrop (aOf g_need_text (aCons (gV 1) aNil)))
  (sRet (aOf g_standing_of_words (aCons (gV 0) (aCons (aOf g_words_of (aCons (gV 1) aNil)) (aCons (gC (.int 0)) aNil)))))))
def g_read_standing : GA := runF 2 B_read_standing

abbrev s_read_standing : Stmt := topS 35
theorem sc_read_standing : FnScope ["web", "text"] ["web", "text"] (defScope s_read_standing) := ⟨rfl, rfl, rfl, by decide +kernel, rfl, by decide +kernel, by decide +kernel⟩
theorem ok_read_standing (bi : Bi mg) (c_need_web : DG P w K mg base "need_web" 3 1 g_need_web) (c_need_text : DG P w K mg base "need_text" 1 1 g_need_text) (c_standing_of_words : DG P w K mg base "standing_of_words" 2 3 g_standing_of_words) (c_words_of : DG P w K mg base "words_of" 1 1 g_words_of) (Fd : ∃ f fd, FunD K "read_standing" "read_standing" (defArgs s_read_standing) (defBody s_read_standing) (defScope s_read_standing) [] [] f fd ∧ mg "read_standing" = some (.ref f)) : DG P w K mg base "read_standing" 4 2 g_read_standing := by
  obtain ⟨f, fd, Fd, m⟩ := Fd
  refine ⟨f, fd, ["web", "text"], fn_pureF (k := 3) (N := ["web", "text"]) (g := B_read_standing) Fd sc_read_standing rfl (by decide) (fun cdv A outer s H E hr => ?_), m, Fd.kp, Fd.bindsN fun _ _ _ _ _ _ us hl => match us, hl with | [_, _], _ => by kernel_rfl⟩
  have rm := rm_of (X := (cxOf CX0 P w K mg base ["web", "text"] "read_standing" (defScope s_read_standing) f cdv A outer s H E).nox) hr
  have nd := sc_read_standing.nd
  exact (sfs_cons (sf_expr (ef_call (c_need_web.cal hr) (ea_cons (ev 0) ea_nil) (lenA_cons lenA_nil) rfl))
    (sfs_cons (sf_expr (ef_call (c_need_text.cal hr) (ea_cons (ev 1) ea_nil) (lenA_cons lenA_nil) rfl))
    (sws_one (sf_ret (ef_call (c_standing_of_words.cal hr) (ea_cons (ev 0) (ea_cons (ef_call (c_words_of.cal hr) (ea_cons (ev 1) ea_nil) (lenA_cons lenA_nil) rfl) (ea_cons ef_int ea_nil))) (lenA_cons (lenA_cons (lenA_cons lenA_nil))) rfl)))))

def E_read_standing : Rho → Option Er := (eOr (eCall (aCons (gV 0) aNil) re_need_web) (eSeq (sDrop (aOf g_need_web (aCons (gV 0) aNil)))
  (eOr (eCall (aCons (gV 1) aNil) re_need_text) (eSeq (sDrop (aOf g_need_text (aCons (gV 1) aNil)))
  (eCall (aCons (gV 0) (aCons (aOf g_words_of (aCons (gV 1) aNil)) (aCons (gC (.int 0)) aNil))) re_standing_of_words)))))
def re_read_standing : List D → Option Er := runE 2 E_read_standing
theorem oke_read_standing (bi : Bi mg) (c_need_text : DG P w K mg base "need_text" 1 1 g_need_text) (c_need_web : DG P w K mg base "need_web" 3 1 g_need_web) (c_words_of : DG P w K mg base "words_of" 1 1 g_words_of) (e_need_text : DefE P w K mg base "need_text" 2 1 re_need_text) (e_need_web : DefE P w K mg base "need_web" 3 1 re_need_web) (e_standing_of_words : DefE P w K mg base "standing_of_words" 2 3 re_standing_of_words) (Fd : ∃ f fd, FunD K "read_standing" "read_standing" (defArgs s_read_standing) (defBody s_read_standing) (defScope s_read_standing) [] [] f fd ∧ mg "read_standing" = some (.ref f)) : DefE P w K mg base "read_standing" 4 2 re_read_standing := by
  obtain ⟨f, fd, Fd, m⟩ := Fd
  refine ⟨f, fd, ["web", "text"], fn_e (k := 3) (N := ["web", "text"]) (r := E_read_standing) Fd sc_read_standing rfl (by decide) (fun cdv A outer s H E W hr tk => ?_), m, Fd.kp, Fd.bindsN fun _ _ _ _ _ _ us hl => match us, hl with | [_, _], _ => by kernel_rfl⟩
  have rm := rm_of (X := (cxOf (L2.CX P w) P w K mg base ["web", "text"] "read_standing" (defScope s_read_standing) f cdv A outer s H E).nox) hr
  have nd := sc_read_standing.nd
  exact (e_or (e_head (e_call (e_need_web.cal hr) tk (ea_cons (ev 0) ea_nil) (lenA_cons lenA_nil) rfl)) (e_cons (sf_expr (ef_call (c_need_web.cal hr) (ea_cons (ev 0) ea_nil) (lenA_cons lenA_nil) rfl))
    (e_or (e_head (e_call (e_need_text.cal hr) tk (ea_cons (ev 1) ea_nil) (lenA_cons lenA_nil) rfl)) (e_cons (sf_expr (ef_call (c_need_text.cal hr) (ea_cons (ev 1) ea_nil) (lenA_cons lenA_nil) rfl))
    (e_head (e_ret (e_standing_of_words.cal hr) tk (ea_cons (ev 0) (ea_cons (ef_call (c_words_of.cal hr) (ea_cons (ev 1) ea_nil) (lenA_cons lenA_nil) rfl) (ea_cons ef_int ea_nil))) (lenA_cons (lenA_cons (lenA_cons lenA_nil))) rfl))))))

abbrev s__law_taken : Stmt := topS 37
theorem sc__law_taken : FnScope ["_law_row", "_law_many", "_law_found", "_law_cell"] ["_law_row", "_law_many"] (defScope s__law_taken) := ⟨rfl, rfl, rfl, by decide +kernel, rfl, by decide +kernel, by decide +kernel⟩
theorem ok__law_taken (bi : Bi mg) (Fd : ∃ f fd, FunD K "_law_taken" "_law_taken" (defArgs s__law_taken) (defBody s__law_taken) (defScope s__law_taken) [] [] f fd ∧ mg "_law_taken" = some (.ref f)) : DefOk P w K mg base "_law_taken" 1 (spR K 1 wTaken) := by
  obtain ⟨f, fd, Fd, m⟩ := Fd
  refine ⟨f, fd, ["_law_row", "_law_many"], Fd.ok sc__law_taken (fun vs H Q E h => h.1) (fun cdv A outer s H vs Q E hr h => ?_), m, Fd.kp, Fd.bindsN fun _ _ _ _ _ _ us hl => match us, hl with | [_, _], _ => by kernel_rfl⟩
  have nd := sc__law_taken.nd
  have W : PSs (cxOf CX0 P w K mg base _ "_law_taken" (defScope s__law_taken) f cdv A outer s H E).nox (defBody s__law_taken) _ :=
    pss_cons (ps_if (pt_cmpR op_gt (pe_ix ix_list (pv 0) pe_int (fun _ _ => rfl)) pe_int (nomark _))
      (pss_cons (ps_set (i := 2) nd rfl (Or.inl rfl) (pe_op op_mod (pe_callTy call_int1 rfl bi.int bt_int (pa_cons (pe_ix ix_list (pv 0) pe_int (fun _ _ => rfl)) pa_nil)) (pv 1)))
      (pss_cons (ps_asg (pe_op op_fdiv (pe_ix ix_list (pv 0) pe_int (fun _ _ => rfl)) (pv 1)) (pg_sub (pv 0) pe_int set_list))
      (pss_one (ps_ret (pv 2))))) pss_nil)
    (pss_cons (ps_asg (pe_op op_add (pe_ix ix_list (pv 0) pe_int (fun _ _ => rfl)) pe_int) (pg_sub (pv 0) pe_int set_list))
    (pss_cons (ps_if (pt_cmpR op_gt (pe_ix ix_list (pv 0) pe_int (fun _ _ => rfl)) (pe_callB call_len_seq rfl bi.len boot_len (pa_cons (pe_ix ix_list (pv 0) pe_int (fun _ _ => rfl)) pa_nil)) (nomark _))
      (pss_cons (ps_asg (pe_op op_mod (pe_callTy call_int1 rfl bi.int bt_int (pa_cons (pe_op op_add (pe_op op_mul (pe_ix ix_list (pv 0) pe_int (fun _ _ => rfl)) pe_int) pe_int) pa_nil)) pe_int) (pg_sub (pv 0) pe_int set_list))
      (pss_one (ps_ret (pe_op op_mod (pe_callTy call_int1 rfl bi.int bt_int (pa_cons (pe_op op_fdiv (pe_ix ix_list (pv 0) pe_int (fun _ _ => rfl)) pe_int) pa_nil)) (pv 1))))) pss_nil)
    (pss_cons (ps_set (i := 3) nd rfl (Or.inl rfl) (pe_ix ix_list (pe_ix ix_list (pv 0) pe_int (fun _ _ => rfl)) (pe_op op_sub (pe_ix ix_list (pv 0) pe_int (fun _ _ => rfl)) pe_int) (fun _ _ => rfl)))
    (pss_cons (ps_asg (pe_op op_mod (pe_callTy call_int1 rfl bi.int bt_int (pa_cons (pe_op op_add (pe_op op_add (pe_op op_mul (pe_ix ix_list (pv 0) pe_int (fun _ _ => rfl)) pe_int) (pv 3)) pe_int) pa_nil)) pe_int) (pg_sub (pv 0) pe_int set_list))
    (pss_cons (ps_if (pt_cmpR op_ge (pv 3) (pe_op op_pow pe_int pe_int) (nomark _))
      (pss_one (ps_asg (pe_op op_fdiv (pv 3) (pv 1)) (pg_sub (pv 0) pe_int set_list))) pss_nil)
    (pss_one (ps_ret (pe_op op_mod (pe_callTy call_int1 rfl bi.int bt_int (pa_cons (pv 3) pa_nil)) (pv 1)))))))))
  exact ⟨_, PSs.nox W, taken_sp h⟩

def T__law_pick : TSt := (wRet (w2 dIx (fW (gX 1)) (wDraw 0 wTaken (wCons (fW (aOf gLen (aCons (gX 1) aNil))) wNil))))
def w__law_pick : List D → (D → Prop) → Prop := clo (runR 2 T__law_pick)

abbrev s__law_pick : Stmt := topS 38
theorem sc__law_pick : FnScope ["_law_row", "_law_kinds"] ["_law_row", "_law_kinds"] (defScope s__law_pick) := ⟨rfl, rfl, rfl, by decide +kernel, rfl, by decide +kernel, by decide +kernel⟩
theorem sw__law_pick (bi : Bi mg) (c__law_taken : DefOk P w K mg base "_law_taken" 1 (spR K 1 wTaken)) (cdv : Value) (A : Around) (outer : List Env) (s : Shared) (H : Hp) (E : XK) (f : Addr) (hr : Room 1 (A.deeper (envOfC "_law_pick" (defScope s__law_pick) s.heap.objs.size f cdv))) : SWs (cxOf CX0 P w K mg base ["_law_row", "_law_kinds"] "_law_pick" (defScope s__law_pick) f cdv A outer s H E).nox (defBody s__law_pick) T__law_pick := by
  have rm := rm_of (X := (cxOf CX0 P w K mg base ["_law_row", "_law_kinds"] "_law_pick" (defScope s__law_pick) f cdv A outer s H E).nox) hr
  have nd := sc__law_pick.nd
  exact (sws_one (sw_ret (ew_ix (xv 1) (EW.x (ew_draw (i := 0) (c__law_taken.cal hr) wTaken_mono rfl (by first | exact .inl rfl | exact .inr (.inl rfl) | exact .inr (.inr rfl)) (eal_cons (c_len bi (xa_cons (xv 1) xa_nil)) eal_nil) rfl)))))
theorem ok__law_pick (bi : Bi mg) (c__law_taken : DefOk P w K mg base "_law_taken" 1 (spR K 1 wTaken)) (Fd : ∃ f fd, FunD K "_law_pick" "_law_pick" (defArgs s__law_pick) (defBody s__law_pick) (defScope s__law_pick) [] [] f fd ∧ mg "_law_pick" = some (.ref f)) : DefOk P w K mg base "_law_pick" 2 (spR K 1 w__law_pick) := by
  obtain ⟨f, fd, Fd, m⟩ := Fd
  exact ⟨f, fd, ["_law_row", "_law_kinds"], fn_row (T := T__law_pick) (k := 1) (N := ["_law_row", "_law_kinds"]) Fd sc__law_pick rfl (by decide) (fun cdv A outer s H E hr => sw__law_pick bi c__law_taken cdv A outer s H E f hr), m, Fd.kp, Fd.bindsN fun _ _ _ _ _ _ us hl => match us, hl with | [_, _], _ => by kernel_rfl⟩

abbrev s__law_told : Stmt := topS 39
def XS_told : List Str := ["BadCalls", "BadStanding", "BadWeb", "InvalidText", "NotText"]
def YS_told : List Str := ["BadCalls", "BadStanding", "BadWeb", "InvalidText", "NotText"]
def FS_told : List Str := ["line", "word"]
def su_told : List Stmt := match defBody s__law_told with
  | .Try _ [.ExceptHandler _ _ su _] _ _ _ :: _ => su
  | _ => []
theorem sc__law_told : FnScope ["_law_work", "e", "_law_known"] ["_law_work"] (defScope s__law_told) := ⟨rfl, rfl, rfl, by decide +kernel, rfl, by decide +kernel, by decide +kernel⟩
theorem tt__law_told : TellT ["_law_work", "e", "_law_known"] (defBody s__law_told) (defScope s__law_told) (su_told.headD (.Pass ⟨0, 0, 0, 0⟩)) su_told.tail (defBody s__law_told).tail := ⟨⟨_, _, _, _, _, _, rfl⟩, sc__law_told, rfl, rfl, rfl, rfl⟩
def H__law_told (m : D → Bool) (x : Str) : Rho → Option Fl := (sSeq (sIf (bB (dIsE m x "InvalidText" 1)) (sRet (vTup (aCons (dFld m "line" 1) (aCons (dFld m "word" 1) aNil)))) sNil)
  (sSeq (sSet 2 (fun ρ => ((aCons (dIsE m x "NotText" 1) (aCons (dIsE m x "BadWeb" 1) (aCons (dIsE m x "BadCalls" 1) (aCons (dIsE m x "BadStanding" 1) aNil)))) ρ).map PyData.list))
  (sRet (vIf (bB (b2 dEq (b2 dCountA (gX 2) (gC (.bool true))) (gC (.int 1)))) (b2 dIx (fun ρ => ((aCons (gC (.str "text")) (aCons (gC (.str "web")) (aCons (gC (.str "calls")) (aCons (gC (.str "standing")) aNil)))) ρ).map PyData.list) (b2 dIndexB (gX 2) (gC (.bool true)))) (gC (.str "other"))))))
def Hv__law_told (x : Str) (g : Str → Option D) : Rho → Option Fl := (sSeq (sIf (bB (gC (.bool (decide (x = "InvalidText"))))) (sRet (vTup (aCons (fun _ => g "line") (aCons (fun _ => g "word") aNil)))) sNil)
  (sSeq (sSet 2 (fun ρ => ((aCons (gC (.bool (decide (x = "NotText")))) (aCons (gC (.bool (decide (x = "BadWeb")))) (aCons (gC (.bool (decide (x = "BadCalls")))) (aCons (gC (.bool (decide (x = "BadStanding")))) aNil)))) ρ).map PyData.list))
  (sRet (vIf (bB (b2 dEq (b2 dCountA (gX 2) (gC (.bool true))) (gC (.int 1)))) (b2 dIx (fun ρ => ((aCons (gC (.str "text")) (aCons (gC (.str "web")) (aCons (gC (.str "calls")) (aCons (gC (.str "standing")) aNil)))) ρ).map PyData.list) (b2 dIndexB (gX 2) (gC (.bool true)))) (gC (.str "other"))))))
def ans__law_told (er : Er) : Option D := rtOf (Hv__law_told er.1 (fldOf (eD 0 (some 0) er.2)) (rhoE 3 .none))
theorem hm__law_told (m : D → Bool) (x : Str) (q : D) (hm : m q = true) : Agr q (H__law_told m x) (Hv__law_told x (fldOf q)) := by
  unfold H__law_told Hv__law_told
  repeat' (first | refine agr_seq ?_ ?_ | refine agr_if ?_ ?_ ?_ | refine agr_set (by decide) ?_ | refine agr_ret ?_ | exact agr_nil)
  all_goals (intro ρ h; first | rfl | simp only [aCons, aNil, vTup, b2, bB, vIf, aOf, gC, dIsE_c hm h, dFld_c hm h])
theorem hx__law_told : ∀ x ∈ XS_told, ∀ g q, rtOf (Hv__law_told x g (rhoE 3 q)) = rtOf (Hv__law_told x g (rhoE 3 .none)) := by
  unfold XS_told
  intro x hx g q
  simp only [List.mem_cons, List.not_mem_nil, or_false] at hx
  rcases hx with rfl | rfl | rfl | rfl | rfl <;> kernel_rfl
theorem td__law_told (bi : Bi mg) (hE : ∀ x ∈ XS_told, ErC K mg x) (hK : ∀ x ∈ XS_told, ∀ y ∈ YS_told, KitC K x y) (hY : ∀ y ∈ YS_told, mg y = some (.ref (He.ga K y))) (hN : ∀ x ∈ XS_told, ∀ f ∈ FS_told, PySem.W.findIn K (.ref (He.ga K x)) f = some none) (hS : mg "SitError" = some (.ref (He.ga K "SitError")))
    (Fd : ∃ f fd, FunD K "_law_told" "_law_told" (defArgs s__law_told) (defBody s__law_told) (defScope s__law_told) [] [] f fd ∧ mg "_law_told" = some (.ref f)) : TellE K P w mg base ["_law_work", "e", "_law_known"] (defArgs s__law_told) (defBody s__law_told) (defScope s__law_told) XS_told ans__law_told := by
  obtain ⟨f, fd, Fd, m⟩ := Fd
  refine ⟨⟨f, fd, Fd, m, Fd.bindsN fun _ _ _ _ _ _ us hl => match us, hl with | [_], _ => by kernel_rfl⟩, sc__law_told, rfl, rfl, fun X g cdg q hK' hmg hba hP hw hr => ?_⟩
  subst hK' hmg hba hP hw
  refine tell_gives (hH := H__law_told) tt__law_told hS hE (fun s H a oe d x pn hx hz hf => ?_) (hans_of (by decide) hm__law_told hx__law_told (fun er => rfl))
  have rm := rm_of (X := (cxOf C8.CX0 X.prog X.w X.K X.mg X.base ["_law_work", "e", "_law_known"] "_law_told" (defScope s__law_told) g cdg X.A X.stack s H C8.E0).nox) (hr.deeper (k := 0) _)
  have nd := sc__law_told.nd
  have hY' : ∀ y ∈ YS_told, X.mg y = some (.ref (He.ga X.K y)) := hY
  unfold YS_told at hK hY
  unfold FS_told at hN
  exact (sfs_cons (sf_if (tf_val (ef_isE (hE x hx) (hK x hx "InvalidText" (by simp)) (hY "InvalidText" (by simp)) bi hz hf rfl (by first | exact .inl rfl | exact .inr (.inl rfl) | exact .inr (.inr rfl)) rfl rfl)) (sws_one (sf_ret (ef_tup (ea_cons (ef_fld (hE x hx) (hN x hx "line" (by simp)) hz hf rfl (by first | exact .inl rfl | exact .inr (.inl rfl) | exact .inr (.inr rfl))) (ea_cons (ef_fld (hE x hx) (hN x hx "word" (by simp)) hz hf rfl (by first | exact .inl rfl | exact .inr (.inl rfl) | exact .inr (.inr rfl))) ea_nil)) (lenA_cons (lenA_cons lenA_nil))))) sfs_nil)
    (sfs_cons (sf_set (i := 2) nd rfl (by first | exact .inl rfl | exact .inr rfl) (NF.e (nf_lst (ea_cons (ef_isE (hE x hx) (hK x hx "NotText" (by simp)) (hY "NotText" (by simp)) bi hz hf rfl (by first | exact .inl rfl | exact .inr (.inl rfl) | exact .inr (.inr rfl)) rfl rfl) (ea_cons (ef_isE (hE x hx) (hK x hx "BadWeb" (by simp)) (hY "BadWeb" (by simp)) bi hz hf rfl (by first | exact .inl rfl | exact .inr (.inl rfl) | exact .inr (.inr rfl)) rfl rfl) (ea_cons (ef_isE (hE x hx) (hK x hx "BadCalls" (by simp)) (hY "BadCalls" (by simp)) bi hz hf rfl (by first | exact .inl rfl | exact .inr (.inl rfl) | exact .inr (.inr rfl)) rfl rfl) (ea_cons (ef_isE (hE x hx) (hK x hx "BadStanding" (by simp)) (hY "BadStanding" (by simp)) bi hz hf rfl (by first | exact .inl rfl | exact .inr (.inl rfl) | exact .inr (.inr rfl)) rfl rfl) ea_nil)))) (lenA_cons (lenA_cons (lenA_cons (lenA_cons lenA_nil)))))))
    (sws_one (sf_ret (ef_if (tf_cmp (og_eq rm) (EW.x (ef_countA rm (xv 2) ef_bl)) (EW.x ef_int) (nomark _)) (ef_ix (EW.x (NF.e (nf_lst (ea_cons ef_str (ea_cons ef_str (ea_cons ef_str (ea_cons ef_str ea_nil)))) (lenA_cons (lenA_cons (lenA_cons (lenA_cons lenA_nil))))))) (EW.x (ef_indexB (xv 2) ef_bl))) ef_str)))))

def T_law : TSt := (wSeq (wRow 1 (fW (aCons (gV 0) (aCons (gC (.int 0)) (aCons (gC (.int 9929)) (aCons (gC (.int 0)) aNil))))))
  (wSeq (fW (sSet 2 (fun ρ => ((aCons (vTup (aCons (gC (.str "")) (aCons (gC (.int 1)) aNil))) (aCons (vTup (aCons (gC (.str "  ")) (aCons (gC (.int 1)) aNil))) (aCons (vTup (aCons (gC (.str "0")) (aCons (gC (.int 1)) aNil))) (aCons (vTup (aCons (gC (.str "1 -")) (aCons (gC (.int 2)) aNil))) (aCons (vTup (aCons (gC (.str "1 1")) (aCons (gC (.int 2)) aNil))) (aCons (vTup (aCons (gC (.str "- 0")) (aCons (gC (.int 2)) aNil))) (aCons (vTup (aCons (gC (.str "1 0 x")) (aCons (gC (.int 3)) aNil))) (aCons (vTup (aCons (gC (.str "2 - 1")) (aCons (gC (.int 3)) aNil))) aNil)))))))) ρ).map PyData.list)))
  (wSeq (fW (sSet 2 (b2 dAdd (gX 2) (fun ρ => ((aCons (vTup (aCons (gC (.str "12 0 10")) (aCons (gC (.int 3)) aNil))) (aCons (vTup (aCons (gC (.str "12 0")) (aCons (gC (.int 1)) aNil))) (aCons (vTup (aCons (gC (.str "- - 3")) (aCons (gC (.int 3)) aNil))) (aCons (vTup (aCons (gC (.str "- - - - - - - -")) (aCons (gC (.int 8)) aNil))) (aCons (vTup (aCons (gC (.str "--")) (aCons (gC (.int 1)) aNil))) (aCons (vTup (aCons (gC (.str "1 0 -0")) (aCons (gC (.int 3)) aNil))) (aCons (vTup (aCons (gC (.str "2 - 0 00")) (aCons (gC (.int 4)) aNil))) aNil))))))) ρ).map PyData.list))))
  (wSeq (wFor (tgN 3) (fW (aOf gRng1 (aCons (gC (.int 6)) aNil))) (wSeq (wAsg (tg2 4 5) (wDraw 1 w__law_pick (wCons (fW (gV 2)) wNil)))
  (fW (sIf (bB (b2 dNe (fTellE XS_told (eCall (aCons (gV 4) aNil) re_read_web) ans__law_told) (vTup (aCons (gC (.int 1)) (aCons (gV 5) aNil))))) (sRet (gC (.bool false))) sNil))))
  (wSeq (fW (sSet 6 (vTup (aCons (vTup (aCons (gC (.int 1)) aNil)) (aCons (vTup (aCons (gC (.int 0)) aNil)) (aCons (vTup aNil) aNil))))))
  (wSeq (fW (sSet 2 (fun ρ => ((aCons (vTup (aCons (gC (.str "3")) (aCons (gC (.int 1)) aNil))) (aCons (vTup (aCons (gC (.str "0 1 x")) (aCons (gC (.int 3)) aNil))) (aCons (vTup (aCons (gC (.str "0 -1")) (aCons (gC (.int 2)) aNil))) (aCons (vTup (aCons (b2 dAdd (b2 dMulS (gC (.str "0 ")) (gC (.int 60))) (gC (.str "1"))) (aCons (gC (.int 61)) aNil))) (aCons (vTup (aCons (gC (.str "00")) (aCons (gC (.int 1)) aNil))) (aCons (vTup (aCons (gC (.str "2 1 0 9")) (aCons (gC (.int 4)) aNil))) aNil)))))) ρ).map PyData.list)))
  (wSeq (wFor (tgN 3) (fW (aOf gRng1 (aCons (gC (.int 4)) aNil))) (wSeq (wAsg (tg2 4 5) (wDraw 1 w__law_pick (wCons (fW (gV 2)) wNil)))
  (fW (sIf (bB (b2 dNe (fTellE XS_told (eCall (aCons (gV 6) (aCons (gV 4) aNil)) re_read_calls) ans__law_told) (vTup (aCons (gC (.int 1)) (aCons (gV 5) aNil))))) (sRet (gC (.bool false))) sNil))))
  (wSeq (fW (sSet 2 (fun ρ => ((aCons (vTup (aCons (gC (.str "3")) (aCons (gC (.int 1)) aNil))) (aCons (vTup (aCons (gC (.str "0 0")) (aCons (gC (.int 2)) aNil))) (aCons (vTup (aCons (gC (.str "1 0")) (aCons (gC (.int 2)) aNil))) (aCons (vTup (aCons (gC (.str "0 1 2 2")) (aCons (gC (.int 4)) aNil))) (aCons (vTup (aCons (gC (.str "x")) (aCons (gC (.int 1)) aNil))) (aCons (vTup (aCons (gC (.str "0 02")) (aCons (gC (.int 2)) aNil))) (aCons (vTup (aCons (gC (.str "0 2 1 x")) (aCons (gC (.int 3)) aNil))) aNil))))))) ρ).map PyData.list)))
  (wSeq (wFor (tgN 3) (fW (aOf gRng1 (aCons (gC (.int 4)) aNil))) (wSeq (wAsg (tg2 4 5) (wDraw 1 w__law_pick (wCons (fW (gV 2)) wNil)))
  (fW (sIf (bB (b2 dNe (fTellE XS_told (eCall (aCons (gV 6) (aCons (gV 4) aNil)) re_read_standing) ans__law_told) (vTup (aCons (gC (.int 1)) (aCons (gV 5) aNil))))) (sRet (gC (.bool false))) sNil))))
  (wSeq (wSet 7 (wDraw 1 w__law_pick (wCons (fW (fun ρ => ((aCons (gC .none) (aCons (gC (.int 5)) (aCons (fun ρ => ((aCons (gC (.str "0")) aNil) ρ).map PyData.list) (aCons (vTup aNil) aNil)))) ρ).map PyData.list)) wNil)))
  (fW (sSeq (sSet 8 (fun ρ => ((aCons (fTellE XS_told (eCall (aCons (gV 7) aNil) re_read_web) ans__law_told) aNil) ρ).map PyData.list))
  (sSeq (sSet 8 (b2 dAdd (gX 8) (fun ρ => ((aCons (fTellE XS_told (eCall (aCons (gV 6) (aCons (gV 7) aNil)) re_read_calls) ans__law_told) aNil) ρ).map PyData.list)))
  (sSeq (sSet 8 (b2 dAdd (gX 8) (fun ρ => ((aCons (fTellE XS_told (eCall (aCons (gV 6) (aCons (gV 7) aNil)) re_read_standing) ans__law_told) aNil) ρ).map PyData.list)))
  (sSeq (sSet 8 (b2 dAdd (gX 8) (fun ρ => ((aCons (fTellE XS_told (eCall (aCons (gV 7) (aCons (gV 7) aNil)) re_read_calls) ans__law_told) aNil) ρ).map PyData.list)))
  (sSeq (sSet 8 (b2 dAdd (gX 8) (fun ρ => ((aCons (fTellE XS_told (eCall (aCons (gV 7) (aCons (gV 7) aNil)) re_read_standing) ans__law_told) aNil) ρ).map PyData.list)))
  (sSeq (sSet 8 (b2 dAdd (gX 8) (fun ρ => ((aCons (fTellE XS_told (eCall (aCons (gV 7) aNil) re_write_web) ans__law_told) aNil) ρ).map PyData.list)))
  (sSeq (sSet 8 (b2 dAdd (gX 8) (fun ρ => ((aCons (fTellE XS_told (eCall (aCons (gV 7) aNil) re_write_pairs) ans__law_told) aNil) ρ).map PyData.list)))
  (sSeq (sSet 8 (b2 dAdd (gX 8) (fun ρ => ((aCons (fTellE XS_told (eCall (aCons (gV 6) (aCons (fun ρ => ((aCons (gC (.int 0)) aNil) ρ).map PyData.list) aNil)) re_write_calls) ans__law_told) aNil) ρ).map PyData.list)))
  (sSeq (sSet 8 (b2 dAdd (gX 8) (fun ρ => ((aCons (fTellE XS_told (eCall (aCons (gV 6) (aCons (vTup (aCons (gC (.int 1)) (aCons (gC (.int 0)) aNil))) aNil)) re_write_standing) ans__law_told) aNil) ρ).map PyData.list)))
  (sRet (b2 dEq (gX 8) (fun ρ => ((aCons (gC (.str "text")) (aCons (gC (.str "text")) (aCons (gC (.str "text")) (aCons (gC (.str "web")) (aCons (gC (.str "web")) (aCons (gC (.str "web")) (aCons (gC (.str "web")) (aCons (gC (.str "calls")) (aCons (gC (.str "standing")) aNil))))))))) ρ).map PyData.list)))))))))))))))))))))))

abbrev s_law : Stmt := topS 40
theorem sc_law : FnScope ["_law_script", "_law_row", "_law_tries", "_law_turn", "_law_text", "_law_word", "_law_web", "_law_none", "_law_found"] ["_law_script"] (defScope s_law) := ⟨rfl, rfl, rfl, by decide +kernel, rfl, by decide +kernel, by decide +kernel⟩
theorem sw_law (bi : Bi mg) (c__law_pick : DefOk P w K mg base "_law_pick" 2 (spR K 1 w__law_pick)) (c_read_web : DG P w K mg base "read_web" 4 1 g_read_web) (c_read_calls : DG P w K mg base "read_calls" 4 2 g_read_calls) (c_read_standing : DG P w K mg base "read_standing" 4 2 g_read_standing) (c_write_web : DG P w K mg base "write_web" 4 1 g_write_web) (c_write_pairs : DG P w K mg base "write_pairs" 4 1 g_write_pairs) (c_write_calls : DG P w K mg base "write_calls" 4 2 g_write_calls) (c_write_standing : DG P w K mg base "write_standing" 5 2 g_write_standing) (td : TellE K P w mg base ["_law_work", "e", "_law_known"] (defArgs s__law_told) (defBody s__law_told) (defScope s__law_told) XS_told ans__law_told) (mt : MkT K mg base "law") (e_read_web : DefE P w K mg base "read_web" 4 1 re_read_web) (e_read_calls : DefE P w K mg base "read_calls" 4 2 re_read_calls) (e_read_standing : DefE P w K mg base "read_standing" 4 2 re_read_standing) (e_write_web : DefE P w K mg base "write_web" 4 1 re_write_web) (e_write_pairs : DefE P w K mg base "write_pairs" 4 1 re_write_pairs) (e_write_calls : DefE P w K mg base "write_calls" 4 2 re_write_calls) (e_write_standing : DefE P w K mg base "write_standing" 5 2 re_write_standing) (A : Around) (outer : List Env) (s : Shared) (H : Hp) (E : XK) (f : Addr) (hr : Room 7 (A.deeper (envOfC "law" (defScope s_law) s.heap.objs.size f (.ref (He.codeOf K ("law", none)))))) : SWs (cxOf CX0 P w K mg base ["_law_script", "_law_row", "_law_tries", "_law_turn", "_law_text", "_law_word", "_law_web", "_law_none", "_law_found"] "law" (defScope s_law) f (.ref (He.codeOf K ("law", none))) A outer s H E).nox (defBody s_law) T_law := by
  have rm := rm_of (X := (cxOf CX0 P w K mg base ["_law_script", "_law_row", "_law_tries", "_law_turn", "_law_text", "_law_word", "_law_web", "_law_none", "_law_found"] "law" (defScope s_law) f (.ref (He.codeOf K ("law", none))) A outer s H E).nox) hr
  have nd := sc_law.nd
  exact (sws_cons (sw_row (ns_set (i := 1) nd rfl (by first | exact .inl rfl | exact .inr rfl) (nf_lst (ea_cons (ev 0) (ea_cons ef_int (ea_cons ef_int (ea_cons ef_int ea_nil)))) (lenA_cons (lenA_cons (lenA_cons (lenA_cons lenA_nil)))))))
    (sws_cons (sf_set (i := 2) nd rfl (by first | exact .inl rfl | exact .inr rfl) (NF.e (nf_lst (ea_cons (ef_tup (ea_cons ef_str (ea_cons ef_int ea_nil)) (lenA_cons (lenA_cons lenA_nil))) (ea_cons (ef_tup (ea_cons ef_str (ea_cons ef_int ea_nil)) (lenA_cons (lenA_cons lenA_nil))) (ea_cons (ef_tup (ea_cons ef_str (ea_cons ef_int ea_nil)) (lenA_cons (lenA_cons lenA_nil))) (ea_cons (ef_tup (ea_cons ef_str (ea_cons ef_int ea_nil)) (lenA_cons (lenA_cons lenA_nil))) (ea_cons (ef_tup (ea_cons ef_str (ea_cons ef_int ea_nil)) (lenA_cons (lenA_cons lenA_nil))) (ea_cons (ef_tup (ea_cons ef_str (ea_cons ef_int ea_nil)) (lenA_cons (lenA_cons lenA_nil))) (ea_cons (ef_tup (ea_cons ef_str (ea_cons ef_int ea_nil)) (lenA_cons (lenA_cons lenA_nil))) (ea_cons (ef_tup (ea_cons ef_str (ea_cons ef_int ea_nil)) (lenA_cons (lenA_cons lenA_nil))) ea_nil)))))))) (lenA_cons (lenA_cons (lenA_cons (lenA_cons (lenA_cons (lenA_cons (lenA_cons (lenA_cons lenA_nil)))))))))))
    (sws_cons (sf_set (i := 2) nd rfl (by first | exact .inl rfl | exact .inr rfl) (ef_bin og_add (xv 2) (EW.x (NF.e (nf_lst (ea_cons (ef_tup (ea_cons ef_str (ea_cons ef_int ea_nil)) (lenA_cons (lenA_cons lenA_nil))) (ea_cons (ef_tup (ea_cons ef_str (ea_cons ef_int ea_nil)) (lenA_cons (lenA_cons lenA_nil))) (ea_cons (ef_tup (ea_cons ef_str (ea_cons ef_int ea_nil)) (lenA_cons (lenA_cons lenA_nil))) (ea_cons (ef_tup (ea_cons ef_str (ea_cons ef_int ea_nil)) (lenA_cons (lenA_cons lenA_nil))) (ea_cons (ef_tup (ea_cons ef_str (ea_cons ef_int ea_nil)) (lenA_cons (lenA_cons lenA_nil))) (ea_cons (ef_tup (ea_cons ef_str (ea_cons ef_int ea_nil)) (lenA_cons (lenA_cons lenA_nil))) (ea_cons (ef_tup (ea_cons ef_str (ea_cons ef_int ea_nil)) (lenA_cons (lenA_cons lenA_nil))) ea_nil))))))) (lenA_cons (lenA_cons (lenA_cons (lenA_cons (lenA_cons (lenA_cons (lenA_cons lenA_nil))))))))))))
    (sws_cons (sw_for PassesOwn.never rfl (if_rng1 rfl bi.range (xa_cons (EW.x ef_int) xa_nil)) (gw_name (i := 3) nd rfl (by first | exact .inl rfl | exact .inr rfl)) (sws_cons (sw_asg (ew_draw (i := 1) (c__law_pick.cal hr) clo_mono rfl (by first | exact .inl rfl | exact .inr (.inl rfl) | exact .inr (.inr rfl)) (eal_cons (ev 2) eal_nil) rfl) (gw_two (i := 4) (j := 5) rfl nd rfl (by first | exact .inl rfl | exact .inr rfl) rfl (by first | exact .inl rfl | exact .inr rfl)))
    (sws_one (sf_if (tf_cmp (og_ne rm) (EW.x (ef_tellR 5 td mt.tb mt.tm mt.tu (hr.mono (by decide)) rfl rfl (show LamX.lamSB (defScope s_law) _ = true by decide +kernel) rfl (fun _ _ _ _ _ => by kernel_rfl) (fun A outer s H E f c' hr rm => lam_e (e_read_web.cal hr) (ea_cons (ev 4) ea_nil) (lenA_cons lenA_nil) rfl))) (EW.x (ef_tup (ea_cons ef_int (ea_cons (ev 5) ea_nil)) (lenA_cons (lenA_cons lenA_nil)))) (nomark _)) (sws_one (sf_ret ef_bl)) sfs_nil))))
    (sws_cons (sf_set (i := 6) nd rfl (by first | exact .inl rfl | exact .inr rfl) (ef_tup (ea_cons (ef_tup (ea_cons ef_int ea_nil) (lenA_cons lenA_nil)) (ea_cons (ef_tup (ea_cons ef_int ea_nil) (lenA_cons lenA_nil)) (ea_cons (ef_tup ea_nil lenA_nil) ea_nil))) (lenA_cons (lenA_cons (lenA_cons lenA_nil)))))
    (sws_cons (sf_set (i := 2) nd rfl (by first | exact .inl rfl | exact .inr rfl) (NF.e (nf_lst (ea_cons (ef_tup (ea_cons ef_str (ea_cons ef_int ea_nil)) (lenA_cons (lenA_cons lenA_nil))) (ea_cons (ef_tup (ea_cons ef_str (ea_cons ef_int ea_nil)) (lenA_cons (lenA_cons lenA_nil))) (ea_cons (ef_tup (ea_cons ef_str (ea_cons ef_int ea_nil)) (lenA_cons (lenA_cons lenA_nil))) (ea_cons (ef_tup (ea_cons (ef_bin og_add (EW.x (ef_bin og_mulS (EW.x ef_str) (EW.x ef_int))) (EW.x ef_str)) (ea_cons ef_int ea_nil)) (lenA_cons (lenA_cons lenA_nil))) (ea_cons (ef_tup (ea_cons ef_str (ea_cons ef_int ea_nil)) (lenA_cons (lenA_cons lenA_nil))) (ea_cons (ef_tup (ea_cons ef_str (ea_cons ef_int ea_nil)) (lenA_cons (lenA_cons lenA_nil))) ea_nil)))))) (lenA_cons (lenA_cons (lenA_cons (lenA_cons (lenA_cons (lenA_cons lenA_nil)))))))))
    (sws_cons (sw_for PassesOwn.never rfl (if_rng1 rfl bi.range (xa_cons (EW.x ef_int) xa_nil)) (gw_name (i := 3) nd rfl (by first | exact .inl rfl | exact .inr rfl)) (sws_cons (sw_asg (ew_draw (i := 1) (c__law_pick.cal hr) clo_mono rfl (by first | exact .inl rfl | exact .inr (.inl rfl) | exact .inr (.inr rfl)) (eal_cons (ev 2) eal_nil) rfl) (gw_two (i := 4) (j := 5) rfl nd rfl (by first | exact .inl rfl | exact .inr rfl) rfl (by first | exact .inl rfl | exact .inr rfl)))
    (sws_one (sf_if (tf_cmp (og_ne rm) (EW.x (ef_tellR 5 td mt.tb mt.tm mt.tu (hr.mono (by decide)) rfl rfl (show LamX.lamSB (defScope s_law) _ = true by decide +kernel) rfl (fun _ _ _ _ _ => by kernel_rfl) (fun A outer s H E f c' hr rm => lam_e (e_read_calls.cal hr) (ea_cons (ev 6) (ea_cons (ev 4) ea_nil)) (lenA_cons (lenA_cons lenA_nil)) rfl))) (EW.x (ef_tup (ea_cons ef_int (ea_cons (ev 5) ea_nil)) (lenA_cons (lenA_cons lenA_nil)))) (nomark _)) (sws_one (sf_ret ef_bl)) sfs_nil))))
    (sws_cons (sf_set (i := 2) nd rfl (by first | exact .inl rfl | exact .inr rfl) (NF.e (nf_lst (ea_cons (ef_tup (ea_cons ef_str (ea_cons ef_int ea_nil)) (lenA_cons (lenA_cons lenA_nil))) (ea_cons (ef_tup (ea_cons ef_str (ea_cons ef_int ea_nil)) (lenA_cons (lenA_cons lenA_nil))) (ea_cons (ef_tup (ea_cons ef_str (ea_cons ef_int ea_nil)) (lenA_cons (lenA_cons lenA_nil))) (ea_cons (ef_tup (ea_cons ef_str (ea_cons ef_int ea_nil)) (lenA_cons (lenA_cons lenA_nil))) (ea_cons (ef_tup (ea_cons ef_str (ea_cons ef_int ea_nil)) (lenA_cons (lenA_cons lenA_nil))) (ea_cons (ef_tup (ea_cons ef_str (ea_cons ef_int ea_nil)) (lenA_cons (lenA_cons lenA_nil))) (ea_cons (ef_tup (ea_cons ef_str (ea_cons ef_int ea_nil)) (lenA_cons (lenA_cons lenA_nil))) ea_nil))))))) (lenA_cons (lenA_cons (lenA_cons (lenA_cons (lenA_cons (lenA_cons (lenA_cons lenA_nil))))))))))
    (sws_cons (sw_for PassesOwn.never rfl (if_rng1 rfl bi.range (xa_cons (EW.x ef_int) xa_nil)) (gw_name (i := 3) nd rfl (by first | exact .inl rfl | exact .inr rfl)) (sws_cons (sw_asg (ew_draw (i := 1) (c__law_pick.cal hr) clo_mono rfl (by first | exact .inl rfl | exact .inr (.inl rfl) | exact .inr (.inr rfl)) (eal_cons (ev 2) eal_nil) rfl) (gw_two (i := 4) (j := 5) rfl nd rfl (by first | exact .inl rfl | exact .inr rfl) rfl (by first | exact .inl rfl | exact .inr rfl)))
    (sws_one (sf_if (tf_cmp (og_ne rm) (EW.x (ef_tellR 5 td mt.tb mt.tm mt.tu (hr.mono (by decide)) rfl rfl (show LamX.lamSB (defScope s_law) _ = true by decide +kernel) rfl (fun _ _ _ _ _ => by kernel_rfl) (fun A outer s H E f c' hr rm => lam_e (e_read_standing.cal hr) (ea_cons (ev 6) (ea_cons (ev 4) ea_nil)) (lenA_cons (lenA_cons lenA_nil)) rfl))) (EW.x (ef_tup (ea_cons ef_int (ea_cons (ev 5) ea_nil)) (lenA_cons (lenA_cons lenA_nil)))) (nomark _)) (sws_one (sf_ret ef_bl)) sfs_nil))))
    (sws_cons (sw_set (i := 7) nd rfl (by first | exact .inl rfl | exact .inr rfl) (ew_draw (i := 1) (c__law_pick.cal hr) clo_mono rfl (by first | exact .inl rfl | exact .inr (.inl rfl) | exact .inr (.inr rfl)) (eal_cons (NF.e (nf_lst (ea_cons ef_non (ea_cons ef_int (ea_cons (NF.e (nf_lst (ea_cons ef_str ea_nil) (lenA_cons lenA_nil))) (ea_cons (ef_tup ea_nil lenA_nil) ea_nil)))) (lenA_cons (lenA_cons (lenA_cons (lenA_cons lenA_nil)))))) eal_nil) rfl))
    (sfs_cons (sf_set (i := 8) nd rfl (by first | exact .inl rfl | exact .inr rfl) (NF.e (nf_lst (ea_cons (ef_tellR 5 td mt.tb mt.tm mt.tu (hr.mono (by decide)) rfl rfl (show LamX.lamSB (defScope s_law) _ = true by decide +kernel) rfl (fun _ _ _ _ _ => by kernel_rfl) (fun A outer s H E f c' hr rm => lam_e (e_read_web.cal hr) (ea_cons (ev 7) ea_nil) (lenA_cons lenA_nil) rfl)) ea_nil) (lenA_cons lenA_nil))))
    (sfs_cons (sf_set (i := 8) nd rfl (by first | exact .inl rfl | exact .inr rfl) (ef_bin og_add (xv 8) (EW.x (NF.e (nf_lst (ea_cons (ef_tellR 5 td mt.tb mt.tm mt.tu (hr.mono (by decide)) rfl rfl (show LamX.lamSB (defScope s_law) _ = true by decide +kernel) rfl (fun _ _ _ _ _ => by kernel_rfl) (fun A outer s H E f c' hr rm => lam_e (e_read_calls.cal hr) (ea_cons (ev 6) (ea_cons (ev 7) ea_nil)) (lenA_cons (lenA_cons lenA_nil)) rfl)) ea_nil) (lenA_cons lenA_nil))))))
    (sfs_cons (sf_set (i := 8) nd rfl (by first | exact .inl rfl | exact .inr rfl) (ef_bin og_add (xv 8) (EW.x (NF.e (nf_lst (ea_cons (ef_tellR 5 td mt.tb mt.tm mt.tu (hr.mono (by decide)) rfl rfl (show LamX.lamSB (defScope s_law) _ = true by decide +kernel) rfl (fun _ _ _ _ _ => by kernel_rfl) (fun A outer s H E f c' hr rm => lam_e (e_read_standing.cal hr) (ea_cons (ev 6) (ea_cons (ev 7) ea_nil)) (lenA_cons (lenA_cons lenA_nil)) rfl)) ea_nil) (lenA_cons lenA_nil))))))
    (sfs_cons (sf_set (i := 8) nd rfl (by first | exact .inl rfl | exact .inr rfl) (ef_bin og_add (xv 8) (EW.x (NF.e (nf_lst (ea_cons (ef_tellR 5 td mt.tb mt.tm mt.tu (hr.mono (by decide)) rfl rfl (show LamX.lamSB (defScope s_law) _ = true by decide +kernel) rfl (fun _ _ _ _ _ => by kernel_rfl) (fun A outer s H E f c' hr rm => lam_e (e_read_calls.cal hr) (ea_cons (ev 7) (ea_cons (ev 7) ea_nil)) (lenA_cons (lenA_cons lenA_nil)) rfl)) ea_nil) (lenA_cons lenA_nil))))))
    (sfs_cons (sf_set (i := 8) nd rfl (by first | exact .inl rfl | exact .inr rfl) (ef_bin og_add (xv 8) (EW.x (NF.e (nf_lst (ea_cons (ef_tellR 5 td mt.tb mt.tm mt.tu (hr.mono (by decide)) rfl rfl (show LamX.lamSB (defScope s_law) _ = true by decide +kernel) rfl (fun _ _ _ _ _ => by kernel_rfl) (fun A outer s H E f c' hr rm => lam_e (e_read_standing.cal hr) (ea_cons (ev 7) (ea_cons (ev 7) ea_nil)) (lenA_cons (lenA_cons lenA_nil)) rfl)) ea_nil) (lenA_cons lenA_nil))))))
    (sfs_cons (sf_set (i := 8) nd rfl (by first | exact .inl rfl | exact .inr rfl) (ef_bin og_add (xv 8) (EW.x (NF.e (nf_lst (ea_cons (ef_tellR 5 td mt.tb mt.tm mt.tu (hr.mono (by decide)) rfl rfl (show LamX.lamSB (defScope s_law) _ = true by decide +kernel) rfl (fun _ _ _ _ _ => by kernel_rfl) (fun A outer s H E f c' hr rm => lam_e (e_write_web.cal hr) (ea_cons (ev 7) ea_nil) (lenA_cons lenA_nil) rfl)) ea_nil) (lenA_cons lenA_nil))))))
    (sfs_cons (sf_set (i := 8) nd rfl (by first | exact .inl rfl | exact .inr rfl) (ef_bin og_add (xv 8) (EW.x (NF.e (nf_lst (ea_cons (ef_tellR 5 td mt.tb mt.tm mt.tu (hr.mono (by decide)) rfl rfl (show LamX.lamSB (defScope s_law) _ = true by decide +kernel) rfl (fun _ _ _ _ _ => by kernel_rfl) (fun A outer s H E f c' hr rm => lam_e (e_write_pairs.cal hr) (ea_cons (ev 7) ea_nil) (lenA_cons lenA_nil) rfl)) ea_nil) (lenA_cons lenA_nil))))))
    (sfs_cons (sf_set (i := 8) nd rfl (by first | exact .inl rfl | exact .inr rfl) (ef_bin og_add (xv 8) (EW.x (NF.e (nf_lst (ea_cons (ef_tellR 5 td mt.tb mt.tm mt.tu (hr.mono (by decide)) rfl rfl (show LamX.lamSB (defScope s_law) _ = true by decide +kernel) rfl (fun _ _ _ _ _ => by kernel_rfl) (fun A outer s H E f c' hr rm => lam_e (e_write_calls.cal hr) (ea_cons (ev 6) (ea_cons (NF.e (nf_lst (ea_cons ef_int ea_nil) (lenA_cons lenA_nil))) ea_nil)) (lenA_cons (lenA_cons lenA_nil)) rfl)) ea_nil) (lenA_cons lenA_nil))))))
    (sfs_cons (sf_set (i := 8) nd rfl (by first | exact .inl rfl | exact .inr rfl) (ef_bin og_add (xv 8) (EW.x (NF.e (nf_lst (ea_cons (ef_tellR 5 td mt.tb mt.tm mt.tu (hr.mono (by decide)) rfl rfl (show LamX.lamSB (defScope s_law) _ = true by decide +kernel) rfl (fun _ _ _ _ _ => by kernel_rfl) (fun A outer s H E f c' hr rm => lam_e (e_write_standing.cal hr) (ea_cons (ev 6) (ea_cons (ef_tup (ea_cons ef_int (ea_cons ef_int ea_nil)) (lenA_cons (lenA_cons lenA_nil))) ea_nil)) (lenA_cons (lenA_cons lenA_nil)) rfl)) ea_nil) (lenA_cons lenA_nil))))))
    (sws_one (sf_ret (ef_cmp (og_eq rm) (xv 8) (EW.x (NF.e (nf_lst (ea_cons ef_str (ea_cons ef_str (ea_cons ef_str (ea_cons ef_str (ea_cons ef_str (ea_cons ef_str (ea_cons ef_str (ea_cons ef_str (ea_cons ef_str ea_nil))))))))) (lenA_cons (lenA_cons (lenA_cons (lenA_cons (lenA_cons (lenA_cons (lenA_cons (lenA_cons (lenA_cons lenA_nil)))))))))))) (nomark _)))))))))))))))))))))))

end
end W

set_option maxHeartbeats 1000000
namespace W
open PySem PySem.Spec PyProof.Rows L2 L2.P
theorem w_pick {ps : List D} {K : D → Prop} (h1 : 1 ≤ ps.length) (h2 : ps.length ≤ 1000) (k : ∀ p ∈ ps, K p) : w__law_pick [.list ps] K := by
  refine clo_in ?_
  show T__law_pick [.row, .v (.list ps)] _
  refine ⟨_, rfl, rfl, _, rfl, ps.length, rfl, by omega, by omega, fun m hm0 hm1 => ?_⟩
  obtain ⟨x, a, b⟩ := atI_ix ps m hm0 hm1
  exact ⟨x, b, k x (List.mem_of_getElem? a)⟩
def num (i : Int) : Str := toString i
end W

set_option maxRecDepth 1000000
set_option maxHeartbeats 4000000
namespace W
open PySem PySem.Spec PyProof.Rows L2 L2.P
def Wb : D := (.tuple [.tuple [.int 1], .tuple [.int 0], .tuple []])
def ts1 : List D := [.tuple [.str "", .int 1], .tuple [.str "  ", .int 1], .tuple [.str "0", .int 1], .tuple [.str "1 -", .int 2], .tuple [.str "1 1", .int 2], .tuple [.str "- 0", .int 2], .tuple [.str "1 0 x", .int 3], .tuple [.str "2 - 1", .int 3], .tuple [.str "12 0 10", .int 3], .tuple [.str "12 0", .int 1], .tuple [.str "- - 3", .int 3], .tuple [.str "- - - - - - - -", .int 8], .tuple [.str "--", .int 1], .tuple [.str "1 0 -0", .int 3], .tuple [.str "2 - 0 00", .int 4]]
def Q1 : Rho → Option Fl := (sIf (bB (b2 dNe (fTellE XS_told (eCall (aCons (gV 4) aNil) re_read_web) ans__law_told) (vTup (aCons (gC (.int 1)) (aCons (gV 5) aNil))))) (sRet (gC (.bool false))) sNil)
def st1 (xs : D) (x : Int) (t w : D) : Rho := [.v xs, .row, .v (.list ts1), .v (.int x), .v t, .v w, .no, .no, .no]
theorem q1_0 (xs : D) (x : Int) : Q1 (st1 xs x (.str "") (.int 1)) = some (.nx (st1 xs x (.str "") (.int 1))) := by kernel_rfl
theorem q1_1 (xs : D) (x : Int) : Q1 (st1 xs x (.str "  ") (.int 1)) = some (.nx (st1 xs x (.str "  ") (.int 1))) := by kernel_rfl
theorem q1_2 (xs : D) (x : Int) : Q1 (st1 xs x (.str "0") (.int 1)) = some (.nx (st1 xs x (.str "0") (.int 1))) := by kernel_rfl
theorem q1_3 (xs : D) (x : Int) : Q1 (st1 xs x (.str "1 -") (.int 2)) = some (.nx (st1 xs x (.str "1 -") (.int 2))) := by kernel_rfl
theorem q1_4 (xs : D) (x : Int) : Q1 (st1 xs x (.str "1 1") (.int 2)) = some (.nx (st1 xs x (.str "1 1") (.int 2))) := by kernel_rfl
theorem q1_5 (xs : D) (x : Int) : Q1 (st1 xs x (.str "- 0") (.int 2)) = some (.nx (st1 xs x (.str "- 0") (.int 2))) := by kernel_rfl
theorem q1_6 (xs : D) (x : Int) : Q1 (st1 xs x (.str "1 0 x") (.int 3)) = some (.nx (st1 xs x (.str "1 0 x") (.int 3))) := by kernel_rfl
theorem q1_7 (xs : D) (x : Int) : Q1 (st1 xs x (.str "2 - 1") (.int 3)) = some (.nx (st1 xs x (.str "2 - 1") (.int 3))) := by kernel_rfl
theorem q1_8 (xs : D) (x : Int) : Q1 (st1 xs x (.str "12 0 10") (.int 3)) = some (.nx (st1 xs x (.str "12 0 10") (.int 3))) := by kernel_rfl
theorem q1_9 (xs : D) (x : Int) : Q1 (st1 xs x (.str "12 0") (.int 1)) = some (.nx (st1 xs x (.str "12 0") (.int 1))) := by kernel_rfl
theorem q1_10 (xs : D) (x : Int) : Q1 (st1 xs x (.str "- - 3") (.int 3)) = some (.nx (st1 xs x (.str "- - 3") (.int 3))) := by kernel_rfl
theorem q1_11 (xs : D) (x : Int) : Q1 (st1 xs x (.str "- - - - - - - -") (.int 8)) = some (.nx (st1 xs x (.str "- - - - - - - -") (.int 8))) := by kernel_rfl
theorem q1_12 (xs : D) (x : Int) : Q1 (st1 xs x (.str "--") (.int 1)) = some (.nx (st1 xs x (.str "--") (.int 1))) := by kernel_rfl
theorem q1_13 (xs : D) (x : Int) : Q1 (st1 xs x (.str "1 0 -0") (.int 3)) = some (.nx (st1 xs x (.str "1 0 -0") (.int 3))) := by kernel_rfl
theorem q1_14 (xs : D) (x : Int) : Q1 (st1 xs x (.str "2 - 0 00") (.int 4)) = some (.nx (st1 xs x (.str "2 - 0 00") (.int 4))) := by kernel_rfl
theorem all1 {p : D} (hp : p ∈ ts1) (xs : D) (x : Int) : ∃ (t : Str) (w : Int), p = .tuple [.str t, .int w] ∧ Q1 (st1 xs x (.str t) (.int w)) = some (.nx (st1 xs x (.str t) (.int w))) := by
  unfold ts1 at hp
  simp only [List.mem_cons, List.not_mem_nil, or_false] at hp
  rcases hp with rfl | rfl | rfl | rfl | rfl | rfl | rfl | rfl | rfl | rfl | rfl | rfl | rfl | rfl | rfl
  · exact ⟨_, _, rfl, q1_0 xs x⟩
  · exact ⟨_, _, rfl, q1_1 xs x⟩
  · exact ⟨_, _, rfl, q1_2 xs x⟩
  · exact ⟨_, _, rfl, q1_3 xs x⟩
  · exact ⟨_, _, rfl, q1_4 xs x⟩
  · exact ⟨_, _, rfl, q1_5 xs x⟩
  · exact ⟨_, _, rfl, q1_6 xs x⟩
  · exact ⟨_, _, rfl, q1_7 xs x⟩
  · exact ⟨_, _, rfl, q1_8 xs x⟩
  · exact ⟨_, _, rfl, q1_9 xs x⟩
  · exact ⟨_, _, rfl, q1_10 xs x⟩
  · exact ⟨_, _, rfl, q1_11 xs x⟩
  · exact ⟨_, _, rfl, q1_12 xs x⟩
  · exact ⟨_, _, rfl, q1_13 xs x⟩
  · exact ⟨_, _, rfl, q1_14 xs x⟩
theorem loop1 {N : Nat} {K : Fl → Prop} (hN : 1 ≤ N) (xs : D) (a b c : Option D) (k : ∀ a b c : D, K (.nx [.v xs, .row, .v (.list ts1), .v a, .v b, .v c, .no, .no, .no])) :
    forW (tgN 3) (wSeq (wAsg (tg2 4 5) (wDraw 1 w__law_pick (wCons (fW (gV 2)) wNil))) (fW Q1)) ((upI N).map .int) [.v xs, .row, .v (.list ts1), nv a, nv b, nv c, .no, .no, .no] K := by
  refine forW_inv (enc := .int) (fun s : Option D × Option D × Option D => [.v xs, .row, .v (.list ts1), nv s.1, nv s.2.1, nv s.2.2, .no, .no, .no]) (fun i s => 1 ≤ i → ∃ a b c, s = (some a, some b, some c)) N (upI N) 0 (a, b, c) (by rw [upI_length]; omega) (fun z => by omega) (fun i s x K' hx hi hJ hk => ?_) (fun s hJ => ?_)
  · refine ⟨_, rfl, rfl, _, rfl, w_pick (by decide) (by decide) fun p hp => ?_⟩
    obtain ⟨t, w, rfl, e⟩ := all1 hp xs x
    exact ⟨_, rfl, _, e, hk (some (.int x), some (.str t), some (.int w)) fun _ => ⟨_, _, _, rfl⟩⟩
  · obtain ⟨a, b, c, rfl⟩ := hJ (by rw [upI_length]; omega)
    exact k a b c
def ts2 : List D := [.tuple [.str "3", .int 1], .tuple [.str "0 1 x", .int 3], .tuple [.str "0 -1", .int 2], .tuple [.str (repS 60 "0 " ++ "1"), .int 61], .tuple [.str "00", .int 1], .tuple [.str "2 1 0 9", .int 4]]
def Q2 : Rho → Option Fl := (sIf (bB (b2 dNe (fTellE XS_told (eCall (aCons (gV 6) (aCons (gV 4) aNil)) re_read_calls) ans__law_told) (vTup (aCons (gC (.int 1)) (aCons (gV 5) aNil))))) (sRet (gC (.bool false))) sNil)
def st2 (xs : D) (x : Int) (t w : D) : Rho := [.v xs, .row, .v (.list ts2), .v (.int x), .v t, .v w, .v Wb, .no, .no]
theorem q2_0 (xs : D) (x : Int) : Q2 (st2 xs x (.str "3") (.int 1)) = some (.nx (st2 xs x (.str "3") (.int 1))) := by kernel_rfl
theorem q2_1 (xs : D) (x : Int) : Q2 (st2 xs x (.str "0 1 x") (.int 3)) = some (.nx (st2 xs x (.str "0 1 x") (.int 3))) := by kernel_rfl
theorem q2_2 (xs : D) (x : Int) : Q2 (st2 xs x (.str "0 -1") (.int 2)) = some (.nx (st2 xs x (.str "0 -1") (.int 2))) := by kernel_rfl
theorem q2_3 (xs : D) (x : Int) : Q2 (st2 xs x (.str (repS 60 "0 " ++ "1")) (.int 61)) = some (.nx (st2 xs x (.str (repS 60 "0 " ++ "1")) (.int 61))) := by kernel_rfl
theorem q2_4 (xs : D) (x : Int) : Q2 (st2 xs x (.str "00") (.int 1)) = some (.nx (st2 xs x (.str "00") (.int 1))) := by kernel_rfl
theorem q2_5 (xs : D) (x : Int) : Q2 (st2 xs x (.str "2 1 0 9") (.int 4)) = some (.nx (st2 xs x (.str "2 1 0 9") (.int 4))) := by kernel_rfl
theorem all2 {p : D} (hp : p ∈ ts2) (xs : D) (x : Int) : ∃ (t : Str) (w : Int), p = .tuple [.str t, .int w] ∧ Q2 (st2 xs x (.str t) (.int w)) = some (.nx (st2 xs x (.str t) (.int w))) := by
  unfold ts2 at hp
  simp only [List.mem_cons, List.not_mem_nil, or_false] at hp
  rcases hp with rfl | rfl | rfl | rfl | rfl | rfl
  · exact ⟨_, _, rfl, q2_0 xs x⟩
  · exact ⟨_, _, rfl, q2_1 xs x⟩
  · exact ⟨_, _, rfl, q2_2 xs x⟩
  · exact ⟨_, _, rfl, q2_3 xs x⟩
  · exact ⟨_, _, rfl, q2_4 xs x⟩
  · exact ⟨_, _, rfl, q2_5 xs x⟩
theorem loop2 {N : Nat} {K : Fl → Prop} (hN : 1 ≤ N) (xs : D) (a b c : Option D) (k : ∀ a b c : D, K (.nx [.v xs, .row, .v (.list ts2), .v a, .v b, .v c, .v Wb, .no, .no])) :
    forW (tgN 3) (wSeq (wAsg (tg2 4 5) (wDraw 1 w__law_pick (wCons (fW (gV 2)) wNil))) (fW Q2)) ((upI N).map .int) [.v xs, .row, .v (.list ts2), nv a, nv b, nv c, .v Wb, .no, .no] K := by
  refine forW_inv (enc := .int) (fun s : Option D × Option D × Option D => [.v xs, .row, .v (.list ts2), nv s.1, nv s.2.1, nv s.2.2, .v Wb, .no, .no]) (fun i s => 1 ≤ i → ∃ a b c, s = (some a, some b, some c)) N (upI N) 0 (a, b, c) (by rw [upI_length]; omega) (fun z => by omega) (fun i s x K' hx hi hJ hk => ?_) (fun s hJ => ?_)
  · refine ⟨_, rfl, rfl, _, rfl, w_pick (by decide) (by decide) fun p hp => ?_⟩
    obtain ⟨t, w, rfl, e⟩ := all2 hp xs x
    exact ⟨_, rfl, _, e, hk (some (.int x), some (.str t), some (.int w)) fun _ => ⟨_, _, _, rfl⟩⟩
  · obtain ⟨a, b, c, rfl⟩ := hJ (by rw [upI_length]; omega)
    exact k a b c
def ts3 : List D := [.tuple [.str "3", .int 1], .tuple [.str "0 0", .int 2], .tuple [.str "1 0", .int 2], .tuple [.str "0 1 2 2", .int 4], .tuple [.str "x", .int 1], .tuple [.str "0 02", .int 2], .tuple [.str "0 2 1 x", .int 3]]
def Q3 : Rho → Option Fl := (sIf (bB (b2 dNe (fTellE XS_told (eCall (aCons (gV 6) (aCons (gV 4) aNil)) re_read_standing) ans__law_told) (vTup (aCons (gC (.int 1)) (aCons (gV 5) aNil))))) (sRet (gC (.bool false))) sNil)
def st3 (xs : D) (x : Int) (t w : D) : Rho := [.v xs, .row, .v (.list ts3), .v (.int x), .v t, .v w, .v Wb, .no, .no]
theorem q3_0 (xs : D) (x : Int) : Q3 (st3 xs x (.str "3") (.int 1)) = some (.nx (st3 xs x (.str "3") (.int 1))) := by kernel_rfl
theorem q3_1 (xs : D) (x : Int) : Q3 (st3 xs x (.str "0 0") (.int 2)) = some (.nx (st3 xs x (.str "0 0") (.int 2))) := by kernel_rfl
theorem q3_2 (xs : D) (x : Int) : Q3 (st3 xs x (.str "1 0") (.int 2)) = some (.nx (st3 xs x (.str "1 0") (.int 2))) := by kernel_rfl
theorem q3_3 (xs : D) (x : Int) : Q3 (st3 xs x (.str "0 1 2 2") (.int 4)) = some (.nx (st3 xs x (.str "0 1 2 2") (.int 4))) := by kernel_rfl
theorem q3_4 (xs : D) (x : Int) : Q3 (st3 xs x (.str "x") (.int 1)) = some (.nx (st3 xs x (.str "x") (.int 1))) := by kernel_rfl
theorem q3_5 (xs : D) (x : Int) : Q3 (st3 xs x (.str "0 02") (.int 2)) = some (.nx (st3 xs x (.str "0 02") (.int 2))) := by kernel_rfl
theorem q3_6 (xs : D) (x : Int) : Q3 (st3 xs x (.str "0 2 1 x") (.int 3)) = some (.nx (st3 xs x (.str "0 2 1 x") (.int 3))) := by kernel_rfl
theorem all3 {p : D} (hp : p ∈ ts3) (xs : D) (x : Int) : ∃ (t : Str) (w : Int), p = .tuple [.str t, .int w] ∧ Q3 (st3 xs x (.str t) (.int w)) = some (.nx (st3 xs x (.str t) (.int w))) := by
  unfold ts3 at hp
  simp only [List.mem_cons, List.not_mem_nil, or_false] at hp
  rcases hp with rfl | rfl | rfl | rfl | rfl | rfl | rfl
  · exact ⟨_, _, rfl, q3_0 xs x⟩
  · exact ⟨_, _, rfl, q3_1 xs x⟩
  · exact ⟨_, _, rfl, q3_2 xs x⟩
  · exact ⟨_, _, rfl, q3_3 xs x⟩
  · exact ⟨_, _, rfl, q3_4 xs x⟩
  · exact ⟨_, _, rfl, q3_5 xs x⟩
  · exact ⟨_, _, rfl, q3_6 xs x⟩
theorem loop3 {N : Nat} {K : Fl → Prop} (hN : 1 ≤ N) (xs : D) (a b c : Option D) (k : ∀ a b c : D, K (.nx [.v xs, .row, .v (.list ts3), .v a, .v b, .v c, .v Wb, .no, .no])) :
    forW (tgN 3) (wSeq (wAsg (tg2 4 5) (wDraw 1 w__law_pick (wCons (fW (gV 2)) wNil))) (fW Q3)) ((upI N).map .int) [.v xs, .row, .v (.list ts3), nv a, nv b, nv c, .v Wb, .no, .no] K := by
  refine forW_inv (enc := .int) (fun s : Option D × Option D × Option D => [.v xs, .row, .v (.list ts3), nv s.1, nv s.2.1, nv s.2.2, .v Wb, .no, .no]) (fun i s => 1 ≤ i → ∃ a b c, s = (some a, some b, some c)) N (upI N) 0 (a, b, c) (by rw [upI_length]; omega) (fun z => by omega) (fun i s x K' hx hi hJ hk => ?_) (fun s hJ => ?_)
  · refine ⟨_, rfl, rfl, _, rfl, w_pick (by decide) (by decide) fun p hp => ?_⟩
    obtain ⟨t, w, rfl, e⟩ := all3 hp xs x
    exact ⟨_, rfl, _, e, hk (some (.int x), some (.str t), some (.int w)) fun _ => ⟨_, _, _, rfl⟩⟩
  · obtain ⟨a, b, c, rfl⟩ := hJ (by rw [upI_length]; omega)
    exact k a b c
def runRt : Option Fl → Bool
  | some (.rt (.bool true)) => true
  | _ => false
theorem runRt_ok {o : Option Fl} (h : runRt o = true) : o = some (.rt (.bool true)) := by
  unfold runRt at h
  split at h
  · rfl
  · cases h
def Rf : Rho → Option Fl := (sSeq (sSet 8 (fun ρ => ((aCons (fTellE XS_told (eCall (aCons (gV 7) aNil) re_read_web) ans__law_told) aNil) ρ).map PyData.list))
  (sSeq (sSet 8 (b2 dAdd (gX 8) (fun ρ => ((aCons (fTellE XS_told (eCall (aCons (gV 6) (aCons (gV 7) aNil)) re_read_calls) ans__law_told) aNil) ρ).map PyData.list)))
  (sSeq (sSet 8 (b2 dAdd (gX 8) (fun ρ => ((aCons (fTellE XS_told (eCall (aCons (gV 6) (aCons (gV 7) aNil)) re_read_standing) ans__law_told) aNil) ρ).map PyData.list)))
  (sSeq (sSet 8 (b2 dAdd (gX 8) (fun ρ => ((aCons (fTellE XS_told (eCall (aCons (gV 7) (aCons (gV 7) aNil)) re_read_calls) ans__law_told) aNil) ρ).map PyData.list)))
  (sSeq (sSet 8 (b2 dAdd (gX 8) (fun ρ => ((aCons (fTellE XS_told (eCall (aCons (gV 7) (aCons (gV 7) aNil)) re_read_standing) ans__law_told) aNil) ρ).map PyData.list)))
  (sSeq (sSet 8 (b2 dAdd (gX 8) (fun ρ => ((aCons (fTellE XS_told (eCall (aCons (gV 7) aNil) re_write_web) ans__law_told) aNil) ρ).map PyData.list)))
  (sSeq (sSet 8 (b2 dAdd (gX 8) (fun ρ => ((aCons (fTellE XS_told (eCall (aCons (gV 7) aNil) re_write_pairs) ans__law_told) aNil) ρ).map PyData.list)))
  (sSeq (sSet 8 (b2 dAdd (gX 8) (fun ρ => ((aCons (fTellE XS_told (eCall (aCons (gV 6) (aCons (fun ρ => ((aCons (gC (.int 0)) aNil) ρ).map PyData.list) aNil)) re_write_calls) ans__law_told) aNil) ρ).map PyData.list)))
  (sSeq (sSet 8 (b2 dAdd (gX 8) (fun ρ => ((aCons (fTellE XS_told (eCall (aCons (gV 6) (aCons (vTup (aCons (gC (.int 1)) (aCons (gC (.int 0)) aNil))) aNil)) re_write_standing) ans__law_told) aNil) ρ).map PyData.list)))
  (sRet (b2 dEq (gX 8) (fun ρ => ((aCons (gC (.str "text")) (aCons (gC (.str "text")) (aCons (gC (.str "text")) (aCons (gC (.str "web")) (aCons (gC (.str "web")) (aCons (gC (.str "web")) (aCons (gC (.str "web")) (aCons (gC (.str "calls")) (aCons (gC (.str "standing")) aNil))))))))) ρ).map PyData.list))))))))))))
theorem r0 (xs a b c : D) : runRt (Rf [.v xs, .row, .v (.list ts3), .v a, .v b, .v c, .v Wb, .v (.none), .no]) = true := by kernel_rfl
theorem r1 (xs a b c : D) : runRt (Rf [.v xs, .row, .v (.list ts3), .v a, .v b, .v c, .v Wb, .v (.int 5), .no]) = true := by kernel_rfl
theorem r2 (xs a b c : D) : runRt (Rf [.v xs, .row, .v (.list ts3), .v a, .v b, .v c, .v Wb, .v (.list [.str "0"]), .no]) = true := by kernel_rfl
theorem r3 (xs a b c : D) : runRt (Rf [.v xs, .row, .v (.list ts3), .v a, .v b, .v c, .v Wb, .v (.tuple []), .no]) = true := by kernel_rfl
theorem law_value (ns : List Int) (h : ns.length ≤ 63) (K : D → Prop) (hK : K (.bool true)) : runW 9 T_law [.list (ns.map .int)] K := by
  show T_law [.v (.list (ns.map .int)), .no, .no, .no, .no, .no, .no, .no, .no] _
  refine ⟨by show 1 < 9; omega, _, rfl, ns, 0, 9929, 0, rfl, h, by omega, by omega, by omega, ?_⟩
  generalize PyData.list (ns.map .int) = xs
  refine ⟨_, rfl, _, rfl, _, gRng1_upI 6 (by omega), ?_⟩
  refine loop1 (N := 6) (by omega) xs none none none fun a b c => ?_
  refine ⟨_, rfl, _, rfl, _, gRng1_upI 4 (by omega), ?_⟩
  refine loop2 (N := 4) (by omega) xs (some a) (some b) (some c) fun a b c => ?_
  refine ⟨_, rfl, _, gRng1_upI 4 (by omega), ?_⟩
  refine loop3 (N := 4) (by omega) xs (some a) (some b) (some c) fun a b c => ?_
  refine ⟨rfl, _, rfl, w_pick (ps := [.none, .int 5, .list [.str "0"], .tuple []]) (by decide) (by decide) fun p hp => ?_⟩
  simp only [List.mem_cons, List.not_mem_nil, or_false] at hp
  rcases hp with rfl | rfl | rfl | rfl
  · exact ⟨_, runRt_ok (r0 xs a b c), hK⟩
  · exact ⟨_, runRt_ok (r1 xs a b c), hK⟩
  · exact ⟨_, runRt_ok (r2 xs a b c), hK⟩
  · exact ⟨_, runRt_ok (r3 xs a b c), hK⟩
end W

set_option maxRecDepth 100000
namespace W
open PySem PySem.Spec PyProof.Rows L2 L2.P
def d_is_integer : He.DefD := ⟨("is_integer", none), "is_integer", "is_integer", defArgs s_is_integer, defBody s_is_integer, defScope s_is_integer, [], []⟩
def d_is_in : He.DefD := ⟨("is_in", none), "is_in", "is_in", defArgs s_is_in, defBody s_is_in, defScope s_is_in, [], []⟩
def d_is_list : He.DefD := ⟨("is_list", none), "is_list", "is_list", defArgs s_is_list, defBody s_is_list, defScope s_is_list, [], []⟩
def d_need_web : He.DefD := ⟨("need_web", none), "need_web", "need_web", defArgs s_need_web, defBody s_need_web, defScope s_need_web, [], []⟩
def d_is_set : He.DefD := ⟨("is_set", none), "is_set", "is_set", defArgs s_is_set, defBody s_is_set, defScope s_is_set, [], []⟩
def d_need_state : He.DefD := ⟨("need_state", none), "need_state", "need_state", defArgs s_need_state, defBody s_need_state, defScope s_need_state, [], []⟩
def d_pairs_in : He.DefD := ⟨("pairs_in", none), "pairs_in", "pairs_in", defArgs s_pairs_in, defBody s_pairs_in, defScope s_pairs_in, [], []⟩
def d_need_calls : He.DefD := ⟨("need_calls", none), "need_calls", "need_calls", defArgs s_need_calls, defBody s_need_calls, defScope s_need_calls, [], []⟩
def d_number_of : He.DefD := ⟨("number_of", none), "number_of", "number_of", defArgs s_number_of, defBody s_number_of, defScope s_number_of, [], []⟩
def d_words_of : He.DefD := ⟨("words_of", none), "words_of", "words_of", defArgs s_words_of, defBody s_words_of, defScope s_words_of, [], []⟩
def d_need_text : He.DefD := ⟨("need_text", none), "need_text", "need_text", defArgs s_need_text, defBody s_need_text, defScope s_need_text, [], []⟩
def d_friends_word : He.DefD := ⟨("friends_word", none), "friends_word", "friends_word", defArgs s_friends_word, defBody s_friends_word, defScope s_friends_word, [], []⟩
def d_write_web : He.DefD := ⟨("write_web", none), "write_web", "write_web", defArgs s_write_web, defBody s_write_web, defScope s_write_web, [], []⟩
def d_friends_of : He.DefD := ⟨("friends_of", none), "friends_of", "friends_of", defArgs s_friends_of, defBody s_friends_of, defScope s_friends_of, [], []⟩
def d_web_of_words : He.DefD := ⟨("web_of_words", none), "web_of_words", "web_of_words", defArgs s_web_of_words, defBody s_web_of_words, defScope s_web_of_words, [], []⟩
def d_read_web : He.DefD := ⟨("read_web", none), "read_web", "read_web", defArgs s_read_web, defBody s_read_web, defScope s_read_web, [], []⟩
def d_write_calls : He.DefD := ⟨("write_calls", none), "write_calls", "write_calls", defArgs s_write_calls, defBody s_write_calls, defScope s_write_calls, [], []⟩
def d_read_calls : He.DefD := ⟨("read_calls", none), "read_calls", "read_calls", defArgs s_read_calls, defBody s_read_calls, defScope s_read_calls, [], []⟩
def d_write_pairs : He.DefD := ⟨("write_pairs", none), "write_pairs", "write_pairs", defArgs s_write_pairs, defBody s_write_pairs, defScope s_write_pairs, [], []⟩
def d_write_standing : He.DefD := ⟨("write_standing", none), "write_standing", "write_standing", defArgs s_write_standing, defBody s_write_standing, defScope s_write_standing, [], []⟩
def d_standing_of_words : He.DefD := ⟨("standing_of_words", none), "standing_of_words", "standing_of_words", defArgs s_standing_of_words, defBody s_standing_of_words, defScope s_standing_of_words, [], []⟩
def d_read_standing : He.DefD := ⟨("read_standing", none), "read_standing", "read_standing", defArgs s_read_standing, defBody s_read_standing, defScope s_read_standing, [], []⟩
def d__law_taken : He.DefD := ⟨("_law_taken", none), "_law_taken", "_law_taken", defArgs s__law_taken, defBody s__law_taken, defScope s__law_taken, [], []⟩
def d__law_pick : He.DefD := ⟨("_law_pick", none), "_law_pick", "_law_pick", defArgs s__law_pick, defBody s__law_pick, defScope s__law_pick, [], []⟩
def d__law_told : He.DefD := ⟨("_law_told", none), "_law_told", "_law_told", defArgs s__law_told, defBody s__law_told, defScope s__law_told, [], []⟩
def d_law : He.DefD := ⟨("law", none), "law", "law", defArgs s_law, defBody s_law, defScope s_law, [], []⟩
def fn : List He.DefD := [d_is_integer, d_is_in, d_is_list, d_need_web, d_is_set, d_need_state, d_pairs_in, d_need_calls, d_number_of, d_words_of, d_need_text, d_friends_word, d_write_web, d_friends_of, d_web_of_words, d_read_web, d_write_calls, d_read_calls, d_write_pairs, d_write_standing, d_standing_of_words, d_read_standing, d__law_taken, d__law_pick, d__law_told, d_law]
def fa : List He.Fa := [.glo "is_integer", .glo "is_in", .glo "is_list", .glo "need_web", .glo "is_set", .glo "need_state", .glo "pairs_in", .glo "need_calls", .glo "number_of", .glo "words_of", .glo "need_text", .glo "friends_word", .glo "write_web", .glo "friends_of", .glo "web_of_words", .glo "read_web", .glo "write_calls", .glo "read_calls", .glo "write_pairs", .glo "write_standing", .glo "standing_of_words", .glo "read_standing", .glo "_law_taken", .glo "_law_pick", .glo "_law_told", .glo "law", .free "len", .free "range", .free "tuple", .free "list", .free "sorted", .free "set", .free "any", .free "all", .free "min", .free "max", .free "sum", .free "abs", .free "int", .free "str", .free "bool", .free "isinstance", .free "enumerate", .free "zip", .str "DIGITS" "0123456", .int "MOST_CALLS" 60, .int "MOST_PEOPLE" 7, .glo "SitError", .glo "BadCalls", .glo "BadStanding", .glo "BadWeb", .glo "InvalidText", .glo "NotText", .free "super"]
def loose : List Str := (["is_integer", "is_in", "is_list", "SitError", "BadWeb", "BadStanding", "BadCalls", "NotText", "InvalidText", "MOST_PEOPLE", "need_web", "is_set", "need_state", "pairs_in", "MOST_CALLS", "need_calls", "DIGITS", "number_of", "words_of", "need_text", "friends_word", "write_web", "friends_of", "web_of_words", "read_web", "write_calls", "read_calls", "write_pairs", "write_standing", "standing_of_words"] : List Str) ++ (["read_standing", "_law_taken", "_law_pick", "_law_told"] : List Str)
def tf : List He.Defn := [("law", none)]
def ex (K : PySem.W.Frag) : Bool := (mkB K "law" && (ersB K XS_told && (kitB K XS_told YS_told && (noAtB K XS_told FS_told && (nmsB K ["BadStanding", "NotText"] && (iniB (PySem.Challenge.pw_tallsits_k29_texts_refused).main.file K "BadCalls" ["index"] && (iniB (PySem.Challenge.pw_tallsits_k29_texts_refused).main.file K "BadWeb" ["index"] && (iniB (PySem.Challenge.pw_tallsits_k29_texts_refused).main.file K "InvalidText" ["line", "word"] && tabsOkB K tf))))))))
theorem ex_mk_law_ok {K : PySem.W.Frag} (h : ex K = true) : mkB K "law" = true := (Bool.and_eq_true_iff.mp h).1
theorem ex_ers_ok {K : PySem.W.Frag} (h : ex K = true) : ersB K XS_told = true := (Bool.and_eq_true_iff.mp (Bool.and_eq_true_iff.mp h).2).1
theorem ex_kit_ok {K : PySem.W.Frag} (h : ex K = true) : kitB K XS_told YS_told = true := (Bool.and_eq_true_iff.mp (Bool.and_eq_true_iff.mp (Bool.and_eq_true_iff.mp h).2).2).1
theorem ex_noat_ok {K : PySem.W.Frag} (h : ex K = true) : noAtB K XS_told FS_told = true := (Bool.and_eq_true_iff.mp (Bool.and_eq_true_iff.mp (Bool.and_eq_true_iff.mp (Bool.and_eq_true_iff.mp h).2).2).2).1
theorem ex_nms_ok {K : PySem.W.Frag} (h : ex K = true) : nmsB K ["BadStanding", "NotText"] = true := (Bool.and_eq_true_iff.mp (Bool.and_eq_true_iff.mp (Bool.and_eq_true_iff.mp (Bool.and_eq_true_iff.mp (Bool.and_eq_true_iff.mp h).2).2).2).2).1
theorem ex_ini_BadCalls_ok {K : PySem.W.Frag} (h : ex K = true) : iniB (PySem.Challenge.pw_tallsits_k29_texts_refused).main.file K "BadCalls" ["index"] = true := (Bool.and_eq_true_iff.mp (Bool.and_eq_true_iff.mp (Bool.and_eq_true_iff.mp (Bool.and_eq_true_iff.mp (Bool.and_eq_true_iff.mp (Bool.and_eq_true_iff.mp h).2).2).2).2).2).1
theorem ex_ini_BadWeb_ok {K : PySem.W.Frag} (h : ex K = true) : iniB (PySem.Challenge.pw_tallsits_k29_texts_refused).main.file K "BadWeb" ["index"] = true := (Bool.and_eq_true_iff.mp (Bool.and_eq_true_iff.mp (Bool.and_eq_true_iff.mp (Bool.and_eq_true_iff.mp (Bool.and_eq_true_iff.mp (Bool.and_eq_true_iff.mp (Bool.and_eq_true_iff.mp h).2).2).2).2).2).2).1
theorem ex_ini_InvalidText_ok {K : PySem.W.Frag} (h : ex K = true) : iniB (PySem.Challenge.pw_tallsits_k29_texts_refused).main.file K "InvalidText" ["line", "word"] = true := (Bool.and_eq_true_iff.mp (Bool.and_eq_true_iff.mp (Bool.and_eq_true_iff.mp (Bool.and_eq_true_iff.mp (Bool.and_eq_true_iff.mp (Bool.and_eq_true_iff.mp (Bool.and_eq_true_iff.mp (Bool.and_eq_true_iff.mp h).2).2).2).2).2).2).2).1
theorem ex_tabs_ok {K : PySem.W.Frag} (h : ex K = true) : tabsOkB K tf = true := (Bool.and_eq_true_iff.mp (Bool.and_eq_true_iff.mp (Bool.and_eq_true_iff.mp (Bool.and_eq_true_iff.mp (Bool.and_eq_true_iff.mp (Bool.and_eq_true_iff.mp (Bool.and_eq_true_iff.mp (Bool.and_eq_true_iff.mp h).2).2).2).2).2).2).2).2
def i_BadCalls : IniD := ⟨"BadCalls", "BadCalls.__init__", defArgs (initS (topS 8)), defBody (initS (topS 8)), defScope (initS (topS 8))⟩
def i_BadWeb : IniD := ⟨"BadWeb", "BadWeb.__init__", defArgs (initS (topS 6)), defBody (initS (topS 6)), defScope (initS (topS 6))⟩
def i_InvalidText : IniD := ⟨"InvalidText", "InvalidText.__init__", defArgs (initS (topS 10)), defBody (initS (topS 10)), defScope (initS (topS 10))⟩
def fi : List IniD := [i_BadCalls, i_BadWeb, i_InvalidText]
abbrev R : PySem.W.OpenRow := PySem.W.OpenLaw.row PySem.Challenge.rw_tallsits_k29_texts_refused
abbrev hk : PySem.W.Hook := hookY 2 fa fn tf ex fi
def ob (s : PySem.W.SharedT) : AlY := obsY 2 fa fn tf ex fi (HandSHeadRun.getT s)
theorem ob_eq (s : PySem.W.SharedT) : ob s = hk.obs s.abs := obsY_eq (HandSHeadRun.getT_eq s)
open PySem PySem.W PySem.Calls PyProof.Rows HandSHeadRun in
theorem run_a1 (w : World) (os : OsState) : (endF (stepQ (denQ tabQ) R.prog w) 20000 R.prog w os).map (fun s => looksF R.prog (boot_heap w.params) s.abs) = some true := by kernel_rfl
open PySem PySem.W PySem.Calls PyProof.Rows HandSHeadRun in
theorem run_a2 (w : World) (os : OsState) : (endF (stepQ (denQ tabQ) R.prog w) 20000 R.prog w os).map (fun s => seenQ (view R.prog [40]) loose (importedModules R.prog.main.body) (fun s => xlAt (view R.prog [40]) [] s && recOk R.toRowW.records s) s.abs) = some (openGood (view R.prog [40]) loose) := by kernel_rfl
theorem opt3h {α β γ δ : Type} {X : Option α} {f : α → β} {g : α → γ} {k : α → δ} {a : β} {b : γ} {c : δ} (h1 : X.map f = some a) (h2 : X.map g = some b) (h3 : X.map k = some c) : X.map (fun s => (f s, g s, k s)) = some (a, b, c) := by
  cases X with
  | none => cases h1
  | some s =>
    cases h1; cases h2; cases h3; rfl
open PySem PySem.W PySem.Calls PyProof.Rows HandSHeadRun in
theorem run_b1 (w : World) (os : OsState) : (endF (stepQ (denQ tabQ) R.prog w) 20000 R.prog w os).map (fun s => ob s) = some (hk.val w) := by kernel_rfl
theorem run (w : World) : HandSHeadRun.RunEq R (PySem.W.view R.prog [40]) hk ob 20000 loose w := fun os => opt3h (run_a1 w os) (run_a2 w os) (run_b1 w os)
theorem facts {P : Program} {w : World} {K : PySem.W.Frag} {h : Heap} {mg : Str → Option Value} {f : Addr} (X : K.In h) (G : h.Ns mainGlobals mg) (hfa : mg ("law" : Str) = some (.ref f)) (c : He.SaysD fa fn K) (cx : ex K = true) (ci : fi.map (fun d => fnI K d.x) = fi.map IniD.val) (hpf : P.main.file = (PySem.Challenge.pw_tallsits_k29_texts_refused).main.file) (hps : (P.main.scope.names.lookup ("super" : Str)).isSome = false) :
    ∃ fd : FuncData, (∀ (s : Shared) (v : Value), BindsTo s fd ⟨[v], []⟩ [("_law_script", v)]) ∧ ∀ base : Heap, K.In base → base.Ns mainGlobals mg → (∀ p ∈ tf.map (He.cT K), LamX.TabB base mg p.1 p.2) → FnOk P w K mg base CX0 8 f fd ["_law_script"] (spF K 1 (runW 9 T_law)) := by
  obtain ⟨fd, F⟩ := c.def_ 25 (d := d_law) rfl
  have e := hfa.symm.trans (He.glo_ok X G (c.fact 25 (f := .glo "law") rfl))
  cases e
  have b := FunD.bindsA (ps := ["_law_script"]) F fun _ _ _ _ _ _ us hl => match us, hl with | [_], _ => by kernel_rfl
  refine ⟨fd, fun s v => b s [v] rfl, fun base _ _ tB => ?_⟩
  have bi : Bi mg := ⟨He.free_ok X G (c.fact 26 (f := .free "len") rfl), He.free_ok X G (c.fact 27 (f := .free "range") rfl), He.free_ok X G (c.fact 28 (f := .free "tuple") rfl), He.free_ok X G (c.fact 29 (f := .free "list") rfl), He.free_ok X G (c.fact 30 (f := .free "sorted") rfl), He.free_ok X G (c.fact 31 (f := .free "set") rfl), He.free_ok X G (c.fact 32 (f := .free "any") rfl), He.free_ok X G (c.fact 33 (f := .free "all") rfl), He.free_ok X G (c.fact 34 (f := .free "min") rfl), He.free_ok X G (c.fact 35 (f := .free "max") rfl), He.free_ok X G (c.fact 36 (f := .free "sum") rfl), He.free_ok X G (c.fact 37 (f := .free "abs") rfl), He.free_ok X G (c.fact 38 (f := .free "int") rfl), He.free_ok X G (c.fact 39 (f := .free "str") rfl), He.free_ok X G (c.fact 40 (f := .free "bool") rfl), He.free_ok X G (c.fact 41 (f := .free "isinstance") rfl), He.free_ok X G (c.fact 42 (f := .free "enumerate") rfl), He.free_ok X G (c.fact 43 (f := .free "zip") rfl)⟩
  have k_DIGITS := He.str_ok X G (c.fact 44 (f := .str "DIGITS" "0123456") rfl)
  have k_MOST_CALLS := He.int_ok X G (c.fact 45 (f := .int "MOST_CALLS" 60) rfl)
  have k_MOST_PEOPLE := He.int_ok X G (c.fact 46 (f := .int "MOST_PEOPLE" 7) rfl)
  have c_is_integer := ok_is_integer (P := P) (w := w) (K := K) (mg := mg) (base := base) bi (by obtain ⟨fd, F⟩ := c.def_ 0 (d := d_is_integer) rfl; exact ⟨_, fd, F, He.glo_ok X G (c.fact 0 (f := .glo "is_integer") rfl)⟩)
  have c_is_in := ok_is_in (P := P) (w := w) (K := K) (mg := mg) (base := base) bi c_is_integer (by obtain ⟨fd, F⟩ := c.def_ 1 (d := d_is_in) rfl; exact ⟨_, fd, F, He.glo_ok X G (c.fact 1 (f := .glo "is_in") rfl)⟩)
  have c_is_list := ok_is_list (P := P) (w := w) (K := K) (mg := mg) (base := base) bi (by obtain ⟨fd, F⟩ := c.def_ 2 (d := d_is_list) rfl; exact ⟨_, fd, F, He.glo_ok X G (c.fact 2 (f := .glo "is_list") rfl)⟩)
  have c_need_web := ok_need_web (P := P) (w := w) (K := K) (mg := mg) (base := base) bi k_MOST_PEOPLE c_is_list c_is_in (by obtain ⟨fd, F⟩ := c.def_ 3 (d := d_need_web) rfl; exact ⟨_, fd, F, He.glo_ok X G (c.fact 3 (f := .glo "need_web") rfl)⟩)
  have c_is_set := ok_is_set (P := P) (w := w) (K := K) (mg := mg) (base := base) bi c_is_list c_is_in (by obtain ⟨fd, F⟩ := c.def_ 4 (d := d_is_set) rfl; exact ⟨_, fd, F, He.glo_ok X G (c.fact 4 (f := .glo "is_set") rfl)⟩)
  have c_need_state := ok_need_state (P := P) (w := w) (K := K) (mg := mg) (base := base) bi c_need_web c_is_set (by obtain ⟨fd, F⟩ := c.def_ 5 (d := d_need_state) rfl; exact ⟨_, fd, F, He.glo_ok X G (c.fact 5 (f := .glo "need_state") rfl)⟩)
  have c_pairs_in := ok_pairs_in (P := P) (w := w) (K := K) (mg := mg) (base := base) bi (by obtain ⟨fd, F⟩ := c.def_ 6 (d := d_pairs_in) rfl; exact ⟨_, fd, F, He.glo_ok X G (c.fact 6 (f := .glo "pairs_in") rfl)⟩)
  have c_need_calls := ok_need_calls (P := P) (w := w) (K := K) (mg := mg) (base := base) bi k_MOST_CALLS c_is_list c_is_in (by obtain ⟨fd, F⟩ := c.def_ 7 (d := d_need_calls) rfl; exact ⟨_, fd, F, He.glo_ok X G (c.fact 7 (f := .glo "need_calls") rfl)⟩)
  have c_number_of := ok_number_of (P := P) (w := w) (K := K) (mg := mg) (base := base) bi k_DIGITS (by obtain ⟨fd, F⟩ := c.def_ 8 (d := d_number_of) rfl; exact ⟨_, fd, F, He.glo_ok X G (c.fact 8 (f := .glo "number_of") rfl)⟩)
  have c_words_of := ok_words_of (P := P) (w := w) (K := K) (mg := mg) (base := base) bi (by obtain ⟨fd, F⟩ := c.def_ 9 (d := d_words_of) rfl; exact ⟨_, fd, F, He.glo_ok X G (c.fact 9 (f := .glo "words_of") rfl)⟩)
  have c_need_text := ok_need_text (P := P) (w := w) (K := K) (mg := mg) (base := base) bi (by obtain ⟨fd, F⟩ := c.def_ 10 (d := d_need_text) rfl; exact ⟨_, fd, F, He.glo_ok X G (c.fact 10 (f := .glo "need_text") rfl)⟩)
  have c_friends_word := ok_friends_word (P := P) (w := w) (K := K) (mg := mg) (base := base) bi (by obtain ⟨fd, F⟩ := c.def_ 11 (d := d_friends_word) rfl; exact ⟨_, fd, F, He.glo_ok X G (c.fact 11 (f := .glo "friends_word") rfl)⟩)
  have c_write_web := ok_write_web (P := P) (w := w) (K := K) (mg := mg) (base := base) bi c_need_web c_friends_word (by obtain ⟨fd, F⟩ := c.def_ 12 (d := d_write_web) rfl; exact ⟨_, fd, F, He.glo_ok X G (c.fact 12 (f := .glo "write_web") rfl)⟩)
  have c_friends_of := ok_friends_of (P := P) (w := w) (K := K) (mg := mg) (base := base) bi c_number_of (by obtain ⟨fd, F⟩ := c.def_ 13 (d := d_friends_of) rfl; exact ⟨_, fd, F, He.glo_ok X G (c.fact 13 (f := .glo "friends_of") rfl)⟩)
  have c_web_of_words := ok_web_of_words (P := P) (w := w) (K := K) (mg := mg) (base := base) bi c_friends_of (by obtain ⟨fd, F⟩ := c.def_ 14 (d := d_web_of_words) rfl; exact ⟨_, fd, F, He.glo_ok X G (c.fact 14 (f := .glo "web_of_words") rfl)⟩)
  have c_read_web := ok_read_web (P := P) (w := w) (K := K) (mg := mg) (base := base) bi k_MOST_PEOPLE c_need_text c_words_of c_web_of_words (by obtain ⟨fd, F⟩ := c.def_ 15 (d := d_read_web) rfl; exact ⟨_, fd, F, He.glo_ok X G (c.fact 15 (f := .glo "read_web") rfl)⟩)
  have c_write_calls := ok_write_calls (P := P) (w := w) (K := K) (mg := mg) (base := base) bi c_need_web c_need_calls (by obtain ⟨fd, F⟩ := c.def_ 16 (d := d_write_calls) rfl; exact ⟨_, fd, F, He.glo_ok X G (c.fact 16 (f := .glo "write_calls") rfl)⟩)
  have c_read_calls := ok_read_calls (P := P) (w := w) (K := K) (mg := mg) (base := base) bi c_need_web c_need_text c_words_of c_number_of (by obtain ⟨fd, F⟩ := c.def_ 17 (d := d_read_calls) rfl; exact ⟨_, fd, F, He.glo_ok X G (c.fact 17 (f := .glo "read_calls") rfl)⟩)
  have c_write_pairs := ok_write_pairs (P := P) (w := w) (K := K) (mg := mg) (base := base) bi c_need_web c_pairs_in (by obtain ⟨fd, F⟩ := c.def_ 18 (d := d_write_pairs) rfl; exact ⟨_, fd, F, He.glo_ok X G (c.fact 18 (f := .glo "write_pairs") rfl)⟩)
  have c_write_standing := ok_write_standing (P := P) (w := w) (K := K) (mg := mg) (base := base) bi c_need_state (by obtain ⟨fd, F⟩ := c.def_ 19 (d := d_write_standing) rfl; exact ⟨_, fd, F, He.glo_ok X G (c.fact 19 (f := .glo "write_standing") rfl)⟩)
  have c_standing_of_words := ok_standing_of_words (P := P) (w := w) (K := K) (mg := mg) (base := base) bi c_number_of (by obtain ⟨fd, F⟩ := c.def_ 20 (d := d_standing_of_words) rfl; exact ⟨_, fd, F, He.glo_ok X G (c.fact 20 (f := .glo "standing_of_words") rfl)⟩)
  have c_read_standing := ok_read_standing (P := P) (w := w) (K := K) (mg := mg) (base := base) bi c_need_web c_need_text c_standing_of_words c_words_of (by obtain ⟨fd, F⟩ := c.def_ 21 (d := d_read_standing) rfl; exact ⟨_, fd, F, He.glo_ok X G (c.fact 21 (f := .glo "read_standing") rfl)⟩)
  have c__law_taken := ok__law_taken (P := P) (w := w) (K := K) (mg := mg) (base := base) bi (by obtain ⟨fd, F⟩ := c.def_ 22 (d := d__law_taken) rfl; exact ⟨_, fd, F, He.glo_ok X G (c.fact 22 (f := .glo "_law_taken") rfl)⟩)
  have c__law_pick := ok__law_pick (P := P) (w := w) (K := K) (mg := mg) (base := base) bi c__law_taken (by obtain ⟨fd, F⟩ := c.def_ 23 (d := d__law_pick) rfl; exact ⟨_, fd, F, He.glo_ok X G (c.fact 23 (f := .glo "_law_pick") rfl)⟩)
  have g_SitError := He.glo_ok X G (c.fact 47 (f := .glo "SitError") rfl)
  have g_BadCalls := He.glo_ok X G (c.fact 48 (f := .glo "BadCalls") rfl)
  have g_BadStanding := He.glo_ok X G (c.fact 49 (f := .glo "BadStanding") rfl)
  have g_BadWeb := He.glo_ok X G (c.fact 50 (f := .glo "BadWeb") rfl)
  have g_InvalidText := He.glo_ok X G (c.fact 51 (f := .glo "InvalidText") rfl)
  have g_NotText := He.glo_ok X G (c.fact 52 (f := .glo "NotText") rfl)
  have mS := He.free_ok X G (c.fact 53 (f := .free "super") rfl)
  have N_BadStanding : NmOk K mg "BadStanding" (He.ga K "BadStanding") := nmsB_ok (ex_nms_ok cx) (by simp) g_BadStanding
  have N_NotText : NmOk K mg "NotText" (He.ga K "NotText") := nmsB_ok (ex_nms_ok cx) (by simp) g_NotText
  have M_BadCalls : MkX1 K P mg "BadCalls" "index" := mkX1_of (by rw [hpf]; exact ex_ini_BadCalls_ok cx) (ini_at ci 0 (d := i_BadCalls)) hps ⟨rfl, rfl, by decide +kernel, by decide +kernel, by decide +kernel, rfl, rfl, rfl, ⟨_, rfl, rfl⟩, by decide +kernel⟩ g_BadCalls mS ⟨_, _, _, _, _, _, _, _, _, _, rfl, fun fI cda cc L => ⟨_, by rfl⟩⟩ (fun _ _ _ _ _ _ _ _ => by kernel_rfl)
  have M_BadWeb : MkX1 K P mg "BadWeb" "index" := mkX1_of (by rw [hpf]; exact ex_ini_BadWeb_ok cx) (ini_at ci 1 (d := i_BadWeb)) hps ⟨rfl, rfl, by decide +kernel, by decide +kernel, by decide +kernel, rfl, rfl, rfl, ⟨_, rfl, rfl⟩, by decide +kernel⟩ g_BadWeb mS ⟨_, _, _, _, _, _, _, _, _, _, rfl, fun fI cda cc L => ⟨_, by rfl⟩⟩ (fun _ _ _ _ _ _ _ _ => by kernel_rfl)
  have M_InvalidText : MkX2 K P mg "InvalidText" "line" "word" := mkX2_of (by rw [hpf]; exact ex_ini_InvalidText_ok cx) (ini_at ci 2 (d := i_InvalidText)) hps ⟨rfl, rfl, by decide +kernel, by decide +kernel, by decide +kernel, rfl, rfl, rfl, ⟨_, rfl, rfl⟩, by decide +kernel⟩ g_InvalidText mS ⟨_, _, _, _, _, _, _, _, _, _, _, _, _, _, _, rfl, fun fI cda cc L => ⟨_, by rfl⟩⟩ (fun _ _ _ _ _ _ _ _ _ => by kernel_rfl)
  have td := td__law_told (P := P) (w := w) (K := K) (mg := mg) (base := base) bi (ersB_ok (ex_ers_ok cx)) (kitB_ok (ex_kit_ok cx)) (by unfold YS_told; intro y hy; simp only [List.mem_cons, List.not_mem_nil, or_false] at hy; rcases hy with rfl | rfl | rfl | rfl | rfl <;> assumption) (noAtB_ok (ex_noat_ok cx)) g_SitError (by obtain ⟨fd, F⟩ := c.def_ 24 (d := d__law_told) rfl; exact ⟨_, fd, F, He.glo_ok X G (c.fact 24 (f := .glo "_law_told") rfl)⟩)
  have mt : MkT K mg base "law" := mkB_okT (ex_mk_law_ok cx) (tB (He.cT K ("law", none)) (List.mem_map.mpr ⟨_, by simp [tf], rfl⟩))
  have e_need_text := oke_need_text (P := P) (w := w) (K := K) (mg := mg) (base := base) bi N_NotText (by obtain ⟨fd, F⟩ := c.def_ 10 (d := d_need_text) rfl; exact ⟨_, fd, F, He.glo_ok X G (c.fact 10 (f := .glo "need_text") rfl)⟩)
  have e_web_of_words := oke_web_of_words (P := P) (w := w) (K := K) (mg := mg) (base := base) bi c_friends_of M_InvalidText (by obtain ⟨fd, F⟩ := c.def_ 14 (d := d_web_of_words) rfl; exact ⟨_, fd, F, He.glo_ok X G (c.fact 14 (f := .glo "web_of_words") rfl)⟩)
  have e_read_web := oke_read_web (P := P) (w := w) (K := K) (mg := mg) (base := base) bi k_MOST_PEOPLE c_need_text c_words_of e_need_text e_web_of_words M_InvalidText (by obtain ⟨fd, F⟩ := c.def_ 15 (d := d_read_web) rfl; exact ⟨_, fd, F, He.glo_ok X G (c.fact 15 (f := .glo "read_web") rfl)⟩)
  have e_need_web := oke_need_web (P := P) (w := w) (K := K) (mg := mg) (base := base) bi k_MOST_PEOPLE c_is_in c_is_list M_BadWeb (by obtain ⟨fd, F⟩ := c.def_ 3 (d := d_need_web) rfl; exact ⟨_, fd, F, He.glo_ok X G (c.fact 3 (f := .glo "need_web") rfl)⟩)
  have e_read_calls := oke_read_calls (P := P) (w := w) (K := K) (mg := mg) (base := base) bi c_need_text c_need_web c_number_of c_words_of e_need_text e_need_web M_InvalidText (by obtain ⟨fd, F⟩ := c.def_ 17 (d := d_read_calls) rfl; exact ⟨_, fd, F, He.glo_ok X G (c.fact 17 (f := .glo "read_calls") rfl)⟩)
  have e_standing_of_words := oke_standing_of_words (P := P) (w := w) (K := K) (mg := mg) (base := base) bi c_number_of M_InvalidText (by obtain ⟨fd, F⟩ := c.def_ 20 (d := d_standing_of_words) rfl; exact ⟨_, fd, F, He.glo_ok X G (c.fact 20 (f := .glo "standing_of_words") rfl)⟩)
  have e_read_standing := oke_read_standing (P := P) (w := w) (K := K) (mg := mg) (base := base) bi c_need_text c_need_web c_words_of e_need_text e_need_web e_standing_of_words (by obtain ⟨fd, F⟩ := c.def_ 21 (d := d_read_standing) rfl; exact ⟨_, fd, F, He.glo_ok X G (c.fact 21 (f := .glo "read_standing") rfl)⟩)
  have e_write_web := oke_write_web (P := P) (w := w) (K := K) (mg := mg) (base := base) bi e_need_web (by obtain ⟨fd, F⟩ := c.def_ 12 (d := d_write_web) rfl; exact ⟨_, fd, F, He.glo_ok X G (c.fact 12 (f := .glo "write_web") rfl)⟩)
  have e_write_pairs := oke_write_pairs (P := P) (w := w) (K := K) (mg := mg) (base := base) bi e_need_web (by obtain ⟨fd, F⟩ := c.def_ 18 (d := d_write_pairs) rfl; exact ⟨_, fd, F, He.glo_ok X G (c.fact 18 (f := .glo "write_pairs") rfl)⟩)
  have e_need_calls := oke_need_calls (P := P) (w := w) (K := K) (mg := mg) (base := base) bi k_MOST_CALLS c_is_in c_is_list M_BadCalls (by obtain ⟨fd, F⟩ := c.def_ 7 (d := d_need_calls) rfl; exact ⟨_, fd, F, He.glo_ok X G (c.fact 7 (f := .glo "need_calls") rfl)⟩)
  have e_write_calls := oke_write_calls (P := P) (w := w) (K := K) (mg := mg) (base := base) bi c_need_web e_need_calls e_need_web (by obtain ⟨fd, F⟩ := c.def_ 16 (d := d_write_calls) rfl; exact ⟨_, fd, F, He.glo_ok X G (c.fact 16 (f := .glo "write_calls") rfl)⟩)
  have e_need_state := oke_need_state (P := P) (w := w) (K := K) (mg := mg) (base := base) bi c_is_set c_need_web e_need_web N_BadStanding (by obtain ⟨fd, F⟩ := c.def_ 5 (d := d_need_state) rfl; exact ⟨_, fd, F, He.glo_ok X G (c.fact 5 (f := .glo "need_state") rfl)⟩)
  have e_write_standing := oke_write_standing (P := P) (w := w) (K := K) (mg := mg) (base := base) bi e_need_state (by obtain ⟨fd, F⟩ := c.def_ 19 (d := d_write_standing) rfl; exact ⟨_, fd, F, He.glo_ok X G (c.fact 19 (f := .glo "write_standing") rfl)⟩)
  exact fn_pureWC (T := T_law) (k := 7) (N := ["_law_script", "_law_row", "_law_tries", "_law_turn", "_law_text", "_law_word", "_law_web", "_law_none", "_law_found"]) F sc_law rfl (by decide) (fun A outer s H E hr => sw_law bi c__law_pick c_read_web c_read_calls c_read_standing c_write_web c_write_pairs c_write_calls c_write_standing td mt e_read_web e_read_calls e_read_standing e_write_web e_write_pairs e_write_calls e_write_standing A outer s H E _ hr)
end W
open PySem PySem.W PySem.Calls PyProof.Rows
theorem PySem.Challenge.cw_tallsits_k29_texts_refused_holds : PySem.Challenge.rw_tallsits_k29_texts_refused.Holds := by
  w_on; o_law
  refine HandSHeadRun.head_any (r := OpenLaw.row PySem.Challenge.rw_tallsits_k29_texts_refused) (q := view (OpenLaw.row PySem.Challenge.rw_tallsits_k29_texts_refused).prog [40]) (H := W.hk) (ob := W.ob) (M := 20000) (loose := W.loose) (d := HandSHeadRun.topDef (OpenLaw.row PySem.Challenge.rw_tallsits_k29_texts_refused).prog 40) (kwd := []) W.ob_eq
    (by kernel_rfl) (fun s => by kernel_rfl) W.run (by kernel_rfl) (by kernel_rfl) (by kernel_rfl) (by rfl) (by first | assumption | decide +kernel) (by decide +kernel) ⟨rfl, rfl, rfl, rfl, rfl, by decide +kernel⟩ ?hw ?hc
  case hw => w_witness2
  case hc =>
    refine LamX.walk_ofTsE (l := PySem.Challenge.rw_tallsits_k29_texts_refused) (n := 63) (k := 8) (x := "_law_script") (CX := fun _ => L2.CX0) rfl (by decide) (by kernel_rfl) ⟨rfl, by decide, by decide⟩ ?F (fun _ _ _ _ _ z => z)
    intro w mg fa h Y G hmg0
    obtain ⟨K, KX, c⟩ := Y
    have hmg : mg ("law" : PySem.Str) = some (.ref fa) := by
      have e : (HandSHeadRun.topDef (OpenLaw.row PySem.Challenge.rw_tallsits_k29_texts_refused).prog 40).name = ("law" : PySem.Str) := by kernel_rfl
      rw [← e]
      exact hmg0
    obtain ⟨fd, hb, hF⟩ := W.facts (P := (PySem.Challenge.rw_tallsits_k29_texts_refused).prog) (w := w) KX G hmg c.x.t.d c.x.more c.i rfl (by decide +kernel)
    refine ⟨K, KX, fd, W.tf.map (He.cT K), _, fun p hp => ?_, fun p hp => ?_, fun p hp => ?_, hb, fun H a ns hl _ hT hS => ?_, hF⟩
    · obtain ⟨q, hq, rfl⟩ := List.mem_map.mp hp
      exact c.x.empty q hq
    · obtain ⟨q, hq, rfl⟩ := List.mem_map.mp hp
      exact c.x.out q hq
    · obtain ⟨q, hq, rfl⟩ := List.mem_map.mp hp
      exact PySem.W.codeHd_of_K KX (c.x.hd q hq)
    · exact ⟨rfl, L2.P.noTbH H, [.list (ns.map .int)], L2.P.noTbH_sub, L2.P.TbOk.start (W.ex_tabs_ok c.x.more) hT, .cons (.lst (L2.P.noTbH_lst hS) (L2.P.dpAll_of_ints ns)) .nil, W.law_value ns hl _ fun F' H' v _ _ _ _ _ d => L2.P.Dp.inv_bl d⟩

