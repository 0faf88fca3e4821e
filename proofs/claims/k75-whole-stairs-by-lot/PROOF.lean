import PyProof.Rows.All
import PySem.Challenge.RW_tallsits_k75_whole_stairs_by_lot
import HandS.ForMost
import HandS.IsInst
import HandS.SortInts
import HandS.Strs
import HandS.SetFor
import HandS.Conv
import HandS.Wide
import HandS.Deep
import HandS.TupLe
import KE.SortData
import KE.DataMinMax
import KE.DataEq
import KE.DataFind
import HandS.TupAny
import HandS.Defaults
import KE.GoesMore
import HandS.Style
import PyProof.TupleOps
import HandS.Star
import KE.KDictDisplayH
import HandS.TupLen
import HandS.WordsDict
import HandS.TupSets
import HandS.HeadHook2
import KE.KDictWalk
import KE.KDictCopyH
import HandS.TupMul
import KE.KDictItemsList
import HandS.Head0
import HandS.Head1
import HandS.Head2
import HandS.HeadEnd
import HandS.HeadHook1
set_option Elab.async false
set_option linter.all false
set_option maxRecDepth 100000
set_option maxHeartbeats 4000000
/-! PL1: a layer without heaps over HandS: values as data (PyData), places as slots (Sl), expressions as functions of the slots. -/
namespace L2.P
open PySem PySem.Spec PyProof.Rows L2

abbrev D := PyData
abbrev Fg := PySem.W.Frag

/-! ### data that stands still -/
theorem sqL_same {K : Fg} {F F' : Hp} {a : Addr} {xs : List V} (e : Same F F') (h : SqL K F a xs) : SqL K F' a xs := e.seq h
theorem sqT_same {K : Fg} {F F' : Hp} {a : Addr} {xs : List V} (e : Same F F') (h : SqT K F a xs) : SqT K F' a xs := by
  rcases h with (h | ⟨o, h⟩) | h
  · exact .inl (.inl (e _ _ h))
  · exact .inl (.inr ⟨o, e _ _ h⟩)
  · exact .inr h
/-- a mark that no value stands for -/
def mkD : D := .dict [(.none, .none)]
/-- a tuple of two ints that the module binds: read, but no key of a dict that is filled -/
def rqD (i j : Int) : D := .dict [(.int i, mkD), (.int j, mkD)]
mutual
/-- v stands for the data p, and will -/
inductive Dp (K : Fg) (F : Hp) : V → D → Prop
  | non : Dp K F .non .none
  | bl (b : Bool) : Dp K F (.bl b) (.bool b)
  | int (i : Int) : Dp K F (.int i) (.int i)
  | str (x : Str) : Dp K F (.str x) (.str x)
  | lst {a : Addr} {xs : List V} {ps : List D} : SqL K F a xs → DpAll K F xs ps → Dp K F (.ref a) (.list ps)
  | tup {a : Addr} {xs : List V} {ps : List D} : F a = some (.tup xs) → DpAll K F xs ps → Dp K F (.ref a) (.tuple ps)
  | tupK {a : Addr} {o : Obj} {its : Array Value} {n : Nat} {xs : List V} {ps : List D} : K.lookup a = some o → o.cls = .type "tuple" → o.data = .seq its n → its.size ≤ sizeLine → Vals xs its.toList → (∃ z, PyData.str z ∈ ps) → DpAll K F xs ps → Dp K F (.ref a) (.tuple ps)
  | dk {a : Addr} {es : List (Key × V)} {kvs : List (D × D)} : F a = some (.dK es) → DkAll K F es kvs → Dp K F (.ref a) (.dict kvs)
  | dt {a : Addr} {es : List (List Key × V)} {kvs : List (D × D)} : F a = some (.dT es) → DtAll K F es kvs → Dp K F (.ref a) (.dict kvs)
  | q {a : Addr} {o : Obj} {its : Array Value} {n : Nat} {i j : Int} : K.lookup a = some o → o.cls = .type "tuple" → o.data = .seq its n → its.size ≤ sizeLine → Vals [.int i, .int j] its.toList → Dp K F (.ref a) (rqD i j)
inductive DpAll (K : Fg) (F : Hp) : List V → List D → Prop
  | nil : DpAll K F [] []
  | cons {v : V} {vs : List V} {p : D} {ps : List D} : Dp K F v p → DpAll K F vs ps → DpAll K F (v :: vs) (p :: ps)
/-- a dict's items, its keys ints -/
inductive DkAll (K : Fg) (F : Hp) : List (Key × V) → List (D × D) → Prop
  | nil : DkAll K F [] []
  | cons {k : Int} {v : V} {p : D} {es : List (Key × V)} {kvs : List (D × D)} : Dp K F v p → DkAll K F es kvs → DkAll K F ((.inl k, v) :: es) ((.int k, p) :: kvs)
/-- .. its keys tuples of ints -/
inductive DtAll (K : Fg) (F : Hp) : List (List Key × V) → List (D × D) → Prop
  | nil : DtAll K F [] []
  | cons {ks : List Int} {v : V} {p : D} {es : List (List Key × V)} {kvs : List (D × D)} : Dp K F v p → DtAll K F es kvs → DtAll K F ((ks.map Sum.inl, v) :: es) ((.tuple (ks.map .int), p) :: kvs)
end
mutual
theorem Dp.same {K : Fg} {F F' : Hp} (e : Same F F') : ∀ {v : V} {p : D}, Dp K F v p → Dp K F' v p
  | _, _, .non => .non
  | _, _, .bl b => .bl b
  | _, _, .int i => .int i
  | _, _, .str i => .str i
  | _, _, .tup s r => .tup (e _ _ s) (DpAll.same e r)
  | _, _, .tupK a b c d f g r => .tupK a b c d f g (DpAll.same e r)
  | _, _, .lst s r => .lst (sqL_same e s) (DpAll.same e r)
  | _, _, .dk s r => .dk (e _ _ s) (DkAll.same e r)
  | _, _, .dt s r => .dt (e _ _ s) (DtAll.same e r)
  | _, _, .q a b c d f => .q a b c d f
theorem DpAll.same {K : Fg} {F F' : Hp} (e : Same F F') : ∀ {vs : List V} {ps : List D}, DpAll K F vs ps → DpAll K F' vs ps
  | _, _, .nil => .nil
  | _, _, .cons a b => .cons (Dp.same e a) (DpAll.same e b)
theorem DkAll.same {K : Fg} {F F' : Hp} (e : Same F F') : ∀ {vs : List (Key × V)} {ps : List (D × D)}, DkAll K F vs ps → DkAll K F' vs ps
  | _, _, .nil => .nil
  | _, _, .cons a b => .cons (Dp.same e a) (DkAll.same e b)
theorem DtAll.same {K : Fg} {F F' : Hp} (e : Same F F') : ∀ {vs : List (List Key × V)} {ps : List (D × D)}, DtAll K F vs ps → DtAll K F' vs ps
  | _, _, .nil => .nil
  | _, _, .cons a b => .cons (Dp.same e a) (DtAll.same e b)
end
mutual
/-- plain data, as the library says it -/
theorem Dp.lib {K : Fg} {F : Hp} : ∀ {v : V} {p : D}, Dp K F v p → p.plain = true → L2.Dp K F v p
  | _, _, .non, _ => .non
  | _, _, .bl b, _ => .bl b
  | _, _, .int i, _ => .int i
  | _, _, .str i, _ => .str i
  | _, _, .tup s r, h => .tup (.inl (.inl s)) (DpAll.lib r (by simpa [PyData.plain] using h))
  | _, _, .tupK a b c d f _ r, h => .tup (.inr ⟨_, _, _, a, b, c, d, f⟩) (DpAll.lib r (by simpa [PyData.plain] using h))
  | _, _, .lst s r, h => .lst s (DpAll.lib r (by simpa [PyData.plain] using h))
  | _, _, .dk s r, h => by simp [PyData.plain] at h
  | _, _, .dt s r, h => by simp [PyData.plain] at h
  | _, _, .q a b c d f, h => by simp [rqD, PyData.plain] at h
theorem DpAll.lib {K : Fg} {F : Hp} : ∀ {vs : List V} {ps : List D}, DpAll K F vs ps → PyData.plainAll ps = true → L2.DpAll K F vs ps
  | _, _, .nil, _ => .nil
  | _, _, .cons a b, h => by
    rw [PyData.plainAll, Bool.and_eq_true] at h
    exact .cons (Dp.lib a h.1) (DpAll.lib b h.2)
end
theorem Dp.reads {X : Cx} {pins : List (Addr × Obj)} {σ : St} {H : Hp} {s : Shared} (I : L2.Inv X pins σ H s) (d : D) (v : V) (u : Value) (h : Dp X.K H v d) (hp : d.plain = true) (r : RelV v u) : ∃ as, Reads s.heap u d as := L2.Dp.reads I d v u (h.lib hp) r
theorem Dp.readsAll {X : Cx} {pins : List (Addr × Obj)} {σ : St} {H : Hp} {s : Shared} (I : L2.Inv X pins σ H s) (ds : List D) (vs : List V) (us : List Value) (h : DpAll X.K H vs ds) (hp : PyData.plainAll ds = true) (r : Vals vs us) : ∃ as, ReadsAll s.heap us ds as := L2.Dp.readsAll I ds vs us (h.lib hp) r
theorem DpAll.length {K : Fg} {F : Hp} : ∀ {vs : List V} {ps : List D}, DpAll K F vs ps → vs.length = ps.length
  | _, _, .nil => rfl
  | _, _, .cons _ b => congrArg (· + 1) (DpAll.length b)
theorem DpAll.append {K : Fg} {F : Hp} : ∀ {vs us : List V} {ps qs : List D}, DpAll K F vs ps → DpAll K F us qs → DpAll K F (vs ++ us) (ps ++ qs)
  | _, _, _, _, .nil, h => h
  | _, _, _, _, .cons a b, h => .cons a (DpAll.append b h)
theorem DpAll.get {K : Fg} {F : Hp} : ∀ {vs : List V} {ps : List D} {i : Nat} {p : D}, DpAll K F vs ps → ps[i]? = some p → ∃ v, vs[i]? = some v ∧ Dp K F v p
  | _, _, _, _, .nil, h => by simp at h
  | _, _, 0, _, .cons a _, h => by simp at h; subst h; exact ⟨_, rfl, a⟩
  | _, _, i + 1, _, .cons _ b, h => by simpa using DpAll.get (i := i) b (by simpa using h)
theorem DpAll.getV {K : Fg} {F : Hp} : ∀ {vs : List V} {ps : List D} {i : Nat} {v : V}, DpAll K F vs ps → vs[i]? = some v → ∃ p, ps[i]? = some p ∧ Dp K F v p
  | _, _, _, _, .nil, h => by simp at h
  | _, _, 0, _, .cons a _, h => by simp at h; subst h; exact ⟨_, rfl, a⟩
  | _, _, i + 1, _, .cons _ b, h => by simpa using DpAll.getV (i := i) b (by simpa using h)
theorem DpAll.set {K : Fg} {F : Hp} {v : V} {p : D} (r : Dp K F v p) : ∀ {vs : List V} {ps : List D} (i : Nat), DpAll K F vs ps → DpAll K F (vs.set i v) (ps.set i p)
  | _, _, _, .nil => .nil
  | _, _, 0, .cons _ b => .cons r b
  | _, _, i + 1, .cons a b => .cons a (DpAll.set r i b)
theorem DpAll.drop {K : Fg} {F : Hp} : ∀ {vs : List V} {ps : List D} (n : Nat), DpAll K F vs ps → DpAll K F (vs.drop n) (ps.drop n)
  | _, _, 0, r => r
  | _, _, _ + 1, .nil => .nil
  | _, _, n + 1, .cons _ t => DpAll.drop n t
theorem DpAll.take {K : Fg} {F : Hp} : ∀ {vs : List V} {ps : List D} (n : Nat), DpAll K F vs ps → DpAll K F (vs.take n) (ps.take n)
  | _, _, 0, _ => .nil
  | _, _, _ + 1, .nil => .nil
  | _, _, n + 1, .cons a t => .cons a (DpAll.take n t)
theorem DpAll.uncons {K : Fg} {F : Hp} {vs : List V} {p : D} {ps : List D} (h : DpAll K F vs (p :: ps)) : ∃ v us, vs = v :: us ∧ Dp K F v p ∧ DpAll K F us ps := by
  cases h with
  | cons a b => exact ⟨_, _, rfl, a, b⟩
theorem DpAll.unnil {K : Fg} {F : Hp} {vs : List V} (h : DpAll K F vs []) : vs = [] := by cases h; rfl
section
variable {K : Fg} {F : Hp} {v : V}
theorem Dp.inv_non (h : Dp K F v .none) : v = .non := by cases h; rfl
theorem Dp.inv_bl {b : Bool} (h : Dp K F v (.bool b)) : v = .bl b := by cases h; rfl
theorem Dp.inv_int {i : Int} (h : Dp K F v (.int i)) : v = .int i := by cases h; rfl
theorem Dp.inv_str {x : Str} (h : Dp K F v (.str x)) : v = .str x := by cases h; rfl
theorem Dp.inv_tup {ps : List D} (h : Dp K F v (.tuple ps)) : ∃ a xs, v = .ref a ∧ SqT K F a xs ∧ DpAll K F xs ps := by
  cases h with
  | tup s r => exact ⟨_, _, rfl, .inl (.inl s), r⟩
  | tupK a b c d f _ r => exact ⟨_, _, rfl, .inr ⟨_, _, _, a, b, c, d, f⟩, r⟩
theorem Dp.inv_tupX {ps : List D} (h : Dp K F v (.tuple ps)) (hz : ∀ z, PyData.str z ∉ ps) : ∃ a xs, v = .ref a ∧ F a = some (.tup xs) ∧ DpAll K F xs ps := by
  cases h with
  | tup s r => exact ⟨_, _, rfl, s, r⟩
  | tupK _ _ _ _ _ g _ => exact absurd g.choose_spec (hz _)
theorem Dp.inv_dictQ {kvs : List (D × D)} (h : Dp K F v (.dict kvs)) : ∃ a, v = .ref a ∧ ((∃ es, F a = some (.dK es) ∧ DkAll K F es kvs) ∨ (∃ es, F a = some (.dT es) ∧ DtAll K F es kvs) ∨ ∃ i j, kvs = [(.int i, mkD), (.int j, mkD)] ∧ ∀ F, SqT K F a [.int i, .int j]) := by
  generalize hp : PyData.dict kvs = p at h
  cases h with
  | dk s r => cases hp; exact ⟨_, rfl, .inl ⟨_, s, r⟩⟩
  | dt s r => cases hp; exact ⟨_, rfl, .inr (.inl ⟨_, s, r⟩)⟩
  | q a b c d f => cases hp; exact ⟨_, rfl, .inr (.inr ⟨_, _, rfl, fun _ => .inr ⟨_, _, _, a, b, c, d, f⟩⟩)⟩
  | _ => cases hp
theorem Dp.inv_lst {ps : List D} (h : Dp K F v (.list ps)) : ∃ a xs, v = .ref a ∧ SqL K F a xs ∧ DpAll K F xs ps := by
  cases h with
  | lst s r => exact ⟨_, _, rfl, s, r⟩
end
theorem dpAll_ints {K : Fg} {F : Hp} : ∀ {vs : List V} (ns : List Int), DpAll K F vs (ns.map PyData.int) → vs = ns.map V.int
  | _, [], h => DpAll.unnil h
  | _, n :: ns, h => by
    obtain ⟨v, us, rfl, r, t⟩ := DpAll.uncons h
    rw [Dp.inv_int r, dpAll_ints ns t]
    rfl
theorem dpAll_of_ints {K : Fg} {F : Hp} : ∀ (ns : List Int), DpAll K F (ns.map V.int) (ns.map PyData.int)
  | [] => .nil
  | n :: ns => .cons (.int n) (dpAll_of_ints ns)
theorem dpAll_bls {K : Fg} {F : Hp} : ∀ {vs : List V} (ns : List Bool), DpAll K F vs (ns.map PyData.bool) → vs = ns.map V.bl
  | _, [], h => DpAll.unnil h
  | _, n :: ns, h => by
    obtain ⟨v, us, rfl, r, t⟩ := DpAll.uncons h
    rw [Dp.inv_bl r, dpAll_bls ns t]
    rfl

/-! ### the data that a value is, its bound tuples read -/
mutual
def nm : D → D
  | .list xs => .list (nmAll xs)
  | .tuple xs => .tuple (nmAll xs)
  | .dict [(.int i, .dict [(.none, .none)]), (.int j, _)] => .tuple [.int i, .int j]
  | p => p
def nmAll : List D → List D
  | [] => []
  | p :: ps => nm p :: nmAll ps
end
theorem nmAll_len : ∀ ps : List D, (nmAll ps).length = ps.length
  | [] => rfl
  | p :: ps => congrArg (· + 1) (nmAll_len ps)
theorem nmAll_map : ∀ ps : List D, nmAll ps = ps.map nm
  | [] => rfl
  | p :: ps => congrArg (nm p :: ·) (nmAll_map ps)
theorem nm_q (i j : Int) : nm (rqD i j) = .tuple [.int i, .int j] := rfl
theorem nm_dict {kvs : List (D × D)} (h : (nm (.dict kvs)).plain = true) : ∃ i j z, kvs = [(.int i, mkD), (.int j, z)] := by
  unfold nm at h
  split at h
  all_goals first | (rename_i q; cases q; exact ⟨_, _, _, rfl⟩) | skip
  all_goals simp_all [PyData.plain]
mutual
theorem Dp.libN {K : Fg} {F : Hp} : ∀ {v : V} {p : D}, Dp K F v p → (nm p).plain = true → L2.Dp K F v (nm p)
  | _, _, .non, _ => .non
  | _, _, .bl b, _ => .bl b
  | _, _, .int i, _ => .int i
  | _, _, .str i, _ => .str i
  | _, _, .tup s r, h => .tup (.inl (.inl s)) (DpAll.libN r (by simpa [nm, PyData.plain] using h))
  | _, _, .tupK a b c d f _ r, h => .tup (.inr ⟨_, _, _, a, b, c, d, f⟩) (DpAll.libN r (by simpa [nm, PyData.plain] using h))
  | _, _, .lst s r, h => .lst s (DpAll.libN r (by simpa [nm, PyData.plain] using h))
  | _, _, .dk s r, h => by
    obtain ⟨i, j, z, e⟩ := nm_dict h
    subst e
    cases r with
    | cons d r => cases d with
      | dk _ r => cases r
      | dt _ r => cases r
  | _, _, .dt s r, h => by
    obtain ⟨i, j, z, e⟩ := nm_dict h
    subst e
    cases r
  | _, _, .q a b c d f, _ => .tup (.inr ⟨_, _, _, a, b, c, d, f⟩) (.cons (.int _) (.cons (.int _) .nil))
theorem DpAll.libN {K : Fg} {F : Hp} : ∀ {vs : List V} {ps : List D}, DpAll K F vs ps → PyData.plainAll (nmAll ps) = true → L2.DpAll K F vs (nmAll ps)
  | _, _, .nil, _ => .nil
  | _, _, .cons a b, h => by
    rw [nmAll, PyData.plainAll, Bool.and_eq_true] at h
    exact .cons (Dp.libN a h.1) (DpAll.libN b h.2)
end
theorem Dp.readsN {X : Cx} {pins : List (Addr × Obj)} {σ : St} {H : Hp} {s : Shared} (I : L2.Inv X pins σ H s) (d : D) (v : V) (u : Value) (h : Dp X.K H v d) (hp : (nm d).plain = true) (r : RelV v u) : ∃ as, Reads s.heap u (nm d) as := L2.Dp.reads I (nm d) v u (h.libN hp) r
theorem Dp.readsAllN {X : Cx} {pins : List (Addr × Obj)} {σ : St} {H : Hp} {s : Shared} (I : L2.Inv X pins σ H s) (ds : List D) (vs : List V) (us : List Value) (h : DpAll X.K H vs ds) (hp : PyData.plainAll (nmAll ds) = true) (r : Vals vs us) : ∃ as, ReadsAll s.heap us (nmAll ds) as := L2.Dp.readsAll I (nmAll ds) vs us (h.libN hp) r
/-! ### slots -/
/-- what is known of a slot: nothing; a value that never changes; a list that this frame alone holds; the row of draws -/
inductive Sl where
  | no | v (p : D) | ol (xs : List D) | row | od (t : Bool) (kvs : List (D × D)) | fz (kvs : List (D × D))
abbrev Rho := List Sl

/-- the row of draws: the script (frozen), the place, a number, a rest -/
def RowOk (K : Fg) (F H : Hp) (r : Addr) : Prop :=
  ∃ (sa : Addr) (ns : List Int) (b c d : Int), H r = some (.lst [.ref sa, .int b, .int c, .int d]) ∧ SqL K F sa (ns.map V.int) ∧ ns.length ≤ 63 ∧ 0 ≤ b ∧ 0 ≤ c ∧ 0 ≤ d

/-- a frame's base: the frozen heap and the heap at its entry, the row that it was handed -/
structure Bs where
  Fa : Hp
  Ha : Hp
  r : Option Addr

def SameX (r : Option Addr) (H H' : Hp) : Prop := ∀ b o, some b ≠ r → H b = some o → H' b = some o
theorem SameX.refl {r : Option Addr} (H : Hp) : SameX r H H := fun _ _ _ h => h
theorem SameX.trans {r : Option Addr} {H H1 H2 : Hp} (a : SameX r H H1) (b : SameX r H1 H2) : SameX r H H2 := fun c o n h => b c o n (a c o n h)
theorem sameX_of {r : Option Addr} {H H' : Hp} (a : Same H H') : SameX r H H' := fun b o _ h => a b o h
theorem SameX.same {H H' : Hp} (a : SameX none H H') : Same H H' := fun b o h => a b o (by simp) h

/-- a dict stands at a; t: its keys are tuples of ints (else ints) -/
def DAt (K : Fg) (F H : Hp) (t : Bool) (a : Addr) (kvs : List (D × D)) : Prop := match t with
  | false => ∃ es, H a = some (.dK es) ∧ DkAll K F es kvs
  | true => ∃ es, H a = some (.dT es) ∧ DtAll K F es kvs
theorem DAt.mono {K : Fg} {F F' H H' : Hp} {t : Bool} {a : Addr} {kvs : List (D × D)} (h : DAt K F H t a kvs) (eF : Same F F') (eH : ∀ o, H a = some o → H' a = some o) : DAt K F' H' t a kvs := by
  cases t with
  | false => obtain ⟨es, e, d⟩ := h; exact ⟨es, eH _ e, d.same eF⟩
  | true => obtain ⟨es, e, d⟩ := h; exact ⟨es, eH _ e, d.same eF⟩
theorem DAt.there {K : Fg} {F H : Hp} {t : Bool} {a : Addr} {kvs : List (D × D)} (h : DAt K F H t a kvs) : ∃ o, H a = some o ∧ ∀ xs, o ≠ .tup xs := by
  cases t with
  | false => obtain ⟨es, e, d⟩ := h; exact ⟨_, e, fun xs z => by cases z⟩
  | true => obtain ⟨es, e, d⟩ := h; exact ⟨_, e, fun xs z => by cases z⟩
/-- nothing, or a tuple -/
def Fz (o : Option HO) : Prop := o = none ∨ ∃ xs, o = some (.tup xs)
inductive SlOk (K : Fg) (B : Bs) (F H : Hp) : Option (Option V) → Sl → Prop
  | no {x : Option (Option V)} : SlOk K B F H x .no
  | v {x : V} {p : D} : Dp K F x p → SlOk K B F H (some (some x)) (.v p)
  | ol {a : Addr} {xs : List V} {ps : List D} : F a = none → B.Ha a = none → H a = some (.lst xs) → DpAll K F xs ps → SlOk K B F H (some (some (.ref a))) (.ol ps)
  | row {a : Addr} : F a = none → (B.Ha a = none ∨ B.r = some a) → RowOk K F H a → SlOk K B F H (some (some (.ref a))) .row
  | od {t : Bool} {a : Addr} {kvs : List (D × D)} : F a = none → B.Ha a = none → DAt K F H t a kvs → SlOk K B F H (some (some (.ref a))) (.od t kvs)
  | fz {a : Addr} {o : Obj} {es : List (List Key × V)} {kvs : List (D × D)} : F a = some (.frz o (.dT es)) → DtAll K F es kvs → SlOk K B F H (some (some (.ref a))) (.fz kvs)

def Sl.owns : Sl → Bool
  | .ol _ => true
  | .row => true
  | .od _ _ => true
  | _ => false

structure Rs (K : Fg) (B : Bs) (F H : Hp) (σ : St) (ρ : Rho) : Prop where
  sub : Same F H
  ext : Same B.Fa F
  new : ∀ b, B.Fa b = none → F b ≠ none → Fz (B.Ha b)
  old : SameX B.r B.Ha H
  hrow : ∀ r, B.r = some r → F r = none ∧ RowOk K F H r
  hr2 : ∀ r, B.r = some r → B.Ha r ≠ none
  len : σ.length = ρ.length
  at_ : ∀ (i : Nat) (s : Sl), ρ[i]? = some s → SlOk K B F H σ[i]? s
  apart : ∀ (i j : Nat) (a : Addr) (s t : Sl), i ≠ j → ρ[i]? = some s → ρ[j]? = some t → s.owns = true → t.owns = true → σ[i]? = some (some (.ref a)) → σ[j]? = some (some (.ref a)) → False

theorem same_upd {H : Hp} {p : Addr} {o : HO} (h : H p = none) : Same H (upd H p o) := fun b x e => by
  rw [upd_ne (ne_of_none e h)]
  exact e
theorem same_upd2 {F H : Hp} {p : Addr} {o : HO} (h : Same F H) (n : F p = none) : Same F (upd H p o) := fun b x e => by
  rw [upd_ne (ne_of_none e n)]
  exact h _ _ e
theorem same_upd3 {F H : Hp} {p : Addr} {o : HO} (h : Same F H) : Same (upd F p o) (upd H p o) := fun b x e => by
  by_cases q : b = p
  · subst q; rw [upd_same] at e ⊢; exact e
  · rw [upd_ne q] at e ⊢; exact h _ _ e

section
variable {K : Fg} {B : Bs} {F F' H H' : Hp} {σ : St} {ρ : Rho}
theorem RowOk.there {r : Addr} (R : RowOk K F H r) : ∃ o, H r = some o := by
  obtain ⟨_, _, _, _, _, h, _⟩ := R
  exact ⟨_, h⟩
theorem RowOk.thereN {r : Addr} (R : RowOk K F H r) : ∃ o, H r = some o ∧ ∀ xs, o ≠ HO.tup xs := by
  obtain ⟨_, _, _, _, _, h, _⟩ := R
  exact ⟨_, h, fun _ z => by cases z⟩
theorem RowOk.mono {r : Addr} (R : RowOk K F H r) (eF : Same F F') (eH : ∀ o, H r = some o → H' r = some o) : RowOk K F' H' r := by
  obtain ⟨sa, ns, b, c, d, h, s, q⟩ := R
  exact ⟨sa, ns, b, c, d, eH _ h, sqL_same eF s, q⟩
theorem SlOk.mono {x : Option (Option V)} {s : Sl} (h : SlOk K B F H x s) (eF : Same F F') (fr : ∀ a, F a = none → (∃ o, H a = some o ∧ ∀ xs, o ≠ HO.tup xs) → F' a = none) (eH : ∀ a o, F a = none → H a = some o → H' a = some o) : SlOk K B F' H' x s := by
  cases h with
  | no => exact .no
  | v r => exact .v (r.same eF)
  | ol f h0 h1 r => exact .ol (fr _ f ⟨_, h1, fun _ z => by cases z⟩) h0 (eH _ _ f h1) (r.same eF)
  | row f h0 h1 => exact .row (fr _ f h1.thereN) h0 (h1.mono eF fun o => eH _ o f)
  | od f h0 h1 => exact .od (fr _ f h1.there) h0 (h1.mono eF fun o => eH _ o f)
  | fz f d => exact .fz (eF _ _ f) (d.same eF)
theorem Rs.fresh (R : Rs K B F H σ ρ) {p : Addr} (h : H p = none) : B.Ha p = none ∧ F p = none ∧ B.r ≠ some p := by
  have hr : B.r ≠ some p := fun e => by
    obtain ⟨_, o, q⟩ := And.intro (R.hrow p e).1 (R.hrow p e).2.there
    rw [q] at h; cases h
  refine ⟨?_, R.sub.free h, hr⟩
  cases q : B.Ha p with
  | none => rfl
  | some u =>
    rw [R.old _ _ (fun e => hr e.symm) q] at h; cases h
theorem Rs.fz (R : Rs K B F H σ ρ) {b : Addr} (h : Fz (H b)) : Fz (B.Ha b) := by
  cases q : B.Ha b with
  | none => exact .inl rfl
  | some o =>
    have ne : some b ≠ B.r := fun e => by
      obtain ⟨u, hu, nt⟩ := (R.hrow b e.symm).2.thereN
      rcases h with h | ⟨xs, h⟩
      · rw [hu] at h; cases h
      · rw [hu] at h; exact nt xs (Option.some.inj h)
    have e := R.old b o ne q
    rcases h with h | ⟨xs, h⟩
    · rw [e] at h; cases h
    · rw [e] at h; exact .inr ⟨xs, h⟩
/-- the heap grows by a frozen object -/
theorem Rs.grow {p : Addr} {o : HO} (R : Rs K B F H σ ρ) (h : H p = none) : Rs K B (upd F p o) (upd H p o) σ ρ where
  sub := same_upd3 R.sub
  ext := fun b x e => by rw [upd_ne (ne_of_none (R.sub _ _ (R.ext _ _ e)) h)]; exact R.ext _ _ e
  new := fun b hb hF => by
    by_cases e : b = p
    · subst e; exact .inl (R.fresh h).1
    · rw [upd_ne e] at hF; exact R.new b hb hF
  old := fun b x hb e => by
    have := R.old b x hb e
    rw [upd_ne (ne_of_none this h)]; exact this
  hrow := fun r hr => by
    obtain ⟨h1, h2⟩ := R.hrow r hr
    obtain ⟨u, hu⟩ := h2.there
    have ne : r ≠ p := ne_of_none hu h
    exact ⟨by rw [upd_ne ne]; exact h1, h2.mono (same_upd (R.sub.free h)) fun o e => by rw [upd_ne ne]; exact e⟩
  hr2 := R.hr2
  len := R.len
  at_ := fun i s hs => (R.at_ i s hs).mono (same_upd (R.sub.free h)) (fun a f ⟨o, q, _⟩ => by rw [upd_ne (ne_of_none q h)]; exact f) (fun a o f q => by rw [upd_ne (ne_of_none q h)]; exact q)
  apart := R.apart
/-- the heap grows by an object that isn't frozen (yet) -/
theorem Rs.lay {p : Addr} {o : HO} (R : Rs K B F H σ ρ) (h : H p = none) : Rs K B F (upd H p o) σ ρ where
  sub := same_upd2 R.sub (R.sub.free h)
  ext := R.ext
  new := R.new
  old := fun b x hb e => by
    have := R.old b x hb e
    rw [upd_ne (ne_of_none this h)]; exact this
  hrow := fun r hr => by
    obtain ⟨h1, h2⟩ := R.hrow r hr
    obtain ⟨u, hu⟩ := h2.there
    have ne : r ≠ p := ne_of_none hu h
    exact ⟨h1, h2.mono (Same.refl _) fun o e => by rw [upd_ne ne]; exact e⟩
  hr2 := R.hr2
  len := R.len
  at_ := fun i s hs => (R.at_ i s hs).mono (Same.refl _) (fun a f _ => f) (fun a o f q => by rw [upd_ne (ne_of_none q h)]; exact q)
  apart := R.apart
/-- a slot takes a frozen value (or is forgotten) -/
theorem Rs.put {i : Nat} {x : V} {s : Sl} (R : Rs K B F H σ ρ) (hs : SlOk K B F H (some (some x)) s) (ho : s.owns = false) : Rs K B F H (σ.set i (some x)) (ρ.set i s) where
  sub := R.sub
  ext := R.ext
  new := R.new
  old := R.old
  hrow := R.hrow
  hr2 := R.hr2
  len := by rw [List.length_set, List.length_set]; exact R.len
  at_ := fun j t ht => by
    by_cases e : i = j
    · subst e
      by_cases hl : i < ρ.length
      · rw [List.getElem?_set_self hl] at ht
        cases ht
        rw [List.getElem?_set_self (by rw [R.len]; exact hl)]
        exact hs
      · rw [List.getElem?_eq_none (by simpa using hl)] at ht; cases ht
    · rw [List.getElem?_set_ne e] at ht ⊢
      exact R.at_ j t ht
  apart := fun j k a s' t hjk h1 h2 o1 o2 e1 e2 => by
    have n1 : i ≠ j := fun e => by
      subst e
      by_cases hl : i < ρ.length
      · rw [List.getElem?_set_self hl] at h1
        cases h1; rw [ho] at o1; cases o1
      · rw [List.getElem?_eq_none (by simpa using hl)] at h1; cases h1
    have n2 : i ≠ k := fun e => by
      subst e
      by_cases hl : i < ρ.length
      · rw [List.getElem?_set_self hl] at h2
        cases h2; rw [ho] at o2; cases o2
      · rw [List.getElem?_eq_none (by simpa using hl)] at h2; cases h2
    rw [List.getElem?_set_ne n1] at h1 e1
    rw [List.getElem?_set_ne n2] at h2 e2
    exact R.apart j k a s' t hjk h1 h2 o1 o2 e1 e2
end

/-! ### expressions -/
abbrev PK := D → Prop
abbrev TW := Rho → PK → Prop
/-- a value that is read at once: frozen, or the list that a slot owns -/
def Pk (K : Fg) (F : Hp) (σ : St) (ρ : Rho) (v : V) (p : D) : Prop := Dp K F v p ∨ (∃ (i : Nat) (ps : List D), ρ[i]? = some (Sl.ol ps) ∧ σ[i]? = some (some v) ∧ p = .list ps) ∨ ∃ (i : Nat) (t : Bool) (kvs : List (D × D)), ρ[i]? = some (Sl.od t kvs) ∧ σ[i]? = some (some v) ∧ p = .dict kvs
theorem Pk.dp {K : Fg} {B : Bs} {F F' H' : Hp} {σ : St} {ρ : Rho} {v : V} {p : D} (h : Pk K F σ ρ v p) (e : Same F F') (R : Rs K B F' H' σ ρ) : Dp K H' v p := by
  rcases h with h | ⟨i, ps, h1, h2, rfl⟩ | ⟨i, t, kvs, h1, h2, rfl⟩
  · exact (h.same e).same R.sub
  · have q := R.at_ i _ h1
    rw [h2] at q
    cases q with
    | ol f h0 h3 r => exact .lst (.inl (.inl h3)) (r.same R.sub)
  · have q := R.at_ i _ h1
    rw [h2] at q
    cases q with
    | od f h0 h3 =>
      cases t with
      | false => obtain ⟨es, e3, d⟩ := h3; exact .dk e3 (d.same R.sub)
      | true => obtain ⟨es, e3, d⟩ := h3; exact .dt e3 (d.same R.sub)

def LenOk (K : Fg) (H : Hp) : Prop := ∀ a xs, (SqL K H a xs ∨ SqT K H a xs) → xs.length ≤ sizeLine

def tW (K : Fg) (T : TW) : TE := fun σ H Q => ∃ B F ρ, Rs K B F H σ ρ ∧ T ρ (fun p => ∀ F' H' v, Rs K B F' H' σ ρ → Same F F' → Dp K F' v p → Q v H')
def tX (K : Fg) (T : TW) : TE := fun σ H Q => ∃ B F ρ, Rs K B F H σ ρ ∧ T ρ (fun p => ∀ F' H' v, Rs K B F' H' σ ρ → Same F F' → Pk K F' σ ρ v p → Q v H')
/-- a new list -/
def tN (K : Fg) (T : Rho → (List D → Prop) → Prop) : TE := fun σ H Q => ∃ B F ρ, Rs K B F H σ ρ ∧ T ρ (fun ps => ∀ F' H' a xs, Rs K B F' H' σ ρ → Same F F' → H' a = none → DpAll K F' xs ps → Q (.ref a) (upd H' a (.lst xs)))

structure EW (X : Cx) (e : Expr) (T : TW) : Prop where
  mono : ∀ ρ K K', (∀ p, K p → K' p) → T ρ K → T ρ K'
  pe : PE X e (tW X.K T)
structure XW (X : Cx) (e : Expr) (T : TW) : Prop where
  mono : ∀ ρ K K', (∀ p, K p → K' p) → T ρ K → T ρ K'
  pe : PE X e (tX X.K T)
structure NW (X : Cx) (e : Expr) (T : Rho → (List D → Prop) → Prop) : Prop where
  mono : ∀ ρ K K', (∀ p, K p → K' p) → T ρ K → T ρ K'
  pe : PE X e (tN X.K T)
/-- by a function -/
abbrev fW {α : Type} (f : Rho → Option α) : Rho → (α → Prop) → Prop := fun ρ K => ∃ p, f ρ = some p ∧ K p
theorem fW_mono {α : Type} {f : Rho → Option α} : ∀ ρ K K', (∀ p, K p → K' p) → fW f ρ K → fW f ρ K' := fun _ _ _ h ⟨p, e, q⟩ => ⟨p, e, h p q⟩
abbrev EF (X : Cx) (e : Expr) (f : Rho → Option D) : Prop := EW X e (fW f)
abbrev XF (X : Cx) (e : Expr) (f : Rho → Option D) : Prop := XW X e (fW f)
abbrev NF (X : Cx) (e : Expr) (f : Rho → Option (List D)) : Prop := NW X e (fW f)

theorem _root_.L2.PE.imp {X : Cx} {e : Expr} {t t' : TE} (h : PE X e t) (k : ∀ σ H Q, t' σ H Q → t σ H Q) : PE X e t' := ⟨fun pins s σ H Q I hw => h.run pins s σ H Q I (k _ _ _ hw)⟩
theorem _root_.L2.PT.imp {X : Cx} {e : Expr} {t t' : TT} (h : PT X e t) (k : ∀ σ H Q, t' σ H Q → t σ H Q) : PT X e t' := ⟨fun pins s σ H Q I hw => h.run pins s σ H Q I (k _ _ _ hw)⟩
theorem _root_.L2.PS.imp {X : Cx} {e : Stmt} {t t' : TS} (h : PS X e t) (k : ∀ D σ H, t' D σ H → t D σ H) : PS X e t' := ⟨fun pins s σ H Q I hw => h.run pins s σ H Q I (k _ _ _ hw)⟩
theorem _root_.L2.PSs.imp {X : Cx} {e : List Stmt} {t t' : TS} (h : PSs X e t) (k : ∀ D σ H, t' D σ H → t D σ H) : PSs X e t' := ⟨fun pins s σ H Q I hw => h.run pins s σ H Q I (k _ _ _ hw)⟩
/-- what comes knows that no list is too long -/
theorem _root_.L2.PE.lens {X : Cx} {e : Expr} {t : TE} (h : PE X e t) : PE X e (fun σ H Q => t σ H fun v H' => LenOk X.K H' → Q v H') := ⟨fun pins s σ H Q I hw =>
  thn (h.run pins s σ H _ I hw) fun u s' ⟨v, H', I', r, q⟩ => ⟨v, H', I', r, q fun a xs hx => by
    rcases hx with hx | hx
    · obtain ⟨_, _, _, z⟩ := I'.list hx
      exact z
    · obtain ⟨_, _, _, z⟩ := I'.tuple hx
      exact z⟩⟩
theorem EW.imp {X : Cx} {e : Expr} {T T' : TW} (h : EW X e T) (m : ∀ ρ K K', (∀ p, K p → K' p) → T' ρ K → T' ρ K') (k : ∀ ρ K, T' ρ K → T ρ K) : EW X e T' := ⟨m, h.pe.imp fun _ _ _ ⟨B, F, ρ, R, q⟩ => ⟨B, F, ρ, R, k _ _ q⟩⟩
theorem XW.imp {X : Cx} {e : Expr} {T T' : TW} (h : XW X e T) (m : ∀ ρ K K', (∀ p, K p → K' p) → T' ρ K → T' ρ K') (k : ∀ ρ K, T' ρ K → T ρ K) : XW X e T' := ⟨m, h.pe.imp fun _ _ _ ⟨B, F, ρ, R, q⟩ => ⟨B, F, ρ, R, k _ _ q⟩⟩
theorem NW.imp {X : Cx} {e : Expr} {T T' : Rho → (List D → Prop) → Prop} (h : NW X e T) (m : ∀ ρ K K', (∀ p, K p → K' p) → T' ρ K → T' ρ K') (k : ∀ ρ K, T' ρ K → T ρ K) : NW X e T' := ⟨m, h.pe.imp fun _ _ _ ⟨B, F, ρ, R, q⟩ => ⟨B, F, ρ, R, k _ _ q⟩⟩
theorem EW.x {X : Cx} {e : Expr} {T : TW} (h : EW X e T) : XW X e T := ⟨h.mono, h.pe.imp fun _ _ _ ⟨B, F, ρ, R, q⟩ => ⟨B, F, ρ, R, h.mono _ _ _ (fun p k F' H' v R' e r => k F' H' v R' e (.inl r)) q⟩⟩
/-- a new list is frozen -/
theorem NW.e {X : Cx} {e : Expr} {T : Rho → (List D → Prop) → Prop} (h : NW X e T) : EW X e (fun ρ K => T ρ fun ps => K (.list ps)) :=
  ⟨fun ρ K K' i q => h.mono _ _ _ (fun ps => i _) q, h.pe.imp fun _ _ _ ⟨B, F, ρ, R, q⟩ => ⟨B, F, ρ, R, h.mono _ _ _ (fun ps k F' H' a xs R' e n r => by
    have n' : F' a = none := R'.sub.free n
    exact k (upd F' a (.lst xs)) _ _ (R'.grow n) (e.trans (same_upd n')) (.lst (.inl (.inl upd_same)) (r.same (same_upd n')))) q⟩⟩
theorem NF.e {X : Cx} {e : Expr} {f : Rho → Option (List D)} (h : NF X e f) : EF X e (fun ρ => (f ρ).map PyData.list) := (NW.e h).imp fW_mono fun ρ K ⟨p, e, q⟩ => by
  obtain ⟨ps, e', rfl⟩ := Option.map_eq_some_iff.mp e
  exact ⟨ps, e', q⟩

/-! names, constants -/
def gV (i : Nat) : Rho → Option D := fun ρ => match ρ[i]? with
  | some (.v p) => some p
  | _ => none
def gX (i : Nat) : Rho → Option D := fun ρ => match ρ[i]? with
  | some (.v p) => some p
  | some (.ol ps) => some (.list ps)
  | some (.od _ kvs) => some (.dict kvs)
  | _ => none
section
variable {X : Cx}
theorem ef_var {i : Nat} {x : Str} {pos : Pos} (hN : X.N[i]? = some x) (hv : Vis X.env.scope x) (hd : (x == ("__debug__" : Str)) = false := by decide) (hcd : (x == ("__classdict__" : Str)) = false := by decide) : EF X (.Name x pos) (gV i) :=
  ⟨fW_mono, (pe_var hN hv hd hcd).imp fun σ H Q ⟨B, F, ρ, R, p, e, q⟩ => by
    unfold gV at e
    split at e
    · rename_i s hs
      cases e
      have z := R.at_ i _ hs
      generalize hσ : σ[i]? = o at z
      cases z with
      | v r => exact ⟨_, hσ, q F H _ R (Same.refl _) r⟩
    · cases e⟩
theorem xf_var {i : Nat} {x : Str} {pos : Pos} (hN : X.N[i]? = some x) (hv : Vis X.env.scope x) (hd : (x == ("__debug__" : Str)) = false := by decide) (hcd : (x == ("__classdict__" : Str)) = false := by decide) : XF X (.Name x pos) (gX i) :=
  ⟨fW_mono, (pe_var hN hv hd hcd).imp fun σ H Q ⟨B, F, ρ, R, p, e, q⟩ => by
    unfold gX at e
    split at e
    · rename_i s hs
      cases e
      have z := R.at_ i _ hs
      generalize hσ : σ[i]? = o at z
      cases z with
      | v r => exact ⟨_, hσ, q F H _ R (Same.refl _) (.inl r)⟩
    · rename_i s hs
      cases e
      have z := R.at_ i _ hs
      generalize hσ : σ[i]? = o at z
      cases z with
      | ol f h0 h1 r => exact ⟨_, hσ, q F H _ R (Same.refl _) (.inr (.inl ⟨i, _, hs, hσ, rfl⟩))⟩
    · rename_i t s hs
      cases e
      have z := R.at_ i _ hs
      generalize hσ : σ[i]? = o at z
      cases z with
      | od f h0 h1 => exact ⟨_, hσ, q F H _ R (Same.refl _) (.inr (.inr ⟨i, _, _, hs, hσ, rfl⟩))⟩
    · cases e⟩
def gC (p : D) : Rho → Option D := fun _ => some p
theorem ef_con {e : Expr} {v : V} {p : D} (h : PE X e (tC v)) (r : ∀ K F, Dp K F v p) : EF X e (gC p) :=
  ⟨fW_mono, h.imp fun σ H Q ⟨B, F, ρ, R, p', e, q⟩ => by
    cases e
    exact q F H v R (Same.refl _) (r _ _)⟩
theorem ef_int {i j pos} : EF X (.Constant (.int i) j pos) (gC (.int i)) := ef_con pe_int fun _ _ => .int i
theorem ef_bl {b j pos} : EF X (.Constant (.bool b) j pos) (gC (.bool b)) := ef_con pe_bl fun _ _ => .bl b
theorem ef_non {j pos} : EF X (.Constant .none j pos) (gC .none) := ef_con pe_non fun _ _ => .non
theorem ef_str {x j pos} : EF X (.Constant (.str x) j pos) (gC (.str x)) := ef_con pe_str fun _ _ => .str x
end
end L2.P

set_option Elab.async false
set_option linter.all false
set_option maxRecDepth 100000
set_option maxHeartbeats 4000000
/-! PL2: expressions. -/
namespace L2.P
open PySem PySem.Spec PyProof.Rows L2

theorem Pk.mono {K : Fg} {F F' : Hp} {σ : St} {ρ : Rho} {v : V} {p : D} (h : Pk K F σ ρ v p) (e : Same F F') : Pk K F' σ ρ v p := by
  rcases h with h | h
  · exact .inl (h.same e)
  · exact .inr h

/-- the room that every frame has -/
def Rm (X : Cx) : Prop := X.A.units + 130 < cLine
theorem rm_of {X : Cx} {k : Nat} (r : Room k X.A) : Rm X := by have := r.un; unfold Rm; omega

/-! ### operators by values -/
abbrev G2 := D → D → Option D
/-- an operation on values does what g says of data -/
def OpG (X : Cx) (f : Value → Value → Sem Value) (g : G2) : Prop :=
  ∃ r : R2, OpR X f r ∧ ∀ (B : Bs) (F H : Hp) (σ : St) (ρ : Rho) (x y : V) (p q z : D) (Q : VK), Rs X.K B F H σ ρ → Pk X.K F σ ρ x p → Pk X.K F σ ρ y q → g p q = some z →
    (∀ F' H' v, Rs X.K B F' H' σ ρ → Same F F' → Dp X.K F' v z → Q v H') → r x y H Q
theorem OpG.of {X : Cx} {f : Value → Value → Sem Value} {g : G2} (h : ∃ r : R2, OpR X f r ∧ ∀ (B : Bs) (F H : Hp) (σ : St) (ρ : Rho) (x y : V) (p q z : D) (Q : VK), Rs X.K B F H σ ρ → Dp X.K H x p → Dp X.K H y q → g p q = some z →
    (∀ F' H' v, Rs X.K B F' H' σ ρ → Same F F' → Dp X.K F' v z → Q v H') → r x y H Q) : OpG X f g := by
  obtain ⟨r, h1, h2⟩ := h
  exact ⟨r, h1, fun B F H σ ρ x y p q z Q R hx hy e k => h2 B F H σ ρ x y p q z Q R (hx.dp (Same.refl _) R) (hy.dp (Same.refl _) R) e k⟩
def b2 (g : G2) (f1 f2 : Rho → Option D) : Rho → Option D := fun ρ => (f1 ρ).bind fun x => (f2 ρ).bind fun y => g x y
def w2 (g : G2) (T1 T2 : TW) : TW := fun ρ K => T1 ρ fun x => T2 ρ fun y => ∃ z, g x y = some z ∧ K z
theorem w2_mono {g : G2} {T1 T2 : TW} (m1 : ∀ ρ K K', (∀ p, K p → K' p) → T1 ρ K → T1 ρ K') (m2 : ∀ ρ K K', (∀ p, K p → K' p) → T2 ρ K → T2 ρ K') :
    ∀ ρ K K', (∀ p, K p → K' p) → w2 g T1 T2 ρ K → w2 g T1 T2 ρ K' := fun ρ K K' h q => m1 _ _ _ (fun x => m2 _ _ _ fun y ⟨z, e, k⟩ => ⟨z, e, h z k⟩) q
theorem b2_w {g : G2} {f1 f2 : Rho → Option D} (ρ : Rho) (K : PK) (h : fW (b2 g f1 f2) ρ K) : w2 g (fW f1) (fW f2) ρ K := by
  obtain ⟨z, e, k⟩ := h
  unfold b2 at e
  obtain ⟨x, e1, e⟩ := Option.bind_eq_some_iff.mp e
  obtain ⟨y, e2, e⟩ := Option.bind_eq_some_iff.mp e
  exact ⟨x, e1, y, e2, z, e, k⟩
section
variable {X : Cx} {a b c : Expr} {pos : Pos}
/-- the reading that both operands' readings make -/
theorem two_ok {f : Value → Value → Sem Value} {g : G2} {T1 T2 : TW} {r : R2}
    (hr : ∀ (B : Bs) (F H : Hp) (σ : St) (ρ : Rho) (x y : V) (p q z : D) (Q : VK), Rs X.K B F H σ ρ → Pk X.K F σ ρ x p → Pk X.K F σ ρ y q → g p q = some z → (∀ F' H' v, Rs X.K B F' H' σ ρ → Same F F' → Dp X.K F' v z → Q v H') → r x y H Q)
    (m1 : ∀ ρ K K', (∀ p, K p → K' p) → T1 ρ K → T1 ρ K') (m2 : ∀ ρ K K', (∀ p, K p → K' p) → T2 ρ K → T2 ρ K') {σ : St} {H : Hp} {Q : VK} (h : tW X.K (w2 g T1 T2) σ H Q) :
    tOp r (tX X.K T1) (tX X.K T2) σ H Q := by
  obtain ⟨B, F, ρ, R, q⟩ := h
  refine ⟨B, F, ρ, R, m1 _ _ _ (fun x qx F1 H1 v1 R1 e1 d1 => ?_) q⟩
  refine ⟨B, F1, ρ, R1, m2 _ _ _ (fun y ⟨z, ez, qz⟩ F2 H2 v2 R2 e2 d2 => ?_) qx⟩
  exact hr B F2 H2 σ ρ v1 v2 x y z Q R2 (d1.mono e2) d2 ez fun F3 H3 v R3 e3 d3 => qz F3 H3 v R3 ((e1.trans e2).trans e3) d3
theorem ew_bin {op : Operator} {g : G2} {T1 T2 : TW} (o : OpG X (binaryOp op) g) (ha : XW X a T1) (hb : XW X b T2) : EW X (.BinOp a op b pos) (w2 g T1 T2) := by
  obtain ⟨r, ho, hr⟩ := o
  exact ⟨w2_mono ha.mono hb.mono, (pe_op ho ha.pe hb.pe).imp fun σ H Q h => two_ok (f := binaryOp op) hr ha.mono hb.mono h⟩
theorem ef_bin {op : Operator} {g : G2} {f1 f2 : Rho → Option D} (o : OpG X (binaryOp op) g) (ha : XF X a f1) (hb : XF X b f2) : EF X (.BinOp a op b pos) (b2 g f1 f2) :=
  (ew_bin o ha hb).imp fW_mono b2_w
theorem ew_cmp {op : CmpOp} {g : G2} {T1 T2 : TW} (o : OpG X (compareOp op) g) (ha : XW X a T1) (hb : XW X b T2) (hm : behindInMarks op b = false) : EW X (.Compare a [op] [b] pos) (w2 g T1 T2) := by
  obtain ⟨r, ho, hr⟩ := o
  exact ⟨w2_mono ha.mono hb.mono, (pe_cmpR ho ha.pe hb.pe hm).imp fun σ H Q h => two_ok (f := compareOp op) hr ha.mono hb.mono h⟩
theorem ef_cmp {op : CmpOp} {g : G2} {f1 f2 : Rho → Option D} (o : OpG X (compareOp op) g) (ha : XF X a f1) (hb : XF X b f2) (hm : behindInMarks op b = false) : EF X (.Compare a [op] [b] pos) (b2 g f1 f2) :=
  (ew_cmp o ha hb hm).imp fW_mono b2_w
end

/-! ### tests -/
abbrev TB := Rho → (Bool → Prop) → Prop
def tT (K : Fg) (T : TB) : TT := fun σ H Q => ∃ B F ρ, Rs K B F H σ ρ ∧ T ρ (fun b => ∀ F' H', Rs K B F' H' σ ρ → Same F F' → Q b H')
structure TWT (X : Cx) (e : Expr) (T : TB) : Prop where
  mono : ∀ ρ K K', (∀ p, K p → K' p) → T ρ K → T ρ K'
  pt : PT X e (tT X.K T)
abbrev TF (X : Cx) (e : Expr) (f : Rho → Option Bool) : Prop := TWT X e (fW f)
theorem TWT.imp {X : Cx} {e : Expr} {T T' : TB} (h : TWT X e T) (m : ∀ ρ K K', (∀ p, K p → K' p) → T' ρ K → T' ρ K') (k : ∀ ρ K, T' ρ K → T ρ K) : TWT X e T' := ⟨m, h.pt.imp fun _ _ _ ⟨B, F, ρ, R, q⟩ => ⟨B, F, ρ, R, k _ _ q⟩⟩
def isB : D → Option Bool
  | .bool b => some b
  | _ => none
def bB (f : Rho → Option D) : Rho → Option Bool := fun ρ => (f ρ).bind isB
def wB (T : TW) : TB := fun ρ K => T ρ fun p => ∃ b, isB p = some b ∧ K b
theorem isB_some {p : D} {b : Bool} (h : isB p = some b) : p = .bool b := by
  cases p with
  | bool c => cases h; rfl
  | _ => cases h
section
variable {X : Cx} {a b c : Expr} {pos : Pos}
theorem wB_mono {T : TW} (m : ∀ ρ K K', (∀ p, K p → K' p) → T ρ K → T ρ K') : ∀ ρ K K', (∀ p, K p → K' p) → wB T ρ K → wB T ρ K' := fun ρ K K' h q => m _ _ _ (fun p ⟨b, e, k⟩ => ⟨b, e, h b k⟩) q
theorem bB_w {f : Rho → Option D} (ρ : Rho) (K : Bool → Prop) (h : fW (bB f) ρ K) : wB (fW f) ρ K := by
  obtain ⟨z, e, k⟩ := h
  obtain ⟨x, e1, e⟩ := Option.bind_eq_some_iff.mp e
  exact ⟨x, e1, z, e, k⟩
/-- an expression whose value is a truth value, as a test -/
theorem tw_val {T : TW} (h : EW X a T) (he : ∀ whole, isTrue a X.env whole = (do let v ← whole; standAt a.pos; holding [v] (truthy v)) := by intro _; rfl) : TWT X a (wB T) :=
  ⟨wB_mono h.mono, (pt_val h.pe he).imp fun σ H Q ⟨B, F, ρ, R, q⟩ => ⟨B, F, ρ, R, h.mono _ _ _ (fun p ⟨b, e, k⟩ F' H' v R' e' d => by
    rw [isB_some e] at d
    exact ⟨b, Dp.inv_bl d, k F' H' R' e'⟩) q⟩⟩
theorem tf_val {f : Rho → Option D} (h : EF X a f) (he : ∀ whole, isTrue a X.env whole = (do let v ← whole; standAt a.pos; holding [v] (truthy v)) := by intro _; rfl) : TF X a (bB f) := (tw_val h he).imp fW_mono bB_w
theorem tw_cmp {op : CmpOp} {g : G2} {T1 T2 : TW} (o : OpG X (compareOp op) g) (ha : XW X a T1) (hb : XW X b T2) (hm : behindInMarks op b = false) : TWT X (.Compare a [op] [b] pos) (wB (w2 g T1 T2)) := by
  obtain ⟨r, ho, hr⟩ := o
  exact ⟨wB_mono (w2_mono ha.mono hb.mono), (pt_cmpR ho ha.pe hb.pe hm).imp fun σ H Q ⟨B, F, ρ, R, q⟩ => by
    refine two_ok (f := compareOp op) (g := g) (T1 := T1) (T2 := T2) hr ha.mono hb.mono ⟨B, F, ρ, R, w2_mono ha.mono hb.mono _ _ _ (fun p ⟨b, e, k⟩ F' H' v R' e' d => ?_) q⟩
    rw [isB_some e] at d
    exact ⟨b, Dp.inv_bl d, k F' H' R' e'⟩⟩
theorem tf_cmp {op : CmpOp} {g : G2} {f1 f2 : Rho → Option D} (o : OpG X (compareOp op) g) (ha : XF X a f1) (hb : XF X b f2) (hm : behindInMarks op b = false) : TF X (.Compare a [op] [b] pos) (bB (b2 g f1 f2)) :=
  (tw_cmp o ha hb hm).imp fW_mono fun ρ K h => wB_mono (fun _ _ _ i z => by obtain ⟨p, e, q⟩ := z; exact ⟨p, e, i p q⟩) _ _ _ (fun _ z => z) (bB_w ρ K h) |> fun ⟨p, e, q⟩ => b2_w ρ _ ⟨p, e, q⟩
/-! not, and, or -/
def bNot (f : Rho → Option Bool) : Rho → Option Bool := fun ρ => (f ρ).map (!·)
def wNot (T : TB) : TB := fun ρ K => T ρ fun b => K (!b)
theorem tw_not {T : TB} (h : TWT X a T) : TWT X (.UnaryOp .Not a pos) (wNot T) :=
  ⟨fun ρ K K' i q => h.mono _ _ _ (fun b => i _) q, (pt_not h.pt).imp fun σ H Q ⟨B, F, ρ, R, q⟩ => ⟨B, F, ρ, R, q⟩⟩
theorem tf_not {f : Rho → Option Bool} (h : TF X a f) : TF X (.UnaryOp .Not a pos) (bNot f) := (tw_not h).imp fW_mono fun ρ K ⟨b, e, k⟩ => by
  obtain ⟨c, e', rfl⟩ := Option.map_eq_some_iff.mp e
  exact ⟨c, e', k⟩
def bAnd (f g : Rho → Option Bool) : Rho → Option Bool := fun ρ => (f ρ).bind fun b => if b = true then g ρ else some false
def bOr (f g : Rho → Option Bool) : Rho → Option Bool := fun ρ => (f ρ).bind fun b => if b = true then some true else g ρ
def wAnd (T U : TB) : TB := fun ρ K => T ρ fun b => if b = true then U ρ K else K false
def wOr (T U : TB) : TB := fun ρ K => T ρ fun b => if b = true then K true else U ρ K
structure TWW (X : Cx) (e : Expr) (T : TB) : Prop where
  mono : ∀ ρ K K', (∀ p, K p → K' p) → T ρ K → T ρ K'
  pw : PW X e (tT X.K T)
theorem TWW.t {e : Expr} {T : TB} (h : TWW X e T) : TWT X e T := ⟨h.mono, h.pw.pt⟩
theorem PW.imp {e : Expr} {t t' : TT} (h : PW X e t) (k : ∀ σ H Q, t' σ H Q → t σ H Q) : PW X e t' := ⟨fun w pins s σ H Q I hw => h.run w pins s σ H Q I (k _ _ _ hw)⟩
theorem tw_and1 {T : TB} (h : TWT X a T) : TWW X (.BoolOp .And [a] pos) T := ⟨h.mono, pw_and1 h.pt⟩
theorem tw_or1 {T : TB} (h : TWT X a T) : TWW X (.BoolOp .Or [a] pos) T := ⟨h.mono, pw_or1 h.pt⟩
theorem tw_and {T U : TB} {rest : List Expr} (h : TWT X a T) (h2 : TWW X (.BoolOp .And (b :: rest) pos) U) : TWW X (.BoolOp .And (a :: b :: rest) pos) (wAnd T U) :=
  ⟨fun ρ K K' i q => h.mono _ _ _ (fun b k => by
      cases b with
      | true => exact h2.mono _ _ _ i k
      | false => exact i _ k) q, PW.imp (pw_and h.pt h2.pw) fun σ H Q ⟨B, F, ρ, R, q⟩ => ⟨B, F, ρ, R, h.mono _ _ _ (fun b k F' H' R' e' => by
      cases b with
      | true => exact ⟨B, F', ρ, R', h2.mono _ _ _ (fun c kc F2 H2 R2 e2 => kc F2 H2 R2 (e'.trans e2)) k⟩
      | false => exact k F' H' R' e') q⟩⟩
theorem tw_or {T U : TB} {rest : List Expr} (h : TWT X a T) (h2 : TWW X (.BoolOp .Or (b :: rest) pos) U) : TWW X (.BoolOp .Or (a :: b :: rest) pos) (wOr T U) :=
  ⟨fun ρ K K' i q => h.mono _ _ _ (fun b k => by
      cases b with
      | false => exact h2.mono _ _ _ i k
      | true => exact i _ k) q, PW.imp (pw_or h.pt h2.pw) fun σ H Q ⟨B, F, ρ, R, q⟩ => ⟨B, F, ρ, R, h.mono _ _ _ (fun b k F' H' R' e' => by
      cases b with
      | false => exact ⟨B, F', ρ, R', h2.mono _ _ _ (fun c kc F2 H2 R2 e2 => kc F2 H2 R2 (e'.trans e2)) k⟩
      | true => exact k F' H' R' e') q⟩⟩
abbrev TFW (X : Cx) (e : Expr) (f : Rho → Option Bool) : Prop := TWW X e (fW f)
theorem TWW.imp {e : Expr} {T T' : TB} (h : TWW X e T) (m : ∀ ρ K K', (∀ p, K p → K' p) → T' ρ K → T' ρ K') (k : ∀ ρ K, T' ρ K → T ρ K) : TWW X e T' := ⟨m, PW.imp h.pw fun _ _ _ ⟨B, F, ρ, R, q⟩ => ⟨B, F, ρ, R, k _ _ q⟩⟩
theorem tf_and1 {f : Rho → Option Bool} (h : TF X a f) : TFW X (.BoolOp .And [a] pos) f := tw_and1 h
theorem tf_or1 {f : Rho → Option Bool} (h : TF X a f) : TFW X (.BoolOp .Or [a] pos) f := tw_or1 h
theorem tf_and {f g : Rho → Option Bool} {rest : List Expr} (h : TF X a f) (h2 : TFW X (.BoolOp .And (b :: rest) pos) g) : TFW X (.BoolOp .And (a :: b :: rest) pos) (bAnd f g) := (tw_and h h2).imp fW_mono fun ρ K ⟨c, e, k⟩ => by
  obtain ⟨d, e1, e2⟩ := Option.bind_eq_some_iff.mp e
  refine ⟨d, e1, ?_⟩
  cases d with
  | true => exact ⟨c, e2, k⟩
  | false => cases e2; exact k
theorem tf_or {f g : Rho → Option Bool} {rest : List Expr} (h : TF X a f) (h2 : TFW X (.BoolOp .Or (b :: rest) pos) g) : TFW X (.BoolOp .Or (a :: b :: rest) pos) (bOr f g) := (tw_or h h2).imp fW_mono fun ρ K ⟨c, e, k⟩ => by
  obtain ⟨d, e1, e2⟩ := Option.bind_eq_some_iff.mp e
  refine ⟨d, e1, ?_⟩
  cases d with
  | false => exact ⟨c, e2, k⟩
  | true => cases e2; exact k
/-! .. as values: truth values -/
def vB (f : Rho → Option Bool) : Rho → Option D := fun ρ => (f ρ).map PyData.bool
def vAnd (f g : Rho → Option D) : Rho → Option D := fun ρ => (f ρ).bind fun x => (isB x).bind fun b => if b = true then g ρ else some (.bool false)
def vOr (f g : Rho → Option D) : Rho → Option D := fun ρ => (f ρ).bind fun x => (isB x).bind fun b => if b = true then some (.bool true) else g ρ
def vNot (f : Rho → Option D) : Rho → Option D := fun ρ => (f ρ).bind fun x => (isB x).map fun b => .bool (!b)
theorem ef_one {op} {f : Rho → Option D} (h : EF X a f) : EF X (.BoolOp op [a] pos) f := ⟨fW_mono, pe_one h.pe⟩
theorem ef_and {f g : Rho → Option D} {rest : List Expr} (h : EF X a f) (h2 : EF X (.BoolOp .And (b :: rest) pos) g) : EF X (.BoolOp .And (a :: b :: rest) pos) (vAnd f g) :=
  ⟨fW_mono, (pe_and h.pe h2.pe).imp fun σ H Q ⟨B, F, ρ, R, p, e, q⟩ => by
    obtain ⟨x, e1, e⟩ := Option.bind_eq_some_iff.mp e
    obtain ⟨c, e2, e⟩ := Option.bind_eq_some_iff.mp e
    refine ⟨B, F, ρ, R, x, e1, fun F' H' v R' e' d => ?_⟩
    rw [isB_some e2] at d
    refine ⟨c, Dp.inv_bl d, ?_⟩
    cases c with
    | true => exact ⟨B, F', ρ, R', p, e, fun F2 H2 v2 R2 s2 d2 => q F2 H2 v2 R2 (e'.trans s2) d2⟩
    | false => cases e; exact q F' H' _ R' e' (.bl false)⟩
theorem ef_or {f g : Rho → Option D} {rest : List Expr} (h : EF X a f) (h2 : EF X (.BoolOp .Or (b :: rest) pos) g) : EF X (.BoolOp .Or (a :: b :: rest) pos) (vOr f g) :=
  ⟨fW_mono, (pe_or h.pe h2.pe).imp fun σ H Q ⟨B, F, ρ, R, p, e, q⟩ => by
    obtain ⟨x, e1, e⟩ := Option.bind_eq_some_iff.mp e
    obtain ⟨c, e2, e⟩ := Option.bind_eq_some_iff.mp e
    refine ⟨B, F, ρ, R, x, e1, fun F' H' v R' e' d => ?_⟩
    rw [isB_some e2] at d
    refine ⟨c, Dp.inv_bl d, ?_⟩
    cases c with
    | false => exact ⟨B, F', ρ, R', p, e, fun F2 H2 v2 R2 s2 d2 => q F2 H2 v2 R2 (e'.trans s2) d2⟩
    | true => cases e; exact q F' H' _ R' e' (.bl true)⟩
theorem ef_not {f : Rho → Option D} (h : EF X a f) : EF X (.UnaryOp .Not a pos) (vNot f) :=
  ⟨fW_mono, (pe_not h.pe).imp fun σ H Q ⟨B, F, ρ, R, p, e, q⟩ => by
    obtain ⟨x, e1, e⟩ := Option.bind_eq_some_iff.mp e
    obtain ⟨c, e2, rfl⟩ := Option.map_eq_some_iff.mp e
    refine ⟨B, F, ρ, R, x, e1, fun F' H' v R' e' d => ?_⟩
    rw [isB_some e2] at d
    exact ⟨c, Dp.inv_bl d, q F' H' _ R' e' (.bl (!c))⟩⟩
/-! a if t else b -/
def vIf (t : Rho → Option Bool) (f g : Rho → Option D) : Rho → Option D := fun ρ => (t ρ).bind fun b => if b = true then f ρ else g ρ
def wIf (t : TB) (f g : TW) : TW := fun ρ K => t ρ fun b => if b = true then f ρ K else g ρ K
theorem ew_if {t : TB} {f g : TW} (h : TWT X c t) (h1 : EW X a f) (h2 : EW X b g) : EW X (.IfExp c a b pos) (wIf t f g) :=
  ⟨fun ρ K K' i q => h.mono _ _ _ (fun b k => by
    cases b with
    | true => exact h1.mono _ _ _ i k
    | false => exact h2.mono _ _ _ i k) q, (pe_ifExp h.pt h1.pe h2.pe).imp fun σ H Q ⟨B, F, ρ, R, q⟩ => ⟨B, F, ρ, R, h.mono _ _ _ (fun b k F' H' R' e' => by
      cases b with
      | true => exact ⟨B, F', ρ, R', h1.mono _ _ _ (fun p kp F2 H2 v2 R2 s2 d2 => kp F2 H2 v2 R2 (e'.trans s2) d2) k⟩
      | false => exact ⟨B, F', ρ, R', h2.mono _ _ _ (fun p kp F2 H2 v2 R2 s2 d2 => kp F2 H2 v2 R2 (e'.trans s2) d2) k⟩) q⟩⟩
theorem ef_if {t : Rho → Option Bool} {f g : Rho → Option D} (h : TF X c t) (h1 : EF X a f) (h2 : EF X b g) : EF X (.IfExp c a b pos) (vIf t f g) := (ew_if h h1 h2).imp fW_mono fun ρ K ⟨p, e, k⟩ => by
  obtain ⟨d, e1, e2⟩ := Option.bind_eq_some_iff.mp e
  refine ⟨d, e1, ?_⟩
  cases d with
  | true => exact ⟨p, e2, k⟩
  | false => exact ⟨p, e2, k⟩
/-! a < b < c -/
def b3 (g g' : G2) (f1 f2 f3 : Rho → Option D) : Rho → Option D := fun ρ => (f1 ρ).bind fun x => (f2 ρ).bind fun y => (g x y).bind fun r => (isB r).bind fun k => if k = true then (f3 ρ).bind fun z => g' y z else some (.bool false)
theorem ef_chain {op op' : CmpOp} {g g' : G2} {f1 f2 f3 : Rho → Option D} (o : OpG X (compareOp op) g) (o' : OpG X (compareOp op') g') (ha : XF X a f1) (hb : XF X b f2) (hc : XF X c f3)
    (hm : lastMarks [op, op'] [b, c] = false := by with_unfolding_all rfl) : EF X (.Compare a [op, op'] [b, c] pos) (b3 g g' f1 f2 f3) := by
  obtain ⟨r, ho, hr⟩ := o
  obtain ⟨r', ho', hr'⟩ := o'
  refine ⟨fW_mono, (pe_chain ho ho' ha.pe hb.pe hc.pe hm).imp fun σ H Q ⟨B, F, ρ, R, p, e, q⟩ => ?_⟩
  obtain ⟨x, e1, e⟩ := Option.bind_eq_some_iff.mp e
  obtain ⟨y, e2, e⟩ := Option.bind_eq_some_iff.mp e
  obtain ⟨z, e3, e⟩ := Option.bind_eq_some_iff.mp e
  obtain ⟨k, e4, e⟩ := Option.bind_eq_some_iff.mp e
  refine ⟨B, F, ρ, R, x, e1, fun F1 H1 v1 R1 s1 d1 => ⟨B, F1, ρ, R1, y, e2, fun F2 H2 v2 R2 s2 d2 => ?_⟩⟩
  refine hr B F2 H2 σ ρ v1 v2 x y z _ R2 (d1.mono s2) d2 e3 fun F3 H3 v3 R3 s3 d3 => ?_
  rw [isB_some e4] at d3
  refine ⟨k, Dp.inv_bl d3, ?_⟩
  cases k with
  | false => cases e; exact q F3 H3 _ R3 ((s1.trans s2).trans s3) (.bl false)
  | true =>
    obtain ⟨w, e5, e6⟩ := Option.bind_eq_some_iff.mp (show ((f3 ρ).bind fun z => g' y z) = some p from e)
    exact ⟨B, F3, ρ, R3, w, e5, fun F4 H4 v4 R4 s4 d4 => hr' B F4 H4 σ ρ v2 v4 y w p _ R4 (d2.mono (s3.trans s4)) d4 e6 fun F5 H5 v5 R5 s5 d5 => q F5 H5 v5 R5 ((((s1.trans s2).trans s3).trans s4).trans s5) d5⟩
end

/-! ### the operators -/
section
variable {X : Cx}
theorem og_int {f : Value → Value → Sem Value} {C : Int → Int → Prop} {g : Int → Int → V} {gd : G2} (ho : OpR X f (rI C g)) (h : ∀ p q z, gd p q = some z → ∃ i j, p = .int i ∧ q = .int j ∧ C i j ∧ ∀ K F, Dp K F (g i j) z) : OpG X f gd :=
  OpG.of ⟨_, ho, fun B F H σ ρ x y p q z Q R hx hy e k => by
    obtain ⟨i, j, rfl, rfl, c, d⟩ := h p q z e
    exact ⟨i, j, Dp.inv_int hx, Dp.inv_int hy, c, k F H _ R (Same.refl _) (d _ _)⟩⟩
theorem og_int0 {f : Value → Value → Sem Value} {g : Int → Int → V} {gd : G2} (ho : OpR X f (rI0 g)) (h : ∀ p q z, gd p q = some z → ∃ i j, p = .int i ∧ q = .int j ∧ ∀ K F, Dp K F (g i j) z) : OpG X f gd :=
  OpG.of ⟨_, ho, fun B F H σ ρ x y p q z Q R hx hy e k => by
    obtain ⟨i, j, rfl, rfl, d⟩ := h p q z e
    exact ⟨i, j, Dp.inv_int hx, Dp.inv_int hy, k F H _ R (Same.refl _) (d _ _)⟩⟩
def iB (f : Int → Int → Bool) : G2
  | .int i, .int j => some (.bool (f i j))
  | _, _ => none
def iI (f : Int → Int → Int) : G2
  | .int i, .int j => some (.int (f i j))
  | _, _ => none
theorem iB_some {f : Int → Int → Bool} {p q z : D} (h : iB f p q = some z) : ∃ i j, p = .int i ∧ q = .int j ∧ z = .bool (f i j) := by
  unfold iB at h
  split at h
  · cases h; exact ⟨_, _, rfl, rfl, rfl⟩
  · cases h
theorem iI_some {f : Int → Int → Int} {p q z : D} (h : iI f p q = some z) : ∃ i j, p = .int i ∧ q = .int j ∧ z = .int (f i j) := by
  unfold iI at h
  split at h
  · cases h; exact ⟨_, _, rfl, rfl, rfl⟩
  · cases h
def dLt : G2 := iB fun i j => decide (i < j)
def dLe : G2 := iB fun i j => decide (i ≤ j)
def dGt : G2 := iB fun i j => decide (j < i)
def dGe : G2 := iB fun i j => decide (j ≤ i)
theorem og_lt : OpG X (compareOp .Lt) dLt := og_int0 op_lt fun p q z h => by obtain ⟨i, j, rfl, rfl, rfl⟩ := iB_some h; exact ⟨i, j, rfl, rfl, fun _ _ => .bl _⟩
theorem og_le : OpG X (compareOp .LtE) dLe := og_int0 op_le fun p q z h => by obtain ⟨i, j, rfl, rfl, rfl⟩ := iB_some h; exact ⟨i, j, rfl, rfl, fun _ _ => .bl _⟩
theorem og_gt : OpG X (compareOp .Gt) dGt := og_int0 op_gt fun p q z h => by obtain ⟨i, j, rfl, rfl, rfl⟩ := iB_some h; exact ⟨i, j, rfl, rfl, fun _ _ => .bl _⟩
theorem og_ge : OpG X (compareOp .GtE) dGe := og_int0 op_ge fun p q z h => by obtain ⟨i, j, rfl, rfl, rfl⟩ := iB_some h; exact ⟨i, j, rfl, rfl, fun _ _ => .bl _⟩
def dSub : G2 := iI fun i j => i - j
theorem og_sub : OpG X (binaryOp .Sub) dSub := og_int0 op_sub fun p q z h => by obtain ⟨i, j, rfl, rfl, rfl⟩ := iI_some h; exact ⟨i, j, rfl, rfl, fun _ _ => .int _⟩
/-- a // b, a % b, b a small positive number -/
def dFdiv : G2
  | .int i, .int j => if 0 < j ∧ j < 1073741824 then some (.int (i / j)) else none
  | _, _ => none
def dMod : G2
  | .int i, .int j => if 0 < j then some (.int (i % j)) else none
  | _, _ => none
def dMul : G2
  | .int i, .int j => if (-(2 ^ 64) < i ∧ i < 2 ^ 64) ∨ (-(2 ^ 64) < j ∧ j < 2 ^ 64) then some (.int (i * j)) else none
  | _, _ => none
theorem og_fdiv : OpG X (binaryOp .FloorDiv) dFdiv := og_int op_fdiv fun p q z h => by
  unfold dFdiv at h
  split at h
  · split at h
    · cases h; exact ⟨_, _, rfl, rfl, by assumption, fun _ _ => .int _⟩
    · cases h
  · cases h
theorem og_mod : OpG X (binaryOp .Mod) dMod := og_int op_mod fun p q z h => by
  unfold dMod at h
  split at h
  · split at h
    · cases h; exact ⟨_, _, rfl, rfl, by assumption, fun _ _ => .int _⟩
    · cases h
  · cases h
theorem og_mul : OpG X (binaryOp .Mult) dMul := og_int op_mul fun p q z h => by
  unfold dMul at h
  split at h
  · split at h
    · cases h; exact ⟨_, _, rfl, rfl, by assumption, fun _ _ => .int _⟩
    · cases h
  · cases h
/-- data that may be compared -/
def okD (p : D) : Bool := p.plain && decide (p.depth ≤ 64)
def okDs (ps : List D) : Bool := PyData.plainAll ps && decide (PyData.depthAll ps ≤ 64)
def dEq : G2 := fun p q => if okD p = true ∧ okD q = true then some (.bool (PyData.eqv p q)) else none
def dNe : G2 := fun p q => if okD p = true ∧ okD q = true then some (.bool (!PyData.eqv p q)) else none
def rEqP (K : Fg) (n : Bool) : R2 := fun x y H Q => ∃ d e, Dp K H x d ∧ Dp K H y e ∧ okD d = true ∧ okD e = true ∧ Q (.bl (if n = true then !PyData.eqv d e else PyData.eqv d e)) H
theorem okD_iff {p : D} : okD p = true ↔ p.plain = true ∧ p.depth ≤ 64 := by unfold okD; simp
theorem okDs_iff {p : List D} : okDs p = true ↔ PyData.plainAll p = true ∧ PyData.depthAll p ≤ 64 := by unfold okDs; simp
theorem or_eqP (hu : Rm X) : OpR X (compareOp .Eq) (rEqP X.K false) := by
  intro pins s σ H x y v u Q I rx ry h
  obtain ⟨d, e, hd, he, sd, se, q⟩ := h
  obtain ⟨p1, z1⟩ := okD_iff.mp sd
  obtain ⟨p2, z2⟩ := okD_iff.mp se
  obtain ⟨as, r1⟩ := Dp.reads I d x v hd p1 rx
  obtain ⟨bs, r2⟩ := Dp.reads I e y u he p2 ry
  exact SeqAt.eq_plain r1 r2 p1 p2 (by unfold Rm at hu; omega) ⟨.bl _, H, I, rfl, q⟩
theorem or_neP (hu : Rm X) : OpR X (compareOp .NotEq) (rEqP X.K true) := by
  intro pins s σ H x y v u Q I rx ry h
  obtain ⟨d, e, hd, he, sd, se, q⟩ := h
  obtain ⟨p1, z1⟩ := okD_iff.mp sd
  obtain ⟨p2, z2⟩ := okD_iff.mp se
  obtain ⟨as, r1⟩ := Dp.reads I d x v hd p1 rx
  obtain ⟨bs, r2⟩ := Dp.reads I e y u he p2 ry
  exact SeqAt.ne_plain r1 r2 p1 p2 (by unfold Rm at hu; omega) ⟨.bl _, H, I, rfl, q⟩
theorem og_eq (hu : Rm X) : OpG X (compareOp .Eq) dEq := OpG.of ⟨_, or_eqP hu, fun B F H σ ρ x y p q z Q R hx hy e k => by
  unfold dEq at e
  split at e
  · rename_i h; cases e
    exact ⟨p, q, hx, hy, h.1, h.2, k F H _ R (Same.refl _) (.bl _)⟩
  · cases e⟩
theorem og_ne (hu : Rm X) : OpG X (compareOp .NotEq) dNe := OpG.of ⟨_, or_neP hu, fun B F H σ ρ x y p q z Q R hx hy e k => by
  unfold dNe at e
  split at e
  · rename_i h; cases e
    exact ⟨p, q, hx, hy, h.1, h.2, k F H _ R (Same.refl _) (.bl _)⟩
  · cases e⟩
/-- in, not in -/
def items : D → Option (List D)
  | .list xs => some xs
  | .tuple xs => some xs
  | _ => none
theorem items_plain {e : D} {xs : List D} (h : items e = some xs) (hp : PyData.plainAll xs = true) : e.plain = true := by
  unfold items at h
  split at h
  · cases h; simpa [PyData.plain] using hp
  · cases h; simpa [PyData.plain] using hp
  · cases h
def dIn : G2 := fun p q => (items q).bind fun xs => if okD p = true ∧ okDs xs = true then some (.bool (xs.any fun y => PyData.eqv y p)) else none
def dNotIn : G2 := fun p q => (items q).bind fun xs => if okD p = true ∧ okDs xs = true then some (.bool (!xs.any fun y => PyData.eqv y p)) else none
def rInP (K : Fg) (n : Bool) : R2 := fun x y H Q => ∃ d e xs, Dp K H x d ∧ Dp K H y e ∧ items e = some xs ∧ okD d = true ∧ okDs xs = true ∧ Q (.bl (if n = true then !xs.any fun y => PyData.eqv y d else xs.any fun y => PyData.eqv y d)) H
theorem or_inP (hu : Rm X) : OpR X (compareOp .In) (rInP X.K false) := by
  intro pins s σ H x y v u Q I rx ry h
  obtain ⟨d, e, xs, hd, he, hi, sd, se, q⟩ := h
  obtain ⟨p1, z1⟩ := okD_iff.mp sd
  obtain ⟨p2, z2⟩ := okDs_iff.mp se
  obtain ⟨as, r1⟩ := Dp.reads I d x v hd p1 rx
  obtain ⟨bs, r2⟩ := Dp.reads I e y u he (items_plain hi p2) ry
  unfold items at hi
  split at hi
  · cases hi; exact SeqAt.in_list_data r2 r1 p2 p1 (by unfold Rm at hu; omega) ⟨.bl _, H, I, rfl, q⟩
  · cases hi; exact SeqAt.in_tuple_data r2 r1 p2 p1 (by unfold Rm at hu; omega) ⟨.bl _, H, I, rfl, q⟩
  · cases hi
theorem or_notInP (hu : Rm X) : OpR X (compareOp .NotIn) (rInP X.K true) := by
  intro pins s σ H x y v u Q I rx ry h
  obtain ⟨d, e, xs, hd, he, hi, sd, se, q⟩ := h
  obtain ⟨p1, z1⟩ := okD_iff.mp sd
  obtain ⟨p2, z2⟩ := okDs_iff.mp se
  obtain ⟨as, r1⟩ := Dp.reads I d x v hd p1 rx
  obtain ⟨bs, r2⟩ := Dp.reads I e y u he (items_plain hi p2) ry
  unfold items at hi
  split at hi
  · cases hi; exact SeqAt.notIn_list_data r2 r1 p2 p1 (by unfold Rm at hu; omega) ⟨.bl _, H, I, rfl, q⟩
  · cases hi; exact SeqAt.notIn_tuple_data r2 r1 p2 p1 (by unfold Rm at hu; omega) ⟨.bl _, H, I, rfl, q⟩
  · cases hi
theorem og_in (hu : Rm X) : OpG X (compareOp .In) dIn := OpG.of ⟨_, or_inP hu, fun B F H σ ρ x y p q z Q R hx hy e k => by
  obtain ⟨xs, e1, e⟩ := Option.bind_eq_some_iff.mp e
  split at e
  · rename_i h; cases e
    exact ⟨p, q, xs, hx, hy, e1, h.1, h.2, k F H _ R (Same.refl _) (.bl _)⟩
  · cases e⟩
theorem og_notIn (hu : Rm X) : OpG X (compareOp .NotIn) dNotIn := OpG.of ⟨_, or_notInP hu, fun B F H σ ρ x y p q z Q R hx hy e k => by
  obtain ⟨xs, e1, e⟩ := Option.bind_eq_some_iff.mp e
  split at e
  · rename_i h; cases e
    exact ⟨p, q, xs, hx, hy, e1, h.1, h.2, k F H _ R (Same.refl _) (.bl _)⟩
  · cases e⟩
/-- is None, is not None -/
def dIsN : G2
  | .none, .none => some (.bool true)
  | _, .none => some (.bool false)
  | _, _ => none
def dNotN : G2
  | .none, .none => some (.bool false)
  | _, .none => some (.bool true)
  | _, _ => none
theorem dp_non_iff {K : Fg} {F : Hp} {v : V} {p : D} (h : Dp K F v p) : decide (v = .non) = (match p with | .none => true | _ => false) := by
  cases h <;> simp [rqD]
theorem og_isN : OpG X (compareOp .Is) dIsN := OpG.of ⟨_, op_isN, fun B F H σ ρ x y p q z Q R hx hy e k => by
  have hd := dp_non_iff hx
  cases q with
  | none =>
    refine ⟨Dp.inv_non hy, k F H _ R (Same.refl _) ?_⟩
    rw [hd]
    cases p <;> (cases e; exact .bl _)
  | _ => cases p <;> cases e⟩
theorem og_notN : OpG X (compareOp .IsNot) dNotN := OpG.of ⟨_, op_notN, fun B F H σ ρ x y p q z Q R hx hy e k => by
  have hd := dp_non_iff hx
  cases q with
  | none =>
    refine ⟨Dp.inv_non hy, k F H _ R (Same.refl _) ?_⟩
    rw [hd]
    cases p <;> (cases e; exact .bl _)
  | _ => cases p <;> cases e⟩
end
end L2.P

set_option Elab.async false
set_option linter.all false
set_option maxRecDepth 100000
set_option maxHeartbeats 4000000
/-! PL3: arguments, calls of built-ins, subscripts, displays. -/
namespace L2.P
open PySem PySem.Spec PyProof.Rows L2

/-! ### arguments -/
inductive PkAll (K : Fg) (F : Hp) (σ : St) (ρ : Rho) : List V → List D → Prop
  | nil : PkAll K F σ ρ [] []
  | cons {v : V} {vs : List V} {p : D} {ps : List D} : Pk K F σ ρ v p → PkAll K F σ ρ vs ps → PkAll K F σ ρ (v :: vs) (p :: ps)
theorem PkAll.mono {K : Fg} {F F' : Hp} {σ : St} {ρ : Rho} (e : Same F F') : ∀ {vs : List V} {ps : List D}, PkAll K F σ ρ vs ps → PkAll K F' σ ρ vs ps
  | _, _, .nil => .nil
  | _, _, .cons a b => .cons (a.mono e) (PkAll.mono e b)
theorem PkAll.dp {K : Fg} {B : Bs} {F H : Hp} {σ : St} {ρ : Rho} (R : Rs K B F H σ ρ) : ∀ {vs : List V} {ps : List D}, PkAll K F σ ρ vs ps → DpAll K H vs ps
  | _, _, .nil => .nil
  | _, _, .cons a b => .cons (a.dp (Same.refl _) R) (PkAll.dp R b)
theorem PkAll.of {K : Fg} {F : Hp} {σ : St} {ρ : Rho} : ∀ {vs : List V} {ps : List D}, DpAll K F vs ps → PkAll K F σ ρ vs ps
  | _, _, .nil => .nil
  | _, _, .cons a b => .cons (.inl a) (PkAll.of b)
abbrev TL := Rho → (List D → Prop) → Prop
def tXA (K : Fg) (T : TL) : TA := fun σ H Q => ∃ B F ρ, Rs K B F H σ ρ ∧ T ρ (fun ps => ∀ F' H' vs, Rs K B F' H' σ ρ → Same F F' → PkAll K F' σ ρ vs ps → Q vs H')
def tEA (K : Fg) (T : TL) : TA := fun σ H Q => ∃ B F ρ, Rs K B F H σ ρ ∧ T ρ (fun ps => ∀ F' H' vs, Rs K B F' H' σ ρ → Same F F' → DpAll K F' vs ps → Q vs H')
structure XA (X : Cx) (es : List Expr) (T : TL) : Prop where
  mono : ∀ ρ K K', (∀ p, K p → K' p) → T ρ K → T ρ K'
  pa : PA X es (tXA X.K T)
structure EA (X : Cx) (es : List Expr) (T : TL) : Prop where
  mono : ∀ ρ K K', (∀ p, K p → K' p) → T ρ K → T ρ K'
  pa : PA X es (tEA X.K T)
abbrev XAF (X : Cx) (es : List Expr) (f : Rho → Option (List D)) : Prop := XA X es (fW f)
abbrev EAF (X : Cx) (es : List Expr) (f : Rho → Option (List D)) : Prop := EA X es (fW f)
def aNil : Rho → Option (List D) := fun _ => some []
def aCons (f : Rho → Option D) (g : Rho → Option (List D)) : Rho → Option (List D) := fun ρ => (f ρ).bind fun x => (g ρ).map fun xs => x :: xs
def wNil : TL := fun _ K => K []
def wCons (T : TW) (U : TL) : TL := fun ρ K => T ρ fun x => U ρ fun xs => K (x :: xs)
section
variable {X : Cx} {e : Expr} {es : List Expr} {pos : Pos}
theorem PA.imp {es : List Expr} {t t' : TA} (h : PA X es t) (k : ∀ σ H Q, t' σ H Q → t σ H Q) : PA X es t' := ⟨fun p pins s σ H Q I hw => h.run p pins s σ H Q I (k _ _ _ hw)⟩
theorem XA.imp {T T' : TL} (h : XA X es T) (m : ∀ ρ K K', (∀ p, K p → K' p) → T' ρ K → T' ρ K') (k : ∀ ρ K, T' ρ K → T ρ K) : XA X es T' := ⟨m, PA.imp h.pa fun _ _ _ ⟨B, F, ρ, R, q⟩ => ⟨B, F, ρ, R, k _ _ q⟩⟩
theorem EA.imp {T T' : TL} (h : EA X es T) (m : ∀ ρ K K', (∀ p, K p → K' p) → T' ρ K → T' ρ K') (k : ∀ ρ K, T' ρ K → T ρ K) : EA X es T' := ⟨m, PA.imp h.pa fun _ _ _ ⟨B, F, ρ, R, q⟩ => ⟨B, F, ρ, R, k _ _ q⟩⟩
theorem xa_nilw : XA X [] wNil := ⟨fun _ _ _ h q => h _ q, PA.imp pa_nil fun σ H Q ⟨B, F, ρ, R, q⟩ => q F H [] R (Same.refl _) .nil⟩
theorem ea_nilw : EA X [] wNil := ⟨fun _ _ _ h q => h _ q, PA.imp pa_nil fun σ H Q ⟨B, F, ρ, R, q⟩ => q F H [] R (Same.refl _) .nil⟩
theorem xa_consw {T : TW} {U : TL} (ha : XW X e T) (hr : XA X es U) (hs : starEach (e :: es) X.env = (false, eval e X.env) :: starEach es X.env := by rfl) : XA X (e :: es) (wCons T U) :=
  ⟨fun ρ K K' h q => ha.mono _ _ _ (fun x => hr.mono _ _ _ fun xs => h _) q, PA.imp (pa_cons ha.pe hr.pa hs) fun σ H Q ⟨B, F, ρ, R, q⟩ => ⟨B, F, ρ, R, ha.mono _ _ _ (fun x k F1 H1 v R1 e1 d1 =>
    ⟨B, F1, ρ, R1, hr.mono _ _ _ (fun xs k2 F2 H2 vs R2 e2 d2 => k2 F2 H2 (v :: vs) R2 (e1.trans e2) (.cons (d1.mono e2) d2)) k⟩) q⟩⟩
theorem ea_consw {T : TW} {U : TL} (ha : EW X e T) (hr : EA X es U) (hs : starEach (e :: es) X.env = (false, eval e X.env) :: starEach es X.env := by rfl) : EA X (e :: es) (wCons T U) :=
  ⟨fun ρ K K' h q => ha.mono _ _ _ (fun x => hr.mono _ _ _ fun xs => h _) q, PA.imp (pa_cons ha.pe hr.pa hs) fun σ H Q ⟨B, F, ρ, R, q⟩ => ⟨B, F, ρ, R, ha.mono _ _ _ (fun x k F1 H1 v R1 e1 d1 =>
    ⟨B, F1, ρ, R1, hr.mono _ _ _ (fun xs k2 F2 H2 vs R2 e2 d2 => k2 F2 H2 (v :: vs) R2 (e1.trans e2) (.cons (d1.same e2) d2)) k⟩) q⟩⟩
theorem aCons_w {f : Rho → Option D} {g : Rho → Option (List D)} (ρ : Rho) (K : List D → Prop) (h : fW (aCons f g) ρ K) : wCons (fW f) (fW g) ρ K := by
  obtain ⟨z, e, k⟩ := h
  obtain ⟨x, e1, e⟩ := Option.bind_eq_some_iff.mp e
  obtain ⟨xs, e2, rfl⟩ := Option.map_eq_some_iff.mp e
  exact ⟨x, e1, xs, e2, k⟩
theorem xa_nil : XAF X [] aNil := xa_nilw.imp fW_mono fun ρ K ⟨p, e, k⟩ => by cases e; exact k
theorem ea_nil : EAF X [] aNil := ea_nilw.imp fW_mono fun ρ K ⟨p, e, k⟩ => by cases e; exact k
theorem xa_cons {f : Rho → Option D} {g : Rho → Option (List D)} (ha : XF X e f) (hr : XAF X es g) (hs : starEach (e :: es) X.env = (false, eval e X.env) :: starEach es X.env := by rfl) : XAF X (e :: es) (aCons f g) := (xa_consw ha hr hs).imp fW_mono aCons_w
theorem ea_cons {f : Rho → Option D} {g : Rho → Option (List D)} (ha : EF X e f) (hr : EAF X es g) (hs : starEach (e :: es) X.env = (false, eval e X.env) :: starEach es X.env := by rfl) : EAF X (e :: es) (aCons f g) := (ea_consw ha hr hs).imp fW_mono aCons_w
end

/-! ### built-ins called -/
abbrev GA := List D → Option D
/-- a call does what g says of data -/
def CallG (X : Cx) (f : Value) (g : GA) : Prop :=
  ∃ r : List V → Hp → VK → Prop, CallR X f r ∧ ∀ (B : Bs) (F H : Hp) (σ : St) (ρ : Rho) (vs : List V) (ps : List D) (z : D) (Q : VK), Rs X.K B F H σ ρ → PkAll X.K F σ ρ vs ps → g ps = some z →
    (∀ F' H' v, Rs X.K B F' H' σ ρ → Same F F' → Dp X.K F' v z → Q v H') → r vs H Q
/-- .. makes a new list -/
def CallN (X : Cx) (f : Value) (g : List D → Option (List D)) : Prop :=
  ∃ r : List V → Hp → VK → Prop, CallR X f r ∧ ∀ (B : Bs) (F H : Hp) (σ : St) (ρ : Rho) (vs : List V) (ps zs : List D) (Q : VK), Rs X.K B F H σ ρ → PkAll X.K F σ ρ vs ps → g ps = some zs →
    (∀ F' H' a xs, Rs X.K B F' H' σ ρ → Same F F' → H' a = none → DpAll X.K F' xs zs → Q (.ref a) (upd H' a (.lst xs))) → r vs H Q
def aOf {α : Type} (g : List D → Option α) (f : Rho → Option (List D)) : Rho → Option α := fun ρ => (f ρ).bind g
def wOf {α : Type} (g : List D → Option α) (T : TL) : Rho → (α → Prop) → Prop := fun ρ K => T ρ fun ps => ∃ z, g ps = some z ∧ K z
theorem wOf_mono {α : Type} {g : List D → Option α} {T : TL} (m : ∀ ρ K K', (∀ p, K p → K' p) → T ρ K → T ρ K') : ∀ ρ K K', (∀ p, K p → K' p) → wOf g T ρ K → wOf g T ρ K' := fun ρ K K' h q => m _ _ _ (fun p ⟨b, e, k⟩ => ⟨b, e, h b k⟩) q
theorem aOf_w {α : Type} {g : List D → Option α} {f : Rho → Option (List D)} (ρ : Rho) (K : α → Prop) (h : fW (aOf g f) ρ K) : wOf g (fW f) ρ K := by
  obtain ⟨z, e, k⟩ := h
  obtain ⟨x, e1, e⟩ := Option.bind_eq_some_iff.mp e
  exact ⟨x, e1, z, e, k⟩
section
variable {X : Cx} {x : Str} {p pos : Pos} {e : Expr} {es : List Expr} {id T : String}
theorem call_ok {g : GA} {U : TL} (m : ∀ ρ K K', (∀ p, K p → K' p) → U ρ K → U ρ K') {r : List V → Hp → VK → Prop}
    (hr : ∀ (B : Bs) (F H : Hp) (σ : St) (ρ : Rho) (vs : List V) (ps : List D) (z : D) (Q : VK), Rs X.K B F H σ ρ → PkAll X.K F σ ρ vs ps → g ps = some z → (∀ F' H' v, Rs X.K B F' H' σ ρ → Same F F' → Dp X.K F' v z → Q v H') → r vs H Q)
    {σ : St} {H : Hp} {Q : VK} (h : tW X.K (wOf g U) σ H Q) : tCB r (tXA X.K U) σ H Q := by
  obtain ⟨B, F, ρ, R, q⟩ := h
  exact ⟨B, F, ρ, R, m _ _ _ (fun ps ⟨z, ez, k⟩ F1 H1 vs R1 e1 d1 => hr B F1 H1 σ ρ vs ps z Q R1 d1 ez fun F2 H2 v R2 e2 d2 => k F2 H2 v R2 (e1.trans e2) d2) q⟩
theorem callN_ok {g : List D → Option (List D)} {U : TL} (m : ∀ ρ K K', (∀ p, K p → K' p) → U ρ K → U ρ K') {r : List V → Hp → VK → Prop}
    (hr : ∀ (B : Bs) (F H : Hp) (σ : St) (ρ : Rho) (vs : List V) (ps zs : List D) (Q : VK), Rs X.K B F H σ ρ → PkAll X.K F σ ρ vs ps → g ps = some zs → (∀ F' H' a xs, Rs X.K B F' H' σ ρ → Same F F' → H' a = none → DpAll X.K F' xs zs → Q (.ref a) (upd H' a (.lst xs))) → r vs H Q)
    {σ : St} {H : Hp} {Q : VK} (h : tN X.K (wOf g U) σ H Q) : tCB r (tXA X.K U) σ H Q := by
  obtain ⟨B, F, ρ, R, q⟩ := h
  exact ⟨B, F, ρ, R, m _ _ _ (fun ps ⟨z, ez, k⟩ F1 H1 vs R1 e1 d1 => hr B F1 H1 σ ρ vs ps z Q R1 d1 ez fun F2 H2 a xs R2 e2 n d2 => k F2 H2 a xs R2 (e1.trans e2) n d2) q⟩
/-- f(e, ..), f a built-in function; a built-in class -/
theorem ew_callB {g : GA} {U : TL} (c : CallG X (.builtin id) g) (ha : XA X (e :: es) U) (hg : Gl X x) (hm : X.mg x = none) (hv : bootBuiltins x = some (.builtin id)) (hn : x ≠ "__name__" := by decide) (hdb : (x == ("__debug__" : Str)) = false := by decide)
    (he : starEach (e :: es) X.env = (false, eval e X.env) :: starEach es X.env := by rfl) (hpl : (backTo pos (starEach es X.env)).any (·.1) = false := by rfl) : EW X (.Call (.Name x p) (e :: es) [] pos) (wOf g U) := by
  obtain ⟨r, hc, hr⟩ := c
  exact ⟨wOf_mono ha.mono, (pe_callB hc hg hm hv ha.pa hn hdb he hpl).imp fun _ _ _ h => call_ok ha.mono hr h⟩
theorem ew_callT {g : GA} {U : TL} (c : CallG X (.type T) g) (ha : XA X (e :: es) U) (hg : Gl X x) (hm : X.mg x = none) (hv : bootBuiltins x = some (.type T)) (hn : x ≠ "__name__" := by decide) (hdb : (x == ("__debug__" : Str)) = false := by decide)
    (he : starEach (e :: es) X.env = (false, eval e X.env) :: starEach es X.env := by rfl) (hpl : (backTo pos (starEach es X.env)).any (·.1) = false := by rfl) : EW X (.Call (.Name x p) (e :: es) [] pos) (wOf g U) := by
  obtain ⟨r, hc, hr⟩ := c
  exact ⟨wOf_mono ha.mono, (pe_callTy hc hg hm hv ha.pa hn hdb he hpl).imp fun _ _ _ h => call_ok ha.mono hr h⟩
theorem nw_callB {g : List D → Option (List D)} {U : TL} (c : CallN X (.builtin id) g) (ha : XA X (e :: es) U) (hg : Gl X x) (hm : X.mg x = none) (hv : bootBuiltins x = some (.builtin id)) (hn : x ≠ "__name__" := by decide) (hdb : (x == ("__debug__" : Str)) = false := by decide)
    (he : starEach (e :: es) X.env = (false, eval e X.env) :: starEach es X.env := by rfl) (hpl : (backTo pos (starEach es X.env)).any (·.1) = false := by rfl) : NW X (.Call (.Name x p) (e :: es) [] pos) (wOf g U) := by
  obtain ⟨r, hc, hr⟩ := c
  exact ⟨wOf_mono ha.mono, (pe_callB hc hg hm hv ha.pa hn hdb he hpl).imp fun _ _ _ h => callN_ok ha.mono hr h⟩
theorem nw_callT {g : List D → Option (List D)} {U : TL} (c : CallN X (.type T) g) (ha : XA X (e :: es) U) (hg : Gl X x) (hm : X.mg x = none) (hv : bootBuiltins x = some (.type T)) (hn : x ≠ "__name__" := by decide) (hdb : (x == ("__debug__" : Str)) = false := by decide)
    (he : starEach (e :: es) X.env = (false, eval e X.env) :: starEach es X.env := by rfl) (hpl : (backTo pos (starEach es X.env)).any (·.1) = false := by rfl) : NW X (.Call (.Name x p) (e :: es) [] pos) (wOf g U) := by
  obtain ⟨r, hc, hr⟩ := c
  exact ⟨wOf_mono ha.mono, (pe_callTy hc hg hm hv ha.pa hn hdb he hpl).imp fun _ _ _ h => callN_ok ha.mono hr h⟩
theorem EW.f {g : GA} {f : Rho → Option (List D)} {e : Expr} (h : EW X e (wOf g (fW f))) : EF X e (aOf g f) := h.imp fW_mono aOf_w
theorem NW.f {g : List D → Option (List D)} {f : Rho → Option (List D)} {e : Expr} (h : NW X e (wOf g (fW f))) : NF X e (aOf g f) := h.imp fW_mono aOf_w
end

/-! ### lists of intsD, of truth values -/
def intsD : List D → Option (List Int)
  | [] => some []
  | .int i :: r => (intsD r).map fun ns => i :: ns
  | _ :: _ => none
def boolsD : List D → Option (List Bool)
  | [] => some []
  | .bool i :: r => (boolsD r).map fun ns => i :: ns
  | _ :: _ => none
theorem intsD_some : ∀ {ps : List D} {ns : List Int}, intsD ps = some ns → ps = ns.map PyData.int
  | [], _, h => by cases h; rfl
  | .int i :: r, _, h => by
    obtain ⟨ns, e, rfl⟩ := Option.map_eq_some_iff.mp (show (intsD r).map _ = _ from h)
    rw [intsD_some e]
    rfl
  | .none :: _, _, h => by cases h
  | .bool _ :: _, _, h => by cases h
  | .str _ :: _, _, h => by cases h
  | .list _ :: _, _, h => by cases h
  | .tuple _ :: _, _, h => by cases h
  | .dict _ :: _, _, h => by cases h
theorem boolsD_some : ∀ {ps : List D} {ns : List Bool}, boolsD ps = some ns → ps = ns.map PyData.bool
  | [], _, h => by cases h; rfl
  | .bool i :: r, _, h => by
    obtain ⟨ns, e, rfl⟩ := Option.map_eq_some_iff.mp (show (boolsD r).map _ = _ from h)
    rw [boolsD_some e]
    rfl
  | .none :: _, _, h => by cases h
  | .int _ :: _, _, h => by cases h
  | .str _ :: _, _, h => by cases h
  | .list _ :: _, _, h => by cases h
  | .tuple _ :: _, _, h => by cases h
  | .dict _ :: _, _, h => by cases h
@[simp] theorem intsD_map (ns : List Int) : intsD (ns.map PyData.int) = some ns := by
  induction ns with
  | nil => rfl
  | cons n ns ih => rw [List.map_cons]; show (intsD (ns.map PyData.int)).map _ = _; rw [ih]; rfl
@[simp] theorem boolsD_map (ns : List Bool) : boolsD (ns.map PyData.bool) = some ns := by
  induction ns with
  | nil => rfl
  | cons n ns ih => rw [List.map_cons]; show (boolsD (ns.map PyData.bool)).map _ = _; rw [ih]; rfl

/-! ### the built-ins -/
section
variable {X : Cx}
theorem dp1 {K : Fg} {F : Hp} {vs : List V} {p : D} (h : DpAll K F vs [p]) : ∃ v, vs = [v] ∧ Dp K F v p := by
  obtain ⟨v, us, rfl, d, t⟩ := DpAll.uncons h
  rw [DpAll.unnil t]
  exact ⟨v, rfl, d⟩
theorem dp2 {K : Fg} {F : Hp} {vs : List V} {p q : D} (h : DpAll K F vs [p, q]) : ∃ v u, vs = [v, u] ∧ Dp K F v p ∧ Dp K F u q := by
  obtain ⟨v, us, rfl, d, t⟩ := DpAll.uncons h
  obtain ⟨u, rfl, d2⟩ := dp1 t
  exact ⟨v, u, rfl, d, d2⟩
theorem pk1 {K : Fg} {F : Hp} {σ : St} {ρ : Rho} {vs : List V} {p : D} (h : PkAll K F σ ρ vs [p]) : ∃ v, vs = [v] ∧ Pk K F σ ρ v p := by
  cases h with
  | cons a b => cases b; exact ⟨_, rfl, a⟩
/-- the items of what is read at once are frozen -/
theorem pk_items {K : Fg} {B : Bs} {F H : Hp} {σ : St} {ρ : Rho} {v : V} {p : D} {ps : List D} (R : Rs K B F H σ ρ) (h : Pk K F σ ρ v p) (e : items p = some ps) : ∃ a xs, v = .ref a ∧ DpAll K F xs ps ∧ ((p = .list ps ∧ SqL K H a xs) ∨ (p = .tuple ps ∧ SqT K F a xs)) := by
  rcases h with h | ⟨i, qs, h1, h2, rfl⟩ | ⟨i, t, kvs, h1, h2, rfl⟩
  · unfold items at e
    split at e
    · cases e
      obtain ⟨a, xs, rfl, s, r⟩ := Dp.inv_lst h
      exact ⟨a, xs, rfl, r, .inl ⟨rfl, sqL_same R.sub s⟩⟩
    · cases e
      obtain ⟨a, xs, rfl, s, r⟩ := Dp.inv_tup h
      exact ⟨a, xs, rfl, r, .inr ⟨rfl, s⟩⟩
    · cases e
  · cases e
    have q := R.at_ i _ h1
    rw [h2] at q
    cases q with
    | ol f h0 h3 r => exact ⟨_, _, rfl, r, .inl ⟨rfl, .inl (.inl h3)⟩⟩
  · cases e
theorem pk_tup {K : Fg} {F : Hp} {σ : St} {ρ : Rho} {v : V} {ps : List D} (h : Pk K F σ ρ v (.tuple ps)) : Dp K F v (.tuple ps) := by
  rcases h with h | ⟨_, _, _, _, z⟩ | ⟨_, _, _, _, _, z⟩
  · exact h
  · cases z
  · cases z
theorem sq_of {K : Fg} {F H : Hp} {a : Addr} {xs : List V} {p : D} {ps : List D} (s : Same F H) (h : (p = .list ps ∧ SqL K H a xs) ∨ (p = .tuple ps ∧ SqT K F a xs)) : SqL K H a xs ∨ SqT K H a xs := by
  rcases h with ⟨_, h⟩ | ⟨_, h⟩
  · exact .inl h
  · exact .inr (sqT_same s h)
def gLen : GA
  | [.list xs] => some (.int xs.length)
  | [.tuple xs] => some (.int xs.length)
  | [.str z] => if z.length ≤ sizeLine then some (.int z.length) else none
  | _ => none
theorem cg_len : CallG X (.builtin "len") gLen := ⟨_, CallR.or call_len_seq call_len_str, fun B F H σ ρ vs ps z Q R d e k => by
  unfold gLen at e
  split at e
  · cases e
    obtain ⟨v, rfl, h⟩ := pk1 d
    obtain ⟨a, xs, rfl, r, q⟩ := pk_items R h rfl
    exact .inl ⟨a, xs, rfl, sq_of R.sub q, by rw [r.length]; exact k F H _ R (Same.refl _) (.int _)⟩
  · cases e
    obtain ⟨v, rfl, h⟩ := pk1 d
    obtain ⟨a, xs, rfl, r, q⟩ := pk_items R h rfl
    exact .inl ⟨a, xs, rfl, sq_of R.sub q, by rw [r.length]; exact k F H _ R (Same.refl _) (.int _)⟩
  · split at e
    · rename_i hz
      cases e
      obtain ⟨v, rfl, h⟩ := dp1 (d.dp R)
      exact .inr ⟨_, by rw [Dp.inv_str h], hz, k F H _ R (Same.refl _) (.int _)⟩
    · cases e
  · cases e⟩
def gTup : GA
  | [.list xs] => some (.tuple xs)
  | [.tuple xs] => some (.tuple xs)
  | _ => none
theorem cg_tuple : CallG X (.type "tuple") gTup := ⟨_, call_tuple_of, fun B F H σ ρ vs ps z Q R d e k => by
  unfold gTup at e
  split at e
  · cases e
    obtain ⟨v, rfl, h⟩ := pk1 d
    obtain ⟨a, xs, rfl, r, q⟩ := pk_items R h rfl
    rcases q with ⟨_, q⟩ | ⟨q, _⟩
    · refine ⟨a, xs, rfl, .inl ⟨q, fun l hl => ?_⟩⟩
      have n := R.sub.free hl
      exact k (upd F l (.tup xs)) _ _ (R.grow hl) (same_upd n) (.tup upd_same (r.same (same_upd n)))
    · cases q
  · cases e
    obtain ⟨v, rfl, h⟩ := pk1 d
    have d := pk_tup h
    obtain ⟨a, xs, rfl, q, r⟩ := Dp.inv_tup d
    exact ⟨a, xs, rfl, .inr ⟨sqT_same R.sub q, k F H _ R (Same.refl _) d⟩⟩
  · cases e⟩
def gLst : List D → Option (List D)
  | [p] => items p
  | _ => none
theorem cn_list : CallN X (.type "list") gLst := ⟨_, call_list_of, fun B F H σ ρ vs ps zs Q R d e k => by
  unfold gLst at e
  split at e
  · obtain ⟨v, rfl, h⟩ := pk1 d
    obtain ⟨a, xs, rfl, r, q⟩ := pk_items R h e
    exact ⟨a, xs, rfl, sq_of R.sub q, fun l hl => k F H l xs R (Same.refl _) hl r⟩
  · cases e⟩
def gAbs : GA
  | [.int i] => some (.int (if i < 0 then -i else i))
  | _ => none
theorem cg_abs : CallG X (.builtin "abs") gAbs := ⟨_, call_abs, fun B F H σ ρ vs ps z Q R d e k => by
  unfold gAbs at e
  split at e
  · cases e
    obtain ⟨v, rfl, h⟩ := dp1 (d.dp R)
    exact ⟨_, by rw [Dp.inv_int h], k F H _ R (Same.refl _) (.int _)⟩
  · cases e⟩
def gInt : GA
  | [.int i] => some (.int i)
  | [.bool b] => some (.int (if b then 1 else 0))
  | _ => none
theorem cg_int : CallG X (.type "int") gInt := ⟨_, call_int1, fun B F H σ ρ vs ps z Q R d e k => by
  unfold gInt at e
  split at e
  · cases e
    obtain ⟨v, rfl, h⟩ := dp1 (d.dp R)
    exact .inl ⟨_, by rw [Dp.inv_int h], k F H _ R (Same.refl _) (.int _)⟩
  · cases e
    obtain ⟨v, rfl, h⟩ := dp1 (d.dp R)
    exact .inr ⟨_, by rw [Dp.inv_bl h], k F H _ R (Same.refl _) (.int _)⟩
  · cases e⟩
def gAny : GA
  | [.list xs] => (boolsD xs).map fun bs => .bool (bs.any id)
  | _ => none
def gAll : GA
  | [.list xs] => (boolsD xs).map fun bs => .bool (bs.all id)
  | _ => none
def gSum : GA
  | [.list xs] => (intsD xs).map fun ns => .int ns.sum
  | _ => none
theorem cg_any (hc : X.calm = true) : CallG X (.builtin "any") gAny := ⟨_, cr_any hc, fun B F H σ ρ vs ps z Q R d e k => by
  unfold gAny at e
  split at e
  · obtain ⟨bs, e1, rfl⟩ := Option.map_eq_some_iff.mp e
    obtain ⟨v, rfl, h⟩ := dp1 (d.dp R)
    rw [boolsD_some e1] at h
    obtain ⟨a, xs, rfl, s, r⟩ := Dp.inv_lst h
    exact ⟨a, bs, rfl, by rw [dpAll_bls bs r] at s; exact s, k F H _ R (Same.refl _) (.bl _)⟩
  · cases e⟩
theorem cg_all (hc : X.calm = true) : CallG X (.builtin "all") gAll := ⟨_, cr_all hc, fun B F H σ ρ vs ps z Q R d e k => by
  unfold gAll at e
  split at e
  · obtain ⟨bs, e1, rfl⟩ := Option.map_eq_some_iff.mp e
    obtain ⟨v, rfl, h⟩ := dp1 (d.dp R)
    rw [boolsD_some e1] at h
    obtain ⟨a, xs, rfl, s, r⟩ := Dp.inv_lst h
    exact ⟨a, bs, rfl, by rw [dpAll_bls bs r] at s; exact s, k F H _ R (Same.refl _) (.bl _)⟩
  · cases e⟩
theorem cg_sum (hc : X.calm = true) : CallG X (.builtin "sum") gSum := ⟨_, cr_sum hc, fun B F H σ ρ vs ps z Q R d e k => by
  unfold gSum at e
  split at e
  · obtain ⟨bs, e1, rfl⟩ := Option.map_eq_some_iff.mp e
    obtain ⟨v, rfl, h⟩ := dp1 (d.dp R)
    rw [intsD_some e1] at h
    obtain ⟨a, xs, rfl, s, r⟩ := Dp.inv_lst h
    exact ⟨a, bs, rfl, by rw [dpAll_ints bs r] at s; exact s, k F H _ R (Same.refl _) (.int _)⟩
  · cases e⟩
/-! isinstance -/
theorem tyL {K : Fg} {H : Hp} {a : Addr} {xs : List V} (h : SqL K H a xs) : TyX K H (.ref a) (.type "list") := by
  rcases h with (h | ⟨o, h⟩) | ⟨o, its, n, h, hc, _⟩
  · exact .base (.lst h)
  · exact .base (.frz h)
  · exact .kList h hc
theorem tyT {K : Fg} {H : Hp} {a : Addr} {xs : List V} (h : SqT K H a xs) : TyX K H (.ref a) (.type "tuple") := by
  rcases h with (h | ⟨o, h⟩) | ⟨o, its, n, h, hc, _⟩
  · exact .base (.tup h)
  · exact .fTuple h
  · exact .kTuple h hc
def tyD : List (D × D) → String
  | [(.int _, .dict [(.none, .none)]), _] => "tuple"
  | _ => "dict"
theorem tyD_or (kvs : List (D × D)) : tyD kvs = "tuple" ∨ tyD kvs = "dict" := by
  unfold tyD
  split
  · exact .inl rfl
  · exact .inr rfl
def tyN : D → String
  | .none => "NoneType"
  | .bool _ => "bool"
  | .int _ => "int"
  | .str _ => "str"
  | .list _ => "list"
  | .tuple _ => "tuple"
  | .dict kvs => tyD kvs
theorem ty_of {K : Fg} {H : Hp} {v : V} {p : D} (h : Dp K H v p) : TyX K H v (.type (tyN p)) := by
  cases h with
  | non => exact .base .non
  | bl b => exact .base (.bl b)
  | int b => exact .base (.int b)
  | str b => exact .base (.str b)
  | lst s _ => exact tyL s
  | tup s _ => exact tyT (.inl (.inl s))
  | tupK a b c d f _ _ => exact tyT (.inr ⟨_, _, _, a, b, c, d, f⟩)
  | dk s r =>
    cases r with
    | nil => exact .base (.dK s)
    | cons d r =>
      rename_i k _ p _ kvs
      have : tyN (.dict ((.int k, p) :: kvs)) = "dict" := by
        show tyD _ = _
        unfold tyD
        split
        · rename_i h
          cases h
          cases d with
          | dk _ r => cases r
          | dt _ r => cases r
        · rfl
      rw [this]
      exact .base (.dK s)
  | dt s r =>
    cases r with
    | nil => exact .base (.dT s)
    | cons d r => exact .base (.dT s)
  | q a b c d f => exact tyT (.inr ⟨_, _, _, a, b, c, d, f⟩)
/-- isinstance(x, T), T a built-in class's name -/
def isiB (t T : String) : Bool := t == T || (t == "bool" && T == "int")
def gIsi (T : String) : D → D := fun p => .bool (isiB (tyN p) T)
theorem kit_isi (T : String) (h : T = "int" ∨ T = "bool" ∨ T = "str" ∨ T = "list" ∨ T = "tuple") (p : D) : kitB (tyN p) T = some (isiB (tyN p) T) := by
  have key : tyN p ∈ ["NoneType", "bool", "int", "str", "list", "tuple", "dict"] := by
    cases p with
    | dict kvs => rcases tyD_or kvs with e | e <;> (show tyD kvs ∈ _; rw [e]; decide)
    | _ => simp [tyN]
  generalize tyN p = t at key
  have all : (["NoneType", "bool", "int", "str", "list", "tuple", "dict"].all fun t => ["int", "bool", "str", "list", "tuple"].all fun T => kitB t T == some (isiB t T)) = true := by decide +kernel
  have hT : T ∈ ["int", "bool", "str", "list", "tuple"] := by rcases h with rfl | rfl | rfl | rfl | rfl <;> decide
  exact eq_of_beq (List.all_eq_true.mp (List.all_eq_true.mp all t key) T hT)
end

/-! ### list + list, tuple + tuple, text + text -/
section
variable {X : Cx}
def rCatG (K : Fg) : R2 := fun x y H Q => ∃ l b xs zs, x = .ref l ∧ y = .ref b ∧ SqL K H l xs ∧ SqL K H b zs ∧ xs.length + zs.length ≤ sizeLine ∧ ∀ p, H p = none → Q (.ref p) (upd H p (.lst (xs ++ zs)))
theorem or_catL : OpR X (binaryOp .Add) (rCatG X.K) := by
  intro pins s σ H x y v u Q I rx ry h
  obtain ⟨l, b, xs, zs, rfl, rfl, hH, hB, hz, q⟩ := h
  cases rx
  cases ry
  obtain ⟨its, r, ⟨o1, n1, e1, c1, d1, f1⟩, _⟩ := I.list hH
  obtain ⟨its2, r2, ⟨o2, n2, e2, c2, d2, f2⟩, _⟩ := I.list hB
  obtain ⟨cls, dd, data, sl⟩ := o1
  obtain ⟨cls2, dd2, data2, sl2⟩ := o2
  simp only at c1 d1 f1 c2 d2 f2
  subst c1 d1 f1 c2 d2 f2
  have hl := r.length
  have hl2 := r2.length
  have ea : its.toArray ++ its2.toArray = (its ++ its2).toArray := by simp
  refine concat_meets ⟨_, e1, rfl⟩ ⟨_, e2, rfl⟩ noFill_list_add seq_list_add PySem.F.slot_list_add PySem.F.entry_list_add (PySem.F.args_list_add_2 _ _) (list_addW l b its.toArray its2.toArray n1 n2 _ _ sl sl2 (by simp only [List.size_toArray]; omega)) ⟨e1, e2, ?_⟩
  rw [ea]
  exact ⟨.ref _, _, I.lnew (t' := s.toks) (r.append r2) (by rw [List.length_append]; omega), rfl, q _ I.fresh⟩
end
end L2.P

set_option Elab.async false
set_option linter.all false
set_option maxRecDepth 100000
set_option maxHeartbeats 4000000
/-! PL4: walks, targets, comprehensions. -/
namespace L2.P
open PySem PySem.Spec PyProof.Rows L2

/-! ### pins: an object that is in no slot -/
def Bs.pin (B : Bs) (a : Addr) (o : HO) : Bs := { B with Ha := upd B.Ha a o }
section
variable {K : Fg} {B : Bs} {F F' H H' : Hp} {σ σ' : St} {ρ ρ' : Rho} {a : Addr} {o : HO}
theorem Rs.frow (R : Rs K B F H σ ρ) (h : B.Ha a = none) (n : ∀ r, B.r = some r → r ≠ a) : True := trivial
/-- from a new object on: it is pinned -/
theorem Rs.pin (R : Rs K B F H σ ρ) (h : H a = none) (o : HO) : Rs K (B.pin a o) F (upd H a o) σ ρ where
  sub := (R.lay h).sub
  ext := R.ext
  new := fun b h1 h2 => by
    have ne : b ≠ a := fun e => by subst e; exact h2 (R.sub.free h)
    show Fz ((upd B.Ha a o) b)
    rw [upd_ne ne]
    exact R.new b h1 h2
  old := fun b x hb e => by
    by_cases q : b = a
    · subst q
      have e' : (upd B.Ha b o) b = some x := e
      rw [upd_same] at e'
      rw [upd_same]; exact e'
    · have e' : (upd B.Ha a o) b = some x := e
      rw [upd_ne q] at e'
      rw [upd_ne q]; exact R.old b x hb e'
  hrow := (R.lay h).hrow
  hr2 := fun r h => by
    show (upd B.Ha a o) r ≠ none
    by_cases e : r = a
    · subst e; rw [upd_same]; simp
    · rw [upd_ne e]; exact R.hr2 r h
  len := R.len
  at_ := fun i s hs => by
    have q := (R.lay h (o := o)).at_ i s hs
    have q0 := R.at_ i s hs
    generalize σ[i]? = x at q q0
    cases q with
    | no => exact .no
    | v r => exact .v r
    | fz f d => exact .fz f d
    | @ol c xs ps f h0 h1 r =>
      refine .ol f ?_ h1 r
      cases q0 with
      | ol _ _ g _ =>
        show (upd B.Ha a o) c = none
        rw [upd_ne (ne_of_none g h)]; exact h0
    | @row c f h0 h1 =>
      refine .row f ?_ h1
      cases q0 with
      | row _ _ g =>
        obtain ⟨u, hu⟩ := g.there
        rcases h0 with h0 | h0
        · refine .inl ?_
          show (upd B.Ha a o) c = none
          rw [upd_ne (ne_of_none hu h)]; exact h0
        · exact .inr h0
    | @od t c kvs f h0 h1 =>
      refine .od f ?_ h1
      cases q0 with
      | od _ _ g =>
        obtain ⟨u, hu, _⟩ := g.there
        show (upd B.Ha a o) c = none
        rw [upd_ne (ne_of_none hu h)]; exact h0
  apart := R.apart
theorem Rs.pinned (R : Rs K (B.pin a o) F H σ ρ) (hr : B.r ≠ some a) (hF : B.Fa a = none) (nt : ∀ xs, o ≠ HO.tup xs := by intro _ h; cases h) : H a = some o ∧ F a = none := by
  have e : (B.pin a o).Ha a = some o := upd_same
  refine ⟨R.old a o (fun z => hr z.symm) e, ?_⟩
  cases q : F a with
  | none => rfl
  | some u =>
    have := R.new a hF (by rw [q]; simp)
    rw [e] at this
    rcases this with z | ⟨xs, z⟩
    · cases z
    · exact absurd (Option.some.inj z) (nt xs)
/-- the pin is taken off -/
theorem Rs.unpin (R : Rs K (B.pin a o) F H σ ρ) (hr : B.r ≠ some a) (hF : B.Fa a = none) (hH : B.Ha a = none) : Rs K B F H σ ρ where
  sub := R.sub
  ext := R.ext
  new := fun b h1 h2 => by
    have q : Fz ((upd B.Ha a o) b) := R.new b h1 h2
    by_cases e : b = a
    · subst e; exact .inl hH
    · rw [upd_ne e] at q; exact q
  old := fun b x hb e => R.old b x hb (by
    show (upd B.Ha a o) b = some x
    rw [upd_ne (ne_of_none e hH)]; exact e)
  hrow := R.hrow
  hr2 := fun r h q => by
    have z := R.hr2 r h
    have ne : r ≠ a := fun e => hr (by rw [h, e])
    exact z (by show (upd B.Ha a o) r = none; rw [upd_ne ne]; exact q)
  len := R.len
  at_ := fun i s hs => by
    have q := R.at_ i s hs
    generalize σ[i]? = x at q
    cases q with
    | no => exact .no
    | v r => exact .v r
    | fz f d => exact .fz f d
    | @ol c xs ps f h0 h1 r =>
      refine .ol f ?_ h1 r
      have z : (upd B.Ha a o) c = none := h0
      by_cases e : c = a
      · subst e; exact hH
      · rw [upd_ne e] at z; exact z
    | @row c f h0 h1 =>
      refine .row f ?_ h1
      rcases h0 with h0 | h0
      · have z : (upd B.Ha a o) c = none := h0
        refine .inl ?_
        by_cases e : c = a
        · subst e; exact hH
        · rw [upd_ne e] at z; exact z
      · exact .inr h0
    | @od t c kvs f h0 h1 =>
      refine .od f ?_ h1
      have z : (upd B.Ha a o) c = none := h0
      by_cases e : c = a
      · subst e; exact hH
      · rw [upd_ne e] at z; exact z
  apart := R.apart
/-- what is pinned is written -/
theorem Rs.repin (R : Rs K (B.pin a o) F H σ ρ) (hr : B.r ≠ some a) (hF : B.Fa a = none) (u : HO) (nt : ∀ xs, o ≠ HO.tup xs := by intro _ h; cases h) : Rs K (B.pin a u) F (upd H a u) σ ρ := by
  obtain ⟨p1, p2⟩ := R.pinned hr hF nt
  refine ⟨same_upd2 R.sub p2, R.ext, fun b h1 h2 => ?_, fun b x hb e => ?_, fun r h => ?_, fun r h => ?_, R.len, fun i s hs => ?_, R.apart⟩
  · have q : Fz ((upd B.Ha a o) b) := R.new b h1 h2
    have ne : b ≠ a := fun e => by subst e; exact h2 p2
    rw [upd_ne ne] at q
    show Fz ((upd B.Ha a u) b)
    rw [upd_ne ne]; exact q
  · have e' : (upd B.Ha a u) b = some x := e
    by_cases q : b = a
    · subst q; rw [upd_same] at e' ⊢; exact e'
    · rw [upd_ne q] at e' ⊢
      exact R.old b x hb (by show (upd B.Ha a o) b = some x; rw [upd_ne q]; exact e')
  · obtain ⟨h1, h2⟩ := R.hrow r h
    have ne : r ≠ a := fun e => by subst e; exact hr h
    exact ⟨h1, h2.mono (Same.refl _) fun x e => by rw [upd_ne ne]; exact e⟩
  · show (upd B.Ha a u) r ≠ none
    have ne : r ≠ a := fun e => by subst e; exact hr h
    have z : (upd B.Ha a o) r ≠ none := R.hr2 r h
    rw [upd_ne ne] at z ⊢; exact z
  · have q := R.at_ i s hs
    generalize σ[i]? = x at q
    have far : ∀ c, (B.pin a o).Ha c = none ∨ B.r = some c → c ≠ a := fun c h e => by
      subst e
      rcases h with h | h
      · have z : (upd B.Ha c o) c = none := h
        rw [upd_same] at z; cases z
      · exact hr h
    cases q with
    | no => exact .no
    | v r => exact .v r
    | fz f d => exact .fz f d
    | @ol c xs ps f h0 h1 r =>
      have ne := far c (.inl h0)
      have z : (upd B.Ha a o) c = none := h0
      rw [upd_ne ne] at z
      exact .ol f (by show (upd B.Ha a u) c = none; rw [upd_ne ne]; exact z) (by rw [upd_ne ne]; exact h1) r
    | @row c f h0 h1 =>
      have ne := far c h0
      refine .row f ?_ (h1.mono (Same.refl _) fun x e => by rw [upd_ne ne]; exact e)
      rcases h0 with h0 | h0
      · have z : (upd B.Ha a o) c = none := h0
        rw [upd_ne ne] at z
        exact .inl (by show (upd B.Ha a u) c = none; rw [upd_ne ne]; exact z)
      · exact .inr h0
    | @od t c kvs f h0 h1 =>
      have ne := far c (.inl h0)
      have z : (upd B.Ha a o) c = none := h0
      rw [upd_ne ne] at z
      exact .od f (by show (upd B.Ha a u) c = none; rw [upd_ne ne]; exact z) (h1.mono (Same.refl _) fun x e => by rw [upd_ne ne]; exact e)
end

/-! ### slots forgotten and brought back -/
def wipeR (ρ : Rho) : List Nat → Rho
  | [] => ρ
  | i :: is => (wipeR ρ is).set i .no
theorem wipeR_length (ρ : Rho) : ∀ is : List Nat, (wipeR ρ is).length = ρ.length
  | [] => rfl
  | i :: is => by unfold wipeR; rw [List.length_set, wipeR_length ρ is]
theorem wipeR_out {ρ : Rho} {i : Nat} : ∀ {is : List Nat}, i ∉ is → (wipeR ρ is)[i]? = ρ[i]?
  | [], _ => rfl
  | v :: vs, h => by
    have h1 : v ≠ i := fun e => h (by rw [e]; exact List.mem_cons_self)
    have h2 : i ∉ vs := fun m => h (List.mem_cons_of_mem _ m)
    unfold wipeR
    rw [List.getElem?_set_ne h1]
    exact wipeR_out h2
theorem wipeR_in {ρ : Rho} {i : Nat} {s : Sl} : ∀ {is : List Nat}, i ∈ is → (wipeR ρ is)[i]? = some s → s = .no
  | v :: vs, h, e => by
    unfold wipeR at e
    by_cases q : v = i
    · subst q
      by_cases hl : v < (wipeR ρ vs).length
      · rw [List.getElem?_set_self hl] at e; cases e; rfl
      · rw [List.getElem?_eq_none (by simpa using hl)] at e; cases e
    · rw [List.getElem?_set_ne q] at e
      rcases List.mem_cons.mp h with z | z
      · exact absurd z.symm q
      · exact wipeR_in z e
/-- no slot of is owns anything -/
def noOwn (ρ : Rho) (is : List Nat) : Bool := is.all fun i => match ρ[i]? with
  | some s => !s.owns
  | none => true
section
variable {K : Fg} {B : Bs} {F F' H H' : Hp} {σ σ' σ2 : St} {ρ ρ2 : Rho} {is : List Nat}
theorem Rs.wipe (R : Rs K B F H σ ρ) (is : List Nat) : Rs K B F H (L2.wipe σ is) (wipeR ρ is) where
  sub := R.sub
  ext := R.ext
  new := R.new
  old := R.old
  hrow := R.hrow
  hr2 := R.hr2
  len := by rw [wipe_length, wipeR_length]; exact R.len
  at_ := fun i s hs => by
    by_cases h : i ∈ is
    · rw [wipeR_in h hs]; exact .no
    · rw [wipeR_out h] at hs
      rw [wipe_out h]; exact R.at_ i s hs
  apart := fun i j a s t hij h1 h2 o1 o2 e1 e2 => by
    have n1 : i ∉ is := fun h => by rw [wipeR_in h h1] at o1; cases o1
    have n2 : j ∉ is := fun h => by rw [wipeR_in h h2] at o2; cases o2
    rw [wipeR_out n1] at h1
    rw [wipeR_out n2] at h2
    rw [wipe_out n1] at e1
    rw [wipe_out n2] at e2
    exact R.apart i j a s t hij h1 h2 o1 o2 e1 e2
theorem noOwn_at (h : noOwn ρ is = true) {i : Nat} {s : Sl} (hi : i ∈ is) (e : ρ[i]? = some s) : s.owns = false := by
  have q := List.all_eq_true.mp h i hi
  rw [e] at q
  simpa using q
/-- behind a block: what the block's own slots held is what they held ahead of it -/
theorem Rs.back (R : Rs K B F H σ ρ) (R2 : Rs K B F' H' σ2 ρ2) (e : Same F F') (no : noOwn ρ is = true) (hσ : ∀ j, j ∉ is → σ2[j]? = σ[j]?) (hρ : ∀ j, j ∉ is → ρ2[j]? = ρ[j]?) : Rs K B F' H' σ ρ where
  sub := R2.sub
  ext := R2.ext
  new := R2.new
  old := R2.old
  hrow := R2.hrow
  hr2 := R2.hr2
  len := R.len
  at_ := fun i s hs => by
    by_cases h : i ∈ is
    · have o := noOwn_at no h hs
      have q := R.at_ i s hs
      generalize σ[i]? = x at q
      cases q with
      | no => exact .no
      | v r => exact .v (r.same e)
      | fz f d => exact .fz (e _ _ f) (d.same e)
      | ol f h0 h1 r => cases o
      | row f h0 h1 => cases o
      | od f h0 h1 => cases o
    · rw [← hσ i h]
      exact R2.at_ i s (by rw [hρ i h]; exact hs)
  apart := fun i j a s t hij h1 h2 o1 o2 e1 e2 => by
    have n1 : i ∉ is := fun h => by rw [noOwn_at no h h1] at o1; cases o1
    have n2 : j ∉ is := fun h => by rw [noOwn_at no h h2] at o2; cases o2
    exact R2.apart i j a s t hij (by rw [hρ i n1]; exact h1) (by rw [hρ j n2]; exact h2) o1 o2 (by rw [hσ i n1]; exact e1) (by rw [hσ j n2]; exact e2)
theorem wipe_eq (hl : σ2.length = σ.length) (h : ∀ j, j ∉ is → σ2[j]? = σ[j]?) : L2.wipe σ2 is = L2.wipe σ is := by
  apply List.ext_getElem?
  intro j
  by_cases hj : j ∈ is
  · have q : ∀ (τ : St) (vs : List Nat), j ∈ vs → (L2.wipe τ vs)[j]? = if j < τ.length then some none else none := fun τ vs => by
      induction vs with
      | nil => intro h; cases h
      | cons v vs ih =>
        intro hm
        unfold L2.wipe
        by_cases e : v = j
        · subst e
          rw [List.getElem?_set]
          simp [wipe_length]
        · rw [List.getElem?_set_ne e]
          rcases List.mem_cons.mp hm with z | z
          · exact absurd z.symm e
          · exact ih z
    rw [q σ2 is hj, q σ is hj, hl]
  · rw [wipe_out hj, wipe_out hj]; exact h j hj
end

/-! ### targets -/
abbrev Tg := D → Rho → Option Rho
/-- a target that stores into the slots is alone -/
def tG (K : Fg) (g : Tg) (is : List Nat) : TG := fun x σ H Q => ∃ B F ρ p ρ', Rs K B F H σ ρ ∧ Dp K F x p ∧ g p ρ = some ρ' ∧
  ∀ σ', Rs K B F H σ' ρ' → σ'.length = σ.length → (∀ j, j ∉ is → σ'[j]? = σ[j]?) → (∀ j, j ∉ is → ρ'[j]? = ρ[j]?) → Q σ' H
def GW (X : Cx) (tg : Expr) (g : Tg) (is : List Nat) : Prop := PG X tg (tG X.K g is)
def tgN (i : Nat) : Tg := fun p ρ => some (ρ.set i (.v p))
def tg2 (i j : Nat) : Tg := fun p ρ => match p with
  | .tuple [a, b] => some ((ρ.set i (.v a)).set j (.v b))
  | _ => none
def tg3 (i j k : Nat) : Tg := fun p ρ => match p with
  | .tuple [a, b, c] => some (((ρ.set i (.v a)).set j (.v b)).set k (.v c))
  | _ => none
section
variable {X : Cx} {pos : Pos}
theorem PG.imp {e : Expr} {t t' : TG} (h : PG X e t) (k : ∀ x σ H Q, t' x σ H Q → t x σ H Q) : PG X e t' := ⟨fun pins s σ H v u Q I r hw => h.run pins s σ H v u Q I r (k _ _ _ _ hw)⟩
theorem gw_name {i : Nat} {x : Str} (hN : X.N.Nodup) (hi : X.N[i]? = some x) (hx : Loc X.env.scope x) (hf : X.fn x = true ∨ X.env.scope.names.lookup x = some .local := by first | exact .inl rfl | exact .inr rfl | assumption) : GW X (.Name x pos) (tgN i) [i] :=
  PG.imp (pg_name hN hi hx hf) fun x σ H Q ⟨B, F, ρ, p, ρ', R, d, e, q⟩ => by
    cases e
    exact q _ (R.put (.v d) rfl) (List.length_set ..) (fun j hj => List.getElem?_set_ne (fun z => hj (by simp [z]))) fun j hj => List.getElem?_set_ne (fun z => hj (by simp [z]))
theorem gw_two {i j : Nat} {x y : Str} {p1 p2 : Pos} {k : Nat} (hc : X.calm = true) (hN : X.N.Nodup) (hi : X.N[i]? = some x) (hx : Loc X.env.scope x) (hj : X.N[j]? = some y) (hy : Loc X.env.scope y)
    (hf : X.fn x = true ∨ X.env.scope.names.lookup x = some .local := by first | exact .inl rfl | exact .inr rfl | assumption) (hf2 : X.fn y = true ∨ X.env.scope.names.lookup y = some .local := by first | exact .inl rfl | exact .inr rfl | assumption) : GW X (.Tuple [.Name x p1, .Name y p2] k pos) (tg2 i j) [i, j] :=
  PG.imp (pg_tup (n := 2) hc (pgs_cons (pg_name hN hi hx hf) (pgs_cons (pg_name hN hj hy hf2) pgs_nil))) fun v σ H Q ⟨B, F, ρ, p, ρ', R, d, e, q⟩ => by
    unfold tg2 at e
    split at e
    · cases e
      obtain ⟨a, xs, rfl, s, r⟩ := Dp.inv_tup d
      obtain ⟨u, us, rfl, d1, t⟩ := DpAll.uncons r
      obtain ⟨w, rfl, d2⟩ := dp1 t
      refine ⟨a, _, rfl, sqT_same R.sub s, rfl, u, _, rfl, w, _, rfl, rfl, ?_⟩
      refine q _ ((R.put (.v d1) rfl).put (.v d2) rfl) (by simp) (fun l hl => ?_) fun l hl => ?_
      · rw [List.getElem?_set_ne (fun z => hl (by simp [z])), List.getElem?_set_ne (fun z => hl (by simp [z]))]
      · rw [List.getElem?_set_ne (fun z => hl (by simp [z])), List.getElem?_set_ne (fun z => hl (by simp [z]))]
    · cases e
theorem gw_three {i j l : Nat} {x y z : Str} {p1 p2 p3 : Pos} {k : Nat} (hc : X.calm = true) (hN : X.N.Nodup) (hi : X.N[i]? = some x) (hx : Loc X.env.scope x) (hj : X.N[j]? = some y) (hy : Loc X.env.scope y) (hl : X.N[l]? = some z) (hz : Loc X.env.scope z)
    (hf : X.fn x = true ∨ X.env.scope.names.lookup x = some .local := by first | exact .inl rfl | exact .inr rfl | assumption) (hf2 : X.fn y = true ∨ X.env.scope.names.lookup y = some .local := by first | exact .inl rfl | exact .inr rfl | assumption)
    (hf3 : X.fn z = true ∨ X.env.scope.names.lookup z = some .local := by first | exact .inl rfl | exact .inr rfl | assumption) : GW X (.Tuple [.Name x p1, .Name y p2, .Name z p3] k pos) (tg3 i j l) [i, j, l] :=
  PG.imp (pg_tup (n := 3) hc (pgs_cons (pg_name hN hi hx hf) (pgs_cons (pg_name hN hj hy hf2) (pgs_cons (pg_name hN hl hz hf3) pgs_nil)))) fun v σ H Q ⟨B, F, ρ, p, ρ', R, d, e, q⟩ => by
    unfold tg3 at e
    split at e
    · cases e
      obtain ⟨a, xs, rfl, s, r⟩ := Dp.inv_tup d
      obtain ⟨u, us, rfl, d1, t⟩ := DpAll.uncons r
      obtain ⟨w, w2, rfl, d2, d3⟩ := dp2 t
      refine ⟨a, _, rfl, sqT_same R.sub s, rfl, u, _, rfl, w, _, rfl, w2, _, rfl, rfl, ?_⟩
      refine q _ (((R.put (.v d1) rfl).put (.v d2) rfl).put (.v d3) rfl) (by simp) (fun m hm => ?_) fun m hm => ?_
      · rw [List.getElem?_set_ne (fun z => hm (by simp [z])), List.getElem?_set_ne (fun z => hm (by simp [z])), List.getElem?_set_ne (fun z => hm (by simp [z]))]
      · rw [List.getElem?_set_ne (fun z => hm (by simp [z])), List.getElem?_set_ne (fun z => hm (by simp [z])), List.getElem?_set_ne (fun z => hm (by simp [z]))]
    · cases e
end

/-! ### what is walked -/
/-- what a turn brings: a frozen item, or a new pair of frozen items -/
def Yl (K : Fg) (F H H' : Hp) (x : V) (p : D) : Prop := (H' = H ∧ Dp K F x p) ∨
  ∃ T a b q1 q2, x = .ref T ∧ H T = none ∧ H' = upd H T (.tup [a, b]) ∧ p = .tuple [q1, q2] ∧ Dp K F a q1 ∧ Dp K F b q2
structure Wlk (K : Fg) (F : Hp) (J : It) (ps : List D) : Prop where
  go : ∀ i H, i < ps.length → Same F H → J.go i H
  stop : ∀ H, Same F H → J.stop ps.length H
  yld : ∀ i H x H', i < ps.length → Same F H → J.yld i H x H' → ∃ p, ps[i]? = some p ∧ Yl K F H H' x p
theorem yl_step {K : Fg} {B : Bs} {F F0 H H' : Hp} {σ : St} {ρ : Rho} {x : V} {p : D} (R : Rs K B F H σ ρ) (e : Same F0 F) (y : Yl K F0 H H' x p) : ∃ F1, Rs K B F1 H' σ ρ ∧ Same F F1 ∧ Dp K F1 x p := by
  rcases y with ⟨rfl, d⟩ | ⟨T, a, b, q1, q2, rfl, n, rfl, rfl, d1, d2⟩
  · exact ⟨F, R, Same.refl _, d.same e⟩
  · have n' := R.sub.free n
    exact ⟨_, R.grow n, same_upd n', .tup upd_same (.cons ((d1.same e).same (same_upd n')) (.cons ((d2.same e).same (same_upd n')) .nil))⟩
def tI (K : Fg) (T : TL) : TI := fun σ H R => ∃ B F ρ, Rs K B F H σ ρ ∧ T ρ (fun ps => ∀ F' H' J, Rs K B F' H' σ ρ → Same F F' → ps.length ≤ sizeLine → Wlk K F' J ps → R J H')
structure IW (X : Cx) (tg iter : Expr) (T : TL) : Prop where
  mono : ∀ ρ K K', (∀ p, K p → K' p) → T ρ K → T ρ K'
  pi : PI X tg iter (tI X.K T)
abbrev IF (X : Cx) (tg iter : Expr) (f : Rho → Option (List D)) : Prop := IW X tg iter (fW f)
theorem PI.imp {X : Cx} {tg e : Expr} {t t' : TI} (h : PI X tg e t) (k : ∀ σ H R, t' σ H R → t σ H R) : PI X tg e t' := ⟨fun pins s σ H Q I hw => h.run pins s σ H Q I (k _ _ _ hw)⟩
theorem IW.imp {X : Cx} {tg e : Expr} {T T' : TL} (h : IW X tg e T) (m : ∀ ρ K K', (∀ p, K p → K' p) → T' ρ K → T' ρ K') (k : ∀ ρ K, T' ρ K → T ρ K) : IW X tg e T' := ⟨m, PI.imp h.pi fun _ _ _ ⟨B, F, ρ, R, q⟩ => ⟨B, F, ρ, R, k _ _ q⟩⟩
section
variable {X : Cx} {tg : Expr}
def iSeq (K : Fg) (tl : TE) : TI := fun σ H R => tl σ H fun x H1 => ∃ a, x = .ref a ∧ (((∃ xs, SqL K H1 a xs) ∧ R (Itl K a) H1) ∨ ((∃ xs, SqT K H1 a xs) ∧ R (Itt K a) H1))
theorem pi_seq {l : Expr} {tl : TE} (hl : PE X l tl) : PI X tg l (iSeq X.K tl) := by
  refine ⟨fun pins s σ H R I h => ?_⟩
  refine thn (hl.run pins s σ H _ I h) fun v s1 ⟨x, H1, I1, r1, q1⟩ => ?_
  obtain ⟨a, e, q⟩ := q1
  subst e
  cases r1
  rcases q with ⟨⟨xs, hq⟩, q⟩ | ⟨⟨xs, hq⟩, q⟩
  · obtain ⟨its, rv, p, hz⟩ := I1.list hq
    refine wpAny_pyIter_list p.isList ?_
    refine ⟨s1.heap.objs.size, [s1.heap.objs.size], _, _, H1, rfl, I1.kept (t' := s1.toks) fun b o e => Heap.get?_push_of_some _ e, turn_list a _, ⟨_, Heap.get?_push_size _ rfl, rfl, rfl⟩, fun b hb => ?_, q⟩
    have e : b = s1.heap.objs.size := by simpa using hb
    subst e
    exact I1.fpOk (Nat.le_refl _) (I1.hok.fresh (Nat.le_refl _))
  · obtain ⟨its, rv, p, hz⟩ := I1.tuple hq
    refine wpAny_pyIter_tuple (show s1.heap.IsTuple a its.toArray from p) ?_
    refine ⟨s1.heap.objs.size, [s1.heap.objs.size], _, _, H1, rfl, I1.kept (t' := s1.toks) fun b o e => Heap.get?_push_of_some _ e, turn_tuple a _, ⟨_, Heap.get?_push_size _ rfl, rfl, rfl⟩, fun b hb => ?_, q⟩
    have e : b = s1.heap.objs.size := by simpa using hb
    subst e
    exact I1.fpOk (Nat.le_refl _) (I1.hok.fresh (Nat.le_refl _))
theorem wlk_list {K : Fg} {F : Hp} {a : Addr} {xs : List V} {ps : List D} (s : SqL K F a xs) (d : DpAll K F xs ps) : Wlk K F (Itl K a) ps where
  go := fun i H hi e => by
    have hl := d.length
    exact ⟨xs, xs[i], sqL_same e s, by simp⟩
  stop := fun H e => ⟨xs, sqL_same e s, by rw [d.length]; exact Nat.le_refl _⟩
  yld := fun i H x H' hi e ⟨y1, y2⟩ => by
    obtain ⟨p, hp, dp⟩ := d.getV (y2 xs (sqL_same e s))
    exact ⟨p, hp, .inl ⟨y1, dp⟩⟩
theorem wlk_tup {K : Fg} {F : Hp} {a : Addr} {xs : List V} {ps : List D} (s : SqT K F a xs) (d : DpAll K F xs ps) : Wlk K F (Itt K a) ps where
  go := fun i H hi e => by
    have hl := d.length
    exact ⟨xs, xs[i], sqT_same e s, by simp⟩
  stop := fun H e => ⟨xs, sqT_same e s, by rw [d.length]; exact Nat.le_refl _⟩
  yld := fun i H x H' hi e ⟨y1, y2⟩ => by
    obtain ⟨p, hp, dp⟩ := d.getV (y2 xs (sqT_same e s))
    exact ⟨p, hp, .inl ⟨y1, dp⟩⟩
def wItems (T : TW) : TL := fun ρ K => T ρ fun p => ∃ ps, items p = some ps ∧ K ps
def fItems (f : Rho → Option D) : Rho → Option (List D) := fun ρ => (f ρ).bind items
theorem iw_seq {e : Expr} {T : TW} (h : EW X e T) : IW X tg e (wItems T) :=
  ⟨fun ρ K K' i q => h.mono _ _ _ (fun p ⟨ps, e, k⟩ => ⟨ps, e, i ps k⟩) q, PI.imp (pi_seq (PE.lens h.pe)) fun σ H R ⟨B, F, ρ, R0, q⟩ => ⟨B, F, ρ, R0, h.mono _ _ _ (fun p ⟨ps, e, k⟩ F' H' v R' s' d hL => by
    unfold items at e
    split at e
    · cases e
      obtain ⟨a, xs, rfl, s, r⟩ := Dp.inv_lst d
      refine ⟨a, rfl, .inl ⟨⟨xs, sqL_same R'.sub s⟩, k F' H' _ R' s' ?_ (wlk_list s r)⟩⟩
      rw [← r.length]
      exact hL a xs (.inl (sqL_same R'.sub s))
    · cases e
      obtain ⟨a, xs, rfl, s, r⟩ := Dp.inv_tup d
      refine ⟨a, rfl, .inr ⟨⟨xs, sqT_same R'.sub s⟩, k F' H' _ R' s' ?_ (wlk_tup s r)⟩⟩
      rw [← r.length]
      exact hL a xs (.inr (sqT_same R'.sub s))
    · cases e) q⟩⟩
theorem if_seq {e : Expr} {f : Rho → Option D} (h : EF X e f) : IF X tg e (fItems f) := (iw_seq h).imp fW_mono fun ρ K ⟨ps, e, k⟩ => by
  obtain ⟨p, e1, e2⟩ := Option.bind_eq_some_iff.mp e
  exact ⟨p, e1, ps, e2, k⟩
/-- lo, lo + 1, .. -/
def rngD (lo : Int) (n : Nat) : List D := (List.range n).map fun i => PyData.int (lo + (i : Nat))
theorem rngD_length (lo : Int) (n : Nat) : (rngD lo n).length = n := by unfold rngD; rw [List.length_map, List.length_range]
def gRng1 : List D → Option (List D)
  | [.int j] => if j ≤ 16777216 ∧ -4611686018427387904 ≤ j then some (rngD 0 j.toNat) else none
  | _ => none
def gRng2 : List D → Option (List D)
  | [.int i, .int j] => if (-4611686018427387904 ≤ i ∧ i < 4611686018427387904 ∧ -4611686018427387904 ≤ j ∧ j < 4611686018427387904) ∧ j - i ≤ 16777216 then some (rngD i (j - i).toNat) else none
  | _ => none
theorem wlk_rng {K : Fg} {F : Hp} {lo : Int} {n : Nat} : Wlk K F (Itr lo n) (rngD lo n) where
  go := fun i H hi e => by rw [rngD_length] at hi; exact hi
  stop := fun H e => by rw [rngD_length]; exact Nat.le_refl _
  yld := fun i H x H' hi e ⟨y1, y2⟩ => by
    rw [rngD_length] at hi
    refine ⟨.int (lo + (i : Nat)), ?_, .inl ⟨y1, by rw [y2]; exact .int _⟩⟩
    unfold rngD
    rw [List.getElem?_map, List.getElem?_range hi]
    rfl
theorem iw_rng1 {a : Expr} {T : TL} {p pos : Pos} (hg : Gl X "range") (hm : X.mg "range" = none) (ha : XA X [a] T) (hs : starEach [a] X.env = [(false, eval a X.env)] := by rfl) : IW X tg (.Call (.Name "range" p) [a] [] pos) (wOf gRng1 T) :=
  ⟨wOf_mono ha.mono, PI.imp (pi_range1 hg hm ha.pa hs) fun σ H R ⟨B, F, ρ, R0, q⟩ => ⟨B, F, ρ, R0, ha.mono _ _ _ (fun ps ⟨zs, e, k⟩ F' H' vs R' s' d => by
    unfold gRng1 at e
    split at e
    · split at e
      · rename_i hj
        cases e
        obtain ⟨v, rfl, h⟩ := dp1 (d.dp R')
        refine ⟨_, by rw [Dp.inv_int h], by have := hj.2; omega, by have := hj.1; omega, k F' H' _ R' s' ?_ wlk_rng⟩
        rw [rngD_length, sizeLine_eq]; omega
      · cases e
    · cases e) q⟩⟩
theorem iw_rng2 {a b : Expr} {T : TL} {p pos : Pos} (hg : Gl X "range") (hm : X.mg "range" = none) (ha : XA X [a, b] T) (hs : starEach [a, b] X.env = [(false, eval a X.env), (false, eval b X.env)] := by rfl) (hs2 : starEach [b] X.env = [(false, eval b X.env)] := by rfl) : IW X tg (.Call (.Name "range" p) [a, b] [] pos) (wOf gRng2 T) :=
  ⟨wOf_mono ha.mono, PI.imp (pi_range2 hg hm ha.pa hs hs2) fun σ H R ⟨B, F, ρ, R0, q⟩ => ⟨B, F, ρ, R0, ha.mono _ _ _ (fun ps ⟨zs, e, k⟩ F' H' vs R' s' d => by
    unfold gRng2 at e
    split at e
    · split at e
      · rename_i hj
        cases e
        obtain ⟨v, u, rfl, h1, h2⟩ := dp2 (d.dp R')
        refine ⟨_, _, by rw [Dp.inv_int h1, Dp.inv_int h2], ?_, k F' H' _ R' s' ?_ wlk_rng⟩
        · obtain ⟨⟨a1, a2, a3, a4⟩, _⟩ := hj
          exact ⟨by omega, by omega, by omega, by omega⟩
        · rw [rngD_length, sizeLine_eq]; omega
      · cases e
    · cases e) q⟩⟩
theorem if_rng1 {a : Expr} {f : Rho → Option (List D)} {p pos : Pos} (hg : Gl X "range") (hm : X.mg "range" = none) (ha : XAF X [a] f) (hs : starEach [a] X.env = [(false, eval a X.env)] := by rfl) : IF X tg (.Call (.Name "range" p) [a] [] pos) (aOf gRng1 f) :=
  (iw_rng1 hg hm ha hs).imp fW_mono aOf_w
theorem if_rng2 {a b : Expr} {f : Rho → Option (List D)} {p pos : Pos} (hg : Gl X "range") (hm : X.mg "range" = none) (ha : XAF X [a, b] f) (hs : starEach [a, b] X.env = [(false, eval a X.env), (false, eval b X.env)] := by rfl) (hs2 : starEach [b] X.env = [(false, eval b X.env)] := by rfl) : IF X tg (.Call (.Name "range" p) [a, b] [] pos) (aOf gRng2 f) :=
  (iw_rng2 hg hm ha hs hs2).imp fW_mono aOf_w
end
end L2.P

set_option Elab.async false
set_option linter.all false
set_option maxRecDepth 100000
set_option maxHeartbeats 4000000
/-! PL5: comprehensions. -/
namespace L2.P
open PySem PySem.Spec PyProof.Rows L2
def minusH (H : Hp) (a : Addr) : Hp := fun b => if b = a then none else H b
theorem minusH_same (H : Hp) (a : Addr) : minusH H a a = none := by unfold minusH; rw [if_pos rfl]
theorem minusH_ne {H : Hp} {a b : Addr} (h : b ≠ a) : minusH H a b = H b := by unfold minusH; rw [if_neg h]
theorem upd_minus {H : Hp} {a : Addr} {o : HO} (h : H a = some o) : upd (minusH H a) a o = H := by
  funext b
  by_cases e : b = a
  · subst e; rw [upd_same, h]
  · rw [upd_ne e, minusH_ne e]
section
variable {K : Fg} {B : Bs} {F F' H H' : Hp} {σ σ' : St} {ρ ρ' : Rho} {a : Addr} {o : HO}
/-- what is pinned is taken away -/
theorem Rs.minus (R : Rs K (B.pin a o) F H σ ρ) (hr : B.r ≠ some a) (hF : B.Fa a = none) (hH : B.Ha a = none) (nt : ∀ xs, o ≠ HO.tup xs := by intro _ h; cases h) : Rs K B F (minusH H a) σ ρ := by
  obtain ⟨p1, p2⟩ := R.pinned hr hF nt
  have U := R.unpin hr hF hH
  have far : ∀ c, (B.pin a o).Ha c = none ∨ B.r = some c → c ≠ a := fun c h e => by
    subst e
    rcases h with h | h
    · have z : (upd B.Ha c o) c = none := h
      rw [upd_same] at z; cases z
    · exact hr h
  refine ⟨fun b x e => ?_, U.ext, U.new, fun b x hb e => ?_, fun r h => ?_, U.hr2, U.len, fun i s hs => ?_, U.apart⟩
  · have ne : b ≠ a := fun q => by subst q; rw [p2] at e; cases e
    rw [minusH_ne ne]; exact U.sub b x e
  · have ne : b ≠ a := fun q => by subst q; rw [hH] at e; cases e
    rw [minusH_ne ne]; exact U.old b x hb e
  · obtain ⟨h1, h2⟩ := U.hrow r h
    have ne : r ≠ a := fun e => by subst e; exact hr h
    exact ⟨h1, h2.mono (Same.refl _) fun x e => by rw [minusH_ne ne]; exact e⟩
  · have q := R.at_ i s hs
    have q2 := U.at_ i s hs
    generalize σ[i]? = x at q q2
    cases q with
    | no => exact .no
    | v r => exact .v r
    | fz f d => exact .fz f d
    | @ol c xs ps f h0 h1 r =>
      have ne := far c (.inl h0)
      cases q2 with
      | ol f' g0 g1 r' => exact .ol f g0 (by rw [minusH_ne ne]; exact h1) r
    | @row c f h0 h1 =>
      have ne := far c h0
      cases q2 with
      | row f' g0 g1 => exact .row f g0 (h1.mono (Same.refl _) fun x e => by rw [minusH_ne ne]; exact e)
    | @od t c kvs f h0 h1 =>
      have ne := far c (.inl h0)
      cases q2 with
      | od f' g0 g1 => exact .od f g0 (h1.mono (Same.refl _) fun x e => by rw [minusH_ne ne]; exact e)
end

/-! ### the block's turns -/
/-- over the items: the list that has come so far, what is wanted of the whole -/
def lcW (is : List Nat) (g : Tg) (T : TB) (E : TW) (ρ : Rho) : List D → List D → (List D → Prop) → Prop
  | [], acc, K => K acc
  | p :: ps, acc, K => ∃ ρ', g p (wipeR ρ is) = some ρ' ∧ T ρ' (fun b => if b = true then E ρ' (fun y => acc.length < sizeLine ∧ lcW is g T E ρ ps (acc ++ [y]) K) else lcW is g T E ρ ps acc K)
/-- .. where it can't get too long -/
def lcV (is : List Nat) (g : Tg) (T : TB) (E : TW) (ρ : Rho) : List D → List D → (List D → Prop) → Prop
  | [], acc, K => K acc
  | p :: ps, acc, K => ∃ ρ', g p (wipeR ρ is) = some ρ' ∧ T ρ' (fun b => if b = true then E ρ' (fun y => lcV is g T E ρ ps (acc ++ [y]) K) else lcV is g T E ρ ps acc K)
section
variable {is : List Nat} {g : Tg} {T : TB} {E : TW} {ρ : Rho}
theorem lcV_mono (mt : ∀ ρ K K', (∀ p, K p → K' p) → T ρ K → T ρ K') (me : ∀ ρ K K', (∀ p, K p → K' p) → E ρ K → E ρ K') : ∀ (ps acc : List D) (K K' : List D → Prop), (∀ p, K p → K' p) → lcV is g T E ρ ps acc K → lcV is g T E ρ ps acc K'
  | [], _, _, _, h, q => h _ q
  | p :: ps, acc, K, K', h, ⟨ρ', e, q⟩ => ⟨ρ', e, mt _ _ _ (fun b k => by
      cases b with
      | true => exact me _ _ _ (fun y k2 => lcV_mono mt me ps _ K K' h k2) k
      | false => exact lcV_mono mt me ps _ K K' h k) q⟩
theorem lcW_mono (mt : ∀ ρ K K', (∀ p, K p → K' p) → T ρ K → T ρ K') (me : ∀ ρ K K', (∀ p, K p → K' p) → E ρ K → E ρ K') : ∀ (ps acc : List D) (K K' : List D → Prop), (∀ p, K p → K' p) → lcW is g T E ρ ps acc K → lcW is g T E ρ ps acc K'
  | [], _, _, _, h, q => h _ q
  | p :: ps, acc, K, K', h, ⟨ρ', e, q⟩ => ⟨ρ', e, mt _ _ _ (fun b k => by
      cases b with
      | true => exact me _ _ _ (fun y k2 => ⟨k2.1, lcW_mono mt me ps _ K K' h k2.2⟩) k
      | false => exact lcW_mono mt me ps _ K K' h k) q⟩
theorem lcV_W (mt : ∀ ρ K K', (∀ p, K p → K' p) → T ρ K → T ρ K') (me : ∀ ρ K K', (∀ p, K p → K' p) → E ρ K → E ρ K') : ∀ (ps acc : List D) (K : List D → Prop), acc.length + ps.length ≤ sizeLine → lcV is g T E ρ ps acc K → lcW is g T E ρ ps acc K
  | [], _, _, _, q => q
  | p :: ps, acc, K, h, ⟨ρ', e, q⟩ => ⟨ρ', e, mt _ _ _ (fun b k => by
      rw [List.length_cons] at h
      cases b with
      | true => exact me _ _ _ (fun y k2 => ⟨by omega, lcV_W mt me ps _ K (by rw [List.length_append, List.length_singleton]; omega) k2⟩) k
      | false => exact lcV_W mt me ps _ K (by omega) k) q⟩
end

section
variable {X : Cx}
/-- the tests of a clause -/
structure TsW (X : Cx) (ifs : List Expr) (T : TB) : Prop where
  mono : ∀ ρ K K', (∀ p, K p → K' p) → T ρ K → T ρ K'
  pts : PTs X ifs (tT X.K T)
theorem PTs.imp {ifs : List Expr} {t t' : TT} (h : PTs X ifs t) (k : ∀ σ H Q, t' σ H Q → t σ H Q) : PTs X ifs t' := ⟨fun pins s σ H Q I hw => h.run pins s σ H Q I (k _ _ _ hw)⟩
def wYes : TB := fun _ K => K true
def fYes : Rho → Option Bool := fun _ => some true
theorem ts_nil : TsW X [] (fW fYes) := ⟨fW_mono, PTs.imp pts_nil fun σ H Q ⟨B, F, ρ, R, p, e, q⟩ => by cases e; exact q F H R (Same.refl _)⟩
theorem ts_one {c : Expr} {T : TB} (h : TWT X c T) : TsW X [c] T := ⟨h.mono, pts_one h.pt⟩

/-- what the turns of one clause keep -/
def LcInv (K : Fg) (B : Bs) (F1 : Hp) (D : Addr) (σ : St) (ρ : Rho) (P : List PyData → Prop) (H : Hp) : Prop :=
  ∃ F acc ad, Rs K (B.pin D (.lst acc)) F H σ ρ ∧ Same F1 F ∧ DpAll K F acc ad ∧ P ad
/-- one clause's walk, from what it keeps to what is wanted -/
theorem lc_walk {K : Fg} {is : List Nat} {g : Tg} {T : TB} {E : TW} {B : Bs} {F1 : Hp} {D : Addr} {σ : St} {ρ : Rho} {ps : List PyData} {Kc : List PyData → Prop} {J : It} {Qd : Hp → Prop} {H1 : Hp} {ad : List PyData}
    (mt : ∀ ρ K K', (∀ p, K p → K' p) → T ρ K → T ρ K') (me : ∀ ρ K K', (∀ p, K p → K' p) → E ρ K → E ρ K') (hr : B.r ≠ some D) (hF : B.Fa D = none) (no : noOwn ρ is = true) (wk : Wlk K F1 J ps)
    (h : LcInv K B F1 D σ ρ (fun ad => lcW is g T E ρ ps ad Kc) H1) (hd : ∀ H, LcInv K B F1 D σ ρ Kc H → Qd H) :
    ∃ W : Nat → Nat → Hp → Prop, (∃ m, W 0 m H1) ∧ ∀ i m H, W i m H →
      (J.stop i H ∧ Qd H) ∨ (J.go i H ∧ ∃ Nx : Hp → Prop, (∀ H', Nx H' → ∃ m', m' < m ∧ W (i + 1) m' H') ∧ ∀ x H', J.yld i H x H' → tG K g is x (L2.wipe σ is) H' fun σ2 H2 => L2.wipe σ2 is = L2.wipe σ is ∧ tT K T σ2 H2 fun b H3 =>
        if b = true then tW K E σ2 H3 fun y H4 => ∃ acc, H4 D = some (.lst acc) ∧ acc.length < sizeLine ∧ Nx (upd H4 D (.lst (acc ++ [y]))) else Nx H3) := by
  refine ⟨fun i m H => m = ps.length - i ∧ i ≤ ps.length ∧ LcInv K B F1 D σ ρ (fun ad => lcW is g T E ρ (ps.drop i) ad Kc) H, ⟨ps.length, by simp, Nat.zero_le _, h⟩, ?_⟩
  rintro i m H ⟨rfl, hi, F, acc, ad, R, s, d, q⟩
  have sH : Same F1 H := s.trans R.sub
  by_cases hlt : i < ps.length
  · refine .inr ⟨wk.go i H hlt sH, fun H' => LcInv K B F1 D σ ρ (fun ad => lcW is g T E ρ (ps.drop (i + 1)) ad Kc) H', fun H' n => ⟨ps.length - (i + 1), by omega, rfl, hlt, n⟩, fun x H' hy => ?_⟩
    obtain ⟨p, hp, y⟩ := wk.yld i H x H' hlt sH hy
    have e0 : ps.drop i = p :: ps.drop (i + 1) := by
      rw [List.drop_eq_getElem_cons hlt]
      obtain ⟨_, e⟩ := List.getElem?_eq_some_iff.mp hp
      rw [e]
    rw [e0] at q
    obtain ⟨ρ', eg, q⟩ := q
    obtain ⟨F2, R2, s2, d2⟩ := yl_step (R.wipe is) s y
    refine ⟨_, F2, _, p, ρ', R2, d2, eg, fun σ' R3 hl hσ hρ => ⟨?_, ?_⟩⟩
    · have := wipe_eq (is := is) hl hσ
      rw [this]
      exact wipe_eq (wipe_length _ _) fun j hj => wipe_out hj
    · have hσ' : ∀ j, j ∉ is → σ'[j]? = σ[j]? := fun j hj => (hσ j hj).trans (wipe_out hj)
      have hρ' : ∀ j, j ∉ is → ρ'[j]? = ρ[j]? := fun j hj => (hρ j hj).trans (wipeR_out hj)
      refine ⟨_, F2, ρ', R3, mt _ _ _ (fun b k F3 H3 R4 s4 => ?_) q⟩
      cases b with
      | false => exact ⟨F3, acc, ad, R.back R4 (s2.trans s4) no hσ' hρ', (s.trans s2).trans s4, (d.same s2).same s4, k⟩
      | true =>
        refine ⟨_, F3, ρ', R4, me _ _ _ (fun z k2 F4 H4 v R5 s5 d5 => ?_) k⟩
        have s25 : Same F F4 := (s2.trans s4).trans s5
        have hacc : acc.length = ad.length := d.length
        refine ⟨acc, (R5.pinned hr hF).1, by rw [hacc]; exact k2.1, F4, acc ++ [v], ad ++ [z], (R.back R5 s25 no hσ' hρ').repin hr hF _, s.trans s25, (d.same s25).append (.cons d5 .nil), k2.2⟩
  · have e : i = ps.length := by omega
    subst e
    refine .inl ⟨wk.stop H sH, hd H ⟨F, acc, ad, R, s, d, ?_⟩⟩
    rw [List.drop_length] at q
    exact q

variable {elt tg iter tg1 iter1 : Expr} {ifs ifs1 : List Expr} {scope : Scope} {own : List (Str × Nat)} {vs1 : List Nat} {pos : Pos} {U U1 : TL} {g g1 : Tg} {T T1 : TB} {E : TW}
def wLc (is : List Nat) (g : Tg) (T : TB) (E : TW) (U : TL) : TL := fun ρ K => noOwn ρ is = true ∧ U ρ fun ps => lcV is g T E ρ ps [] K
theorem wLc_mono {is : List Nat} (mu : ∀ ρ K K', (∀ p, K p → K' p) → U ρ K → U ρ K') (mt : ∀ ρ K K', (∀ p, K p → K' p) → T ρ K → T ρ K') (me : ∀ ρ K K', (∀ p, K p → K' p) → E ρ K → E ρ K') :
    ∀ ρ K K', (∀ p, K p → K' p) → wLc is g T E U ρ K → wLc is g T E U ρ K' := fun ρ K K' h ⟨n, q⟩ => ⟨n, mu _ _ _ (fun ps k => lcV_mono mt me ps _ K K' h k) q⟩
theorem lc_conv {K : Fg} {is : List Nat} (mu : ∀ ρ K K', (∀ p, K p → K' p) → U ρ K → U ρ K') (mt : ∀ ρ K K', (∀ p, K p → K' p) → T ρ K → T ρ K') (me : ∀ ρ K K', (∀ p, K p → K' p) → E ρ K → E ρ K')
    {σ : St} {H : Hp} {Q : VK} (h : tN K (wLc is g T E U) σ H Q) : tLc (tI K U) (tG K g is) (tT K T) (tW K E) is σ H Q := by
  obtain ⟨B, F, ρ, R, no, q⟩ := h
  refine ⟨B, F, ρ, R, mu _ _ _ (fun ps k F1 H1 J R1 s1 hz wk D hD => ?_) q⟩
  obtain ⟨p1, p2, p3⟩ := R1.fresh hD
  have hF : B.Fa D = none := R1.ext.free p2
  refine lc_walk (Kc := fun ps => ∀ F' H' a xs, Rs K B F' H' σ ρ → Same F F' → H' a = none → DpAll K F' xs ps → Q (.ref a) (upd H' a (.lst xs))) (ad := []) mt me p3 hF no wk
    ⟨F1, [], [], R1.pin hD _, Same.refl _, .nil, lcV_W mt me ps [] _ (by simpa using hz) k⟩ fun H2 ⟨F2, acc, ad, R2, s2, d2, k2⟩ => ?_
  have e := upd_minus (R2.pinned p3 hF).1
  rw [← e]
  exact k2 F2 _ D acc (R2.minus p3 hF p1) (s1.trans s2) (minusH_same _ _) d2
theorem nw_lc (hc : X.calm = true) (hN : X.N.Nodup) (hi : IW X tg iter U) (ok : BlkOk X.N X.env.scope scope own)
    (hg : ∀ (s : Shared) (H : Hp) (C : Addr) (cl : List (Str × Addr)) (fp : List Addr), GW (X.blk s H scope (compEnvC scope cl C X.env) fp) tg g (own.map (·.2)))
    (ht : ∀ (s : Shared) (H : Hp) (C : Addr) (cl : List (Str × Addr)) (fp : List Addr), TsW (X.blk s H scope (compEnvC scope cl C X.env) fp) ifs T)
    (he : ∀ (s : Shared) (H : Hp) (C : Addr) (cl : List (Str × Addr)) (fp : List Addr), EW (X.blk s H scope (compEnvC scope cl C X.env) fp) elt E)
    (s0 : Shared) (hs : ∀ x, foldedSetIterable iter X.env x = pure x := by intro _; rfl) : NW X (.ListComp elt [⟨tg, iter, ifs, 0⟩] scope pos) (wLc (own.map (·.2)) g T E U) := by
  have mt := (ht s0 (fun _ => none) 0 [] []).mono
  have me := (he s0 (fun _ => none) 0 [] []).mono
  exact ⟨wLc_mono hi.mono mt me, (pe_lc (g := tG X.K g (List.map (fun (z : Str × Nat) => z.2) own)) (tt := tT X.K T) (te := tW X.K E) hc hN hi.pi ok hg (fun s H C cl fp => (ht s H C cl fp).pts) (fun s H C cl fp => (he s H C cl fp).pe) hs).imp fun σ H Q h => lc_conv hi.mono mt me h⟩
/-- name = a new list -/
structure NS (X : Cx) (st : Stmt) (i : Nat) (T : TL) : Prop where
  mono : ∀ ρ K K', (∀ p, K p → K' p) → T ρ K → T ρ K'
  ps : PS X st (tAsg (tN X.K T) (gName i))
theorem tAsg_imp {t t' : TE} {g : TG} (k : ∀ σ H Q, t' σ H Q → t σ H Q) (D : Ends) (σ : St) (H : Hp) (h : tAsg t' g D σ H) : tAsg t g D σ H := k _ _ _ h
theorem ns_lc {i : Nat} {y : Str} {py spos : Pos} (hc : X.calm = true) (hN : X.N.Nodup) (hy : X.N[i]? = some y) (hyl : X.env.scope.names.lookup y = some .local)
    (hi : IW X tg iter U) (ok : BlkOk X.N X.env.scope scope own)
    (hg : ∀ (s : Shared) (H : Hp) (C : Addr) (cl : List (Str × Addr)) (fp : List Addr), GW (X.blk s H scope (compEnvC scope cl C X.env) fp) tg g (own.map (·.2)))
    (ht : ∀ (s : Shared) (H : Hp) (C : Addr) (cl : List (Str × Addr)) (fp : List Addr), TsW (X.blk s H scope (compEnvC scope cl C X.env) fp) ifs T)
    (he : ∀ (s : Shared) (H : Hp) (C : Addr) (cl : List (Str × Addr)) (fp : List Addr), EW (X.blk s H scope (compEnvC scope cl C X.env) fp) elt E)
    (s0 : Shared) (hsw : swapsWith (.ListComp elt [⟨tg, iter, ifs, 0⟩] scope pos) (some (.Name y py)) spos.line X.env = pure true) (hs : ∀ x, foldedSetIterable iter X.env x = pure x := by intro _; rfl) :
    NS X (.Assign [.Name y py] (.ListComp elt [⟨tg, iter, ifs, 0⟩] scope pos) spos) i (wLc (own.map (·.2)) g T E U) := by
  have mt := (ht s0 (fun _ => none) 0 [] []).mono
  have me := (he s0 (fun _ => none) 0 [] []).mono
  refine ⟨wLc_mono hi.mono mt me, ?_⟩
  have z := ps_setLc (py := py) (pos := pos) (spos := spos) (i := i) (g := tG X.K g (List.map (fun (z : Str × Nat) => z.2) own)) (tt := tT X.K T) (te := tW X.K E) hc hN hy hyl hsw hi.pi ok hg (fun s H C cl fp => (ht s H C cl fp).pts) (fun s H C cl fp => (he s H C cl fp).pe) hs
  exact z.imp fun D σ H h => tAsg_imp (fun σ H Q q => lc_conv hi.mono mt me q) D σ H h

/-- two clauses -/
def lcW2 (is is1 : List Nat) (g g1 : Tg) (T T1 : TB) (E : TW) (U1 : TL) (ρ : Rho) : List D → List D → (List D → Prop) → Prop
  | [], acc, K => K acc
  | p :: ps, acc, K => ∃ ρ', g p (wipeR ρ is) = some ρ' ∧ T ρ' (fun b => if b = true then noOwn ρ' is1 = true ∧ U1 ρ' (fun qs => lcW is1 g1 T1 E ρ' qs acc fun acc' => lcW2 is is1 g g1 T T1 E U1 ρ ps acc' K) else lcW2 is is1 g g1 T T1 E U1 ρ ps acc K)
theorem lcW2_mono {is is1 : List Nat} {ρ : Rho} (mu : ∀ ρ K K', (∀ p, K p → K' p) → U1 ρ K → U1 ρ K') (mt : ∀ ρ K K', (∀ p, K p → K' p) → T ρ K → T ρ K') (mt1 : ∀ ρ K K', (∀ p, K p → K' p) → T1 ρ K → T1 ρ K') (me : ∀ ρ K K', (∀ p, K p → K' p) → E ρ K → E ρ K') :
    ∀ (ps acc : List D) (K K' : List D → Prop), (∀ p, K p → K' p) → lcW2 is is1 g g1 T T1 E U1 ρ ps acc K → lcW2 is is1 g g1 T T1 E U1 ρ ps acc K'
  | [], _, _, _, h, q => h _ q
  | p :: ps, acc, K, K', h, ⟨ρ', e, q⟩ => ⟨ρ', e, mt _ _ _ (fun b k => by
      cases b with
      | true => exact ⟨k.1, mu _ _ _ (fun qs k2 => lcW_mono mt1 me qs _ _ _ (fun acc' k3 => lcW2_mono mu mt mt1 me ps _ K K' h k3) k2) k.2⟩
      | false => exact lcW2_mono mu mt mt1 me ps _ K K' h k) q⟩
def wLc2 (is is1 : List Nat) (g g1 : Tg) (T T1 : TB) (E : TW) (U U1 : TL) : TL := fun ρ K => noOwn ρ is = true ∧ U ρ fun ps => lcW2 is is1 g g1 T T1 E U1 ρ ps [] K
theorem lc2_conv {K : Fg} {is : List Nat} (mu : ∀ ρ K K', (∀ p, K p → K' p) → U ρ K → U ρ K') (mu1 : ∀ ρ K K', (∀ p, K p → K' p) → U1 ρ K → U1 ρ K') (mt : ∀ ρ K K', (∀ p, K p → K' p) → T ρ K → T ρ K') (mt1 : ∀ ρ K K', (∀ p, K p → K' p) → T1 ρ K → T1 ρ K') (me : ∀ ρ K K', (∀ p, K p → K' p) → E ρ K → E ρ K')
    {σ : St} {H : Hp} {Q : VK} (h : tN K (wLc2 is vs1 g g1 T T1 E U U1) σ H Q) : tLc2 (tI K U) (tG K g is) (tT K T) (tI K U1) (tG K g1 vs1) (tT K T1) (tW K E) is vs1 σ H Q := by
  obtain ⟨B, F, ρ, R, no, q⟩ := h
  refine ⟨B, F, ρ, R, mu _ _ _ (fun ps k F1 H1 J R1 s1 hz wk D hD => ?_) q⟩
  obtain ⟨p1, p2, p3⟩ := R1.fresh hD
  have hF : B.Fa D = none := R1.ext.free p2
  generalize hKc : (fun ps => ∀ F' H' a xs, Rs K B F' H' σ ρ → Same F F' → H' a = none → DpAll K F' xs ps → Q (.ref a) (upd H' a (.lst xs))) = Kc at k
  refine ⟨fun i m H => m = ps.length - i ∧ i ≤ ps.length ∧ LcInv K B F1 D σ ρ (fun ad => lcW2 is vs1 g g1 T T1 E U1 ρ (ps.drop i) ad Kc) H, ⟨ps.length, by simp, Nat.zero_le _, F1, [], [], R1.pin hD _, Same.refl _, .nil, k⟩, ?_⟩
  rintro i m H ⟨rfl, hi, F, acc, ad, R, s, d, q⟩
  have sH : Same F1 H := s.trans R.sub
  by_cases hlt : i < ps.length
  · refine .inr ⟨wk.go i H hlt sH, fun H' => LcInv K B F1 D σ ρ (fun ad => lcW2 is vs1 g g1 T T1 E U1 ρ (ps.drop (i + 1)) ad Kc) H', fun H' n => ⟨ps.length - (i + 1), by omega, rfl, hlt, n⟩, fun x H' hy => ?_⟩
    obtain ⟨p, hp, y⟩ := wk.yld i H x H' hlt sH hy
    have e0 : ps.drop i = p :: ps.drop (i + 1) := by
      rw [List.drop_eq_getElem_cons hlt]
      obtain ⟨_, e⟩ := List.getElem?_eq_some_iff.mp hp
      rw [e]
    rw [e0] at q
    obtain ⟨ρ', eg, q⟩ := q
    obtain ⟨F2, R2, s2, d2⟩ := yl_step (R.wipe is) s y
    refine ⟨_, F2, _, p, ρ', R2, d2, eg, fun σ' R3 hl hσ hρ => ⟨?_, ?_⟩⟩
    · have := wipe_eq (is := is) hl hσ
      rw [this]
      exact wipe_eq (wipe_length _ _) fun j hj => wipe_out hj
    · have hσ' : ∀ j, j ∉ is → σ'[j]? = σ[j]? := fun j hj => (hσ j hj).trans (wipe_out hj)
      have hρ' : ∀ j, j ∉ is → ρ'[j]? = ρ[j]? := fun j hj => (hρ j hj).trans (wipeR_out hj)
      refine ⟨_, F2, ρ', R3, mt _ _ _ (fun b k F3 H3 R4 s4 => ?_) q⟩
      cases b with
      | false => exact ⟨F3, acc, ad, R.back R4 (s2.trans s4) no hσ' hρ', (s.trans s2).trans s4, (d.same s2).same s4, k⟩
      | true =>
        obtain ⟨no1, k⟩ := k
        refine ⟨_, F3, ρ', R4, mu1 _ _ _ (fun qs k2 F4 H4 J1 R5 s5 hz1 wk1 => ?_) k⟩
        have s25 : Same F F4 := (s2.trans s4).trans s5
        have hpin := R5
        refine lc_walk (Kc := fun ad' => lcW2 is vs1 g g1 T T1 E U1 ρ (ps.drop (i + 1)) ad' Kc) (ad := ad) mt1 me p3 hF no1 wk1 (σ := σ') (ρ := ρ') (F1 := F4)
          ⟨F4, acc, ad, R5, Same.refl _, d.same s25, k2⟩ fun H6 ⟨F6, acc6, ad6, R6, s6, d6, k6⟩ => ?_
        have R' : Rs K (B.pin D (.lst acc6)) F H6 σ ρ → True := fun _ => trivial
        refine ⟨F6, acc6, ad6, ?_, (s.trans s25).trans s6, d6, k6⟩
        have U0 := R.unpin p3 hF p1
        have U6 := R6.unpin p3 hF p1
        have back := U0.back U6 (s25.trans s6) no hσ' hρ'
        -- the pin is put on again
        have q6 := R6.pinned p3 hF
        have z := (Rs.minus (R6) p3 hF p1)
        have bz := (U0.back (σ2 := σ') (ρ2 := ρ') (H' := minusH H6 D) (F' := F6) z (s25.trans s6) no hσ' hρ').pin (minusH_same H6 D) (.lst acc6)
        rw [upd_minus q6.1] at bz
        exact bz
  · have e : i = ps.length := by omega
    subst e
    rw [List.drop_length] at q
    refine .inl ⟨wk.stop H sH, ?_⟩
    subst hKc
    have e := upd_minus (R.pinned p3 hF).1
    rw [← e]
    exact q F _ D acc (R.minus p3 hF p1) (s1.trans s) (minusH_same _ _) d
theorem nw_lc2 (hc : X.calm = true) (hN : X.N.Nodup) (hi : IW X tg iter U) (ok : BlkOk X.N X.env.scope scope own) (hv : ∀ i ∈ vs1, i ∈ own.map (·.2))
    (hg : ∀ (s : Shared) (H : Hp) (C : Addr) (cl : List (Str × Addr)) (fp : List Addr), GW (X.blk s H scope (compEnvC scope cl C X.env) fp) tg g (own.map (·.2)))
    (ht : ∀ (s : Shared) (H : Hp) (C : Addr) (cl : List (Str × Addr)) (fp : List Addr), TsW (X.blk s H scope (compEnvC scope cl C X.env) fp) ifs T)
    (hi1 : ∀ (s : Shared) (H : Hp) (C : Addr) (cl : List (Str × Addr)) (fp : List Addr), IW (X.blk s H scope (compEnvC scope cl C X.env) fp) tg1 iter1 U1)
    (hg1 : ∀ (s : Shared) (H : Hp) (C : Addr) (cl : List (Str × Addr)) (fp : List Addr), GW (X.blk s H scope (compEnvC scope cl C X.env) fp) tg1 g1 vs1)
    (ht1 : ∀ (s : Shared) (H : Hp) (C : Addr) (cl : List (Str × Addr)) (fp : List Addr), TsW (X.blk s H scope (compEnvC scope cl C X.env) fp) ifs1 T1)
    (he : ∀ (s : Shared) (H : Hp) (C : Addr) (cl : List (Str × Addr)) (fp : List Addr), EW (X.blk s H scope (compEnvC scope cl C X.env) fp) elt E)
    (s0 : Shared) (hs : ∀ x, foldedSetIterable iter X.env x = pure x := by intro _; rfl) (hs1 : ∀ env x, foldedSetIterable iter1 env x = pure x := by intro _ _; rfl) :
    NW X (.ListComp elt [⟨tg, iter, ifs, 0⟩, ⟨tg1, iter1, ifs1, 0⟩] scope pos) (wLc2 (own.map (·.2)) vs1 g g1 T T1 E U U1) := by
  have mt := (ht s0 (fun _ => none) 0 [] []).mono
  have mt1 := (ht1 s0 (fun _ => none) 0 [] []).mono
  have mu1 := (hi1 s0 (fun _ => none) 0 [] []).mono
  have me := (he s0 (fun _ => none) 0 [] []).mono
  exact ⟨fun ρ K K' h ⟨n, q⟩ => ⟨n, hi.mono _ _ _ (fun ps k => lcW2_mono mu1 mt mt1 me ps _ K K' h k) q⟩,
    (pe_lc2 (g := tG X.K g (List.map (fun (z : Str × Nat) => z.2) own)) (tt := tT X.K T) (te := tW X.K E) (wi1 := tI X.K U1) (g1 := tG X.K g1 vs1) (tt1 := tT X.K T1) hc hN hi.pi ok hv hg (fun s H C cl fp => (ht s H C cl fp).pts) (fun s H C cl fp => (hi1 s H C cl fp).pi) hg1 (fun s H C cl fp => (ht1 s H C cl fp).pts) (fun s H C cl fp => (he s H C cl fp).pe) hs hs1).imp
      fun σ H Q h => lc2_conv hi.mono mu1 mt mt1 me h⟩
end

/-! ### by functions -/
def lcF (is : List Nat) (g : Tg) (t : Rho → Option Bool) (f : Rho → Option D) (ρ : Rho) : List D → Option (List D)
  | [] => some []
  | p :: ps => (g p (wipeR ρ is)).bind fun ρ' => (t ρ').bind fun b => if b = true then (f ρ').bind fun y => (lcF is g t f ρ ps).map fun ys => y :: ys else lcF is g t f ρ ps
theorem lcF_V {is : List Nat} {g : Tg} {t : Rho → Option Bool} {f : Rho → Option D} {ρ : Rho} : ∀ (ps acc out : List D) (K : List D → Prop), lcF is g t f ρ ps = some out → K (acc ++ out) → lcV is g (fW t) (fW f) ρ ps acc K
  | [], acc, out, K, e, k => by
    cases e
    rw [List.append_nil] at k
    exact k
  | p :: ps, acc, out, K, e, k => by
    unfold lcF at e
    obtain ⟨ρ', e1, e⟩ := Option.bind_eq_some_iff.mp e
    obtain ⟨b, e2, e⟩ := Option.bind_eq_some_iff.mp e
    refine ⟨ρ', e1, b, e2, ?_⟩
    cases b with
    | true =>
      obtain ⟨y, e3, e⟩ := Option.bind_eq_some_iff.mp e
      obtain ⟨ys, e4, rfl⟩ := Option.map_eq_some_iff.mp e
      exact ⟨y, e3, lcF_V ps _ ys K e4 (by rw [List.append_assoc]; exact k)⟩
    | false => exact lcF_V ps _ out K e k
def cLc (is : List Nat) (g : Tg) (t : Rho → Option Bool) (f : Rho → Option D) (u : Rho → Option (List D)) : Rho → Option (List D) := fun ρ => if noOwn ρ is = true then (u ρ).bind fun ps => lcF is g t f ρ ps else none
theorem cLc_w {is : List Nat} {g : Tg} {t : Rho → Option Bool} {f : Rho → Option D} {u : Rho → Option (List D)} (ρ : Rho) (K : List D → Prop) (h : fW (cLc is g t f u) ρ K) : wLc is g (fW t) (fW f) (fW u) ρ K := by
  obtain ⟨out, e, k⟩ := h
  unfold cLc at e
  split at e
  · rename_i no
    obtain ⟨ps, e1, e2⟩ := Option.bind_eq_some_iff.mp e
    exact ⟨no, ps, e1, lcF_V ps [] out K e2 k⟩
  · cases e
theorem NW.lc {X : Cx} {e : Expr} {is : List Nat} {g : Tg} {t : Rho → Option Bool} {f : Rho → Option D} {u : Rho → Option (List D)} (h : NW X e (wLc is g (fW t) (fW f) (fW u))) : NF X e (cLc is g t f u) := h.imp fW_mono cLc_w

def lcF2 (is is1 : List Nat) (g g1 : Tg) (t t1 : Rho → Option Bool) (f : Rho → Option D) (u1 : Rho → Option (List D)) (ρ : Rho) : List D → Option (List D)
  | [] => some []
  | p :: ps => (g p (wipeR ρ is)).bind fun ρ' => (t ρ').bind fun b => if b = true then (cLc is1 g1 t1 f u1 ρ').bind fun ys => (lcF2 is is1 g g1 t t1 f u1 ρ ps).map fun zs => ys ++ zs else lcF2 is is1 g g1 t t1 f u1 ρ ps
theorem lcF_W {is : List Nat} {g : Tg} {t : Rho → Option Bool} {f : Rho → Option D} {ρ : Rho} : ∀ (ps acc out : List D) (K : List D → Prop), lcF is g t f ρ ps = some out → acc.length + out.length ≤ sizeLine → K (acc ++ out) → lcW is g (fW t) (fW f) ρ ps acc K
  | [], acc, out, K, e, _, k => by
    cases e
    rw [List.append_nil] at k
    exact k
  | p :: ps, acc, out, K, e, hz, k => by
    unfold lcF at e
    obtain ⟨ρ', e1, e⟩ := Option.bind_eq_some_iff.mp e
    obtain ⟨b, e2, e⟩ := Option.bind_eq_some_iff.mp e
    refine ⟨ρ', e1, b, e2, ?_⟩
    cases b with
    | true =>
      obtain ⟨y, e3, e⟩ := Option.bind_eq_some_iff.mp e
      obtain ⟨ys, e4, rfl⟩ := Option.map_eq_some_iff.mp e
      rw [List.length_cons] at hz
      exact ⟨y, e3, by omega, lcF_W ps _ ys K e4 (by rw [List.length_append, List.length_singleton]; omega) (by rw [List.append_assoc]; exact k)⟩
    | false => exact lcF_W ps _ out K e hz k
theorem lcF2_W {is is1 : List Nat} {g g1 : Tg} {t t1 : Rho → Option Bool} {f : Rho → Option D} {u1 : Rho → Option (List D)} {ρ : Rho} : ∀ (ps acc out : List D) (K : List D → Prop), lcF2 is is1 g g1 t t1 f u1 ρ ps = some out → acc.length + out.length ≤ sizeLine → K (acc ++ out) →
    lcW2 is is1 g g1 (fW t) (fW t1) (fW f) (fW u1) ρ ps acc K
  | [], acc, out, K, e, _, k => by
    cases e
    rw [List.append_nil] at k
    exact k
  | p :: ps, acc, out, K, e, hz, k => by
    unfold lcF2 at e
    obtain ⟨ρ', e1, e⟩ := Option.bind_eq_some_iff.mp e
    obtain ⟨b, e2, e⟩ := Option.bind_eq_some_iff.mp e
    refine ⟨ρ', e1, b, e2, ?_⟩
    cases b with
    | true =>
      obtain ⟨ys, e3, e⟩ := Option.bind_eq_some_iff.mp e
      obtain ⟨zs, e4, rfl⟩ := Option.map_eq_some_iff.mp e
      rw [List.length_append] at hz
      unfold cLc at e3
      split at e3
      · rename_i no
        obtain ⟨qs, e5, e6⟩ := Option.bind_eq_some_iff.mp e3
        refine ⟨no, qs, e5, lcF_W qs _ ys _ e6 (by omega) (lcF2_W ps _ zs K e4 (by rw [List.length_append]; omega) (by rw [List.append_assoc]; exact k))⟩
      · cases e3
    | false => exact lcF2_W ps _ out K e hz k
def cLc2 (is is1 : List Nat) (g g1 : Tg) (t t1 : Rho → Option Bool) (f : Rho → Option D) (u u1 : Rho → Option (List D)) : Rho → Option (List D) := fun ρ => if noOwn ρ is = true then (u ρ).bind fun ps => (lcF2 is is1 g g1 t t1 f u1 ρ ps).bind fun out => if out.length ≤ sizeLine then some out else none else none
theorem NW.lc2 {X : Cx} {e : Expr} {is is1 : List Nat} {g g1 : Tg} {t t1 : Rho → Option Bool} {f : Rho → Option D} {u u1 : Rho → Option (List D)} (h : NW X e (wLc2 is is1 g g1 (fW t) (fW t1) (fW f) (fW u) (fW u1))) : NF X e (cLc2 is is1 g g1 t t1 f u u1) := h.imp fW_mono fun ρ K ⟨out, e, k⟩ => by
  unfold cLc2 at e
  split at e
  · rename_i no
    obtain ⟨ps, e1, e2⟩ := Option.bind_eq_some_iff.mp e
    obtain ⟨o, e3, e4⟩ := Option.bind_eq_some_iff.mp e2
    split at e4
    · rename_i hz
      cases e4
      exact ⟨no, ps, e1, lcF2_W ps [] out K e3 (by simpa using hz) k⟩
    · cases e4
  · cases e
end L2.P

set_option Elab.async false
set_option linter.all false
set_option maxRecDepth 100000
set_option maxHeartbeats 4000000
/-! PL6: displays, subscripts, isinstance, sums of sequences; statements; defs and their calls. -/
namespace L2.P
open PySem PySem.Spec PyProof.Rows L2

/-! ### displays -/
/-- the argument lists have so many items -/
def LenA (f : Rho → Option (List D)) (n : Nat) : Prop := ∀ ρ xs, f ρ = some xs → xs.length = n
theorem lenA_nil : LenA aNil 0 := fun _ _ e => by cases e; rfl
theorem lenA_cons {f : Rho → Option D} {g : Rho → Option (List D)} {n : Nat} (h : LenA g n) : LenA (aCons f g) (n + 1) := fun ρ xs e => by
  obtain ⟨x, e1, e⟩ := Option.bind_eq_some_iff.mp e
  obtain ⟨ys, e2, rfl⟩ := Option.map_eq_some_iff.mp e
  rw [List.length_cons, h ρ ys e2]
def LenW (T : TL) (n : Nat) : Prop := ∀ ρ K, T ρ K → T ρ fun ps => ps.length = n ∧ K ps
theorem lenW_nil : LenW wNil 0 := fun _ _ k => ⟨rfl, k⟩
theorem lenW_cons {X : Cx} {e : Expr} {T : TW} {U : TL} {n : Nat} (m : EW X e T) (h : LenW U n) (mu : ∀ ρ K K', (∀ p, K p → K' p) → U ρ K → U ρ K') : LenW (wCons T U) (n + 1) := fun ρ K q =>
  m.mono _ _ _ (fun x k => mu _ _ _ (fun xs (z : xs.length = n ∧ K (x :: xs)) => ⟨by rw [List.length_cons, z.1], z.2⟩) (h _ _ k)) q
def vTup (f : Rho → Option (List D)) : Rho → Option D := fun ρ => (f ρ).map PyData.tuple
section
variable {X : Cx} {e a b : Expr} {es : List Expr} {pos : Pos}
theorem ew_tup {T : TL} {x1} {n : Nat} (h : EA X es T) (hl : LenW T n) (hn : n ≤ 1000 := by decide) : EW X (.Tuple es x1 pos) (fun ρ K => T ρ fun ps => K (.tuple ps)) :=
  ⟨fun ρ K K' i q => h.mono _ _ _ (fun ps => i _) q, (pe_tup h.pa).imp fun σ H Q ⟨B, F, ρ, R, q⟩ => ⟨B, F, ρ, R, h.mono _ _ _ (fun ps k F1 H1 vs R1 s1 d1 => by
    refine ⟨?_, fun p hp => ?_⟩
    · rw [d1.length, k.1, sizeLine_eq]; omega
    · have n' := R1.sub.free hp
      exact k.2 _ _ _ (R1.grow hp) (s1.trans (same_upd n')) (.tup upd_same (d1.same (same_upd n')))) (hl _ _ q)⟩⟩
theorem ef_tup {f : Rho → Option (List D)} {x1} {n : Nat} (h : EAF X es f) (hl : LenA f n) (hn : n ≤ 1000 := by decide) : EF X (.Tuple es x1 pos) (vTup f) :=
  (ew_tup h (fun ρ K ⟨p, e, k⟩ => ⟨p, e, hl _ _ e, k⟩) hn).imp fW_mono fun ρ K ⟨p, e, k⟩ => by
    obtain ⟨ps, e1, rfl⟩ := Option.map_eq_some_iff.mp e
    exact ⟨ps, e1, k⟩
theorem nw_lst {T : TL} {n : Nat} (h : EA X es T) (hl : LenW T n) (hn : n ≤ 1000 := by decide) : NW X (.List es pos) T :=
  ⟨h.mono, (pe_lst h.pa).imp fun σ H Q ⟨B, F, ρ, R, q⟩ => ⟨B, F, ρ, R, h.mono _ _ _ (fun ps k F1 H1 vs R1 s1 d1 => by
    refine ⟨?_, fun p hp => k.2 F1 H1 p vs R1 s1 hp d1⟩
    rw [d1.length, k.1, sizeLine_eq]; omega) (hl _ _ q)⟩⟩
theorem nf_lst {f : Rho → Option (List D)} {n : Nat} (h : EAF X es f) (hl : LenA f n) (hn : n ≤ 1000 := by decide) : NF X (.List es pos) f := nw_lst h (fun ρ K ⟨p, e, k⟩ => ⟨p, e, hl _ _ e, k⟩) hn

/-! ### a[i] -/
def dIx : G2
  | .list xs, .int i => atI xs i
  | .tuple xs, .int i => atI xs i
  | .str z, .int i => if z.length ≤ sizeLine then (atI z.cps.toList i).map fun c => .str ⟨#[c]⟩ else none
  | _, _ => none
theorem atI_len {α β : Type} {xs : List α} {ys : List β} (h : xs.length = ys.length) {i : Int} {y : β} (e : atI ys i = some y) : ∃ j : Nat, ys[j]? = some y ∧ ∀ x, xs[j]? = some x → atI xs i = some x := by
  unfold atI at e ⊢
  obtain ⟨j, e1, e2⟩ := Option.bind_eq_some_iff.mp e
  refine ⟨j, e2, fun x hx => ?_⟩
  rw [h, e1]
  exact hx
theorem ix_ok {K : Fg} {B : Bs} {F H : Hp} {σ : St} {ρ : Rho} {x y : V} {p q z : D} {Q : VK} (R : Rs K B F H σ ρ) (hx : Pk K F σ ρ x p) (hy : Dp K H y q) (e : dIx p q = some z) (k : ∀ v, Dp K F v z → Q v H) : rIx K x y H Q := by
  unfold dIx at e
  split at e
  · obtain ⟨a, xs, rfl, r, h⟩ := pk_items R hx rfl
    obtain ⟨j, e1, e2⟩ := atI_len r.length e
    obtain ⟨v, hv, d⟩ := r.get e1
    rcases h with ⟨_, h⟩ | ⟨h, _⟩
    · exact .inl ⟨a, xs, _, v, rfl, Dp.inv_int hy, h, e2 v hv, k v d⟩
    · cases h
  · obtain ⟨a, xs, rfl, r, h⟩ := pk_items R hx rfl
    obtain ⟨j, e1, e2⟩ := atI_len r.length e
    obtain ⟨v, hv, d⟩ := r.get e1
    rcases h with ⟨h, _⟩ | ⟨_, h⟩
    · cases h
    · exact .inr (.inl ⟨a, xs, _, v, rfl, Dp.inv_int hy, sqT_same R.sub h, e2 v hv, k v d⟩)
  · split at e
    · rename_i hz
      obtain ⟨c, e1, rfl⟩ := Option.map_eq_some_iff.mp e
      exact .inr (.inr ⟨_, _, c, Dp.inv_str (hx.dp (Same.refl _) R), Dp.inv_int hy, hz, e1, k _ (.str _)⟩)
    · cases e
  · cases e
theorem ew_ix {T1 T2 : TW} (ha : XW X a T1) (hb : XW X b T2) (hs : PlainIx b := by intro _ _; rfl) : EW X (.Subscript a b pos) (w2 dIx T1 T2) :=
  ⟨w2_mono ha.mono hb.mono, (pe_ix ix_seq ha.pe hb.pe hs).imp fun σ H Q ⟨B, F, ρ, R, q⟩ => by
    refine ⟨B, F, ρ, R, ha.mono _ _ _ (fun x qx F1 H1 v1 R1 e1 d1 => ?_) q⟩
    refine ⟨B, F1, ρ, R1, hb.mono _ _ _ (fun y ⟨z, ez, qz⟩ F2 H2 v2 R2 e2 d2 => ?_) qx⟩
    exact ix_ok R2 (d1.mono e2) (d2.dp (Same.refl _) R2) ez fun v d => qz F2 H2 v R2 (e1.trans e2) d⟩
theorem ef_ix {f1 f2 : Rho → Option D} (ha : XF X a f1) (hb : XF X b f2) (hs : PlainIx b := by intro _ _; rfl) : EF X (.Subscript a b pos) (b2 dIx f1 f2) := (ew_ix ha hb hs).imp fW_mono b2_w
/-! -a -/
def dNeg : D → Option D
  | .int i => some (.int (-i))
  | _ => none
def vNeg (f : Rho → Option D) : Rho → Option D := fun ρ => (f ρ).bind dNeg
theorem ef_neg {f : Rho → Option D} (h : EF X a f) : EF X (.UnaryOp .USub a pos) (vNeg f) :=
  ⟨fW_mono, (pe_un un_neg h.pe).imp fun σ H Q ⟨B, F, ρ, R, p, e, q⟩ => by
    obtain ⟨x, e1, e2⟩ := Option.bind_eq_some_iff.mp e
    unfold dNeg at e2
    split at e2
    · cases e2
      exact ⟨B, F, ρ, R, _, e1, fun F' H' v R' e' d => ⟨_, Dp.inv_int d, q F' H' _ R' e' (.int _)⟩⟩
    · cases e2⟩
/-! ### a + b -/
def dAdd : G2
  | .int i, .int j => some (.int (i + j))
  | .list xs, .list ys => if xs.length + ys.length ≤ sizeLine then some (.list (xs ++ ys)) else none
  | .tuple xs, .tuple ys => if xs.length + ys.length ≤ sizeLine then some (.tuple (xs ++ ys)) else none
  | .str x, .str y => if x.length + y.length ≤ sizeLine then some (.str (x ++ y)) else none
  | _, _ => none
/-- list + list, a new list -/
def dCat : D → D → Option (List D)
  | .list xs, .list ys => if xs.length + ys.length ≤ sizeLine then some (xs ++ ys) else none
  | _, _ => none
theorem OpR.or {f : Value → Value → Sem Value} {r r' : R2} (h : OpR X f r) (h' : OpR X f r') : OpR X f (fun x y H Q => r x y H Q ∨ r' x y H Q) := by
  intro pins s σ H x y v u Q I rx ry q
  rcases q with q | q
  · exact h pins s σ H x y v u Q I rx ry q
  · exact h' pins s σ H x y v u Q I rx ry q
theorem og_add : OpG X (binaryOp .Add) dAdd := ⟨_, OpR.or op_add (OpR.or or_catL (OpR.or op_catA op_add_str)), fun B F H σ ρ x y p q z Q R hx hy e k => by
  unfold dAdd at e
  split at e
  · cases e
    exact .inl ⟨_, _, Dp.inv_int (hx.dp (Same.refl _) R), Dp.inv_int (hy.dp (Same.refl _) R), k F H _ R (Same.refl _) (.int _)⟩
  · split at e
    · rename_i hz
      cases e
      obtain ⟨a, xs, rfl, r1, h1⟩ := pk_items R hx rfl
      obtain ⟨b, ys, rfl, r2, h2⟩ := pk_items R hy rfl
      rcases h1 with ⟨_, h1⟩ | ⟨h1, _⟩
      · rcases h2 with ⟨_, h2⟩ | ⟨h2, _⟩
        · refine .inr (.inl ⟨a, b, xs, ys, rfl, rfl, h1, h2, by rw [r1.length, r2.length]; exact hz, fun p hp => ?_⟩)
          have n := R.sub.free hp
          exact k _ _ _ (R.grow hp) (same_upd n) (.lst (.inl (.inl upd_same)) ((r1.append r2).same (same_upd n)))
        · cases h2
      · cases h1
    · cases e
  · split at e
    · rename_i hz
      cases e
      obtain ⟨a, xs, rfl, r1, h1⟩ := pk_items R hx rfl
      obtain ⟨b, ys, rfl, r2, h2⟩ := pk_items R hy rfl
      rcases h1 with ⟨h1, _⟩ | ⟨_, h1⟩
      · cases h1
      · rcases h2 with ⟨h2, _⟩ | ⟨_, h2⟩
        · cases h2
        · refine .inr (.inr (.inl ⟨a, b, xs, ys, rfl, rfl, sqT_same R.sub h1, sqT_same R.sub h2, by rw [r1.length, r2.length]; exact hz, fun e => ?_, fun n e => ?_, fun _ _ p hp => ?_⟩))
          · subst e
            cases r1
            exact k F H _ R (Same.refl _) (pk_tup hy)
          · subst e
            cases r2
            rw [List.append_nil] at k
            exact k F H _ R (Same.refl _) (pk_tup hx)
          · have n := R.sub.free hp
            exact k _ _ _ (R.grow hp) (same_upd n) (.tup upd_same ((r1.append r2).same (same_upd n)))
    · cases e
  · split at e
    · rename_i hz
      cases e
      exact .inr (.inr (.inr ⟨_, _, Dp.inv_str (hx.dp (Same.refl _) R), Dp.inv_str (hy.dp (Same.refl _) R), hz, k F H _ R (Same.refl _) (.str _)⟩))
    · cases e
  · cases e⟩
/-! isinstance(a, T), isinstance(a, (T, U)) -/
def vIsi (T : String) (f : Rho → Option D) : Rho → Option D := fun ρ => (f ρ).map (gIsi T)
def vIsi2 (T U : String) (f : Rho → Option D) : Rho → Option D := fun ρ => (f ρ).map fun p => .bool (isiB (tyN p) T || isiB (tyN p) U)
theorem ef_isi {f : Rho → Option D} {T : String} {n : Str} {p p2 : Pos} (h : XF X a f) (hg : Gl X "isinstance") (hm : X.mg "isinstance" = none) (hgT : Gl X n) (hmT : X.mg n = none) (hvT : bootBuiltins n = some (.type T))
    (hT : T = "int" ∨ T = "bool" ∨ T = "str" ∨ T = "list" ∨ T = "tuple" := by decide) (hv : bootBuiltins "isinstance" = some (.builtin "isinstance") := by decide +kernel) (hn : n ≠ "__name__" := by decide) (hdb : (n == ("__debug__" : Str)) = false := by decide)
    (hs : starEach [a, .Name n p2] X.env = (false, eval a X.env) :: starEach [.Name n p2] X.env := by rfl) :
    EF X (.Call (.Name "isinstance" p) [a, .Name n p2] [] pos) (vIsi T f) :=
  ⟨fW_mono, (pe_callB call_isi hg hm hv (pa_cons h.pe (pa_cons (pe_bltn (v := .ty T) hgT hmT hvT rfl hn hdb) pa_nil) hs) (he := hs)).imp fun σ H Q ⟨B, F, ρ, R, z, e, q⟩ => by
    obtain ⟨x, e1, rfl⟩ := Option.map_eq_some_iff.mp e
    refine ⟨B, F, ρ, R, x, e1, fun F' H' v R' s' d => ?_⟩
    exact ⟨v, .ty T, _, _, _, rfl, .ty T, ty_of (d.dp (Same.refl _) R'), kit_ty (kit_isi T hT x), q F' H' _ R' s' (.bl _)⟩⟩
theorem ef_isi2 {f : Rho → Option D} {T U : String} {n m : Str} {k : Nat} {p p2 p3 p4 : Pos} (h : EF X a f) (hg : Gl X "isinstance") (hm : X.mg "isinstance" = none) (hgT : Gl X n) (hmT : X.mg n = none) (hvT : bootBuiltins n = some (.type T)) (hgU : Gl X m) (hmU : X.mg m = none) (hvU : bootBuiltins m = some (.type U))
    (hT : T = "int" ∨ T = "bool" ∨ T = "str" ∨ T = "list" ∨ T = "tuple" := by decide) (hU : U = "int" ∨ U = "bool" ∨ U = "str" ∨ U = "list" ∨ U = "tuple" := by decide) (hv : bootBuiltins "isinstance" = some (.builtin "isinstance") := by decide +kernel)
    (hn : n ≠ "__name__" := by decide) (hdb : (n == ("__debug__" : Str)) = false := by decide) (hn2 : m ≠ "__name__" := by decide) (hdb2 : (m == ("__debug__" : Str)) = false := by decide)
    (hs : starEach [a, .Tuple [.Name n p2, .Name m p3] k p4] X.env = (false, eval a X.env) :: starEach [.Tuple [.Name n p2, .Name m p3] k p4] X.env := by rfl) :
    EF X (.Call (.Name "isinstance" p) [a, .Tuple [.Name n p2, .Name m p3] k p4] [] pos) (vIsi2 T U f) :=
  ⟨fW_mono, (pe_callB call_isiT hg hm hv (pa_cons h.pe (pa_cons (pe_tup (pa_cons (pe_bltn (v := .ty T) hgT hmT hvT rfl hn hdb) (pa_cons (pe_bltn (v := .ty U) hgU hmU hvU rfl hn2 hdb2) pa_nil))) pa_nil) hs) (he := hs)).imp fun σ H Q ⟨B, F, ρ, R, z, e, q⟩ => by
    obtain ⟨x, e1, rfl⟩ := Option.map_eq_some_iff.mp e
    refine ⟨B, F, ρ, R, x, e1, fun F' H' v R' s' d => ⟨by show 2 ≤ sizeLine; decide, fun t ht => ?_⟩⟩
    have n' := R'.sub.free ht
    have R2 := R'.grow ht (o := .tup [.ty T, .ty U])
    refine ⟨v, t, _, _, [.type T, .type U], (isiB (tyN x) T || isiB (tyN x) U), rfl, upd_same, .cons (.ty T) (.cons (.ty U) .nil), ty_of ((d.same (same_upd n')).same R2.sub), ?_, q _ _ _ R2 (s'.trans (same_upd n')) (.bl _)⟩
    refine kitAny_cons (kit_ty (kit_isi T hT x)) (fun b1 => ?_) fun b1 => by rw [b1]; rfl
    rw [b1, Bool.false_or]
    exact kitAny_cons (kit_ty (kit_isi U hU x)) (fun b2 => by rw [b2]; exact kitAny_nil) fun b2 => b2⟩
end
end L2.P

set_option Elab.async false
set_option linter.all false
set_option maxRecDepth 100000
set_option maxHeartbeats 4000000
/-! PL7: statements; defs and their calls. -/
namespace L2.P
open PySem PySem.Spec PyProof.Rows L2

/-- how a statement ends -/
inductive Fl where
  | nx (ρ : Rho) | rt (p : D) | bk (ρ : Rho) | ct (ρ : Rho)
abbrev TSt := Rho → (Fl → Prop) → Prop
def endOk (K : Fg) (B : Bs) (F : Hp) (En : Ends) : Fl → Prop
  | .nx ρ' => ∀ F' H' σ', Rs K B F' H' σ' ρ' → Same F F' → En.nx σ' H'
  | .rt p => ∀ F' H' v, (∃ σ' ρ', Rs K B F' H' σ' ρ') → Same F F' → Dp K F' v p → En.rt v H'
  | .bk ρ' => ∀ F' H' σ', Rs K B F' H' σ' ρ' → Same F F' → En.bk σ' H'
  | .ct ρ' => ∀ F' H' σ', Rs K B F' H' σ' ρ' → Same F F' → En.ct σ' H'
theorem endOk.mono {K : Fg} {B : Bs} {F F' : Hp} {En : Ends} (s : Same F F') : ∀ {fl : Fl}, endOk K B F En fl → endOk K B F' En fl
  | .nx _, h => fun F2 H2 σ2 R2 s2 => h F2 H2 σ2 R2 (s.trans s2)
  | .rt _, h => fun F2 H2 v R2 s2 d => h F2 H2 v R2 (s.trans s2) d
  | .bk _, h => fun F2 H2 σ2 R2 s2 => h F2 H2 σ2 R2 (s.trans s2)
  | .ct _, h => fun F2 H2 σ2 R2 s2 => h F2 H2 σ2 R2 (s.trans s2)
def tS (K : Fg) (T : TSt) : TS := fun En σ H => ∃ B F ρ, Rs K B F H σ ρ ∧ T ρ (endOk K B F En)
structure SW (X : Cx) (st : Stmt) (T : TSt) : Prop where
  mono : ∀ ρ K K', (∀ p, K p → K' p) → T ρ K → T ρ K'
  ps : PS X st (tS X.K T)
structure SWs (X : Cx) (sts : List Stmt) (T : TSt) : Prop where
  mono : ∀ ρ K K', (∀ p, K p → K' p) → T ρ K → T ρ K'
  pss : PSs X sts (tS X.K T)
abbrev SF (X : Cx) (st : Stmt) (f : Rho → Option Fl) : Prop := SW X st (fW f)
abbrev SFs (X : Cx) (sts : List Stmt) (f : Rho → Option Fl) : Prop := SWs X sts (fW f)
theorem SW.imp {X : Cx} {st : Stmt} {T T' : TSt} (h : SW X st T) (m : ∀ ρ K K', (∀ p, K p → K' p) → T' ρ K → T' ρ K') (k : ∀ ρ K, T' ρ K → T ρ K) : SW X st T' := ⟨m, h.ps.imp fun _ _ _ ⟨B, F, ρ, R, q⟩ => ⟨B, F, ρ, R, k _ _ q⟩⟩
theorem SWs.imp {X : Cx} {st : List Stmt} {T T' : TSt} (h : SWs X st T) (m : ∀ ρ K K', (∀ p, K p → K' p) → T' ρ K → T' ρ K') (k : ∀ ρ K, T' ρ K → T ρ K) : SWs X st T' := ⟨m, h.pss.imp fun _ _ _ ⟨B, F, ρ, R, q⟩ => ⟨B, F, ρ, R, k _ _ q⟩⟩

/-! ### what happens to the slots -/
section
variable {K : Fg} {B : Bs} {F F' H H' : Hp} {σ σ' : St} {ρ ρ' : Rho}
theorem set_some {α : Type} {l : List α} {i j : Nat} {x y : α} (h : (l.set i x)[j]? = some y) : (i = j ∧ i < l.length ∧ y = x) ∨ (i ≠ j ∧ l[j]? = some y) := by
  by_cases e : i = j
  · subst e
    by_cases hl : i < l.length
    · rw [List.getElem?_set_self hl] at h
      cases h; exact .inl ⟨rfl, hl, rfl⟩
    · rw [List.getElem?_eq_none (by simpa using hl)] at h; cases h
  · rw [List.getElem?_set_ne e] at h
    exact .inr ⟨e, h⟩
/-- the object o is what the slot s tells, s a slot that owns a list or a dict -/
def Holds (K : Fg) (F : Hp) (o : HO) : Sl → Prop
  | .ol ps => ∃ xs, o = .lst xs ∧ DpAll K F xs ps
  | .od false kvs => ∃ es, o = .dK es ∧ DkAll K F es kvs
  | .od true kvs => ∃ es, o = .dT es ∧ DtAll K F es kvs
  | _ => False
theorem Holds.ok {o : HO} {s : Sl} {a : Addr} (h : Holds K F o s) (f : F a = none) (h0 : B.Ha a = none) (e : H a = some o) : SlOk K B F H (some (some (.ref a))) s := by
  cases s with
  | no => exact h.elim
  | v _ => exact h.elim
  | fz _ => exact h.elim
  | row => exact h.elim
  | ol ps => obtain ⟨xs, rfl, d⟩ := h; exact .ol f h0 e d
  | od t kvs =>
    cases t with
    | false => obtain ⟨es, rfl, d⟩ := h; exact .od f h0 ⟨es, e, d⟩
    | true => obtain ⟨es, rfl, d⟩ := h; exact .od f h0 ⟨es, e, d⟩
theorem Holds.owns {o : HO} {s : Sl} (h : Holds K F o s) : s.owns = true := by
  cases s with
  | no => exact h.elim
  | v _ => exact h.elim
  | fz _ => exact h.elim
  | row => exact h.elim
  | ol ps => rfl
  | od t kvs => rfl
theorem Holds.nt {o : HO} {s : Sl} (h : Holds K F o s) : ∀ xs, o ≠ .tup xs := by
  cases s with
  | no => exact h.elim
  | v _ => exact h.elim
  | fz _ => exact h.elim
  | row => exact h.elim
  | ol ps => obtain ⟨xs, rfl, d⟩ := h; intro _ z; cases z
  | od t kvs =>
    cases t with
    | false => obtain ⟨es, rfl, d⟩ := h; intro _ z; cases z
    | true => obtain ⟨es, rfl, d⟩ := h; intro _ z; cases z
theorem Holds.same {o : HO} {s : Sl} (h : Holds K F o s) (e : Same F F') : Holds K F' o s := by
  cases s with
  | no => exact h.elim
  | v _ => exact h.elim
  | fz _ => exact h.elim
  | row => exact h.elim
  | ol ps => obtain ⟨xs, rfl, d⟩ := h; exact ⟨xs, rfl, d.same e⟩
  | od t kvs =>
    cases t with
    | false => obtain ⟨es, rfl, d⟩ := h; exact ⟨es, rfl, d.same e⟩
    | true => obtain ⟨es, rfl, d⟩ := h; exact ⟨es, rfl, d.same e⟩
/-- a slot takes a new list that it alone holds -/
theorem Rs.putG {i : Nat} {a : Addr} {o : HO} {s0 : Sl} (R : Rs K B F H σ ρ) (n : H a = none) (hh : Holds K F o s0) : Rs K B F (upd H a o) (σ.set i (some (.ref a))) (ρ.set i s0) := by
  have L := R.lay n (o := o)
  obtain ⟨f1, f2, f3⟩ := R.fresh n
  refine ⟨L.sub, L.ext, L.new, L.old, L.hrow, L.hr2, by rw [List.length_set, List.length_set]; exact R.len, fun j s hs => ?_, fun j k c s t hjk h1 h2 o1 o2 e1 e2 => ?_⟩
  · rcases set_some hs with ⟨rfl, hl, rfl⟩ | ⟨ne, hs⟩
    · rw [List.getElem?_set_self (by rw [R.len]; exact hl)]
      exact hh.ok f2 f1 upd_same
    · rw [List.getElem?_set_ne ne]; exact L.at_ j s hs
  · have far : ∀ (l : Nat) (s : Sl), ρ[l]? = some s → s.owns = true → σ[l]? = some (some (V.ref a)) → False := fun l s hs o e => by
      have q := R.at_ l s hs
      rw [e] at q
      cases q with
      | no => cases o
      | v _ => cases o
      | fz _ _ => cases o
      | ol _ _ h _ => rw [n] at h; cases h
      | row _ _ h =>
        obtain ⟨u, hu⟩ := h.there
        rw [n] at hu; cases hu
      | od _ _ h =>
        obtain ⟨u, hu, _⟩ := h.there
        rw [n] at hu; cases hu
    rcases set_some h1 with ⟨rfl, hl, _⟩ | ⟨ne, h1n⟩
    · rw [List.getElem?_set_self (by rw [R.len]; exact hl)] at e1
      cases e1
      rcases set_some h2 with ⟨rfl, _⟩ | ⟨ne, h2n⟩
      · exact hjk rfl
      · rw [List.getElem?_set_ne ne] at e2
        exact far k t h2n o2 e2
    · rw [List.getElem?_set_ne ne] at e1
      rcases set_some h2 with ⟨rfl, hl, _⟩ | ⟨ne2, h2n⟩
      · rw [List.getElem?_set_self (by rw [R.len]; exact hl)] at e2
        cases e2
        exact far j s h1n o1 e1
      · rw [List.getElem?_set_ne ne2] at e2
        exact R.apart j k c s t hjk h1n h2n o1 o2 e1 e2
theorem Rs.putO {i : Nat} {a : Addr} {xs : List V} {ps : List D} (R : Rs K B F H σ ρ) (n : H a = none) (d : DpAll K F xs ps) : Rs K B F (upd H a (.lst xs)) (σ.set i (some (.ref a))) (ρ.set i (.ol ps)) := R.putG n ⟨xs, rfl, d⟩
/-- what a slot owns -/
theorem Rs.own {i : Nat} {ps : List D} (R : Rs K B F H σ ρ) (h : ρ[i]? = some (.ol ps)) : ∃ a xs, σ[i]? = some (some (.ref a)) ∧ F a = none ∧ B.Ha a = none ∧ H a = some (.lst xs) ∧ DpAll K F xs ps := by
  have q := R.at_ i _ h
  generalize hσ : σ[i]? = x at q
  cases q with
  | ol f h0 h1 r => exact ⟨_, _, rfl, f, h0, h1, r⟩
/-- .. in one word -/
theorem Rs.ownG {i : Nat} {s : Sl} (R : Rs K B F H σ ρ) (h : ρ[i]? = some s) (hs : s.owns = true) (nr : s ≠ .row) : ∃ a o, σ[i]? = some (some (.ref a)) ∧ F a = none ∧ B.Ha a = none ∧ H a = some o ∧ Holds K F o s := by
  have q := R.at_ i _ h
  generalize hσ : σ[i]? = x at q
  cases q with
  | no => cases hs
  | v _ => cases hs
  | fz _ _ => cases hs
  | row _ _ _ => exact absurd rfl nr
  | ol f h0 h1 r => exact ⟨_, _, rfl, f, h0, h1, _, rfl, r⟩
  | @od t a kvs f h0 h1 =>
    cases t with
    | false => obtain ⟨es, e, d⟩ := h1; exact ⟨a, _, rfl, f, h0, e, es, rfl, d⟩
    | true => obtain ⟨es, e, d⟩ := h1; exact ⟨a, _, rfl, f, h0, e, es, rfl, d⟩
/-- .. is changed -/
theorem Rs.setG {i : Nat} {a : Addr} {o : HO} {s0 s1 : Sl} (R : Rs K B F H σ ρ) (h : ρ[i]? = some s0) (hs0 : s0.owns = true) (nr0 : s0 ≠ .row) (hσ : σ[i]? = some (some (.ref a))) (hh : Holds K F o s1) :
    Rs K B F (upd H a o) σ (ρ.set i s1) := by
  obtain ⟨a', o', e, f, h0, h1, r⟩ := R.ownG h hs0 nr0
  rw [hσ] at e; cases e
  have hil : i < ρ.length := (List.getElem?_eq_some_iff.mp h).1
  have nr : B.r ≠ some a := fun e => by
    exact R.hr2 a e h0
  refine ⟨same_upd2 R.sub f, R.ext, R.new, fun b x hb e => ?_, fun r hr => ?_, R.hr2, by rw [List.length_set]; exact R.len, fun j s hs => ?_, fun j k c s t hjk h1' h2' o1 o2 e1 e2 => ?_⟩
  · rw [upd_ne (ne_of_none e h0)]; exact R.old b x hb e
  · obtain ⟨g1, g2⟩ := R.hrow r hr
    have ne : r ≠ a := fun e => nr (by rw [hr, e])
    exact ⟨g1, g2.mono (Same.refl _) fun o e => by rw [upd_ne ne]; exact e⟩
  · rcases set_some hs with ⟨rfl, hl, rfl⟩ | ⟨ne, hs⟩
    · rw [hσ]; exact hh.ok f h0 upd_same
    · have q := R.at_ j s hs
      have far : s.owns = true → σ[j]? = some (some (.ref a)) → False := fun o e => R.apart i j a _ s ne h hs hs0 o hσ e
      generalize hx : σ[j]? = x at q far
      cases q with
      | no => exact .no
      | v r => exact .v r
      | fz f d => exact .fz f d
      | @ol c zs rs g1 g2 g3 g4 => exact .ol g1 g2 (by rw [upd_ne (fun e => far rfl (by rw [e]))]; exact g3) g4
      | @od t c kvs g1 g2 g3 => exact .od g1 g2 (g3.mono (Same.refl _) fun o e => by rw [upd_ne (fun e => far rfl (by rw [e]))]; exact e)
      | @row c g1 g2 g3 => exact .row g1 g2 (g3.mono (Same.refl _) fun o e => by rw [upd_ne (fun e => far rfl (by rw [e]))]; exact e)
  · rcases set_some h1' with ⟨rfl, hl, _⟩ | ⟨ne, h1n⟩
    · rcases set_some h2' with ⟨rfl, _⟩ | ⟨ne, h2n⟩
      · exact hjk rfl
      · exact R.apart i k c _ t hjk h h2n hs0 o2 e1 e2
    · rcases set_some h2' with ⟨rfl, hl, _⟩ | ⟨ne2, h2n⟩
      · exact R.apart j i c s _ hjk h1n h o1 hs0 e1 e2
      · exact R.apart j k c s t hjk h1n h2n o1 o2 e1 e2
theorem Rs.setO {i : Nat} {a : Addr} {xs ys : List V} {ps qs : List D} (R : Rs K B F H σ ρ) (h : ρ[i]? = some (.ol ps)) (hσ : σ[i]? = some (some (.ref a))) (hH : H a = some (.lst xs)) (d : DpAll K F ys qs) :
    Rs K B F (upd H a (.lst ys)) σ (ρ.set i (.ol qs)) := R.setG h rfl (fun z => by cases z) hσ ⟨ys, rfl, d⟩
end
end L2.P

set_option Elab.async false
set_option linter.all false
set_option maxRecDepth 100000
set_option maxHeartbeats 4000000
/-! PL8: statements. -/
namespace L2.P
open PySem PySem.Spec PyProof.Rows L2
section
variable {X : Cx} {st : Stmt} {rest : List Stmt} {e : Expr} {pos spos : Pos}
/-! ### blocks -/
def wSeq (T U : TSt) : TSt := fun ρ K => T ρ fun fl => match fl with
  | .nx ρ' => U ρ' K
  | fl => K fl
def sSeq (f g : Rho → Option Fl) : Rho → Option Fl := fun ρ => match f ρ with
  | some (.nx ρ') => g ρ'
  | r => r
theorem sws_one {T : TSt} (h : SW X st T) : SWs X [st] T := ⟨h.mono, pss_one h.ps⟩
theorem sws_cons {T U : TSt} (h : SW X st T) (h2 : SWs X rest U) : SWs X (st :: rest) (wSeq T U) :=
  ⟨fun ρ K K' i q => h.mono _ _ _ (fun fl k => by
    cases fl with
    | nx ρ' => exact h2.mono _ _ _ i k
    | rt p => exact i _ k
    | bk p => exact i _ k
    | ct p => exact i _ k) q, (pss_cons h.ps h2.pss).imp fun En σ H ⟨B, F, ρ, R, q⟩ => ⟨B, F, ρ, R, h.mono _ _ _ (fun fl k => by
    cases fl with
    | nx ρ' => exact fun F' H' σ' R' s' => ⟨B, F', ρ', R', h2.mono _ _ _ (fun fl2 k2 => k2.mono s') k⟩
    | rt p => exact k
    | bk p => exact k
    | ct p => exact k) q⟩⟩
theorem sfs_cons {f g : Rho → Option Fl} (h : SF X st f) (h2 : SFs X rest g) : SFs X (st :: rest) (sSeq f g) := (sws_cons h h2).imp fW_mono fun ρ K ⟨p, e, k⟩ => by
  unfold sSeq at e
  cases q : f ρ with
  | none => rw [q] at e; cases e
  | some fl =>
    rw [q] at e
    refine ⟨fl, q, ?_⟩
    cases fl with
    | nx ρ' => exact ⟨p, e, k⟩
    | rt p => cases e; exact k
    | bk p => cases e; exact k
    | ct p => cases e; exact k
def sNil : Rho → Option Fl := fun ρ => some (.nx ρ)
theorem sfs_nil : SFs X [] sNil := ⟨fW_mono, pss_nil.imp fun En σ H ⟨B, F, ρ, R, p, e, q⟩ => by cases e; exact q F H σ R (Same.refl _)⟩
theorem sf_pass : SF X (.Pass pos) sNil := ⟨fW_mono, ps_pass.imp fun En σ H ⟨B, F, ρ, R, p, e, q⟩ => by cases e; exact q F H σ R (Same.refl _)⟩
theorem sf_doc {x j p2} : SF X (.Expr (.Constant (.str x) j pos) p2) sNil := ⟨fW_mono, ps_doc.imp fun En σ H ⟨B, F, ρ, R, p, e, q⟩ => by cases e; exact q F H σ R (Same.refl _)⟩
def sBrk : Rho → Option Fl := fun ρ => some (.bk ρ)
def sCnt : Rho → Option Fl := fun ρ => some (.ct ρ)
theorem sf_break : SF X (.Break pos) sBrk := ⟨fW_mono, ps_break.imp fun En σ H ⟨B, F, ρ, R, p, e, q⟩ => by cases e; exact q F H σ R (Same.refl _)⟩
theorem sf_continue : SF X (.Continue pos) sCnt := ⟨fW_mono, ps_continue.imp fun En σ H ⟨B, F, ρ, R, p, e, q⟩ => by cases e; exact q F H σ R (Same.refl _)⟩
def sNever : Rho → Option Fl := fun _ => none
theorem sf_never : SF X st sNever := ⟨fW_mono, ps_never.imp fun En σ H ⟨B, F, ρ, R, p, e, q⟩ => by cases e⟩
/-! ### return -/
def wRet (T : TW) : TSt := fun ρ K => T ρ fun p => K (.rt p)
def sRet (f : Rho → Option D) : Rho → Option Fl := fun ρ => (f ρ).map Fl.rt
theorem sw_ret {T : TW} (h : EW X e T) : SW X (.Return (some e) pos) (wRet T) :=
  ⟨fun ρ K K' i q => h.mono _ _ _ (fun p k => i _ k) q, (ps_ret h.pe).imp fun En σ H ⟨B, F, ρ, R, q⟩ => ⟨B, F, ρ, R, h.mono _ _ _ (fun p k F' H' v R' s d => k F' H' v ⟨σ, ρ, R'⟩ s d) q⟩⟩
theorem sf_ret {f : Rho → Option D} (h : EF X e f) : SF X (.Return (some e) pos) (sRet f) := (sw_ret h).imp fW_mono fun ρ K ⟨p, e, k⟩ => by
  obtain ⟨q, e1, rfl⟩ := Option.map_eq_some_iff.mp e
  exact ⟨q, e1, k⟩
def sRetN : Rho → Option Fl := fun _ => some (.rt .none)
theorem sf_retN : SF X (.Return none pos) sRetN := ⟨fW_mono, ps_retN.imp fun En σ H ⟨B, F, ρ, R, p, e, q⟩ => by cases e; exact q F H .non ⟨σ, ρ, R⟩ (Same.refl _) .non⟩
/-- a slot's list is frozen -/
theorem Rs.freezeG {K : Fg} {B : Bs} {F H : Hp} {σ : St} {ρ : Rho} {i : Nat} {s0 : Sl} {p : D} (R : Rs K B F H σ ρ) (h : ρ[i]? = some s0) (hs0 : s0.owns = true) (nr0 : s0 ≠ .row) (hp : ∀ (a : Addr) (o : HO) (F' : Hp), F' a = some o → Holds K F' o s0 → Dp K F' (.ref a) p) : ∃ F' v, Rs K B F' H σ (ρ.set i (.v p)) ∧ Same F F' ∧ σ[i]? = some (some v) ∧ Dp K F' v p := by
  obtain ⟨a, o, hσ, f, h0, h1, r⟩ := R.ownG h hs0 nr0
  have hil : i < ρ.length := (List.getElem?_eq_some_iff.mp h).1
  have s : Same F (upd F a o) := same_upd f
  have dd : Dp K (upd F a o) (.ref a) p := hp a o _ upd_same (r.same s)
  refine ⟨upd F a o, .ref a, ⟨fun b x e => ?_, fun b x e => s b x (R.ext b x e), fun b h2 h3 => ?_, R.old, fun r hr => ?_, R.hr2, by rw [List.length_set]; exact R.len, fun j t ht => ?_, fun j k c t u hjk h1' h2' o1 o2 e1 e2 => ?_⟩, s, hσ, dd⟩
  · by_cases q : b = a
    · subst q; rw [upd_same] at e; rw [h1]; exact e
    · rw [upd_ne q] at e; exact R.sub b x e
  · by_cases q : b = a
    · subst q; exact .inl h0
    · rw [upd_ne q] at h3; exact R.new b h2 h3
  · obtain ⟨g1, g2⟩ := R.hrow r hr
    have ne : r ≠ a := fun e => R.hr2 r hr (by rw [e]; exact h0)
    exact ⟨by rw [upd_ne ne]; exact g1, g2.mono s fun o e => e⟩
  · rcases set_some ht with ⟨rfl, hl, rfl⟩ | ⟨ne, ht⟩
    · rw [hσ]; exact .v dd
    · have q := R.at_ j t ht
      have far : t.owns = true → σ[j]? = some (some (V.ref a)) → False := fun o e => R.apart i j a _ t ne h ht hs0 o hσ e
      generalize hx : σ[j]? = x at q far
      cases q with
      | no => exact .no
      | v r => exact .v (r.same s)
      | fz f d => exact .fz (s _ _ f) (d.same s)
      | @ol c zs rs g1 g2 g3 g4 => exact .ol (by rw [upd_ne (fun e => far rfl (by rw [e]))]; exact g1) g2 g3 (g4.same s)
      | @od t c kvs g1 g2 g3 => exact .od (by rw [upd_ne (fun e => far rfl (by rw [e]))]; exact g1) g2 (g3.mono s fun o e => e)
      | @row c g1 g2 g3 => exact .row (by rw [upd_ne (fun e => far rfl (by rw [e]))]; exact g1) g2 (g3.mono s fun o e => e)
  · rcases set_some h1' with ⟨rfl, hl, rfl⟩ | ⟨ne, h1'⟩
    · cases o1
    · rcases set_some h2' with ⟨rfl, hl, rfl⟩ | ⟨ne2, h2'⟩
      · cases o2
      · exact R.apart j k c t u hjk h1' h2' o1 o2 e1 e2
theorem Rs.freeze {K : Fg} {B : Bs} {F H : Hp} {σ : St} {ρ : Rho} {i : Nat} {ps : List D} (R : Rs K B F H σ ρ) (h : ρ[i]? = some (.ol ps)) : ∃ F' v, Rs K B F' H σ (ρ.set i (.v (.list ps))) ∧ Same F F' ∧ σ[i]? = some (some v) ∧ Dp K F' v (.list ps) :=
  R.freezeG h rfl (fun z => by cases z) fun a o F' e hh => by obtain ⟨xs, rfl, d⟩ := hh; exact .lst (.inl (.inl e)) d
theorem Rs.freezeD {K : Fg} {B : Bs} {F H : Hp} {σ : St} {ρ : Rho} {i : Nat} {t : Bool} {kvs : List (D × D)} (R : Rs K B F H σ ρ) (h : ρ[i]? = some (.od t kvs)) : ∃ F' v, Rs K B F' H σ (ρ.set i (.v (.dict kvs))) ∧ Same F F' ∧ σ[i]? = some (some v) ∧ Dp K F' v (.dict kvs) :=
  R.freezeG h rfl (fun z => by cases z) fun a o F' e hh => by
    cases t with
    | false => obtain ⟨es, rfl, d⟩ := hh; exact .dk e d
    | true => obtain ⟨es, rfl, d⟩ := hh; exact .dt e d
/-- return x, x a list of this def's own -/
theorem sw_retx {T : TW} (h : XW X e T) : SW X (.Return (some e) pos) (wRet T) :=
  ⟨fun ρ K K' i q => h.mono _ _ _ (fun p k => i _ k) q, (ps_ret h.pe).imp fun En σ H ⟨B, F, ρ, R, q⟩ => ⟨B, F, ρ, R, h.mono _ _ _ (fun p k F' H' v R' s d => by
    rcases d with d | ⟨i, ps, h1, h2, rfl⟩ | ⟨i, t, kvs, h1, h2, rfl⟩
    · exact k F' H' v ⟨σ, ρ, R'⟩ s d
    · obtain ⟨F2, v2, R2, s2, e2, d2⟩ := R'.freeze h1
      rw [h2] at e2
      cases e2
      exact k F2 H' v ⟨σ, _, R2⟩ (s.trans s2) d2
    · obtain ⟨F2, v2, R2, s2, e2, d2⟩ := R'.freezeD h1
      rw [h2] at e2
      cases e2
      exact k F2 H' v ⟨σ, _, R2⟩ (s.trans s2) d2) q⟩⟩
theorem sf_retx {f : Rho → Option D} (h : XF X e f) : SF X (.Return (some e) pos) (sRet f) := (sw_retx h).imp fW_mono fun ρ K ⟨p, e, k⟩ => by
  obtain ⟨q, e1, rfl⟩ := Option.map_eq_some_iff.mp e
  exact ⟨q, e1, k⟩
/-- ahead of a block: lists of this def's own are frozen from here on -/
def frz (ρ : Rho) : List Nat → Rho
  | [] => ρ
  | i :: is => match (frz ρ is)[i]? with
    | some (.ol ps) => (frz ρ is).set i (.v (.list ps))
    | some (.od _ kvs) => (frz ρ is).set i (.v (.dict kvs))
    | _ => frz ρ is
theorem Rs.frz {K : Fg} {B : Bs} {F H : Hp} {σ : St} {ρ : Rho} (R : Rs K B F H σ ρ) : ∀ is : List Nat, ∃ F', Rs K B F' H σ (frz ρ is) ∧ Same F F'
  | [] => ⟨F, R, Same.refl _⟩
  | i :: is => by
    obtain ⟨F', R', s⟩ := Rs.frz R is
    unfold P.frz
    split
    · rename_i ps h
      obtain ⟨F2, v, R2, s2, _⟩ := R'.freeze h
      exact ⟨F2, R2, s.trans s2⟩
    · rename_i t kvs h
      obtain ⟨F2, v, R2, s2, _⟩ := R'.freezeD h
      exact ⟨F2, R2, s.trans s2⟩
    · exact ⟨F', R', s⟩
theorem sws_frz {T : TSt} (is : List Nat) (h : SWs X rest T) : SWs X rest (fun ρ K => T (frz ρ is) K) :=
  ⟨fun ρ K K' i q => h.mono _ _ _ i q, h.pss.imp fun En σ H ⟨B, F, ρ, R, q⟩ => by
    obtain ⟨F', R', s⟩ := R.frz is
    exact ⟨B, F', _, R', h.mono _ _ _ (fun fl k => k.mono s) q⟩⟩
theorem sfs_frz {f : Rho → Option Fl} (is : List Nat) (h : SFs X rest f) : SFs X rest (fun ρ => f (frz ρ is)) := (sws_frz is h).imp fW_mono fun ρ K q => q
/-! ### names set -/
def wSet (i : Nat) (T : TW) : TSt := fun ρ K => T ρ fun p => K (.nx (ρ.set i (.v p)))
def sSet (i : Nat) (f : Rho → Option D) : Rho → Option Fl := fun ρ => (f ρ).map fun p => .nx (ρ.set i (.v p))
theorem sw_set {i : Nat} {x : Str} {T : TW} {p' : Pos} (hN : X.N.Nodup) (hi : X.N[i]? = some x) (hx : Loc X.env.scope x) (h : EW X e T) (hs : swapsWith e (some (.Name x p')) pos.line X.env = pure false := by rfl)
    (hf : X.fn x = true ∨ X.env.scope.names.lookup x = some .local := by first | exact .inl rfl | exact .inr rfl | assumption) : SW X (.Assign [.Name x p'] e pos) (wSet i T) :=
  ⟨fun ρ K K' k q => h.mono _ _ _ (fun p => k _) q, (ps_set hN hi hx h.pe hs hf).imp fun En σ H ⟨B, F, ρ, R, q⟩ => ⟨B, F, ρ, R, h.mono _ _ _ (fun p k F' H' v R' s d => k F' H' _ (R'.put (.v d) rfl) s) q⟩⟩
theorem sf_set {i : Nat} {x : Str} {f : Rho → Option D} {p' : Pos} (hN : X.N.Nodup) (hi : X.N[i]? = some x) (hx : Loc X.env.scope x) (h : EF X e f) (hs : swapsWith e (some (.Name x p')) pos.line X.env = pure false := by rfl)
    (hf : X.fn x = true ∨ X.env.scope.names.lookup x = some .local := by first | exact .inl rfl | exact .inr rfl | assumption) : SF X (.Assign [.Name x p'] e pos) (sSet i f) := (sw_set hN hi hx h hs hf).imp fW_mono fun ρ K ⟨p, e, k⟩ => by
  obtain ⟨q, e1, rfl⟩ := Option.map_eq_some_iff.mp e
  exact ⟨q, e1, k⟩
/-! a new list -/
theorem ns_set {i : Nat} {x : Str} {T : TL} {p' : Pos} (hN : X.N.Nodup) (hi : X.N[i]? = some x) (hx : Loc X.env.scope x) (h : NW X e T) (hs : swapsWith e (some (.Name x p')) pos.line X.env = pure false := by rfl)
    (hf : X.fn x = true ∨ X.env.scope.names.lookup x = some .local := by first | exact .inl rfl | exact .inr rfl | assumption) : NS X (.Assign [.Name x p'] e pos) i T := ⟨h.mono, ps_set hN hi hx h.pe hs hf⟩
def wSetO (i : Nat) (T : TL) : TSt := fun ρ K => T ρ fun p => K (.nx (ρ.set i (.ol p)))
def sSetO (i : Nat) (f : Rho → Option (List D)) : Rho → Option Fl := fun ρ => (f ρ).map fun p => .nx (ρ.set i (.ol p))
def wSetL (i : Nat) (T : TL) : TSt := fun ρ K => T ρ fun p => K (.nx (ρ.set i (.v (.list p))))
def sSetL (i : Nat) (f : Rho → Option (List D)) : Rho → Option Fl := fun ρ => (f ρ).map fun p => .nx (ρ.set i (.v (.list p)))
theorem NS.o {i : Nat} {T : TL} (h : NS X st i T) : SW X st (wSetO i T) :=
  ⟨fun ρ K K' k q => h.mono _ _ _ (fun p => k _) q, h.ps.imp fun En σ H ⟨B, F, ρ, R, q⟩ => ⟨B, F, ρ, R, h.mono _ _ _ (fun p k F' H' a xs R' s n d => k F' _ _ (R'.putO n d) s) q⟩⟩
theorem NS.l {i : Nat} {T : TL} (h : NS X st i T) : SW X st (wSetL i T) :=
  ⟨fun ρ K K' k q => h.mono _ _ _ (fun p => k _) q, h.ps.imp fun En σ H ⟨B, F, ρ, R, q⟩ => ⟨B, F, ρ, R, h.mono _ _ _ (fun p k F' H' a xs R' s n d => by
    have n' := R'.sub.free n
    exact k _ _ _ ((R'.grow n).put (.v (.lst (.inl (.inl upd_same)) (d.same (same_upd n')))) rfl) (s.trans (same_upd n'))) q⟩⟩
theorem NS.imp {i : Nat} {T T' : TL} (h : NS X st i T) (m : ∀ ρ K K', (∀ p, K p → K' p) → T' ρ K → T' ρ K') (k : ∀ ρ K, T' ρ K → T ρ K) : NS X st i T' := ⟨m, h.ps.imp fun D σ H q => tAsg_imp (t := tN X.K T) (t' := tN X.K T') (fun _ _ _ ⟨B, F, ρ, R, q⟩ => ⟨B, F, ρ, R, k _ _ q⟩) D σ H q⟩
abbrev NSF (X : Cx) (st : Stmt) (i : Nat) (f : Rho → Option (List D)) : Prop := NS X st i (fW f)
theorem NS.lc {i : Nat} {is : List Nat} {g : Tg} {t : Rho → Option Bool} {f : Rho → Option D} {u : Rho → Option (List D)} (h : NS X st i (wLc is g (fW t) (fW f) (fW u))) : NSF X st i (cLc is g t f u) := h.imp fW_mono cLc_w
theorem NSF.so {i : Nat} {f : Rho → Option (List D)} (h : NSF X st i f) : SF X st (sSetO i f) := (NS.o h).imp fW_mono fun ρ K ⟨p, e, k⟩ => by
  obtain ⟨q, e1, rfl⟩ := Option.map_eq_some_iff.mp e
  exact ⟨q, e1, k⟩
theorem NSF.sl {i : Nat} {f : Rho → Option (List D)} (h : NSF X st i f) : SF X st (sSetL i f) := (NS.l h).imp fW_mono fun ρ K ⟨p, e, k⟩ => by
  obtain ⟨q, e1, rfl⟩ := Option.map_eq_some_iff.mp e
  exact ⟨q, e1, k⟩
/-! a, b = e; a, b = e1, e2 -/
def wAsg (g : Tg) (T : TW) : TSt := fun ρ K => T ρ fun p => ∃ ρ', g p ρ = some ρ' ∧ K (.nx ρ')
def sAsg (g : Tg) (f : Rho → Option D) : Rho → Option Fl := fun ρ => (f ρ).bind fun p => (g p ρ).map Fl.nx
theorem sw_asg {tg : Expr} {g : Tg} {is : List Nat} {T : TW} (h : EW X e T) (hg : GW X tg g is) (hs : swapsWithSole [tg] e pos.line X.env = pure false := by rfl) (hw : swappedStores [tg] e X.env = pure none := by rfl)
    (h1 : (assignEach [tg] X.env).map (·.2) = [assign tg X.env] := by rfl) : SW X (.Assign [tg] e pos) (wAsg g T) :=
  ⟨fun ρ K K' k q => h.mono _ _ _ (fun p ⟨ρ', e, z⟩ => ⟨ρ', e, k _ z⟩) q, (ps_asg h.pe hg hs hw h1).imp fun En σ H ⟨B, F, ρ, R, q⟩ => ⟨B, F, ρ, R, h.mono _ _ _ (fun p ⟨ρ', eg, k⟩ F' H' v R' s d =>
    ⟨B, F', ρ, p, ρ', R', d, eg, fun σ' R2 _ _ _ => k F' H' σ' R2 s⟩) q⟩⟩
theorem sf_asg {tg : Expr} {g : Tg} {is : List Nat} {f : Rho → Option D} (h : EF X e f) (hg : GW X tg g is) (hs : swapsWithSole [tg] e pos.line X.env = pure false := by rfl) (hw : swappedStores [tg] e X.env = pure none := by rfl)
    (h1 : (assignEach [tg] X.env).map (·.2) = [assign tg X.env] := by rfl) : SF X (.Assign [tg] e pos) (sAsg g f) := (sw_asg h hg hs hw h1).imp fW_mono fun ρ K ⟨p, e, k⟩ => by
  obtain ⟨q, e1, e2⟩ := Option.bind_eq_some_iff.mp e
  obtain ⟨ρ', e3, rfl⟩ := Option.map_eq_some_iff.mp e2
  exact ⟨q, e1, ρ', e3, k⟩
def wPar (i j : Nat) (T : TL) : TSt := fun ρ K => T ρ fun ps => ∃ a b, ps = [a, b] ∧ K (.nx ((ρ.set i (.v a)).set j (.v b)))
def sPar (i j : Nat) (f : Rho → Option (List D)) : Rho → Option Fl := fun ρ => (f ρ).bind fun ps => match ps with
  | [a, b] => some (.nx ((ρ.set i (.v a)).set j (.v b)))
  | _ => none
theorem sw_par {i j : Nat} {x y : Str} {a b : Expr} {T : TL} {px py pt : Pos} {kt k2 pt2} (hc : X.calm = true) (hN : X.N.Nodup) (hi : X.N[i]? = some x) (hj : X.N[j]? = some y) (hij : i ≠ j)
    (hx : X.env.scope.names.lookup x = some .local) (hy : X.env.scope.names.lookup y = some .local) (h : EA X [a, b] T)
    (hw : swappedStores [.Tuple [.Name x px, .Name y py] kt pt] (.Tuple [a, b] k2 pt2) X.env = pure (some [x, y]))
    (hs : swapsWithSole [.Tuple [.Name x px, .Name y py] kt pt] (.Tuple [a, b] k2 pt2) pos.line X.env = pure false := by rfl) :
    SW X (.Assign [.Tuple [.Name x px, .Name y py] kt pt] (.Tuple [a, b] k2 pt2) pos) (wPar i j T) :=
  ⟨fun ρ K K' k q => h.mono _ _ _ (fun p ⟨a, b, e, z⟩ => ⟨a, b, e, k _ z⟩) q, (ps_par hc hN hi hj hij hx hy h.pa hw hs).imp fun En σ H ⟨B, F, ρ, R, q⟩ => ⟨B, F, ρ, R, h.mono _ _ _ (fun p ⟨a, b, e, k⟩ F' H' vs R' s d => by
    subst e
    obtain ⟨v, u, rfl, d1, d2⟩ := dp2 d
    exact ⟨v, u, rfl, k F' H' _ ((R'.put (.v d1) rfl).put (.v d2) rfl) s⟩) q⟩⟩
theorem sf_par {i j : Nat} {x y : Str} {a b : Expr} {f : Rho → Option (List D)} {px py pt : Pos} {kt k2 pt2} (hc : X.calm = true) (hN : X.N.Nodup) (hi : X.N[i]? = some x) (hj : X.N[j]? = some y) (hij : i ≠ j)
    (hx : X.env.scope.names.lookup x = some .local) (hy : X.env.scope.names.lookup y = some .local) (h : EAF X [a, b] f)
    (hw : swappedStores [.Tuple [.Name x px, .Name y py] kt pt] (.Tuple [a, b] k2 pt2) X.env = pure (some [x, y]))
    (hs : swapsWithSole [.Tuple [.Name x px, .Name y py] kt pt] (.Tuple [a, b] k2 pt2) pos.line X.env = pure false := by rfl) :
    SF X (.Assign [.Tuple [.Name x px, .Name y py] kt pt] (.Tuple [a, b] k2 pt2) pos) (sPar i j f) := (sw_par hc hN hi hj hij hx hy h hw hs).imp fW_mono fun ρ K ⟨p, e, k⟩ => by
  obtain ⟨q, e1, e2⟩ := Option.bind_eq_some_iff.mp e
  split at e2
  · cases e2; exact ⟨_, e1, _, _, rfl, k⟩
  · cases e2
/-! x += e, ints -/
def sAug (i : Nat) (f : Rho → Option D) : Rho → Option Fl := fun ρ => match ρ[i]? with
  | some (.v (.int a)) => (f ρ).bind fun p => match p with
    | .int b => some (.nx (ρ.set i (.v (.int (a + b)))))
    | _ => none
  | _ => none
theorem sf_aug {i : Nat} {x : Str} {f : Rho → Option D} {p' : Pos} (hN : X.N.Nodup) (hi : X.N[i]? = some x) (hx : Loc X.env.scope x) (h : EF X e f)
    (hf : X.fn x = true ∨ X.env.scope.names.lookup x = some .local := by first | exact .inl rfl | exact .inr rfl | assumption) : SF X (.AugAssign (.Name x p') .Add e pos) (sAug i f) :=
  ⟨fW_mono, (ps_aug hN hi hx h.pe ip_add hf).imp fun En σ H ⟨B, F, ρ, R, p, e, q⟩ => by
    unfold sAug at e
    split at e
    · rename_i a ha
      obtain ⟨z, e1, e2⟩ := Option.bind_eq_some_iff.mp e
      split at e2
      · cases e2
        have at_i := R.at_ i _ ha
        generalize hσ : σ[i]? = o at at_i
        cases at_i with
        | v r =>
          refine ⟨_, hσ, B, F, ρ, R, _, e1, fun F' H' v R' s d => ⟨_, _, Dp.inv_int r, Dp.inv_int d, q F' H' _ (R'.put (.v (.int _)) rfl) s⟩⟩
      · cases e2
    · cases e⟩
/-! ### an expression alone; x.append(e), x.extend(new list) -/
def sDrop (f : Rho → Option D) : Rho → Option Fl := fun ρ => (f ρ).map fun _ => .nx ρ
theorem sf_expr {f : Rho → Option D} (h : EF X e f) (hs : swapsWith e none pos.line X.env = pure false := by rfl) : SF X (.Expr e pos) (sDrop f) :=
  ⟨fW_mono, (ps_expr h.pe hs).imp fun En σ H ⟨B, F, ρ, R, p, e, q⟩ => by
    obtain ⟨z, e1, rfl⟩ := Option.map_eq_some_iff.mp e
    exact ⟨B, F, ρ, R, z, e1, fun F' H' v R' s d => q F' H' σ R' s⟩⟩
def wApp (i : Nat) (T : TW) : TSt := fun ρ K => ∃ ps, ρ[i]? = some (.ol ps) ∧ T ρ fun p => ps.length < sizeLine ∧ K (.nx (ρ.set i (.ol (ps ++ [p]))))
def sApp (i : Nat) (f : Rho → Option D) : Rho → Option Fl := fun ρ => match ρ[i]? with
  | some (.ol ps) => (f ρ).bind fun p => if ps.length < sizeLine then some (.nx (ρ.set i (.ol (ps ++ [p])))) else none
  | _ => none
theorem sw_app {i : Nat} {x : Str} {T : TW} {p1 p2 p3 : Pos} (hN : X.N[i]? = some x) (hv : Vis X.env.scope x) (h : EW X e T) (hd : (x == ("__debug__" : Str)) = false := by decide) (hcd : (x == ("__classdict__" : Str)) = false := by decide)
    (hbase : attributeBase (.Name x p1) "append" X.env (eval (.Name x p1) X.env) = eval (.Name x p1) X.env := by rfl)
    (hfew : ((backTo p3 (starEach [e] X.env)).all (fun x => !x.1) && (backToKw p3 (keywordEach [] X.env)).all (fun x => x.1.isSome) && decide (([e] : List Expr).length + ([] : List Keyword).length + (if ([] : List Keyword).isEmpty then 0 else 1) < 30)) = true := by rfl)
    (hline : (p2.endLine == p3.line) = true := by rfl) (hs : starEach [e] X.env = (false, eval e X.env) :: starEach [] X.env := by rfl) (hs2 : swapsWith (.Call (.Attribute (.Name x p1) "append" p2) [e] [] p3) none pos.line X.env = pure false := by rfl) :
    SW X (.Expr (.Call (.Attribute (.Name x p1) "append" p2) [e] [] p3) pos) (wApp i T) :=
  ⟨fun ρ K K' k ⟨ps, e1, q⟩ => ⟨ps, e1, h.mono _ _ _ (fun p z => ⟨z.1, k _ z.2⟩) q⟩,
    (ps_expr (pe_bm PySem.F.plainAttrs_list PySem.F.slot_list_append PySem.F.type_list_append mt_append (pe_var hN hv hd hcd) (pa_cons h.pe pa_nil hs) hbase hfew hline hs rfl) hs2).imp fun En σ H ⟨B, F, ρ, R, ps, ei, q⟩ => by
      obtain ⟨a, xs, hσ, f, h0, h1, r⟩ := R.own ei
      refine ⟨.ref a, hσ, .inl ⟨rfl, xs, .inl (.inl h1)⟩, B, F, ρ, R, h.mono _ _ _ (fun p k F' H' v R' s d => ?_) q⟩
      obtain ⟨a', xs', hσ', f', h0', h1', r'⟩ := R'.own ei
      rw [hσ] at hσ'; cases hσ'
      have hl := r'.length
      exact ⟨a, xs', v, rfl, rfl, h1', by rw [hl]; exact k.1, k.2 F' _ σ (R'.setO ei hσ h1' (r'.append (.cons d .nil))) s⟩⟩
theorem sf_app {i : Nat} {x : Str} {fe : Rho → Option D} {p1 p2 p3 : Pos} (hN : X.N[i]? = some x) (hv : Vis X.env.scope x) (h : EF X e fe) (hd : (x == ("__debug__" : Str)) = false := by decide) (hcd : (x == ("__classdict__" : Str)) = false := by decide)
    (hbase : attributeBase (.Name x p1) "append" X.env (eval (.Name x p1) X.env) = eval (.Name x p1) X.env := by rfl)
    (hfew : ((backTo p3 (starEach [e] X.env)).all (fun x => !x.1) && (backToKw p3 (keywordEach [] X.env)).all (fun x => x.1.isSome) && decide (([e] : List Expr).length + ([] : List Keyword).length + (if ([] : List Keyword).isEmpty then 0 else 1) < 30)) = true := by rfl)
    (hline : (p2.endLine == p3.line) = true := by rfl) (hs : starEach [e] X.env = (false, eval e X.env) :: starEach [] X.env := by rfl) (hs2 : swapsWith (.Call (.Attribute (.Name x p1) "append" p2) [e] [] p3) none pos.line X.env = pure false := by rfl) :
    SF X (.Expr (.Call (.Attribute (.Name x p1) "append" p2) [e] [] p3) pos) (sApp i fe) := (sw_app hN hv h hd hcd hbase hfew hline hs hs2).imp fW_mono fun ρ K ⟨p, e, k⟩ => by
  unfold sApp at e
  split at e
  · rename_i ps hp
    obtain ⟨z, e1, e2⟩ := Option.bind_eq_some_iff.mp e
    split at e2
    · rename_i hz
      cases e2
      exact ⟨ps, hp, z, e1, hz, k⟩
    · cases e2
  · cases e
/-! ### if -/
def wIfS (t : TB) (T U : TSt) : TSt := fun ρ K => t ρ fun b => if b = true then T ρ K else U ρ K
def sIf (t : Rho → Option Bool) (f g : Rho → Option Fl) : Rho → Option Fl := fun ρ => (t ρ).bind fun b => if b = true then f ρ else g ρ
theorem sw_if {c : Expr} {a b : List Stmt} {t : TB} {T U : TSt} (h : TWT X c t) (h1 : SWs X a T) (h2 : SWs X b U) : SW X (.If c a b pos) (wIfS t T U) :=
  ⟨fun ρ K K' i q => h.mono _ _ _ (fun b k => by
    cases b with
    | true => exact h1.mono _ _ _ i k
    | false => exact h2.mono _ _ _ i k) q, (ps_if h.pt h1.pss h2.pss).imp fun En σ H ⟨B, F, ρ, R, q⟩ => ⟨B, F, ρ, R, h.mono _ _ _ (fun b k F' H' R' s => by
      cases b with
      | true => exact ⟨B, F', ρ, R', h1.mono _ _ _ (fun fl z => z.mono s) k⟩
      | false => exact ⟨B, F', ρ, R', h2.mono _ _ _ (fun fl z => z.mono s) k⟩) q⟩⟩
theorem sf_if {c : Expr} {a b : List Stmt} {t : Rho → Option Bool} {f g : Rho → Option Fl} (h : TF X c t) (h1 : SFs X a f) (h2 : SFs X b g) : SF X (.If c a b pos) (sIf t f g) := (sw_if h h1 h2).imp fW_mono fun ρ K ⟨p, e, k⟩ => by
  obtain ⟨d, e1, e2⟩ := Option.bind_eq_some_iff.mp e
  refine ⟨d, e1, ?_⟩
  cases d with
  | true => exact ⟨p, e2, k⟩
  | false => exact ⟨p, e2, k⟩
/-! ### for -/
def forW (g : Tg) (T : TSt) : List D → Rho → (Fl → Prop) → Prop
  | [], ρ, K => K (.nx ρ)
  | p :: ps, ρ, K => ∃ ρ', g p ρ = some ρ' ∧ T ρ' fun fl => match fl with
    | .nx ρ2 => forW g T ps ρ2 K
    | .ct ρ2 => forW g T ps ρ2 K
    | .bk ρ2 => K (.nx ρ2)
    | .rt v => K (.rt v)
theorem forW_mono {g : Tg} {T : TSt} (m : ∀ ρ K K', (∀ p, K p → K' p) → T ρ K → T ρ K') : ∀ (ps : List D) (ρ : Rho) (K K' : Fl → Prop), (∀ p, K p → K' p) → forW g T ps ρ K → forW g T ps ρ K'
  | [], _, _, _, h, q => h _ q
  | p :: ps, ρ, K, K', h, ⟨ρ', e, q⟩ => ⟨ρ', e, m _ _ _ (fun fl k => by
      cases fl with
      | nx ρ2 => exact forW_mono m ps ρ2 K K' h k
      | ct ρ2 => exact forW_mono m ps ρ2 K K' h k
      | bk ρ2 => exact h _ k
      | rt v => exact h _ k) q⟩
def forF (g : Tg) (f : Rho → Option Fl) : List D → Rho → Option Fl
  | [], ρ => some (.nx ρ)
  | p :: ps, ρ => (g p ρ).bind fun ρ' => match f ρ' with
    | some (.nx ρ2) => forF g f ps ρ2
    | some (.ct ρ2) => forF g f ps ρ2
    | some (.bk ρ2) => some (.nx ρ2)
    | some (.rt v) => some (.rt v)
    | none => none
theorem forF_W {g : Tg} {f : Rho → Option Fl} : ∀ (ps : List D) (ρ : Rho) (out : Fl) (K : Fl → Prop), forF g f ps ρ = some out → K out → forW g (fW f) ps ρ K
  | [], ρ, out, K, e, k => by cases e; exact k
  | p :: ps, ρ, out, K, e, k => by
    unfold forF at e
    obtain ⟨ρ', e1, e⟩ := Option.bind_eq_some_iff.mp e
    refine ⟨ρ', e1, ?_⟩
    split at e
    · rename_i ρ2 h; exact ⟨_, h, forF_W ps ρ2 out K e k⟩
    · rename_i ρ2 h; exact ⟨_, h, forF_W ps ρ2 out K e k⟩
    · rename_i ρ2 h; cases e; exact ⟨_, h, k⟩
    · rename_i v h; cases e; exact ⟨_, h, k⟩
    · cases e
def wFor (g : Tg) (U : TL) (T : TSt) : TSt := fun ρ K => U ρ fun ps => forW g T ps ρ K
def sFor (g : Tg) (u : Rho → Option (List D)) (f : Rho → Option Fl) : Rho → Option Fl := fun ρ => (u ρ).bind fun ps => forF g f ps ρ
theorem sw_for {tg iter : Expr} {body : List Stmt} {g : Tg} {is : List Nat} {U : TL} {T : TSt} (hp : PassesOwn (model X.prog X.w) X.A X.env X.xe) (hc : X.calm = true) (hi : IW X tg iter U) (hg : GW X tg g is) (hb : SWs X body T)
    (hs : ∀ x, foldedSetIterable iter X.env x = pure x := by intro _; rfl) : SW X (.For tg iter body [] pos) (wFor g U T) := by
  refine ⟨fun ρ K K' h q => hi.mono _ _ _ (fun ps k => forW_mono hb.mono ps ρ K K' h k) q, (ps_for hp hc hi.pi hg hb.pss hs).imp fun En σ H ⟨B, F, ρ, R, q⟩ => ⟨B, F, ρ, R, hi.mono _ _ _ (fun ps k F1 H1 J R1 s1 hz wk => ?_) q⟩⟩
  refine ⟨fun i m σ H => m = ps.length - i ∧ i ≤ ps.length ∧ ∃ F2 ρ2, Rs X.K B F2 H σ ρ2 ∧ Same F1 F2 ∧ forW g T (ps.drop i) ρ2 (endOk X.K B F En), ⟨ps.length, by simp, Nat.zero_le _, F1, ρ, R1, Same.refl _, k⟩, ?_⟩
  rintro i m σ2 H2 ⟨rfl, hi2, F2, ρ2, R2, s2, q2⟩
  have sH : Same F1 H2 := s2.trans R2.sub
  by_cases hlt : i < ps.length
  · refine .inr ⟨wk.go i H2 hlt sH, fun σ' H' => ∃ F3 ρ3, Rs X.K B F3 H' σ' ρ3 ∧ Same F1 F3 ∧ forW g T (ps.drop (i + 1)) ρ3 (endOk X.K B F En), fun σ' H' n => ⟨ps.length - (i + 1), by omega, rfl, hlt, n⟩, fun x H' hy => ?_⟩
    obtain ⟨p, hp', y⟩ := wk.yld i H2 x H' hlt sH hy
    have e0 : ps.drop i = p :: ps.drop (i + 1) := by
      rw [List.drop_eq_getElem_cons hlt]
      obtain ⟨_, e⟩ := List.getElem?_eq_some_iff.mp hp'
      rw [e]
    rw [e0] at q2
    obtain ⟨ρ', eg, q2⟩ := q2
    obtain ⟨F3, R3, s3, d3⟩ := yl_step R2 s2 y
    refine ⟨B, F3, ρ2, p, ρ', R3, d3, eg, fun σ' R4 _ _ _ => ⟨B, F3, ρ', R4, hb.mono _ _ _ (fun fl k => ?_) q2⟩⟩
    have sF : Same F F3 := (s1.trans s2).trans s3
    cases fl with
    | nx ρ3 => exact fun F4 H4 σ4 R5 s5 => ⟨F4, ρ3, R5, (s2.trans s3).trans s5, k⟩
    | ct ρ3 => exact fun F4 H4 σ4 R5 s5 => ⟨F4, ρ3, R5, (s2.trans s3).trans s5, k⟩
    | bk ρ3 => exact fun F4 H4 σ4 R5 s5 => k F4 H4 σ4 R5 (sF.trans s5)
    | rt v => exact fun F4 H4 u R5 s5 d5 => k F4 H4 u R5 (sF.trans s5) d5
  · have e : i = ps.length := by omega
    subst e
    rw [List.drop_length] at q2
    exact .inl ⟨wk.stop H2 sH, q2 F2 H2 σ2 R2 (s1.trans s2)⟩
theorem sf_for {tg iter : Expr} {body : List Stmt} {g : Tg} {is : List Nat} {u : Rho → Option (List D)} {f : Rho → Option Fl} (hp : PassesOwn (model X.prog X.w) X.A X.env X.xe) (hc : X.calm = true) (hi : IF X tg iter u) (hg : GW X tg g is) (hb : SFs X body f)
    (hs : ∀ x, foldedSetIterable iter X.env x = pure x := by intro _; rfl) : SF X (.For tg iter body [] pos) (sFor g u f) := (sw_for hp hc hi hg hb hs).imp fW_mono fun ρ K ⟨p, e, k⟩ => by
  obtain ⟨ps, e1, e2⟩ := Option.bind_eq_some_iff.mp e
  exact ⟨ps, e1, forF_W ps ρ p K e2 k⟩
/-! ### while -/
def whW (t : TB) (T : TSt) : Nat → Rho → (Fl → Prop) → Prop
  | 0, _, _ => False
  | n + 1, ρ, K => t ρ fun b => if b = true then T ρ fun fl => match fl with
      | .nx ρ2 => whW t T n ρ2 K
      | .ct ρ2 => whW t T n ρ2 K
      | .bk ρ2 => K (.nx ρ2)
      | .rt v => K (.rt v)
    else K (.nx ρ)
theorem whW_mono {t : TB} {T : TSt} (mt : ∀ ρ K K', (∀ p, K p → K' p) → t ρ K → t ρ K') (m : ∀ ρ K K', (∀ p, K p → K' p) → T ρ K → T ρ K') : ∀ (n : Nat) (ρ : Rho) (K K' : Fl → Prop), (∀ p, K p → K' p) → whW t T n ρ K → whW t T n ρ K'
  | 0, _, _, _, _, q => q
  | n + 1, ρ, K, K', h, q => mt _ _ _ (fun b k => by
    cases b with
    | false => exact h _ k
    | true => exact m _ _ _ (fun fl z => by
      cases fl with
      | nx ρ2 => exact whW_mono mt m n ρ2 K K' h z
      | ct ρ2 => exact whW_mono mt m n ρ2 K K' h z
      | bk ρ2 => exact h _ z
      | rt v => exact h _ z) k) q
def whF (t : Rho → Option Bool) (f : Rho → Option Fl) : Nat → Rho → Option Fl
  | 0, _ => none
  | n + 1, ρ => (t ρ).bind fun b => if b = true then match f ρ with
      | some (.nx ρ2) => whF t f n ρ2
      | some (.ct ρ2) => whF t f n ρ2
      | some (.bk ρ2) => some (.nx ρ2)
      | some (.rt v) => some (.rt v)
      | none => none
    else some (.nx ρ)
theorem whF_W {t : Rho → Option Bool} {f : Rho → Option Fl} : ∀ (n : Nat) (ρ : Rho) (out : Fl) (K : Fl → Prop), whF t f n ρ = some out → K out → whW (fW t) (fW f) n ρ K
  | 0, _, _, _, e, _ => by cases e
  | n + 1, ρ, out, K, e, k => by
    unfold whF at e
    obtain ⟨b, e1, e⟩ := Option.bind_eq_some_iff.mp e
    refine ⟨b, e1, ?_⟩
    cases b with
    | false => cases e; exact k
    | true =>
      rw [if_pos rfl] at e
      show fW f ρ _
      split at e
      · rename_i ρ2 h; exact ⟨_, h, whF_W n ρ2 out K e k⟩
      · rename_i ρ2 h; exact ⟨_, h, whF_W n ρ2 out K e k⟩
      · rename_i ρ2 h; cases e; exact ⟨_, h, k⟩
      · rename_i v h; cases e; exact ⟨_, h, k⟩
      · cases e
def wWh (t : TB) (T : TSt) : TSt := fun ρ K => ∃ n, whW t T n ρ K
theorem sw_while {c : Expr} {body : List Stmt} {t : TB} {T : TSt} (hp : PassesOwn (model X.prog X.w) X.A X.env X.xe) (hc : TWT X c t) (hb : SWs X body T) : SW X (.While c body [] pos) (wWh t T) := by
  refine ⟨fun ρ K K' h ⟨n, q⟩ => ⟨n, whW_mono hc.mono hb.mono n ρ K K' h q⟩, (ps_while hp hc.pt hb.pss).imp fun En σ H ⟨B, F, ρ, R, n, q⟩ => ?_⟩
  refine ⟨fun m σ H => ∃ F2 ρ2, Rs X.K B F2 H σ ρ2 ∧ Same F F2 ∧ whW t T m ρ2 (endOk X.K B F En), ⟨n, F, ρ, R, Same.refl _, q⟩, ?_⟩
  rintro m σ2 H2 ⟨F2, ρ2, R2, s2, q2⟩
  cases m with
  | zero => exact q2.elim
  | succ m =>
    refine ⟨B, F2, ρ2, R2, hc.mono _ _ _ (fun b k F3 H3 R3 s3 => ?_) q2⟩
    cases b with
    | false => exact k F3 H3 σ2 R3 (s2.trans s3)
    | true =>
      refine ⟨fun σ' H' => ∃ F3 ρ3, Rs X.K B F3 H' σ' ρ3 ∧ Same F F3 ∧ whW t T m ρ3 (endOk X.K B F En), fun σ' H' z => ⟨m, Nat.lt_succ_self _, z⟩, B, F3, ρ2, R3, hb.mono _ _ _ (fun fl z => ?_) k⟩
      have sF : Same F F3 := s2.trans s3
      cases fl with
      | nx ρ3 => exact fun F4 H4 σ4 R5 s5 => ⟨F4, ρ3, R5, sF.trans s5, z⟩
      | ct ρ3 => exact fun F4 H4 σ4 R5 s5 => ⟨F4, ρ3, R5, sF.trans s5, z⟩
      | bk ρ3 => exact fun F4 H4 σ4 R5 s5 => z F4 H4 σ4 R5 (sF.trans s5)
      | rt v => exact fun F4 H4 u R5 s5 d5 => z F4 H4 u R5 (sF.trans s5) d5
theorem sf_while (n : Nat) {c : Expr} {body : List Stmt} {t : Rho → Option Bool} {f : Rho → Option Fl} (hp : PassesOwn (model X.prog X.w) X.A X.env X.xe) (hc : TF X c t) (hb : SFs X body f) : SF X (.While c body [] pos) (whF t f n) :=
  (sw_while hp hc hb).imp fW_mono fun ρ K ⟨p, e, k⟩ => ⟨n, whF_W n ρ p K e k⟩
end
end L2.P

set_option Elab.async false
set_option linter.all false
set_option maxRecDepth 100000
set_option maxHeartbeats 4000000
/-! PL9: defs and their calls. -/
namespace L2.P
open PySem PySem.Spec PyProof.Rows L2

/-! ### promises -/
/-- a def of n parameters: its result is a function of its arguments' data -/
def spF (K : Fg) (n : Nat) (T : List D → (D → Prop) → Prop) : Sp := fun vs H Q _ => vs.length = n ∧ ∃ F ps, Same F H ∧ DpAll K F vs ps ∧
  T ps fun p => ∀ F' H' v, Same F F' → Same H H' → Same F' H' → (∀ b, F b = none → F' b ≠ none → Fz (H b)) → Dp K F' v p → Q v H'
/-- a def whose first argument is the row of draws -/
def spR (K : Fg) (n : Nat) (T : List D → (D → Prop) → Prop) : Sp := fun vs H Q _ => vs.length = n + 1 ∧ ∃ r us F ps, vs = .ref r :: us ∧ Same F H ∧ F r = none ∧ RowOk K F H r ∧ DpAll K F us ps ∧
  T ps fun p => ∀ F' H' v, Same F F' → SameX (some r) H H' → Same F' H' → (∀ b, F b = none → F' b ≠ none → Fz (H b)) → RowOk K F' H' r → Dp K F' v p → Q v H'
/-- a def that may be called: its level k -/
def Cal (P : Program) (w : World) (K : Fg) (mg : Str → Option Value) (base : Heap) (A : Around) (x : Str) (sp : Sp) : Prop :=
  ∃ (k : Nat) (f : Addr) (fd : FuncData) (ps : List Str), FnOk P w K mg base CX0 k f fd ps sp ∧ Room k A ∧ mg x = some (.ref f) ∧ PySem.W.keepIn K (.ref f) = true ∧ Binds K fd ps []
abbrev CalX (X : Cx) (x : Str) (sp : Sp) : Prop := Cal X.prog X.w X.K X.mg X.base X.A x sp
section
variable {K : Fg} {B : Bs} {F F' H H' : Hp} {σ : St} {ρ : Rho}
/-- behind a call of a def -/
theorem Rs.call (R : Rs K B F H σ ρ) (s : Same F F') (sH : Same H H') (sF : Same F' H') (fr : ∀ b, F b = none → F' b ≠ none → Fz (H b)) : Rs K B F' H' σ ρ where
  sub := sF
  ext := R.ext.trans s
  new := fun b h1 h2 => by
    cases q : F b with
    | none => exact R.fz (fr b q h2)
    | some u => exact R.new b h1 (by rw [q]; simp)
  old := fun b x hb e => sH b x (R.old b x hb e)
  hrow := fun r hr => by
    obtain ⟨h1, h2⟩ := R.hrow r hr
    obtain ⟨u, hu, nt⟩ := h2.thereN
    refine ⟨?_, h2.mono s fun o e => sH _ _ e⟩
    cases q : F' r with
    | none => rfl
    | some z =>
      rcases fr r h1 (by rw [q]; simp) with this | ⟨xs, this⟩
      · rw [hu] at this; cases this
      · rw [hu] at this; exact absurd (Option.some.inj this) (nt xs)
  hr2 := R.hr2
  len := R.len
  at_ := fun i t ht => (R.at_ i t ht).mono s (fun a f ⟨o, q, nt⟩ => by
    cases z : F' a with
    | none => rfl
    | some u =>
      rcases fr a f (by rw [z]; simp) with this | ⟨xs, this⟩
      · rw [q] at this; cases this
      · rw [q] at this; exact absurd (Option.some.inj this) (nt xs)) fun a o f q => sH _ _ q
  apart := R.apart
/-- behind a call of a def that draws: the row is r -/
theorem Rs.callR {r : Addr} {i : Nat} (R : Rs K B F H σ ρ) (hi : ρ[i]? = some .row) (hσ : σ[i]? = some (some (.ref r))) (s : Same F F') (sH : SameX (some r) H H') (sF : Same F' H') (fr : ∀ b, F b = none → F' b ≠ none → Fz (H b)) (ok : RowOk K F' H' r) : Rs K B F' H' σ ρ := by
  have q := R.at_ i _ hi
  rw [hσ] at q
  obtain ⟨f0, h0, ok0⟩ : F r = none ∧ (B.Ha r = none ∨ B.r = some r) ∧ RowOk K F H r := by
    cases q with
    | row a b c => exact ⟨a, b, c⟩
  have fre : ∀ a, F a = none → (∃ o, H a = some o ∧ ∀ xs, o ≠ HO.tup xs) → F' a = none := fun a f ⟨o, q, nt⟩ => by
    cases z : F' a with
    | none => rfl
    | some u =>
      rcases fr a f (by rw [z]; simp) with this | ⟨xs, this⟩
      · rw [q] at this; cases this
      · rw [q] at this; exact absurd (Option.some.inj this) (nt xs)
  refine ⟨sF, R.ext.trans s, fun b h1 h2 => ?_, fun b x hb e => ?_, fun r' hr => ?_, R.hr2, R.len, fun j t ht => ?_, R.apart⟩
  · cases q : F b with
    | none => exact R.fz (fr b q h2)
    | some u => exact R.new b h1 (by rw [q]; simp)
  · refine sH b x (fun z => ?_) (R.old b x hb e)
    cases z
    rcases h0 with h0 | h0
    · rw [h0] at e; cases e
    · exact hb h0.symm
  · obtain ⟨h1, h2⟩ := R.hrow r' hr
    refine ⟨fre r' h1 h2.thereN, ?_⟩
    by_cases e : r' = r
    · subst e; exact ok
    · exact h2.mono s fun o z => sH _ _ (fun y => e (by cases y; rfl)) z
  · by_cases e : i = j
    · subst e
      rw [hi] at ht; cases ht
      rw [hσ]
      exact .row (fre r f0 ok0.thereN) h0 ok
    · have q2 := R.at_ j t ht
      have far : t.owns = true → σ[j]? = some (some (V.ref r)) → False := fun o e2 => R.apart i j r _ t e hi ht rfl o hσ e2
      generalize hx : σ[j]? = x at q2 far
      cases q2 with
      | no => exact .no
      | v d => exact .v (d.same s)
      | fz f d => exact .fz (s _ _ f) (d.same s)
      | @ol c zs rs g1 g2 g3 g4 => exact .ol (fre _ g1 ⟨_, g3, fun _ z => by cases z⟩) g2 (sH _ _ (fun y => far rfl (by cases y; rfl)) g3) (g4.same s)
      | @od t c kvs g1 g2 g3 => exact .od (fre _ g1 g3.there) g2 (g3.mono s fun o z => sH _ _ (fun y => far rfl (by cases y; rfl)) z)
      | @row c g1 g2 g3 => exact .row (fre _ g1 g3.thereN) g2 (g3.mono s fun o z => sH _ _ (fun y => far rfl (by cases y; rfl)) z)
end

/-! ### calls -/
section
variable {X : Cx} {x : Str} {p pos : Pos} {e : Expr} {es : List Expr} {n : Nat}
def wCal (T : List D → (D → Prop) → Prop) (U : TL) : TW := fun ρ K => U ρ fun ps => T ps K
theorem sp_ok {K : Fg} {U : TL} {T : List D → (D → Prop) → Prop} (mt : ∀ ps K K', (∀ p, K p → K' p) → T ps K → T ps K') (mu : ∀ ρ K K', (∀ p, K p → K' p) → U ρ K → U ρ K') (hl : LenW U n) {σ : St} {H : Hp} {Q : VK} (h : tW K (wCal T U) σ H Q) : tCall (spF K n T) [] E0 (tEA K U) σ H Q := by
  obtain ⟨B, F, ρ, R, q⟩ := h
  refine ⟨B, F, ρ, R, mu _ _ _ (fun ps k F1 H1 vs R1 s1 d1 => ?_) (hl _ _ q)⟩
  refine ⟨by rw [List.append_nil, d1.length]; exact k.1, F1, ps, R1.sub, by rw [List.append_nil]; exact d1, mt _ _ _ (fun z kz F2 H2 v s2 sH sF fr d2 => kz F2 H2 v (R1.call s2 sH sF fr) (s1.trans s2) d2) k.2⟩
theorem ew_call {T : List D → (D → Prop) → Prop} {U : TL} (c : CalX X x (spF X.K n T)) (mt : ∀ ps K K', (∀ p, K p → K' p) → T ps K → T ps K') (ha : EA X (e :: es) U) (hl : LenW U n) (hg : Gl X x) (hdb : (x == ("__debug__" : Str)) = false := by decide)
    (he : starEach (e :: es) X.env = (false, eval e X.env) :: starEach es X.env := by rfl) (hpl : (backTo pos (starEach es X.env)).any (·.1) = false := by rfl) : EW X (.Call (.Name x p) (e :: es) [] pos) (wCal T U) := by
  obtain ⟨k, f, fd, ps, F, hr, hm, hk, hb⟩ := c
  exact ⟨fun ρ K K' h q => ha.mono _ _ _ (fun ps => mt ps _ _ h) q, (pe_call F hr hg hm hk hb .nil pass0 ha.pa hdb he hpl).imp fun σ H Q h => sp_ok mt ha.mono hl h⟩
theorem ef_call {g : GA} {f : Rho → Option (List D)} (c : CalX X x (spF X.K n (fun ps K => ∃ z, g ps = some z ∧ K z))) (ha : EAF X (e :: es) f) (hl : LenA f n) (hg : Gl X x) (hdb : (x == ("__debug__" : Str)) = false := by decide)
    (he : starEach (e :: es) X.env = (false, eval e X.env) :: starEach es X.env := by rfl) (hpl : (backTo pos (starEach es X.env)).any (·.1) = false := by rfl) : EF X (.Call (.Name x p) (e :: es) [] pos) (aOf g f) :=
  EW.f ((ew_call c (fun ps K K' h ⟨z, e, k⟩ => ⟨z, e, h z k⟩) ha (fun ρ K ⟨p, e, k⟩ => ⟨p, e, hl _ _ e, k⟩) hg hdb he hpl).imp (wOf_mono fW_mono) fun ρ K q => q)
/-- f(row, e, ..): the row stands at slot i -/
theorem ew_callR {T : List D → (D → Prop) → Prop} {U : TL} {i : Nat} {y : Str} {py : Pos} (c : CalX X x (spR X.K n T)) (mt : ∀ ps K K', (∀ p, K p → K' p) → T ps K → T ps K') (hN : X.N[i]? = some y) (hv : Vis X.env.scope y) (ha : EA X es U) (hl : LenW U n) (hg : Gl X x) (hdb : (x == ("__debug__" : Str)) = false := by decide)
    (hd : (y == ("__debug__" : Str)) = false := by decide) (hcd : (y == ("__classdict__" : Str)) = false := by decide)
    (he : starEach (.Name y py :: es) X.env = (false, eval (.Name y py) X.env) :: starEach es X.env := by rfl) (hpl : (backTo pos (starEach es X.env)).any (·.1) = false := by rfl) : EW X (.Call (.Name x p) (.Name y py :: es) [] pos) (fun ρ K => ρ[i]? = some .row ∧ wCal T U ρ K) := by
  obtain ⟨k, f, fd, ps, F, hr, hm, hk, hb⟩ := c
  refine ⟨fun ρ K K' h ⟨z, q⟩ => ⟨z, ha.mono _ _ _ (fun ps => mt ps _ _ h) q⟩, (pe_call F hr hg hm hk hb .nil pass0 (pa_cons (pe_var hN hv hd hcd) ha.pa he) hdb he hpl).imp fun σ H Q ⟨B, F, ρ, R, hi, q⟩ => ?_⟩
  have z := R.at_ i _ hi
  generalize hσ : σ[i]? = o at z
  cases z with
  | @row r f0 h0 ok =>
    refine ⟨_, hσ, B, F, ρ, R, ha.mono _ _ _ (fun ps k F1 H1 vs R1 s1 d1 => ?_) (hl _ _ q)⟩
    have z1 := R1.at_ i _ hi
    rw [hσ] at z1
    cases z1 with
    | row f1 h1 ok1 =>
      refine ⟨by rw [List.append_nil, List.length_cons, d1.length]; rw [k.1], r, vs, F1, ps, by rw [List.append_nil], R1.sub, f1, ok1, d1, mt _ _ _ (fun z kz F2 H2 v s2 sH sF fr ok2 d2 => kz F2 H2 v (R1.callR hi hσ s2 sH sF fr ok2) (s1.trans s2) d2) k.2⟩
end

/-! ### a def by its body -/
/-- the slots at the entry -/
def rho0 (n : Nat) (ps : List D) : Rho := ps.map Sl.v ++ List.replicate (n - ps.length) .no
/-- what the body makes of the arguments -/
def runW (n : Nat) (T : TSt) : List D → (D → Prop) → Prop := fun ps K => T (rho0 n ps) fun fl => match fl with
  | .rt p => K p
  | .nx _ => K .none
  | _ => False
def runF (n : Nat) (f : Rho → Option Fl) : GA := fun ps => match f (rho0 n ps) with
  | some (.rt p) => some p
  | some (.nx _) => some .none
  | _ => none
theorem runW_mono {n : Nat} {T : TSt} (m : ∀ ρ K K', (∀ p, K p → K' p) → T ρ K → T ρ K') (ps : List D) (K K' : D → Prop) (h : ∀ p, K p → K' p) (q : runW n T ps K) : runW n T ps K' := m _ _ _ (fun fl k => by
  cases fl with
  | rt p => exact h _ k
  | nx _ => exact h _ k
  | bk _ => exact k
  | ct _ => exact k) q
theorem start_at {N : List Str} {vs : List V} {i : Nat} {v : V} (h : vs[i]? = some v) : (start N vs)[i]? = some (some v) := by
  unfold start
  have hl : i < vs.length := (List.getElem?_eq_some_iff.mp h).1
  rw [List.getElem?_append_left (by simpa using hl), List.getElem?_map, h]
  rfl
theorem rho0_at {n : Nat} {ps : List D} {i : Nat} {s : Sl} (h : (rho0 n ps)[i]? = some s) : s = .no ∨ ∃ p, ps[i]? = some p ∧ s = .v p := by
  unfold rho0 at h
  by_cases hl : i < ps.length
  · rw [List.getElem?_append_left (by simpa using hl), List.getElem?_map, List.getElem?_eq_getElem hl] at h
    cases h
    exact .inr ⟨_, List.getElem?_eq_getElem hl, rfl⟩
  · rw [List.getElem?_append_right (by simpa using hl), List.getElem?_replicate] at h
    split at h
    · cases h; exact .inl rfl
    · cases h
section
variable {P : Program} {w : World} {K : Fg} {mg : Str → Option Value} {base : Heap} {x qual : Str} {params : Arguments} {body : List Stmt} {scope : Scope} {f : Addr} {fd : FuncData} {N ps : List Str} {k : Nat}
theorem rs_start {F H : Hp} {vs : List V} {ds : List D} (s : Same F H) (d : DpAll K F vs ds) (hl : vs.length ≤ N.length) : Rs K ⟨F, H, none⟩ F H (start N vs) (rho0 N.length ds) where
  sub := s
  ext := Same.refl _
  new := fun b h1 h2 => absurd h1 h2
  old := SameX.refl _
  hrow := fun r h => by cases h
  hr2 := fun r h => by cases h
  len := by unfold start rho0; have := d.length; simp only [List.length_append, List.length_map, List.length_replicate]; omega
  at_ := fun i t ht => by
    rcases rho0_at ht with rfl | ⟨p, hp, rfl⟩
    · exact .no
    · obtain ⟨v, hv, dv⟩ := d.get hp
      rw [start_at hv]
      exact .v dv
  apart := fun i j a s t hij h1 h2 o1 o2 e1 e2 => by
    rcases rho0_at h1 with rfl | ⟨p, hp, rfl⟩ <;> cases o1
/-- THE RULE: a def without draws -/
theorem fn_pure {T : TSt} {n : Nat} (Fd : FunD K x qual params body scope [] [] f fd) (S : FnScope N ps scope) (hn : ps.length = n) (hnN : n ≤ N.length)
    (hb : ∀ (cdv : Value) (A : Around) (outer : List Env) (s : Shared) (H : Hp) (E : XK), Room k (A.deeper (envOfC qual scope s.heap.objs.size f cdv)) → SWs (cxOf CX0 P w K mg base N qual scope f cdv A outer s H E).nox body T) :
    FnOk P w K mg base CX0 (k + 1) f fd ps (spF K n (runW N.length T)) := by
  refine Fd.ok S (fun vs H Q E h => by rw [h.1, hn]) fun cdv A outer s H vs Q E hr h => ?_
  have W := hb cdv A outer s H E hr
  refine ⟨_, PSs.nox W.pss, ?_⟩
  obtain ⟨hl, F, ds, sF, d, q⟩ := h
  refine ⟨⟨F, H, none⟩, F, rho0 N.length ds, rs_start sF d (by omega), W.mono _ _ _ (fun fl k => ?_) q⟩
  cases fl with
  | nx ρ' => exact fun F' H' σ' R' s' => k F' H' .non s' R'.old.same R'.sub R'.new .non
  | rt p => exact fun F' H' v ⟨σ', ρ', R'⟩ s' d' => k F' H' v s' R'.old.same R'.sub R'.new d'
  | bk ρ' => exact k.elim
  | ct ρ' => exact k.elim
theorem fn_pureF {g : Rho → Option Fl} {n : Nat} (Fd : FunD K x qual params body scope [] [] f fd) (S : FnScope N ps scope) (hn : ps.length = n) (hnN : n ≤ N.length)
    (hb : ∀ (cdv : Value) (A : Around) (outer : List Env) (s : Shared) (H : Hp) (E : XK), Room k (A.deeper (envOfC qual scope s.heap.objs.size f cdv)) → SFs (cxOf CX0 P w K mg base N qual scope f cdv A outer s H E).nox body g) :
    FnOk P w K mg base CX0 (k + 1) f fd ps (spF K n (fun ds Kc => ∃ z, runF N.length g ds = some z ∧ Kc z)) := by
  refine FnOk.imp (fn_pure Fd S hn hnN hb) fun vs H Q E ⟨h0, F, ds, s, d, z, e, q⟩ => ⟨h0, F, ds, s, d, ?_⟩
  unfold runF at e
  split at e
  · rename_i p h; cases e; exact ⟨_, h, q⟩
  · rename_i p h; cases e; exact ⟨_, h, q⟩
  · cases e
/-- a weaker promise: by another function -/
theorem FnOk.fn {n : Nat} {g g' : GA} (h : FnOk P w K mg base CX0 k f fd ps (spF K n (fun ds Kc => ∃ z, g ds = some z ∧ Kc z))) (e : ∀ ds z, g' ds = some z → g ds = some z) : FnOk P w K mg base CX0 k f fd ps (spF K n (fun ds Kc => ∃ z, g' ds = some z ∧ Kc z)) :=
  FnOk.imp h fun vs H Q E ⟨h0, F, ds, s, d, z, e1, q⟩ => ⟨h0, F, ds, s, d, z, e ds z e1, q⟩
end
end L2.P

set_option Elab.async false
set_option linter.all false
set_option maxRecDepth 100000
set_option maxHeartbeats 4000000
/-! PL10: short words for terms. -/
namespace L2.P
open PySem PySem.Spec PyProof.Rows L2
/-- built-in names that the module does not bind -/
structure Bi (mg : Str → Option Value) : Prop where
  len : mg "len" = none
  range : mg "range" = none
  tuple : mg "tuple" = none
  list : mg "list" = none
  sorted : mg "sorted" = none
  set : mg "set" = none
  any : mg "any" = none
  all : mg "all" = none
  min : mg "min" = none
  max : mg "max" = none
  sum : mg "sum" = none
  abs : mg "abs" = none
  int : mg "int" = none
  str : mg "str" = none
  bool : mg "bool" = none
  isinstance : mg "isinstance" = none
  enumerate : mg "enumerate" = none
  zip : mg "zip" = none
/-- a def that stands behind the top -/
def DefOk (P : Program) (w : World) (K : Fg) (mg : Str → Option Value) (base : Heap) (x : Str) (k : Nat) (sp : Sp) : Prop :=
  ∃ (f : Addr) (fd : FuncData) (ps : List Str), FnOk P w K mg base CX0 k f fd ps sp ∧ mg x = some (.ref f) ∧ PySem.W.keepIn K (.ref f) = true ∧ Binds K fd ps []
theorem DefOk.cal {P : Program} {w : World} {K : Fg} {mg : Str → Option Value} {base : Heap} {x : Str} {k j : Nat} {sp : Sp} {A : Around} (h : DefOk P w K mg base x k sp) (hr : Room j A) (hk : k ≤ j := by decide) : Cal P w K mg base A x sp := by
  obtain ⟨f, fd, ps, F, m, kp, b⟩ := h
  exact ⟨k, f, fd, ps, F, hr.mono hk, m, kp, b⟩
abbrev spG (K : Fg) (n : Nat) (g : GA) : Sp := spF K n (fun ps Kc => ∃ z, g ps = some z ∧ Kc z)
abbrev DG (P : Program) (w : World) (K : Fg) (mg : Str → Option Value) (base : Heap) (x : Str) (k n : Nat) (g : GA) : Prop := DefOk P w K mg base x k (spG K n g)
section
variable {X : Cx} {a b e : Expr} {es : List Expr} {p pos : Pos}
theorem ev (i : Nat) {x : Str} {pos : Pos} (hN : X.N[i]? = some x := by rfl) (hv : Vis X.env.scope x := by first | exact Or.inl rfl | exact Or.inr (Or.inl rfl) | exact Or.inr (Or.inr rfl)) (hd : (x == ("__debug__" : Str)) = false := by decide)
    (hcd : (x == ("__classdict__" : Str)) = false := by decide) : EF X (.Name x pos) (gV i) := ef_var hN hv hd hcd
theorem xv (i : Nat) {x : Str} {pos : Pos} (hN : X.N[i]? = some x := by rfl) (hv : Vis X.env.scope x := by first | exact Or.inl rfl | exact Or.inr (Or.inl rfl) | exact Or.inr (Or.inr rfl)) (hd : (x == ("__debug__" : Str)) = false := by decide)
    (hcd : (x == ("__classdict__" : Str)) = false := by decide) : XF X (.Name x pos) (gX i) := xf_var hN hv hd hcd
theorem ef_gint {i : Int} {x : Str} {pos : Pos} (h : ∃ t, X.mg x = some (.int i t)) (hg : Gl X x := by rfl) (hd : (x == ("__debug__" : Str)) = false := by decide) : EF X (.Name x pos) (gC (.int i)) := by
  obtain ⟨t, h⟩ := h
  exact ef_con (pe_glob (v := .int i) hg h ⟨_, rfl⟩ hd) fun _ _ => .int i
theorem c_len {f : Rho → Option (List D)} (B : Bi X.mg) (h : XAF X [a] f) (hg : Gl X "len" := by rfl) (he : starEach [a] X.env = (false, eval a X.env) :: starEach [] X.env := by rfl) : EF X (.Call (.Name "len" p) [a] [] pos) (aOf gLen f) := EW.f (ew_callB cg_len h hg B.len boot_len (he := he) (hpl := rfl))
theorem c_tuple {f : Rho → Option (List D)} (B : Bi X.mg) (h : XAF X [a] f) (hg : Gl X "tuple" := by rfl) (he : starEach [a] X.env = (false, eval a X.env) :: starEach [] X.env := by rfl) : EF X (.Call (.Name "tuple" p) [a] [] pos) (aOf gTup f) := EW.f (ew_callT cg_tuple h hg B.tuple (by decide +kernel) (he := he) (hpl := rfl))
theorem n_list {f : Rho → Option (List D)} (B : Bi X.mg) (h : XAF X [a] f) (hg : Gl X "list" := by rfl) (he : starEach [a] X.env = (false, eval a X.env) :: starEach [] X.env := by rfl) : NF X (.Call (.Name "list" p) [a] [] pos) (aOf gLst f) := NW.f (nw_callT cn_list h hg B.list (by decide +kernel) (he := he) (hpl := rfl))
theorem c_abs {f : Rho → Option (List D)} (B : Bi X.mg) (h : XAF X [a] f) (hg : Gl X "abs" := by rfl) (he : starEach [a] X.env = (false, eval a X.env) :: starEach [] X.env := by rfl) : EF X (.Call (.Name "abs" p) [a] [] pos) (aOf gAbs f) := EW.f (ew_callB cg_abs h hg B.abs (by decide +kernel) (he := he) (hpl := rfl))
theorem c_int {f : Rho → Option (List D)} (B : Bi X.mg) (h : XAF X [a] f) (hg : Gl X "int" := by rfl) (he : starEach [a] X.env = (false, eval a X.env) :: starEach [] X.env := by rfl) : EF X (.Call (.Name "int" p) [a] [] pos) (aOf gInt f) := EW.f (ew_callT cg_int h hg B.int (by decide +kernel) (he := he) (hpl := rfl))
theorem c_any {f : Rho → Option (List D)} (B : Bi X.mg) (h : XAF X [a] f) (hc : X.calm = true := by rfl) (hg : Gl X "any" := by rfl) (he : starEach [a] X.env = (false, eval a X.env) :: starEach [] X.env := by rfl) : EF X (.Call (.Name "any" p) [a] [] pos) (aOf gAny f) := EW.f (ew_callB (cg_any hc) h hg B.any (by decide +kernel) (he := he) (hpl := rfl))
theorem c_all {f : Rho → Option (List D)} (B : Bi X.mg) (h : XAF X [a] f) (hc : X.calm = true := by rfl) (hg : Gl X "all" := by rfl) (he : starEach [a] X.env = (false, eval a X.env) :: starEach [] X.env := by rfl) : EF X (.Call (.Name "all" p) [a] [] pos) (aOf gAll f) := EW.f (ew_callB (cg_all hc) h hg B.all (by decide +kernel) (he := he) (hpl := rfl))
theorem c_sum {f : Rho → Option (List D)} (B : Bi X.mg) (h : XAF X [a] f) (hc : X.calm = true := by rfl) (hg : Gl X "sum" := by rfl) (he : starEach [a] X.env = (false, eval a X.env) :: starEach [] X.env := by rfl) : EF X (.Call (.Name "sum" p) [a] [] pos) (aOf gSum f) := EW.f (ew_callB (cg_sum hc) h hg B.sum (by decide +kernel) (he := he) (hpl := rfl))
end
end L2.P
namespace L2.P
open PySem PySem.Spec PyProof.Rows L2
theorem gw_sub {X : Cx} {tg : Expr} {g : Tg} {is is' : List Nat} (h : GW X tg g is) (hs : ∀ i ∈ is, i ∈ is' := by decide) : GW X tg g is' :=
  PG.imp h fun x σ H Q ⟨B, F, ρ, p, ρ', R, d, e, q⟩ => ⟨B, F, ρ, p, ρ', R, d, e, fun σ' R' hl h1 h2 => q σ' R' hl (fun j hj => h1 j fun z => hj (hs j z)) fun j hj => h2 j fun z => hj (hs j z)⟩
end L2.P
namespace L2.P
open PySem PySem.Spec PyProof.Rows L2
theorem bt_int : bootBuiltins "int" = some (.type "int") := by decide +kernel
theorem bt_bool : bootBuiltins "bool" = some (.type "bool") := by decide +kernel
theorem bt_str : bootBuiltins "str" = some (.type "str") := by decide +kernel
theorem bt_list : bootBuiltins "list" = some (.type "list") := by decide +kernel
theorem bt_tuple : bootBuiltins "tuple" = some (.type "tuple") := by decide +kernel
theorem bt_isi : bootBuiltins "isinstance" = some (.builtin "isinstance") := by decide +kernel
end L2.P

set_option Elab.async false
set_option linter.all false
set_option maxRecDepth 100000
set_option maxHeartbeats 4000000
/-! PL11: enumerate over a list or a tuple; ranges as lists and tuples; sorted(set(..)). -/
namespace PySem
open Sem (wp)
open AutoSeq1 (wpAny_loadPart')
theorem meets_enumerate_newT_P (l : Addr) (items : Array Value) (n : Nat) (dct : Option Addr) (sl : Array (Option Value)) :
    Meets (Builtin.«enumerate.__new__» ⟨[.type "enumerate", .ref l], []⟩) (fun _ R s => s.heap.get? l = some { cls := .type "tuple", dict := dct, data := .seq items n, slots := sl } ∧
      R (.ok (.ret (.ref (s.heap.push { cls := .type "tuple_iterator", data := .fields #[.ref l, .int 0 0] }).objs.size)))
        { s with heap := (s.heap.push { cls := .type "tuple_iterator", data := .fields #[.ref l, .int 0 0] }).push { cls := .type "enumerate", data := .fields #[.none, .bool false, .ref s.heap.objs.size, rawInt 0, .none, .none] } }) :=
  .of_wp fun prog w A R s h => by
    obtain ⟨hp, g, d, tk, os⟩ := s; obtain ⟨hl, h⟩ := h
    have hsub := sub_enumerate
    have hL : Heap.IsTuple (Shared.heap ⟨hp, g, d, tk, os⟩) l items := ⟨_, hl, rfl, n, rfl⟩
    wp_walk using wpAny_loadPart' hl
    refine wpAny_stack_any fun st => wpAny_pure ?_
    split
    · rename_i c _ _ _ _ _
      cases (c == Value.type "enumerate")
      · wp_walk using wpAny_loadPart' hl, wpAny_pyIter_tuple hL
        exact ⟨_, rfl, h⟩
      · wp_walk using wpAny_loadPart' hl, wpAny_pyIter_tuple hL
        exact ⟨_, rfl, h⟩
    · wp_walk using wpAny_loadPart' hl, wpAny_pyIter_tuple hL
      exact ⟨_, rfl, h⟩
section
variable {prog : Program} {w : World} {A : Around} {E : Value → Shared → Prop} {s : Shared}
theorem call_enumerate_tuple_P {l : Addr} {items : Array Value} {Q : Value → Shared → Prop} (hL : s.heap.IsTuple l items)
    (h : ∀ h', IsEnum h' (s.heap.objs.size + 1) s.heap.objs.size 0 .none → h'.IsTupleIter s.heap.objs.size l 0 → h'.objs.size = s.heap.objs.size + 2 →
      (∀ b o, s.heap.get? b = some o → h'.get? b = some o) → Q (.ref (s.heap.objs.size + 1)) { s with heap := h' }) :
    wpAny (model prog w) A (call (.type "enumerate") [.ref l]) Q E s := by
  obtain ⟨⟨c, dct, dt, sl⟩, hl, hc, n, hd⟩ := hL
  replace hc : c = .type "tuple" := hc
  replace hd : dt = .seq items n := hd
  subst hc hd
  refine callType_new F.called_enumerate (by decide) (F.typeCall_enumerate_1 _) (F.newCall_enumerate_1 _) (fun obj => F.args_object_init_2 obj _) F.entry_enumerate_new
    (meets_enumerate_newT_P l items n dct sl) ⟨hl, ?_⟩
  have hz : (s.heap.push { cls := .type "tuple_iterator", data := .fields #[.ref l, .int 0 0] }).objs.size = s.heap.objs.size + 1 := Heap.size_push ..
  show _ ∧ _
  rw [hz]
  have he : IsEnum ((s.heap.push { cls := .type "tuple_iterator", data := .fields #[.ref l, .int 0 0] }).push
      { cls := .type "enumerate", data := .fields #[.none, .bool false, .ref s.heap.objs.size, rawInt 0, .none, .none] }) (s.heap.objs.size + 1) s.heap.objs.size 0 .none := by
    have := Heap.get?_push_size (s.heap.push { cls := .type "tuple_iterator", data := .fields #[.ref l, .int 0 0] })
      (o := { cls := .type "enumerate", data := .fields #[.none, .bool false, .ref s.heap.objs.size, rawInt 0, .none, .none] }) rfl
    rw [hz] at this; exact this
  refine ⟨⟨_, he, rfl⟩, h _ he ⟨_, Heap.get?_push_of_some _ (Heap.get?_push_size _ rfl), rfl, rfl⟩ (by rw [Heap.size_push, hz]) fun b o x => Heap.get?_push_of_some _ (Heap.get?_push_of_some _ x)⟩
end
end PySem
namespace L2.P
open PySem PySem.Spec PyProof.Rows L2
/-- the tuple at a, each item in a new pair -/
def ItetP (K : Fg) (a : Addr) : It :=
  ⟨fun i H => ∃ (xs : List V) (x : V), SqT K H a xs ∧ xs[i]? = some x, fun i H v H' => ∃ T x, v = .ref T ∧ H T = none ∧ H' = upd H T (.tup [.int (i : Nat), x]) ∧ ∀ xs, SqT K H a xs → xs[i]? = some x, fun i H => ∃ xs : List V, SqT K H a xs ∧ xs.length = i⟩
theorem turn_enumT {P : Program} {w : World} {K : Fg} {elts : List Expr} {kk : Nat} {tpos : Pos} (a e it : Addr) (hae : a ≠ e) (hai : a ≠ it) :
    Turn P w K (.Tuple elts kk tpos) (ItetP K a) [e, it] e (fun i h => (∃ old, IsEnum h e it ((i : Nat) : Int) old) ∧ h.IsTupleIter it a i ∧ e ≠ it) where
  mem := by simp
  obj := fun i h st b hb => by
    obtain ⟨⟨old, he⟩, ⟨o, ho, hc, hd⟩, _⟩ := st
    have e' : b = e ∨ b = it := by simpa using hb
    rcases e' with z | z
    · rw [z]; exact ⟨_, he, fun v q => nomatch q⟩
    · rw [z]; exact ⟨o, ho, fun v q => by rw [hd] at q; cases q⟩
  keep := fun i h h' st k => let ⟨⟨old, he⟩, hi, hne⟩ := st; ⟨⟨old, k e (by simp) _ he⟩, hi.at fun o q => k it (by simp) o q, hne⟩
  item := by
    intro X hP hw hK hc i pins s σ H E I hf st hg
    subst hP hw hK
    obtain ⟨⟨old, he⟩, hit, hne⟩ := st
    obtain ⟨xs, x, hq, hx⟩ := hg
    obtain ⟨its, rv, p, hz⟩ := I.tuple hq
    obtain ⟨u, hu, ru⟩ := rv.get hx
    have hel : e < s.heap.objs.size := Heap.lt_size he
    have hil : it < s.heap.objs.size := by obtain ⟨_, q, _⟩ := hit; exact Heap.lt_size q
    have hii : i < its.toArray.size := by
      have := (List.getElem?_eq_some_iff.mp hu).1
      simpa using this
    refine wpAny_pyNext_enum_itemD (Draws.tuple (A := X.A.in1) (I.ok.hd hc) it a hai its.toArray) he ⟨hit, p⟩ hii hne (by simp [hne, hae.symm]) fun y h' tk hy ho hst hT hsz hk => ?_
    have ey : y = u := by
      have : its.toArray[i]? = some u := by simpa using hu
      rw [this] at hy; exact (Option.some.inj hy).symm
    subst ey
    refine ⟨_, rfl, wpAny_letOwnedTupleGo_enum (s := { s with heap := h', toks := tk + 1 }) ho fun h'' he' sb => ?_⟩
    have hT2 : h''.get? s.heap.objs.size = some { cls := .type "tuple", data := .seq #[.int i tk, y] } := (sb.2 _ (Nat.ne_of_gt hel)).trans hT
    have new : ObjOk X.prog X.w (upd H s.heap.objs.size (.tup [.int (i : Nat), x])) h'' s.heap.objs.size (.tup [.int (i : Nat), x]) :=
      ⟨by show 2 ≤ sizeLine; decide, [.int i tk, y], .cons ⟨_, rfl⟩ (.cons ru .nil), ⟨_, hT2, rfl, _, rfl⟩⟩
    have I1 : Inv X pins σ (upd H s.heap.objs.size (.tup [.int (i : Nat), x])) { s with heap := h'', toks := tk + 1 } :=
      I.turnedNew (ch := [e, it]) (fun b ob hb q => (sb.2 b (fun z => hb (by simp [z]))).trans (hk b ob (fun z => hb (by simp [z])) (fun z => hb (by simp [z])) q)) hf (Nat.le_refl _) new
    refine ⟨.ref s.heap.objs.size, _, I1, rfl, ⟨_, x, rfl, I.hok.fresh (Nat.le_refl _), rfl, fun ys hy => by rw [I.tuple_inj hy hq]; exact hx⟩, ⟨⟨y, ?_⟩, hst.1.at fun o q => (sb.2 it (Ne.symm hne)).trans q, hne⟩, fun b hb => ?_⟩
    · have e1 : ((i + 1 : Nat) : Int) = (i : Int) + 1 := by omega
      rw [e1]; exact he'
    · have hb' : b < s.heap.objs.size := by
        have e' : b = e ∨ b = it := by simpa using hb
        rcases e' with z | z
        · rw [z]; exact hel
        · rw [z]; exact hil
      rw [upd_ne (Nat.ne_of_lt hb')]
      exact (hf b hb).1
  done := by
    intro X hP hw hK hc i pins s σ H E I hf st hg
    subst hP hw hK
    obtain ⟨⟨old, he⟩, hit, hne⟩ := st
    obtain ⟨xs, hq, hx⟩ := hg
    obtain ⟨its, rv, p, hz⟩ := I.tuple hq
    obtain ⟨f0, f1, f2, f3, f4, f5⟩ := hf it (by simp)
    have hl := rv.length
    have hi : its.toArray.size = i := by rw [List.size_toArray]; omega
    subst hi
    exact wpAny_pyNext_enum_endD (Draws.tuple (A := X.A.in1) (I.ok.hd hc) it a hai its.toArray) he ⟨hit, p⟩ fun h' eb => ⟨rfl, I.turned (t' := s.toks) (fun b o hb q => eb b o hb q) f0 f1 f3 f4 f5⟩
  self := fun A i s Q E st h => let ⟨⟨_, he⟩, _⟩ := st; wpAny_pyIter_enum he h
def iEnumG (K : Fg) (ta : TA) : TI := fun σ H R => ta σ H fun vs H1 => ∃ a xs, vs = [.ref a] ∧ ((SqL K H1 a xs ∧ R (Ite K a) H1) ∨ (SqT K H1 a xs ∧ R (ItetP K a) H1))
theorem pi_enumG {X : Cx} {e : Expr} {ta : TA} {p pos tpos : Pos} {elts : List Expr} {kk : Nat} (hg : Gl X "enumerate") (hm : X.mg "enumerate" = none) (ha : PA X [e] ta) (hs : starEach [e] X.env = [(false, eval e X.env)] := by rfl) :
    PI X (.Tuple elts kk tpos) (.Call (.Name "enumerate" p) [e] [] pos) (iEnumG X.K ta) := by
  refine ⟨fun pins s σ H R I h => ?_⟩
  refine Call_ (ld_blt I hg hm boot_enumerate (PyProof.Rows.callWith_type1 (thn (ha.run pos pins s σ H _ I h) fun us s1 ⟨vs, H1, I1, r1, q1⟩ => ?_) hs rfl))
  obtain ⟨a, xs, ex, q⟩ := q1
  subst ex
  have fpk : ∀ b ∈ [s1.heap.objs.size + 1, s1.heap.objs.size], FpOk X pins H1 b := fun b hb => by
    have e' : b = s1.heap.objs.size + 1 ∨ b = s1.heap.objs.size := by simpa using hb
    have hle : s1.heap.objs.size ≤ b := by
      rcases e' with z | z
      · rw [z]; exact Nat.le_add_right _ _
      · rw [z]; exact Nat.le_refl _
    exact I1.fpOk hle (I1.hok.fresh hle)
  cases r1 with
  | cons r rr =>
    cases rr
    cases r
    rcases q with ⟨hq, q⟩ | ⟨hq, q⟩
    · obtain ⟨its, rv, p', hz⟩ := I1.list hq
      refine call_enumerate_list p'.isList fun h' he hit hsz hk => wpAny_pyIter_enum he ?_
      have I2 : Inv X pins σ H1 { s1 with heap := h' } := I1.kept (t' := s1.toks) hk
      exact ⟨s1.heap.objs.size + 1, [s1.heap.objs.size + 1, s1.heap.objs.size], _, _, H1, rfl, I2, turn_enum a (s1.heap.objs.size + 1) s1.heap.objs.size, ⟨⟨.none, he⟩, hit, Nat.succ_ne_self _⟩, fpk, q⟩
    · obtain ⟨its, rv, p', hz⟩ := I1.tuple hq
      have hla : a < s1.heap.objs.size := p'.lt
      refine call_enumerate_tuple_P (show s1.heap.IsTuple a its.toArray from p') fun h' he hit hsz hk => wpAny_pyIter_enum he ?_
      have I2 : Inv X pins σ H1 { s1 with heap := h' } := I1.kept (t' := s1.toks) hk
      exact ⟨s1.heap.objs.size + 1, [s1.heap.objs.size + 1, s1.heap.objs.size], _, _, H1, rfl, I2, turn_enumT a (s1.heap.objs.size + 1) s1.heap.objs.size (Nat.ne_of_lt (Nat.lt_succ_of_lt hla)) (Nat.ne_of_lt hla), ⟨⟨.none, he⟩, hit, Nat.succ_ne_self _⟩, fpk, q⟩
/-- the items with their places -/
def enumD (ps : List D) : List D := (List.range ps.length).map fun i => .tuple [.int (i : Nat), ps.getD i .none]
theorem enumD_length (ps : List D) : (enumD ps).length = ps.length := by unfold enumD; rw [List.length_map, List.length_range]
theorem enumD_at {ps : List D} {i : Nat} {p : D} (h : ps[i]? = some p) : (enumD ps)[i]? = some (.tuple [.int (i : Nat), p]) := by
  unfold enumD
  have hl : i < ps.length := (List.getElem?_eq_some_iff.mp h).1
  rw [List.getElem?_map, List.getElem?_range hl, Option.map_some, List.getD_eq_getElem?_getD, h]
  rfl
section
variable {X : Cx}
theorem wlk_enumL {K : Fg} {F : Hp} {a : Addr} {xs : List V} {ps : List D} (s : SqL K F a xs) (d : DpAll K F xs ps) : Wlk K F (Ite K a) (enumD ps) where
  go := fun i H hi e => by
    rw [enumD_length] at hi
    have hl := d.length
    exact ⟨xs, xs[i], sqL_same e s, by simp⟩
  stop := fun H e => ⟨xs, sqL_same e s, by rw [enumD_length, d.length]; exact Nat.le_refl _⟩
  yld := fun i H x H' hi e ⟨T, y, ev, n, eH, y2⟩ => by
    obtain ⟨p, hp, dp⟩ := d.getV (y2 xs (sqL_same e s))
    exact ⟨_, enumD_at hp, .inr ⟨T, _, _, _, _, ev, n, eH, rfl, .int _, dp⟩⟩
theorem wlk_enumT {K : Fg} {F : Hp} {a : Addr} {xs : List V} {ps : List D} (s : SqT K F a xs) (d : DpAll K F xs ps) : Wlk K F (ItetP K a) (enumD ps) where
  go := fun i H hi e => by
    rw [enumD_length] at hi
    have hl := d.length
    exact ⟨xs, xs[i], sqT_same e s, by simp⟩
  stop := fun H e => ⟨xs, sqT_same e s, by rw [enumD_length, d.length]⟩
  yld := fun i H x H' hi e ⟨T, y, ev, n, eH, y2⟩ => by
    obtain ⟨p, hp, dp⟩ := d.getV (y2 xs (sqT_same e s))
    exact ⟨_, enumD_at hp, .inr ⟨T, _, _, _, _, ev, n, eH, rfl, .int _, dp⟩⟩
def fEnum (f : Rho → Option D) : Rho → Option (List D) := fun ρ => (f ρ).bind fun p => (items p).map enumD
theorem if_enum {e : Expr} {f : Rho → Option D} {p pos tpos : Pos} {elts : List Expr} {kk : Nat} (bi : Bi X.mg) (h : EF X e f) (hg : Gl X "enumerate" := by rfl) (hs : starEach [e] X.env = [(false, eval e X.env)] := by rfl) :
    IF X (.Tuple elts kk tpos) (.Call (.Name "enumerate" p) [e] [] pos) (fEnum f) :=
  ⟨fW_mono, PI.imp (pi_enumG hg bi.enumerate (pa_cons (PE.lens h.pe) pa_nil hs) hs) fun σ H R ⟨B, F, ρ, R0, qs, e, k⟩ => by
    obtain ⟨x, e1, e2⟩ := Option.bind_eq_some_iff.mp e
    obtain ⟨ps, e3, rfl⟩ := Option.map_eq_some_iff.mp e2
    refine ⟨B, F, ρ, R0, x, e1, fun F' H' v R' s' d hL => ?_⟩
    unfold items at e3
    split at e3
    · cases e3
      obtain ⟨a, xs, rfl, s, r⟩ := Dp.inv_lst d
      refine ⟨a, xs, rfl, .inl ⟨sqL_same R'.sub s, k F' H' _ R' s' ?_ (wlk_enumL s r)⟩⟩
      rw [enumD_length, ← r.length]
      exact hL a xs (.inl (sqL_same R'.sub s))
    · cases e3
      obtain ⟨a, xs, rfl, s, r⟩ := Dp.inv_tup d
      refine ⟨a, xs, rfl, .inr ⟨sqT_same R'.sub s, k F' H' _ R' s' ?_ (wlk_enumT s r)⟩⟩
      rw [enumD_length, ← r.length]
      exact hL a xs (.inr (sqT_same R'.sub s))
    · cases e3⟩

/-! ### list(range(..)), tuple(range(..)) -/
def tRG (K : Fg) (f : Rho → Option (Int × Int)) : St → Hp → (Int → Int → Hp → Prop) → Prop := fun σ H Q => ∃ B F ρ, Rs K B F H σ ρ ∧ ∃ z, f ρ = some z ∧ ∀ F' H', Rs K B F' H' σ ρ → Same F F' → Q z.1 z.2 H'
def RG (X : Cx) (e : Expr) (f : Rho → Option (Int × Int)) : Prop := PRg X e (tRG X.K f)
def gR1 : List D → Option (Int × Int)
  | [.int j] => some (0, j)
  | _ => none
def gR2 : List D → Option (Int × Int)
  | [.int i, .int j] => some (i, j)
  | _ => none
theorem rg_1 {a : Expr} {g : Rho → Option D} {p pos : Pos} (bi : Bi X.mg) (hx : XF X a g) (hg : Gl X "range" := by rfl) (na : starEach [a] X.env = (false, eval a X.env) :: starEach [] X.env := by rfl) : RG X (.Call (.Name "range" p) [a] [] pos) (aOf gR1 (aCons g aNil)) := by
  intro pins s σ H Q I ⟨B, F, ρ, R, z, e, k⟩
  refine prg_1 hg bi.range hx.pe na pins s σ H Q I ?_
  obtain ⟨ps, e1, e2⟩ := Option.bind_eq_some_iff.mp e
  obtain ⟨y, e3, e4⟩ := Option.bind_eq_some_iff.mp e1
  obtain ⟨ys, e5, rfl⟩ := Option.map_eq_some_iff.mp e4
  cases e5
  unfold gR1 at e2
  split at e2
  · rename_i j hj
    cases e2
    cases hj
    exact ⟨B, F, ρ, R, _, e3, fun F' H' v R' s' d => ⟨j, Dp.inv_int (d.dp (Same.refl _) R'), k F' H' R' s'⟩⟩
  · cases e2
theorem rg_2 {a b : Expr} {g g' : Rho → Option D} {p pos : Pos} (bi : Bi X.mg) (hx : XF X a g) (hy : XF X b g') (hg : Gl X "range" := by rfl) (na : starEach [a, b] X.env = (false, eval a X.env) :: starEach [b] X.env := by rfl) (nb : starEach [b] X.env = (false, eval b X.env) :: starEach [] X.env := by rfl) (hp : (backTo pos (starEach [b] X.env)).any (·.1) = false := by rfl) :
    RG X (.Call (.Name "range" p) [a, b] [] pos) (aOf gR2 (aCons g (aCons g' aNil))) := by
  intro pins s σ H Q I ⟨B, F, ρ, R, z, e, k⟩
  refine prg_2 hg bi.range hx.pe hy.pe na nb hp pins s σ H Q I ?_
  obtain ⟨ps, e1, e2⟩ := Option.bind_eq_some_iff.mp e
  obtain ⟨y, e3, e4⟩ := Option.bind_eq_some_iff.mp e1
  obtain ⟨ys, e5, rfl⟩ := Option.map_eq_some_iff.mp e4
  obtain ⟨y2, e6, e7⟩ := Option.bind_eq_some_iff.mp e5
  obtain ⟨zs, e8, rfl⟩ := Option.map_eq_some_iff.mp e7
  cases e8
  unfold gR2 at e2
  split at e2
  · rename_i i j hj
    cases e2
    cases hj
    exact ⟨B, F, ρ, R, _, e3, fun F1 H1 v1 R1 s1 d1 => ⟨B, F1, ρ, R1, _, e6, fun F2 H2 v2 R2 s2 d2 => ⟨i, j, Dp.inv_int (d1.dp s2 R2), Dp.inv_int (d2.dp (Same.refl _) R2), k F2 H2 R2 (s1.trans s2)⟩⟩⟩
  · cases e2
theorem dpAll_rg {K : Fg} {F : Hp} (a b : Int) : DpAll K F (rgV a b) (rngD a (b - a).toNat) := by
  unfold rgV rngD
  induction List.range (b - a).toNat with
  | nil => exact .nil
  | cons i r ih => exact .cons (.int _) ih
def RgB (z : Int × Int) : Bool := decide (0 ≤ z.1) && decide (z.1 ≤ 16777216) && decide (0 ≤ z.2) && decide (z.2 ≤ 16777216)
theorem RgB.ok {z : Int × Int} (h : RgB z = true) : RgOk z.1 z.2 := by
  unfold RgB at h
  simp only [Bool.and_eq_true, decide_eq_true_eq] at h
  exact RgOk.of_le h.1.1.1 h.2 h.1.1.2 h.1.2
def nRg (f : Rho → Option (Int × Int)) : Rho → Option (List D) := fun ρ => (f ρ).bind fun z => if RgB z = true then some (rngD z.1 (z.2 - z.1).toNat) else none
def vTupRg (f : Rho → Option (Int × Int)) : Rho → Option D := fun ρ => (f ρ).bind fun z => if RgB z = true then some (.tuple (rngD z.1 (z.2 - z.1).toNat)) else none
theorem n_listRg {a : Expr} {f : Rho → Option (Int × Int)} {p pos : Pos} (bi : Bi X.mg) (h : RG X a f) (hc : X.calm = true := by rfl) (hg : Gl X "list" := by rfl) (na : starEach [a] X.env = (false, eval a X.env) :: starEach [] X.env := by rfl) : NF X (.Call (.Name "list" p) [a] [] pos) (nRg f) :=
  ⟨fW_mono, (pe_listRg hc hg bi.list h na).imp fun σ H Q ⟨B, F, ρ, R, ps, e, k⟩ => by
    obtain ⟨z, e1, e2⟩ := Option.bind_eq_some_iff.mp e
    split at e2
    · rename_i hz
      cases e2
      exact ⟨B, F, ρ, R, z, e1, fun F' H' R' s' => ⟨RgB.ok hz, fun q hq => k F' H' q _ R' s' hq (dpAll_rg _ _)⟩⟩
    · cases e2⟩
theorem c_tupRg {a : Expr} {f : Rho → Option (Int × Int)} {p pos : Pos} (bi : Bi X.mg) (h : RG X a f) (hc : X.calm = true := by rfl) (hg : Gl X "tuple" := by rfl) (na : starEach [a] X.env = (false, eval a X.env) :: starEach [] X.env := by rfl) : EF X (.Call (.Name "tuple" p) [a] [] pos) (vTupRg f) :=
  ⟨fW_mono, (pe_tupRg hc hg bi.tuple h na).imp fun σ H Q ⟨B, F, ρ, R, ps, e, k⟩ => by
    obtain ⟨z, e1, e2⟩ := Option.bind_eq_some_iff.mp e
    split at e2
    · rename_i hz
      cases e2
      exact ⟨B, F, ρ, R, z, e1, fun F' H' R' s' => ⟨RgB.ok hz, fun q hq => k _ _ _ (R'.grow hq) (s'.trans (same_upd (R'.sub.free hq))) (.tup upd_same (dpAll_rg _ _))⟩⟩
    · cases e2⟩

/-! ### sorted(set(t)), t a tuple of ints -/
def rSetT (w : World) (K : Fg) : List V → Hp → VK → Prop := fun xs H Q => ∃ (a : Addr) (ns : List Int), xs = [.ref a] ∧ SqT K H a (ns.map V.int) ∧ ns.length ≤ 1000 ∧
  ∀ (p : Addr) (c : Nat), H p = none → c ≤ ns.length → Q (.ref p) (upd H p (SetO w p (fun j => decide (j ∈ ns)) c))
theorem cr_setT (hc : X.calm = true) : CallR X (.type "set") (rSetT X.w X.K) := by
  intro pins s σ H xs us Q I r h
  obtain ⟨a, ns, rfl, hs, hl, q⟩ := h
  obtain ⟨its, rv, ht, hz⟩ := I.tuple hs
  rw [Vals.ref1 r]
  have hsb : ns.length + 1 < scanBound := Nat.lt_of_le_of_lt (Nat.add_le_add_right hl 1) (by decide)
  refine call_set_tupI ns (I.ok.hd hc) ht (by simpa using rv.ints) hsb fun h' tk c R hcl hk => ?_
  exact ⟨.ref _, upd H s.heap.objs.size (SetO X.w s.heap.objs.size (fun j => decide (j ∈ ns)) c), I.laid (t' := tk) hk (Nat.le_refl _) (setO_new R), rfl, q _ c (I.hok.fresh (Nat.le_refl _)) hcl⟩
/-- the ints of ns, each once, in order -/
def insI (n : Int) : List Int → List Int
  | [] => [n]
  | m :: ms => if n < m then n :: m :: ms else if n = m then m :: ms else m :: insI n ms
def sortD : List Int → List Int
  | [] => []
  | n :: ns => insI n (sortD ns)
theorem mem_insI {n k : Int} : ∀ {ms : List Int}, k ∈ insI n ms ↔ k = n ∨ k ∈ ms
  | [] => by simp [insI]
  | m :: ms => by
    unfold insI
    split
    · simp
    · split
      · rename_i h1 h2; subst h2; simp
      · simp only [List.mem_cons, mem_insI]
        constructor
        · rintro (h | h | h)
          · exact .inr (.inl h)
          · exact .inl h
          · exact .inr (.inr h)
        · rintro (h | h | h)
          · exact .inr (.inl h)
          · exact .inl h
          · exact .inr (.inr h)
theorem mem_sortD {k : Int} : ∀ {ns : List Int}, k ∈ sortD ns ↔ k ∈ ns
  | [] => by simp [sortD]
  | n :: ns => by unfold sortD; rw [mem_insI, mem_sortD]; simp
theorem pw_insI {n : Int} : ∀ {ms : List Int}, ms.Pairwise (· < ·) → (insI n ms).Pairwise (· < ·)
  | [], _ => List.pairwise_singleton _ _
  | m :: ms, h => by
    obtain ⟨h1, h2⟩ := List.pairwise_cons.mp h
    unfold insI
    split
    · rename_i hn
      refine List.pairwise_cons.mpr ⟨fun k hk => ?_, h⟩
      rcases List.mem_cons.mp hk with rfl | hk
      · exact hn
      · have := h1 k hk; omega
    · split
      · exact h
      · rename_i h3 h4
        refine List.pairwise_cons.mpr ⟨fun k hk => ?_, pw_insI h2⟩
        rcases mem_insI.mp hk with rfl | hk
        · omega
        · exact h1 k hk
theorem pw_sortD : ∀ ns : List Int, (sortD ns).Pairwise (· < ·)
  | [] => List.Pairwise.nil
  | n :: ns => pw_insI (pw_sortD ns)
theorem pw_unique : ∀ {xs ys : List Int}, xs.Pairwise (· < ·) → ys.Pairwise (· < ·) → (∀ k, k ∈ xs ↔ k ∈ ys) → xs = ys
  | [], [], _, _, _ => rfl
  | [], y :: ys, _, _, h => absurd ((h y).mpr List.mem_cons_self) (by simp)
  | x :: xs, [], _, _, h => absurd ((h x).mp List.mem_cons_self) (by simp)
  | x :: xs, y :: ys, hx, hy, h => by
    obtain ⟨a1, a2⟩ := List.pairwise_cons.mp hx
    obtain ⟨b1, b2⟩ := List.pairwise_cons.mp hy
    have e : x = y := by
      rcases List.mem_cons.mp ((h x).mp List.mem_cons_self) with e | e
      · exact e
      · rcases List.mem_cons.mp ((h y).mpr List.mem_cons_self) with e2 | e2
        · exact e2.symm
        · have := b1 x e; have := a1 y e2; omega
    subst e
    rw [pw_unique a2 b2 fun k => ?_]
    constructor
    · intro hk
      rcases List.mem_cons.mp ((h k).mp (List.mem_cons_of_mem _ hk)) with e | e
      · subst e; have := a1 k hk; omega
      · exact e
    · intro hk
      rcases List.mem_cons.mp ((h k).mpr (List.mem_cons_of_mem _ hk)) with e | e
      · subst e; have := b1 k hk; omega
      · exact e
def dSortSet : D → Option (List D)
  | .tuple xs => (intsD xs).bind fun ns => if ns.length < 64 then some ((sortD ns).map PyData.int) else none
  | _ => none
def nSortSet (f : Rho → Option D) : Rho → Option (List D) := fun ρ => (f ρ).bind dSortSet
theorem bt_sorted : bootBuiltins "sorted" = some (.builtin "sorted") := by decide +kernel
theorem bt_set : bootBuiltins "set" = some (.type "set") := by decide +kernel
theorem n_sortSet {e : Expr} {f : Rho → Option D} {p p2 pos pos2 : Pos} (bi : Bi X.mg) (h : XF X e f) (hc : X.calm = true := by rfl) (hg : Gl X "sorted" := by rfl) (hg2 : Gl X "set" := by rfl)
    (he2 : starEach [e] X.env = (false, eval e X.env) :: starEach [] X.env := by rfl) (he : starEach [.Call (.Name "set" p2) [e] [] pos2] X.env = (false, eval (.Call (.Name "set" p2) [e] [] pos2) X.env) :: starEach [] X.env := by rfl) :
    NF X (.Call (.Name "sorted" p) [.Call (.Name "set" p2) [e] [] pos2] [] pos) (nSortSet f) :=
  ⟨fW_mono, (pe_callB (cr_sortedSet hc) hg bi.sorted bt_sorted (pa_cons (pe_callTy (cr_setT hc) hg2 bi.set bt_set (pa_cons h.pe pa_nil he2) (he := he2) (hpl := rfl)) pa_nil he) (he := he) (hpl := rfl)).imp fun σ H Q ⟨B, F, ρ, R, ps, e, k⟩ => by
    obtain ⟨x, e1, e2⟩ := Option.bind_eq_some_iff.mp e
    unfold dSortSet at e2
    split at e2
    · obtain ⟨ns, e3, e4⟩ := Option.bind_eq_some_iff.mp e2
      split at e4
      · rename_i h64
        cases e4
        refine ⟨B, F, ρ, R, _, e1, fun F' H' v R' s' d => ?_⟩
        obtain ⟨a, xs, rfl, s, r⟩ := Dp.inv_tup (d.dp (Same.refl _) R')
        rw [intsD_some e3] at r
        rw [dpAll_ints ns r] at s
        refine ⟨a, ns, rfl, s, by omega, fun q c hq hcl => ?_⟩
        refine ⟨q, _, c, rfl, upd_same, by omega, fun ms l hp hm hl hn => ?_⟩
        have em : ms = sortD ns := pw_unique hp (pw_sortD ns) fun z => by rw [hm z, mem_sortD]; simp
        subst em
        exact k F' _ l _ (R'.lay hq) s' hn (dpAll_of_ints _)
      · cases e4
    · cases e2⟩
end
end L2.P

set_option Elab.async false
set_option linter.all false
set_option maxRecDepth 100000
set_option maxHeartbeats 4000000
/-! PL12: the draws: _law_taken by hand. -/
namespace L2.P
open PySem PySem.Spec PyProof.Rows L2
/-- a number from 0 on below the argument -/
def wTaken : List D → (D → Prop) → Prop := fun ps K => ∃ m : Int, ps = [.int m] ∧ 0 < m ∧ m < 1073741824 ∧ ∀ k : Int, 0 ≤ k → k < m → K (.int k)
theorem wTaken_mono (ps : List D) (K K' : D → Prop) (h : ∀ p, K p → K' p) (q : wTaken ps K) : wTaken ps K' := by
  obtain ⟨m, e, h1, h2, k⟩ := q
  exact ⟨m, e, h1, h2, fun i a b => h _ (k i a b)⟩
theorem upd_self {H : Hp} {a : Addr} {o : HO} (h : H a = some o) : upd H a o = H := by
  funext b
  by_cases e : b = a
  · subst e; rw [upd_same, h]
  · rw [upd_ne e]
/-- row[j] -/
theorem row_at {K : Fg} {σ : St} {H : Hp} {Q : VK} {r : Addr} {L : List V} {j : Int} {v : V} (hσ : σ[0]? = some (some (.ref r))) (e : atI L j = some v) (q : Q v (upd H r (.lst L))) : tOp (rIxL K) (tVar 0) (tC (.int j)) σ (upd H r (.lst L)) Q :=
  ⟨.ref r, hσ, r, L, j, v, rfl, rfl, .inl (.inl upd_same), e, q⟩
/-- row[j] = v -/
theorem row_set {σ : St} {H : Hp} {Q : St → Hp → Prop} {r : Addr} {L : List V} {j : Int} {n : Nat} {v : V} (hσ : σ[0]? = some (some (.ref r))) (e : ixN L.length j = some n) (q : Q σ (upd H r (.lst (L.set n v)))) : gSub (tVar 0) (tC (.int j)) rSetL v σ (upd H r (.lst L)) Q :=
  ⟨.ref r, hσ, r, L, j, n, rfl, rfl, upd_same, e, by rw [upd_upd]; exact q⟩
def tTaken (K : Fg) : TS :=
  let ix (j : Int) : TE := tOp (rIxL K) (tVar 0) (tC (.int j))
  let intOf (t : TE) : TE := tCB (fun xs H Q => (∃ i, xs = [.int i] ∧ Q (.int i) H) ∨ ∃ k, xs = [.bl k] ∧ Q (.int (if k then 1 else 0)) H) (tCons t tNil)
  let md (a b : TE) : TE := tOp (rI (fun _ j => 0 < j) fun i j => .int (i % j)) a b
  let dv (a b : TE) : TE := tOp (rI CDiv fun i j => .int (i / j)) a b
  let ad (a b : TE) : TE := tOp (rI0 fun i j => .int (i + j)) a b
  let ml (a b : TE) : TE := tOp (rI CMul fun i j => .int (i * j)) a b
  let st (j : Int) : TG := gSub (tVar 0) (tC (.int j)) rSetL
  tSeq (tIfS (tTest (tOp (rI0 fun i j => .bl (decide (j < i))) (ix 3) (tC (.int 0)))) (tSeq (tAsg (md (intOf (ix 3)) (tVar 1)) (gName 2)) (tSeq (tAsg (dv (ix 3) (tVar 1)) (st 3)) (tRet (tVar 2)))) tNext)
  (tSeq (tAsg (ad (ix 1) (tC (.int 1))) (st 1))
  (tSeq (tIfS (tTest (tOp (rI0 fun i j => .bl (decide (j < i))) (ix 1) (tCB (fun xs H Q => ∃ p ys, xs = [.ref p] ∧ (SqL K H p ys ∨ SqT K H p ys) ∧ Q (.int ys.length) H) (tCons (ix 0) tNil))))
      (tSeq (tAsg (md (intOf (ad (ml (ix 2) (tC (.int 48271))) (tC (.int 11)))) (tC (.int 2147483647))) (st 2)) (tRet (md (intOf (dv (ix 2) (tC (.int 7)))) (tVar 1)))) tNext)
  (tSeq (tAsg (tOp (rIxL K) (ix 0) (tOp (rI0 fun i j => .int (i - j)) (ix 1) (tC (.int 1)))) (gName 3))
  (tSeq (tAsg (md (intOf (ad (ad (ml (ix 2) (tC (.int 48271))) (tVar 3)) (tC (.int 11)))) (tC (.int 2147483647))) (st 2))
  (tSeq (tIfS (tTest (tOp (rI0 fun i j => .bl (decide (j ≤ i))) (tVar 3) (tOp (rI CPow fun i j => .int (i ^ j.toNat)) (tC (.int 10)) (tC (.int 18))))) (tAsg (dv (tVar 3) (tVar 1)) (st 3)) tNext)
  (tRet (md (intOf (tVar 3)) (tVar 1))))))))
theorem cmul_r {i j : Int} (h1 : -(2 ^ 64) < j) (h2 : j < 2 ^ 64) : CMul i j := .inr ⟨h1, h2⟩
/-- what the row's turn makes -/
theorem taken_ok {K : Fg} {En : Ends} {H : Hp} {r sa : Addr} {ns : List Int} {b c d m : Int} {Q : Int → Hp → Prop} (hS : ∀ L, SqL K (upd H r (.lst L)) sa (ns.map V.int)) (hb : 0 ≤ b) (hc : 0 ≤ c) (hd : 0 ≤ d) (hm : 0 < m) (hm2 : m < 1073741824)
    (hrt : ∀ k H', Q k H' → En.rt (.int k) H')
    (q : ∀ (k b' c' d' : Int), 0 ≤ k → k < m → 0 ≤ b' → 0 ≤ c' → 0 ≤ d' → Q k (upd H r (.lst [.ref sa, .int b', .int c', .int d']))) :
    tTaken K En [some (.ref r), some (.int m), none, none] (upd H r (.lst [.ref sa, .int b, .int c, .int d])) := by
  have mod0 : ∀ x : Int, 0 ≤ x % m ∧ x % m < m := fun x => ⟨Int.emod_nonneg _ (by omega), Int.emod_lt_of_pos _ hm⟩
  have big : (0 : Int) < 2147483647 := by decide
  have mod1 : ∀ x : Int, 0 ≤ x % 2147483647 := fun x => Int.emod_nonneg _ (by decide)
  refine row_at rfl rfl ⟨_, _, rfl, rfl, _, rfl, ?_⟩
  refine ite2 (fun h => ?_) (fun h => ?_)
  · -- a rest is left
    refine row_at rfl rfl (.inl ⟨_, rfl, ?_⟩)
    refine ⟨_, rfl, _, _, rfl, rfl, hm, ?_⟩
    refine row_at rfl rfl ⟨_, rfl, _, _, rfl, rfl, ⟨hm, hm2⟩, ?_⟩
    refine row_set rfl rfl ⟨_, rfl, hrt _ _ (q _ _ _ _ (mod0 d).1 (mod0 d).2 hb hc (Int.ediv_nonneg hd (by omega)))⟩
  · refine row_at rfl rfl ⟨_, _, rfl, rfl, ?_⟩
    refine row_set rfl rfl ?_
    refine row_at rfl rfl (row_at rfl rfl ⟨sa, _, rfl, .inl (hS _), ?_⟩)
    refine ⟨_, _, rfl, rfl, _, rfl, ?_⟩
    refine ite2 (fun h2 => ?_) (fun h2 => ?_)
    · -- the script is at its end
      refine row_at rfl rfl ⟨_, _, rfl, rfl, cmul_r (by decide) (by decide), ⟨_, _, rfl, rfl, .inl ⟨_, rfl, _, _, rfl, rfl, big, ?_⟩⟩⟩
      refine row_set rfl rfl ?_
      refine row_at rfl rfl ⟨_, _, rfl, rfl, ⟨by decide, by decide⟩, .inl ⟨_, rfl, _, rfl, _, _, rfl, rfl, hm, ?_⟩⟩
      exact hrt _ _ (q _ _ _ _ (mod0 _).1 (mod0 _).2 (by omega) (mod1 _) hd)
    · have hlt : ¬ ((ns.length : Int) < b + 1) := by
        intro z
        apply h2
        rw [List.length_map]
        exact decide_eq_true z
      have hi : b.toNat < ns.length := by omega
      refine row_at rfl rfl (row_at rfl rfl ⟨_, _, rfl, rfl, ?_⟩)
      refine ⟨sa, _, b + 1 - 1, .int ns[b.toNat], rfl, rfl, hS _, ?_, ?_⟩
      · have e : b + 1 - 1 = (b.toNat : Int) := by omega
        rw [e]
        exact atI_nat (by rw [List.getElem?_map, List.getElem?_eq_getElem hi]; rfl)
      · generalize ns[b.toNat] = x
        refine row_at rfl rfl ⟨_, _, rfl, rfl, cmul_r (by decide) (by decide), ⟨_, rfl, _, _, rfl, rfl, ⟨_, _, rfl, rfl, .inl ⟨_, rfl, _, _, rfl, rfl, big, ?_⟩⟩⟩⟩
        refine row_set rfl rfl ?_
        refine ⟨_, rfl, _, _, rfl, rfl, ⟨by decide, by decide, by decide⟩, ⟨_, _, rfl, rfl, ⟨_, rfl, ?_⟩⟩⟩
        refine ite2 (fun h3 => ?_) (fun h3 => ?_)
        · refine ⟨_, rfl, _, rfl, _, _, rfl, rfl, ⟨hm, hm2⟩, ?_⟩
          refine row_set rfl rfl ?_
          have hx : (0 : Int) ≤ x := by
            have := of_decide_eq_true h3
            have e : ((10 : Int) ^ (18 : Int).toNat) = 1000000000000000000 := by decide
            rw [e] at this; omega
          exact ⟨_, rfl, .inl ⟨_, rfl, _, rfl, _, _, rfl, rfl, hm, hrt _ _ (q _ _ _ _ (mod0 _).1 (mod0 _).2 (by omega) (mod1 _) (Int.ediv_nonneg hx (by omega)))⟩⟩
        · exact ⟨_, rfl, .inl ⟨_, rfl, _, rfl, _, _, rfl, rfl, hm, hrt _ _ (q _ _ _ _ (mod0 _).1 (mod0 _).2 (by omega) (mod1 _) hd)⟩⟩
end L2.P
namespace L2.P
open PySem PySem.Spec PyProof.Rows L2
theorem taken_sp {K : Fg} {vs : List V} {H : Hp} {Q : VK} {E : XK} {a b c d : Str} (h : spR K 1 wTaken vs H Q E) : tTaken K { nx := fun _ H' => Q .non H', rt := Q } (start [a, b, c, d] vs) H := by
  obtain ⟨hl, r, us, F, ps, rfl, sF, fr, ⟨sa, ns, b, c, d, hr, hS, hlen, hb, hc, hd⟩, dd, m, rfl, h1, h2, k⟩ := h
  obtain ⟨v, rfl, dv⟩ := dp1 dd
  obtain rfl := Dp.inv_int dv
  have hS' : ∀ L, SqL K (upd H r (.lst L)) sa (ns.map V.int) := fun L => sqL_same (fun x o e => by
    have ne : x ≠ r := fun z => by subst z; rw [fr] at e; cases e
    rw [upd_ne ne]; exact sF x o e) hS
  have key := taken_ok (K := K) (En := { nx := fun _ H' => Q .non H', rt := Q }) (Q := fun k H' => Q (.int k) H') hS' hb hc hd h1 h2 (fun _ _ z => z) (fun k' b' c' d' g1 g2 g3 g4 g5 => by
    refine k k' g1 g2 F _ _ (Same.refl _) (fun x o ne e => ?_) (fun x o e => ?_) (fun x e1 e2 => absurd e1 e2) ⟨sa, ns, b', c', d', upd_same, hS, hlen, g3, g4, g5⟩ (.int _)
    · have ne' : x ≠ r := fun z => ne (by rw [z])
      rw [upd_ne ne']; exact e
    · have ne : x ≠ r := fun z => by subst z; rw [fr] at e; cases e
      rw [upd_ne ne]; exact sF x o e)
  rw [upd_self hr] at key
  exact key
theorem FnOk.len1 {K : Fg} {n : Nat} {T : List D → (D → Prop) → Prop} {ps : List Str} (h : ps.length = n + 1) : ∀ vs H Q E, spR K n T vs H Q E → vs.length = ps.length := fun vs H Q E q => by rw [q.1, h]
end L2.P

set_option Elab.async false
set_option linter.all false
set_option maxRecDepth 100000
set_option maxHeartbeats 4000000
/-! PL13: the webs that are drawn: _law_by by hand. -/
namespace L2.P
open PySem PySem.Spec PyProof.Rows L2
/-! ### rows of friends -/
def insF (j : Int) (r : List Int) : List Int := if j ∈ r then r else r ++ [j]
def modR (rows : List (List Int)) (i : Nat) (j : Int) : List (List Int) := rows.modify i (insF j)
def addE (rows : List (List Int)) (e : Int × Int) : List (List Int) := modR (modR rows e.1.toNat e.2) e.2.toNat e.1
def byRows (n : Nat) (es : List (Int × Int)) : List (List Int) := es.foldl addE (List.replicate n [])
theorem insF_nodup {j : Int} {r : List Int} (h : r.Nodup) : (insF j r).Nodup := by
  unfold insF
  split
  · exact h
  · rename_i hj
    exact List.nodup_append.mpr ⟨h, by simp, fun a ha b hb e => hj (by simp at hb; subst hb; subst e; exact ha)⟩
theorem mem_insF {j k : Int} {r : List Int} : k ∈ insF j r ↔ k = j ∨ k ∈ r := by
  unfold insF
  split
  · rename_i h
    exact ⟨.inr, fun z => z.elim (fun e => e ▸ h) id⟩
  · simp [or_comm]
def dkOf (r : List Int) : List (Key × V) := r.map fun j => ((Sum.inl j : Key), V.bl true)
theorem dk_any (r : List Int) (j : Int) : ((dkOf r).any fun kv => decide (kv.1 = (Sum.inl j : Key))) = decide (j ∈ r) := by
  induction r with
  | nil => rfl
  | cons i r ih =>
    unfold dkOf at ih ⊢
    rw [List.map_cons, List.any_cons, ih]
    by_cases e : i = j
    · subst e; simp
    · have e2 : ¬ (Sum.inl i : Key) = Sum.inl j := fun q => e (Sum.inl.inj q)
      have e3 : ¬ j = i := fun q => e q.symm
      simp [e2, e3]
theorem putK_dk (r : List Int) (j : Int) : putK (dkOf r) (Sum.inl j) (V.bl true) = dkOf (insF j r) := by
  unfold putK insF
  rw [dk_any]
  by_cases h : j ∈ r
  · rw [if_pos (decide_eq_true h), if_pos h]
    unfold dkOf
    rw [List.map_map]
    apply List.map_congr_left
    intro i _
    show (if (Sum.inl i : Key) = Sum.inl j then _ else _) = _
    split <;> rfl
  · rw [if_neg (by simp [h]), if_neg h]
    unfold dkOf
    rw [List.map_append]
    rfl
/-- the dicts stand -/
structure Grid (H0 H : Hp) (L : Addr) (ds : List Addr) (rows : List (List Int)) : Prop where
  lst : H L = some (.lst (ds.map V.ref))
  nd : ds.Nodup
  nL : L ∉ ds
  len : rows.length = ds.length
  row : ∀ (i : Nat) (a : Addr) (r : List Int), ds[i]? = some a → rows[i]? = some r → H a = some (.dK (dkOf r))
  old : ∀ b o, H0 b = some o → H b = some o
  fre : ∀ a ∈ ds, H0 a = none
  freL : H0 L = none
theorem Grid.put {H0 H : Hp} {L : Addr} {ds : List Addr} {rows : List (List Int)} (G : Grid H0 H L ds rows) {i : Nat} {a : Addr} {r : List Int} (ha : ds[i]? = some a) (hr : rows[i]? = some r) (j : Int) :
    Grid H0 (upd H a (.dK (dkOf (insF j r)))) L ds (modR rows i j) where
  lst := by
    have ne : L ≠ a := fun e => G.nL (e ▸ List.mem_of_getElem? ha)
    rw [upd_ne ne]; exact G.lst
  nd := G.nd
  nL := G.nL
  len := by unfold modR; rw [List.length_modify]; exact G.len
  row := fun k b r' hb hr' => by
    unfold modR at hr'
    rw [List.getElem?_modify] at hr'
    by_cases e : i = k
    · subst e
      rw [ha] at hb; cases hb
      rw [hr] at hr'
      simp at hr'
      subst hr'
      exact upd_same
    · simp only [if_neg e] at hr'
      have ne : b ≠ a := fun q => by
        subst q
        exact e ((nodup_ix_addr G.nd ha hb))
      rw [upd_ne ne]
      exact G.row k b r' hb (by simpa using hr')
  old := fun b o e => by
    have ne : b ≠ a := fun q => by
      subst q
      rw [G.fre b (List.mem_of_getElem? ha)] at e; cases e
    rw [upd_ne ne]; exact G.old b o e
  fre := G.fre
  freL := G.freL
where
  nodup_ix_addr {l : List Addr} (h : l.Nodup) {i j : Nat} {x : Addr} (a : l[i]? = some x) (b : l[j]? = some x) : i = j := by
    obtain ⟨h1, e1⟩ := List.getElem?_eq_some_iff.mp a
    obtain ⟨h2, e2⟩ := List.getElem?_eq_some_iff.mp b
    exact (List.getElem_inj h).mp (e1.trans e2.symm)
/-- the edges are of people -/
def EdgesOk (n : Nat) (es : List (Int × Int)) : Prop := ∀ e ∈ es, 0 ≤ e.1 ∧ e.1 < n ∧ 0 ≤ e.2 ∧ e.2 < n
def rTupOf (K : Fg) : List V → Hp → VK → Prop := fun xs H Q => ∃ p ys, xs = [.ref p] ∧ ((SqL K H p ys ∧ ∀ l, H l = none → Q (.ref l) (upd H l (.tup ys))) ∨ (SqT K H p ys ∧ Q (.ref p) H))
def tBy1 : TE := tLc (iRng1 (tCons (tVar 0) tNil)) (gName 5) tYes tDNewK [5]
def tBy2 (K : Fg) : TS := tFor (iList K (tVar 1)) (L2.gTup K 2 (gCons (gName 3) (gCons (gName 4) gNil))) (tSeq (sDPut (tOp (rIxL K) (tVar 2) (tVar 3)) (tVar 4) (tC (.bl true))) (sDPut (tOp (rIxL K) (tVar 2) (tVar 4)) (tVar 3) (tC (.bl true))))
def tBy3 (K : Fg) : TE := tCB (rTupOf K) (tCons (tLc (iList K (tVar 2)) (gName 6) tYes (tCB (rTupOf K) (tCons (tCB (rSortedI K) (tCons (tCB rListD (tCons (tVar 6) tNil)) tNil)) tNil)) [6]) tNil)
def tBy (K : Fg) : TS := tSeq (tAsg tBy1 (gName 2)) (tSeq (tBy2 K) (tRet (tBy3 K)))
theorem by1_ok {H : Hp} {n : Nat} {c : V} {Q : VK} (hn : n ≤ 1000) (q : ∀ L ds H', Grid H H' L ds (List.replicate n []) → Q (.ref L) H') : tBy1 [some (.int (n : Int)), some c, none, none, none, none, none] H Q := by
  refine ⟨_, rfl, (n : Int), rfl, by omega, by omega, fun D hD => ?_⟩
  refine lc_range (lo := 0) (n := (n : Int).toNat) (fun i H' => ∃ ds : List Addr, ds.length = i ∧ Grid H H' D ds (List.replicate i [])) ⟨[], rfl, ?_⟩ (fun i H' hi ⟨ds, hl, G⟩ => ⟨rfl, fun p hp => ⟨ds.map V.ref, ?_, ?_, ds ++ [p], ?_, ?_⟩⟩) fun H' ⟨ds, hl, G⟩ => ?_
  · refine ⟨upd_same, List.nodup_nil, by simp, rfl, fun i a r h => by simp at h, fun b o e => ?_, fun a h => by simp at h, hD⟩
    rw [upd_ne (ne_of_none e hD)]; exact e
  · rw [upd_ne (ne_of_none G.lst hp)]; exact G.lst
  · rw [List.length_map, hl, sizeLine_eq]; omega
  · rw [List.length_append, hl]; rfl
  · have neD : D ≠ p := ne_of_none G.lst hp
    have pnd : p ∉ ds := fun hm => by
      obtain ⟨k, hk⟩ := List.getElem?_of_mem hm
      have hkl : k < (List.replicate i ([] : List Int)).length := by
        rw [List.length_replicate, ← hl]; exact (List.getElem?_eq_some_iff.mp hk).1
      have := G.row k p [] hk (by rw [List.getElem?_replicate]; rw [List.length_replicate] at hkl; rw [if_pos hkl])
      rw [hp] at this; cases this
    refine ⟨by rw [upd_same, List.map_append]; rfl, List.nodup_append.mpr ⟨G.nd, by simp, fun a ha b hb e => pnd (by simp at hb; subst hb; subst e; exact ha)⟩, ?_, by simp [hl], fun k a r hk hr => ?_, fun b o e => ?_, fun a ha => ?_, G.freL⟩
    · intro hm
      rcases List.mem_append.mp hm with hm | hm
      · exact G.nL hm
      · simp at hm; exact neD hm
    · rw [List.getElem?_replicate] at hr
      split at hr
      · cases hr
        rw [List.getElem?_append] at hk
        split at hk
        · rename_i hkl
          have ne1 : a ≠ D := fun e => G.nL (e ▸ List.mem_of_getElem? hk)
          have ne2 : a ≠ p := fun e => pnd (e ▸ List.mem_of_getElem? hk)
          rw [upd_ne ne1, upd_ne ne2]
          exact G.row k a [] hk (by rw [List.getElem?_replicate, if_pos (by omega)])
        · have ea : a = p := by
            have := List.mem_of_getElem? hk
            simpa using this
          subst ea
          rw [upd_ne (Ne.symm neD), upd_same]; rfl
      · cases hr
    · have h1 := G.old b o e
      rw [upd_ne (fun z => by subst z; rw [G.freL] at e; cases e), upd_ne (ne_of_none h1 hp)]; exact h1
    · rcases List.mem_append.mp ha with ha | ha
      · exact G.fre a ha
      · simp at ha
        subst ha
        cases z : H a with
        | none => rfl
        | some o => rw [G.old a o z] at hp; cases hp
  · rw [Int.toNat_natCast] at hl G
    exact q D ds H' G
theorem rows_len (rows : List (List Int)) (e : Int × Int) : (addE rows e).length = rows.length := by unfold addE modR; rw [List.length_modify, List.length_modify]
theorem by2_ok {K : Fg} {H H1 : Hp} {n : Nat} {cs : Addr} {xs : List V} {es : List (Int × Int)} {L : Addr} {ds : List Addr} {rows : List (List Int)} {a : V} {En : Ends} (hz : es.length ≤ 1000) (hl : rows.length = n) (hrl : ∀ r ∈ rows, r.length = 0)
    (hS : SqL K H cs xs) (hx : DpAll K H xs (es.map fun e => .tuple [.int e.1, .int e.2])) (he : EdgesOk n es) (hnd : ∀ r ∈ rows, r.Nodup) (hin : ∀ r ∈ rows, ∀ k ∈ r, 0 ≤ k ∧ k < n) (G : Grid H H1 L ds rows)
    (q : ∀ (y3 y4 : Option V) H', Grid H H' L ds (es.foldl addE rows) → En.nx [some a, some (.ref cs), some (.ref L), y3, y4, none, none] H') : tBy2 K En [some a, some (.ref cs), some (.ref L), none, none, none, none] H1 := by
  refine ⟨_, rfl, cs, rfl, ⟨xs, sqL_same G.old hS⟩, ?_⟩
  refine for_list (xs := xs) (fun i σ H' => ∃ y3 y4, σ = [some a, some (.ref cs), some (.ref L), y3, y4, none, none] ∧ ∃ rs : List (List Int), rs = (es.take i).foldl addE rows ∧ rs.length = n ∧ (∀ r ∈ rs, r.length ≤ 2 * i) ∧ (∀ r ∈ rs, r.Nodup) ∧ (∀ r ∈ rs, ∀ k ∈ r, 0 ≤ k ∧ k < n) ∧ Grid H H' L ds rs)
    ⟨none, none, rfl, rows, rfl, hl, fun r hr => by rw [hrl r hr]; exact Nat.zero_le _, hnd, hin, G⟩ (fun i σ H' _ ⟨_, _, _, rs, _, _, _, _, _, G'⟩ => sqL_same G'.old hS) (fun i x σ H' hxi ⟨y3, y4, eσ, rs, ers, hlr, hzr, hnr, hir, G'⟩ => ?_) fun σ H' ⟨y3, y4, eσ, rs, ers, _, _, _, _, G'⟩ => ?_
  · obtain ⟨p, hp, dp⟩ := hx.getV hxi
    rw [List.getElem?_map] at hp
    obtain ⟨e, hei, rfl⟩ := Option.map_eq_some_iff.mp hp
    obtain ⟨t, ys, rfl, st, ry⟩ := Dp.inv_tup dp
    obtain ⟨v1, v2, rfl, d1, d2⟩ := dp2 ry
    obtain rfl := Dp.inv_int d1
    obtain rfl := Dp.inv_int d2
    obtain ⟨e1, e2, e3, e4⟩ := he e (List.mem_of_getElem? hei)
    subst eσ
    refine ⟨t, _, rfl, sqT_same G'.old st, rfl, _, _, rfl, _, _, rfl, rfl, ?_⟩
    have hld := G'.len
    have at_ : ∀ (k : Int), 0 ≤ k → k < n → ∃ b, ds[k.toNat]? = some b ∧ atI (ds.map V.ref) k = some (.ref b) := fun k h1 h2 => by
      have hk : k.toNat < ds.length := by omega
      refine ⟨ds[k.toNat], List.getElem?_eq_getElem hk, ?_⟩
      have ek : k = (k.toNat : Int) := by omega
      have := atI_nat (xs := ds.map V.ref) (j := k.toNat) (v := .ref ds[k.toNat]) (by rw [List.getElem?_map]; simp [hk])
      rw [← ek] at this
      exact this
    have putR : ∀ (rs : List (List Int)) (k j : Int), rs.length = n → (∀ r ∈ rs, r.Nodup) → (∀ r ∈ rs, ∀ k ∈ r, 0 ≤ k ∧ k < n) → 0 ≤ j → j < n → (∀ r ∈ modR rs k.toNat j, r.Nodup) ∧ (∀ r ∈ modR rs k.toNat j, ∀ k ∈ r, 0 ≤ k ∧ k < n) := fun rs k j _ h1 h2 h3 h4 => by
      unfold modR
      refine ⟨fun r hr => ?_, fun r hr z hz => ?_⟩
      · obtain ⟨m, hm⟩ := List.getElem?_of_mem hr
        rw [List.getElem?_modify] at hm
        obtain ⟨r0, hr0, rfl⟩ := Option.map_eq_some_iff.mp hm
        have := h1 r0 (List.mem_of_getElem? hr0)
        split
        · exact insF_nodup this
        · exact this
      · obtain ⟨m, hm⟩ := List.getElem?_of_mem hr
        rw [List.getElem?_modify] at hm
        obtain ⟨r0, hr0, rfl⟩ := Option.map_eq_some_iff.mp hm
        have := h2 r0 (List.mem_of_getElem? hr0)
        split at hz
        · rcases mem_insF.mp hz with rfl | hz
          · exact ⟨h3, h4⟩
          · exact this z hz
        · exact this z hz
    have hil : i < es.length := (List.getElem?_eq_some_iff.mp hei).1
    have grow : ∀ (qs : List (List Int)) (k : Nat) (j : Int) (m : Nat), (∀ r ∈ qs, r.length ≤ m) → ∀ r ∈ modR qs k j, r.length ≤ m + 1 := fun qs k j m h r hr => by
      unfold modR at hr
      obtain ⟨w, hw⟩ := List.getElem?_of_mem hr
      rw [List.getElem?_modify] at hw
      obtain ⟨r0, hr0, rfl⟩ := Option.map_eq_some_iff.mp hw
      have := h r0 (List.mem_of_getElem? hr0)
      split
      · unfold insF
        split
        · omega
        · rw [List.length_append, List.length_singleton]; omega
      · omega
    have small : ∀ (qs : List (List Int)) (m : Nat), m ≤ 3000 → (∀ r ∈ qs, r.length ≤ m) → ∀ r ∈ qs, (dkOf r).length < sizeLine := fun qs m hm h r hr => by
      have := h r hr
      unfold dkOf
      rw [List.length_map, sizeLine_eq]; omega
    -- found[one][other] = True
    obtain ⟨b1, hb1, at1⟩ := at_ e.1 e1 e2
    have hr1 : e.1.toNat < rs.length := by omega
    have g1 := G'.put hb1 (List.getElem?_eq_getElem hr1) e.2
    refine ⟨_, rfl, _, rfl, L, ds.map V.ref, e.1, _, rfl, rfl, .inl (.inl G'.lst), at1, ?_⟩
    refine ⟨_, rfl, b1, _, rfl, DPut.k (k := Sum.inl e.2) (G'.row _ _ _ hb1 (List.getElem?_eq_getElem hr1)) (small rs (2 * i) (by omega) hzr _ (List.getElem_mem hr1)), ?_⟩
    rw [putK_dk]
    obtain ⟨n1, i1⟩ := putR rs e.1 e.2 hlr hnr hir e3 e4
    have hl1 : (modR rs e.1.toNat e.2).length = n := by unfold modR; rw [List.length_modify]; exact hlr
    -- found[other][one] = True
    obtain ⟨b2, hb2, at2⟩ := at_ e.2 e3 e4
    have hr2 : e.2.toNat < (modR rs e.1.toNat e.2).length := by omega
    refine ⟨_, rfl, _, rfl, L, ds.map V.ref, e.2, _, rfl, rfl, .inl (.inl g1.lst), at2, ?_⟩
    refine ⟨_, rfl, b2, _, rfl, DPut.k (k := Sum.inl e.1) (g1.row _ _ _ hb2 (List.getElem?_eq_getElem hr2)) (small _ (2 * i + 1) (by omega) (grow rs _ _ _ hzr) _ (List.getElem_mem hr2)), ?_⟩
    rw [putK_dk]
    obtain ⟨n2, i2⟩ := putR _ e.2 e.1 hl1 n1 i1 e1 e2
    refine ⟨_, _, rfl, addE rs e, ?_, by rw [rows_len]; exact hlr, fun r hr => by have := grow _ _ _ _ (grow rs e.1.toNat e.2 _ hzr) r hr; omega, n2, i2, g1.put hb2 (List.getElem?_eq_getElem hr2) e.1⟩
    rw [List.take_add_one, hei, ers]
    simp [List.foldl_append]
  · subst eσ
    have hxl : xs.length = es.length := by rw [hx.length, List.length_map]
    rw [hxl, List.take_length] at ers
    subst ers
    exact q y3 y4 H' G'
end L2.P
namespace L2.P
open PySem PySem.Spec PyProof.Rows L2
theorem nodup_lt {ns : List Int} (h : ns.Pairwise (· ≤ ·)) (n : ns.Nodup) : ns.Pairwise (· < ·) := by
  induction ns with
  | nil => exact List.Pairwise.nil
  | cons x r ih =>
    obtain ⟨h1, h2⟩ := List.pairwise_cons.mp h
    obtain ⟨n1, n2⟩ := List.nodup_cons.mp n
    refine List.pairwise_cons.mpr ⟨fun y hy => ?_, ih h2 n2⟩
    have := h1 y hy
    have ne : x ≠ y := fun e => n1 (e ▸ hy)
    omega
theorem sorted_is {r ns : List Int} (p : ns.Perm r) (h : ns.Pairwise (· ≤ ·)) (n : r.Nodup) : ns = sortD r :=
  pw_unique (nodup_lt h (p.nodup_iff.mpr n)) (pw_sortD r) fun k => by rw [p.mem_iff, mem_sortD]
theorem keys_dk (r : List Int) : (dkOf r).map (fun kv => kV kv.1) = r.map V.int := by
  unfold dkOf
  rw [List.map_map]
  rfl
theorem by3_ok {K : Fg} {H0 H1 : Hp} {L : Addr} {ds : List Addr} {rows : List (List Int)} {a c : V} {y3 y4 : Option V} {Q : VK} (hn : rows.length ≤ 1000) (hnd : ∀ r ∈ rows, r.Nodup) (G : Grid H0 H1 L ds rows)
    (q : ∀ (l : Addr) (ts : List Addr) (H' : Hp), Same H1 H' → H0 l = none → H' l = some (.tup (ts.map V.ref)) → ts.length = rows.length → (∀ (k : Nat) (t : Addr), ts[k]? = some t → H0 t = none ∧ ∃ r, rows[k]? = some r ∧ H' t = some (.tup ((sortD r).map V.int))) → Q (.ref l) H') :
    tBy3 K [some a, some c, some (.ref L), y3, y4, none, none] H1 Q := by
  refine ⟨.ref L, rfl, L, rfl, ⟨_, .inl (.inl G.lst)⟩, fun D hD => ?_⟩
  have none0 : ∀ {H' : Hp} {p : Addr}, Same H1 H' → H' p = none → H0 p = none := fun {H' p} s e => by
    cases z : H0 p with
    | none => rfl
    | some o => rw [s p o (G.old p o z)] at e; cases e
  refine lc_list (K := K) (a := L) (xs := ds.map V.ref) (fun i H' => Same H1 H' ∧ ∃ ts : List Addr, ts.length = i ∧ H' D = some (.lst (ts.map V.ref)) ∧ ∀ (k : Nat) (t : Addr), ts[k]? = some t → H0 t = none ∧ ∃ r, rows[k]? = some r ∧ H' t = some (.tup ((sortD r).map V.int)))
    ⟨same_upd hD, [], rfl, upd_same, fun k t h => by simp at h⟩ (fun i H' _ ⟨s, _⟩ => .inl (.inl (s _ _ G.lst))) (fun i x H' hx ⟨s, ts, hl, hDl, hts⟩ => ?_) fun H' ⟨s, ts, hl, hDl, hts⟩ => ?_
  · refine ⟨rfl, ?_⟩
    rw [List.getElem?_map] at hx
    obtain ⟨b, hb, rfl⟩ := Option.map_eq_some_iff.mp hx
    have hi : i < rows.length := by rw [G.len]; exact (List.getElem?_eq_some_iff.mp hb).1
    have hri := List.getElem?_eq_getElem hi
    generalize rows[i] = r at hri
    have hrn := hnd r (List.mem_of_getElem? hri)
    refine ⟨.ref b, rfl, b, _, rfl, s _ _ (G.row i b r hb hri), fun p hp => ?_⟩
    rw [keys_dk]
    refine ⟨p, r, rfl, .inl (.inl upd_same), fun ns w hperm hle hw => ?_⟩
    have en := sorted_is hperm hle hrn
    subst en
    refine ⟨w, _, rfl, .inl ⟨.inl (.inl upd_same), fun t ht => ?_⟩⟩
    have s1 : Same H' (upd H' p (.lst (r.map V.int))) := same_upd hp
    have s2 := same_upd (o := .lst ((sortD r).map V.int)) hw
    have s3 := same_upd (o := .tup ((sortD r).map V.int)) ht
    have s13 := (s1.trans s2).trans s3
    have t0 : H' t = none := by
      cases z : H' t with
      | none => rfl
      | some o => rw [s2 _ _ (s1 _ _ z)] at ht; cases ht
    have tD : t ≠ D := fun e => by subst e; rw [hDl] at t0; cases t0
    refine ⟨ts.map V.ref, s13 _ _ hDl, ?_, fun b' o e => ?_, ts ++ [t], by simp [hl], ?_, fun k u hu => ?_⟩
    · rw [List.length_map, hl, sizeLine_eq]; omega
    · have neD : b' ≠ D := fun z => by subst z; rw [hD] at e; cases e
      rw [upd_ne neD]; exact s13 _ _ (s _ _ e)
    · rw [upd_same, List.map_append]; rfl
    · rw [List.getElem?_append] at hu
      split at hu
      · obtain ⟨g1, r', g2, g3⟩ := hts k u hu
        have uD : u ≠ D := fun e => by subst e; rw [hDl] at g3; cases g3
        exact ⟨g1, r', g2, by rw [upd_ne uD]; exact s13 _ _ g3⟩
      · rename_i hk
        have eu : u = t := by
          have := List.mem_of_getElem? hu
          simpa using this
        have ek : k = i := by
          have := (List.getElem?_eq_some_iff.mp hu).1
          simp at this; omega
        subst eu; subst ek
        exact ⟨none0 s t0, r, hri, by rw [upd_ne tD, upd_same]⟩
  · rw [List.length_map] at hl
    refine ⟨D, _, rfl, .inl ⟨.inl (.inl hDl), fun l hlf => ?_⟩⟩
    have s1 := same_upd (o := .tup (ts.map V.ref)) hlf
    exact q l ts _ (s.trans s1) (none0 s hlf) upd_same (by rw [hl, G.len]) fun k t hk => by
      obtain ⟨g1, r, g2, g3⟩ := hts k t hk
      exact ⟨g1, r, g2, s1 _ _ g3⟩
/-- the new part of a heap, over what was frozen -/
def joinH (F H H' : Hp) : Hp := fun b => match F b with
  | some o => some o
  | none => match H b with
    | none => H' b
    | some _ => none
theorem joinH_old {F H H' : Hp} : Same F (joinH F H H') := fun b o e => by unfold joinH; rw [e]
theorem joinH_new {F H H' : Hp} {b : Addr} (s : Same F H) (h : H b = none) : joinH F H H' b = H' b := by
  unfold joinH
  rw [s.free h, h]
theorem joinH_sub {F H H' : Hp} (s : Same F H) (s' : Same H H') : Same (joinH F H H') H' := fun b o e => by
  unfold joinH at e
  split at e
  · rename_i u hu; cases e; exact s' _ _ (s _ _ hu)
  · split at e
    · exact e
    · cases e
theorem joinH_fre {F H H' : Hp} (b : Addr) (h : F b = none) (h' : joinH F H H' b ≠ none) : H b = none := by
  cases z : H b with
  | none => rfl
  | some o => exact absurd (by unfold joinH; rw [h, z]) h'
/-- the web of the rows -/
def webD (rows : List (List Int)) : D := .tuple (rows.map fun r => .tuple (r.map .int))
def edgeD (e : Int × Int) : D := .tuple [.int e.1, .int e.2]
/-- _law_by -/
def wBy : List D → (D → Prop) → Prop := fun ps K => ∃ (n : Nat) (es : List (Int × Int)), ps = [.int (n : Int), .list (es.map edgeD)] ∧ n ≤ 1000 ∧ es.length ≤ 1000 ∧ EdgesOk n es ∧ K (webD ((byRows n es).map sortD))
theorem wBy_mono (ps : List D) (K K' : D → Prop) (h : ∀ p, K p → K' p) (q : wBy ps K) : wBy ps K' := by
  obtain ⟨n, es, e, h1, h2, h3, k⟩ := q
  exact ⟨n, es, e, h1, h2, h3, h _ k⟩
theorem byRows_facts {n : Nat} : ∀ (es : List (Int × Int)) (rows : List (List Int)), rows.length = n → (∀ r ∈ rows, r.Nodup) → (es.foldl addE rows).length = n ∧ ∀ r ∈ es.foldl addE rows, r.Nodup
  | [], rows, h1, h2 => ⟨h1, h2⟩
  | e :: es, rows, h1, h2 => by
    rw [List.foldl_cons]
    have m : ∀ (qs : List (List Int)) (k : Nat) (j : Int), (∀ r ∈ qs, r.Nodup) → ∀ r ∈ modR qs k j, r.Nodup := fun qs k j h r hr => by
      unfold modR at hr
      obtain ⟨w, hw⟩ := List.getElem?_of_mem hr
      rw [List.getElem?_modify] at hw
      obtain ⟨r0, hr0, rfl⟩ := Option.map_eq_some_iff.mp hw
      have := h r0 (List.mem_of_getElem? hr0)
      split
      · exact insF_nodup this
      · exact this
    exact byRows_facts es _ (by rw [rows_len]; exact h1) (m _ _ _ (m _ _ _ h2))
theorem by_sp {K : Fg} {vs : List V} {H : Hp} {Q : VK} {E : XK} {a b c d e f g : Str} (h : spF K 2 wBy vs H Q E) : tBy K { nx := fun _ H' => Q .non H', rt := Q } (start [a, b, c, d, e, f, g] vs) H := by
  obtain ⟨hl, F, ps, sF, dd, n, es, rfl, h1, h2, h3, k⟩ := h
  obtain ⟨v, u, rfl, d1, d2⟩ := dp2 dd
  obtain rfl := Dp.inv_int d1
  obtain ⟨cs, xs, rfl, sL, r⟩ := Dp.inv_lst d2
  have e0 : start [a, b, c, d, e, f, g] [V.int (n : Int), V.ref cs] = [some (.int (n : Int)), some (.ref cs), none, none, none, none, none] := rfl
  rw [e0]
  unfold tBy tSeq tAsg
  refine by1_ok h1 fun L ds H1 G => ?_
  refine by2_ok (rows := List.replicate n []) h2 List.length_replicate (fun r hr => by rw [List.eq_of_mem_replicate hr]; rfl) (sqL_same sF sL) (r.same sF) h3 (fun r hr => by rw [List.eq_of_mem_replicate hr]; exact List.nodup_nil) (fun r hr => by rw [List.eq_of_mem_replicate hr]; intro k hk; cases hk) G fun y3 y4 H2 G2 => ?_
  obtain ⟨hlen, hnd⟩ := byRows_facts es (List.replicate n []) List.length_replicate fun r hr => by rw [List.eq_of_mem_replicate hr]; exact List.nodup_nil
  refine by3_ok (by rw [hlen]; exact h1) hnd G2 fun l ts H3 s hl0 hlt hts htt => ?_
  have sH : Same H H3 := fun b o z => s _ _ (G2.old b o z)
  refine k (joinH F H H3) H3 (.ref l) joinH_old sH (joinH_sub sF sH) (fun b h1 h2 => .inl (joinH_fre b h1 h2)) ?_
  refine .tup (by rw [joinH_new sF hl0]; exact hlt) ?_
  -- item by item
  have items : ∀ (ts : List Addr) (rows : List (List Int)), ts.length = rows.length → (∀ (k : Nat) (t : Addr), ts[k]? = some t → H t = none ∧ ∃ r, rows[k]? = some r ∧ H3 t = some (.tup ((sortD r).map V.int))) →
      DpAll K (joinH F H H3) (ts.map V.ref) ((rows.map sortD).map fun r => .tuple (r.map .int)) := fun ts => by
    induction ts with
    | nil =>
      intro rows hl _
      cases rows with
      | nil => exact .nil
      | cons _ _ => cases hl
    | cons t ts ih =>
      intro rows hl h
      cases rows with
      | nil => cases hl
      | cons r rows =>
        obtain ⟨g1, r', g2, g3⟩ := h 0 t rfl
        obtain rfl : r = r' := by simpa using g2
        exact .cons (.tup (by rw [joinH_new sF g1]; exact g3) (dpAll_of_ints _)) (ih rows (by simpa using hl) fun k u hu => h (k + 1) u (by simpa using hu))
  exact items ts _ hts htt
end L2.P

set_option Elab.async false
set_option linter.all false
set_option maxRecDepth 100000
set_option maxHeartbeats 4000000
/-! PL14: code that draws: rules by what is wanted (WP); the row's own def; recursion's ground. -/
namespace L2.P
open PySem PySem.Spec PyProof.Rows L2
section
variable {X : Cx} {e a b : Expr} {es : List Expr} {p pos spos : Pos} {n : Nat}
/-- arguments of a known number -/
structure EAL (X : Cx) (es : List Expr) (T : TL) (n : Nat) : Prop where
  ea : EA X es T
  len : LenW T n
theorem eal_nil : EAL X [] wNil 0 := ⟨ea_nilw, lenW_nil⟩
theorem eal_cons {T : TW} {U : TL} (ha : EW X e T) (hr : EAL X es U n) (hs : starEach (e :: es) X.env = (false, eval e X.env) :: starEach es X.env := by rfl) : EAL X (e :: es) (wCons T U) (n + 1) :=
  ⟨ea_consw ha hr.ea hs, lenW_cons ha hr.len hr.ea.mono⟩
def wTupW (T : TL) : TW := fun ρ K => T ρ fun ps => K (.tuple ps)
theorem ew_tupL {T : TL} {x1} (h : EAL X es T n) (hn : n ≤ 1000 := by decide) : EW X (.Tuple es x1 pos) (wTupW T) := ew_tup h.ea h.len hn
def wLst (T : TL) : TW := fun ρ K => T ρ fun ps => K (.list ps)
theorem NW.eL {T : TL} (h : NW X e T) : EW X e (wLst T) := h.e
theorem nw_lstL {T : TL} (h : EAL X es T n) (hn : n ≤ 1000 := by decide) : NW X (.List es pos) T := nw_lst h.ea h.len hn
def wDraw (i : Nat) (w : List D → (D → Prop) → Prop) (U : TL) : TW := fun ρ K => ρ[i]? = some .row ∧ wCal w U ρ K
theorem ew_draw {T : List D → (D → Prop) → Prop} {U : TL} {i : Nat} {x y : Str} {py : Pos} (c : CalX X x (spR X.K n T)) (mt : ∀ ps K K', (∀ p, K p → K' p) → T ps K → T ps K') (hN : X.N[i]? = some y) (hv : Vis X.env.scope y) (h : EAL X es U n) (hg : Gl X x) (hdb : (x == ("__debug__" : Str)) = false := by decide)
    (hd : (y == ("__debug__" : Str)) = false := by decide) (hcd : (y == ("__classdict__" : Str)) = false := by decide)
    (he : starEach (.Name y py :: es) X.env = (false, eval (.Name y py) X.env) :: starEach es X.env := by rfl) (hpl : (backTo pos (starEach es X.env)).any (·.1) = false := by rfl) : EW X (.Call (.Name x p) (.Name y py :: es) [] pos) (wDraw i T U) :=
  ew_callR c mt hN hv h.ea h.len hg hdb hd hcd he hpl
def wCalL (w : List D → (D → Prop) → Prop) (U : TL) : TW := wCal w U
theorem ew_callL {T : List D → (D → Prop) → Prop} {U : TL} {x : Str} (c : CalX X x (spF X.K n T)) (mt : ∀ ps K K', (∀ p, K p → K' p) → T ps K → T ps K') (ha : EAL X (e :: es) U n) (hg : Gl X x) (hdb : (x == ("__debug__" : Str)) = false := by decide)
    (he : starEach (e :: es) X.env = (false, eval e X.env) :: starEach es X.env := by rfl) (hpl : (backTo pos (starEach es X.env)).any (·.1) = false := by rfl) : EW X (.Call (.Name x p) (e :: es) [] pos) (wCal T U) := ew_call c mt ha.ea ha.len hg hdb he hpl
/-- what a pure def makes, by its function -/
def gW (g : GA) : List D → (D → Prop) → Prop := fun ps K => ∃ z, g ps = some z ∧ K z
theorem gW_mono {g : GA} : ∀ ps K K', (∀ p, K p → K' p) → gW g ps K → gW g ps K' := fun ps K K' h ⟨z, e, k⟩ => ⟨z, e, h z k⟩
theorem cw_tuple {T : TL} (B : Bi X.mg) (h : XA X [a] T) (hg : Gl X "tuple" := by rfl) (he : starEach [a] X.env = (false, eval a X.env) :: starEach [] X.env := by rfl) : EW X (.Call (.Name "tuple" p) [a] [] pos) (wOf gTup T) := ew_callT cg_tuple h hg B.tuple bt_tuple (he := he) (hpl := rfl)
theorem cw_len {T : TL} (B : Bi X.mg) (h : XA X [a] T) (hg : Gl X "len" := by rfl) (he : starEach [a] X.env = (false, eval a X.env) :: starEach [] X.env := by rfl) : EW X (.Call (.Name "len" p) [a] [] pos) (wOf gLen T) := ew_callB cg_len h hg B.len boot_len (he := he) (hpl := rfl)
theorem sw_parL {i j : Nat} {x y : Str} {T : TL} {px py pt : Pos} {kt k2 pt2} (hc : X.calm = true) (hN : X.N.Nodup) (hi : X.N[i]? = some x) (hj : X.N[j]? = some y) (hij : i ≠ j)
    (hx : X.env.scope.names.lookup x = some .local) (hy : X.env.scope.names.lookup y = some .local) (h : EAL X [a, b] T n)
    (hw : swappedStores [.Tuple [.Name x px, .Name y py] kt pt] (.Tuple [a, b] k2 pt2) X.env = pure (some [x, y]))
    (hs : swapsWithSole [.Tuple [.Name x px, .Name y py] kt pt] (.Tuple [a, b] k2 pt2) pos.line X.env = pure false := by rfl) :
    SW X (.Assign [.Tuple [.Name x px, .Name y py] kt pt] (.Tuple [a, b] k2 pt2) pos) (wPar i j T) := sw_par hc hN hi hj hij hx hy h.ea hw hs
/-! ### the row is made -/
theorem Rs.toRow {K : Fg} {B : Bs} {F H : Hp} {σ : St} {ρ : Rho} {i : Nat} {ns : List Int} {b c d : Int} (R : Rs K B F H σ ρ) (h : ρ[i]? = some (.ol [.list (ns.map .int), .int b, .int c, .int d])) (hl : ns.length ≤ 63) (hb : 0 ≤ b) (hc : 0 ≤ c) (hd : 0 ≤ d) :
    Rs K B F H σ (ρ.set i .row) := by
  obtain ⟨a, xs, hσ, f, h0, h1, r⟩ := R.own h
  have ok : RowOk K F H a := by
    obtain ⟨v1, u1, rfl, d1, r1⟩ := r.uncons
    obtain ⟨v2, u2, rfl, d2, r2⟩ := r1.uncons
    obtain ⟨v3, u3, rfl, d3, r3⟩ := r2.uncons
    obtain ⟨v4, u4, rfl, d4, r4⟩ := r3.uncons
    obtain rfl := r4.unnil
    obtain ⟨sa, ys, rfl, s, ry⟩ := Dp.inv_lst d1
    rw [dpAll_ints ns ry] at s
    rw [Dp.inv_int d2, Dp.inv_int d3, Dp.inv_int d4] at h1
    exact ⟨sa, ns, b, c, d, h1, s, hl, hb, hc, hd⟩
  refine ⟨R.sub, R.ext, R.new, R.old, R.hrow, R.hr2, by rw [List.length_set]; exact R.len, fun j s hs => ?_, fun j k c s t hjk h1' h2' o1 o2 e1 e2 => ?_⟩
  · rcases set_some hs with ⟨rfl, hl, rfl⟩ | ⟨ne, hs⟩
    · rw [hσ]; exact .row f (.inl h0) ok
    · exact R.at_ j s hs
  · rcases set_some h1' with ⟨rfl, hl, rfl⟩ | ⟨ne, h1'⟩
    · rcases set_some h2' with ⟨rfl, _⟩ | ⟨ne, h2'⟩
      · exact hjk rfl
      · exact R.apart i k c _ t hjk h h2' rfl o2 e1 e2
    · rcases set_some h2' with ⟨rfl, hl, rfl⟩ | ⟨ne2, h2'⟩
      · exact R.apart j i c s _ hjk h1' h o1 rfl e1 e2
      · exact R.apart j k c s t hjk h1' h2' o1 o2 e1 e2
def wRow (i : Nat) (T : TL) : TSt := fun ρ K => i < ρ.length ∧ T ρ fun ps => ∃ (ns : List Int) (b c d : Int), ps = [.list (ns.map .int), .int b, .int c, .int d] ∧ ns.length ≤ 63 ∧ 0 ≤ b ∧ 0 ≤ c ∧ 0 ≤ d ∧ K (.nx (ρ.set i .row))
theorem sw_row {st : Stmt} {i : Nat} {T : TL} (h : NS X st i T) : SW X st (wRow i T) :=
  ⟨fun ρ K K' k ⟨hl, q⟩ => ⟨hl, h.mono _ _ _ (fun p ⟨ns, b, c, d, e, h1, h2, h3, h4, z⟩ => ⟨ns, b, c, d, e, h1, h2, h3, h4, k _ z⟩) q⟩, h.ps.imp fun En σ H ⟨B, F, ρ, R, hl, q⟩ => ⟨B, F, ρ, R, h.mono _ _ _ (fun p ⟨ns, b, c, d, e, h1, h2, h3, h4, k⟩ F' H' a xs R' s n d' => by
    subst e
    have z := (R'.putO (i := i) n d').toRow (by rw [List.getElem?_set_self hl]) h1 h2 h3 h4
    rw [List.set_set] at z
    exact k F' _ _ z s) q⟩⟩
end
/-! ### a def whose first argument is the row -/
def rho0R (n : Nat) (ps : List D) : Rho := Sl.row :: rho0 (n - 1) ps
def runR (n : Nat) (T : TSt) : List D → (D → Prop) → Prop := fun ps K => T (rho0R n ps) fun fl => match fl with
  | .rt p => K p
  | .nx _ => K .none
  | _ => False
theorem runR_mono {n : Nat} {T : TSt} (m : ∀ ρ K K', (∀ p, K p → K' p) → T ρ K → T ρ K') (ps : List D) (K K' : D → Prop) (h : ∀ p, K p → K' p) (q : runR n T ps K) : runR n T ps K' := m _ _ _ (fun fl k => by
  cases fl with
  | rt p => exact h _ k
  | nx _ => exact h _ k
  | bk _ => exact k
  | ct _ => exact k) q
section
variable {P : Program} {w : World} {K : Fg} {mg : Str → Option Value} {base : Heap} {x qual : Str} {params : Arguments} {body : List Stmt} {scope : Scope} {f : Addr} {fd : FuncData} {N ps : List Str} {k : Nat}
theorem rs_startR {F H : Hp} {r : Addr} {vs : List V} {ds : List D} (s : Same F H) (fr : F r = none) (ok : RowOk K F H r) (d : DpAll K F vs ds) (hl : vs.length + 1 ≤ N.length) : Rs K ⟨F, H, some r⟩ F H (start N (.ref r :: vs)) (rho0R N.length ds) where
  sub := s
  ext := Same.refl _
  new := fun b h1 h2 => absurd h1 h2
  old := SameX.refl _
  hrow := fun r' h => by cases h; exact ⟨fr, ok⟩
  hr2 := fun r' h => by cases h; obtain ⟨o, e⟩ := ok.there; show H r ≠ none; rw [e]; simp
  len := by unfold start rho0R rho0; have := d.length; simp only [List.length_append, List.length_map, List.length_replicate, List.length_cons]; omega
  at_ := fun i t ht => by
    cases i with
    | zero =>
      unfold rho0R at ht
      simp at ht
      subst ht
      rw [start_at (vs := .ref r :: vs) (i := 0) rfl]
      exact .row fr (.inr rfl) ok
    | succ i =>
      unfold rho0R at ht
      rw [List.getElem?_cons_succ] at ht
      rcases rho0_at ht with rfl | ⟨p, hp, rfl⟩
      · exact .no
      · obtain ⟨v, hv, dv⟩ := d.get hp
        rw [start_at (vs := .ref r :: vs) (i := i + 1) (by simpa using hv)]
        exact .v dv
  apart := fun i j a s t hij h1 h2 o1 o2 e1 e2 => by
    have z : ∀ (k : Nat) (u : Sl), (rho0R N.length ds)[k]? = some u → u.owns = true → k = 0 := fun k u h o => by
      cases k with
      | zero => rfl
      | succ k =>
        unfold rho0R at h
        rw [List.getElem?_cons_succ] at h
        rcases rho0_at h with rfl | ⟨p, hp, rfl⟩ <;> cases o
    exact hij ((z i s h1 o1).trans (z j t h2 o2).symm)
/-- closed upward -/
def clo (w : List D → (D → Prop) → Prop) : List D → (D → Prop) → Prop := fun ps K => ∃ K0, (∀ p, K0 p → K p) ∧ w ps K0
theorem clo_mono {w : List D → (D → Prop) → Prop} : ∀ ps K K', (∀ p, K p → K' p) → clo w ps K → clo w ps K' := fun ps K K' h ⟨K0, a, b⟩ => ⟨K0, fun p z => h p (a p z), b⟩
theorem clo_in {w : List D → (D → Prop) → Prop} {ps : List D} {K : D → Prop} (h : w ps K) : clo w ps K := ⟨K, fun _ z => z, h⟩
/-- THE RULE: a def that draws -/
theorem fn_row {T : TSt} {n : Nat} (Fd : FunD K x qual params body scope [] [] f fd) (S : FnScope N ps scope) (hn : ps.length = n + 1) (hnN : n + 1 ≤ N.length)
    (hb : ∀ (cdv : Value) (A : Around) (outer : List Env) (s : Shared) (H : Hp) (E : XK), Room k (A.deeper (envOfC qual scope s.heap.objs.size f cdv)) → SWs (cxOf CX0 P w K mg base N qual scope f cdv A outer s H E).nox body T) :
    FnOk P w K mg base CX0 (k + 1) f fd ps (spR K n (clo (runR N.length T))) := by
  refine Fd.ok S (fun vs H Q E h => by rw [h.1, hn]) fun cdv A outer s H vs Q E hr h => ?_
  have W := hb cdv A outer s H E hr
  refine ⟨_, PSs.nox W.pss, ?_⟩
  obtain ⟨hl, r, us, F, ds, rfl, sF, fr, ok, d, K0, hK, q⟩ := h
  replace q := runR_mono W.mono ds K0 _ hK q
  refine ⟨⟨F, H, some r⟩, F, rho0R N.length ds, rs_startR sF fr ok d (by rw [List.length_cons] at hl; omega), W.mono _ _ _ (fun fl k => ?_) q⟩
  cases fl with
  | nx ρ' => exact fun F' H' σ' R' s' => k F' H' .non s' R'.old R'.sub R'.new (R'.hrow r rfl).2 .non
  | rt p => exact fun F' H' v ⟨σ', ρ', R'⟩ s' d' => k F' H' v s' R'.old R'.sub R'.new (R'.hrow r rfl).2 d'
  | bk ρ' => exact k.elim
  | ct ρ' => exact k.elim
/-- nothing is promised -/
theorem fn_none {n : Nat} : FnOk P w K mg base CX0 k f fd ps (spF K n (gW fun _ => none)) := by
  refine ⟨fun vs H Q E h => ?_, fun A outer s H args us vs Q E hr => ?_⟩
  · obtain ⟨_, _, _, _, _, z, e, _⟩ := h
    cases e
  · intros
    rename_i h
    obtain ⟨_, _, _, _, _, z, e, _⟩ := h
    cases e
end
end L2.P

set_option Elab.async false
set_option linter.all false
set_option maxRecDepth 100000
set_option maxHeartbeats 4000000
/-! PL15: values: what the functions of the slots give. -/
namespace L2.P
open PySem PySem.Spec PyProof.Rows L2
/-! ### encoders -/
/-- values of α as data, compared as α's own -/
structure EncOk {α : Type} [DecidableEq α] (enc : α → D) (n : Nat) : Prop where
  eqv : ∀ a b, PyData.eqv (enc a) (enc b) = decide (a = b)
  plain : ∀ a, (enc a).plain = true
  depth : ∀ a, (enc a).depth ≤ n
section
variable {α β : Type} [DecidableEq α] [DecidableEq β] {enc : α → D} {enc' : β → D} {n m : Nat}
theorem encInt : EncOk PyData.int 0 := ⟨fun a b => by simp only [PyData.eqv]; rw [Bool.eq_iff_iff, beq_iff_eq, decide_eq_true_eq], fun _ => rfl, fun _ => Nat.le_refl _⟩
theorem encBool : EncOk PyData.bool 0 := ⟨fun a b => by simp only [PyData.eqv]; rw [Bool.eq_iff_iff, beq_iff_eq, decide_eq_true_eq], fun _ => rfl, fun _ => Nat.le_refl _⟩
theorem EncOk.plainAll (h : EncOk enc n) : ∀ xs : List α, PyData.plainAll (xs.map enc) = true
  | [] => rfl
  | x :: xs => by rw [List.map_cons, PyData.plainAll, h.plain x, EncOk.plainAll h xs]; rfl
theorem EncOk.depthAll (h : EncOk enc n) : ∀ xs : List α, PyData.depthAll (xs.map enc) ≤ n
  | [] => Nat.zero_le _
  | x :: xs => by rw [List.map_cons, PyData.depthAll]; exact Nat.max_le.mpr ⟨h.depth x, EncOk.depthAll h xs⟩
theorem EncOk.eqvAll (h : EncOk enc n) : ∀ xs ys : List α, PyData.eqvAll (xs.map enc) (ys.map enc) = decide (xs = ys)
  | [], [] => by simp only [List.map_nil, PyData.eqvAll, decide_true]
  | [], _ :: _ => by simp [PyData.eqvAll]
  | _ :: _, [] => by simp [PyData.eqvAll]
  | x :: xs, y :: ys => by
    rw [List.map_cons, List.map_cons, PyData.eqvAll, h.eqv x y, EncOk.eqvAll h xs ys, ← Bool.decide_and]
    exact decide_eq_decide.mpr (by rw [List.cons.injEq])
theorem EncOk.list (h : EncOk enc n) : EncOk (fun xs : List α => PyData.list (xs.map enc)) (n + 1) :=
  ⟨fun a b => by simp only [PyData.eqv]; exact h.eqvAll a b, fun a => by simp only [PyData.plain]; exact h.plainAll a, fun a => by simp only [PyData.depth]; exact Nat.succ_le_succ (h.depthAll a)⟩
theorem EncOk.tup (h : EncOk enc n) : EncOk (fun xs : List α => PyData.tuple (xs.map enc)) (n + 1) :=
  ⟨fun a b => by simp only [PyData.eqv]; exact h.eqvAll a b, fun a => by simp only [PyData.plain]; exact h.plainAll a, fun a => by simp only [PyData.depth]; exact Nat.succ_le_succ (h.depthAll a)⟩
theorem encEdge : EncOk edgeD 1 := ⟨fun a b => by
    obtain ⟨a, c⟩ := a; obtain ⟨b, d⟩ := b
    have := encInt.eqvAll [a, c] [b, d]
    unfold edgeD
    simp only [PyData.eqv]
    exact this.trans (decide_eq_decide.mpr (by simp)), fun a => rfl, fun a => Nat.le_of_eq rfl⟩
theorem EncOk.ok (h : EncOk enc n) (a : α) (hn : n ≤ 64 := by decide) : okD (enc a) = true := okD_iff.mpr ⟨h.plain a, Nat.le_trans (h.depth a) hn⟩
theorem EncOk.oks (h : EncOk enc n) (a : List α) (hn : n ≤ 64 := by decide) : okDs (a.map enc) = true := okDs_iff.mpr ⟨h.plainAll a, Nat.le_trans (h.depthAll a) hn⟩
theorem EncOk.eq (h : EncOk enc n) (a b : α) (hn : n ≤ 64 := by decide) : dEq (enc a) (enc b) = some (.bool (decide (a = b))) := by
  unfold dEq; rw [if_pos ⟨h.ok a hn, h.ok b hn⟩, h.eqv]
theorem EncOk.ne (h : EncOk enc n) (a b : α) (hn : n ≤ 64 := by decide) : dNe (enc a) (enc b) = some (.bool (!decide (a = b))) := by
  unfold dNe; rw [if_pos ⟨h.ok a hn, h.ok b hn⟩, h.eqv]
theorem EncOk.any (h : EncOk enc n) (a : α) : ∀ xs : List α, ((xs.map enc).any fun y => PyData.eqv y (enc a)) = decide (a ∈ xs)
  | [] => rfl
  | x :: xs => by
    rw [List.map_cons, List.any_cons, EncOk.any h a xs, h.eqv, ← Bool.decide_or]
    exact decide_eq_decide.mpr (by rw [List.mem_cons, eq_comm])
theorem EncOk.inT (h : EncOk enc n) (a : α) (xs : List α) (hn : n ≤ 64 := by decide) : dIn (enc a) (.tuple (xs.map enc)) = some (.bool (decide (a ∈ xs))) := by
  unfold dIn; rw [items, Option.bind_some, if_pos ⟨h.ok a hn, h.oks xs hn⟩, h.any]
theorem EncOk.inL (h : EncOk enc n) (a : α) (xs : List α) (hn : n ≤ 64 := by decide) : dIn (enc a) (.list (xs.map enc)) = some (.bool (decide (a ∈ xs))) := by
  unfold dIn; rw [items, Option.bind_some, if_pos ⟨h.ok a hn, h.oks xs hn⟩, h.any]
theorem EncOk.niT (h : EncOk enc n) (a : α) (xs : List α) (hn : n ≤ 64 := by decide) : dNotIn (enc a) (.tuple (xs.map enc)) = some (.bool (!decide (a ∈ xs))) := by
  unfold dNotIn; rw [items, Option.bind_some, if_pos ⟨h.ok a hn, h.oks xs hn⟩, h.any]
theorem EncOk.niL (h : EncOk enc n) (a : α) (xs : List α) (hn : n ≤ 64 := by decide) : dNotIn (enc a) (.list (xs.map enc)) = some (.bool (!decide (a ∈ xs))) := by
  unfold dNotIn; rw [items, Option.bind_some, if_pos ⟨h.ok a hn, h.oks xs hn⟩, h.any]
end
/-! ### operations on ints; truth values -/
@[simp] theorem e_lt (i j : Int) : dLt (.int i) (.int j) = some (.bool (decide (i < j))) := rfl
@[simp] theorem e_le (i j : Int) : dLe (.int i) (.int j) = some (.bool (decide (i ≤ j))) := rfl
@[simp] theorem e_gt (i j : Int) : dGt (.int i) (.int j) = some (.bool (decide (j < i))) := rfl
@[simp] theorem e_ge (i j : Int) : dGe (.int i) (.int j) = some (.bool (decide (j ≤ i))) := rfl
@[simp] theorem e_sub (i j : Int) : dSub (.int i) (.int j) = some (.int (i - j)) := rfl
@[simp] theorem e_add (i j : Int) : dAdd (.int i) (.int j) = some (.int (i + j)) := rfl
@[simp] theorem e_eq (i j : Int) : dEq (.int i) (.int j) = some (.bool (decide (i = j))) := encInt.eq i j
@[simp] theorem e_ne (i j : Int) : dNe (.int i) (.int j) = some (.bool (!decide (i = j))) := encInt.ne i j
@[simp] theorem e_eqb (i j : Bool) : dEq (.bool i) (.bool j) = some (.bool (decide (i = j))) := encBool.eq i j
@[simp] theorem e_neb (i j : Bool) : dNe (.bool i) (.bool j) = some (.bool (!decide (i = j))) := encBool.ne i j
@[simp] theorem e_inT (i : Int) (xs : List Int) : dIn (.int i) (.tuple (xs.map .int)) = some (.bool (decide (i ∈ xs))) := encInt.inT i xs
@[simp] theorem e_inL (i : Int) (xs : List Int) : dIn (.int i) (.list (xs.map .int)) = some (.bool (decide (i ∈ xs))) := encInt.inL i xs
@[simp] theorem e_niT (i : Int) (xs : List Int) : dNotIn (.int i) (.tuple (xs.map .int)) = some (.bool (!decide (i ∈ xs))) := encInt.niT i xs
@[simp] theorem e_niL (i : Int) (xs : List Int) : dNotIn (.int i) (.list (xs.map .int)) = some (.bool (!decide (i ∈ xs))) := encInt.niL i xs
@[simp] theorem e_isB (b : Bool) : isB (.bool b) = some b := rfl
/-! ### combinators -/
@[simp] theorem e_b2 (g : G2) (f1 f2 : Rho → Option D) (ρ : Rho) : b2 g f1 f2 ρ = (f1 ρ).bind fun x => (f2 ρ).bind fun y => g x y := rfl
@[simp] theorem e_b3 (g g' : G2) (f1 f2 f3 : Rho → Option D) (ρ : Rho) : b3 g g' f1 f2 f3 ρ = (f1 ρ).bind fun x => (f2 ρ).bind fun y => (g x y).bind fun r => (isB r).bind fun k => if k = true then (f3 ρ).bind fun z => g' y z else some (.bool false) := rfl
@[simp] theorem e_bB (f : Rho → Option D) (ρ : Rho) : bB f ρ = (f ρ).bind isB := rfl
@[simp] theorem e_bNot (f : Rho → Option Bool) (ρ : Rho) : bNot f ρ = (f ρ).map (!·) := rfl
@[simp] theorem e_bAnd (f g : Rho → Option Bool) (ρ : Rho) : bAnd f g ρ = (f ρ).bind fun b => if b = true then g ρ else some false := rfl
@[simp] theorem e_bOr (f g : Rho → Option Bool) (ρ : Rho) : bOr f g ρ = (f ρ).bind fun b => if b = true then some true else g ρ := rfl
@[simp] theorem e_vAnd (f g : Rho → Option D) (ρ : Rho) : vAnd f g ρ = (f ρ).bind fun x => (isB x).bind fun b => if b = true then g ρ else some (.bool false) := rfl
@[simp] theorem e_vOr (f g : Rho → Option D) (ρ : Rho) : vOr f g ρ = (f ρ).bind fun x => (isB x).bind fun b => if b = true then some (.bool true) else g ρ := rfl
@[simp] theorem e_vNot (f : Rho → Option D) (ρ : Rho) : vNot f ρ = (f ρ).bind fun x => (isB x).map fun b => .bool (!b) := rfl
@[simp] theorem e_vIf (t : Rho → Option Bool) (f g : Rho → Option D) (ρ : Rho) : vIf t f g ρ = (t ρ).bind fun b => if b = true then f ρ else g ρ := rfl
@[simp] theorem e_aNil (ρ : Rho) : aNil ρ = some [] := rfl
@[simp] theorem e_aCons (f : Rho → Option D) (g : Rho → Option (List D)) (ρ : Rho) : aCons f g ρ = (f ρ).bind fun x => (g ρ).map fun xs => x :: xs := rfl
@[simp] theorem e_aOf {α : Type} (g : List D → Option α) (f : Rho → Option (List D)) (ρ : Rho) : aOf g f ρ = (f ρ).bind g := rfl
@[simp] theorem e_vTup (f : Rho → Option (List D)) (ρ : Rho) : vTup f ρ = (f ρ).map PyData.tuple := rfl
@[simp] theorem e_gC (p : D) (ρ : Rho) : gC p ρ = some p := rfl
@[simp] theorem e_wipe0 (ρ : Rho) : wipeR ρ [] = ρ := rfl
@[simp] theorem e_wipe (ρ : Rho) (i : Nat) (is : List Nat) : wipeR ρ (i :: is) = (wipeR ρ is).set i .no := rfl
@[simp] theorem e_fYes (ρ : Rho) : fYes ρ = some true := rfl
@[simp] theorem e_fItems (f : Rho → Option D) (ρ : Rho) : fItems f ρ = (f ρ).bind items := rfl
@[simp] theorem e_itT (xs : List D) : items (.tuple xs) = some xs := rfl
@[simp] theorem e_itL (xs : List D) : items (.list xs) = some xs := rfl
@[simp] theorem e_gTupL (xs : List D) : gTup [.list xs] = some (.tuple xs) := rfl
@[simp] theorem e_gTupT (xs : List D) : gTup [.tuple xs] = some (.tuple xs) := rfl
@[simp] theorem e_gLst (p : D) : gLst [p] = items p := rfl
@[simp] theorem e_gLenL (xs : List D) : gLen [.list xs] = some (.int xs.length) := rfl
@[simp] theorem e_gLenT (xs : List D) : gLen [.tuple xs] = some (.int xs.length) := rfl
@[simp] theorem e_gR1 (j : Int) : gR1 [.int j] = some (0, j) := rfl
@[simp] theorem e_gR2 (i j : Int) : gR2 [.int i, .int j] = some (i, j) := rfl
@[simp] theorem e_gIntI (i : Int) : gInt [.int i] = some (.int i) := rfl
@[simp] theorem e_gIntB (b : Bool) : gInt [.bool b] = some (.int (if b then 1 else 0)) := rfl
@[simp] theorem e_vIsi (T : String) (f : Rho → Option D) (ρ : Rho) : vIsi T f ρ = (f ρ).map (gIsi T) := rfl
@[simp] theorem e_vIsi2 (T U : String) (f : Rho → Option D) (ρ : Rho) : vIsi2 T U f ρ = (f ρ).map fun p => .bool (isiB (tyN p) T || isiB (tyN p) U) := rfl
@[simp] theorem e_gIsi (T : String) (p : D) : gIsi T p = .bool (isiB (tyN p) T) := rfl
@[simp] theorem e_gAny (bs : List Bool) : gAny [.list (bs.map .bool)] = some (.bool (bs.any id)) := by show (boolsD _).map _ = _; rw [boolsD_map]; rfl
@[simp] theorem e_gAll (bs : List Bool) : gAll [.list (bs.map .bool)] = some (.bool (bs.all id)) := by show (boolsD _).map _ = _; rw [boolsD_map]; rfl
@[simp] theorem e_gAnyC {α : Type} (xs : List α) (Q : α → Bool) : gAny [.list (xs.map (PyData.bool ∘ Q))] = some (.bool (xs.any Q)) := by rw [← List.map_map, e_gAny, List.any_map]; rfl
@[simp] theorem e_gAllC {α : Type} (xs : List α) (Q : α → Bool) : gAll [.list (xs.map (PyData.bool ∘ Q))] = some (.bool (xs.all Q)) := by rw [← List.map_map, e_gAll, List.all_map]; rfl
/-- statements -/
@[simp] theorem e_sSeq (f g : Rho → Option Fl) (ρ : Rho) : sSeq f g ρ = (match f ρ with | some (.nx ρ') => g ρ' | r => r) := rfl
@[simp] theorem e_sNil (ρ : Rho) : sNil ρ = some (.nx ρ) := rfl
@[simp] theorem e_sBrk (ρ : Rho) : sBrk ρ = some (.bk ρ) := rfl
@[simp] theorem e_sCnt (ρ : Rho) : sCnt ρ = some (.ct ρ) := rfl
@[simp] theorem e_sRet (f : Rho → Option D) (ρ : Rho) : sRet f ρ = (f ρ).map Fl.rt := rfl
@[simp] theorem e_sSet (i : Nat) (f : Rho → Option D) (ρ : Rho) : sSet i f ρ = (f ρ).map fun p => .nx (ρ.set i (.v p)) := rfl
@[simp] theorem e_sSetO (i : Nat) (f : Rho → Option (List D)) (ρ : Rho) : sSetO i f ρ = (f ρ).map fun p => .nx (ρ.set i (.ol p)) := rfl
@[simp] theorem e_sSetL (i : Nat) (f : Rho → Option (List D)) (ρ : Rho) : sSetL i f ρ = (f ρ).map fun p => .nx (ρ.set i (.v (.list p))) := rfl
@[simp] theorem e_sAsg (g : Tg) (f : Rho → Option D) (ρ : Rho) : sAsg g f ρ = (f ρ).bind fun p => (g p ρ).map Fl.nx := rfl
@[simp] theorem e_sDrop (f : Rho → Option D) (ρ : Rho) : sDrop f ρ = (f ρ).map fun _ => .nx ρ := rfl
@[simp] theorem e_sIf (t : Rho → Option Bool) (f g : Rho → Option Fl) (ρ : Rho) : sIf t f g ρ = (t ρ).bind fun b => if b = true then f ρ else g ρ := rfl
@[simp] theorem e_sFor (g : Tg) (u : Rho → Option (List D)) (f : Rho → Option Fl) (ρ : Rho) : sFor g u f ρ = (u ρ).bind fun ps => forF g f ps ρ := rfl
@[simp] theorem e_tgN (i : Nat) (p : D) (ρ : Rho) : tgN i p ρ = some (ρ.set i (.v p)) := rfl
@[simp] theorem e_tg2 (i j : Nat) (a b : D) (ρ : Rho) : tg2 i j (.tuple [a, b]) ρ = some ((ρ.set i (.v a)).set j (.v b)) := rfl
theorem e_sApp {i : Nat} {f : Rho → Option D} {ρ : Rho} {ps : List D} {p : D} (h : ρ[i]? = some (.ol ps)) (e : f ρ = some p) (hl : ps.length < sizeLine) : sApp i f ρ = some (.nx (ρ.set i (.ol (ps ++ [p])))) := by
  unfold sApp; rw [h]; show (f ρ).bind _ = _; rw [e, Option.bind_some, if_pos hl]
/-! ### the items of a tuple -/
theorem atI_ix {α : Type} (xs : List α) (i : Int) (h0 : 0 ≤ i) (h1 : i < xs.length) : ∃ x, xs[i.toNat]? = some x ∧ atI xs i = some x := by
  have hi : i.toNat < xs.length := by omega
  refine ⟨xs[i.toNat], List.getElem?_eq_getElem hi, ?_⟩
  have e : i = (i.toNat : Int) := by omega
  have z := atI_nat (List.getElem?_eq_getElem hi)
  rw [← e] at z
  exact z
/-- a comprehension -/
theorem lcF_map {α : Type} {enc : α → D} {P : α → Bool} {E : α → D} {is : List Nat} {g : Tg} {t : Rho → Option Bool} {f : Rho → Option D} {ρ : Rho} : ∀ (xs : List α),
    (∀ x ∈ xs, ∃ ρ', g (enc x) (wipeR ρ is) = some ρ' ∧ t ρ' = some (P x) ∧ (P x = true → f ρ' = some (E x))) → lcF is g t f ρ (xs.map enc) = some ((xs.filter P).map E)
  | [], _ => rfl
  | x :: xs, h => by
    obtain ⟨ρ', h1, h2, h3⟩ := h x List.mem_cons_self
    rw [List.map_cons, lcF, h1, Option.bind_some, h2, Option.bind_some, lcF_map xs fun y hy => h y (List.mem_cons_of_mem _ hy)]
    cases hP : P x with
    | true => rw [if_pos rfl, h3 hP, Option.bind_some, List.filter_cons_of_pos hP]; rfl
    | false => rw [if_neg (by simp), List.filter_cons_of_neg (by rw [hP]; simp)]
theorem cLc_map {α : Type} (xs : List α) (enc : α → D) (P : α → Bool) (E : α → D) {is : List Nat} {g : Tg} {t : Rho → Option Bool} {f : Rho → Option D} {u : Rho → Option (List D)} {ρ : Rho} (hu : u ρ = some (xs.map enc)) (no : noOwn ρ is = true)
    (h : ∀ x ∈ xs, ∃ ρ', g (enc x) (wipeR ρ is) = some ρ' ∧ t ρ' = some (P x) ∧ (P x = true → f ρ' = some (E x))) : cLc is g t f u ρ = some ((xs.filter P).map E) := by
  unfold cLc; rw [if_pos no, hu, Option.bind_some, lcF_map xs h]
/-- .. of two clauses, no tests -/
theorem lcF2_map {α β : Type} {enc : α → D} {ys : α → List β} {E : α → β → D} {is is1 : List Nat} {g g1 : Tg} {t t1 : Rho → Option Bool} {f : Rho → Option D} {u1 : Rho → Option (List D)} {ρ : Rho} : ∀ (xs : List α),
    (∀ x ∈ xs, ∃ ρ', g (enc x) (wipeR ρ is) = some ρ' ∧ t ρ' = some true ∧ cLc is1 g1 t1 f u1 ρ' = some ((ys x).map (E x))) → lcF2 is is1 g g1 t t1 f u1 ρ (xs.map enc) = some (xs.flatMap fun x => (ys x).map (E x))
  | [], _ => rfl
  | x :: xs, h => by
    obtain ⟨ρ', h1, h2, h3⟩ := h x List.mem_cons_self
    rw [List.map_cons, lcF2, h1, Option.bind_some, h2, Option.bind_some, if_pos rfl, h3, Option.bind_some, lcF2_map (enc := enc) (ys := ys) (E := E) xs fun y hy => h y (List.mem_cons_of_mem _ hy), List.flatMap_cons]
    rfl
theorem cLc2_map {α β : Type} (xs : List α) (enc : α → D) (ys : α → List β) (E : α → β → D) {is is1 : List Nat} {g g1 : Tg} {t t1 : Rho → Option Bool} {f : Rho → Option D} {u u1 : Rho → Option (List D)} {ρ : Rho} (hu : u ρ = some (xs.map enc)) (no : noOwn ρ is = true)
    (h : ∀ x ∈ xs, ∃ ρ', g (enc x) (wipeR ρ is) = some ρ' ∧ t ρ' = some true ∧ cLc is1 g1 t1 f u1 ρ' = some ((ys x).map (E x))) (hl : (xs.flatMap fun x => (ys x).map (E x)).length ≤ sizeLine) : cLc2 is is1 g g1 t t1 f u u1 ρ = some (xs.flatMap fun x => (ys x).map (E x)) := by
  unfold cLc2; rw [if_pos no, hu, Option.bind_some, lcF2_map xs h, Option.bind_some, if_pos hl]
/-- a loop that adds to a list -/
theorem forF_app {α S : Type} {enc : α → D} (add : α → List D) (st : List D → S → Rho) {g : Tg} {f : Rho → Option Fl} (N : Nat) : ∀ (xs : List α) (acc : List D) (v : S),
    (∀ (acc : List D) (v : S) (x : α), x ∈ xs → acc.length + (add x).length ≤ N → ∃ ρ' v', g (enc x) (st acc v) = some ρ' ∧ f ρ' = some (.nx (st (acc ++ add x) v'))) → acc.length + (xs.flatMap add).length ≤ N →
    ∃ v', forF g f (xs.map enc) (st acc v) = some (.nx (st (acc ++ xs.flatMap add) v'))
  | [], acc, v, _, _ => ⟨v, by simp [forF]⟩
  | x :: xs, acc, v, h, hN => by
    rw [List.flatMap_cons, List.length_append] at hN
    obtain ⟨ρ', v1, h1, h2⟩ := h acc v x List.mem_cons_self (by omega)
    obtain ⟨v2, h3⟩ := forF_app add st N xs (acc ++ add x) v1 (fun a w y hy => h a w y (List.mem_cons_of_mem _ hy)) (by rw [List.length_append]; omega)
    refine ⟨v2, ?_⟩
    rw [List.map_cons, forF, h1, Option.bind_some, h2]
    show forF g f (xs.map enc) _ = _
    rw [h3, List.append_assoc, List.flatMap_cons]
/-- a loop that only looks -/
theorem forF_chk {α S : Type} {enc : α → D} (st : S → Rho) {g : Tg} {f : Rho → Option Fl} (xs : List α) (v : S) (h : ∀ (v : S) (x : α), x ∈ xs → ∃ ρ' v', g (enc x) (st v) = some ρ' ∧ f ρ' = some (.nx (st v'))) : ∃ v', forF g f (xs.map enc) (st v) = some (.nx (st v')) := by
  induction xs generalizing v with
  | nil => exact ⟨v, rfl⟩
  | cons x xs ih =>
    obtain ⟨ρ', v1, h1, h2⟩ := h v x List.mem_cons_self
    obtain ⟨v2, h3⟩ := ih v1 fun a y hy => h a y (List.mem_cons_of_mem _ hy)
    refine ⟨v2, ?_⟩
    rw [List.map_cons, forF, h1, Option.bind_some, h2]
    exact h3
theorem flatMap_if {α β : Type} (P : α → Bool) (E : α → β) (xs : List α) : (xs.flatMap fun x => if P x = true then [E x] else []) = (xs.filter P).map E := by
  induction xs with
  | nil => rfl
  | cons x xs ih =>
    rw [List.flatMap_cons, ih]
    cases hP : P x with
    | true => rw [if_pos rfl, List.filter_cons_of_pos hP]; rfl
    | false => rw [if_neg (by simp), List.filter_cons_of_neg (by rw [hP]; simp)]; rfl
/-- range(n) -/
def upI (n : Nat) : List Int := (List.range n).map fun i => ((i : Nat) : Int)
theorem mem_upI {n : Nat} {k : Int} : k ∈ upI n ↔ 0 ≤ k ∧ k < n := by
  unfold upI
  rw [List.mem_map]
  constructor
  · rintro ⟨i, hi, rfl⟩; rw [List.mem_range] at hi; omega
  · rintro ⟨h1, h2⟩; exact ⟨k.toNat, List.mem_range.mpr (by omega), by omega⟩
theorem upI_length (n : Nat) : (upI n).length = n := by unfold upI; rw [List.length_map, List.length_range]
theorem rngD_upI (n : Nat) : rngD 0 n = (upI n).map PyData.int := by unfold rngD upI; rw [List.map_map]; apply List.map_congr_left; intro i _; show PyData.int _ = PyData.int _; rw [Int.zero_add]
theorem gRng1_upI (n : Nat) (h : n ≤ 16777216) : gRng1 [.int (n : Int)] = some ((upI n).map PyData.int) := by
  show (if _ then some (rngD 0 ((n : Int)).toNat) else none) = _; rw [if_pos (by omega), Int.toNat_natCast, rngD_upI]
/-- range(a, b) -/
def frTo (a b : Int) : List Int := (List.range (b - a).toNat).map fun i => a + ((i : Nat) : Int)
theorem mem_frTo {a b k : Int} : k ∈ frTo a b ↔ a ≤ k ∧ k < b := by
  unfold frTo
  rw [List.mem_map]
  constructor
  · rintro ⟨i, hi, rfl⟩; rw [List.mem_range] at hi; omega
  · rintro ⟨h1, h2⟩; exact ⟨(k - a).toNat, List.mem_range.mpr (by omega), by omega⟩
theorem gRng2_frTo (a b : Int) (h1 : 0 ≤ a) (h2 : a ≤ 16777216) (h3 : 0 ≤ b) (h4 : b ≤ 16777216) : gRng2 [.int a, .int b] = some ((frTo a b).map PyData.int) := by
  show (if _ then some (rngD a (b - a).toNat) else none) = _
  rw [if_pos (by omega)]
  unfold rngD frTo
  rw [List.map_map]; rfl
end L2.P

set_option Elab.async false
set_option linter.all false
set_option maxRecDepth 100000
set_option maxHeartbeats 4000000
/-! PL16: webs and people who stand, in plain Lean; their data. -/
namespace L2.P
open PySem PySem.Spec PyProof.Rows L2
theorem runF_rt {n : Nat} {f : Rho → Option Fl} {ps : List D} {p : D} (h : f (rho0 n ps) = some (.rt p)) : runF n f ps = some p := by unfold runF; rw [h]
theorem runF_nx {n : Nat} {f : Rho → Option Fl} {ps : List D} {ρ : Rho} (h : f (rho0 n ps) = some (.nx ρ)) : runF n f ps = some .none := by unfold runF; rw [h]
abbrev tR (r : List Int) : D := .tuple (r.map .int)
theorem webD_tR (w : List (List Int)) : webD w = .tuple (w.map tR) := rfl
@[simp] theorem e_gLenW (w : List (List Int)) : gLen [webD w] = some (.int w.length) := by show some (PyData.int ((w.map tR).length : Int)) = _; rw [List.length_map]
@[simp] theorem e_gLenR (r : List Int) : gLen [tR r] = some (.int r.length) := by show some (PyData.int ((r.map PyData.int).length : Int)) = _; rw [List.length_map]
/-- the friends of i -/
def fr (w : List (List Int)) (i : Int) : List Int := w.getD i.toNat []
theorem fr_get {w : List (List Int)} {i : Int} (h0 : 0 ≤ i) (h1 : i < w.length) : w[i.toNat]? = some (fr w i) := by
  have hi : i.toNat < w.length := by omega
  unfold fr
  rw [List.getD_eq_getElem?_getD, List.getElem?_eq_getElem hi]
  rfl
theorem ix_web {w : List (List Int)} {i : Int} (h0 : 0 ≤ i) (h1 : i < w.length) : dIx (webD w) (.int i) = some (tR (fr w i)) := by
  show atI (w.map tR) i = _
  have hi : i.toNat < w.length := by omega
  have z := atI_nat (xs := w.map tR) (j := i.toNat) (v := tR (fr w i)) (by rw [List.getElem?_map, fr_get h0 h1]; rfl)
  have e : ((i.toNat : Nat) : Int) = i := by omega
  rw [e] at z
  exact z
structure Web (w : List (List Int)) : Prop where
  pos : 1 ≤ w.length
  le : w.length ≤ 7
  up : ∀ i : Int, 0 ≤ i → i < w.length → (fr w i).Pairwise (· < ·)
  inn : ∀ i k : Int, 0 ≤ i → i < w.length → k ∈ fr w i → 0 ≤ k ∧ k < w.length ∧ k ≠ i
  sym : ∀ i k : Int, 0 ≤ i → i < w.length → k ∈ fr w i → i ∈ fr w k
/-- people of a web of n, each once, from the shortest up -/
structure Ppl (n : Nat) (st : List Int) : Prop where
  up : st.Pairwise (· < ·)
  inn : ∀ k ∈ st, 0 ≤ k ∧ k < (n : Int)
theorem len_span : ∀ {l : List Int} {a b : Int}, a ≤ b → l.Pairwise (· < ·) → (∀ k ∈ l, a ≤ k ∧ k < b) → (l.length : Int) ≤ b - a
  | [], a, b, h, _, _ => by simp; omega
  | x :: t, a, b, h, p, q => by
    have hx := q x List.mem_cons_self
    obtain ⟨p1, p2⟩ := List.pairwise_cons.mp p
    have := len_span (a := x + 1) (b := b) (by omega) p2 fun k hk => ⟨by have := p1 k hk; omega, (q k (List.mem_cons_of_mem _ hk)).2⟩
    rw [List.length_cons]; omega
theorem len_hole : ∀ {l : List Int} {a b i : Int}, a ≤ i → i < b → l.Pairwise (· < ·) → (∀ k ∈ l, a ≤ k ∧ k < b ∧ k ≠ i) → (l.length : Int) ≤ b - a - 1
  | [], a, b, i, h1, h2, _, _ => by simp; omega
  | x :: t, a, b, i, h1, h2, p, q => by
    have hx := q x List.mem_cons_self
    obtain ⟨p1, p2⟩ := List.pairwise_cons.mp p
    rw [List.length_cons]
    by_cases c : i < x
    · have := len_span (a := x + 1) (b := b) (by omega) p2 fun k hk => ⟨by have := p1 k hk; omega, (q k (List.mem_cons_of_mem _ hk)).2.1⟩
      omega
    · have := len_hole (a := x + 1) (b := b) (i := i) (by omega) h2 p2 fun k hk => ⟨by have := p1 k hk; omega, (q k (List.mem_cons_of_mem _ hk)).2⟩
      omega
theorem Ppl.len {n : Nat} {st : List Int} (h : Ppl n st) : st.length ≤ n := by
  have := len_span (a := 0) (b := n) (by omega) h.up h.inn
  omega
theorem Web.frlen {w : List (List Int)} (h : Web w) {i : Int} (h0 : 0 ≤ i) (h1 : i < w.length) : ((fr w i).length : Int) ≤ w.length - 1 := by
  have := len_hole (a := 0) (b := w.length) h0 h1 (h.up i h0 h1) fun k hk => h.inn i k h0 h1 hk
  omega
theorem sortD_self {r : List Int} (h : r.Pairwise (· < ·)) : sortD r = r := pw_unique (pw_sortD r) h fun k => mem_sortD
@[simp] theorem e_sortSet (r : List Int) (h : r.length < 64) : dSortSet (tR r) = some ((sortD r).map PyData.int) := by
  show (intsD _).bind _ = _
  rw [intsD_map, Option.bind_some, if_pos h]
theorem fEnum_map {α : Type} (enc : α → D) (xs : List α) (x0 : α) (h0 : enc x0 = .none ∨ True) : enumD (xs.map enc) = (List.range xs.length).map fun i => .tuple [.int (i : Nat), (xs.map enc).getD i .none] := by
  unfold enumD; rw [List.length_map]
/-- the rows of a web with their places -/
theorem enum_web (w : List (List Int)) : enumD (w.map tR) = (upI w.length).map fun i => .tuple [.int i, tR (fr w i)] := by
  unfold enumD upI
  rw [List.length_map, List.map_map]
  apply List.map_congr_left
  intro i hi
  rw [List.mem_range] at hi
  have e : (w.map tR).getD i .none = tR (fr w (i : Int)) := by
    rw [List.getD_eq_getElem?_getD, List.getElem?_map]
    unfold fr
    rw [Int.toNat_natCast, List.getD_eq_getElem?_getD, List.getElem?_eq_getElem hi]
    rfl
  show PyData.tuple [.int (i : Nat), _] = _
  rw [e]
  rfl
end L2.P
namespace L2.P
open PySem PySem.Spec PyProof.Rows L2
/-- a comprehension of truth values -/
theorem cLc_all {α : Type} (xs : List α) (enc : α → D) (Q : α → Bool) {is : List Nat} {g : Tg} {t : Rho → Option Bool} {f : Rho → Option D} {u : Rho → Option (List D)} {ρ : Rho} (hu : u ρ = some (xs.map enc)) (no : noOwn ρ is = true)
    (h : ∀ x ∈ xs, ∃ ρ', g (enc x) (wipeR ρ is) = some ρ' ∧ t ρ' = some true ∧ f ρ' = some (.bool (Q x))) : cLc is g t f u ρ = some ((xs.map Q).map PyData.bool) := by
  rw [cLc_map xs enc (fun _ => true) (fun x => .bool (Q x)) hu no fun x hx => by
    obtain ⟨ρ', a, b, c⟩ := h x hx
    exact ⟨ρ', a, b, fun _ => c⟩]
  rw [List.filter_eq_self.mpr fun _ _ => rfl, List.map_map]
  rfl
theorem Web.all {w : List (List Int)} (h : Web w) {i : Int} (h0 : 0 ≤ i) (h1 : i < w.length) : ((fr w i).all fun k => decide (0 ≤ k) && decide (k ≤ (w.length : Int) - 1)) = true := by
  rw [List.all_eq_true]
  intro k hk
  have := h.inn i k h0 h1 hk
  simp; omega
theorem Ppl.all {n : Nat} {st : List Int} (h : Ppl n st) : (st.all fun k => decide (0 ≤ k) && decide (k ≤ (n : Int) - 1)) = true := by
  rw [List.all_eq_true]
  intro k hk
  have := h.inn k hk
  simp; omega
end L2.P

namespace L2.P
open PySem PySem.Spec PyProof.Rows L2
/-! ### statement by statement -/
section
variable {f g a b : Rho → Option Fl} {e : Rho → Option D} {es : Rho → Option (List D)} {t : Rho → Option Bool} {u : Rho → Option (List D)} {tg : Tg} {ρ : Rho} {K : Fl → Prop} {i : Nat}
theorem fW_in {α : Type} {f : Rho → Option α} {ρ : Rho} {K : α → Prop} (p : α) (h : f ρ = some p) (k : K p) : fW f ρ K := ⟨p, h, k⟩
theorem run_rt {n : Nat} {ps : List D} {p : D} (h : fW f (rho0 n ps) fun fl => fl = .rt p) : runF n f ps = some p := by
  obtain ⟨fl, e, rfl⟩ := h
  exact runF_rt e
theorem run_nx {n : Nat} {ps : List D} (h : fW f (rho0 n ps) fun fl => ∃ ρ, fl = .nx ρ) : runF n f ps = some .none := by
  obtain ⟨fl, e, ρ, rfl⟩ := h
  exact runF_nx e
theorem s_seq (h : fW f ρ (fun fl => match fl with | .nx ρ' => fW g ρ' K | fl => K fl)) : fW (sSeq f g) ρ K := by
  obtain ⟨fl, e, k⟩ := h
  unfold fW
  rw [e_sSeq, e]
  cases fl with
  | nx ρ' => exact k
  | rt p => exact ⟨_, rfl, k⟩
  | bk p => exact ⟨_, rfl, k⟩
  | ct p => exact ⟨_, rfl, k⟩
theorem s_nil (k : K (.nx ρ)) : fW sNil ρ K := ⟨_, rfl, k⟩
theorem s_ret (p : D) (h : e ρ = some p) (k : K (.rt p)) : fW (sRet e) ρ K := ⟨.rt p, by rw [e_sRet, h]; rfl, k⟩
theorem s_set (p : D) (h : e ρ = some p) (k : K (.nx (ρ.set i (.v p)))) : fW (sSet i e) ρ K := ⟨_, by rw [e_sSet, h]; rfl, k⟩
theorem s_seto (p : List D) (h : es ρ = some p) (k : K (.nx (ρ.set i (.ol p)))) : fW (sSetO i es) ρ K := ⟨_, by rw [e_sSetO, h]; rfl, k⟩
theorem s_setl (p : List D) (h : es ρ = some p) (k : K (.nx (ρ.set i (.v (.list p))))) : fW (sSetL i es) ρ K := ⟨_, by rw [e_sSetL, h]; rfl, k⟩
theorem s_drop (p : D) (h : e ρ = some p) (k : K (.nx ρ)) : fW (sDrop e) ρ K := ⟨_, by rw [e_sDrop, h]; rfl, k⟩
theorem s_asg (p : D) {ρ' : Rho} (h : e ρ = some p) (hg : tg p ρ = some ρ') (k : K (.nx ρ')) : fW (sAsg tg e) ρ K := ⟨_, by rw [e_sAsg, h, Option.bind_some, hg]; rfl, k⟩
theorem s_if (c : Bool) (h : t ρ = some c) (ka : c = true → fW a ρ K) (kb : c = false → fW b ρ K) : fW (sIf t a b) ρ K := by
  unfold fW
  rw [e_sIf, h, Option.bind_some]
  cases c with
  | true => exact ka rfl
  | false => exact kb rfl
theorem s_no (h : t ρ = some false) (k : fW b ρ K) : fW (sIf t a b) ρ K := s_if false h (fun z => by cases z) fun _ => k
theorem s_yes (h : t ρ = some true) (k : fW a ρ K) : fW (sIf t a b) ρ K := s_if true h (fun _ => k) fun z => by cases z
/-- .. ahead of more -/
theorem q_set (p : D) (h : e ρ = some p) (k : fW g (ρ.set i (.v p)) K) : fW (sSeq (sSet i e) g) ρ K := s_seq (s_set p h k)
theorem q_seto (p : List D) (h : es ρ = some p) (k : fW g (ρ.set i (.ol p)) K) : fW (sSeq (sSetO i es) g) ρ K := s_seq (s_seto p h k)
theorem q_setl (p : List D) (h : es ρ = some p) (k : fW g (ρ.set i (.v (.list p))) K) : fW (sSeq (sSetL i es) g) ρ K := s_seq (s_setl p h k)
theorem q_drop (p : D) (h : e ρ = some p) (k : fW g ρ K) : fW (sSeq (sDrop e) g) ρ K := s_seq (s_drop p h k)
theorem q_asg (p : D) {ρ' : Rho} (h : e ρ = some p) (hg : tg p ρ = some ρ') (k : fW g ρ' K) : fW (sSeq (sAsg tg e) g) ρ K := s_seq (s_asg p h hg k)
theorem q_no (h : t ρ = some false) (k : fW g ρ K) : fW (sSeq (sIf t a sNil) g) ρ K := s_seq (s_no h (s_nil k))
/-- loops -/
theorem s_chk {α S : Type} (st : S → Rho) (xs : List α) (enc : α → D) (v : S) (hu : u ρ = some (xs.map enc)) (hρ : ρ = st v) (h : ∀ (v : S) (x : α), x ∈ xs → ∃ ρ', tg (enc x) (st v) = some ρ' ∧ fW f ρ' fun fl => ∃ v', fl = .nx (st v')) (k : ∀ v', K (.nx (st v'))) : fW (sFor tg u f) ρ K := by
  subst hρ
  obtain ⟨v', e⟩ := forF_chk (g := tg) (f := f) st xs v (fun v x hx => by
    obtain ⟨ρ', h1, fl, h2, v', rfl⟩ := h v x hx
    exact ⟨ρ', v', h1, h2⟩)
  exact ⟨_, by rw [e_sFor, hu, Option.bind_some, e], k v'⟩
theorem q_chk {α S : Type} (st : S → Rho) (xs : List α) (enc : α → D) (v : S) (hu : u ρ = some (xs.map enc)) (hρ : ρ = st v) (h : ∀ (v : S) (x : α), x ∈ xs → ∃ ρ', tg (enc x) (st v) = some ρ' ∧ fW f ρ' fun fl => ∃ v', fl = .nx (st v')) (k : ∀ v', fW g (st v') K) : fW (sSeq (sFor tg u f) g) ρ K := s_seq (s_chk st xs enc v hu hρ h k)
theorem s_app {α S : Type} (st : List D → S → Rho) (xs : List α) (enc : α → D) (add : α → List D) (N : Nat) (acc : List D) (v : S) (hu : u ρ = some (xs.map enc)) (hρ : ρ = st acc v) (hN : acc.length + (xs.flatMap add).length ≤ N)
    (h : ∀ (acc : List D) (v : S) (x : α), x ∈ xs → acc.length + (add x).length ≤ N → ∃ ρ', tg (enc x) (st acc v) = some ρ' ∧ fW f ρ' fun fl => ∃ v', fl = .nx (st (acc ++ add x) v')) (k : ∀ v', K (.nx (st (acc ++ xs.flatMap add) v'))) : fW (sFor tg u f) ρ K := by
  subst hρ
  obtain ⟨v', e⟩ := forF_app (g := tg) (f := f) (enc := enc) add st N xs acc v (fun acc v x hx hl => by
    obtain ⟨ρ', h1, fl, h2, v', rfl⟩ := h acc v x hx hl
    exact ⟨ρ', v', h1, h2⟩) hN
  exact ⟨_, by rw [e_sFor, hu, Option.bind_some, e], k v'⟩
theorem q_app {α S : Type} (st : List D → S → Rho) (xs : List α) (enc : α → D) (add : α → List D) (N : Nat) (acc : List D) (v : S) (hu : u ρ = some (xs.map enc)) (hρ : ρ = st acc v) (hN : acc.length + (xs.flatMap add).length ≤ N)
    (h : ∀ (acc : List D) (v : S) (x : α), x ∈ xs → acc.length + (add x).length ≤ N → ∃ ρ', tg (enc x) (st acc v) = some ρ' ∧ fW f ρ' fun fl => ∃ v', fl = .nx (st (acc ++ add x) v')) (k : ∀ v', fW g (st (acc ++ xs.flatMap add) v') K) : fW (sSeq (sFor tg u f) g) ρ K := s_seq (s_app st xs enc add N acc v hu hρ hN h k)
theorem s_app1 {ps : List D} (p : D) (hi : ρ[i]? = some (.ol ps)) (h : e ρ = some p) (hl : ps.length < sizeLine) (k : K (.nx (ρ.set i (.ol (ps ++ [p]))))) : fW (sApp i e) ρ K := ⟨_, e_sApp hi h hl, k⟩
theorem q_app1 {ps : List D} (p : D) (hi : ρ[i]? = some (.ol ps)) (h : e ρ = some p) (hl : ps.length < sizeLine) (k : fW g (ρ.set i (.ol (ps ++ [p]))) K) : fW (sSeq (sApp i e) g) ρ K := s_seq (s_app1 p hi h hl k)
end
end L2.P

set_option Elab.async false
set_option linter.all false
set_option maxRecDepth 100000
set_option maxHeartbeats 4000000
/-! PL17: what is drawn: loops and comprehensions that draw; webs by their couples. -/
namespace L2.P
open PySem PySem.Spec PyProof.Rows L2
theorem forW_inv {α S : Type} {enc : α → D} (st : S → Rho) (J : Nat → S → Prop) {g : Tg} {T : TSt} {K : Fl → Prop} (N : Nat) : ∀ (xs : List α) (i : Nat) (s : S), i + xs.length ≤ N → J i s →
    (∀ (i : Nat) (s : S) (x : α) (K' : Fl → Prop), x ∈ xs → i < N → J i s → (∀ s', J (i + 1) s' → K' (.nx (st s'))) → ∃ ρ', g (enc x) (st s) = some ρ' ∧ T ρ' K') → (∀ s, J (i + xs.length) s → K (.nx (st s))) → forW g T (xs.map enc) (st s) K
  | [], i, s, _, hJ, _, k => k s hJ
  | x :: xs, i, s, hN, hJ, h, k => by
    rw [List.length_cons] at hN
    obtain ⟨ρ', h1, h2⟩ := h i s x (fun fl => match fl with
      | .nx ρ2 => forW g T (xs.map enc) ρ2 K
      | .ct ρ2 => forW g T (xs.map enc) ρ2 K
      | .bk ρ2 => K (.nx ρ2)
      | .rt v => K (.rt v)) List.mem_cons_self (by omega) hJ (fun s' hs' => forW_inv st J N xs (i + 1) s' (by omega) hs' (fun i s y K' hy => h i s y K' (List.mem_cons_of_mem _ hy)) fun s2 hs2 => k s2 (by rw [List.length_cons]; rw [Nat.add_assoc, Nat.add_comm 1] at hs2; exact hs2))
    exact ⟨ρ', h1, h2⟩
/-- a comprehension whose test draws -/
theorem lcV_sub {α : Type} {enc : α → D} {E : α → D} {is : List Nat} {g : Tg} {T : TB} {El : TW} {ρ : Rho} {K : List D → Prop} : ∀ (xs : List α) (acc : List D),
    (∀ x ∈ xs, ∃ ρ', g (enc x) (wipeR ρ is) = some ρ' ∧ (∀ K' : Bool → Prop, (∀ b, K' b) → T ρ' K') ∧ ∀ K' : D → Prop, K' (E x) → El ρ' K') → (∀ ys : List α, ys.Sublist xs → K (acc ++ ys.map E)) → lcV is g T El ρ (xs.map enc) acc K
  | [], acc, _, k => by
    have := k [] (List.Sublist.refl _)
    rw [List.map_nil, List.append_nil] at this
    exact this
  | x :: xs, acc, h, k => by
    obtain ⟨ρ', h1, h2, h3⟩ := h x List.mem_cons_self
    refine ⟨ρ', h1, h2 _ fun b => ?_⟩
    cases b with
    | true =>
      rw [if_pos rfl]
      refine h3 _ (lcV_sub xs _ (fun y hy => h y (List.mem_cons_of_mem _ hy)) fun ys hys => ?_)
      have := k (x :: ys) (List.Sublist.cons₂ x hys)
      rw [List.append_assoc]
      exact this
    | false =>
      rw [if_neg (by simp)]
      exact lcV_sub xs acc (fun y hy => h y (List.mem_cons_of_mem _ hy)) fun ys hys => k ys (List.Sublist.cons x hys)
theorem pw_upI (n : Nat) : (upI n).Pairwise (· < ·) := by
  unfold upI
  rw [List.pairwise_map]
  exact List.Pairwise.imp (fun h => by omega) (List.pairwise_lt_range)
/-! ### webs by couples -/
theorem modR_get {rows : List (List Int)} {a : Nat} {b : Int} {i : Nat} : (modR rows a b)[i]? = if a = i then rows[i]?.map (insF b) else rows[i]? := by
  unfold modR
  rw [List.getElem?_modify]
  split <;> simp_all
theorem mem_addE {rows : List (List Int)} {e : Int × Int} {i : Nat} {k : Int} (hl : i < rows.length) (h1 : 0 ≤ e.1) (h2 : 0 ≤ e.2) : k ∈ ((addE rows e).getD i []) ↔ k ∈ rows.getD i [] ∨ (e.1 = i ∧ e.2 = k) ∨ (e.2 = i ∧ e.1 = k) := by
  unfold addE
  rw [List.getD_eq_getElem?_getD, List.getD_eq_getElem?_getD, modR_get, modR_get, List.getElem?_eq_getElem hl]
  by_cases c1 : e.2.toNat = i <;> by_cases c2 : e.1.toNat = i
  · rw [if_pos c1, if_pos c2]
    simp only [Option.map_some, Option.getD_some, mem_insF]
    constructor
    · rintro (h | h | h)
      · exact .inr (.inr ⟨by omega, h.symm⟩)
      · exact .inr (.inl ⟨by omega, h.symm⟩)
      · exact .inl h
    · rintro (h | ⟨_, h⟩ | ⟨_, h⟩)
      · exact .inr (.inr h)
      · exact .inr (.inl h.symm)
      · exact .inl h.symm
  · rw [if_pos c1, if_neg c2]
    simp only [Option.map_some, Option.getD_some, mem_insF]
    constructor
    · rintro (h | h)
      · exact .inr (.inr ⟨by omega, h.symm⟩)
      · exact .inl h
    · rintro (h | ⟨q, h⟩ | ⟨_, h⟩)
      · exact .inr h
      · exact absurd q (by omega)
      · exact .inl h.symm
  · rw [if_neg c1, if_pos c2]
    simp only [Option.map_some, Option.getD_some, mem_insF]
    constructor
    · rintro (h | h)
      · exact .inr (.inl ⟨by omega, h.symm⟩)
      · exact .inl h
    · rintro (h | ⟨q, h⟩ | ⟨q, h⟩)
      · exact .inr h
      · exact .inl h.symm
      · exact absurd q (by omega)
  · rw [if_neg c1, if_neg c2]
    simp only [Option.getD_some]
    constructor
    · exact .inl
    · rintro (h | ⟨q, h⟩ | ⟨q, h⟩)
      · exact h
      · exact absurd q (by omega)
      · exact absurd q (by omega)
theorem mem_foldE {i : Nat} {k : Int} : ∀ (es : List (Int × Int)) (rows : List (List Int)), i < rows.length → (∀ e ∈ es, 0 ≤ e.1 ∧ 0 ≤ e.2) → (k ∈ (es.foldl addE rows).getD i [] ↔ k ∈ rows.getD i [] ∨ ∃ e ∈ es, (e.1 = i ∧ e.2 = k) ∨ (e.2 = i ∧ e.1 = k))
  | [], rows, _, _ => by simp
  | e :: es, rows, hl, h => by
    have he := h e List.mem_cons_self
    rw [List.foldl_cons, mem_foldE es (addE rows e) (by rw [rows_len]; exact hl) fun x hx => h x (List.mem_cons_of_mem _ hx), mem_addE hl he.1 he.2]
    constructor
    · rintro ((h | h) | ⟨x, hx, h⟩)
      · exact .inl h
      · exact .inr ⟨e, List.mem_cons_self, h⟩
      · exact .inr ⟨x, List.mem_cons_of_mem _ hx, h⟩
    · rintro (q | ⟨x, hx, q⟩)
      · exact .inl (.inl q)
      · rcases List.mem_cons.mp hx with e1 | hx
        · rw [e1] at q; exact .inl (.inr q)
        · exact .inr ⟨x, hx, q⟩
/-- the web of n people and these couples -/
def webBy (n : Nat) (es : List (Int × Int)) : List (List Int) := (byRows n es).map sortD
theorem webBy_len (n : Nat) (es : List (Int × Int)) : (webBy n es).length = n := by
  unfold webBy byRows
  rw [List.length_map]
  exact (byRows_facts es (List.replicate n []) List.length_replicate fun r hr => by rw [List.eq_of_mem_replicate hr]; exact List.nodup_nil).1
theorem mem_webBy {n : Nat} {es : List (Int × Int)} {i k : Int} (h0 : 0 ≤ i) (h1 : i < n) (h : ∀ e ∈ es, 0 ≤ e.1 ∧ 0 ≤ e.2) : k ∈ fr (webBy n es) i ↔ (i, k) ∈ es ∨ (k, i) ∈ es := by
  have e1 : fr (webBy n es) i = sortD ((byRows n es).getD i.toNat []) := by
    unfold fr webBy
    rw [List.getD_eq_getElem?_getD, List.getD_eq_getElem?_getD, List.getElem?_map]
    have : i.toNat < (byRows n es).length := by
      unfold byRows
      rw [(byRows_facts es (List.replicate n []) List.length_replicate fun r hr => by rw [List.eq_of_mem_replicate hr]; exact List.nodup_nil).1]
      omega
    rw [List.getElem?_eq_getElem this]
    rfl
  rw [e1, mem_sortD]
  unfold byRows
  rw [mem_foldE es _ (by rw [List.length_replicate]; omega) h]
  have e2 : (List.replicate n ([] : List Int)).getD i.toNat [] = [] := by
    rw [List.getD_eq_getElem?_getD, List.getElem?_replicate]
    split <;> rfl
  rw [e2]
  constructor
  · rintro (h | ⟨e, he, ⟨a, b⟩ | ⟨a, b⟩⟩)
    · cases h
    · have : e = (i, k) := Prod.ext (by omega) b
      exact .inl (this ▸ he)
    · have : e = (k, i) := Prod.ext b (by omega)
      exact .inr (this ▸ he)
  · rintro (h | h)
    · exact .inr ⟨_, h, .inl ⟨by simp; omega, rfl⟩⟩
    · exact .inr ⟨_, h, .inr ⟨by simp; omega, rfl⟩⟩
theorem web_webBy {n : Nat} {es : List (Int × Int)} (h1 : 1 ≤ n) (h2 : n ≤ 7) (h : ∀ e ∈ es, 0 ≤ e.1 ∧ e.1 < n ∧ 0 ≤ e.2 ∧ e.2 < n ∧ e.1 ≠ e.2) : Web (webBy n es) := by
  have h' : ∀ e ∈ es, 0 ≤ e.1 ∧ 0 ≤ e.2 := fun e he => ⟨(h e he).1, (h e he).2.2.1⟩
  have inn : ∀ i k : Int, 0 ≤ i → i < n → k ∈ fr (webBy n es) i → 0 ≤ k ∧ k < n ∧ k ≠ i := fun i k a b c => by
    rcases (mem_webBy a b h').mp c with c | c
    · have := h _ c; simp only at this; omega
    · have := h _ c; simp only at this; omega
  refine ⟨by rw [webBy_len]; exact h1, by rw [webBy_len]; exact h2, fun i a b => ?_, fun i k a b c => ?_, fun i k a b c => ?_⟩
  · unfold fr webBy
    rw [List.getD_eq_getElem?_getD, List.getElem?_map]
    cases (byRows n es)[i.toNat]? with
    | none => exact List.Pairwise.nil
    | some r => exact pw_sortD r
  · rw [webBy_len] at b ⊢
    exact inn i k a b c
  · rw [webBy_len] at b
    have := inn i k a b c
    exact (mem_webBy this.1 this.2.1 h').mpr ((mem_webBy a b h').mp c).symm
end L2.P

set_option Elab.async false
set_option linter.all false
set_option maxRecDepth 100000
set_option maxHeartbeats 4000000
/-! PL18: a, b = e, [..]: several names at once, some of them lists of this def's own. -/
namespace L2.P
open PySem PySem.Spec PyProof.Rows L2
inductive Pv where
  | f (p : D) | o (ps : List D) | d (t : Bool) (kvs : List (D × D)) | z (kvs : List (D × D))
def Pv.sl : Pv → Sl
  | .f p => .v p
  | .o ps => .ol ps
  | .d t kvs => .od t kvs
  | .z kvs => .fz kvs
/-- values beside one another: frozen ones, and new lists that nobody else holds -/
inductive OwAll (K : Fg) (B : Bs) (F H : Hp) (σ : St) (ρ : Rho) : List V → List Pv → List Addr → Prop
  | nil : OwAll K B F H σ ρ [] [] []
  | f {v : V} {p : D} {vs : List V} {ps : List Pv} {as : List Addr} : Dp K F v p → OwAll K B F H σ ρ vs ps as → OwAll K B F H σ ρ (v :: vs) (.f p :: ps) as
  | z {a : Addr} {o : Obj} {es : List (List Key × V)} {kvs : List (D × D)} {vs : List V} {ps : List Pv} {as : List Addr} : F a = some (.frz o (.dT es)) → DtAll K F es kvs → OwAll K B F H σ ρ vs ps as → OwAll K B F H σ ρ (.ref a :: vs) (.z kvs :: ps) as
  | o {a : Addr} {ob : HO} {q : Pv} {vs : List V} {ps : List Pv} {as : List Addr} : F a = none → B.Ha a = none → H a = some ob → Holds K F ob q.sl → (∀ (l : Nat) (s : Sl), ρ[l]? = some s → s.owns = true → σ[l]? = some (some (V.ref a)) → False) → a ∉ as →
      OwAll K B F H σ ρ vs ps as → OwAll K B F H σ ρ (.ref a :: vs) (q :: ps) (a :: as)
abbrev TP := Rho → (List Pv → Prop) → Prop
def tOA (K : Fg) (T : TP) : TA := fun σ H Q => ∃ B F ρ, Rs K B F H σ ρ ∧ T ρ (fun ps => ∀ F' H' vs as, Rs K B F' H' σ ρ → Same F F' → OwAll K B F' H' σ ρ vs ps as → Q vs H')
structure OA (X : Cx) (es : List Expr) (T : TP) : Prop where
  mono : ∀ ρ K K', (∀ p, K p → K' p) → T ρ K → T ρ K'
  pa : PA X es (tOA X.K T)
section
variable {X : Cx} {e : Expr} {es : List Expr} {pos : Pos}
def oNil : TP := fun _ K => K []
def oF (T : TW) (U : TP) : TP := fun ρ K => T ρ fun p => U ρ fun ps => K (.f p :: ps)
def oO (T : TL) (U : TP) : TP := fun ρ K => T ρ fun p => U ρ fun ps => K (.o p :: ps)
theorem oa_nil : OA X [] oNil := ⟨fun _ _ _ h q => h _ q, PA.imp pa_nil fun σ H Q ⟨B, F, ρ, R, q⟩ => q F H [] [] R (Same.refl _) .nil⟩
theorem oa_f {T : TW} {U : TP} (ha : EW X e T) (hr : OA X es U) (hs : starEach (e :: es) X.env = (false, eval e X.env) :: starEach es X.env := by rfl) : OA X (e :: es) (oF T U) :=
  ⟨fun ρ K K' h q => ha.mono _ _ _ (fun x => hr.mono _ _ _ fun xs => h _) q, PA.imp (pa_cons ha.pe hr.pa hs) fun σ H Q ⟨B, F, ρ, R, q⟩ => ⟨B, F, ρ, R, ha.mono _ _ _ (fun x k F1 H1 v R1 e1 d1 =>
    ⟨B, F1, ρ, R1, hr.mono _ _ _ (fun xs k2 F2 H2 vs as R2 e2 d2 => k2 F2 H2 (v :: vs) as R2 (e1.trans e2) (.f (d1.same e2) d2)) k⟩) q⟩⟩
theorem OwAll.unpin {K : Fg} {B : Bs} {F H : Hp} {σ : St} {ρ : Rho} {a : Addr} {o : HO} (hH : B.Ha a = none) : ∀ {vs : List V} {ps : List Pv} {as : List Addr}, OwAll K (B.pin a o) F H σ ρ vs ps as → OwAll K B F H σ ρ vs ps as ∧ a ∉ as
  | _, _, _, .nil => ⟨.nil, by simp⟩
  | _, _, _, .f d r => ⟨.f d (OwAll.unpin hH r).1, (OwAll.unpin hH r).2⟩
  | _, _, _, .z h9 d r => ⟨.z h9 d (OwAll.unpin hH r).1, (OwAll.unpin hH r).2⟩
  | _, _, _, .o (a := b) h1 h2 h3 h4 h5 h6 r => by
    obtain ⟨r1, r2⟩ := OwAll.unpin hH r
    have z : (upd B.Ha a o) b = none := h2
    have ne : b ≠ a := fun e => by subst e; rw [upd_same] at z; cases z
    rw [upd_ne ne] at z
    refine ⟨.o h1 z h3 h4 h5 h6 r1, fun m => ?_⟩
    rcases List.mem_cons.mp m with e | m
    · exact ne e.symm
    · exact r2 m
theorem oa_o {T : TL} {U : TP} (ha : NW X e T) (hr : OA X es U) (hs : starEach (e :: es) X.env = (false, eval e X.env) :: starEach es X.env := by rfl) : OA X (e :: es) (oO T U) :=
  ⟨fun ρ K K' h q => ha.mono _ _ _ (fun x => hr.mono _ _ _ fun xs => h _) q, PA.imp (pa_cons ha.pe hr.pa hs) fun σ H Q ⟨B, F, ρ, R, q⟩ => ⟨B, F, ρ, R, ha.mono _ _ _ (fun x k F1 H1 a xs R1 e1 n d1 => by
    obtain ⟨p1, p2, p3⟩ := R1.fresh n
    have hF : B.Fa a = none := R1.ext.free p2
    refine ⟨B.pin a (.lst xs), F1, ρ, R1.pin n _, hr.mono _ _ _ (fun ys k2 F2 H2 vs as R2 e2 d2 => ?_) k⟩
    obtain ⟨q1, q2⟩ := R2.pinned p3 hF
    obtain ⟨o1, o2⟩ := d2.unpin p1
    refine k2 F2 H2 (.ref a :: vs) (a :: as) (R2.unpin p3 hF p1) (e1.trans e2) (.o q2 p1 q1 ⟨xs, rfl, d1.same e2⟩ (fun l s hs ho hσ => ?_) o2 o1)
    have at_l := R1.at_ l s hs
    rw [hσ] at at_l
    cases at_l with
    | no => cases ho
    | v _ => cases ho
    | fz _ _ => cases ho
    | ol _ _ h _ => rw [n] at h; cases h
    | row _ _ h =>
      obtain ⟨u, hu⟩ := h.there
      rw [n] at hu; cases hu
    | od _ _ h =>
      obtain ⟨u, hu, _⟩ := h.there
      rw [n] at hu; cases hu) q⟩⟩
/-- a new dict -/
def tND (K : Fg) (t : Bool) (T : Rho → (List (D × D) → Prop) → Prop) : TE := fun σ H Q => ∃ B F ρ, Rs K B F H σ ρ ∧ T ρ (fun kvs => ∀ F' H' a o, Rs K B F' H' σ ρ → Same F F' → H' a = none → Holds K F' o (.od t kvs) → Q (.ref a) (upd H' a o))
structure ND (X : Cx) (e : Expr) (t : Bool) (T : Rho → (List (D × D) → Prop) → Prop) : Prop where
  mono : ∀ ρ K K', (∀ p, K p → K' p) → T ρ K → T ρ K'
  pe : PE X e (tND X.K t T)
abbrev NDF (X : Cx) (e : Expr) (t : Bool) (f : Rho → Option (List (D × D))) : Prop := ND X e t (fW f)
def oD (t : Bool) (T : Rho → (List (D × D) → Prop) → Prop) (U : TP) : TP := fun ρ K => T ρ fun p => U ρ fun ps => K (.d t p :: ps)
theorem oa_d {t : Bool} {T : Rho → (List (D × D) → Prop) → Prop} {U : TP} (ha : ND X e t T) (hr : OA X es U) (hs : starEach (e :: es) X.env = (false, eval e X.env) :: starEach es X.env := by rfl) : OA X (e :: es) (oD t T U) :=
  ⟨fun ρ K K' h q => ha.mono _ _ _ (fun x => hr.mono _ _ _ fun xs => h _) q, PA.imp (pa_cons ha.pe hr.pa hs) fun σ H Q ⟨B, F, ρ, R, q⟩ => ⟨B, F, ρ, R, ha.mono _ _ _ (fun x k F1 H1 a o R1 e1 n hh => by
    obtain ⟨p1, p2, p3⟩ := R1.fresh n
    have hF : B.Fa a = none := R1.ext.free p2
    refine ⟨B.pin a o, F1, ρ, R1.pin n _, hr.mono _ _ _ (fun ys k2 F2 H2 vs as R2 e2 d2 => ?_) k⟩
    obtain ⟨q1, q2⟩ := R2.pinned p3 hF hh.nt
    obtain ⟨o1, o2⟩ := d2.unpin p1
    refine k2 F2 H2 (.ref a :: vs) (a :: as) (R2.unpin p3 hF p1) (e1.trans e2) (.o q2 p1 q1 (hh.same e2) (fun l s hs ho hσ => ?_) o2 o1)
    have at_l := R1.at_ l s hs
    rw [hσ] at at_l
    cases at_l with
    | no => cases ho
    | v _ => cases ho
    | fz _ _ => cases ho
    | ol _ _ h _ => rw [n] at h; cases h
    | row _ _ h =>
      obtain ⟨u, hu⟩ := h.there
      rw [n] at hu; cases hu
    | od _ _ h =>
      obtain ⟨u, hu, _⟩ := h.there
      rw [n] at hu; cases hu) q⟩⟩
/-! ### they go into slots -/
theorem Rs.putA {K : Fg} {B : Bs} {F H : Hp} {σ : St} {ρ : Rho} {i : Nat} {a : Addr} {ob : HO} {s0 : Sl} (R : Rs K B F H σ ρ) (f : F a = none) (h0 : B.Ha a = none) (h1 : H a = some ob) (d : Holds K F ob s0) (far : ∀ (l : Nat) (s : Sl), ρ[l]? = some s → s.owns = true → σ[l]? = some (some (V.ref a)) → False) :
    Rs K B F H (σ.set i (some (.ref a))) (ρ.set i s0) := by
  refine ⟨R.sub, R.ext, R.new, R.old, R.hrow, R.hr2, by rw [List.length_set, List.length_set]; exact R.len, fun j s hs => ?_, fun j k c s t hjk h1' h2 o1 o2 e1 e2 => ?_⟩
  · rcases set_some hs with ⟨rfl, hl, rfl⟩ | ⟨ne, hs⟩
    · rw [List.getElem?_set_self (by rw [R.len]; exact hl)]
      exact d.ok f h0 h1
    · rw [List.getElem?_set_ne ne]; exact R.at_ j s hs
  · rcases set_some h1' with ⟨rfl, hl, _⟩ | ⟨ne, h1n⟩
    · rw [List.getElem?_set_self (by rw [R.len]; exact hl)] at e1
      cases e1
      rcases set_some h2 with ⟨rfl, _⟩ | ⟨ne, h2n⟩
      · exact hjk rfl
      · rw [List.getElem?_set_ne ne] at e2
        exact far k t h2n o2 e2
    · rw [List.getElem?_set_ne ne] at e1
      rcases set_some h2 with ⟨rfl, hl, _⟩ | ⟨ne2, h2n⟩
      · rw [List.getElem?_set_self (by rw [R.len]; exact hl)] at e2
        cases e2
        exact far j s h1n o1 e1
      · rw [List.getElem?_set_ne ne2] at e2
        exact R.apart j k c s t hjk h1n h2n o1 o2 e1 e2
def putsS (σ : St) : List Nat → List V → St
  | i :: is, v :: vs => putsS (σ.set i (some v)) is vs
  | _, _ => σ
def putsR (ρ : Rho) : List Nat → List Pv → Rho
  | i :: is, p :: ps => putsR (ρ.set i p.sl) is ps
  | _, _ => ρ
theorem OwAll.put {K : Fg} {B : Bs} {F H : Hp} {σ : St} {ρ : Rho} {i : Nat} {v : V} {s : Sl} {vs : List V} {ps : List Pv} {as : List Addr} (g : ∀ a, v = .ref a → s.owns = true → a ∉ as) (d : OwAll K B F H σ ρ vs ps as) (hl : ρ.length = σ.length) : OwAll K B F H (σ.set i (some v)) (ρ.set i s) vs ps as := by
  induction d with
  | nil => exact .nil
  | f d _ ih => exact .f d (ih g)
  | z h9 d _ ih => exact .z h9 d (ih g)
  | @o b ob q vs ps as h1 h2 h3 h4 h5 h6 r ih =>
    refine .o h1 h2 h3 h4 (fun l t ht ho e => ?_) h6 (ih fun a e1 e2 m => g a e1 e2 (List.mem_cons_of_mem _ m))
    rcases set_some ht with ⟨rfl, hl2, rfl⟩ | ⟨ne, ht⟩
    · rw [List.getElem?_set_self (by rw [← hl]; exact hl2)] at e
      cases e
      exact g b rfl ho List.mem_cons_self
    · rw [List.getElem?_set_ne ne] at e
      exact h5 l t ht ho e
theorem Rs.puts {K : Fg} {B : Bs} {F H : Hp} : ∀ (is : List Nat) {σ : St} {ρ : Rho} {vs : List V} {ps : List Pv} {as : List Addr}, Rs K B F H σ ρ → OwAll K B F H σ ρ vs ps as → Rs K B F H (putsS σ is vs) (putsR ρ is ps)
  | [], σ, ρ, vs, ps, as, R, o => by cases vs <;> cases ps <;> exact R
  | i :: is, σ, ρ, _, _, _, R, .nil => R
  | i :: is, σ, ρ, _, _, _, R, .f (v := v) (p := p) d r => by
    have R' := R.put (i := i) (x := v) (s := .v p) (.v d) rfl
    exact Rs.puts is R' (r.put (fun _ _ z => by cases z) R.len.symm)
  | i :: is, σ, ρ, _, _, _, R, .z (a := a) (kvs := kvs) h9 d r => by
    have R' := R.put (i := i) (x := .ref a) (s := .fz kvs) (.fz h9 d) rfl
    exact Rs.puts is R' (r.put (fun _ _ z => by cases z) R.len.symm)
  | i :: is, σ, ρ, _, _, _, R, .o (a := b) (q := qv) h1 h2 h3 h4 h5 h6 r => by
    have R' := R.putA (i := i) h1 h2 h3 h4 h5
    exact Rs.puts is R' (r.put (fun a e _ m => by cases e; exact h6 m) R.len.symm)
theorem OwAll.len {K : Fg} {B : Bs} {F H : Hp} {σ : St} {ρ : Rho} : ∀ {vs : List V} {ps : List Pv} {as : List Addr}, OwAll K B F H σ ρ vs ps as → vs.length = ps.length
  | _, _, _, .nil => rfl
  | _, _, _, .f _ r => congrArg (· + 1) (OwAll.len r)
  | _, _, _, .z _ _ r => congrArg (· + 1) (OwAll.len r)
  | _, _, _, .o _ _ _ _ _ _ r => congrArg (· + 1) (OwAll.len r)
theorem len2 {α : Type} {l : List α} (h : l.length = 2) : ∃ a b, l = [a, b] := by
  match l, h with
  | [a, b], _ => exact ⟨a, b, rfl⟩
theorem len3 {α : Type} {l : List α} (h : l.length = 3) : ∃ a b c, l = [a, b, c] := by
  match l, h with
  | [a, b, c], _ => exact ⟨a, b, c, rfl⟩
def wPuts (is : List Nat) (n : Nat) (T : TP) : TSt := fun ρ K => T ρ fun ps => ps.length = n ∧ K (.nx (putsR ρ is ps))
/-- both at once -/
theorem sw_own2 {i j : Nat} {x y : Str} {a b : Expr} {T : TP} {px py pt : Pos} {kt k2 pt2} (hc : X.calm = true) (hN : X.N.Nodup) (hi : X.N[i]? = some x) (hj : X.N[j]? = some y) (hij : i ≠ j)
    (hx : X.env.scope.names.lookup x = some .local) (hy : X.env.scope.names.lookup y = some .local) (h : OA X [a, b] T)
    (hw : swappedStores [.Tuple [.Name x px, .Name y py] kt pt] (.Tuple [a, b] k2 pt2) X.env = pure (some [x, y]))
    (hs : swapsWithSole [.Tuple [.Name x px, .Name y py] kt pt] (.Tuple [a, b] k2 pt2) pos.line X.env = pure false := by rfl) :
    SW X (.Assign [.Tuple [.Name x px, .Name y py] kt pt] (.Tuple [a, b] k2 pt2) pos) (wPuts [i, j] 2 T) :=
  ⟨fun ρ K K' k q => h.mono _ _ _ (fun p z => ⟨z.1, k _ z.2⟩) q, (ps_par hc hN hi hj hij hx hy h.pa hw hs).imp fun En σ H ⟨B, F, ρ, R, q⟩ => ⟨B, F, ρ, R, h.mono _ _ _ (fun p k F' H' vs as R' s d => by
    obtain ⟨u, v, rfl⟩ := len2 (d.len.trans k.1)
    exact ⟨u, v, rfl, k.2 F' H' _ (R'.puts [i, j] d) s⟩) q⟩⟩
theorem sw_own3 {i j l : Nat} {x y z : Str} {a b c : Expr} {T : TP} {px py pz pt : Pos} {kt k2 pt2} (hc : X.calm = true) (hN : X.N.Nodup) (hi : X.N[i]? = some x) (hj : X.N[j]? = some y) (hl : X.N[l]? = some z) (hij : i ≠ j) (hil : i ≠ l) (hjl : j ≠ l)
    (hx : X.env.scope.names.lookup x = some .local) (hy : X.env.scope.names.lookup y = some .local) (hz : X.env.scope.names.lookup z = some .local) (h : OA X [a, b, c] T)
    (hw : swappedStores [.Tuple [.Name x px, .Name y py, .Name z pz] kt pt] (.Tuple [a, b, c] k2 pt2) X.env = pure (some [x, y, z]))
    (hs : swapsWithSole [.Tuple [.Name x px, .Name y py, .Name z pz] kt pt] (.Tuple [a, b, c] k2 pt2) pos.line X.env = pure false := by rfl) :
    SW X (.Assign [.Tuple [.Name x px, .Name y py, .Name z pz] kt pt] (.Tuple [a, b, c] k2 pt2) pos) (wPuts [i, j, l] 3 T) :=
  ⟨fun ρ K K' k q => h.mono _ _ _ (fun p z => ⟨z.1, k _ z.2⟩) q, (ps_par3 hc hN hi hj hl hij hil hjl hx hy hz h.pa hw hs).imp fun En σ H ⟨B, F, ρ, R, q⟩ => ⟨B, F, ρ, R, h.mono _ _ _ (fun p k F' H' vs as R' s d => by
    obtain ⟨u, v, w, rfl⟩ := len3 (d.len.trans k.1)
    exact ⟨u, v, w, rfl, k.2 F' H' _ (R'.puts [i, j, l] d) s⟩) q⟩⟩
/-- through a tuple: any number of names -/
inductive Nms (X : Cx) : List Expr → List Nat → Prop
  | nil : Nms X [] []
  | cons {i : Nat} {x : Str} {p : Pos} {es : List Expr} {is : List Nat} (hi : X.N[i]? = some x) (hx : Loc X.env.scope x) (hf : X.fn x = true ∨ X.env.scope.names.lookup x = some .local) : Nms X es is → Nms X (.Name x p :: es) (i :: is)
def gNms : List Nat → TGs
  | [] => gNil
  | i :: is => gCons (gName i) (gNms is)
theorem assignEach_nm {X : Cx} : ∀ {es : List Expr} {is : List Nat}, Nms X es is → (assignEach es X.env).length = es.length ∧ (assignEach es X.env).findIdx? (·.1) = none
  | _, _, .nil => ⟨rfl, rfl⟩
  | _, _, .cons (x := x) (p := p) (es := es) _ _ _ r => by
    obtain ⟨h1, h2⟩ := assignEach_nm r
    refine ⟨?_, ?_⟩
    · show (assignEach es X.env).length + 1 = _
      rw [h1]; rfl
    · show List.findIdx? _ ((false, assign (.Name x p) X.env) :: assignEach es X.env) = none
      rw [List.findIdx?_cons]
      show (if false = true then some 0 else Option.map _ _) = none
      rw [if_neg (by simp), h2]; rfl
theorem pgs_nm {X : Cx} (hN : X.N.Nodup) : ∀ {es : List Expr} {is : List Nat}, Nms X es is → PGs X es (gNms is)
  | _, _, .nil => pgs_nil
  | _, _, .cons hi hx hf r => pgs_cons (pg_name hN hi hx hf) (pgs_nm hN r)
theorem gNms_puts : ∀ (is : List Nat) (vs : List V) (σ : St) (H : Hp) (Q : St → Hp → Prop), is.length = vs.length → Q (putsS σ is vs) H → gNms is vs σ H Q
  | [], [], σ, H, Q, _, q => ⟨rfl, q⟩
  | i :: is, v :: vs, σ, H, Q, hl, q => ⟨v, vs, rfl, gNms_puts is vs (σ.set i (some v)) H Q (by simpa using hl) q⟩
theorem Rs.layAny {K : Fg} {B : Bs} {F H : Hp} {σ : St} {ρ : Rho} {p : Addr} {o : HO} {vs : List V} {ps : List Pv} {as : List Addr} (R : Rs K B F H σ ρ) (h : H p = none) (d : OwAll K B F H σ ρ vs ps as) : Rs K B F (upd H p o) σ ρ ∧ OwAll K B F (upd H p o) σ ρ vs ps as := by
  refine ⟨R.lay h, ?_⟩
  induction d with
  | nil => exact .nil
  | f d _ ih => exact .f d ih
  | z h9 d _ ih => exact .z h9 d ih
  | o h1 h2 h3 h4 h5 h6 _ ih => exact .o h1 h2 (by rw [upd_ne (ne_of_none h3 h)]; exact h3) h4 h5 h6 ih
theorem sw_ownT {es ts : List Expr} {is : List Nat} {n : Nat} {T : TP} {pt : Pos} {kt k2 pt2} (hc : X.calm = true) (hN : X.N.Nodup) (hn : Nms X ts is) (h : OA X es T) (hl : is.length = n) (hl2 : ts.length = n) (hn2 : n ≤ 1000)
    (hs : swapsWithSole [.Tuple ts kt pt] (.Tuple es k2 pt2) pos.line X.env = pure false := by rfl) (hw : swappedStores [.Tuple ts kt pt] (.Tuple es k2 pt2) X.env = pure none := by rfl) (h1 : (assignEach [.Tuple ts kt pt] X.env).map (·.2) = [assign (.Tuple ts kt pt) X.env] := by rfl) :
    SW X (.Assign [.Tuple ts kt pt] (.Tuple es k2 pt2) pos) (wPuts is n T) :=
  ⟨fun ρ K K' k q => h.mono _ _ _ (fun p z => ⟨z.1, k _ z.2⟩) q, (ps_asg (pe_tup h.pa) (pg_tup (n := n) hc (pgs_nm hN hn) ((assignEach_nm hn).1.trans hl2) (assignEach_nm hn).2) hs hw h1).imp fun En σ H ⟨B, F, ρ, R, q⟩ => ⟨B, F, ρ, R, h.mono _ _ _ (fun p k F' H' vs as R' s d => by
    have hv := d.len.trans k.1
    refine ⟨by rw [hv, sizeLine_eq]; omega, fun l hlf => ?_⟩
    obtain ⟨R2, d2⟩ := R'.layAny (o := .tup vs) hlf d
    refine ⟨l, vs, rfl, .inl (.inl upd_same), hv, gNms_puts is vs σ _ _ (hl.trans hv.symm) ?_⟩
    exact k.2 F' _ _ (R2.puts is d2) s) q⟩⟩
end
end L2.P
namespace L2.P
open PySem PySem.Spec PyProof.Rows L2
def pNil : Rho → Option (List Pv) := fun _ => some []
def pF (f : Rho → Option D) (g : Rho → Option (List Pv)) : Rho → Option (List Pv) := fun ρ => (f ρ).bind fun x => (g ρ).map fun xs => .f x :: xs
def pO (f : Rho → Option (List D)) (g : Rho → Option (List Pv)) : Rho → Option (List Pv) := fun ρ => (f ρ).bind fun x => (g ρ).map fun xs => .o x :: xs
section
variable {X : Cx} {e : Expr} {es : List Expr} {pos : Pos} {st : Stmt}
theorem OA.imp {T T' : TP} (h : OA X es T) (m : ∀ ρ K K', (∀ p, K p → K' p) → T' ρ K → T' ρ K') (k : ∀ ρ K, T' ρ K → T ρ K) : OA X es T' := ⟨m, PA.imp h.pa fun _ _ _ ⟨B, F, ρ, R, q⟩ => ⟨B, F, ρ, R, k _ _ q⟩⟩
theorem of_nil : OA X [] (fW pNil) := oa_nil.imp fW_mono fun ρ K ⟨p, e, k⟩ => by cases e; exact k
theorem of_f {f : Rho → Option D} {g : Rho → Option (List Pv)} (ha : EF X e f) (hr : OA X es (fW g)) (hs : starEach (e :: es) X.env = (false, eval e X.env) :: starEach es X.env := by rfl) : OA X (e :: es) (fW (pF f g)) := (oa_f ha hr hs).imp fW_mono fun ρ K ⟨z, e, k⟩ => by
  obtain ⟨x, e1, e⟩ := Option.bind_eq_some_iff.mp e
  obtain ⟨xs, e2, rfl⟩ := Option.map_eq_some_iff.mp e
  exact ⟨x, e1, xs, e2, k⟩
theorem of_o {f : Rho → Option (List D)} {g : Rho → Option (List Pv)} (ha : NF X e f) (hr : OA X es (fW g)) (hs : starEach (e :: es) X.env = (false, eval e X.env) :: starEach es X.env := by rfl) : OA X (e :: es) (fW (pO f g)) := (oa_o ha hr hs).imp fW_mono fun ρ K ⟨z, e, k⟩ => by
  obtain ⟨x, e1, e⟩ := Option.bind_eq_some_iff.mp e
  obtain ⟨xs, e2, rfl⟩ := Option.map_eq_some_iff.mp e
  exact ⟨x, e1, xs, e2, k⟩
def pD (t : Bool) (f : Rho → Option (List (D × D))) (g : Rho → Option (List Pv)) : Rho → Option (List Pv) := fun ρ => (f ρ).bind fun x => (g ρ).map fun xs => .d t x :: xs
theorem of_d {t : Bool} {f : Rho → Option (List (D × D))} {g : Rho → Option (List Pv)} (ha : NDF X e t f) (hr : OA X es (fW g)) (hs : starEach (e :: es) X.env = (false, eval e X.env) :: starEach es X.env := by rfl) : OA X (e :: es) (fW (pD t f g)) := (oa_d ha hr hs).imp fW_mono fun ρ K ⟨z, e, k⟩ => by
  obtain ⟨x, e1, e⟩ := Option.bind_eq_some_iff.mp e
  obtain ⟨xs, e2, rfl⟩ := Option.map_eq_some_iff.mp e
  exact ⟨x, e1, xs, e2, k⟩
def sPuts (is : List Nat) (n : Nat) (f : Rho → Option (List Pv)) : Rho → Option Fl := fun ρ => (f ρ).bind fun ps => if ps.length = n then some (.nx (putsR ρ is ps)) else none
theorem SW.puts {is : List Nat} {n : Nat} {f : Rho → Option (List Pv)} (h : SW X st (wPuts is n (fW f))) : SF X st (sPuts is n f) := h.imp fW_mono fun ρ K ⟨p, e, k⟩ => by
  obtain ⟨z, e1, e2⟩ := Option.bind_eq_some_iff.mp e
  split at e2
  · rename_i hz; cases e2; exact ⟨z, e1, hz, k⟩
  · cases e2
end
@[simp] theorem e_pNil (ρ : Rho) : pNil ρ = some [] := rfl
@[simp] theorem e_pF (f : Rho → Option D) (g : Rho → Option (List Pv)) (ρ : Rho) : pF f g ρ = (f ρ).bind fun x => (g ρ).map fun xs => .f x :: xs := rfl
@[simp] theorem e_pD (t : Bool) (f : Rho → Option (List (D × D))) (g : Rho → Option (List Pv)) (ρ : Rho) : pD t f g ρ = (f ρ).bind fun x => (g ρ).map fun xs => .d t x :: xs := rfl
@[simp] theorem e_pO (f : Rho → Option (List D)) (g : Rho → Option (List Pv)) (ρ : Rho) : pO f g ρ = (f ρ).bind fun x => (g ρ).map fun xs => .o x :: xs := rfl
theorem s_puts {is : List Nat} {n : Nat} {f : Rho → Option (List Pv)} {ρ : Rho} {K : Fl → Prop} (ps : List Pv) (h : f ρ = some ps) (hn : ps.length = n) (k : K (.nx (putsR ρ is ps))) : fW (sPuts is n f) ρ K := ⟨_, by unfold sPuts; show (f ρ).bind _ = _; rw [h, Option.bind_some, if_pos hn], k⟩
theorem q_puts {is : List Nat} {n : Nat} {f : Rho → Option (List Pv)} {g : Rho → Option Fl} {ρ : Rho} {K : Fl → Prop} (ps : List Pv) (h : f ρ = some ps) (hn : ps.length = n) (k : fW g (putsR ρ is ps) K) : fW (sSeq (sPuts is n f) g) ρ K := s_seq (s_puts ps h hn k)
end L2.P

set_option Elab.async false
set_option linter.all false
set_option maxRecDepth 100000
set_option maxHeartbeats 4000000
/-! PL19: min, max of data. -/
namespace L2.P
open PySem PySem.Spec PyProof.Rows L2
def notN : D → Bool
  | .none => false
  | _ => true
def okM (ps : List D) : Bool := (ps.all fun x => notN x && ps.all fun y => PySem.W.alike x y) && okDs ps
theorem okM_alike {ps : List D} (h : okM ps = true) : PySem.W.AlikeAll ps := by
  unfold okM at h
  rw [Bool.and_eq_true, List.all_eq_true] at h
  refine ⟨fun x hx y hy => ?_, fun x hx e => ?_⟩
  · have := h.1 x hx
    rw [Bool.and_eq_true, List.all_eq_true] at this
    exact this.2 y hy
  · have := h.1 x hx
    subst e
    rw [Bool.and_eq_true] at this
    exact absurd this.1 (by simp [notN])
theorem okM_oks {ps : List D} (h : okM ps = true) : okDs ps = true := by
  unfold okM at h
  rw [Bool.and_eq_true] at h
  exact h.2
/-- one of the items is what g makes of them -/
def rPick (K : Fg) (g : D → List D → D) : List V → Hp → VK → Prop := fun vs H Q => ∃ (a : Addr) (ys : List V) (x : D) (xs : List D), vs = [.ref a] ∧ SqL K H a ys ∧ DpAll K H ys (x :: xs) ∧ okM (x :: xs) = true ∧
  ∀ (i : Nat) (u : V), ys[i]? = some u → (x :: xs)[i]? = some (g x xs) → Q u H
theorem read_one {h : Heap} {v : Value} {d e : D} {as bs : List Addr} (hd : d.plain = true) (he : e.plain = true) (r1 : Reads h v d as) (r2 : Reads h v e bs) : d = e := by
  rw [← SeqAt.readOf_plain hd r1, SeqAt.readOf_plain he r2]
theorem plain_mem : ∀ {ps : List D} {p : D}, PyData.plainAll ps = true → p ∈ ps → p.plain = true
  | x :: xs, p, h, m => by
    rw [PyData.plainAll, Bool.and_eq_true] at h
    rcases List.mem_cons.mp m with rfl | m
    · exact h.1
    · exact plain_mem h.2 m
theorem minD_mem (x : D) (xs : List D) : PySem.W.minD x xs ∈ x :: xs := by
  unfold PySem.W.minD
  induction xs generalizing x with
  | nil => simp
  | cons y ys ih =>
    rw [List.foldl_cons]
    split
    · have := ih y
      rcases List.mem_cons.mp this with e | m
      · rw [e]; simp
      · exact List.mem_cons_of_mem _ (List.mem_cons_of_mem _ m)
    · have := ih x
      rcases List.mem_cons.mp this with e | m
      · rw [e]; simp
      · exact List.mem_cons_of_mem _ (List.mem_cons_of_mem _ m)
theorem maxD_mem (x : D) (xs : List D) : PySem.W.maxD x xs ∈ x :: xs := by
  unfold PySem.W.maxD
  induction xs generalizing x with
  | nil => simp
  | cons y ys ih =>
    rw [List.foldl_cons]
    split
    · have := ih y
      rcases List.mem_cons.mp this with e | m
      · rw [e]; simp
      · exact List.mem_cons_of_mem _ (List.mem_cons_of_mem _ m)
    · have := ih x
      rcases List.mem_cons.mp this with e | m
      · rw [e]; simp
      · exact List.mem_cons_of_mem _ (List.mem_cons_of_mem _ m)
section
variable {X : Cx}
theorem vals_at {vs : List V} {us : List Value} (r : Vals vs us) : ∀ {i : Nat} {u : Value}, us[i]? = some u → ∃ v, vs[i]? = some v ∧ RelV v u := by
  induction r with
  | nil => intro i u h; simp at h
  | cons a _ ih =>
    intro i u h
    cases i with
    | zero => simp at h; subst h; exact ⟨_, rfl, a⟩
    | succ i => exact ih (by simpa using h)
theorem pick_fin {H : Hp} {pins : List (Addr × Obj)} {σ : St} {s : Shared} {ys : List V} {its : List Value} {ps : List D} {m : D} {as : List Addr} {Q : VK} (I : L2.Inv X pins σ H s) (rv : Vals ys its) (hpl : PyData.plainAll ps = true) (hr : ReadsAll s.heap its ps as) (hm : m ∈ ps)
    (q : ∀ (i : Nat) (u : V), ys[i]? = some u → ps[i]? = some m → Q u H) (i : Nat) (v : Value) (h' : Heap) (tk : Nat) (bs : List Addr) (hv : its.toArray[i]? = some v) (r : Reads h' v m bs) (hk : ∀ b o, s.heap.get? b = some o → h'.get? b = some o) : EP X pins σ Q v { s with heap := h', toks := tk } := by
  have hv' : its[i]? = some v := by simpa using hv
  obtain ⟨u, hu, ru⟩ := vals_at rv hv'
  obtain ⟨cs, r2, h3, h4, _⟩ := PySem.W.readsAll_at hr i v hv'
  have e1 : ps.getD i .none = m := read_one (plain_mem hpl h4) (plain_mem hpl hm) (Reads.keeps hk r2) r
  have e2 : ps[i]? = some m := by
    rw [List.getD_eq_getElem?_getD, List.getElem?_eq_getElem h3] at e1
    rw [List.getElem?_eq_getElem h3]
    exact congrArg some e1
  exact ⟨u, H, I.kept hk, ru, q i u hu e2⟩
theorem cr_minP (hc : X.calm = true) (hu : Rm X) : CallR X (.builtin "min") (rPick X.K PySem.W.minD) := by
  intro pins s σ H vs us Q I r h
  obtain ⟨a, ys, x, xs, rfl, hs, hd, ok, q⟩ := h
  rw [Vals.ref1 r]
  obtain ⟨hpl, hdep⟩ := okDs_iff.mp (okM_oks ok)
  obtain ⟨its, rv, hl, _⟩ := I.list hs
  obtain ⟨as, hr⟩ := Dp.readsAll I _ ys its hd hpl rv
  exact PySem.W.min_list_data (I.ok.hd hc) hl.isList hr (okM_alike ok) (by unfold Rm at hu; omega) fun i v h' tk bs hv r hk => pick_fin I rv hpl hr (minD_mem x xs) q i v h' tk bs hv r hk
theorem cr_maxP (hc : X.calm = true) (hu : Rm X) : CallR X (.builtin "max") (rPick X.K PySem.W.maxD) := by
  intro pins s σ H vs us Q I r h
  obtain ⟨a, ys, x, xs, rfl, hs, hd, ok, q⟩ := h
  rw [Vals.ref1 r]
  obtain ⟨hpl, hdep⟩ := okDs_iff.mp (okM_oks ok)
  obtain ⟨its, rv, hl, _⟩ := I.list hs
  obtain ⟨as, hr⟩ := Dp.readsAll I _ ys its hd hpl rv
  exact PySem.W.max_list_data (I.ok.hd hc) hl.isList hr (okM_alike ok) (by unfold Rm at hu; omega) fun i v h' tk bs hv r hk => pick_fin I rv hpl hr (maxD_mem x xs) q i v h' tk bs hv r hk
def gPick (g : D → List D → D) : GA
  | [.list (x :: xs)] => if okM (x :: xs) = true then some (g x xs) else none
  | _ => none
def gMin : GA := gPick PySem.W.minD
def gMax : GA := gPick PySem.W.maxD
theorem pk_lst {K : Fg} {B : Bs} {F H : Hp} {σ : St} {ρ : Rho} {v : V} {ps : List D} (R : Rs K B F H σ ρ) (d : Pk K F σ ρ v (.list ps)) : ∃ a ys, v = .ref a ∧ SqL K H a ys ∧ DpAll K F ys ps := by
  rcases d with d | ⟨i, qs, h1, h2, e⟩ | ⟨_, _, _, _, _, z⟩
  rotate_left 2
  · cases z
  · obtain ⟨a, xs, rfl, s, r⟩ := Dp.inv_lst d
    exact ⟨a, xs, rfl, sqL_same R.sub s, r⟩
  · cases e
    obtain ⟨a, xs, e, f, h0, h3, r⟩ := R.own h1
    rw [h2] at e; cases e
    exact ⟨a, xs, rfl, .inl (.inl h3), r⟩
theorem cg_pick {id : String} {g : D → List D → D} (c : CallR X (.builtin id) (rPick X.K g)) : CallG X (.builtin id) (gPick g) := ⟨_, c, fun B F H σ ρ vs ps z Q R d e k => by
  unfold gPick at e
  split at e
  · rename_i x xs
    split at e
    · rename_i ok
      cases e
      cases d with
      | cons d t =>
        cases t
        obtain ⟨a, ys, rfl, hs, r⟩ := pk_lst R d
        refine ⟨a, ys, x, xs, rfl, hs, r.same R.sub, ok, fun i u hu hp => ?_⟩
        obtain ⟨u', hu', du⟩ := r.get hp
        rw [hu] at hu'; cases hu'
        exact k F H u R (Same.refl _) du
    · cases e
  · cases e⟩
theorem bt_min : bootBuiltins "min" = some (.builtin "min") := by decide +kernel
theorem bt_max : bootBuiltins "max" = some (.builtin "max") := by decide +kernel
variable {a : Expr} {p pos : Pos}
theorem c_min {f : Rho → Option (List D)} (B : Bi X.mg) (hu : Rm X) (h : XAF X [a] f) (hc : X.calm = true := by rfl) (hg : Gl X "min" := by rfl) (he : starEach [a] X.env = (false, eval a X.env) :: starEach [] X.env := by rfl) : EF X (.Call (.Name "min" p) [a] [] pos) (aOf gMin f) := EW.f (ew_callB (cg_pick (cr_minP hc hu)) h hg B.min bt_min (he := he) (hpl := rfl))
theorem c_max {f : Rho → Option (List D)} (B : Bi X.mg) (hu : Rm X) (h : XAF X [a] f) (hc : X.calm = true := by rfl) (hg : Gl X "max" := by rfl) (he : starEach [a] X.env = (false, eval a X.env) :: starEach [] X.env := by rfl) : EF X (.Call (.Name "max" p) [a] [] pos) (aOf gMax f) := EW.f (ew_callB (cg_pick (cr_maxP hc hu)) h hg B.max bt_max (he := he) (hpl := rfl))
end
end L2.P

set_option Elab.async false
set_option linter.all false
set_option maxRecDepth 100000
set_option maxHeartbeats 4000000
/-! PL20: webs in plain Lean: pairs, peaks; what is alike. -/
namespace L2.P
open PySem PySem.Spec PyProof.Rows L2
/-- pairs of friends, the shorter first -/
def prs (w : List (List Int)) : List (Int × Int) := (upI w.length).flatMap fun i => ((fr w i).filter fun k => decide (i < k)).map fun k => (i, k)
theorem flatMap_len {α β : Type} (f : α → List β) (m : Nat) : ∀ xs : List α, (∀ x ∈ xs, (f x).length ≤ m) → (xs.flatMap f).length ≤ xs.length * m
  | [], _ => by simp
  | x :: xs, h => by
    rw [List.flatMap_cons, List.length_append, List.length_cons, Nat.succ_mul]
    have := flatMap_len f m xs fun y hy => h y (List.mem_cons_of_mem _ hy)
    have := h x List.mem_cons_self
    omega
theorem prs_len {w : List (List Int)} (h : Web w) : (prs w).length ≤ 49 := by
  have := flatMap_len (fun i => ((fr w i).filter fun k => decide (i < k)).map fun k => (i, k)) 7 (upI w.length) (fun i hi => by
    obtain ⟨h0, h1⟩ := mem_upI.mp hi
    have a := h.frlen h0 h1
    have b := List.length_filter_le (fun k => decide (i < k)) (fr w i)
    have c := h.le
    rw [List.length_map]; omega)
  rw [upI_length] at this
  have c := h.le
  have : w.length * 7 ≤ 7 * 7 := Nat.mul_le_mul_right 7 c
  unfold prs
  omega
theorem mem_prs {w : List (List Int)} {e : Int × Int} : e ∈ prs w ↔ (0 ≤ e.1 ∧ e.1 < w.length) ∧ e.2 ∈ fr w e.1 ∧ e.1 < e.2 := by
  unfold prs
  rw [List.mem_flatMap]
  constructor
  · rintro ⟨i, hi, hm⟩
    obtain ⟨k, hk, rfl⟩ := List.mem_map.mp hm
    rw [List.mem_filter] at hk
    exact ⟨mem_upI.mp hi, hk.1, of_decide_eq_true hk.2⟩
  · rintro ⟨h1, h2, h3⟩
    exact ⟨e.1, mem_upI.mpr h1, List.mem_map.mpr ⟨e.2, List.mem_filter.mpr ⟨h2, decide_eq_true h3⟩, rfl⟩⟩
theorem prs_map (w : List (List Int)) : (prs w).map edgeD = (upI w.length).flatMap fun i => ((fr w i).filter fun k => decide (i < k)).map fun k => edgeD (i, k) := by
  unfold prs
  rw [List.map_flatMap]
  congr 1
  funext i
  rw [List.map_map]; rfl
/-- who of st has a friend in st that q tells -/
def has (w : List (List Int)) (st : List Int) (q : Int → Int → Bool) (x : Int) : Bool := (fr w x).any fun k => q x k && decide (k ∈ st)
theorem tupRg_upI {n : Nat} (h : n ≤ 1000) {f : Rho → Option (Int × Int)} {ρ : Rho} (e : f ρ = some (0, (n : Int))) : vTupRg f ρ = some (tR (upI n)) := by
  unfold vTupRg
  have hr : RgB (0, (n : Int)) = true := by unfold RgB; simp; omega
  rw [e, Option.bind_some, if_pos hr]
  show some (PyData.tuple (rngD 0 ((n : Int) - 0).toNat)) = _
  rw [Int.sub_zero, Int.toNat_natCast, rngD_upI]
theorem ixE0 (e : Int × Int) : dIx (edgeD e) (.int 0) = some (.int e.1) := rfl
theorem ixE1 (e : Int × Int) : dIx (edgeD e) (.int 1) = some (.int e.2) := rfl
def both (st : List Int) (e : Int × Int) : Bool := decide (e.1 ∈ st) && decide (e.2 ∈ st)
/-- plain data of a depth -/
inductive Al : Nat → D → Prop
  | int {n : Nat} (a : Int) : Al (n + 1) (.int a)
  | bool {n : Nat} (a : Bool) : Al (n + 1) (.bool a)
  | none {n : Nat} : Al (n + 1) .none
  | tup {n : Nat} {xs : List D} : xs.length ≤ 1000000 → (∀ x ∈ xs, Al n x) → Al (n + 1) (.tuple xs)
  | lst {n : Nat} {xs : List D} : xs.length ≤ 1000000 → (∀ x ∈ xs, Al n x) → Al (n + 1) (.list xs)
theorem al_R {n : Nat} (r : List Int) (h : r.length ≤ 1000000) : Al (n + 2) (tR r) := .tup (by rw [List.length_map]; exact h) fun x hx => by
  obtain ⟨a, _, rfl⟩ := List.mem_map.mp hx
  exact .int a
theorem al_E {n : Nat} (es : List (Int × Int)) (h : es.length ≤ 1000000) : Al (n + 3) (.tuple (es.map edgeD)) := .tup (by rw [List.length_map]; exact h) fun x hx => by
  obtain ⟨a, _, rfl⟩ := List.mem_map.mp hx
  refine .tup (by simp) fun y hy => ?_
  rcases List.mem_cons.mp hy with rfl | hy
  · exact .int _
  · rcases List.mem_cons.mp hy with rfl | hy
    · exact .int _
    · cases hy
theorem mem_close {w : List (List Int)} {st : List Int} {e : Int × Int} (hs : Ppl w.length st) : e ∈ (prs w).filter (both st) ↔ e.1 ∈ st ∧ e.2 ∈ st ∧ e.2 ∈ fr w e.1 ∧ e.1 < e.2 := by
  rw [List.mem_filter, mem_prs]
  unfold both
  rw [Bool.and_eq_true, decide_eq_true_eq, decide_eq_true_eq]
  constructor
  · rintro ⟨⟨_, a, b⟩, c, d⟩; exact ⟨c, d, a, b⟩
  · rintro ⟨c, d, a, b⟩; exact ⟨⟨hs.inn _ c, a, b⟩, c, d⟩
theorem end_eq {w : List (List Int)} {st : List Int} (h : Web w) (hs : Ppl w.length st) : (!(st.flatMap fun x => st.map fun y => decide (y ∈ fr w x)).any id) = decide ((prs w).filter (both st) = []) := by
  rw [Bool.eq_iff_iff, Bool.not_eq_true', decide_eq_true_eq, List.any_eq_false]
  constructor
  · intro q
    rw [List.eq_nil_iff_forall_not_mem]
    intro e he
    obtain ⟨a, b, c, d⟩ := (mem_close hs).mp he
    exact q _ (List.mem_flatMap.mpr ⟨e.1, a, List.mem_map.mpr ⟨e.2, b, rfl⟩⟩) (by simpa using c)
  · intro q b hb hb2
    obtain ⟨x, hx, hm⟩ := List.mem_flatMap.mp hb
    obtain ⟨y, hy, rfl⟩ := List.mem_map.mp hm
    have hf : y ∈ fr w x := by simpa using hb2
    obtain ⟨h0, h1⟩ := hs.inn x hx
    have ne := (h.inn x y h0 h1 hf).2.2
    have no : ∀ e, e ∉ (prs w).filter (both st) := List.eq_nil_iff_forall_not_mem.mp q
    by_cases c : x < y
    · exact no (x, y) ((mem_close hs).mpr ⟨hx, hy, hf, c⟩)
    · exact no (y, x) ((mem_close hs).mpr ⟨hy, hx, h.sym x y h0 h1 hf, by simp only; omega⟩)
theorem peaks_eq {w : List (List Int)} {st : List Int} (h : Web w) (hs : Ppl w.length st) : (st.filter fun x => !has w st (fun x k => decide (x < k)) x) = st.filter fun x => !decide (x ∈ ((prs w).filter (both st)).map Prod.fst) := by
  apply List.filter_congr
  intro x hx
  congr 1
  unfold has
  rw [Bool.eq_iff_iff, List.any_eq_true, decide_eq_true_eq, List.mem_map]
  constructor
  · rintro ⟨k, hk, q⟩
    rw [Bool.and_eq_true, decide_eq_true_eq, decide_eq_true_eq] at q
    exact ⟨(x, k), (mem_close hs).mpr ⟨hx, q.2, hk, q.1⟩, rfl⟩
  · rintro ⟨e, he, rfl⟩
    obtain ⟨a, b, c, d⟩ := (mem_close hs).mp he
    exact ⟨e.2, c, by rw [Bool.and_eq_true, decide_eq_true_eq, decide_eq_true_eq]; exact ⟨d, b⟩⟩
theorem lows_eq {w : List (List Int)} {st : List Int} (h : Web w) (hs : Ppl w.length st) : (st.filter fun x => !has w st (fun x k => decide (k < x)) x) = st.filter fun x => !decide (x ∈ ((prs w).filter (both st)).map Prod.snd) := by
  apply List.filter_congr
  intro x hx
  congr 1
  unfold has
  rw [Bool.eq_iff_iff, List.any_eq_true, decide_eq_true_eq, List.mem_map]
  obtain ⟨h0, h1⟩ := hs.inn x hx
  constructor
  · rintro ⟨k, hk, q⟩
    rw [Bool.and_eq_true, decide_eq_true_eq, decide_eq_true_eq] at q
    exact ⟨(k, x), (mem_close hs).mpr ⟨q.2, hx, h.sym x k h0 h1 hk, q.1⟩, rfl⟩
  · rintro ⟨e, he, rfl⟩
    obtain ⟨a, b, c, d⟩ := (mem_close hs).mp he
    obtain ⟨g0, g1⟩ := hs.inn e.1 a
    exact ⟨e.1, h.sym e.1 e.2 g0 g1 c, by rw [Bool.and_eq_true, decide_eq_true_eq, decide_eq_true_eq]; exact ⟨d, a⟩⟩
end L2.P

set_option Elab.async false
set_option linter.all false
set_option maxRecDepth 100000
set_option maxHeartbeats 4000000
/-! PL21: loops with what they keep; calls and stories in plain Lean. -/
namespace L2.P
open PySem PySem.Spec PyProof.Rows L2
section
variable {f g : Rho → Option Fl} {u : Rho → Option (List D)} {tg : Tg} {ρ : Rho} {K : Fl → Prop}
theorem forF_inv {α S : Type} {enc : α → D} (st : S → Rho) (xs : List α) (J : Nat → S → Prop) (K : Fl → Prop) (k : ∀ s, J xs.length s → K (.nx (st s))) : ∀ (ys : List α) (i : Nat) (s : S), xs.drop i = ys → i ≤ xs.length → J i s →
    (∀ (i : Nat) (s : S) (x : α), xs[i]? = some x → J i s → ∃ ρ', tg (enc x) (st s) = some ρ' ∧ fW f ρ' fun fl => (∃ s', fl = .nx (st s') ∧ J (i + 1) s') ∨ ∃ v, fl = .rt v ∧ K (.rt v)) → ∃ fl, forF tg f (ys.map enc) (st s) = some fl ∧ K fl
  | [], i, s, e, hi, hJ, _ => by
    have : i = xs.length := by
      have := congrArg List.length e
      rw [List.length_drop] at this
      simp at this; omega
    subst this
    exact ⟨_, rfl, k s hJ⟩
  | y :: ys, i, s, e, hi, hJ, h => by
    have hlt : i < xs.length := by
      have := congrArg List.length e
      rw [List.length_drop, List.length_cons] at this
      omega
    have hx : xs[i]? = some y := by
      rw [List.drop_eq_getElem_cons hlt] at e
      rw [List.getElem?_eq_getElem hlt]
      exact congrArg some (List.cons.inj e).1
    have hd : xs.drop (i + 1) = ys := by
      rw [List.drop_eq_getElem_cons hlt] at e
      exact (List.cons.inj e).2
    obtain ⟨ρ', h1, fl, h2, h3⟩ := h i s y hx hJ
    rw [List.map_cons, forF, h1, Option.bind_some, h2]
    rcases h3 with ⟨s', rfl, h4⟩ | ⟨v, rfl, h4⟩
    · exact forF_inv st xs J K k ys (i + 1) s' hd hlt h4 h
    · exact ⟨_, rfl, h4⟩
/-- a loop that keeps J, and may return -/
theorem s_invr {α S : Type} (st : S → Rho) (xs : List α) (enc : α → D) (J : Nat → S → Prop) (s0 : S) (hu : u ρ = some (xs.map enc)) (hρ : ρ = st s0) (h0 : J 0 s0)
    (h : ∀ (i : Nat) (s : S) (x : α), xs[i]? = some x → J i s → ∃ ρ', tg (enc x) (st s) = some ρ' ∧ fW f ρ' fun fl => (∃ s', fl = .nx (st s') ∧ J (i + 1) s') ∨ ∃ v, fl = .rt v ∧ K (.rt v)) (k : ∀ s, J xs.length s → K (.nx (st s))) : fW (sFor tg u f) ρ K := by
  subst hρ
  obtain ⟨fl, e, q⟩ := forF_inv (tg := tg) (f := f) (enc := enc) st xs J K k xs 0 s0 rfl (Nat.zero_le _) h0 h
  exact ⟨fl, by rw [e_sFor, hu, Option.bind_some, e], q⟩
theorem s_inv {α S : Type} (st : S → Rho) (xs : List α) (enc : α → D) (J : Nat → S → Prop) (s0 : S) (hu : u ρ = some (xs.map enc)) (hρ : ρ = st s0) (h0 : J 0 s0)
    (h : ∀ (i : Nat) (s : S) (x : α), xs[i]? = some x → J i s → ∃ ρ', tg (enc x) (st s) = some ρ' ∧ fW f ρ' fun fl => ∃ s', fl = .nx (st s') ∧ J (i + 1) s') (k : ∀ s, J xs.length s → K (.nx (st s))) : fW (sFor tg u f) ρ K :=
  s_invr st xs enc J s0 hu hρ h0 (fun i s x hx hJ => by
    obtain ⟨ρ', h1, fl, h2, h3⟩ := h i s x hx hJ
    exact ⟨ρ', h1, fl, h2, .inl h3⟩) k
theorem q_inv {α S : Type} (st : S → Rho) (xs : List α) (enc : α → D) (J : Nat → S → Prop) (s0 : S) (hu : u ρ = some (xs.map enc)) (hρ : ρ = st s0) (h0 : J 0 s0)
    (h : ∀ (i : Nat) (s : S) (x : α), xs[i]? = some x → J i s → ∃ ρ', tg (enc x) (st s) = some ρ' ∧ fW f ρ' fun fl => ∃ s', fl = .nx (st s') ∧ J (i + 1) s') (k : ∀ s, J xs.length s → fW g (st s) K) : fW (sSeq (sFor tg u f) g) ρ K := s_seq (s_inv st xs enc J s0 hu hρ h0 h k)
theorem q_invr {α S : Type} (st : S → Rho) (xs : List α) (enc : α → D) (J : Nat → S → Prop) (s0 : S) (hu : u ρ = some (xs.map enc)) (hρ : ρ = st s0) (h0 : J 0 s0)
    (h : ∀ (i : Nat) (s : S) (x : α), xs[i]? = some x → J i s → ∃ ρ', tg (enc x) (st s) = some ρ' ∧ fW f ρ' fun fl => (∃ s', fl = .nx (st s') ∧ J (i + 1) s') ∨ ∃ v, fl = .rt v ∧ K (.rt v)) (k : ∀ s, J xs.length s → fW g (st s) K) : fW (sSeq (sFor tg u f) g) ρ K := s_seq (s_invr st xs enc J s0 hu hρ h0 h k)
end
/-- a comprehension whose items are drawn -/
theorem lcV_all {α β : Type} {enc : α → D} {en : β → D} {is : List Nat} {g : Tg} {T : TB} {El : TW} {ρ : Rho} {K : List D → Prop} (P : β → Prop) : ∀ (xs : List α) (acc : List D),
    (∀ x ∈ xs, ∃ ρ', g (enc x) (wipeR ρ is) = some ρ' ∧ (∀ K' : Bool → Prop, K' true → T ρ' K') ∧ ∀ K' : D → Prop, (∀ y, P y → K' (en y)) → El ρ' K') → (∀ ys : List β, ys.length = xs.length → (∀ y ∈ ys, P y) → K (acc ++ ys.map en)) → lcV is g T El ρ (xs.map enc) acc K
  | [], acc, _, k => by
    have := k [] rfl (fun y h => by cases h)
    rw [List.map_nil, List.append_nil] at this
    exact this
  | x :: xs, acc, h, k => by
    obtain ⟨ρ', h1, h2, h3⟩ := h x List.mem_cons_self
    refine ⟨ρ', h1, h2 _ ?_⟩
    rw [if_pos rfl]
    refine h3 _ fun y hy => lcV_all P xs _ (fun z hz => h z (List.mem_cons_of_mem _ hz)) fun ys hl hys => ?_
    have := k (y :: ys) (by rw [List.length_cons, List.length_cons, hl]) (fun z hz => by
      rcases List.mem_cons.mp hz with rfl | hz
      · exact hy
      · exact hys z hz)
    rw [List.append_assoc]
    exact this
@[simp] theorem e_putsC (ρ : Rho) (i : Nat) (is : List Nat) (p : Pv) (ps : List Pv) : putsR ρ (i :: is) (p :: ps) = putsR (ρ.set i p.sl) is ps := rfl
@[simp] theorem e_putsN (ρ : Rho) (ps : List Pv) : putsR ρ [] ps = ρ := by cases ps <;> rfl
@[simp] theorem e_slF (p : D) : (Pv.f p).sl = .v p := rfl
@[simp] theorem e_slO (p : List D) : (Pv.o p).sl = .ol p := rfl
/-- a slot that owns nothing -/
def nv : Option D → Sl
  | none => .no
  | some p => .v p
@[simp] theorem e_nvS (p : D) : nv (some p) = .v p := rfl
@[simp] theorem e_nvN : nv none = .no := rfl
@[simp] theorem e_fEnum (f : Rho → Option D) (ρ : Rho) : fEnum f ρ = (f ρ).bind fun p => (items p).map enumD := rfl
@[simp] theorem e_vNeg (f : Rho → Option D) (ρ : Rho) : vNeg f ρ = (f ρ).bind dNeg := rfl
@[simp] theorem e_dNeg (i : Int) : dNeg (.int i) = some (.int (-i)) := rfl
theorem ix_last {α : Type} (enc : α → D) (xs : List α) (x : α) : dIx (.list ((xs ++ [x]).map enc)) (.int (-1)) = some (enc x) := by
  show atI _ (-1) = _
  have hl : ((xs ++ [x]).map enc).length = xs.length + 1 := by simp
  unfold atI ixN
  rw [hl]
  have hc : (1 : Int) ≤ (xs.length : Int) + 1 := by omega
  have e : (-1 + ((xs.length : Int) + 1)).toNat = xs.length := by omega
  simp [hc, e]
theorem ix_rangeL (f : Nat → D) (m : Nat) (i : Int) (h0 : 0 ≤ i) (h1 : i < m) : dIx (.list ((List.range m).map f)) (.int i) = some (f i.toNat) := by
  show atI _ i = _
  have e : ((i.toNat : Nat) : Int) = i := by omega
  have z := atI_nat (xs := (List.range m).map f) (j := i.toNat) (v := f i.toNat) (by rw [List.getElem?_map, List.getElem?_range (by omega)]; rfl)
  rw [e] at z
  exact z
theorem ix_ints {cs : List Int} {i : Int} (h0 : 0 ≤ i) (h1 : i < cs.length) : dIx (tR cs) (.int i) = some (.int (cs.getD i.toNat 0)) := by
  show atI _ i = _
  have hi : i.toNat < cs.length := by omega
  have e : ((i.toNat : Nat) : Int) = i := by omega
  have z := atI_nat (xs := cs.map PyData.int) (j := i.toNat) (v := .int (cs.getD i.toNat 0)) (by rw [List.getElem?_map, List.getElem?_eq_getElem hi, List.getD_eq_getElem?_getD, List.getElem?_eq_getElem hi]; rfl)
  rw [e] at z
  exact z
theorem enum_ints (cs : List Int) : enumD (cs.map PyData.int) = (upI cs.length).map fun i => .tuple [.int i, .int (cs.getD i.toNat 0)] := by
  unfold enumD upI
  rw [List.length_map, List.map_map]
  apply List.map_congr_left
  intro i hi
  rw [List.mem_range] at hi
  have e : (cs.map PyData.int).getD i .none = .int (cs.getD i 0) := by
    rw [List.getD_eq_getElem?_getD, List.getElem?_map, List.getD_eq_getElem?_getD, List.getElem?_eq_getElem hi]
    rfl
  show PyData.tuple [.int (i : Nat), _] = _
  rw [e]
  simp
theorem upI_get {n i : Nat} {x : Int} (h : (upI n)[i]? = some x) : x = (i : Int) ∧ i < n := by
  unfold upI at h
  rw [List.getElem?_map] at h
  obtain ⟨k, hk, rfl⟩ := Option.map_eq_some_iff.mp h
  have := List.getElem?_eq_some_iff.mp hk
  obtain ⟨hl, e⟩ := this
  rw [List.length_range] at hl
  rw [List.getElem_range] at e
  exact ⟨by omega, hl⟩
theorem upI_take {n i : Nat} (h : i ≤ n) : (upI n).take i = upI i := by
  unfold upI
  rw [← List.map_take]
  congr 1
  rw [List.take_range, Nat.min_eq_left h]
/-! ### calls -/
/-- people of a web -/
def Row (n : Nat) (cs : List Int) : Prop := ∀ c ∈ cs, 0 ≤ c ∧ c < (n : Int)
/-- p calls -/
def callM (w : List (List Int)) (st : List Int) (p : Int) : List Int := if p ∈ st then st.filter fun o => decide (p ≤ o) || !decide (o ∈ fr w p) else st
theorem callM_sub (w : List (List Int)) (st : List Int) (p : Int) : (callM w st p).Sublist st := by
  unfold callM
  split
  · exact List.filter_sublist
  · exact List.Sublist.refl _
theorem callM_ppl {w : List (List Int)} {st : List Int} {p : Int} {n : Nat} (h : Ppl n st) : Ppl n (callM w st p) := ⟨h.up.sublist (callM_sub w st p), fun k hk => h.inn k ((callM_sub w st p).subset hk)⟩
/-- who stands behind i calls -/
def stAt (w : List (List Int)) (st cs : List Int) (i : Nat) : List Int := (cs.take i).foldl (callM w) st
theorem fold_ppl {w : List (List Int)} {n : Nat} : ∀ (cs st : List Int), Ppl n st → Ppl n (cs.foldl (callM w) st)
  | [], _, h => h
  | c :: cs, st, h => fold_ppl cs (callM w st c) (callM_ppl h)
theorem stAt_ppl {w : List (List Int)} {n : Nat} {st cs : List Int} {i : Nat} (h : Ppl n st) : Ppl n (stAt w st cs i) := fold_ppl _ _ h
theorem stAt_succ {w : List (List Int)} {st cs : List Int} {i : Nat} {c : Int} (h : cs[i]? = some c) : stAt w st cs (i + 1) = callM w (stAt w st cs i) c := by
  unfold stAt
  rw [List.take_add_one, h]
  simp
/-- the story -/
def stories (w : List (List Int)) (st cs : List Int) (m : Nat) : List D := (List.range m).map fun i => tR (stAt w st cs i)
theorem stories_succ (w : List (List Int)) (st cs : List Int) (m : Nat) : stories w st cs (m + 1) = stories w st cs m ++ [tR (stAt w st cs m)] := by
  unfold stories
  rw [List.range_succ, List.map_append]; rfl
theorem stories_len (w : List (List Int)) (st cs : List Int) (m : Nat) : (stories w st cs m).length = m := by unfold stories; simp
theorem ix_stories (w : List (List Int)) (st cs : List Int) {m : Nat} {i : Int} (h0 : 0 ≤ i) (h1 : i < m) : dIx (.list (stories w st cs m)) (.int i) = some (tR (stAt w st cs i.toNat)) := ix_rangeL _ m i h0 h1
theorem ix_storiesL (w : List (List Int)) (st cs : List Int) (m : Nat) : dIx (.list (stories w st cs (m + 1))) (.int (-1)) = some (tR (stAt w st cs m)) := by
  have := ix_last (fun i => tR (stAt w st cs i)) (List.range m) m
  rw [← List.range_succ] at this
  exact this
theorem enum_stories (w : List (List Int)) (st cs : List Int) (m : Nat) : enumD (stories w st cs m) = (upI m).map fun i => .tuple [.int i, tR (stAt w st cs i.toNat)] := by
  unfold enumD upI
  rw [stories_len, List.map_map]
  apply List.map_congr_left
  intro i hi
  rw [List.mem_range] at hi
  have e : (stories w st cs m).getD i .none = tR (stAt w st cs i) := by
    unfold stories
    rw [List.getD_eq_getElem?_getD, List.getElem?_map, List.getElem?_range hi]
    rfl
  show PyData.tuple [.int (i : Nat), _] = _
  rw [e]
  simp
def moversM (w : List (List Int)) (st : List Int) : List Int := st.filter fun p => has w st (fun x k => decide (k < x)) p
/-- who makes somebody sit -/
theorem movers_iff {w : List (List Int)} {st : List Int} {p : Int} (hp : p ∈ st) : callM w st p ≠ st ↔ has w st (fun x k => decide (k < x)) p = true := by
  unfold callM has
  rw [if_pos hp, List.any_eq_true]
  constructor
  · intro h
    apply Classical.byContradiction
    intro q
    apply h
    rw [List.filter_eq_self]
    intro o ho
    rw [Bool.or_eq_true, decide_eq_true_eq, Bool.not_eq_true', decide_eq_false_iff_not]
    by_cases c : p ≤ o
    · exact .inl c
    · refine .inr fun hf => q ⟨o, hf, ?_⟩
      rw [Bool.and_eq_true, decide_eq_true_eq, decide_eq_true_eq]
      exact ⟨by omega, ho⟩
  · rintro ⟨k, hk, q⟩ e
    rw [Bool.and_eq_true, decide_eq_true_eq, decide_eq_true_eq] at q
    rw [List.filter_eq_self] at e
    have := e k q.2
    rw [Bool.or_eq_true, decide_eq_true_eq, Bool.not_eq_true', decide_eq_false_iff_not] at this
    rcases this with c | c
    · omega
    · exact c hk
/-! ### the least of pairs -/
theorem okM_edges (es : List (Int × Int)) : okM (es.map edgeD) = true := by
  unfold okM
  rw [Bool.and_eq_true, List.all_eq_true]
  refine ⟨fun x hx => ?_, encEdge.oks es⟩
  obtain ⟨e, _, rfl⟩ := List.mem_map.mp hx
  rw [Bool.and_eq_true, List.all_eq_true]
  refine ⟨rfl, fun y hy => ?_⟩
  obtain ⟨e', _, rfl⟩ := List.mem_map.mp hy
  simp [edgeD, PySem.W.alike, PySem.W.alikeAll]
theorem min_edges {es : List (Int × Int)} (h : es ≠ []) : ∃ e ∈ es, gMin [.list (es.map edgeD)] = some (edgeD e) := by
  cases es with
  | nil => exact absurd rfl h
  | cons e es =>
    have m := minD_mem (edgeD e) (es.map edgeD)
    rw [← List.map_cons] at m
    obtain ⟨e', h1, h2⟩ := List.mem_map.mp m
    refine ⟨e', h1, ?_⟩
    show (if okM _ = true then some (PySem.W.minD _ _) else none) = _
    have ok := okM_edges (e :: es)
    rw [List.map_cons] at ok
    rw [if_pos ok, h2]
end L2.P
namespace L2.P
open PySem PySem.Spec PyProof.Rows L2
theorem rng_of {A : Rho → Option D} {ρ : Rho} {z : Int} {r : List D} (h1 : A ρ = some (.int z)) (h2 : gRng1 [.int z] = some r) : (aOf gRng1 (aCons A aNil)) ρ = some r := by simp [h1, h2]
theorem len_lst {A : Rho → Option D} {ρ : Rho} {xs : List D} {n : Nat} (h : A ρ = some (.list xs)) (hl : xs.length = n) : (aOf gLen (aCons A aNil)) ρ = some (.int (n : Int)) := by subst hl; simp [h]
theorem len_tup {A : Rho → Option D} {ρ : Rho} {xs : List D} {n : Nat} (h : A ρ = some (.tuple xs)) (hl : xs.length = n) : (aOf gLen (aCons A aNil)) ρ = some (.int (n : Int)) := by subst hl; simp [h]
/-- range(len(x)) -/
theorem rng_lst {A : Rho → Option D} {ρ : Rho} {xs : List D} {n : Nat} (h : A ρ = some (.list xs)) (hl : xs.length = n) (hn : n ≤ 16777216) : (aOf gRng1 (aCons (aOf gLen (aCons A aNil)) aNil)) ρ = some ((upI n).map .int) := rng_of (len_lst h hl) (gRng1_upI n hn)
theorem rng_tup {A : Rho → Option D} {ρ : Rho} {xs : List D} {n : Nat} (h : A ρ = some (.tuple xs)) (hl : xs.length = n) (hn : n ≤ 16777216) : (aOf gRng1 (aCons (aOf gLen (aCons A aNil)) aNil)) ρ = some ((upI n).map .int) := rng_of (len_tup h hl) (gRng1_upI n hn)
end L2.P

set_option Elab.async false
set_option linter.all false
set_option maxRecDepth 100000
set_option maxHeartbeats 4000000
/-! PL22: x[::-1]; x.pop(i) of a list of this def's own. -/
namespace L2.P
open PySem PySem.Spec PyProof.Rows L2
section
variable {prog : Program} {w : World} {A : Around} {E : Value → Shared → Prop} {s : Shared}
theorem fm_map {α β : Type} (f : α → Option β) (g : α → β) : ∀ l : List α, (∀ m ∈ l, f m = some (g m)) → l.filterMap f = l.map g
  | [], _ => rfl
  | x :: xs, h => by rw [List.filterMap_cons, h x List.mem_cons_self, List.map_cons, fm_map f g xs fun m hm => h m (List.mem_cons_of_mem _ hm)]
theorem pick_rev (xs : Array Value) : ((List.range xs.size).filterMap fun (m : Nat) => xs[(((xs.size : Int) - 1) + (m : Int) * (-1)).toNat]?).toArray = xs.toList.reverse.toArray := by
  congr 1
  apply List.ext_getElem?
  intro i
  have e : ((List.range xs.size).filterMap fun (m : Nat) => xs[(((xs.size : Int) - 1) + (m : Int) * (-1)).toNat]?) = (List.range xs.size).map fun m => xs.toList.reverse.getD m .none := by
    refine fm_map _ _ _ fun m hm => ?_
    rw [List.mem_range] at hm
    have e1 : (((xs.size : Int) - 1) + (m : Int) * (-1)).toNat = xs.size - 1 - m := by omega
    rw [e1]
    show _ = some _
    rw [List.getD_eq_getElem?_getD, List.getElem?_reverse (by simpa using hm)]
    rw [Array.length_toList, Array.getElem?_toList, Array.getElem?_eq_getElem (by omega)]
    rfl
  rw [e, List.getElem?_map]
  by_cases h : i < xs.size
  · rw [List.getElem?_range h]
    show some (xs.toList.reverse.getD i .none) = _
    rw [List.getD_eq_getElem?_getD, List.getElem?_eq_getElem (by simpa using h)]
    rfl
  · rw [List.getElem?_eq_none (by simpa using h), List.getElem?_eq_none (by simpa using h)]
    rfl
theorem sliceApplied_rev {sl : Addr} {vs : Value} {n : Nat} {Q : Int × Int × Nat → Shared → Prop} (hs : s.heap.IsSliceOf sl .none .none vs) (ps : IsPart vs (some (-1)))
    (h : Q (((n : Int) - 1), -1, n) s) : wpAny (model prog w) A (Builtin.Slice.sliceApplied (.ref sl) (pure (n : Int))) Q E s := by
  obtain ⟨os, hos, hcs, hds⟩ := id hs
  unfold Builtin.Slice.sliceApplied Builtin.Slice.sliceFields
  refine wpAny_bind (wpAny_bind (wpAny_field hos hds (x := .none) rfl (wpAny_bind (wpAny_field hos hds (x := .none) rfl (wpAny_bind (wpAny_field hos hds (x := vs) rfl (wpAny_pure ?_)))))))
  refine wpAny_bind (HT.slicePart_ ps ?_)
  show wpAny _ _ (if ((-1 : Int) == 0) = true then _ else _) _ _ s
  rw [if_neg (by decide)]
  refine wpAny_bind (slicePart_none (wpAny_bind (slicePart_none (wpAny_bind (wpAny_pure ?_)))))
  have e1 : Builtin.Slice.sliceAdjust none none (-1) (n : Int) = ((n : Int) - 1, -1) := by
    unfold Builtin.Slice.sliceAdjust
    simp
  have e2 : Builtin.Slice.slicePlaces ((n : Int) - 1) (-1) (-1) = n := by
    unfold Builtin.Slice.slicePlaces
    simp
    split <;> omega
  show wpAny _ _ (match Builtin.Slice.sliceAdjust none none (-1) (n : Int) with | (lo, hi) => pure (lo, (-1 : Int), Builtin.Slice.slicePlaces lo hi (-1))) _ _ s
  rw [e1]
  show wpAny _ _ (pure ((n : Int) - 1, (-1 : Int), Builtin.Slice.slicePlaces ((n : Int) - 1) (-1) (-1))) _ _ s
  rw [e2]
  exact wpAny_pure h
theorem getItem_tuple_rev {t sl : Addr} {items : Array Value} {vs : Value} {Q : Value → Shared → Prop} (ht : IsTup s.heap t items) (hs : s.heap.IsSliceOf sl .none .none vs) (ps : IsPart vs (some (-1)))
    (h : Q (.ref s.heap.objs.size) { s with heap := s.heap.push { cls := .type "tuple", data := .seq items.toList.reverse.toArray } })
    (hsz : items.size ≤ sizeLine) : wpAny (model prog w) A (getItem (.ref t) (.ref sl)) Q E s := by
  have htake : sizeOk (.seq items.toList.reverse.toArray) := by
    show items.toList.reverse.toArray.size ≤ sizeLine
    rw [List.size_toArray, List.length_reverse, Array.length_toList]
    exact hsz
  obtain ⟨os, hos, hcs, hds⟩ := id hs
  have hTs : s.TypeIs (.ref sl) "slice" := ⟨os, hos, hcs⟩
  unfold getItem
  try with_reducible refine wpAny_holding ?_
  first | refine wpAny_bind (wpAny_pure ?_) | skip
  refine wpAny_bind (wpAny_sequenceKey ht.typeIs (by decide) ?_)
  refine wpAny_bind (wpAny_callSpecial?_slot (name := Str.ofString "__getitem__") ht.typeIs PyProof.Rows.slot_tuple_getitem
    (wpAny_call_entry PyProof.Rows.slot_tuple_getitem ht.typeIs entry_tuple_getitem ?_ (args_tuple_getitem _ _)))
  show wpAny _ _ (Builtin.Tuple.tupleItemsOf (.ref t) >>= _) _ _ s
  refine wpAny_bind (tupleItemsOf_ ht ?_)
  refine wpAny_bind (wpAny_typeOf hTs ?_)
  rw [if_pos (by decide)]
  refine wpAny_bind (sliceApplied_rev hs ps ?_)
  have hno : ¬ ((((items.size : Int) - 1) == 0 && (-1 : Int) == 1 && items.size == items.size) = true) := by
    intro q
    rw [Bool.and_eq_true, Bool.and_eq_true] at q
    exact absurd q.1.2 (by decide)
  show wpAny _ _ (if (((items.size : Int) - 1) == 0 && (-1 : Int) == 1 && items.size == items.size) = true then _ else _) _ _ s
  rw [if_neg hno, pick_rev]
  first
    | exact wpAny_bind (m := Builtin.Tuple.tupleExact _) (wpAny_newObj_type (wpAny_pure ⟨_, rfl, wpAny_pure h⟩) htake)
    | exact wpAny_bind (m := Builtin.Tuple.tupleExact _) (wpAny_newObj_type (wpAny_bind (wpAny_pure (wpAny_pure ⟨_, rfl, wpAny_pure h⟩))) htake)
    | exact wpAny_bind (wpAny_bind (m := Builtin.Tuple.tupleExact _) (wpAny_newObj_type (wpAny_pure (wpAny_pure ⟨_, rfl, wpAny_pure h⟩)) htake))
    | exact wpAny_bind (wpAny_bind (m := Builtin.Tuple.tupleExact _) (wpAny_newObj_type (wpAny_pure ⟨_, rfl, wpAny_pure h⟩) htake))
end
end L2.P
namespace L2.P
open PySem PySem.Spec PyProof.Rows L2
section
variable {X : Cx} {e : Expr} {pos : Pos}
def tRevP (K : Fg) (te : TE) : TE := fun σ H Q => te σ H fun x H1 => ∃ a xs, x = .ref a ∧ ((SqL K H1 a xs ∧ ∀ p, H1 p = none → Q (.ref p) (upd H1 p (.lst xs.reverse))) ∨ (SqT K H1 a xs ∧ ∀ p, H1 p = none → Q (.ref p) (upd H1 p (.tup xs.reverse))))
theorem pe_revP {te : TE} {k : Nat} {p1 p2 p3 pos : Pos} (he : PE X e te) : PE X (.Subscript e (.Slice none none (some (.UnaryOp .USub (.Constant (.int 1) k p1) p2)) p3) pos) (tRevP X.K te) := by
  refine ⟨fun pins s σ H Q I h => ?_⟩
  refine Subscript_ (thn (he.run pins s σ H _ I h) fun v s1 ⟨x, H1, I1, r1, q1⟩ => ?_)
  obtain ⟨a, xs, ex, q1⟩ := q1
  subst ex
  cases r1
  have hst : PO X (some (.UnaryOp .USub (.Constant (.int 1) k p1) p2)) (tPart (tUn (rU fun i => .int (-i)) (tC (.int 1)))) := po_some (pe_un un_neg pe_int)
  refine wpAny_Slice (thn (po_none.run pins s1 σ H1 (fun o H2 => o = none ∧ H2 = H1) I1 ⟨rfl, rfl⟩) fun vl s2 ⟨l, H2, I2, pl, el, e2⟩ => ?_)
  subst el e2
  refine thn (po_none.run pins s2 σ H2 (fun o H3 => o = none ∧ H3 = H2) I2 ⟨rfl, rfl⟩) fun vu s3 ⟨u, H3, I3, pu, eu, e3⟩ => ?_
  subst eu e3
  refine thn (hst.run pins s3 σ H3 (fun o H4 => o = some (-1) ∧ H4 = H3) I3 ⟨1, rfl, -1, rfl, rfl, rfl⟩) fun vs s4 ⟨o, H4, I4, ps, eo, e4⟩ => ?_
  subst eo e4
  have I5 : L2.Inv X pins σ H4 { s4 with heap := s4.heap.push { cls := .type "slice", data := .fields #[vl, vu, vs] } } := I4.kept (t' := s4.toks) fun b ob q => Heap.get?_push_of_some _ q
  show wpAny (model X.prog X.w) X.A (subscriptTail e (.Slice none none (some (.UnaryOp .USub (.Constant (.int 1) k p1) p2)) p3) (.ref a) (.ref s4.heap.objs.size)) (EP X pins σ Q) X.xe { s4 with heap := s4.heap.push { cls := .type "slice", data := .fields #[vl, vu, vs] } }
  rcases q1 with ⟨hx, q⟩ | ⟨hx, q⟩
  · obtain ⟨its, r, ht, hz⟩ := I5.list hx
    have hlen := r.length
    refine tail_any (ops := [.ref a, .ref s4.heap.objs.size]) ht.isList.typeIs (PySem.slot_list_getitem.lookup) ?_ (by with_unfolding_all rfl)
    refine wpAny_getItem_list_slice ht.isList (Heap.IsSliceOf.new _ vl vu vs) pl pu ps (by decide) ?_ (by rw [List.size_toArray]; omega)
    rw [PySem.W.krv_pick]
    refine ⟨.ref _, _, I5.laid (t' := s4.toks) (o := .lst xs.reverse) (fun b ob q => Heap.get?_push_of_some _ q) (Nat.le_refl _) ?_, rfl, q _ (I5.hok.fresh (Nat.le_refl _))⟩
    exact ⟨by rw [List.length_reverse]; exact hz, _, 0, r.reverse, Heap.get?_push_size _ rfl⟩
  · obtain ⟨its, r, ht, hz⟩ := I5.tuple hx
    have hlen := r.length
    cases pl
    cases pu
    refine tail_any (ops := [.ref a, .ref s4.heap.objs.size]) ht.typeIs PyProof.Rows.slot_tuple_getitem.lookup ?_ (by with_unfolding_all rfl)
    refine getItem_tuple_rev ht (Heap.IsSliceOf.new _ _ _ vs) ps ?_ (by rw [List.size_toArray]; omega)
    refine ⟨.ref _, _, I5.laid (t' := s4.toks) (o := .tup xs.reverse) (fun b ob q => Heap.get?_push_of_some _ q) (Nat.le_refl _) ?_, rfl, q _ (I5.hok.fresh (Nat.le_refl _))⟩
    exact ⟨by rw [List.length_reverse]; exact hz, _, r.reverse, IsTup.new _ _⟩
def dRev : D → Option D
  | .list xs => some (.list xs.reverse)
  | .tuple xs => some (.tuple xs.reverse)
  | _ => none
def vRev (f : Rho → Option D) : Rho → Option D := fun ρ => (f ρ).bind dRev
theorem dpAll_rev {K : Fg} {F : Hp} : ∀ {vs : List V} {ps : List D}, DpAll K F vs ps → DpAll K F vs.reverse ps.reverse
  | _, _, .nil => .nil
  | _, _, .cons a b => by
    rw [List.reverse_cons, List.reverse_cons]
    exact (dpAll_rev b).append (.cons a .nil)
theorem ef_rev {f : Rho → Option D} {k : Nat} {p1 p2 p3 pos : Pos} (he : XF X e f) : EF X (.Subscript e (.Slice none none (some (.UnaryOp .USub (.Constant (.int 1) k p1) p2)) p3) pos) (vRev f) :=
  ⟨fW_mono, (pe_revP he.pe).imp fun σ H Q ⟨B, F, ρ, R, z, ez, q⟩ => by
    obtain ⟨p, e1, e2⟩ := Option.bind_eq_some_iff.mp ez
    refine ⟨B, F, ρ, R, p, e1, fun F1 H1 v R1 s1 d => ?_⟩
    unfold dRev at e2
    split at e2
    · cases e2
      obtain ⟨a, ys, rfl, hs, r⟩ := pk_lst R1 d
      refine ⟨a, ys, rfl, .inl ⟨hs, fun l hl => ?_⟩⟩
      have n' := R1.sub.free hl
      exact q _ _ _ (R1.grow hl) (s1.trans (same_upd n')) (.lst (.inl (.inl upd_same)) ((dpAll_rev r).same (same_upd n')))
    · cases e2
      rename_i ps
      have dd : Dp X.K F1 v (.tuple ps) := by
        exact pk_tup d
      obtain ⟨a, ys, rfl, hs, r⟩ := Dp.inv_tup dd
      refine ⟨a, ys, rfl, .inr ⟨sqT_same R1.sub hs, fun l hl => ?_⟩⟩
      have n' := R1.sub.free hl
      exact q _ _ _ (R1.grow hl) (s1.trans (same_upd n')) (.tup upd_same ((dpAll_rev r).same (same_upd n')))
    · cases e2⟩
@[simp] theorem e_vRev (f : Rho → Option D) (ρ : Rho) : vRev f ρ = (f ρ).bind dRev := rfl
@[simp] theorem e_dRevT (xs : List D) : dRev (.tuple xs) = some (.tuple xs.reverse) := rfl
@[simp] theorem e_dRevL (xs : List D) : dRev (.list xs) = some (.list xs.reverse) := rfl
end
end L2.P

set_option Elab.async false
set_option linter.all false
set_option maxRecDepth 100000
set_option maxHeartbeats 4000000
/-! PL23: x.append(y.pop(e)), x and y lists of this def's own. -/
namespace L2.P
open PySem PySem.Spec PyProof.Rows L2
def wAppPop (i j : Nat) (T : TW) : TSt := fun ρ K => ∃ ps qs, i ≠ j ∧ ρ[i]? = some (.ol ps) ∧ ρ[j]? = some (.ol qs) ∧ T ρ fun p => ∃ (k : Nat) (y : D), p = .int (k : Int) ∧ qs[k]? = some y ∧ qs.length ≤ 1000000 ∧ ps.length < sizeLine ∧ K (.nx ((ρ.set j (.ol (qs.eraseIdx k))).set i (.ol (ps ++ [y]))))
theorem dpAll_erase {K : Fg} {F : Hp} : ∀ {vs : List V} {ps : List D} (k : Nat), DpAll K F vs ps → DpAll K F (vs.eraseIdx k) (ps.eraseIdx k)
  | _, _, _, .nil => .nil
  | _, _, 0, .cons _ t => t
  | _, _, k + 1, .cons a t => .cons a (dpAll_erase k t)
section
variable {X : Cx} {e : Expr} {pos : Pos}
theorem sw_appPop {i j : Nat} {x y : Str} {T : TW} {p1 p2 p3 p4 p5 p6 : Pos} (hN : X.N[i]? = some x) (hv : Vis X.env.scope x) (hN2 : X.N[j]? = some y) (hv2 : Vis X.env.scope y) (h : EW X e T) (hd : (x == ("__debug__" : Str)) = false := by decide) (hcd : (x == ("__classdict__" : Str)) = false := by decide) (hd2 : (y == ("__debug__" : Str)) = false := by decide) (hcd2 : (y == ("__classdict__" : Str)) = false := by decide)
    (hbase : attributeBase (.Name x p1) "append" X.env (eval (.Name x p1) X.env) = eval (.Name x p1) X.env := by rfl) (hbase2 : attributeBase (.Name y p4) "pop" X.env (eval (.Name y p4) X.env) = eval (.Name y p4) X.env := by rfl)
    (hfew : ((backTo p3 (starEach [.Call (.Attribute (.Name y p4) "pop" p5) [e] [] p6] X.env)).all (fun x => !x.1) && (backToKw p3 (keywordEach [] X.env)).all (fun x => x.1.isSome) && decide (([.Call (.Attribute (.Name y p4) "pop" p5) [e] [] p6] : List Expr).length + ([] : List Keyword).length + (if ([] : List Keyword).isEmpty then 0 else 1) < 30)) = true := by rfl)
    (hfew2 : ((backTo p6 (starEach [e] X.env)).all (fun x => !x.1) && (backToKw p6 (keywordEach [] X.env)).all (fun x => x.1.isSome) && decide (([e] : List Expr).length + ([] : List Keyword).length + (if ([] : List Keyword).isEmpty then 0 else 1) < 30)) = true := by rfl)
    (hline : (p2.endLine == p3.line) = true := by rfl) (hline2 : (p5.endLine == p6.line) = true := by rfl) (hs : starEach [.Call (.Attribute (.Name y p4) "pop" p5) [e] [] p6] X.env = (false, eval (.Call (.Attribute (.Name y p4) "pop" p5) [e] [] p6) X.env) :: starEach [] X.env := by rfl) (hss : starEach [e] X.env = (false, eval e X.env) :: starEach [] X.env := by rfl)
    (hs2 : swapsWith (.Call (.Attribute (.Name x p1) "append" p2) [.Call (.Attribute (.Name y p4) "pop" p5) [e] [] p6] [] p3) none pos.line X.env = pure false := by rfl) :
    SW X (.Expr (.Call (.Attribute (.Name x p1) "append" p2) [.Call (.Attribute (.Name y p4) "pop" p5) [e] [] p6] [] p3) pos) (wAppPop i j T) :=
  ⟨fun ρ K K' k ⟨ps, qs, e0, e1, e2, q⟩ => ⟨ps, qs, e0, e1, e2, h.mono _ _ _ (fun p ⟨n, y, a1, a2, a3, a4, z⟩ => ⟨n, y, a1, a2, a3, a4, k _ z⟩) q⟩,
    (ps_expr (pe_bm PySem.F.plainAttrs_list PySem.F.slot_list_append PySem.F.type_list_append mt_append (pe_var hN hv hd hcd) (pa_cons (pe_bm PySem.F.plainAttrs_list PySem.F.slot_list_pop PySem.F.type_list_pop mt_popAt (pe_var hN2 hv2 hd2 hcd2) (pa_cons h.pe pa_nil hss) hbase2 hfew2 hline2 hss rfl) pa_nil hs) hbase hfew hline hs rfl) hs2).imp fun En σ H ⟨B, F, ρ, R, ps, qs, ne, ei, ej, q⟩ => by
      obtain ⟨a, xs, hσ, f, h0, h1, r⟩ := R.own ei
      obtain ⟨b, ys, hσ2, f2, h02, h12, r2⟩ := R.own ej
      refine ⟨.ref a, hσ, .inl ⟨rfl, xs, .inl (.inl h1)⟩, .ref b, hσ2, .inl ⟨rfl, ys, .inl (.inl h12)⟩, B, F, ρ, R, h.mono _ _ _ (fun p ⟨k, y, ep, hk, hql, hpl, kk⟩ F' H' v R' s d => ?_) q⟩
      subst ep
      obtain rfl := Dp.inv_int d
      obtain ⟨b', ys', hσ3, f3, h03, h13, r3⟩ := R'.own ej
      rw [hσ2] at hσ3; cases hσ3
      obtain ⟨u, hu, du⟩ := r3.get hk
      have hkl : k < ys'.length := (List.getElem?_eq_some_iff.mp hu).1
      have hyl := r3.length
      refine ⟨b, ys', (k : Int), k, u, rfl, rfl, h13, by omega, by omega, ?_, hu, ?_⟩
      · unfold seqIndex?
        simp
        omega
      · have R2 := R'.setO ej hσ2 h13 (dpAll_erase k r3)
        have ei2 : (ρ.set j (.ol (qs.eraseIdx k)))[i]? = some (.ol ps) := by rw [List.getElem?_set_ne (fun z => ne z.symm)]; exact ei
        obtain ⟨a', xs', hσ4, f4, h04, h14, r4⟩ := R2.own ei2
        rw [hσ] at hσ4; cases hσ4
        have hl := r4.length
        exact ⟨a, xs', u, rfl, rfl, h14, by rw [hl]; exact hpl, kk F' _ σ (R2.setO ei2 hσ h14 (r4.append (.cons du .nil))) s⟩⟩
end
end L2.P
namespace L2.P
open PySem PySem.Spec PyProof.Rows L2
/-- who is left when the people of ps call from the tallest down -/
def toldM (w : List (List Int)) (st ps : List Int) : List Int := st.filter fun x => !has w (ps.filter fun p => decide (p ∈ st)) (fun x k => decide (x < k)) x
end L2.P

set_option Elab.async false
set_option linter.all false
set_option maxRecDepth 100000
set_option maxHeartbeats 4000000
/-! PL24: sorted(xs) of alike data, empty tuples among them too. -/
namespace L2.PS
open PySem PySem.Calls PySem.SeqAt PySem.W PyProof.Rows
section
variable {prog : Program} {w : World} {A : Around} {E : Value → Shared → Prop} {s : Shared}
theorem call_tuple_lt {Q : Value → Shared → Prop} {l b : Addr} {items items2 : Array Value} {e r : Nat → Bool} (hl : s.heap.IsTuple l items) (hb : s.heap.IsTuple b items2)
    (he : ∀ j (h1 : j < items.size) (h2 : j < items2.size), EqAt A.in1 s items[j] items2[j] (e j)) (hr : ∀ j (h1 : j < items.size) (h2 : j < items2.size), e j = false → RcLt A.in1 s items[j] items2[j] (r j))
    (h : Q (.bool (firstLt e r (decide (items.size < items2.size)) (List.range (min items.size items2.size)))) s) : wpAny (model prog w) A (call (.builtin "tuple.__lt__") [.ref l, .ref b]) Q E s := by
  obtain ⟨⟨cls, dd, data, sl⟩, ho, hc, n, hd⟩ := id hl
  obtain ⟨⟨cls2, dd2, data2, sl2⟩, ho2, hc2, n2, hd2⟩ := id hb
  simp only at hc hd hc2 hd2
  subst hc hd hc2 hd2
  exact call_meets F.slot_tuple_lt ⟨_, ho, rfl⟩ F.entry_tuple_lt (F.args_tuple_lt_2 _ _) (tuple_ltAt l b items items2 n n2 dd dd2 sl sl2 e r) ⟨ho, ho2, he, hr, h⟩
/-- one tuple against another, as sorting asks -/
theorem oneLt_tup {f : Bool} {xs ys : List PyData} {a b : Value} {as bs : List Addr} {Q : Bool → Shared → Prop} (ra : Reads s.heap a (.tuple xs) as) (rb : Reads s.heap b (.tuple ys) bs) (h : alike (.tuple xs) (.tuple ys) = true)
    (hu : A.units + min (PyData.tuple xs).depth (PyData.tuple ys).depth < cLine) (hq : Q (dataLt (.tuple xs) (.tuple ys)) s) : wpAny (model prog w) A (oneLt' f a b) Q E s := by
  cases f with
  | false =>
    rw [oneLt'_eq]
    simp only [Bool.false_eq_true, if_false]
    exact wpAny_bind (rcLt_alike _ _ A s a b as bs ra rb h (by simp) hu prog w E _ (wpAny_truthy_bool hq))
  | true =>
    have hal : alikeAll xs ys = true := by simpa [alike] using h
    cases ra with
    | @tuple l o vs n _ as₁ h1 h2 h3 h4 =>
      cases rb with
      | @tuple l' o' vs' n' _ bs₁ k1 k2 k3 k4 =>
        have n1 : vs.size = xs.length := by simpa using SeqAt.ReadsAll.length _ _ _ h4
        have n2 : vs'.size = ys.length := by simpa using SeqAt.ReadsAll.length _ _ _ k4
        rw [dataLt_tuple, ← firstLt_toks xs ys hal, ← n1, ← n2] at hq
        rw [oneLt'_eq]
        simp only [if_true]
        refine wpAny_bind (wpAny_cRoomFor (room_here hu) ?_)
        refine wpAny_bind (wpAny_callSpecialIfBound?_slot (T := "tuple") ⟨_, h1, h2⟩ F.slot_tuple_lt (call_tuple_lt (e := pairEq xs ys) (r := fun j => dataLt (xs.getD j .none) (ys.getD j .none)) ⟨_, h1, h2, _, h3⟩ ⟨_, k1, k2, _, k3⟩ (fun j j1 j2 => ?_) (fun j j1 j2 hj => ?_) ?_))
        · have := eqAt_alikeAll xs ys A.in1 s vs.toList vs'.toList _ _ h4 k4 hal (room_in hu) j (by simpa using j1) (by simpa using j2)
          simpa using this
        · have := rcLt_alikeAll xs ys A.in1 s vs.toList vs'.toList _ _ h4 k4 hal (room_in hu) j (by simpa using j1) (by simpa using j2) hj
          simpa using this
        · exact wpAny_truthy_bool hq
def neT : PyData → Bool
  | .tuple (_ :: _) => true
  | _ => false
theorem firsts {M : Model} : ∀ (vs : List Value) (ds : List PyData) {Q : List (Option Value) → Shared → Prop}, EachIs (fun v d => ∃ as, Reads s.heap v d as) vs ds → (∀ d ∈ ds, ∃ xs, d = .tuple xs) →
    (∀ fs : List (Option Value), EachIs (fun f d => f.isSome = neT d) fs ds → Q fs s) → wpAny M A (vs.mapM firstOfTuple') Q E s
  | _, _, _, .nil, _, h => by rw [List.mapM_nil]; exact wpAny_pure (h [] .nil)
  | _, _, Q, .cons (a := v) (as := vs) (b := d) (bs := ds) ⟨as, r⟩ t, ht, h => by
    obtain ⟨xs, rfl⟩ := ht d List.mem_cons_self
    cases r with
    | @tuple a o its n _ _ ho hc hd hr =>
      rw [List.mapM_cons]
      refine wpAny_bind ?_
      rw [kas_first_eq]
      refine wpAny_bind (Looks.here (show Looks M s.heap (typeOf (.ref a)) o.cls from (Looks.ld ho).andThen .now) ?_)
      rw [hc, if_neg (by first | decide | simp)]
      refine wpAny_bind (listItems_at ho hd (wpAny_pure ?_))
      refine wpAny_bind (firsts vs ds (Q := fun bs s' => wpAny M A (pure (its[0]? :: bs)) Q E s') t (fun d hd => ht d (List.mem_cons_of_mem _ hd)) fun fs hfs => wpAny_pure (h _ (.cons ?_ hfs)))
      rw [← Array.getElem?_toList]
      have hl : its.toList.length = xs.length := SeqAt.ReadsAll.length _ _ _ hr
      cases q : its.toList with
      | nil =>
        rw [q] at hl
        cases xs with
        | nil => rfl
        | cons x xs => simp at hl
      | cons z zs =>
        rw [q] at hl
        cases xs with
        | nil => simp at hl
        | cons x xs => rfl
theorem each_all {α β : Type} {R : α → β → Prop} {p : α → Bool} {q : β → Bool} (hR : ∀ a b, R a b → p a = q b) : ∀ {as : List α} {bs : List β}, EachIs R as bs → as.all p = bs.all q
  | _, _, .nil => rfl
  | _, _, .cons h t => by rw [List.all_cons, List.all_cons, hR _ _ h, each_all hR t]
theorem SortsAt.tups {vs : List Value} {ds : List PyData} (e : EachIs (fun v d => ∃ as, Reads s.heap v d as) vs ds) (hal : AllAlike ds) (ht : ∀ d ∈ ds, ∃ xs, d = .tuple xs) (hu : ∀ d, d ∈ ds → A.units + d.depth < cLine) (hne : ds.all neT = false) :
    SortsAt prog w A s (dataKind s.heap ds) vs := by
  have room : ∀ {d d' : PyData}, d ∈ ds → A.units + min d.depth d'.depth < cLine := fun {d d'} hd => Nat.lt_of_le_of_lt (Nat.add_le_add_left (Nat.min_le_left _ _) _) (hu d hd)
  refine ⟨fun v hv => ?_, ?_⟩
  · obtain ⟨d, hd, as, r⟩ := e.left v hv
    exact ⟨_, dataKind_some hal hd r⟩
  · have lt : ∀ (f : Bool) (kd : SortKind), (∀ x y, keyLt' kd x y = oneLt' f x y) → H.LtAt prog w A s (dataKind s.heap ds) kd := fun f kd hk => by
      intro E x y a b Q ha hb hq
      obtain ⟨d, as, hd, ra, rfl⟩ := dataKind_inv ha
      obtain ⟨d', as', hd', rb, rfl⟩ := dataKind_inv hb
      have hdd := hal d hd d' hd'
      have hroom := room (d' := d') hd
      obtain ⟨x1, rfl⟩ := ht d hd
      obtain ⟨x2, rfl⟩ := ht d' hd'
      rw [hk]
      exact oneLt_tup ra rb hdd hroom hq
    cases ds with
    | nil => simp at hne
    | cons d₀ ds₀ =>
      cases e with
      | @cons v₀ _ vs₀ _ r₀ e₀ =>
        have e : EachIs (fun v d => ∃ as, Reads s.heap v d as) (v₀ :: vs₀) (d₀ :: ds₀) := .cons r₀ e₀
        cases h0 : neT d₀ with
        | true =>
          refine ⟨general', lt false general' (fun _ _ => rfl), fun h2 E Q hq => ?_⟩
          rw [keyKind'_eq, List.mapM_toArray, map_eq_pure_bind]
          refine wpAny_bind (wpAny_bind (firsts _ _ e ht fun fs hfs => wpAny_pure ?_))
          have ha := each_all (p := Option.isSome) (q := neT) (fun _ _ h => h) hfs
          rw [hne] at ha
          rw [if_neg (by rw [List.all_toArray, ha]; decide)]
          cases hfs with
          | @cons f _ fs _ hf hfs =>
            rw [h0] at hf
            obtain ⟨z, rfl⟩ := Option.isSome_iff_exists.mp hf
            rw [if_pos (by simp)]
            exact wpAny_pure hq
        | false =>
          refine ⟨oneType', lt true oneType' (fun _ _ => keyLt'_oneType _ _), fun h2 E Q hq => ?_⟩
          rw [keyKind'_eq, List.mapM_toArray, map_eq_pure_bind]
          refine wpAny_bind (wpAny_bind (firsts _ _ e ht fun fs hfs => wpAny_pure ?_))
          have ha := each_all (p := Option.isSome) (q := neT) (fun _ _ h => h) hfs
          rw [hne] at ha
          rw [if_neg (by rw [List.all_toArray, ha]; decide)]
          cases hfs with
          | @cons f _ fs _ hf hfs =>
            rw [h0] at hf
            cases f with
            | some z => cases hf
            | none =>
              rw [if_neg (by simp)]
              rw [oneTypeOnly'_eq, List.mapM_toArray, map_eq_pure_bind]
              refine wpAny_bind (wpAny_bind (wpAny_bind (kas_mapM (r := Value.type "tuple") _ (fun v hv Q' hq' => ?_) (wpAny_pure ?_))))
              · obtain ⟨d, hd, as, r⟩ := e.left v hv
                obtain ⟨xs, rfl⟩ := ht d hd
                exact (looks_reads r).here hq'
              · have hall : ((List.map (fun _ => Value.type "tuple") (v₀ :: vs₀)).toArray.all fun x => x == Value.type "tuple") = true := by
                  simp only [List.all_toArray, List.all_map, List.all_eq_true]
                  intro _ _
                  exact beq_self_eq_true _
                have h0 : (List.map (fun _ => Value.type "tuple") (v₀ :: vs₀)).toArray[0]? = some (Value.type "tuple") := by simp
                rw [h0]
                simp only [hall, if_true]
                exact wpAny_pure (wpAny_pure hq)
theorem alike_tuple {d d' : PyData} (h : alike d d' = true) (ht : ∃ xs, d = .tuple xs) : ∃ xs, d' = .tuple xs := by
  obtain ⟨xs, rfl⟩ := ht
  cases d' <;> first | exact ⟨_, rfl⟩ | exact absurd h (by simp [alike])
/-- alike data but None can be sorted -/
theorem SortsAt.any {vs : List Value} {ds : List PyData} (e : EachIs (fun v d => ∃ as, Reads s.heap v d as) vs ds) (hal : AllAlike ds) (hn : ∀ d ∈ ds, d ≠ .none) (hu : ∀ d, d ∈ ds → A.units + d.depth < cLine) : SortsAt prog w A s (dataKind s.heap ds) vs := by
  by_cases h1 : ∀ d ∈ ds, ∀ xs, d ≠ .tuple xs
  · exact SortsAt.data e hal (.inr fun d hd => ⟨hn d hd, h1 d hd⟩) hu
  · have ⟨d, hd, xs, hx⟩ : ∃ d, d ∈ ds ∧ ∃ xs, d = .tuple xs := by
      apply Classical.byContradiction
      intro q
      exact h1 fun d hd xs hx => q ⟨d, hd, xs, hx⟩
    have ht : ∀ d ∈ ds, ∃ xs, d = .tuple xs := fun d' hd' => alike_tuple (hal d hd d' hd') ⟨xs, hx⟩
    cases hb : ds.all neT with
    | false => exact SortsAt.tups e hal ht hu hb
    | true =>
      rw [List.all_eq_true] at hb
      refine SortsAt.data e hal (.inl fun d hd => ?_) hu
      obtain ⟨ys, rfl⟩ := ht d hd
      have := hb _ hd
      cases ys with
      | nil => cases this
      | cons y ys => exact ⟨_, _, rfl⟩
/-! the call -/
theorem collect_tup {l : Addr} {vs : List Value} {Q : List Value → Shared → Prop} (hl : IsTup s.heap l vs.toArray)
    (h : Q vs { s with heap := (s.heap.push (seqObj "list" #[] 0)).update s.heap.objs.size (Obj.mapSeq (· ++ vs.toArray)) }) (hsz : vs.length ≤ sizeLine) :
    wpAny (model prog w) A (collect (.ref l)) Q E s := by
  obtain ⟨o, ho, hc, n, hd⟩ := id hl
  unfold collect
  refine wpAny_bind (wpAny_runValue (codeAny_builtin entry_proto_collect' ?_))
  show wpAny _ _ (do again (.builtin "list.__iadd__" ⟨[← newList [], .ref l], []⟩)) _ _ s
  refine wpAny_bind (wpAny_newList (wpAny_pure ⟨Code.quiet_builtin _ (by decide +kernel), codeAny_builtin entry_list_iadd' ?_⟩))
  show wpAny _ _ (Builtin.List.listExtendWith (.ref s.heap.objs.size) (.ref l) (.ref s.heap.objs.size)) _ _ { s with heap := s.heap.push (seqObj "list" #[] 0) }
  unfold Builtin.List.listExtendWith
  have ho' : (s.heap.push (seqObj "list" #[] 0)).get? l = some o := Heap.get?_push_of_some _ ho
  refine wpAny_bind (wpAny_typeOf (T := "tuple") ⟨o, ho', hc⟩ ?_)
  have ht : (Value.type "tuple" == Value.type "tuple") = true := by rfl
  rw [if_pos (by rw [ht]; simp)]
  refine wpAny_bind (listItems_at ho' hd ?_)
  refine wpAny_bind (listItems_at (xs := #[]) (n := 0) (Heap.get?_push_size _ rfl) rfl ?_)
  rw [if_neg (by simp)]
  refine wpAny_bind (listUpdate_at (xs := #[]) (n := 0) (Heap.get?_push_size _ rfl) rfl ?_ (Nat.zero_le _) (by show (#[] ++ vs.toArray).size ≤ sizeLine + 1; simp only [Array.size_append, List.size_toArray, List.length_nil]; omega))
  refine wpAny_pure ?_
  show wpAny (model prog w) A (do
      let o ← load s.heap.objs.size
      match o.data with
      | .seq xs _ => pure xs.toList
      | _ => unsupported "internal:collect") Q E { s with heap := (s.heap.push (seqObj "list" #[] 0)).update s.heap.objs.size (Obj.mapSeq (· ++ vs.toArray)) }
  refine wpAny_bind (wpAny_load (get?_update_seq (Heap.get?_push_size _ rfl) _) ?_)
  show wpAny _ _ (pure ((#[] : Array Value) ++ vs.toArray).toList) Q E _
  rw [show ((#[] : Array Value) ++ vs.toArray).toList = vs by simp]
  exact wpAny_pure h
theorem sorted_of {l : Addr} {vs : List Value} {kw : List (Str × Value)} {Q : Value → Shared → Prop} (hl : s.heap.IsList l vs.toArray ∨ IsTup s.heap l vs.toArray) (hL : vs.length ≤ sizeLine) (ha1 : argsOk "sorted" ⟨[.ref l], kw⟩) (ha2 : ∀ x, argsOk "list.sort" ⟨[.ref x], kw⟩)
    (body : ∀ E' : Value → Shared → Prop, wpAny (model prog w) A.in1.in1 (Builtin.«list.sort» ⟨[.ref (s.heap.objs.size + 1)], kw⟩) (fun f s' => f = .done (.ret .none) ∧ Q (.ref (s.heap.objs.size + 1)) s') E' { s with heap := copyHeap s.heap vs }) :
    wpAny (model prog w) A (call (.builtin "sorted") [.ref l] kw) Q E s := by
  refine call_function_entry_kw kind_sorted plain_sorted entry_sorted ha1 ?_
  unfold Builtin.«sorted»
  refine wpAny_bind (m := checkCount "sorted" 1 1 _) (wpAny_pure ?_)
  have cc : ∀ {Q' : List Value → Shared → Prop} {E' : Value → Shared → Prop}, Q' vs { s with heap := (s.heap.push (seqObj "list" #[] 0)).update s.heap.objs.size (Obj.mapSeq (· ++ vs.toArray)) } → wpAny (model prog w) A.in1 (collect (.ref l)) Q' E' s := fun q => by
    rcases hl with hl | hl
    · exact collect_list hl q hL
    · exact collect_tup hl q hL
  refine wpAny_bind (cc ?_)
  refine wpAny_bind (wpAny_newList ?_ hL)
  have hsz : ((s.heap.push (seqObj "list" #[] 0)).update s.heap.objs.size (Obj.mapSeq (· ++ vs.toArray))).objs.size = s.heap.objs.size + 1 := by
    rw [Heap.size_update, size_push']
  show wpAny _ _ _ _ _ { s with heap := copyHeap s.heap vs }
  rw [hsz]
  refine wpAny_bind (wpAny_holding (wpAny_call_entry_kw slot_list_sort ⟨_, copyHeap_at s.heap vs, rfl⟩ entry_list_sort ?body (ha2 _)))
  case body =>
    show wpAny (model prog w) A.in1.in1 (Builtin.«list.sort» ⟨[.ref (s.heap.objs.size + 1)], kw⟩) _ _ _
    refine wpAny_mono (body _) (fun f s' hf => ?_) fun _ _ e => e
    obtain ⟨rfl, hq⟩ := hf
    exact ⟨_, rfl, wpAny_pure ⟨_, rfl, hq⟩⟩
variable {β : Type} {R : Value → β → Prop} {enc : β → PyData} {vs : List Value} {bs : List β}
theorem sorted_any {l : Addr} {Q : Value → Shared → Prop} (hl : s.heap.IsList l vs.toArray ∨ IsTup s.heap l vs.toArray) (e : EachIs R vs bs) (er : EachIs (fun v b => ∃ as, Reads s.heap v (enc b) as) vs bs) (hal : AllAlike (bs.map enc)) (hk : ∀ d ∈ bs.map enc, d ≠ .none) (hL : bs.length ≤ sizeLine)
    (hu : ∀ b, b ∈ bs → A.units + 2 + (enc b).depth < cLine) (h : ∀ out, out.length = bs.length → EachIs R out (bs.mergeSort (dataLe false enc)) → Q (.ref (s.heap.objs.size + 1)) { s with heap := sortedAll s.heap vs (List.toArray out) }) :
    wpAny (model prog w) A (call (.builtin "sorted") [.ref l]) Q E s := by
  have er' : EachIs (fun v b => ∃ as, Reads (sortingHeap (copyHeap s.heap vs) (s.heap.objs.size + 1) vs) v (enc b) as) vs bs := er.mono fun _ _ ⟨as, r⟩ => ⟨as, PyProof.Rows.Reads.keeps (fun _ _ => sorting_copy_old) r⟩
  exact sorted_of hl (by rw [e.length]; exact hL) (args_sorted1 _) (fun _ => args_list_sort _) fun _ => list_sort_vals (s := { s with heap := copyHeap s.heap vs }) (copyHeap_at s.heap vs)
    (SortsAt.any (s := { s with heap := sortingHeap (copyHeap s.heap vs) (s.heap.objs.size + 1) vs }) (each_map (R := fun v d => ∃ as, Reads (sortingHeap (copyHeap s.heap vs) (s.heap.objs.size + 1) vs) v d as) enc er') hal hk (bound_map hu)) (by rw [e.length]; exact hL)
    ⟨rfl, h _ (by rw [sortVals_length false rfl]; exact e.length) (sortVals_data false e er' hal)⟩
end
end L2.PS
namespace L2.P
open PySem PySem.Spec PyProof.Rows L2
theorem depth_mem : ∀ {ps : List D} {p : D}, p ∈ ps → p.depth ≤ PyData.depthAll ps
  | x :: xs, p, h => by
    rw [PyData.depthAll]
    rcases List.mem_cons.mp h with rfl | h
    · exact Nat.le_max_left _ _
    · exact Nat.le_trans (depth_mem h) (Nat.le_max_right _ _)
/-! merge sort as the kernel can run it -/
def mgF {α : Type} (le : α → α → Bool) : Nat → List α → List α → List α
  | 0, _, _ => []
  | _ + 1, [], ys => ys
  | _ + 1, x :: xs, [] => x :: xs
  | k + 1, x :: xs, y :: ys => match le x y with
    | true => x :: mgF le k xs (y :: ys)
    | false => y :: mgF le k (x :: xs) ys
def msF {α : Type} (le : α → α → Bool) : Nat → List α → List α
  | 0, _ => []
  | _ + 1, [] => []
  | _ + 1, [a] => [a]
  | k + 1, a :: b :: xs => mgF le (xs.length + 3) (msF le k ((a :: b :: xs).take ((xs.length + 3) / 2))) (msF le k ((a :: b :: xs).drop ((xs.length + 3) / 2)))
theorem mgF_eq {α : Type} {le : α → α → Bool} : ∀ (k : Nat) (xs ys : List α), xs.length + ys.length < k → mgF le k xs ys = List.merge xs ys le
  | 0, _, _, h => absurd h (Nat.not_lt_zero _)
  | _ + 1, [], ys, _ => by simp [mgF]
  | _ + 1, x :: xs, [], _ => by simp [mgF]
  | k + 1, x :: xs, y :: ys, h => by
    simp only [List.length_cons] at h
    rw [List.cons_merge_cons]
    show (match le x y with | true => x :: mgF le k xs (y :: ys) | false => y :: mgF le k (x :: xs) ys) = _
    cases e : le x y with
    | true => rw [if_pos rfl]; exact congrArg _ (mgF_eq k xs (y :: ys) (by simp only [List.length_cons]; omega))
    | false => rw [if_neg (by simp)]; exact congrArg _ (mgF_eq k (x :: xs) ys (by simp only [List.length_cons]; omega))
theorem msF_eq {α : Type} {le : α → α → Bool} : ∀ (k : Nat) (xs : List α), xs.length < k → msF le k xs = xs.mergeSort le
  | 0, _, h => absurd h (Nat.not_lt_zero _)
  | _ + 1, [], _ => by simp [msF]
  | _ + 1, [a], _ => by simp [msF]
  | k + 1, a :: b :: xs, h => by
    simp only [List.length_cons] at h
    show mgF le _ (msF le k _) (msF le k _) = _
    have h1 : ((a :: b :: xs).take ((xs.length + 3) / 2)).length < k := by rw [List.length_take]; simp only [List.length_cons]; omega
    have h2 : ((a :: b :: xs).drop ((xs.length + 3) / 2)).length < k := by rw [List.length_drop]; simp only [List.length_cons]; omega
    rw [msF_eq k _ h1, msF_eq k _ h2, mgF_eq]
    · rw [List.mergeSort]
      simp only [List.MergeSort.Internal.splitInTwo_fst, List.MergeSort.Internal.splitInTwo_snd]
      have e : xs.length + 1 + 1 + 1 = xs.length + 3 := rfl
      simp only [List.length_cons, e]
    · rw [(List.mergeSort_perm _ _).length_eq, (List.mergeSort_perm _ _).length_eq, List.length_take, List.length_drop]
      simp only [List.length_cons]; omega
/-- a list in order -/
def sortP (ps : List D) : List D := msF (PySem.W.dataLe false id) (ps.length + 1) ps
theorem sortP_ms (ps : List D) : sortP ps = ps.mergeSort (PySem.W.dataLe false id) := msF_eq _ _ (Nat.lt_succ_self _)
def gSrt : List D → Option (List D)
  | [.list xs] => if okM xs = true then some (sortP xs) else none
  | [.tuple xs] => if okM xs = true then some (sortP xs) else none
  | _ => none
def rSort (K : Fg) : List V → Hp → VK → Prop := fun vs H Q => ∃ (a : Addr) (ys : List V) (ps : List D), vs = [.ref a] ∧ (SqL K H a ys ∨ SqT K H a ys) ∧ DpAll K H ys ps ∧ okM ps = true ∧ ∀ (bs : List (V × D)) (p : Addr), H p = none → bs.Perm (ys.zip ps) → bs.map (·.2) = sortP ps → Q (.ref p) (upd H p (.lst (bs.map (·.1))))
theorem each_zip {h : Heap} : ∀ {ys : List V} {its : List Value} {ps : List D}, Vals ys its → ys.length = ps.length → PySem.W.EachIs (fun (v : Value) (b : V × D) => RelV b.1 v) its (ys.zip ps)
  | _, _, [], .nil, _ => .nil
  | _, _, [], .cons _ _, h => by simp at h
  | _, _, _ :: _, .nil, h => by simp at h
  | _, _, _ :: _, .cons a r, h => .cons a (each_zip (h := ‹Heap›) r (by simpa using h))
theorem each_reads {h : Heap} : ∀ {ys : List V} {its : List Value} {ps : List D} {as : List Addr}, ReadsAll h its ps as → ys.length = ps.length → PySem.W.EachIs (fun (v : Value) (b : V × D) => ∃ as, Reads h v b.2 as) its (ys.zip ps)
  | [], _, _, _, .nil, _ => .nil
  | _ :: _, _, _, _, .nil, h => by simp at h
  | [], _, _, _, .cons _ _, h => by simp at h
  | _ :: _, _, _, _, .cons a r, h => .cons ⟨_, a⟩ (each_reads r (by simpa using h))
theorem vals_each : ∀ {out : List Value} {bs : List (V × D)}, PySem.W.EachIs (fun (v : Value) (b : V × D) => RelV b.1 v) out bs → Vals (bs.map (·.1)) out
  | _, _, .nil => .nil
  | _, _, .cons a r => .cons a (vals_each r)
theorem dpAll_zip {K : Fg} {F : Hp} : ∀ {ys : List V} {ps : List D}, DpAll K F ys ps → ∀ b ∈ ys.zip ps, Dp K F b.1 b.2
  | _, _, .nil, b, h => by simp at h
  | _, _, .cons a r, b, h => by
    rw [List.zip_cons_cons] at h
    rcases List.mem_cons.mp h with rfl | h
    · exact a
    · exact dpAll_zip r b h
theorem dpAll_of {K : Fg} {F : Hp} : ∀ {bs : List (V × D)}, (∀ b ∈ bs, Dp K F b.1 b.2) → DpAll K F (bs.map (·.1)) (bs.map (·.2))
  | [], _ => .nil
  | b :: bs, h => .cons (h b List.mem_cons_self) (dpAll_of fun c hc => h c (List.mem_cons_of_mem _ hc))
section
variable {X : Cx}
theorem cr_sort (hc : X.calm = true) (hu : Rm X) : CallR X (.builtin "sorted") (rSort X.K) := by
  intro pins s σ H vs us Q I r h
  obtain ⟨a, ys, ps, rfl, hs, hd, ok, q⟩ := h
  rw [Vals.ref1 r]
  obtain ⟨hpl, hdep⟩ := okDs_iff.mp (okM_oks ok)
  obtain ⟨its, rv, hl, hz⟩ : ∃ its : List Value, Vals ys its ∧ (s.heap.IsList a its.toArray ∨ IsTup s.heap a its.toArray) ∧ ys.length ≤ sizeLine := by
    rcases hs with hs | hs
    · obtain ⟨its, rv, hl, hz⟩ := I.list hs
      exact ⟨its, rv, .inl hl.isList, hz⟩
    · obtain ⟨its, rv, hl, hz⟩ := I.tuple hs
      exact ⟨its, rv, .inr hl, hz⟩
  obtain ⟨as, hr⟩ := Dp.readsAll I _ ys its hd hpl rv
  have hlen := hd.length
  have e2 : (ys.zip ps).map (·.2) = ps := List.map_snd_zip (by omega)
  have hal := okM_alike ok
  refine PS.sorted_any (R := fun (v : Value) (b : V × D) => RelV b.1 v) (enc := fun b : V × D => b.2) (bs := ys.zip ps) hl (each_zip (h := s.heap) rv hlen) (each_reads hr hlen) ?_ ?_ ?_ ?_ fun out ho hout => ?_
  · rw [e2]; exact hal.1
  · rw [e2]; exact hal.2
  · rw [List.length_zip]; omega
  · intro b hb
    have hb2 : b.2 ∈ ps := by rw [← e2]; exact List.mem_map_of_mem hb
    have := depth_mem hb2
    unfold Rm at hu
    omega
  · obtain ⟨e, he⟩ := sortedAll_at s.heap its (List.toArray out)
    have hperm := List.mergeSort_perm (ys.zip ps) (PySem.W.dataLe false fun b : V × D => b.2)
    have hv := vals_each hout
    have hsz : (List.map (·.1) ((ys.zip ps).mergeSort (PySem.W.dataLe false fun b : V × D => b.2))).length ≤ sizeLine := by
      rw [List.length_map, hperm.length_eq, List.length_zip]; omega
    refine ⟨.ref (s.heap.objs.size + 1), upd H (s.heap.objs.size + 1) (.lst (List.map (·.1) ((ys.zip ps).mergeSort (PySem.W.dataLe false fun b : V × D => b.2)))), I.laid (t' := s.toks) (fun b o hb => sortedAll_old hb) (Nat.le_succ _) ⟨hsz, out, e, hv, he⟩, rfl, q _ _ (I.hok.fresh (Nat.le_succ _)) hperm ?_⟩
    rw [sortP_ms]
    have z := List.map_mergeSort (f := fun b : V × D => b.2) (r := PySem.W.dataLe false fun b : V × D => b.2) (s := PySem.W.dataLe false id) (l := ys.zip ps) (fun a _ b _ => rfl)
    rw [z, e2]
theorem cn_sort (hc : X.calm = true) (hu : Rm X) : CallN X (.builtin "sorted") gSrt := ⟨_, cr_sort hc hu, fun B F H σ ρ vs ps zs Q R d e k => by
  have key : ∀ (p : D) (xs : List D), ps = [p] → items p = some xs → okM xs = true → zs = sortP xs → rSort X.K vs H Q := fun p xs e1 e2 ok e3 => by
    subst e1 e3
    obtain ⟨v, rfl, h⟩ := pk1 d
    obtain ⟨a, ys, rfl, r, q⟩ := pk_items R h e2
    refine ⟨a, ys, xs, rfl, sq_of R.sub q, r.same R.sub, ok, fun bs p hp hb hs => ?_⟩
    have := dpAll_of (K := X.K) (F := F) (bs := bs) fun b hb' => dpAll_zip r b (hb.mem_iff.mp hb')
    rw [hs] at this
    exact k F H p _ R (Same.refl _) hp this
  unfold gSrt at e
  split at e
  · split at e
    · exact key _ _ rfl rfl (by assumption) (Option.some.inj e).symm
    · cases e
  · split at e
    · exact key _ _ rfl rfl (by assumption) (Option.some.inj e).symm
    · cases e
  · cases e⟩
variable {a : Expr} {p pos : Pos}
theorem n_sorted {f : Rho → Option (List D)} (B : Bi X.mg) (hu : Rm X) (h : XAF X [a] f) (hc : X.calm = true := by rfl) (hg : Gl X "sorted" := by rfl) (he : starEach [a] X.env = (false, eval a X.env) :: starEach [] X.env := by rfl) : NF X (.Call (.Name "sorted" p) [a] [] pos) (aOf gSrt f) :=
  NW.f (nw_callB (cn_sort hc hu) h hg B.sorted bt_sorted (he := he) (hpl := rfl))
end
end L2.P
namespace L2.P
open PySem PySem.Spec PyProof.Rows L2
theorem nRg_upI {n : Nat} (h : n ≤ 1000) {f : Rho → Option (Int × Int)} {ρ : Rho} (e : f ρ = some (0, (n : Int))) : nRg f ρ = some ((upI n).map .int) := by
  have z := tupRg_upI h e
  unfold vTupRg at z
  unfold nRg
  rw [e, Option.bind_some] at z ⊢
  split at z
  · rename_i c
    rw [if_pos c]
    have := Option.some.inj z
    exact congrArg some (PyData.tuple.inj this)
  · cases z
theorem wq_no {t : Rho → Option Bool} {a : Rho → Option Fl} {U : TSt} {ρ : Rho} {K : Fl → Prop} (h : t ρ = some false) (k : U ρ K) : wSeq (fW (sIf t a sNil)) U ρ K := ⟨.nx ρ, by rw [e_sIf, h]; rfl, k⟩
end L2.P

set_option Elab.async false
set_option linter.all false
set_option maxRecDepth 100000
set_option maxHeartbeats 4000000
/-! PL25: a comprehension over a list of this def's own; x.extend(new list); displays with a star. -/
namespace L2.P
open PySem PySem.Spec PyProof.Rows L2
section
variable {K : Fg} {B : Bs} {F F' H H' : Hp} {σ σ' : St} {ρ ρ' : Rho} {a : Addr} {o : HO} {i : Nat} {ps : List D} {xs : List V}
/-- the own list of slot i is held still -/
theorem Rs.hold (R : Rs K B F H σ ρ) (hi : ρ[i]? = some (.ol ps)) (hσ : σ[i]? = some (some (.ref a))) (hH : H a = some (.lst xs)) : Rs K (B.pin a (.lst xs)) F H σ (ρ.set i .no) := by
  obtain ⟨a', xs', e, f, h0, h1, r⟩ := R.own hi
  rw [hσ] at e; cases e
  have far : ∀ (j : Nat) (s : Sl) (c : Addr), j ≠ i → ρ[j]? = some s → s.owns = true → σ[j]? = some (some (.ref c)) → c ≠ a := fun j s c hj hs ho hc e => by
    subst e
    exact R.apart j i c s _ hj hs hi ho rfl hc hσ
  refine ⟨R.sub, R.ext, fun b g1 g2 => ?_, fun b x hb e => ?_, R.hrow, fun r h => ?_, by rw [List.length_set]; exact R.len, fun j s hs => ?_, fun j k c s t hjk h1' h2' o1 o2 e1 e2 => ?_⟩
  · have ne : b ≠ a := fun e => by subst e; exact g2 f
    show Fz ((upd B.Ha a _) b)
    rw [upd_ne ne]; exact R.new b g1 g2
  · have e' : (upd B.Ha a (.lst xs)) b = some x := e
    by_cases q : b = a
    · subst q
      rw [upd_same] at e'
      rw [hH]; exact e'
    · rw [upd_ne q] at e'; exact R.old b x hb e'
  · show (upd B.Ha a (.lst xs)) r ≠ none
    by_cases e : r = a
    · subst e; rw [upd_same]; simp
    · rw [upd_ne e]; exact R.hr2 r h
  · rcases set_some hs with ⟨rfl, hl, rfl⟩ | ⟨ne, hs⟩
    · exact .no
    · have q := R.at_ j s hs
      generalize hx : σ[j]? = x at q
      cases q with
      | no => exact .no
      | v r => exact .v r
      | fz f d => exact .fz f d
      | @ol c xs ps f h0 h1 r =>
        refine .ol f ?_ h1 r
        show (upd B.Ha a _) c = none
        rw [upd_ne (far j _ c (fun e => ne e.symm) hs rfl hx)]; exact h0
      | @row c f h0 h1 =>
        refine .row f ?_ h1
        rcases h0 with h0 | h0
        · refine .inl ?_
          show (upd B.Ha a _) c = none
          rw [upd_ne (far j _ c (fun e => ne e.symm) hs rfl hx)]; exact h0
        · exact .inr h0
      | @od t c kvs f h0 h1 =>
        refine .od f ?_ h1
        show (upd B.Ha a _) c = none
        rw [upd_ne (far j _ c (fun e => ne e.symm) hs rfl hx)]; exact h0
  · rcases set_some h1' with ⟨rfl, hl, rfl⟩ | ⟨ne, h1'⟩
    · cases o1
    · rcases set_some h2' with ⟨rfl, hl, rfl⟩ | ⟨ne2, h2'⟩
      · cases o2
      · exact R.apart j k c s t hjk h1' h2' o1 o2 e1 e2
/-- .. and given back -/
theorem Rs.unhold (R : Rs K (B.pin a (.lst xs)) F H σ (ρ.set i .no)) (hi : ρ[i]? = some (.ol ps)) (hσ : σ[i]? = some (some (.ref a))) (hr : B.r ≠ some a) (hF : B.Fa a = none) (hH : B.Ha a = none) (d : DpAll K F xs ps) : Rs K B F H σ ρ := by
  obtain ⟨p1, p2⟩ := R.pinned hr hF
  have U := R.unpin hr hF hH
  have ne_of : ∀ (j : Nat) (s : Sl) (c : Addr), j ≠ i → ρ[j]? = some s → s.owns = true → σ[j]? = some (some (.ref c)) → c ≠ a := fun j s c hj hs ho hc e => by
    subst e
    have q := R.at_ j s (by rw [List.getElem?_set_ne (fun z => hj z.symm)]; exact hs)
    rw [hc] at q
    cases q with
    | no => cases ho
    | v r => cases ho
    | fz _ _ => cases ho
    | ol f h0 h1 r =>
      have z : (upd B.Ha c (.lst xs)) c = none := h0
      rw [upd_same] at z; cases z
    | row f h0 h1 =>
      rcases h0 with h0 | h0
      · have z : (upd B.Ha c (.lst xs)) c = none := h0
        rw [upd_same] at z; cases z
      · exact hr h0
    | od f h0 h1 =>
      have z : (upd B.Ha c (.lst xs)) c = none := h0
      rw [upd_same] at z; cases z
  refine ⟨U.sub, U.ext, U.new, U.old, U.hrow, U.hr2, by have := U.len; rw [List.length_set] at this; exact this, fun j s hs => ?_, fun j k c s t hjk h1' h2' o1 o2 e1 e2 => ?_⟩
  · by_cases e : j = i
    · subst e
      rw [hi] at hs; cases hs
      rw [hσ]
      exact .ol p2 hH p1 d
    · exact U.at_ j s (by rw [List.getElem?_set_ne (fun z => e z.symm)]; exact hs)
  · by_cases e : j = i
    · subst e
      rw [hσ] at e1; cases e1
      exact ne_of k t a (fun z => hjk z.symm) h2' o2 e2 rfl
    · by_cases e' : k = i
      · subst e'
        rw [hσ] at e2; cases e2
        exact ne_of j s a e h1' o1 e1 rfl
      · exact U.apart j k c s t hjk (by rw [List.getElem?_set_ne (fun z => e z.symm)]; exact h1') (by rw [List.getElem?_set_ne (fun z => e' z.symm)]; exact h2') o1 o2 e1 e2
end
/-- what is walked, where P holds of the heap at each turn -/
structure WlkP (K : Fg) (F : Hp) (P : Hp → Prop) (J : It) (ps : List D) : Prop where
  go : ∀ i H, i < ps.length → P H → J.go i H
  stop : ∀ H, P H → J.stop ps.length H
  yld : ∀ i H x H', i < ps.length → P H → J.yld i H x H' → ∃ p, ps[i]? = some p ∧ Yl K F H H' x p
theorem wlkP_list {K : Fg} {F : Hp} {a : Addr} {xs : List V} {ps : List D} (d : DpAll K F xs ps) : WlkP K F (fun H => H a = some (.lst xs)) (Itl K a) ps where
  go := fun i H hi e => by
    have hl := d.length
    exact ⟨xs, xs[i], .inl (.inl e), by simp⟩
  stop := fun H e => ⟨xs, .inl (.inl e), by rw [d.length]; exact Nat.le_refl _⟩
  yld := fun i H x H' hi e ⟨y1, y2⟩ => by
    obtain ⟨p, hp, dp⟩ := d.getV (y2 xs (.inl (.inl e)))
    exact ⟨p, hp, .inl ⟨y1, dp⟩⟩
theorem lc_walkP {K : Fg} {is : List Nat} {g : Tg} {T : TB} {E : TW} {B : Bs} {F1 : Hp} {P : Hp → Prop} {D : Addr} {σ : St} {ρ : Rho} {ps : List PyData} {Kc : List PyData → Prop} {J : It} {Qd : Hp → Prop} {H1 : Hp} {ad : List PyData}
    (mt : ∀ ρ K K', (∀ p, K p → K' p) → T ρ K → T ρ K') (me : ∀ ρ K K', (∀ p, K p → K' p) → E ρ K → E ρ K') (hr : B.r ≠ some D) (hF : B.Fa D = none) (no : noOwn ρ is = true) (wk : WlkP K F1 P J ps) (hP : ∀ F H acc, Rs K (B.pin D (.lst acc)) F H σ ρ → P H)
    (h : LcInv K B F1 D σ ρ (fun ad => lcW is g T E ρ ps ad Kc) H1) (hd : ∀ H, LcInv K B F1 D σ ρ Kc H → Qd H) :
    ∃ W : Nat → Nat → Hp → Prop, (∃ m, W 0 m H1) ∧ ∀ i m H, W i m H →
      (J.stop i H ∧ Qd H) ∨ (J.go i H ∧ ∃ Nx : Hp → Prop, (∀ H', Nx H' → ∃ m', m' < m ∧ W (i + 1) m' H') ∧ ∀ x H', J.yld i H x H' → tG K g is x (L2.wipe σ is) H' fun σ2 H2 => L2.wipe σ2 is = L2.wipe σ is ∧ tT K T σ2 H2 fun b H3 =>
        if b = true then tW K E σ2 H3 fun y H4 => ∃ acc, H4 D = some (.lst acc) ∧ acc.length < sizeLine ∧ Nx (upd H4 D (.lst (acc ++ [y]))) else Nx H3) := by
  refine ⟨fun i m H => m = ps.length - i ∧ i ≤ ps.length ∧ LcInv K B F1 D σ ρ (fun ad => lcW is g T E ρ (ps.drop i) ad Kc) H, ⟨ps.length, by simp, Nat.zero_le _, h⟩, ?_⟩
  rintro i m H ⟨rfl, hi, F, acc, ad, R, s, d, q⟩
  have sH : P H := hP F H acc R
  by_cases hlt : i < ps.length
  · refine .inr ⟨wk.go i H hlt sH, fun H' => LcInv K B F1 D σ ρ (fun ad => lcW is g T E ρ (ps.drop (i + 1)) ad Kc) H', fun H' n => ⟨ps.length - (i + 1), by omega, rfl, hlt, n⟩, fun x H' hy => ?_⟩
    obtain ⟨p, hp, y⟩ := wk.yld i H x H' hlt sH hy
    have e0 : ps.drop i = p :: ps.drop (i + 1) := by
      rw [List.drop_eq_getElem_cons hlt]
      obtain ⟨_, e⟩ := List.getElem?_eq_some_iff.mp hp
      rw [e]
    rw [e0] at q
    obtain ⟨ρ', eg, q⟩ := q
    obtain ⟨F2, R2, s2, d2⟩ := yl_step (R.wipe is) s y
    refine ⟨_, F2, _, p, ρ', R2, d2, eg, fun σ' R3 hl hσ hρ => ⟨?_, ?_⟩⟩
    · have := wipe_eq (is := is) hl hσ
      rw [this]
      exact wipe_eq (wipe_length _ _) fun j hj => wipe_out hj
    · have hσ' : ∀ j, j ∉ is → σ'[j]? = σ[j]? := fun j hj => (hσ j hj).trans (wipe_out hj)
      have hρ' : ∀ j, j ∉ is → ρ'[j]? = ρ[j]? := fun j hj => (hρ j hj).trans (wipeR_out hj)
      refine ⟨_, F2, ρ', R3, mt _ _ _ (fun b k F3 H3 R4 s4 => ?_) q⟩
      cases b with
      | false => exact ⟨F3, acc, ad, R.back R4 (s2.trans s4) no hσ' hρ', (s.trans s2).trans s4, (d.same s2).same s4, k⟩
      | true =>
        refine ⟨_, F3, ρ', R4, me _ _ _ (fun z k2 F4 H4 v R5 s5 d5 => ?_) k⟩
        have s25 : Same F F4 := (s2.trans s4).trans s5
        have hacc : acc.length = ad.length := d.length
        refine ⟨acc, (R5.pinned hr hF).1, by rw [hacc]; exact k2.1, F4, acc ++ [v], ad ++ [z], (R.back R5 s25 no hσ' hρ').repin hr hF _, s.trans s25, (d.same s25).append (.cons d5 .nil), k2.2⟩
  · have e : i = ps.length := by omega
    subst e
    refine .inl ⟨wk.stop H sH, hd H ⟨F, acc, ad, R, s, d, ?_⟩⟩
    rw [List.drop_length] at q
    exact q
section
variable {X : Cx} {elt tg : Expr} {ifs : List Expr} {scope : Scope} {own : List (Str × Nat)} {pos : Pos} {g : Tg} {T : TB} {E : TW}
def wLcO (i : Nat) (is : List Nat) (g : Tg) (T : TB) (E : TW) : TL := fun ρ K => ∃ ps, ρ[i]? = some (.ol ps) ∧ noOwn (ρ.set i .no) is = true ∧ lcV is g T E (ρ.set i .no) ps [] K
theorem lc_convO {K : Fg} {i : Nat} {is : List Nat} (mt : ∀ ρ K K', (∀ p, K p → K' p) → T ρ K → T ρ K') (me : ∀ ρ K K', (∀ p, K p → K' p) → E ρ K → E ρ K')
    {σ : St} {H : Hp} {Q : VK} (h : tN K (wLcO i is g T E) σ H Q) : tLc (iSeq K fun σ H Q => tVar i σ H fun v H' => LenOk K H' → Q v H') (tG K g is) (tT K T) (tW K E) is σ H Q := by
  obtain ⟨B, F, ρ, R, ps, ei, no, q⟩ := h
  obtain ⟨a, xs, hσ, f, h0, h1, r⟩ := R.own ei
  have hra : B.r ≠ some a := fun e => R.hr2 a e h0
  have hFa : B.Fa a = none := R.ext.free f
  refine ⟨.ref a, hσ, fun hL => ⟨a, rfl, .inl ⟨⟨xs, .inl (.inl h1)⟩, fun D hD => ?_⟩⟩⟩
  have R1 := R.hold ei hσ h1
  obtain ⟨p1, p2, p3⟩ := R1.fresh hD
  have hF : (B.pin a (.lst xs)).Fa D = none := R1.ext.free p2
  have neD : a ≠ D := ne_of_none h1 hD
  have hz : ps.length ≤ sizeLine := by rw [← r.length]; exact hL a xs (.inl (.inl (.inl h1)))
  refine lc_walkP (Kc := fun ps => ∀ F' H' a xs, Rs K B F' H' σ ρ → Same F F' → H' a = none → DpAll K F' xs ps → Q (.ref a) (upd H' a (.lst xs))) (ad := []) mt me p3 hF no (wlkP_list r) (fun F' H' acc R' => ?_)
    ⟨F, [], [], R1.pin hD _, Same.refl _, .nil, lcV_W mt me ps [] _ (by simpa using hz) q⟩ fun H2 ⟨F2, acc, ad, R2, s2, d2, k2⟩ => ?_
  · refine R'.old a _ (fun z => hra z.symm) ?_
    show (upd (upd B.Ha a (.lst xs)) D _) a = _
    rw [upd_ne neD, upd_same]
  · have e := upd_minus (R2.pinned p3 hF).1
    rw [← e]
    exact k2 F2 _ D acc ((R2.minus p3 hF p1).unhold ei hσ hra hFa h0 (r.same s2)) s2 (minusH_same _ _) d2
/-- [.. for .. in x ..], x a list of this def's own -/
theorem nw_lcO {i : Nat} {x : Str} {px : Pos} (hc : X.calm = true) (hN : X.N.Nodup) (hx : X.N[i]? = some x) (hv : Vis X.env.scope x) (ok : BlkOk X.N X.env.scope scope own)
    (hg : ∀ (s : Shared) (H : Hp) (C : Addr) (cl : List (Str × Addr)) (fp : List Addr), GW (X.blk s H scope (compEnvC scope cl C X.env) fp) tg g (own.map (·.2)))
    (ht : ∀ (s : Shared) (H : Hp) (C : Addr) (cl : List (Str × Addr)) (fp : List Addr), TsW (X.blk s H scope (compEnvC scope cl C X.env) fp) ifs T)
    (he : ∀ (s : Shared) (H : Hp) (C : Addr) (cl : List (Str × Addr)) (fp : List Addr), EW (X.blk s H scope (compEnvC scope cl C X.env) fp) elt E)
    (s0 : Shared) (hd : (x == ("__debug__" : Str)) = false := by decide) (hcd : (x == ("__classdict__" : Str)) = false := by decide) (hs : ∀ z, foldedSetIterable (.Name x px) X.env z = pure z := by intro _; rfl) : NW X (.ListComp elt [⟨tg, .Name x px, ifs, 0⟩] scope pos) (wLcO i (own.map (·.2)) g T E) := by
  have mt := (ht s0 (fun _ => none) 0 [] []).mono
  have me := (he s0 (fun _ => none) 0 [] []).mono
  exact ⟨fun ρ K K' h ⟨ps, e, n, q⟩ => ⟨ps, e, n, lcV_mono mt me ps _ K K' h q⟩, (pe_lc (g := tG X.K g (List.map (fun (z : Str × Nat) => z.2) own)) (tt := tT X.K T) (te := tW X.K E) hc hN (pi_seq (PE.lens (pe_var hx hv hd hcd))) ok hg (fun s H C cl fp => (ht s H C cl fp).pts) (fun s H C cl fp => (he s H C cl fp).pe) hs).imp fun σ H Q h => lc_convO mt me h⟩
def cLcO (i : Nat) (is : List Nat) (g : Tg) (t : Rho → Option Bool) (f : Rho → Option D) : Rho → Option (List D) := fun ρ => match ρ[i]? with
  | some (.ol ps) => if noOwn (ρ.set i .no) is = true then lcF is g t f (ρ.set i .no) ps else none
  | _ => none
theorem NW.lcO {e : Expr} {i : Nat} {is : List Nat} {t : Rho → Option Bool} {f : Rho → Option D} (h : NW X e (wLcO i is g (fW t) (fW f))) : NF X e (cLcO i is g t f) := h.imp fW_mono fun ρ K ⟨out, e, k⟩ => by
  unfold cLcO at e
  split at e
  · rename_i ps hp
    split at e
    · rename_i no
      exact ⟨ps, hp, no, lcF_V ps [] out K e k⟩
    · cases e
  · cases e
theorem cLcO_map {α : Type} (xs : List α) (enc : α → D) (P : α → Bool) (E : α → D) {i : Nat} {is : List Nat} {t : Rho → Option Bool} {f : Rho → Option D} {ρ : Rho} (hu : ρ[i]? = some (.ol (xs.map enc))) (no : noOwn (ρ.set i .no) is = true)
    (h : ∀ x ∈ xs, ∃ ρ', g (enc x) (wipeR (ρ.set i .no) is) = some ρ' ∧ t ρ' = some (P x) ∧ (P x = true → f ρ' = some (E x))) : cLcO i is g t f ρ = some ((xs.filter P).map E) := by
  unfold cLcO
  rw [hu]
  show (if _ then _ else _) = _
  rw [if_pos no]
  exact lcF_map xs h
/-! ### x.extend(a new list) -/
variable {e : Expr}
def wExt (i : Nat) (T : TL) : TSt := fun ρ K => ∃ ps, ρ[i]? = some (.ol ps) ∧ T ρ fun zs => ps.length + zs.length ≤ sizeLine ∧ K (.nx (ρ.set i (.ol (ps ++ zs))))
def sExt (i : Nat) (f : Rho → Option (List D)) : Rho → Option Fl := fun ρ => match ρ[i]? with
  | some (.ol ps) => (f ρ).bind fun zs => if ps.length + zs.length ≤ sizeLine then some (.nx (ρ.set i (.ol (ps ++ zs)))) else none
  | _ => none
theorem sw_ext {i : Nat} {x : Str} {T : TL} {p1 p2 p3 : Pos} (hN : X.N[i]? = some x) (hv : Vis X.env.scope x) (h : NW X e T) (hd : (x == ("__debug__" : Str)) = false := by decide) (hcd : (x == ("__classdict__" : Str)) = false := by decide)
    (hbase : attributeBase (.Name x p1) "extend" X.env (eval (.Name x p1) X.env) = eval (.Name x p1) X.env := by rfl)
    (hfew : ((backTo p3 (starEach [e] X.env)).all (fun x => !x.1) && (backToKw p3 (keywordEach [] X.env)).all (fun x => x.1.isSome) && decide (([e] : List Expr).length + ([] : List Keyword).length + (if ([] : List Keyword).isEmpty then 0 else 1) < 30)) = true := by rfl)
    (hline : (p2.endLine == p3.line) = true := by rfl) (hs : starEach [e] X.env = (false, eval e X.env) :: starEach [] X.env := by rfl) (hs2 : swapsWith (.Call (.Attribute (.Name x p1) "extend" p2) [e] [] p3) none pos.line X.env = pure false := by rfl) :
    SW X (.Expr (.Call (.Attribute (.Name x p1) "extend" p2) [e] [] p3) pos) (wExt i T) :=
  ⟨fun ρ K K' k ⟨ps, e1, q⟩ => ⟨ps, e1, h.mono _ _ _ (fun p z => ⟨z.1, k _ z.2⟩) q⟩,
    (ps_expr (pe_bm PySem.F.plainAttrs_list PySem.F.slot_list_extend PySem.F.type_list_extend mt_extend (pe_var hN hv hd hcd) (pa_cons h.pe pa_nil hs) hbase hfew hline hs rfl) hs2).imp fun En σ H ⟨B, F, ρ, R, ps, ei, q⟩ => by
      obtain ⟨a, xs, hσ, f, h0, h1, r⟩ := R.own ei
      refine ⟨.ref a, hσ, .inl ⟨rfl, xs, .inl (.inl h1)⟩, B, F, ρ, R, h.mono _ _ _ (fun zs k F' H' b ys R' s nb d => ?_) q⟩
      have R2 := R'.lay nb (o := .lst ys)
      obtain ⟨a', xs', hσ', f', h0', h1', r'⟩ := R2.own ei
      rw [hσ] at hσ'; cases hσ'
      have hl := r'.length
      have hl2 := d.length
      exact ⟨a, b, xs', ys, rfl, rfl, h1', upd_same, by rw [hl, hl2]; exact k.1, k.2 F' _ σ (R2.setO ei hσ h1' (r'.append d)) s⟩⟩
theorem sf_ext {i : Nat} {x : Str} {fe : Rho → Option (List D)} {p1 p2 p3 : Pos} (hN : X.N[i]? = some x) (hv : Vis X.env.scope x) (h : NF X e fe) (hd : (x == ("__debug__" : Str)) = false := by decide) (hcd : (x == ("__classdict__" : Str)) = false := by decide)
    (hbase : attributeBase (.Name x p1) "extend" X.env (eval (.Name x p1) X.env) = eval (.Name x p1) X.env := by rfl)
    (hfew : ((backTo p3 (starEach [e] X.env)).all (fun x => !x.1) && (backToKw p3 (keywordEach [] X.env)).all (fun x => x.1.isSome) && decide (([e] : List Expr).length + ([] : List Keyword).length + (if ([] : List Keyword).isEmpty then 0 else 1) < 30)) = true := by rfl)
    (hline : (p2.endLine == p3.line) = true := by rfl) (hs : starEach [e] X.env = (false, eval e X.env) :: starEach [] X.env := by rfl) (hs2 : swapsWith (.Call (.Attribute (.Name x p1) "extend" p2) [e] [] p3) none pos.line X.env = pure false := by rfl) :
    SF X (.Expr (.Call (.Attribute (.Name x p1) "extend" p2) [e] [] p3) pos) (sExt i fe) := (sw_ext hN hv h hd hcd hbase hfew hline hs hs2).imp fW_mono fun ρ K ⟨p, e, k⟩ => by
  unfold sExt at e
  split at e
  · rename_i ps hp
    obtain ⟨z, e1, e2⟩ := Option.bind_eq_some_iff.mp e
    split at e2
    · cases e2
      exact ⟨ps, hp, z, e1, by assumption, k⟩
    · cases e2
  · cases e
theorem e_sExt {i : Nat} {f : Rho → Option (List D)} {ρ : Rho} {ps zs : List D} (h : ρ[i]? = some (.ol ps)) (e : f ρ = some zs) (hl : ps.length + zs.length ≤ sizeLine) : sExt i f ρ = some (.nx (ρ.set i (.ol (ps ++ zs)))) := by
  unfold sExt
  rw [h]
  show ((f ρ).bind _) = _
  rw [e, Option.bind_some, if_pos hl]
/-! ### displays with a star -/
def wStar (T : TW) (U : TL) : TL := fun ρ K => T ρ fun p => ∃ xs, items p = some xs ∧ U ρ fun ys => K (xs ++ ys)
theorem ea_star {T : TW} {U : TL} {es : List Expr} {p : Pos} (ha : EW X e T) (hr : EA X es U) (hs : starEach (.Starred e p :: es) X.env = (true, eval e X.env) :: starEach es X.env := by rfl) : EA X (.Starred e p :: es) (wStar T U) :=
  ⟨fun ρ K K' h q => ha.mono _ _ _ (fun x ⟨xs, e, k⟩ => ⟨xs, e, hr.mono _ _ _ (fun ys => h _) k⟩) q, PA.imp (StX.pa_star ha.pe hr.pa hs) fun σ H Q ⟨B, F, ρ, R, q⟩ => ⟨B, F, ρ, R, ha.mono _ _ _ (fun x ⟨xs, ex, k⟩ F1 H1 v R1 e1 d1 => by
    have key : ∃ a vs, v = .ref a ∧ (SqT X.K F1 a vs ∨ SqL X.K F1 a vs) ∧ DpAll X.K F1 vs xs := by
      unfold items at ex
      split at ex
      · cases ex
        obtain ⟨a, vs, rfl, s, r⟩ := Dp.inv_lst d1
        exact ⟨a, vs, rfl, .inr s, r⟩
      · cases ex
        obtain ⟨a, vs, rfl, s, r⟩ := Dp.inv_tup d1
        exact ⟨a, vs, rfl, .inl s, r⟩
      · cases ex
    obtain ⟨a, vs, rfl, s, r⟩ := key
    refine ⟨a, vs, rfl, ?_, B, F1, ρ, R1, hr.mono _ _ _ (fun ys k2 F2 H2 ws R2 e2 d2 => k2 F2 H2 _ R2 (e1.trans e2) ((r.same e2).append d2)) k⟩
    rcases s with s | s
    · exact .inl (sqT_same R1.sub s)
    · exact .inr (sqL_same R1.sub s)) q⟩⟩
def vTupS (f : Rho → Option (List D)) : Rho → Option D := fun ρ => (f ρ).bind fun ps => if ps.length ≤ sizeLine then some (.tuple ps) else none
theorem ef_tupS {f : Rho → Option (List D)} {es : List Expr} {x1} (h : EAF X es f) : EF X (.Tuple es x1 pos) (vTupS f) :=
  ⟨fW_mono, (pe_tup h.pa).imp fun σ H Q ⟨B, F, ρ, R, p, e, q⟩ => by
    obtain ⟨ps, e1, e2⟩ := Option.bind_eq_some_iff.mp e
    split at e2
    · rename_i hl
      cases e2
      refine ⟨B, F, ρ, R, ps, e1, fun F1 H1 vs R1 s1 d1 => ⟨by rw [d1.length]; exact hl, fun p hp => ?_⟩⟩
      have n' := R1.sub.free hp
      exact q _ _ _ (R1.grow hp) (s1.trans (same_upd n')) (.tup upd_same (d1.same (same_upd n')))
    · cases e2⟩
def fStar (f : Rho → Option D) (g : Rho → Option (List D)) : Rho → Option (List D) := fun ρ => (f ρ).bind fun p => (items p).bind fun xs => (g ρ).map fun ys => xs ++ ys
theorem ea_starF {f : Rho → Option D} {gs : Rho → Option (List D)} {es : List Expr} {p : Pos} (ha : EF X e f) (hr : EAF X es gs) (hs : starEach (.Starred e p :: es) X.env = (true, eval e X.env) :: starEach es X.env := by rfl) : EAF X (.Starred e p :: es) (fStar f gs) :=
  (ea_star ha hr hs).imp fW_mono fun ρ K ⟨z, e, k⟩ => by
    obtain ⟨p, e1, e⟩ := Option.bind_eq_some_iff.mp e
    obtain ⟨xs, e2, e⟩ := Option.bind_eq_some_iff.mp e
    obtain ⟨ys, e3, rfl⟩ := Option.map_eq_some_iff.mp e
    exact ⟨p, e1, xs, e2, ys, e3, k⟩
@[simp] theorem e_vTupS (f : Rho → Option (List D)) (ρ : Rho) : vTupS f ρ = (f ρ).bind fun ps => if ps.length ≤ sizeLine then some (.tuple ps) else none := rfl
@[simp] theorem e_fStar (f : Rho → Option D) (g : Rho → Option (List D)) (ρ : Rho) : fStar f g ρ = (f ρ).bind fun p => (items p).bind fun xs => (g ρ).map fun ys => xs ++ ys := rfl
end
end L2.P

set_option Elab.async false
set_option linter.all false
set_option maxRecDepth 100000
set_option maxHeartbeats 4000000
/-! PL26: sets of people, ends, what can come, in plain Lean. -/
namespace L2.P
open PySem PySem.Spec PyProof.Rows L2
theorem s_ext {i : Nat} {es : Rho → Option (List D)} {ρ : Rho} {K : Fl → Prop} {ps : List D} (zs : List D) (hi : ρ[i]? = some (.ol ps)) (h : es ρ = some zs) (hl : ps.length + zs.length ≤ sizeLine) (k : K (.nx (ρ.set i (.ol (ps ++ zs))))) : fW (sExt i es) ρ K := ⟨_, e_sExt hi h hl, k⟩
/-! ### lists of sets -/
def chM (ps : List Int) : List (List Int) := ps.foldl (fun acc p => acc ++ acc.map (· ++ [p])) [[]]
theorem chM_snoc (ps : List Int) (p : Int) : chM (ps ++ [p]) = chM ps ++ (chM ps).map (· ++ [p]) := by unfold chM; rw [List.foldl_append]; rfl
theorem sub_snoc {α : Type} {r l : List α} {p : α} : r.Sublist (l ++ [p]) ↔ r.Sublist l ∨ ∃ s, r = s ++ [p] ∧ s.Sublist l := by
  rw [List.sublist_append_iff]
  constructor
  · rintro ⟨a, b, rfl, ha, hb⟩
    cases hb with
    | cons _ h =>
      cases h
      rw [List.append_nil]; exact .inl ha
    | cons_cons _ h =>
      cases h
      exact .inr ⟨a, rfl, ha⟩
  · rintro (h | ⟨s, rfl, h⟩)
    · exact ⟨r, [], by simp, h, List.nil_sublist _⟩
    · exact ⟨s, [p], rfl, h, List.Sublist.refl _⟩
theorem snoc_ind {α : Type} {P : List α → Prop} (h0 : P []) (h1 : ∀ l x, P l → P (l ++ [x])) : ∀ l, P l := fun l => by
  have : ∀ n (l : List α), l.length = n → P l := fun n => by
    induction n with
    | zero => intro l hl; rw [List.length_eq_zero_iff.mp hl]; exact h0
    | succ n ih =>
      intro l hl
      have hne : l ≠ [] := fun e => by rw [e] at hl; cases hl
      rw [← List.dropLast_concat_getLast hne]
      exact h1 _ _ (ih _ (by rw [List.length_dropLast]; omega))
  exact this _ l rfl
theorem mem_chM {r : List Int} : ∀ {ps : List Int}, r ∈ chM ps ↔ r.Sublist ps := fun {ps} => by
  revert r
  refine snoc_ind (P := fun ps => ∀ {r : List Int}, r ∈ chM ps ↔ r.Sublist ps) (fun {r} => ?_) (fun l x ih {r} => ?_) ps
  · show r ∈ [[]] ↔ _
    rw [List.mem_singleton, List.sublist_nil]
  · rw [chM_snoc, List.mem_append, List.mem_map, sub_snoc, ih]
    constructor
    · rintro (h | ⟨s, hs, rfl⟩)
      · exact .inl h
      · exact .inr ⟨s, rfl, ih.mp hs⟩
    · rintro (h | ⟨s, rfl, hs⟩)
      · exact .inl h
      · exact .inr ⟨s, ih.mpr hs, rfl⟩
theorem chM_len : ∀ ps : List Int, (chM ps).length = 2 ^ ps.length := snoc_ind rfl fun l x ih => by
  rw [chM_snoc, List.length_append, List.length_map, ih, List.length_append, List.length_singleton]
  omega
theorem Ppl.sub {n : Nat} {st r : List Int} (h : Ppl n st) (hr : r.Sublist st) : Ppl n r := ⟨h.up.sublist hr, fun k hk => h.inn k (hr.subset hk)⟩
/-- people in order are a sublist where they are among them -/
theorem sub_of_mem : ∀ {r st : List Int}, r.Pairwise (· < ·) → st.Pairwise (· < ·) → (∀ k ∈ r, k ∈ st) → r.Sublist st
  | [], st, _, _, _ => List.nil_sublist _
  | x :: r, [], _, _, h => absurd (h x List.mem_cons_self) (by simp)
  | x :: r, y :: st, hr, hs, h => by
    obtain ⟨r1, r2⟩ := List.pairwise_cons.mp hr
    obtain ⟨s1, s2⟩ := List.pairwise_cons.mp hs
    by_cases e : x = y
    · subst e
      refine List.Sublist.cons₂ _ (sub_of_mem r2 s2 fun k hk => ?_)
      rcases List.mem_cons.mp (h k (List.mem_cons_of_mem _ hk)) with rfl | h'
      · have := r1 k hk; omega
      · exact h'
    · refine List.Sublist.cons _ (sub_of_mem hr s2 fun k hk => ?_)
      rcases List.mem_cons.mp (h k hk) with rfl | h'
      · rcases List.mem_cons.mp hk with rfl | hk
        · exact absurd rfl e
        · have := r1 k hk
          rcases List.mem_cons.mp (h x List.mem_cons_self) with rfl | hx
          · exact absurd rfl e
          · have := s1 x hx; omega
      · exact h'
/-! ### what stands apart, what can come -/
def apM (w : List (List Int)) (r : List Int) : Bool := !(r.flatMap fun x => r.map fun y => decide (y ∈ fr w x)).any id
theorem apM_iff {w : List (List Int)} {r : List Int} : apM w r = true ↔ ∀ x ∈ r, ∀ y ∈ r, y ∉ fr w x := by
  unfold apM
  rw [Bool.not_eq_true', List.any_eq_false]
  constructor
  · intro h x hx y hy hm
    exact h true (List.mem_flatMap.mpr ⟨x, hx, List.mem_map.mpr ⟨y, hy, by simp [hm]⟩⟩) rfl
  · intro h b hb e
    obtain ⟨x, hx, hb⟩ := List.mem_flatMap.mp hb
    obtain ⟨y, hy, rfl⟩ := List.mem_map.mp hb
    exact h x hx y hy (of_decide_eq_true e)
def mayM (w : List (List Int)) (st goal : List Int) : List Int := st.filter fun x => !has w goal (fun x k => decide (k < x)) x
theorem mem_mayM {w : List (List Int)} {st goal : List Int} {x : Int} : x ∈ mayM w st goal ↔ x ∈ st ∧ ∀ k ∈ fr w x, k < x → k ∉ goal := by
  unfold mayM has
  rw [List.mem_filter, Bool.not_eq_true', List.any_eq_false]
  simp only [Bool.and_eq_true, decide_eq_true_eq]
  exact ⟨fun ⟨a, b⟩ => ⟨a, fun k hk h1 h2 => b k hk ⟨h1, h2⟩⟩, fun ⟨a, b⟩ => ⟨a, fun k hk ⟨h1, h2⟩ => b k hk h1 h2⟩⟩
def fitM (w : List (List Int)) (st goal : List Int) : Bool := (goal.all fun x => decide (x ∈ st)) && ((st.filter fun x => !decide (x ∈ goal)).all fun x => ((fr w x).filter fun k => decide (x < k)).any fun k => decide (k ∈ mayM w st goal))
theorem fitM_iff {w : List (List Int)} {st goal : List Int} : fitM w st goal = true ↔ (∀ x ∈ goal, x ∈ st) ∧ ∀ x ∈ st, x ∉ goal → ∃ k ∈ fr w x, x < k ∧ k ∈ mayM w st goal := by
  unfold fitM
  simp only [Bool.and_eq_true, List.all_eq_true, List.any_eq_true, decide_eq_true_eq, List.mem_filter, Bool.not_eq_true', decide_eq_false_iff_not]
  constructor
  · rintro ⟨a, b⟩
    refine ⟨a, fun x hx hn => ?_⟩
    obtain ⟨k, ⟨h1, h2⟩, h3⟩ := b x ⟨hx, hn⟩
    exact ⟨k, h1, h2, h3⟩
  · rintro ⟨a, b⟩
    refine ⟨a, fun x ⟨hx, hn⟩ => ?_⟩
    obtain ⟨k, h1, h2, h3⟩ := b x hx hn
    exact ⟨k, ⟨h1, h2⟩, h3⟩
/-! ### in order -/
def sortR (rs : List (List Int)) : List (List Int) := rs.mergeSort (PySem.W.dataLe false tR)
theorem sortP_R (rs : List (List Int)) : sortP (rs.map tR) = (sortR rs).map tR := by
  rw [sortP_ms]
  unfold sortR
  have z := List.map_mergeSort (f := tR) (r := PySem.W.dataLe false tR) (s := PySem.W.dataLe false id) (l := rs) (fun a _ b _ => rfl)
  rw [z]
theorem sortR_perm (rs : List (List Int)) : (sortR rs).Perm rs := List.mergeSort_perm _ _
theorem mem_sortR {rs : List (List Int)} {r : List Int} : r ∈ sortR rs ↔ r ∈ rs := (sortR_perm rs).mem_iff
theorem alike_tR (r s : List Int) : PySem.W.alike (tR r) (tR s) = true := by
  show PySem.W.alikeAll (r.map .int) (s.map .int) = true
  exact PySem.W.alike_ints r s
theorem okM_R (rs : List (List Int)) : okM (rs.map tR) = true := by
  unfold okM
  rw [Bool.and_eq_true, List.all_eq_true]
  refine ⟨fun x hx => ?_, encInt.tup.oks rs⟩
  obtain ⟨e, _, rfl⟩ := List.mem_map.mp hx
  rw [Bool.and_eq_true, List.all_eq_true]
  refine ⟨rfl, fun y hy => ?_⟩
  obtain ⟨e', _, rfl⟩ := List.mem_map.mp hy
  exact alike_tR _ _
theorem srt_R (rs : List (List Int)) : gSrt [.list (rs.map tR)] = some ((sortR rs).map tR) := by
  show (if okM (rs.map tR) = true then _ else _) = _
  rw [if_pos (okM_R rs), sortP_R]
def endsM (w : List (List Int)) (st : List Int) : List (List Int) := sortR ((chM st).filter fun r => apM w r && fitM w st r)
theorem mem_endsM {w : List (List Int)} {st r : List Int} : r ∈ endsM w st ↔ r.Sublist st ∧ apM w r = true ∧ fitM w st r = true := by
  unfold endsM
  rw [mem_sortR, List.mem_filter, mem_chM, Bool.and_eq_true]
theorem endsM_len {w : List (List Int)} {st : List Int} : (endsM w st).length ≤ 2 ^ st.length := by
  unfold endsM
  rw [(sortR_perm _).length_eq, ← chM_len]
  exact List.length_filter_le _ _
end L2.P

set_option Elab.async false
set_option linter.all false
set_option maxRecDepth 100000
set_option maxHeartbeats 4000000
/-! PL27: [..] * n; xs.count(k). -/
namespace L2.P
open PySem PySem.Spec PyProof.Rows L2
theorem dpAll_rep {K : Fg} {F : Hp} {vs : List V} {ps : List D} (d : DpAll K F vs ps) : ∀ n : Nat, DpAll K F (List.replicate n vs).flatten (List.replicate n ps).flatten
  | 0 => .nil
  | n + 1 => by
    rw [List.replicate_succ, List.replicate_succ, List.flatten_cons, List.flatten_cons]
    exact d.append (dpAll_rep d n)
def repI (xs : List D) : D → Option (List D)
  | .int k => if -(2 ^ 63) ≤ k ∧ k < 2 ^ 63 ∧ xs.length * k.toNat ≤ sizeLine then some (List.replicate k.toNat xs).flatten else none
  | _ => none
def nRep (f : Rho → Option (List D)) (g : Rho → Option D) : Rho → Option (List D) := fun ρ => (f ρ).bind fun xs => (g ρ).bind fun k => repI xs k
@[simp] theorem e_nRep (f : Rho → Option (List D)) (g : Rho → Option D) (ρ : Rho) : nRep f g ρ = (f ρ).bind fun xs => (g ρ).bind fun k => repI xs k := rfl
def dCount : G2
  | .list xs, .int k => (intsD xs).map fun ns => .int (ns.count k : Nat)
  | _, _ => none
theorem e_count (ns : List Int) (k : Int) : dCount (.list (ns.map .int)) (.int k) = some (.int (ns.count k : Nat)) := by
  show (intsD _).map _ = _
  rw [intsD_map]; rfl
section
variable {X : Cx} {a b : Expr} {pos : Pos}
theorem nf_rep {f : Rho → Option (List D)} {g : Rho → Option D} (ha : NF X a f) (hb : EF X b g) : NF X (.BinOp a .Mult b pos) (nRep f g) :=
  ⟨fW_mono, (pe_op op_rep ha.pe hb.pe).imp fun σ H Q ⟨B, F, ρ, R, zs, e, k⟩ => by
    obtain ⟨xs, e1, e⟩ := Option.bind_eq_some_iff.mp e
    obtain ⟨n, e2, e⟩ := Option.bind_eq_some_iff.mp e
    unfold repI at e
    split at e
    · rename_i n
      split at e
      · rename_i hn
        cases e
        refine ⟨B, F, ρ, R, xs, e1, fun F1 H1 a ys R1 s1 nn d => ⟨B, _, ρ, R1.grow (o := .lst ys) nn, _, e2, fun F2 H2 v R2 s2 dv => ?_⟩⟩
        obtain rfl := Dp.inv_int dv
        have h2 : H2 a = some (.lst ys) := R2.sub _ _ (s2 _ _ upd_same)
        have n1 := R1.sub.free nn
        have sF : Same F1 F2 := (same_upd n1).trans s2
        have hl := d.length
        refine ⟨a, n, ys, rfl, rfl, h2, hn.1, hn.2.1, by rw [hl]; exact hn.2.2, fun p hp => k F2 H2 p _ R2 (s1.trans sF) hp (dpAll_rep (d.same sF) _)⟩
      · cases e
    · cases e⟩
theorem ef_count {f g : Rho → Option D} {p2 cpos : Pos} (ha : XF X a f) (hb : EF X b g) (hbase : attributeBase a "count" X.env (eval a X.env) = eval a X.env := by rfl)
    (hfew : ((backTo cpos (starEach [b] X.env)).all (fun x => !x.1) && (backToKw cpos (keywordEach [] X.env)).all (fun x => x.1.isSome) && decide (([b] : List Expr).length + ([] : List Keyword).length + (if ([] : List Keyword).isEmpty then 0 else 1) < 30)) = true := by rfl)
    (hline : (p2.endLine == cpos.line) = true := by rfl) (hs : starEach [b] X.env = (false, eval b X.env) :: starEach [] X.env := by rfl) : EF X (.Call (.Attribute a "count" p2) [b] [] cpos) (b2 dCount f g) :=
  ⟨fW_mono, (pe_bm PySem.F.plainAttrs_list PySem.F.slot_list_count PySem.F.type_list_count mt_lcount ha.pe (pa_cons hb.pe pa_nil hs) hbase hfew hline hs rfl).imp fun σ H Q ⟨B, F, ρ, R, z, e, k⟩ => by
    have ⟨x, y, e1, e2, e3⟩ : ∃ x y, f ρ = some x ∧ g ρ = some y ∧ dCount x y = some z := by
      obtain ⟨x, e1, e⟩ := Option.bind_eq_some_iff.mp e
      obtain ⟨y, e2, e⟩ := Option.bind_eq_some_iff.mp e
      exact ⟨x, y, e1, e2, e⟩
    unfold dCount at e3
    split at e3
    · rename_i xs i
      obtain ⟨ns, e4, rfl⟩ := Option.map_eq_some_iff.mp e3
      refine ⟨B, F, ρ, R, _, e1, fun F1 H1 v R1 s1 d => ?_⟩
      obtain ⟨c, ys, rfl, s, r⟩ := pk_lst R1 d
      refine ⟨.inl ⟨rfl, ys, s⟩, B, F1, ρ, R1, _, e2, fun F2 H2 u R2 s2 du => ?_⟩
      obtain rfl := Dp.inv_int du
      have d2 := d.mono s2
      obtain ⟨c', ys', ec, s', r'⟩ := pk_lst R2 d2
      cases ec
      rw [intsD_some e4] at r'
      rw [dpAll_ints ns r'] at s'
      exact ⟨c, ns, i, rfl, rfl, s', k F2 H2 _ R2 (s1.trans s2) (.int _)⟩
    · cases e3⟩
end
end L2.P

set_option Elab.async false
set_option linter.all false
set_option maxRecDepth 100000
set_option maxHeartbeats 4000000
/-! PL28: ints in order; what calls bring, in plain Lean. -/
namespace L2.P
open PySem PySem.Spec PyProof.Rows L2
def sortI (xs : List Int) : List Int := xs.mergeSort fun a b => decide (a ≤ b)
theorem sortP_I (xs : List Int) : sortP (xs.map .int) = (sortI xs).map .int := by
  rw [sortP_ms]
  unfold sortI
  have e : PySem.W.dataLe false PyData.int = fun a b : Int => decide (a ≤ b) := PySem.W.dataLe_int id
  rw [← e]
  have z := List.map_mergeSort (f := PyData.int) (r := PySem.W.dataLe false PyData.int) (s := PySem.W.dataLe false id) (l := xs) (fun a _ b _ => rfl)
  rw [z]
theorem sortI_perm (xs : List Int) : (sortI xs).Perm xs := List.mergeSort_perm _ _
theorem sortI_pw (xs : List Int) : (sortI xs).Pairwise (· ≤ ·) := by
  have := List.pairwise_mergeSort (le := fun a b : Int => decide (a ≤ b)) (fun a b c h1 h2 => by simp at *; omega) (fun a b => by simp; omega) xs
  exact this.imp fun h => by simpa using h
theorem pw_nodup {xs : List Int} (h : xs.Pairwise (· < ·)) : xs.Nodup := h.imp fun h => by omega
theorem pw_lt {xs : List Int} : xs.Pairwise (· ≤ ·) → xs.Nodup → xs.Pairwise (· < ·) := fun h n => by
  have := h.and n
  exact this.imp fun ⟨a, b⟩ => by omega
theorem sortI_uniq {xs st : List Int} (hp : xs.Perm st) (h : st.Pairwise (· < ·)) : sortI xs = st := by
  have hq := (sortI_perm xs).trans hp
  exact pw_unique (pw_lt (sortI_pw xs) (hq.nodup_iff.mpr (pw_nodup h))) h fun k => hq.mem_iff
theorem okM_I (xs : List Int) : okM (xs.map .int) = true := by
  unfold okM
  rw [Bool.and_eq_true, List.all_eq_true]
  refine ⟨fun x hx => ?_, encInt.oks xs⟩
  obtain ⟨e, _, rfl⟩ := List.mem_map.mp hx
  rw [Bool.and_eq_true, List.all_eq_true]
  refine ⟨rfl, fun y hy => ?_⟩
  obtain ⟨e', _, rfl⟩ := List.mem_map.mp hy
  rfl
theorem srt_IT {xs st : List Int} (hp : xs.Perm st) (h : st.Pairwise (· < ·)) : gSrt [.tuple (xs.map .int)] = some (st.map .int) := by
  show (if okM (xs.map .int) = true then _ else _) = _
  rw [if_pos (okM_I xs), sortP_I, sortI_uniq hp h]
theorem srt_IL {xs st : List Int} (hp : xs.Perm st) (h : st.Pairwise (· < ·)) : gSrt [.list (xs.map .int)] = some (st.map .int) := by
  show (if okM (xs.map .int) = true then _ else _) = _
  rw [if_pos (okM_I xs), sortP_I, sortI_uniq hp h]
/-! ### calls -/
theorem mem_callM {w : List (List Int)} {st : List Int} {p x : Int} : x ∈ callM w st p ↔ x ∈ st ∧ (p ∈ st → p ≤ x ∨ x ∉ fr w p) := by
  unfold callM
  split
  · rename_i h
    rw [List.mem_filter, Bool.or_eq_true, decide_eq_true_eq, Bool.not_eq_true', decide_eq_false_iff_not]
    exact ⟨fun a => ⟨a.1, fun _ => a.2⟩, fun a => ⟨a.1, a.2 h⟩⟩
  · rename_i h
    exact ⟨fun a => ⟨a, fun z => absurd z h⟩, fun a => a.1⟩
theorem mem_fold {w : List (List Int)} : ∀ (cs s : List Int), ∀ k ∈ cs.foldl (callM w) s, k ∈ s
  | [], s, k, h => h
  | c :: cs, s, k, h => (mem_callM.mp (mem_fold cs (callM w s c) k h)).1
/-- who has sat down had a taller friend whose lower friends have all sat down -/
theorem fold_gone {w : List (List Int)} (h : Web w) : ∀ (cs s : List Int), Ppl w.length s → ∀ x ∈ s, x ∉ cs.foldl (callM w) s → ∃ k ∈ fr w x, x < k ∧ k ∈ s ∧ ∀ j ∈ fr w k, j < k → j ∉ cs.foldl (callM w) s
  | [], s, _, x, hx, hn => absurd hx hn
  | c :: cs, s, hs, x, hx, hn => by
    by_cases e : x ∈ callM w s c
    · obtain ⟨k, k1, k2, k3, k4⟩ := fold_gone h cs (callM w s c) (callM_ppl hs) x e hn
      exact ⟨k, k1, k2, (mem_callM.mp k3).1, k4⟩
    · have hi := hs.inn x hx
      have hc : c ∈ s ∧ x < c ∧ x ∈ fr w c := by
        apply Classical.byContradiction
        intro q
        refine e (mem_callM.mpr ⟨hx, fun hcs => ?_⟩)
        by_cases e1 : c ≤ x
        · exact .inl e1
        · exact .inr fun e2 => q ⟨hcs, by omega, e2⟩
      obtain ⟨c1, c2, c3⟩ := hc
      have hci := hs.inn c c1
      refine ⟨c, h.sym c x hci.1 hci.2 c3, c2, c1, fun j hj hjc hjf => ?_⟩
      have := (mem_callM.mp (mem_fold cs (callM w s c) j hjf)).2 c1
      rcases this with q | q
      · omega
      · exact q hj
/-- what calls bring can come -/
theorem fit_fold {w : List (List Int)} (h : Web w) {st : List Int} (hs : Ppl w.length st) (cs : List Int) : fitM w st (cs.foldl (callM w) st) = true := by
  rw [fitM_iff]
  refine ⟨mem_fold cs st, fun x hx hn => ?_⟩
  obtain ⟨k, k1, k2, k3, k4⟩ := fold_gone h cs st hs x hx hn
  exact ⟨k, k1, k2, mem_mayM.mpr ⟨k3, k4⟩⟩
/-- who was called and stands has no lower friend who stands -/
theorem fold_called {w : List (List Int)} : ∀ (cs s : List Int), ∀ c ∈ cs, c ∈ cs.foldl (callM w) s → ∀ j ∈ fr w c, j < c → j ∉ cs.foldl (callM w) s
  | c :: cs, s, d, hd, hf, j, hj, hjd, hjf => by
    rcases List.mem_cons.mp hd with rfl | hd
    · have a := (mem_callM.mp (mem_fold cs _ d hf)).1
      rcases (mem_callM.mp (mem_fold cs _ j hjf)).2 a with q | q
      · omega
      · exact q hj
    · exact fold_called cs (callM w s c) d hd hf j hj hjd hjf
/-- all are called: an end -/
theorem ap_fold {w : List (List Int)} (h : Web w) {st : List Int} (hs : Ppl w.length st) {cs : List Int} (hc : ∀ p ∈ st, p ∈ cs) : apM w (cs.foldl (callM w) st) = true := by
  rw [apM_iff]
  intro x hx y hy hf
  have xs := mem_fold cs st x hx
  have ys := mem_fold cs st y hy
  have hi := hs.inn x xs
  have h2 := h.inn x y hi.1 hi.2 hf
  rcases Int.lt_or_gt_of_ne h2.2.2 with c | c
  · exact fold_called cs st x (hc x xs) hx y hf c hy
  · exact fold_called cs st y (hc y ys) hy x (h.sym x y hi.1 hi.2 hf) c hx
/-- an end stays -/
theorem call_ap {w : List (List Int)} {s : List Int} (h : apM w s = true) (p : Int) : callM w s p = s := by
  rw [apM_iff] at h
  unfold callM
  split
  · rename_i hp
    rw [List.filter_eq_self]
    intro o ho
    rw [Bool.or_eq_true, decide_eq_true_eq, Bool.not_eq_true', decide_eq_false_iff_not]
    exact .inr fun z => h p hp o ho z
  · rfl
theorem fold_ap {w : List (List Int)} {s : List Int} (h : apM w s = true) : ∀ cs : List Int, cs.foldl (callM w) s = s
  | [] => rfl
  | c :: cs => by rw [List.foldl_cons, call_ap h c, fold_ap h cs]
theorem stAt_all (w : List (List Int)) (st cs : List Int) : stAt w st cs cs.length = cs.foldl (callM w) st := by unfold stAt; rw [List.take_length]
end L2.P

set_option Elab.async false
set_option linter.all false
set_option maxRecDepth 100000
set_option maxHeartbeats 4000000
/-! PL29: dicts: displays, in, [], get, len, list; d[k] = v. -/
namespace L2.P
open PySem PySem.Spec PyProof.Rows L2
section
variable {X : Cx} {k v e : Expr} {pos : Pos}
def tDispT (tk tv : TE) : TE := fun σ H Q => ∀ p, H p = none → tPairs [(tk, tv)] σ (upd H p (.dT [])) fun ps H2 => H2 p = some (.dT []) ∧ ∃ (b : Addr) (ks : List Key) (y : V), ps = [(.ref b, y)] ∧ H2 b = some (.tup (ks.map kV)) ∧ Q (.ref p) (upd H2 p (.dT [(ks, y)]))
theorem pe_dispT {tk tv : TE} (hu : Rm X) (hk : PE X k tk) (hv : PE X v tv) : PE X (.Dict [some k] [v] pos) (tDispT tk tv) := by
  refine ⟨fun pins s σ H Q I q => ?_⟩
  have hn := I.hok.fresh (Nat.le_refl s.heap.objs.size)
  have I1 := I.laid (a := s.heap.objs.size) (o := .dT []) (h' := s.heap.push { cls := .type "dict", data := .dict #[] }) (t' := s.toks) (fun _ _ q => Heap.get?_push_of_some _ q) (Nat.le_refl _) (dt_empty s.heap I.big)
  rw [arm_eval_Dict, zip_pairTrees [some k] [v] X.env pos rfl rfl, dictDisplay_pairs _ (by simp [pairTrees]) (by simp [pairTrees])]
  refine wpAny_bind (wpAny_standAt (wpAny_bind (wpAny_subDictH (knd := tupleKind (mixKind X.prog X.w)) (Q := fun d s' => wpAny (model X.prog X.w) X.A (pure (Value.ref d)) (EP X pins σ Q) X.xe s') (show X.A.units < cLine by unfold Rm at hu; omega) (by simp [pairTrees]) ?_)))
  refine thn ((pps_cons hk hv pps_nil).run pins _ σ _ _ I1 (q _ hn)) fun ws s2 ⟨ps, H2, I2, rel, ep, b, ks, y, eps, eb, q2⟩ => ?_
  subst eps
  cases rel with
  | @cons _ r0 _ r1 hr rel =>
    cases rel
    obtain ⟨r01, r02⟩ := r0
    obtain ⟨rk, ry⟩ := hr
    cases (show r01 = Value.ref b from rk)
    obtain ⟨z, hd, xs, rel0, dd⟩ := dt_of I2.hok ep
    cases rel0
    refine ⟨[(ks, b, r02)], ⟨rfl, rfl, key_of I2.hok eb, trivial⟩, dd, fun h' tk dd' hs => wpAny_pure ⟨.ref s.heap.objs.size, _, ?_, rfl, q2⟩⟩
    obtain ⟨o, es, epo, hq, h2, h3, h4, _, h5⟩ := dd'
    refine d_write I2 (by rw [ep]; exact True.intro) hs ⟨o, hq⟩ ⟨by rw [sizeLine_eq]; simp, hd, [(ks, b, r02)], .cons ⟨rfl, ?_, ry⟩ .nil, o, es, epo, hq, h2, h3, h4, h5⟩
    rw [upd_ne (ne_of eb ep (fun z => nomatch z))]
    exact eb
end
end L2.P
namespace L2.P
open PySem PySem.Spec PyProof.Rows L2
/-! ### a dict's items as data -/
def lookD (kvs : List (D × D)) (k : D) : Option D := (kvs.find? fun e => PyData.eqv e.1 k).map (·.2)
def putD (kvs : List (D × D)) (k v : D) : List (D × D) := if (kvs.any fun e => PyData.eqv e.1 k) = true then kvs.map (fun e => if PyData.eqv e.1 k = true then (e.1, v) else e) else kvs ++ [(k, v)]
def kindOk : Bool → D → Bool
  | false, .int _ => true
  | true, .tuple xs => (intsD xs).isSome
  | _, _ => false
def kindOf : List (D × D) → Option Bool
  | (.int _, .dict [(.none, .none)]) :: _ => none
  | (.int _, _) :: _ => some false
  | (.tuple _, _) :: _ => some true
  | _ => none
def slotD (i : Nat) : Rho → Option (Bool × List (D × D)) := fun ρ => match ρ[i]? with
  | some (.od t kvs) => some (t, kvs)
  | some (.v (.dict kvs)) => (kindOf kvs).map fun t => (t, kvs)
  | _ => none
/-- both or none -/
inductive OpD (K : Fg) (F : Hp) : Option V → Option D → Prop
  | no : OpD K F none none
  | yes {v : V} {p : D} : Dp K F v p → OpD K F (some v) (some p)
theorem OpD.isSome {K : Fg} {F : Hp} {o : Option V} {p : Option D} (h : OpD K F o p) : o.isSome = p.isSome := by cases h <;> rfl
theorem eqv_int (a b : Int) : PyData.eqv (.int a) (.int b) = decide (a = b) := encInt.1 a b
theorem eqv_ints (a b : List Int) : PyData.eqv (.tuple (a.map .int)) (.tuple (b.map .int)) = decide (a = b) := encInt.tup.1 a b
theorem lookD_cons (q : D × D) (kvs : List (D × D)) (k : D) : lookD (q :: kvs) k = if PyData.eqv q.1 k = true then some q.2 else lookD kvs k := by
  unfold lookD
  rw [List.find?_cons]
  cases PyData.eqv q.1 k <;> rfl
theorem valV_cons {κ : Type} [DecidableEq κ] (q : κ × V) (kvs : List (κ × V)) (k : κ) : valV (q :: kvs) k = if q.1 = k then some q.2 else valV kvs k := by
  by_cases h : q.1 = k
  · rw [if_pos h]; exact valV_pos h
  · rw [if_neg h]; exact valV_neg h
theorem inlM_inj {a b : List Int} : a.map (Sum.inl (β := Str)) = b.map Sum.inl ↔ a = b := by
  constructor
  · intro h
    induction a generalizing b with
    | nil => cases b with
      | nil => rfl
      | cons _ _ => cases h
    | cons x a ih => cases b with
      | nil => cases h
      | cons y b =>
        rw [List.map_cons, List.map_cons] at h
        obtain ⟨h1, h2⟩ := List.cons.inj h
        rw [Sum.inl.inj h1, ih h2]
  · rintro rfl; rfl
section
variable {K : Fg} {F : Hp}
theorem DkAll.val (n : Int) : ∀ {es : List (Key × V)} {kvs : List (D × D)}, DkAll K F es kvs → OpD K F (valV es (.inl n)) (lookD kvs (.int n))
  | _, _, .nil => .no
  | _, _, .cons (k := k) d r => by
    rw [valV_cons, lookD_cons, eqv_int]
    by_cases h : k = n
    · subst h; rw [if_pos rfl, if_pos (by simp)]; exact .yes d
    · rw [if_neg (fun z => h (Sum.inl.inj z)), if_neg (by simpa using h)]; exact DkAll.val n r
theorem DtAll.val (ns : List Int) : ∀ {es : List (List Key × V)} {kvs : List (D × D)}, DtAll K F es kvs → OpD K F (valV es (ns.map .inl)) (lookD kvs (.tuple (ns.map .int)))
  | _, _, .nil => .no
  | _, _, .cons (ks := ks) d r => by
    rw [valV_cons, lookD_cons, eqv_ints]
    by_cases h : ks = ns
    · subst h; rw [if_pos rfl, if_pos (by simp)]; exact .yes d
    · rw [if_neg (fun z => h (inlM_inj.mp z)), if_neg (by simpa using h)]; exact DtAll.val ns r
theorem DkAll.append : ∀ {es es' : List (Key × V)} {kvs kvs' : List (D × D)}, DkAll K F es kvs → DkAll K F es' kvs' → DkAll K F (es ++ es') (kvs ++ kvs')
  | _, _, _, _, .nil, h => h
  | _, _, _, _, .cons d r, h => .cons d (DkAll.append r h)
theorem DtAll.append : ∀ {es es' : List (List Key × V)} {kvs kvs' : List (D × D)}, DtAll K F es kvs → DtAll K F es' kvs' → DtAll K F (es ++ es') (kvs ++ kvs')
  | _, _, _, _, .nil, h => h
  | _, _, _, _, .cons d r, h => .cons d (DtAll.append r h)
theorem DkAll.len : ∀ {es : List (Key × V)} {kvs : List (D × D)}, DkAll K F es kvs → es.length = kvs.length
  | _, _, .nil => rfl
  | _, _, .cons _ r => congrArg (· + 1) (DkAll.len r)
theorem DtAll.len : ∀ {es : List (List Key × V)} {kvs : List (D × D)}, DtAll K F es kvs → es.length = kvs.length
  | _, _, .nil => rfl
  | _, _, .cons _ r => congrArg (· + 1) (DtAll.len r)
theorem DkAll.repl (n : Int) {v : V} {p : D} (d : Dp K F v p) : ∀ {es : List (Key × V)} {kvs : List (D × D)}, DkAll K F es kvs → DkAll K F (es.map fun kv => if kv.1 = Sum.inl n then (kv.1, v) else kv) (kvs.map fun e => if PyData.eqv e.1 (.int n) = true then (e.1, p) else e)
  | _, _, .nil => .nil
  | _, _, .cons (k := k) d0 r => by
    rw [List.map_cons, List.map_cons]
    by_cases h : k = n
    · subst h; rw [if_pos rfl, if_pos (by rw [eqv_int]; simp)]; exact .cons d (DkAll.repl k d r)
    · rw [if_neg (fun z => h (Sum.inl.inj z)), if_neg (by rw [eqv_int]; simpa using h)]; exact .cons d0 (DkAll.repl n d r)
theorem DtAll.repl (ns : List Int) {v : V} {p : D} (d : Dp K F v p) : ∀ {es : List (List Key × V)} {kvs : List (D × D)}, DtAll K F es kvs → DtAll K F (es.map fun kv => if kv.1 = ns.map Sum.inl then (kv.1, v) else kv) (kvs.map fun e => if PyData.eqv e.1 (.tuple (ns.map .int)) = true then (e.1, p) else e)
  | _, _, .nil => .nil
  | _, _, .cons (ks := ks) d0 r => by
    rw [List.map_cons, List.map_cons]
    by_cases h : ks = ns
    · subst h; rw [if_pos rfl, if_pos (by rw [eqv_ints]; simp)]; exact .cons d (DtAll.repl ks d r)
    · rw [if_neg (fun z => h (inlM_inj.mp z)), if_neg (by rw [eqv_ints]; simpa using h)]; exact .cons d0 (DtAll.repl ns d r)
theorem DkAll.any (n : Int) : ∀ {es : List (Key × V)} {kvs : List (D × D)}, DkAll K F es kvs → (es.any fun kv => decide (kv.1 = Sum.inl n)) = kvs.any fun e => PyData.eqv e.1 (.int n)
  | _, _, .nil => rfl
  | _, _, .cons (k := k) d0 r => by
    rw [List.any_cons, List.any_cons, DkAll.any n r, eqv_int]
    congr 1
    by_cases h : k = n
    · subst h; simp
    · simp [h]
theorem DtAll.any (ns : List Int) : ∀ {es : List (List Key × V)} {kvs : List (D × D)}, DtAll K F es kvs → (es.any fun kv => decide (kv.1 = ns.map Sum.inl)) = kvs.any fun e => PyData.eqv e.1 (.tuple (ns.map .int))
  | _, _, .nil => rfl
  | _, _, .cons (ks := ks) d0 r => by
    rw [List.any_cons, List.any_cons, DtAll.any ns r, eqv_ints]
    congr 1
    by_cases h : ks = ns
    · subst h; simp
    · have : ¬ ks.map (Sum.inl (β := Str)) = ns.map Sum.inl := fun z => h (inlM_inj.mp z)
      simp [h, this]
theorem DkAll.put (n : Int) {v : V} {p : D} (d : Dp K F v p) {es : List (Key × V)} {kvs : List (D × D)} (r : DkAll K F es kvs) : DkAll K F (putK es (.inl n) v) (putD kvs (.int n) p) := by
  unfold putK putD
  rw [r.any n]
  by_cases h : (kvs.any fun e => PyData.eqv e.1 (.int n)) = true
  · rw [if_pos h, if_pos h]; exact r.repl n d
  · rw [if_neg h, if_neg h]; exact r.append (.cons d .nil)
theorem DtAll.put (ns : List Int) {v : V} {p : D} (d : Dp K F v p) {es : List (List Key × V)} {kvs : List (D × D)} (r : DtAll K F es kvs) : DtAll K F (putK es (ns.map .inl) v) (putD kvs (.tuple (ns.map .int)) p) := by
  unfold putK putD
  rw [r.any ns]
  by_cases h : (kvs.any fun e => PyData.eqv e.1 (.tuple (ns.map .int))) = true
  · rw [if_pos h, if_pos h]; exact r.repl ns d
  · rw [if_neg h, if_neg h]; exact r.append (.cons d .nil)
variable {B : Bs} {H : Hp} {σ : St} {ρ : Rho} {i : Nat} {t : Bool} {kvs : List (D × D)}
theorem slotD_at (R : Rs K B F H σ ρ) (h : slotD i ρ = some (t, kvs)) : ∃ a, σ[i]? = some (some (.ref a)) ∧ DAt K F H t a kvs := by
  unfold slotD at h
  split at h
  · rename_i t' kvs' hs
    cases h
    have q := R.at_ i _ hs
    generalize hσ : σ[i]? = x at q
    cases q with
    | od f h0 h1 => exact ⟨_, rfl, h1⟩
  · rename_i kvs' hs
    obtain ⟨t', e1, e2⟩ := Option.map_eq_some_iff.mp h
    cases e2
    have q := R.at_ i _ hs
    generalize hσ : σ[i]? = x at q
    cases q with
    | v d =>
      obtain ⟨a, rfl, hd⟩ := Dp.inv_dictQ d
      refine ⟨a, rfl, ?_⟩
      rcases hd with ⟨es, e, r⟩ | ⟨es, e, r⟩ | ⟨i1, i2, e, _⟩
      · cases r with
        | nil => cases e1
        | cons d1 r1 =>
          have : t = false := by
            unfold kindOf at e1
            split at e1
            · cases e1
            · cases e1; rfl
            · rename_i h; cases h
            · cases e1
          subst this
          exact ⟨_, R.sub _ _ e, .cons d1 r1⟩
      · cases r with
        | nil => cases e1
        | cons d1 r1 => cases e1; exact ⟨_, R.sub _ _ e, .cons d1 r1⟩
      · subst e
        cases e1
  · cases h
theorem map_kV (ns : List Int) : (ns.map (Sum.inl (β := Str))).map kV = ns.map V.int := by rw [List.map_map]; rfl
theorem key_at {y : V} {k : D} (d : Dp K F y k) (hk : kindOk true k = true) : ∃ (ns : List Int) (b : Addr), k = .tuple (ns.map .int) ∧ y = .ref b ∧ F b = some (.tup ((ns.map (Sum.inl (β := Str))).map kV)) := by
  unfold kindOk at hk
  split at hk
  · rename_i h; cases h
  · rename_i xs h
    obtain ⟨ns, e⟩ := Option.isSome_iff_exists.mp hk
    have e' := intsD_some e
    subst e'
    obtain ⟨b, vs, rfl, s, r⟩ := Dp.inv_tupX d fun z hz => by
      obtain ⟨n, _, e⟩ := List.mem_map.mp hz
      cases e
    rw [dpAll_ints ns r, ← map_kV] at s
    exact ⟨ns, b, rfl, rfl, s⟩
  · cases hk
theorem dget_at {a : Addr} {y : V} {k : D} (h : DAt K F H t a kvs) (d : Dp K F y k) (s : Same F H) (hk : kindOk t k = true) : ∃ o, DGet H a y o ∧ OpD K F o (lookD kvs k) := by
  cases t with
  | false =>
    obtain ⟨es, e, r⟩ := h
    unfold kindOk at hk
    split at hk
    · rename_i n _
      cases (Dp.inv_int d)
      exact ⟨_, DGet.k (k := .inl n) e, r.val n⟩
    · rename_i h' ; cases h'
    · cases hk
  | true =>
    obtain ⟨es, e, r⟩ := h
    obtain ⟨ns, b, rfl, rfl, hb⟩ := key_at d hk
    exact ⟨_, DGet.t e (s _ _ hb), r.val ns⟩
theorem dput_at {a : Addr} {y v : V} {k p : D} (h : DAt K F H t a kvs) (d : Dp K F y k) (dv : Dp K F v p) (s : Same F H) (hk : kindOk t k = true) (hl : kvs.length < sizeLine) : ∃ o, DPut H a y v (upd H a o) ∧ Holds K F o (.od t (putD kvs k p)) := by
  cases t with
  | false =>
    obtain ⟨es, e, r⟩ := h
    unfold kindOk at hk
    split at hk
    · rename_i n _
      cases (Dp.inv_int d)
      exact ⟨_, DPut.k (k := .inl n) e (by rw [r.len]; exact hl), _, rfl, r.put n dv⟩
    · rename_i h' ; cases h'
    · cases hk
  | true =>
    obtain ⟨es, e, r⟩ := h
    obtain ⟨ns, b, rfl, rfl, hb⟩ := key_at d hk
    exact ⟨_, DPut.t e (s _ _ hb) (by rw [r.len]; exact hl), _, rfl, r.put ns dv⟩
end
end L2.P

set_option Elab.async false
set_option linter.all false
set_option maxRecDepth 100000
set_option maxHeartbeats 4000000
/-! PL30: dicts: rules of expressions and statements. -/
namespace L2.P
open PySem PySem.Spec PyProof.Rows L2
section
variable {X : Cx} {k v e : Expr} {pos : Pos} {i : Nat} {x : Str} {px : Pos}
/-! displays -/
theorem nd_nilK : NDF X (.Dict [] [] pos) false (fun _ => some []) := ⟨fW_mono, pe_dnewK.imp fun σ H Q ⟨B, F, ρ, R, z, e, q⟩ p hp => by
  cases e
  exact q F H p _ R (Same.refl _) hp ⟨_, rfl, .nil⟩⟩
theorem nd_nilT : NDF X (.Dict [] [] pos) true (fun _ => some []) := ⟨fW_mono, pe_dnewT.imp fun σ H Q ⟨B, F, ρ, R, z, e, q⟩ p hp => by
  cases e
  exact q F H p _ R (Same.refl _) hp ⟨_, rfl, .nil⟩⟩
def d1T (f g : Rho → Option D) : Rho → Option (List (D × D)) := fun ρ => (f ρ).bind fun k => (g ρ).bind fun v => if kindOk true k = true then some [(k, v)] else none
theorem nd_oneT {f g : Rho → Option D} (hu : Rm X) (hk : EF X k f) (hv : EF X v g) : NDF X (.Dict [some k] [v] pos) true (d1T f g) := ⟨fW_mono, (pe_dispT hu hk.pe hv.pe).imp fun σ H Q ⟨B, F, ρ, R, z, e, q⟩ p hp => by
  obtain ⟨a, e1, e⟩ := Option.bind_eq_some_iff.mp e
  obtain ⟨b, e2, e⟩ := Option.bind_eq_some_iff.mp e
  split at e
  · rename_i hkind
    cases e
    obtain ⟨p1, p2, p3⟩ := R.fresh hp
    have hF : B.Fa p = none := R.ext.free p2
    refine ⟨B.pin p (.dT []), F, ρ, R.pin hp _, a, e1, fun F1 H1 y R1 s1 d1 => ⟨B.pin p (.dT []), F1, ρ, R1, b, e2, fun F2 H2 u R2 s2 d2 => ?_⟩⟩
    obtain ⟨q1, q2⟩ := R2.pinned p3 hF
    obtain ⟨ns, bb, rfl, rfl, hb⟩ := key_at d1 hkind
    refine ⟨q1, bb, ns.map Sum.inl, u, rfl, R2.sub _ _ (s2 _ _ hb), ?_⟩
    have R3 := R2.minus p3 hF p1
    have em := upd_minus q1
    have := q F2 (minusH H2 p) p (.dT [(ns.map Sum.inl, u)]) R3 (s1.trans s2) (minusH_same _ _) ⟨_, rfl, .cons d2 .nil⟩
    have eu : upd (minusH H2 p) p (.dT [(ns.map (Sum.inl (β := Str)), u)]) = upd H2 p (.dT [(ns.map Sum.inl, u)]) := by
      funext c
      by_cases hc : c = p
      · subst hc; rw [upd_same, upd_same]
      · rw [upd_ne hc, upd_ne hc, minusH_ne hc]
    rw [eu] at this
    exact this
  · cases e⟩
/-! x = a new dict -/
def wSetD (i : Nat) (t : Bool) (T : Rho → (List (D × D) → Prop) → Prop) : TSt := fun ρ K => T ρ fun p => K (.nx (ρ.set i (.od t p)))
def sSetD (i : Nat) (t : Bool) (f : Rho → Option (List (D × D))) : Rho → Option Fl := fun ρ => (f ρ).map fun p => .nx (ρ.set i (.od t p))
theorem sw_setD {t : Bool} {T : Rho → (List (D × D) → Prop) → Prop} {p' : Pos} (hN : X.N.Nodup) (hi : X.N[i]? = some x) (hx : Loc X.env.scope x) (h : ND X e t T) (hs : swapsWith e (some (.Name x p')) pos.line X.env = pure false := by rfl)
    (hf : X.fn x = true ∨ X.env.scope.names.lookup x = some .local := by first | exact .inl rfl | exact .inr rfl | assumption) : SW X (.Assign [.Name x p'] e pos) (wSetD i t T) :=
  ⟨fun ρ K K' k q => h.mono _ _ _ (fun p => k _) q, (ps_set hN hi hx h.pe hs hf).imp fun En σ H ⟨B, F, ρ, R, q⟩ => ⟨B, F, ρ, R, h.mono _ _ _ (fun p k F' H' a o R' s n hh => k F' _ _ (R'.putG n hh) s) q⟩⟩
theorem sf_setD {t : Bool} {f : Rho → Option (List (D × D))} {p' : Pos} (hN : X.N.Nodup) (hi : X.N[i]? = some x) (hx : Loc X.env.scope x) (h : NDF X e t f) (hs : swapsWith e (some (.Name x p')) pos.line X.env = pure false := by rfl)
    (hf : X.fn x = true ∨ X.env.scope.names.lookup x = some .local := by first | exact .inl rfl | exact .inr rfl | assumption) : SF X (.Assign [.Name x p'] e pos) (sSetD i t f) := (sw_setD hN hi hx h hs hf).imp fW_mono fun ρ K ⟨p, e, k⟩ => by
  obtain ⟨q, e1, rfl⟩ := Option.map_eq_some_iff.mp e
  exact ⟨q, e1, k⟩
/-! k in x, k not in x -/
def rDIn (n : Bool) : R2 := fun y x H Q => ∃ a o, x = .ref a ∧ DGet H a y o ∧ Q (.bl (if n = true then !o.isSome else o.isSome)) H
theorem op_inDic (hu : Rm X) : OpR X (compareOp .In) (rDIn false) := by
  intro pins s σ H x y v u Q I rx ry h
  obtain ⟨a, o, rfl, g, q⟩ := h
  obtain rfl : u = Value.ref a := ry
  exact d_in (by unfold Rm at hu; omega) I g rx fun s3 I3 => ⟨.bl o.isSome, H, I3, rfl, q⟩
theorem op_notInDic (hu : Rm X) : OpR X (compareOp .NotIn) (rDIn true) := by
  intro pins s σ H x y v u Q I rx ry h
  obtain ⟨a, o, rfl, g, q⟩ := h
  obtain rfl : u = Value.ref a := ry
  exact d_notIn (by unfold Rm at hu; omega) I g rx fun s3 I3 => ⟨.bl (!o.isSome), H, I3, rfl, q⟩
/-- is the key there -/
def hasS (n : Bool) (i : Nat) (f : Rho → Option D) : Rho → Option Bool := fun ρ => (f ρ).bind fun k => (slotD i ρ).bind fun d => if kindOk d.1 k = true then some (if n = true then !(lookD d.2 k).isSome else (lookD d.2 k).isSome) else none
theorem has_ok {n : Bool} {f : Rho → Option D} {σ : St} {H : Hp} {Q : Bool → Hp → Prop} (hk : EF X k f) (h : ∃ B F ρ, Rs X.K B F H σ ρ ∧ fW (hasS n i f) ρ fun b => ∀ F' H', Rs X.K B F' H' σ ρ → Same F F' → Q b H') : tOp (rDIn n) (tW X.K (fW f)) (tVar i) σ H fun y H' => ∃ b, y = .bl b ∧ Q b H' := by
  obtain ⟨B, F, ρ, R, b, e, q⟩ := h
  obtain ⟨a, e1, e⟩ := Option.bind_eq_some_iff.mp e
  obtain ⟨⟨t, kvs⟩, e2, e⟩ := Option.bind_eq_some_iff.mp e
  split at e
  · rename_i hkind
    cases e
    refine ⟨B, F, ρ, R, a, e1, fun F1 H1 y R1 s1 d1 => ?_⟩
    obtain ⟨c, hσ, hd⟩ := slotD_at R1 e2
    obtain ⟨o, g, ho⟩ := dget_at hd d1 R1.sub hkind
    refine ⟨.ref c, hσ, c, o, rfl, g, _, rfl, ?_⟩
    rw [ho.isSome]
    exact q F1 H1 R1 s1
  · cases e
theorem tf_inD {f : Rho → Option D} (hu : Rm X) (hN : X.N[i]? = some x) (hv : Vis X.env.scope x) (hk : EF X k f) (hm : behindInMarks .In (.Name x px) = false := by rfl) (hd : (x == ("__debug__" : Str)) = false := by decide) (hcd : (x == ("__classdict__" : Str)) = false := by decide) : TF X (.Compare k [.In] [.Name x px] pos) (hasS false i f) :=
  ⟨fW_mono, (pt_cmpR (op_inDic hu) hk.pe (pe_var hN hv hd hcd) hm).imp fun σ H Q h => has_ok hk h⟩
theorem tf_notInD {f : Rho → Option D} (hu : Rm X) (hN : X.N[i]? = some x) (hv : Vis X.env.scope x) (hk : EF X k f) (hm : behindInMarks .NotIn (.Name x px) = false := by rfl) (hd : (x == ("__debug__" : Str)) = false := by decide) (hcd : (x == ("__classdict__" : Str)) = false := by decide) : TF X (.Compare k [.NotIn] [.Name x px] pos) (hasS true i f) :=
  ⟨fW_mono, (pt_cmpR (op_notInDic hu) hk.pe (pe_var hN hv hd hcd) hm).imp fun σ H Q h => has_ok hk h⟩
/-! x[k], x.get(k, v) -/
def vGetS (i : Nat) (f : Rho → Option D) : Rho → Option D := fun ρ => (f ρ).bind fun k => (slotD i ρ).bind fun d => if kindOk d.1 k = true then lookD d.2 k else none
theorem ef_getD {f : Rho → Option D} (hu : Rm X) (hN : X.N[i]? = some x) (hv : Vis X.env.scope x) (hk : EF X k f) (hs : NoSl k := by intro _ _; rfl) (hd : (x == ("__debug__" : Str)) = false := by decide) (hcd : (x == ("__classdict__" : Str)) = false := by decide) : EF X (.Subscript (.Name x px) k pos) (vGetS i f) :=
  ⟨fW_mono, (pe_dget (by unfold Rm at hu; omega) (pe_var hN hv hd hcd) hk.pe hs).imp fun σ H Q ⟨B, F, ρ, R, z, e, q⟩ => by
    obtain ⟨a, e1, e⟩ := Option.bind_eq_some_iff.mp e
    obtain ⟨⟨t, kvs⟩, e2, e⟩ := Option.bind_eq_some_iff.mp e
    split at e
    · rename_i hkind
      obtain ⟨c, hσ, _⟩ := slotD_at R e2
      refine ⟨.ref c, hσ, B, F, ρ, R, a, e1, fun F1 H1 y R1 s1 d1 => ?_⟩
      obtain ⟨c', hσ', hd⟩ := slotD_at R1 e2
      rw [hσ] at hσ'; cases hσ'
      obtain ⟨o, g, ho⟩ := dget_at hd d1 R1.sub hkind
      have e' : lookD kvs a = some z := e
      rw [e'] at ho
      cases ho with
      | yes dz => exact ⟨c, _, rfl, g, q F1 H1 _ R1 s1 dz⟩
    · cases e⟩
def vGet2S (i : Nat) (f g : Rho → Option D) : Rho → Option D := fun ρ => (f ρ).bind fun k => (g ρ).bind fun z => (slotD i ρ).bind fun d => if kindOk d.1 k = true then some ((lookD d.2 k).getD z) else none
theorem DAt.isD {K : Fg} {F H : Hp} {t : Bool} {a : Addr} {kvs : List (D × D)} (h : DAt K F H t a kvs) : IsD H a := by
  cases t with
  | false => obtain ⟨es, e, _⟩ := h; exact .inl ⟨es, .inl e⟩
  | true => obtain ⟨es, e, _⟩ := h; exact .inr ⟨es, .inl e⟩
theorem ef_get2D {f g : Rho → Option D} {ap : Pos} (hu : Rm X) (hN : X.N[i]? = some x) (hv : Vis X.env.scope x) (hk : EF X k f) (hz : EF X v g) (hbase : attributeBase (.Name x px) "get" X.env (eval (.Name x px) X.env) = eval (.Name x px) X.env := by rfl)
    (hfew : ((backTo pos (starEach [k, v] X.env)).all (fun x => !x.1) && (backToKw pos (keywordEach [] X.env)).all (fun x => x.1.isSome) && decide (([k, v] : List Expr).length + ([] : List Keyword).length + (if ([] : List Keyword).isEmpty then 0 else 1) < 30)) = true := by rfl)
    (hline : (ap.endLine == pos.line) = true := by rfl) (htr : backTo pos (starEach [k, v] X.env) = [(false, eval k X.env), (false, eval v X.env)] := by rfl) (hd : (x == ("__debug__" : Str)) = false := by decide) (hcd : (x == ("__classdict__" : Str)) = false := by decide) : EF X (.Call (.Attribute (.Name x px) "get" ap) [k, v] [] pos) (vGet2S i f g) :=
  ⟨fW_mono, (pe_dget2 (by unfold Rm at hu; omega) (pe_var hN hv hd hcd) hk.pe hz.pe ⟨hbase, hfew, hline, htr⟩).imp fun σ H Q ⟨B, F, ρ, R, z, e, q⟩ => by
    obtain ⟨a, e1, e⟩ := Option.bind_eq_some_iff.mp e
    obtain ⟨b, e3, e⟩ := Option.bind_eq_some_iff.mp e
    obtain ⟨⟨t, kvs⟩, e2, e⟩ := Option.bind_eq_some_iff.mp e
    split at e
    · rename_i hkind
      cases e
      obtain ⟨c, hσ, hc⟩ := slotD_at R e2
      refine ⟨.ref c, hσ, c, rfl, hc.isD, B, F, ρ, R, a, e1, fun F1 H1 y R1 s1 d1 => ⟨B, F1, ρ, R1, b, e3, fun F2 H2 u R2 s2 d2 => ?_⟩⟩
      obtain ⟨c', hσ', hd⟩ := slotD_at R2 e2
      rw [hσ] at hσ'; cases hσ'
      obtain ⟨o, g, ho⟩ := dget_at hd (d1.same s2) R2.sub hkind
      refine ⟨o, g, q F2 H2 _ R2 (s1.trans s2) ?_⟩
      have ho' : OpD X.K F2 o (lookD kvs a) := ho
      show Dp X.K F2 (o.getD u) ((lookD kvs a).getD b)
      generalize lookD kvs a = lk at ho'
      cases ho' with
      | no => exact d2
      | yes dz => exact dz
    · cases e⟩
/-! x[k] = v -/
def wPutD (i : Nat) (T U : TW) : TSt := fun ρ K => T ρ fun p => ∃ t kvs, ρ[i]? = some (.od t kvs) ∧ U ρ fun k => kindOk t k = true ∧ kvs.length < sizeLine ∧ K (.nx (ρ.set i (.od t (putD kvs k p))))
def sPutD (i : Nat) (f g : Rho → Option D) : Rho → Option Fl := fun ρ => (f ρ).bind fun p => (g ρ).bind fun k => match ρ[i]? with
  | some (.od t kvs) => if kindOk t k = true ∧ kvs.length < sizeLine then some (.nx (ρ.set i (.od t (putD kvs k p)))) else none
  | _ => none
theorem sw_putD {T U : TW} {p1 p2 : Pos} (hu : Rm X) (hN : X.N[i]? = some x) (hv : Vis X.env.scope x) (h : EW X v T) (hk : EW X k U) (hs : swapsWith v (some (.Subscript (.Name x p1) k p2)) pos.line X.env = pure false := by rfl) (hd : (x == ("__debug__" : Str)) = false := by decide) (hcd : (x == ("__classdict__" : Str)) = false := by decide) : SW X (.Assign [.Subscript (.Name x p1) k p2] v pos) (wPutD i T U) :=
  ⟨fun ρ K K' kk q => h.mono _ _ _ (fun p ⟨t, kvs, a, z⟩ => ⟨t, kvs, a, hk.mono _ _ _ (fun y ⟨b, c, d⟩ => ⟨b, c, kk _ d⟩) z⟩) q, (ps_dput (by unfold Rm at hu; omega) (pe_var hN hv hd hcd) hk.pe h.pe hs).imp fun En σ H ⟨B, F, ρ, R, q⟩ => ⟨B, F, ρ, R, h.mono _ _ _ (fun p ⟨t, kvs, e0, kp⟩ F1 H1 u R1 s1 d1 => by
    obtain ⟨a, o, hσ, _⟩ := R1.ownG e0 rfl (fun z => by cases z)
    refine ⟨.ref a, hσ, B, F1, ρ, R1, hk.mono _ _ _ (fun y ⟨hkind, hl, kk⟩ F2 H2 w R2 s2 d2 => ?_) kp⟩
    obtain ⟨c, hσ2, hdat⟩ := slotD_at (i := i) R2 (show slotD i ρ = some (t, kvs) by unfold slotD; rw [e0])
    rw [hσ] at hσ2; cases hσ2
    obtain ⟨o', hput, hold⟩ := dput_at hdat d2 (d1.same s2) R2.sub hkind hl
    exact ⟨a, _, rfl, hput, kk F2 _ σ (R2.setG e0 rfl (fun z => by cases z) hσ hold) (s1.trans s2)⟩) q⟩⟩
theorem sf_putD {f g : Rho → Option D} {p1 p2 : Pos} (hu : Rm X) (hN : X.N[i]? = some x) (hv : Vis X.env.scope x) (h : EF X v f) (hk : EF X k g) (hs : swapsWith v (some (.Subscript (.Name x p1) k p2)) pos.line X.env = pure false := by rfl) (hd : (x == ("__debug__" : Str)) = false := by decide) (hcd : (x == ("__classdict__" : Str)) = false := by decide) : SF X (.Assign [.Subscript (.Name x p1) k p2] v pos) (sPutD i f g) :=
  (sw_putD hu hN hv h hk hs hd hcd).imp fW_mono fun ρ K ⟨z, e, kk⟩ => by
    obtain ⟨p, e1, e⟩ := Option.bind_eq_some_iff.mp e
    obtain ⟨y, e2, e⟩ := Option.bind_eq_some_iff.mp e
    split at e
    · rename_i t kvs h0
      split at e
      · rename_i hh
        cases e
        exact ⟨p, e1, t, kvs, h0, y, e2, hh.1, hh.2, kk⟩
      · cases e
    · cases e
theorem e_sPutD {f g : Rho → Option D} {ρ : Rho} {t : Bool} {kvs : List (D × D)} {p k : D} (hi : ρ[i]? = some (.od t kvs)) (h1 : f ρ = some p) (h2 : g ρ = some k) (hk : kindOk t k = true) (hl : kvs.length < sizeLine) : sPutD i f g ρ = some (.nx (ρ.set i (.od t (putD kvs k p)))) := by
  unfold sPutD
  rw [h1, Option.bind_some, h2, Option.bind_some, hi]
  show (if _ then _ else _) = _
  rw [if_pos ⟨hk, hl⟩]
/-! len(x), list(x) -/
def vLenS (i : Nat) : Rho → Option D := fun ρ => (slotD i ρ).map fun d => .int d.2.length
/-- tuples that stand are frozen -/
theorem Rs.frzT {K : Fg} {B : Bs} {F H : Hp} {σ : St} {ρ : Rho} {b : Addr} {xs : List V} (R : Rs K B F H σ ρ) (h : H b = some (.tup xs)) : ∃ F', Rs K B F' H σ ρ ∧ Same F F' ∧ F' b = some (.tup xs) := by
  cases hF : F b with
  | some o =>
    have := R.sub _ _ hF
    rw [h] at this
    exact ⟨F, R, Same.refl _, by rw [hF]; exact this.symm⟩
  | none =>
    have s : Same F (upd F b (.tup xs)) := same_upd hF
    refine ⟨upd F b (.tup xs), ⟨fun c x e => ?_, fun c x e => s c x (R.ext c x e), fun c h2 h3 => ?_, R.old, fun r hr => ?_, R.hr2, R.len, fun j t ht => ?_, R.apart⟩, s, upd_same⟩
    · by_cases q : c = b
      · subst q; rw [upd_same] at e; rw [h]; exact e
      · rw [upd_ne q] at e; exact R.sub c x e
    · by_cases q : c = b
      · subst q; exact R.fz (.inr ⟨xs, h⟩)
      · rw [upd_ne q] at h3; exact R.new c h2 h3
    · obtain ⟨g1, g2⟩ := R.hrow r hr
      obtain ⟨u, hu, nt⟩ := g2.thereN
      have ne : r ≠ b := fun e => by subst e; rw [h] at hu; exact nt xs (Option.some.inj hu).symm
      exact ⟨by rw [upd_ne ne]; exact g1, g2.mono s fun o e => e⟩
    · exact (R.at_ j t ht).mono s (fun a f ⟨o, q, nt⟩ => by
        have ne : a ≠ b := fun e => by subst e; rw [h] at q; exact nt xs (Option.some.inj q).symm
        rw [upd_ne ne]; exact f) (fun a o f q => q)
theorem Rs.frzKs {K : Fg} {B : Bs} {H : Hp} {σ : St} {ρ : Rho} : ∀ {F : Hp} {es : List (List Key × V)} {kvs : List (D × D)} {bs : List Addr}, Rs K B F H σ ρ → DtAll K F es kvs → IsKeys H es bs → ∃ F', Rs K B F' H σ ρ ∧ Same F F' ∧ DpAll K F' (bs.map V.ref) (kvs.map (·.1))
  | F, _, _, _, R, .nil, .nil => ⟨F, R, Same.refl _, .nil⟩
  | F, _, _, _, R, .cons (ks := ks) (es := es) d r, .cons (b := b) hb hr => by
    obtain ⟨F1, R1, s1, h1⟩ := R.frzT hb
    obtain ⟨F2, R2, s2, h2⟩ := Rs.frzKs R1 (r.same s1) hr
    refine ⟨F2, R2, s1.trans s2, .cons (.tup (s2 _ _ h1) ?_) h2⟩
    rw [map_kV]
    exact dpAll_of_ints ks
end
end L2.P

set_option Elab.async false
set_option linter.all false
set_option maxRecDepth 100000
set_option maxHeartbeats 4000000
/-! PL31: len(x), list(x), x a dict. -/
namespace L2.P
open PySem PySem.Spec PyProof.Rows L2
section
variable {X : Cx} {e : Expr} {pos : Pos} {i : Nat} {x : Str} {px p : Pos}
theorem ef_lenD (bi : Bi X.mg) (hN : X.N[i]? = some x) (hv : Vis X.env.scope x) (hg : Gl X "len" := by rfl) (he : starEach [.Name x px] X.env = (false, eval (.Name x px) X.env) :: starEach [] X.env := by rfl) (hd : (x == ("__debug__" : Str)) = false := by decide) (hcd : (x == ("__classdict__" : Str)) = false := by decide) : EF X (.Call (.Name "len" p) [.Name x px] [] pos) (vLenS i) :=
  ⟨fW_mono, (pe_callB (CallR.or call_lenD call_len_dT) hg bi.len boot_len (pa_cons (pe_var hN hv hd hcd) pa_nil he) (he := he) (hpl := rfl)).imp fun σ H Q ⟨B, F, ρ, R, z, e, q⟩ => by
    obtain ⟨⟨t, kvs⟩, e2, rfl⟩ := Option.map_eq_some_iff.mp e
    obtain ⟨c, hσ, hdat⟩ := slotD_at R e2
    refine ⟨.ref c, hσ, ?_⟩
    cases t with
    | false =>
      obtain ⟨es, he, r⟩ := hdat
      refine .inl ⟨c, es, rfl, he, ?_⟩
      rw [r.len]
      exact q F H _ R (Same.refl _) (.int _)
    | true =>
      obtain ⟨es, he, r⟩ := hdat
      refine .inr ⟨c, es, rfl, he, ?_⟩
      rw [r.len]
      exact q F H _ R (Same.refl _) (.int _)⟩
def nKeysS (i : Nat) : Rho → Option (List D) := fun ρ => (slotD i ρ).map fun d => d.2.map (·.1)
theorem dkeys {K : Fg} {F : Hp} : ∀ {es : List (Key × V)} {kvs : List (D × D)}, DkAll K F es kvs → DpAll K F (es.map fun kv => kV kv.1) (kvs.map (·.1))
  | _, _, .nil => .nil
  | _, _, .cons (k := k) d r => .cons (.int k) (dkeys r)
theorem nf_keysD (bi : Bi X.mg) (hN : X.N[i]? = some x) (hv : Vis X.env.scope x) (hc : X.calm = true := by rfl) (hg : Gl X "list" := by rfl) (he : starEach [.Name x px] X.env = (false, eval (.Name x px) X.env) :: starEach [] X.env := by rfl) (hd : (x == ("__debug__" : Str)) = false := by decide) (hcd : (x == ("__classdict__" : Str)) = false := by decide) : NF X (.Call (.Name "list" p) [.Name x px] [] pos) (nKeysS i) :=
  ⟨fW_mono, (pe_callTy (CallR.or (call_listD hc) (call_list_dT hc)) hg bi.list bt_list (pa_cons (pe_var hN hv hd hcd) pa_nil he) (he := he) (hpl := rfl)).imp fun σ H Q ⟨B, F, ρ, R, z, e, q⟩ => by
    obtain ⟨⟨t, kvs⟩, e2, rfl⟩ := Option.map_eq_some_iff.mp e
    obtain ⟨c, hσ, hdat⟩ := slotD_at R e2
    refine ⟨.ref c, hσ, ?_⟩
    cases t with
    | false =>
      obtain ⟨es, he, r⟩ := hdat
      exact .inl ⟨c, es, rfl, .inl he, fun l hl => q F H l _ R (Same.refl _) hl (dkeys r)⟩
    | true =>
      obtain ⟨es, he, r⟩ := hdat
      refine .inr ⟨c, es, rfl, .inl he, fun l bs hl hk => ?_⟩
      obtain ⟨F', R', s', d'⟩ := R.frzKs r hk
      exact q F' H l _ R' s' hl d'⟩
end
end L2.P
namespace L2.P
open PySem PySem.Spec PyProof.Rows L2
section
variable {X : Cx} {k : Expr} {pos : Pos} {i : Nat} {x : Str} {px : Pos}
def vHasS (n : Bool) (i : Nat) (f : Rho → Option D) : Rho → Option D := fun ρ => (hasS n i f ρ).map .bool
theorem ef_inD {f : Rho → Option D} (hu : Rm X) (hN : X.N[i]? = some x) (hv : Vis X.env.scope x) (hk : EF X k f) (hm : behindInMarks .In (.Name x px) = false := by rfl) (hd : (x == ("__debug__" : Str)) = false := by decide) (hcd : (x == ("__classdict__" : Str)) = false := by decide) : EF X (.Compare k [.In] [.Name x px] pos) (vHasS false i f) :=
  ⟨fW_mono, (pe_cmpR (op_inDic hu) hk.pe (pe_var hN hv hd hcd) hm).imp fun σ H Q ⟨B, F, ρ, R, z, e, q⟩ => by
    obtain ⟨b, e1, rfl⟩ := Option.map_eq_some_iff.mp e
    obtain ⟨B', F', ρ', R', a, ea, h⟩ := has_ok (Q := fun b H' => Q (.bl b) H') hk ⟨B, F, ρ, R, b, e1, fun F' H' R' s => q F' H' _ R' s (.bl _)⟩
    refine ⟨B', F', ρ', R', a, ea, fun F1 H1 v R1 s1 d1 => ?_⟩
    obtain ⟨w, hw, c, o, rfl, g, b', eb, k⟩ := h F1 H1 v R1 s1 d1
    have e2 := V.bl.inj eb
    rw [← e2] at k
    exact ⟨.ref c, hw, c, o, rfl, g, k⟩⟩
end
end L2.P

set_option Elab.async false
set_option linter.all false
set_option maxRecDepth 100000
set_option maxHeartbeats 4000000
/-! PL32: xs.index(k); list(a dict that a def gives); while loops with what they keep; dicts of states. -/
namespace L2.P
open PySem PySem.Spec PyProof.Rows L2
def dIndex : G2
  | .list xs, .int k => (intsD xs).bind fun ns => if k ∈ ns then some (.int (ns.idxOf k : Nat)) else none
  | _, _ => none
theorem e_index {ns : List Int} {k : Int} (h : k ∈ ns) : dIndex (.list (ns.map .int)) (.int k) = some (.int (ns.idxOf k : Nat)) := by
  show (intsD _).bind _ = _
  rw [intsD_map, Option.bind_some, if_pos h]
section
variable {X : Cx} {a b e : Expr} {pos : Pos}
theorem eqV_int (a b : Int) : eqV (.int a) (.int b) = decide (a = b) := by
  show (a == b) = _
  rw [Bool.eq_iff_iff, beq_iff_eq, decide_eq_true_eq]
theorem idxOf_le : ∀ {ns : List Int} {m : Nat} {k : Int}, ns[m]? = some k → ns.idxOf k ≤ m
  | [], m, k, h => by simp at h
  | n :: ns, 0, k, h => by
    simp at h; subst h; simp
  | n :: ns, m + 1, k, h => by
    rw [List.idxOf_cons]
    have := idxOf_le (ns := ns) (m := m) (k := k) (by simpa using h)
    cases n == k
    · show ns.idxOf k + 1 ≤ m + 1; omega
    · show 0 ≤ m + 1; omega
theorem flatV_ints (ns : List Int) : (ns.map V.int).all flatV = true := by
  rw [List.all_eq_true]
  intro x hx
  obtain ⟨n, _, rfl⟩ := List.mem_map.mp hx
  rfl
theorem ef_index {f g : Rho → Option D} {p2 cpos : Pos} (ha : XF X a f) (hb : EF X b g) (hbase : attributeBase a "index" X.env (eval a X.env) = eval a X.env := by rfl)
    (hfew : ((backTo cpos (starEach [b] X.env)).all (fun x => !x.1) && (backToKw cpos (keywordEach [] X.env)).all (fun x => x.1.isSome) && decide (([b] : List Expr).length + ([] : List Keyword).length + (if ([] : List Keyword).isEmpty then 0 else 1) < 30)) = true := by rfl)
    (hline : (p2.endLine == cpos.line) = true := by rfl) (hs : starEach [b] X.env = (false, eval b X.env) :: starEach [] X.env := by rfl) : EF X (.Call (.Attribute a "index" p2) [b] [] cpos) (b2 dIndex f g) :=
  ⟨fW_mono, (pe_bm PySem.F.plainAttrs_list PySem.F.slot_list_index PySem.F.type_list_index mt_index ha.pe (pa_cons hb.pe pa_nil hs) hbase hfew hline hs rfl).imp fun σ H Q ⟨B, F, ρ, R, z, e, k⟩ => by
    have ⟨x, y, e1, e2, e3⟩ : ∃ x y, f ρ = some x ∧ g ρ = some y ∧ dIndex x y = some z := by
      obtain ⟨x, e1, e⟩ := Option.bind_eq_some_iff.mp e
      obtain ⟨y, e2, e⟩ := Option.bind_eq_some_iff.mp e
      exact ⟨x, y, e1, e2, e⟩
    unfold dIndex at e3
    split at e3
    · rename_i xs i
      obtain ⟨ns, e4, e5⟩ := Option.bind_eq_some_iff.mp e3
      split at e5
      · rename_i hm
        cases e5
        refine ⟨B, F, ρ, R, _, e1, fun F1 H1 v R1 s1 d => ?_⟩
        obtain ⟨c, ys, rfl, s, r⟩ := pk_lst R1 d
        refine ⟨.inl ⟨rfl, ys, s⟩, B, F1, ρ, R1, _, e2, fun F2 H2 u R2 s2 du => ?_⟩
        obtain rfl := Dp.inv_int du
        obtain ⟨c', ys', ec, s', r'⟩ := pk_lst R2 (d.mono s2)
        cases ec
        rw [intsD_some e4] at r'
        rw [dpAll_ints ns r'] at s'
        have hlt : ns.idxOf i < ns.length := List.idxOf_lt_length_of_mem hm
        refine ⟨c, ns.map V.int, .int i, ns.idxOf i, .int i, rfl, rfl, s', rfl, flatV_ints ns, ?_, by rw [eqV_int]; simp, fun m z' hml hz => ?_, k F2 H2 _ R2 (s1.trans s2) (.int _)⟩
        · rw [List.getElem?_map, List.getElem?_eq_getElem hlt]
          simp
        · rw [List.getElem?_map] at hz
          obtain ⟨n, hn, rfl⟩ := Option.map_eq_some_iff.mp hz
          rw [eqV_int, decide_eq_false_iff_not]
          rintro rfl
          have := idxOf_le hn
          omega
      · cases e5
    · cases e3⟩
def nKeysE (f : Rho → Option D) : Rho → Option (List D) := fun ρ => (f ρ).bind fun p => match p with
  | .dict kvs => some (kvs.map (·.1))
  | _ => none
theorem nf_keysE {f : Rho → Option D} {p : Pos} (bi : Bi X.mg) (h : EF X e f) (hc : X.calm = true := by rfl) (hg : Gl X "list" := by rfl) (he : starEach [e] X.env = (false, eval e X.env) :: starEach [] X.env := by rfl) : NF X (.Call (.Name "list" p) [e] [] pos) (nKeysE f) :=
  ⟨fW_mono, (pe_callTy (CallR.or (CallR.or (call_listD hc) (call_list_dT hc)) call_list_of) hg bi.list bt_list (pa_cons h.pe pa_nil he) (he := he) (hpl := rfl)).imp fun σ H Q ⟨B, F, ρ, R, z, e, q⟩ => by
    obtain ⟨p, e1, e2⟩ := Option.bind_eq_some_iff.mp e
    split at e2
    · rename_i kvs
      cases e2
      refine ⟨B, F, ρ, R, _, e1, fun F1 H1 v R1 s1 d => ?_⟩
      obtain ⟨c, rfl, hd⟩ := Dp.inv_dictQ d
      rcases hd with ⟨es, he, r⟩ | ⟨es, he, r⟩ | ⟨i1, i2, rfl, hs⟩
      · exact .inl (.inl ⟨c, es, rfl, .inl (R1.sub _ _ he), fun l hl => q F1 H1 l _ R1 s1 hl (dkeys r)⟩)
      rotate_left
      · exact .inr ⟨c, _, rfl, .inr (hs _), fun l hl => q F1 H1 l _ R1 s1 hl (.cons (.int _) (.cons (.int _) .nil))⟩
      · refine .inl (.inr ⟨c, es, rfl, .inl (R1.sub _ _ he), fun l bs hl hk => ?_⟩)
        obtain ⟨F', R', s', d'⟩ := R1.frzKs r hk
        exact q F' H1 l _ R' (s1.trans s') hl d'
    · cases e2⟩
@[simp] theorem e_nKeysE (f : Rho → Option D) (ρ : Rho) : nKeysE f ρ = (f ρ).bind fun p => match p with
  | .dict kvs => some (kvs.map (·.1))
  | _ => none := rfl
end
/-! ### while -/
theorem s_while {S : Type} {t : Rho → Option Bool} {f : Rho → Option Fl} {K : Fl → Prop} (st : S → Rho) (J : Nat → S → Prop) (N : Nat) : ∀ (n i : Nat) (s : S), N < i + n → J i s →
    (∀ i s, J i s → (i < N ∧ t (st s) = some true ∧ fW f (st s) fun fl => ∃ s', fl = .nx (st s') ∧ J (i + 1) s') ∨ (t (st s) = some false ∧ K (.nx (st s)))) → i ≤ N → fW (whF t f n) (st s) K
  | 0, i, s, hn, hJ, h, hi => by omega
  | n + 1, i, s, hn, hJ, h, hi => by
    rcases h i s hJ with ⟨hi', e, fl, e2, s', rfl, hJ'⟩ | ⟨e, k⟩
    · obtain ⟨fl, e3, k⟩ := s_while st J N n (i + 1) s' (by omega) hJ' h hi'
      refine ⟨fl, ?_, k⟩
      rw [whF, e, Option.bind_some, if_pos rfl, e2]
      exact e3
    · exact ⟨_, by rw [whF, e, Option.bind_some, if_neg (by simp)], k⟩
/-! ### dicts of states -/
abbrev encS (e : List Int × Int) : D × D := (tR e.1, .int e.2)
theorem look_S (r : List Int) : ∀ kvs : List (List Int × Int), (lookD (kvs.map encS) (tR r)).isSome = decide (r ∈ kvs.map (·.1))
  | [] => rfl
  | e :: kvs => by
    rw [List.map_cons, lookD_cons, eqv_ints, List.map_cons]
    by_cases h : e.1 = r
    · rw [if_pos (by simpa using h)]
      simp [h]
    · rw [if_neg (by simpa using h), look_S r kvs]
      have h' : ¬ r = e.1 := fun z => h z.symm
      simp [h']
theorem put_S {r : List Int} {n : Int} {kvs : List (List Int × Int)} (h : r ∉ kvs.map (·.1)) : putD (kvs.map encS) (tR r) (.int n) = (kvs ++ [(r, n)]).map encS := by
  unfold putD
  rw [if_neg, List.map_append]
  · rfl
  · rw [Bool.not_eq_true, List.any_eq_false]
    intro e he
    obtain ⟨e', he', rfl⟩ := List.mem_map.mp he
    rw [eqv_ints]
    simp only [decide_eq_true_eq]
    rintro rfl
    exact h (List.mem_map.mpr ⟨e', he', rfl⟩)
theorem kind_R (r : List Int) : kindOk true (tR r) = true := by
  show (intsD (r.map PyData.int)).isSome = true
  rw [intsD_map]; rfl
theorem keys_S (kvs : List (List Int × Int)) : (kvs.map encS).map (·.1) = (kvs.map (·.1)).map tR := by rw [List.map_map, List.map_map]; rfl
/-! ### lists of states in order: one only -/
theorem le_tR : PySem.W.dataLe false tR = fun p q : List Int => decide (p ≤ q) := by
  have e : PySem.W.dataLe false tR = PySem.W.dataLe false (fun r : List Int => PyData.list (r.map .int)) := by
    funext p q
    unfold PySem.W.dataLe PySem.W.sortLe
    simp only [PySem.W.keyToks]
  rw [e]
  exact PySem.W.dataLe_rows id
theorem sortR_pw (rs : List (List Int)) : (sortR rs).Pairwise (· ≤ ·) := by
  have := List.pairwise_mergeSort (le := PySem.W.dataLe false tR) (fun a b c h1 h2 => by
    rw [le_tR] at *
    simp only [decide_eq_true_eq] at *
    exact List.le_trans h1 h2) (fun a b => by
    rw [le_tR]
    simp only [Bool.or_eq_true, decide_eq_true_eq]
    exact List.le_total a b) rs
  unfold sortR
  refine this.imp fun {a b} h => ?_
  rw [le_tR] at h
  simpa using h
theorem sortR_uniq {xs ys : List (List Int)} (hp : xs.Perm ys) (h : ys.Pairwise (· ≤ ·)) : sortR xs = ys :=
  ((sortR_perm xs).trans hp).eq_of_pairwise (fun a b _ _ h1 h2 => List.le_antisymm h1 h2) (sortR_pw xs) h
theorem sortR_congr {xs ys : List (List Int)} (hp : xs.Perm ys) : sortR xs = sortR ys := sortR_uniq (hp.trans (sortR_perm ys).symm) (sortR_pw ys)
theorem chM_nodup : ∀ {ps : List Int}, ps.Nodup → (chM ps).Nodup := fun {ps} => by
  refine snoc_ind (P := fun ps => ps.Nodup → (chM ps).Nodup) (fun _ => by show [[]].Nodup; simp) (fun l x ih h => ?_) ps
  have hl : l.Nodup := (List.nodup_append.mp h).1
  have hx : x ∉ l := fun hm => (List.nodup_append.mp h).2.2 x hm x (by simp) rfl
  rw [chM_snoc, List.nodup_append]
  refine ⟨ih hl, ?_, fun a ha b hb e => ?_⟩
  · exact List.Pairwise.map (S := (· ≠ ·)) (fun c => c ++ [x]) (fun a b hab z => hab (by simpa using z)) (ih hl)
  · subst e
    obtain ⟨c, hc, e⟩ := List.mem_map.mp hb
    have := (mem_chM.mp ha).subset (by rw [← e]; simp : x ∈ a)
    exact hx this
end L2.P

set_option Elab.async false
set_option linter.all false
set_option maxRecDepth 100000
set_option maxHeartbeats 4000000
/-! PL33: states that calls reach; searches that keep what they found; in plain Lean. -/
namespace L2.P
open PySem PySem.Spec PyProof.Rows L2
theorem mem_toldM {w : List (List Int)} {st ps : List Int} {x : Int} : x ∈ toldM w st ps ↔ x ∈ st ∧ ∀ k ∈ fr w x, x < k → k ∈ ps → k ∉ st := by
  unfold toldM has
  rw [List.mem_filter, Bool.not_eq_true', List.any_eq_false]
  simp only [Bool.and_eq_true, decide_eq_true_eq, List.mem_filter]
  exact ⟨fun ⟨a, b⟩ => ⟨a, fun k hk hx hp hs => b k hk ⟨hx, hp, hs⟩⟩, fun ⟨a, b⟩ => ⟨a, fun k hk ⟨hx, hp, hs⟩ => b k hk hx hp hs⟩⟩
theorem pw_toldM {w : List (List Int)} {st ps : List Int} (h : st.Pairwise (· < ·)) : (toldM w st ps).Pairwise (· < ·) := h.sublist List.filter_sublist
/-- people who call from the shortest up: all stand when they are called -/
theorem fold_told {w : List (List Int)} (h : Web w) : ∀ (ps st : List Int), Ppl w.length ps → Ppl w.length st → ps.foldl (callM w) st = toldM w st ps
  | [], st, _, hs => by
    refine (pw_unique hs.up (pw_toldM hs.up) fun x => ?_)
    rw [mem_toldM]
    exact ⟨fun a => ⟨a, fun _ _ _ z => by cases z⟩, fun a => a.1⟩
  | p :: ps, st, hp, hs => by
    obtain ⟨p1, p2⟩ := List.pairwise_cons.mp hp.up
    have h0 := hp.inn p List.mem_cons_self
    rw [List.foldl_cons, fold_told h ps (callM w st p) ⟨p2, fun k hk => hp.inn k (List.mem_cons_of_mem _ hk)⟩ (callM_ppl hs)]
    refine pw_unique (pw_toldM (callM_ppl hs).up) (pw_toldM hs.up) fun x => ?_
    rw [mem_toldM, mem_toldM, mem_callM]
    constructor
    · rintro ⟨⟨a, b⟩, c⟩
      refine ⟨a, fun k hk hx hkp hks => ?_⟩
      rcases List.mem_cons.mp hkp with rfl | hkp
      · rcases b hks with b | b
        · omega
        · exact b (h.sym x k (hs.inn x a).1 (hs.inn x a).2 hk)
      · have := p1 k hkp
        exact c k hk hx hkp (mem_callM.mpr ⟨hks, fun _ => .inl (by omega)⟩)
    · rintro ⟨a, c⟩
      refine ⟨⟨a, fun hps => ?_⟩, fun k hk hx hkp hks => c k hk hx (List.mem_cons_of_mem _ hkp) (mem_callM.mp hks).1⟩
      by_cases e : p ≤ x
      · exact .inl e
      · exact .inr fun z => c p (h.sym p x h0.1 h0.2 z) (by omega) List.mem_cons_self hps
/-- s is reached from st by calls -/
def Rch (w : List (List Int)) (st s : List Int) : Prop := ∃ cs : List Int, s = cs.foldl (callM w) st
theorem Rch.refl (w : List (List Int)) (st : List Int) : Rch w st st := ⟨[], rfl⟩
theorem Rch.step {w : List (List Int)} {st s : List Int} (h : Rch w st s) (p : Int) : Rch w st (callM w s p) := by
  obtain ⟨cs, rfl⟩ := h
  exact ⟨cs ++ [p], by rw [List.foldl_append]; rfl⟩
theorem fold_sublist {w : List (List Int)} : ∀ (cs st : List Int), (cs.foldl (callM w) st).Sublist st
  | [], st => List.Sublist.refl _
  | c :: cs, st => (fold_sublist cs (callM w st c)).trans (callM_sub w st c)
theorem Rch.sub {w : List (List Int)} {st s : List Int} (h : Rch w st s) : s.Sublist st := by
  obtain ⟨cs, rfl⟩ := h
  exact fold_sublist cs st
theorem Rch.ppl {w : List (List Int)} {st s : List Int} {n : Nat} (h : Rch w st s) (hs : Ppl n st) : Ppl n s := hs.sub h.sub
/-- what is reached is what can come -/
theorem rch_fit {w : List (List Int)} (h : Web w) {st s : List Int} (hs : Ppl w.length st) : Rch w st s ↔ s.Sublist st ∧ fitM w st s = true := by
  constructor
  · rintro hr
    refine ⟨hr.sub, ?_⟩
    obtain ⟨cs, rfl⟩ := hr
    exact fit_fold h hs cs
  · rintro ⟨hsub, hf⟩
    have hps : Ppl w.length (mayM w st s) := hs.sub List.filter_sublist
    refine ⟨mayM w st s, ?_⟩
    rw [fold_told h _ _ hps hs]
    obtain ⟨f1, f2⟩ := fitM_iff.mp hf
    refine pw_unique (hs.up.sublist hsub) (pw_toldM hs.up) fun x => ?_
    rw [mem_toldM]
    constructor
    · intro hx
      have hxs := f1 x hx
      refine ⟨hxs, fun k hk hxk hkm hks => ?_⟩
      have hi := hs.inn x hxs
      exact (mem_mayM.mp hkm).2 x (h.sym x k hi.1 hi.2 hk) hxk hx
    · rintro ⟨hx, hn⟩
      apply Classical.byContradiction
      intro hns
      obtain ⟨k, k1, k2, k3⟩ := f2 x hx hns
      exact hn k k1 k2 k3 (mem_mayM.mp k3).1
theorem call_not {w : List (List Int)} {st : List Int} {p : Int} (h : p ∉ st) : callM w st p = st := by unfold callM; rw [if_neg h]
/-- all that s brings at once is in ks -/
def Cl (w : List (List Int)) (ks : List (List Int)) (s : List Int) : Prop := ∀ p ∈ moversM w s, callM w s p ∈ ks
theorem Cl.mono {w : List (List Int)} {ks ks' : List (List Int)} {s : List Int} (h : Cl w ks s) (hk : ∀ x ∈ ks, x ∈ ks') : Cl w ks' s := fun p hp => hk _ (h p hp)
theorem mem_movers {w : List (List Int)} {s : List Int} {p : Int} : p ∈ moversM w s ↔ p ∈ s ∧ callM w s p ≠ s := by
  unfold moversM
  rw [List.mem_filter]
  exact ⟨fun ⟨a, b⟩ => ⟨a, (movers_iff a).mpr b⟩, fun ⟨a, b⟩ => ⟨a, (movers_iff a).mp b⟩⟩
theorem closed_rch {w : List (List Int)} {ks : List (List Int)} {st : List Int} (h0 : st ∈ ks) (h : ∀ s ∈ ks, Cl w ks s) : ∀ s, Rch w st s → s ∈ ks := by
  rintro s ⟨cs, rfl⟩
  revert cs
  refine snoc_ind (by exact h0) fun cs c ih => ?_
  rw [List.foldl_append]
  show callM w (cs.foldl (callM w) st) c ∈ ks
  by_cases e : callM w (cs.foldl (callM w) st) c = cs.foldl (callM w) st
  · rw [e]; exact ih
  · refine h _ ih c (mem_movers.mpr ⟨?_, e⟩)
    apply Classical.byContradiction
    intro hn
    exact e (call_not hn)
theorem call_len {w : List (List Int)} {s : List Int} {p : Int} (h : p ∈ moversM w s) : (callM w s p).length < s.length := by
  have h1 := (mem_movers.mp h).2
  have h2 := callM_sub w s p
  rcases Nat.lt_or_ge (callM w s p).length s.length with h | h
  · exact h
  · exact absurd (h2.eq_of_length_le h) h1
theorem nodup_len {α : Type} [DecidableEq α] : ∀ {ks ls : List α}, ks.Nodup → (∀ x ∈ ks, x ∈ ls) → ks.length ≤ ls.length
  | [], _, _, _ => Nat.zero_le _
  | k :: ks, ls, hn, hs => by
    obtain ⟨h1, h2⟩ := List.nodup_cons.mp hn
    have hk := hs k List.mem_cons_self
    have := nodup_len (ks := ks) (ls := ls.erase k) h2 fun x hx => (List.mem_erase_of_ne (by rintro rfl; exact h1 hx)).mpr (hs x (List.mem_cons_of_mem _ hx))
    rw [List.length_erase_of_mem hk] at this
    have hp : 0 < ls.length := List.length_pos_of_mem hk
    rw [List.length_cons]
    omega
/-- in the midst of a round of a search: j states of last are done -/
structure Mid (w : List (List Int)) (st : List Int) (c : Nat) (last : List (List Int)) (j : Nat) (ks fresh : List (List Int)) : Prop where
  nd : ks.Nodup
  rch : ∀ s ∈ ks, Rch w st s
  beg : st ∈ ks
  fk : ∀ s ∈ fresh, s ∈ ks
  lk : ∀ s ∈ last, s ∈ ks
  cl : ∀ s ∈ ks, s ∉ fresh → s ∉ last ∨ s ∈ last.take j → Cl w ks s
  szl : ∀ s ∈ last, s.length + c ≤ st.length
  sz : ∀ s ∈ fresh, s.length + (c + 1) ≤ st.length
  fl : fresh.length ≤ ks.length
theorem Mid.len {w : List (List Int)} {st : List Int} {c : Nat} {last : List (List Int)} {j : Nat} {ks fresh : List (List Int)} (M : Mid w st c last j ks fresh) : ks.length ≤ 2 ^ st.length := by
  rw [← chM_len]
  exact nodup_len M.nd fun s hs => mem_chM.mpr (M.rch s hs).sub
/-- .. m of here's movers, too -/
structure Mid2 (w : List (List Int)) (st : List Int) (c : Nat) (last : List (List Int)) (j : Nat) (here : List Int) (m : Nat) (ks fresh : List (List Int)) : Prop extends Mid w st c last j ks fresh where
  mv : ∀ q ∈ (moversM w here).take m, callM w here q ∈ ks
theorem Mid.start {w : List (List Int)} {st : List Int} {c : Nat} {last : List (List Int)} {j : Nat} {ks fresh : List (List Int)} (M : Mid w st c last j ks fresh) (here : List Int) : Mid2 w st c last j here 0 ks fresh := ⟨M, fun q hq => by cases hq⟩
theorem Mid2.done {w : List (List Int)} {st : List Int} {c : Nat} {last : List (List Int)} {j : Nat} {here : List Int} {ks fresh : List (List Int)} (M : Mid2 w st c last j here (moversM w here).length ks fresh) (hj : last[j]? = some here) : Mid w st c last (j + 1) ks fresh := by
  refine ⟨M.nd, M.rch, M.beg, M.fk, M.lk, fun s hs hf ho => ?_, M.szl, M.sz, M.fl⟩
  rcases ho with ho | ho
  · exact M.cl s hs hf (.inl ho)
  · rw [List.take_add_one, hj] at ho
    rcases List.mem_append.mp ho with ho | ho
    · exact M.cl s hs hf (.inr ho)
    · have : s = here := by simpa using ho
      subst this
      intro q hq
      refine M.mv q ?_
      rw [List.take_length]
      exact hq
theorem Mid2.old {w : List (List Int)} {st : List Int} {c : Nat} {last : List (List Int)} {j m : Nat} {here : List Int} {q : Int} {ks fresh : List (List Int)} (M : Mid2 w st c last j here m ks fresh) (hq : (moversM w here)[m]? = some q) (hin : callM w here q ∈ ks) : Mid2 w st c last j here (m + 1) ks fresh := by
  refine ⟨M.toMid, fun r hr => ?_⟩
  rw [List.take_add_one, hq] at hr
  rcases List.mem_append.mp hr with hr | hr
  · exact M.mv r hr
  · have : r = q := by simpa using hr
    subst this; exact hin
theorem Mid2.new {w : List (List Int)} {st : List Int} {c : Nat} {last : List (List Int)} {j m : Nat} {here : List Int} {q : Int} {ks fresh : List (List Int)} (M : Mid2 w st c last j here m ks fresh) (hq : (moversM w here)[m]? = some q) (hh : here ∈ last) (hin : callM w here q ∉ ks) : Mid2 w st c last j here (m + 1) (ks ++ [callM w here q]) (fresh ++ [callM w here q]) := by
  have up : ∀ x ∈ ks, x ∈ ks ++ [callM w here q] := fun x hx => List.mem_append_left _ hx
  have hqm := List.mem_of_getElem? hq
  refine ⟨⟨?_, fun s hs => ?_, up _ M.beg, fun s hs => ?_, fun s hs => up _ (M.lk s hs), fun s hs hf ho => ?_, M.szl, fun s hs => ?_, ?_⟩, fun r hr => ?_⟩
  · rw [List.nodup_append]
    refine ⟨M.nd, by simp, fun a ha b hb e => ?_⟩
    rw [List.mem_singleton] at hb
    subst hb; subst e
    exact hin ha
  · rcases List.mem_append.mp hs with hs | hs
    · exact M.rch s hs
    · rw [List.mem_singleton] at hs
      subst hs
      exact (M.rch here (M.lk here hh)).step q
  · rcases List.mem_append.mp hs with hs | hs
    · exact up _ (M.fk s hs)
    · exact List.mem_append_right _ hs
  · have hf' : s ∉ fresh := fun z => hf (List.mem_append_left _ z)
    rcases List.mem_append.mp hs with hs | hs
    · exact (M.cl s hs hf' ho).mono up
    · exact absurd (List.mem_append_right _ hs) hf
  · rcases List.mem_append.mp hs with hs | hs
    · exact M.sz s hs
    · rw [List.mem_singleton] at hs
      subst hs
      have a := call_len hqm
      have b := M.szl here hh
      omega
  · rw [List.length_append, List.length_append]
    have := M.fl
    simp only [List.length_singleton]; omega
  · rw [List.take_add_one, hq] at hr
    rcases List.mem_append.mp hr with hr | hr
    · exact up _ (M.mv r hr)
    · have : r = q := by simpa using hr
      subst this
      exact List.mem_append_right _ (List.mem_singleton.mpr rfl)
/-- ahead of a round -/
structure Rnd (w : List (List Int)) (st : List Int) (c : Nat) (ks last : List (List Int)) : Prop where
  nd : ks.Nodup
  rch : ∀ s ∈ ks, Rch w st s
  beg : st ∈ ks
  lk : ∀ s ∈ last, s ∈ ks
  cl : ∀ s ∈ ks, s ∉ last → Cl w ks s
  sz : ∀ s ∈ last, s.length + c ≤ st.length
  ll : last.length ≤ ks.length
theorem Rnd.start (w : List (List Int)) (st : List Int) : Rnd w st 0 [st] [st] :=
  ⟨by simp, fun s hs => by rw [List.mem_singleton] at hs; subst hs; exact Rch.refl _ _, List.mem_singleton.mpr rfl, fun s hs => hs, fun s hs hn => absurd hs hn, fun s hs => by rw [List.mem_singleton] at hs; subst hs; omega, Nat.le_refl _⟩
theorem Rnd.mid {w : List (List Int)} {st : List Int} {c : Nat} {ks last : List (List Int)} (R : Rnd w st c ks last) : Mid w st c last 0 ks [] := by
  refine ⟨R.nd, R.rch, R.beg, fun s hs => (by cases hs), R.lk, fun s hs _ ho => ?_, R.sz, fun s hs => (by cases hs), Nat.zero_le _⟩
  rcases ho with ho | ho
  · exact R.cl s hs ho
  · cases ho
theorem Mid.rnd {w : List (List Int)} {st : List Int} {c : Nat} {ks last fresh : List (List Int)} (M : Mid w st c last last.length ks fresh) : Rnd w st (c + 1) ks fresh :=
  ⟨M.nd, M.rch, M.beg, M.fk, fun s hs hf => M.cl s hs hf (by rw [List.take_length]; exact (Classical.em (s ∈ last)).symm), M.sz, M.fl⟩
theorem Rnd.full {w : List (List Int)} {st : List Int} {c : Nat} {ks : List (List Int)} (R : Rnd w st c ks []) (s : List Int) : s ∈ ks ↔ Rch w st s :=
  ⟨R.rch s, closed_rch R.beg (fun s hs => R.cl s hs (by simp)) s⟩
theorem Rnd.len {w : List (List Int)} {st : List Int} {c : Nat} {ks last : List (List Int)} (R : Rnd w st c ks last) : ks.length ≤ 2 ^ st.length := R.mid.len
theorem movers_end {w : List (List Int)} {st : List Int} (h : Web w) (hs : Ppl w.length st) : decide (moversM w st = []) = apM w st := by
  rw [Bool.eq_iff_iff, decide_eq_true_eq, apM_iff]
  unfold moversM has
  simp only [List.filter_eq_nil_iff, List.any_eq_true, Bool.and_eq_true, decide_eq_true_eq]
  constructor
  · intro q x hx y hy hf
    have hi := hs.inn x hx
    have h2 := h.inn x y hi.1 hi.2 hf
    rcases Int.lt_or_gt_of_ne h2.2.2 with c | c
    · exact q x hx ⟨y, hf, c, hy⟩
    · exact q y hy ⟨x, h.sym x y hi.1 hi.2 hf, c, hx⟩
  · rintro q x hx ⟨y, hf, _, hy⟩
    exact q x hx y hy hf
theorem addT {a b : List Int} (h : a.length + b.length ≤ 1000) : dAdd (tR a) (tR b) = some (tR (a ++ b)) := by
  show (if _ then _ else _) = _
  rw [if_pos (by rw [List.length_map, List.length_map, sizeLine_eq]; omega)]
  show _ = some (PyData.tuple ((a ++ b).map .int))
  rw [List.map_append]
theorem neL (r : List Int) : dNe (.list (r.map .int)) (.list []) = some (.bool (!decide (r = []))) := encInt.list.ne r []
theorem eqL (r : List Int) : dEq (.list (r.map .int)) (.list []) = some (.bool (decide (r = []))) := encInt.list.eq r []
theorem neT (r s : List Int) : dNe (tR r) (tR s) = some (.bool (!decide (r = s))) := encInt.tup.ne r s
theorem eqT (r s : List Int) : dEq (tR r) (tR s) = some (.bool (decide (r = s))) := encInt.tup.eq r s
theorem neLs (rs : List (List Int)) : dNe (.list (rs.map tR)) (.list []) = some (.bool (!decide (rs = []))) := encInt.tup.list.ne rs []
theorem eqLs (rs : List (List Int)) : dEq (.list (rs.map tR)) (.list []) = some (.bool (decide (rs = []))) := encInt.tup.list.eq rs []
theorem inLs (r : List Int) (rs : List (List Int)) : dIn (tR r) (.list (rs.map tR)) = some (.bool (decide (r ∈ rs))) := (encInt.tup.inL r rs).trans (by congr)
theorem niLs (r : List Int) (rs : List (List Int)) : dNotIn (tR r) (.list (rs.map tR)) = some (.bool (!decide (r ∈ rs))) := (encInt.tup.niL r rs).trans (by congr)
theorem vAnd_b {f g : Rho → Option D} {ρ : Rho} {b : Bool} (h : f ρ = some (.bool b)) : vAnd f g ρ = if b = true then g ρ else some (.bool false) := by rw [e_vAnd, h]; rfl
theorem vOr_b {f g : Rho → Option D} {ρ : Rho} {b : Bool} (h : f ρ = some (.bool b)) : vOr f g ρ = if b = true then some (.bool true) else g ρ := by rw [e_vOr, h]; rfl
end L2.P

set_option Elab.async false
set_option linter.all false
set_option maxRecDepth 100000
set_option maxHeartbeats 4000000
/-! PL34: the widest of sets: by the least of pairs, and by places in a list in order. -/
namespace L2.P
open PySem PySem.Spec PyProof.Rows L2
/-- a number and a set -/
def irD (e : Int × List Int) : D := .tuple [.int e.1, tR e.2]
theorem encIR : EncOk irD 2 := ⟨fun a b => by
    obtain ⟨a1, a2⟩ := a
    obtain ⟨b1, b2⟩ := b
    show PyData.eqvAll [.int a1, tR a2] [.int b1, tR b2] = _
    simp only [PyData.eqvAll, encInt.1, eqv_ints, Bool.and_true]
    rw [Bool.eq_iff_iff]
    simp, fun a => by
    show PyData.plainAll [.int a.1, tR a.2] = true
    simp only [PyData.plainAll, Bool.and_true]
    rw [Bool.and_eq_true]
    exact ⟨rfl, encInt.tup.plain a.2⟩, fun a => by
    have := encInt.tup.depth a.2
    show PyData.depthAll [.int a.1, tR a.2] + 1 ≤ 2
    have e : PyData.depthAll [.int a.1, tR a.2] = max 0 (max (tR a.2).depth 0) := rfl
    rw [e]
    have : (tR a.2).depth ≤ 1 := this
    omega⟩
theorem alike_ir (a b : Int × List Int) : PySem.W.alike (irD a) (irD b) = true := by
  show PySem.W.alikeAll [.int a.1, tR a.2] [.int b.1, tR b.2] = true
  simp only [PySem.W.alikeAll, alike_tR, Bool.and_true]
  rfl
theorem okM_IR (es : List (Int × List Int)) : okM (es.map irD) = true := by
  unfold okM
  rw [Bool.and_eq_true, List.all_eq_true]
  refine ⟨fun x hx => ?_, encIR.oks es⟩
  obtain ⟨e, _, rfl⟩ := List.mem_map.mp hx
  rw [Bool.and_eq_true, List.all_eq_true]
  refine ⟨rfl, fun y hy => ?_⟩
  obtain ⟨e', _, rfl⟩ := List.mem_map.mp hy
  exact alike_ir _ _
/-- the order of pairs -/
def LtP (a b : Int × List Int) : Prop := a.1 < b.1 ∨ (a.1 = b.1 ∧ a.2 < b.2)
theorem lt_tR (r s : List Int) : PySem.W.dataLt (tR r) (tR s) = decide (r < s) := by
  rw [PySem.W.dataLt_tuple]
  exact PySem.W.dataLt_ints r s
theorem lt_ir (a b : Int × List Int) : PySem.W.dataLt (irD a) (irD b) = true ↔ LtP a b := by
  unfold irD LtP
  rw [PySem.W.dataLt_pair rfl (alike_tR _ _), encInt.1, eqv_ints, lt_tR, PySem.W.dataLt_int]
  by_cases h : a.1 = b.1
  · rw [if_pos (by simpa using h)]
    by_cases h2 : a.2 = b.2
    · rw [if_pos (by simpa using h2), h2]
      simp [h, List.lt_irrefl]
    · rw [if_neg (by simpa using h2)]
      simp [h]
  · rw [if_neg (by simpa using h)]
    simp [h]
theorem LtP.trans {a b c : Int × List Int} (h1 : LtP a b) (h2 : LtP b c) : LtP a c := by
  rcases h1 with h1 | ⟨h1, h1'⟩ <;> rcases h2 with h2 | ⟨h2, h2'⟩
  · exact .inl (by omega)
  · exact .inl (by omega)
  · exact .inl (by omega)
  · exact .inr ⟨by omega, List.lt_trans h1' h2'⟩
theorem LtP.negtrans {a b c : Int × List Int} (h1 : ¬ LtP a b) (h2 : ¬ LtP b c) : ¬ LtP a c := by
  unfold LtP at *
  rintro (h | ⟨h, h'⟩)
  · by_cases e : a.1 < b.1
    · exact h1 (.inl e)
    · by_cases e2 : b.1 < c.1
      · exact h2 (.inl e2)
      · omega
  · have e1 : ¬ a.1 < b.1 := fun z => h1 (.inl z)
    have e2 : ¬ b.1 < c.1 := fun z => h2 (.inl z)
    have e3 : a.1 = b.1 := by omega
    have e4 : b.1 = c.1 := by omega
    have l1 : b.2 ≤ a.2 := List.not_lt.mp fun z => h1 (.inr ⟨e3, z⟩)
    have l2 : c.2 ≤ b.2 := List.not_lt.mp fun z => h2 (.inr ⟨e4, z⟩)
    exact absurd h' (List.not_lt.mpr (List.le_trans l2 l1))
theorem LtP.irrefl (a : Int × List Int) : ¬ LtP a a := by
  rintro (h | ⟨_, h⟩)
  · omega
  · exact List.lt_irrefl _ h
theorem minD_ir : ∀ (es : List (Int × List Int)) (e : Int × List Int), ∃ m ∈ e :: es, PySem.W.minD (irD e) (es.map irD) = irD m ∧ ∀ y ∈ e :: es, ¬ LtP y m
  | [], e => ⟨e, List.mem_cons_self, rfl, fun y hy => by
    have : y = e := by simpa using hy
    subst this
    exact LtP.irrefl _⟩
  | f :: es, e => by
    have key : PySem.W.minD (irD e) ((f :: es).map irD) = PySem.W.minD (if PySem.W.dataLt (irD f) (irD e) = true then irD f else irD e) (es.map irD) := rfl
    by_cases h : PySem.W.dataLt (irD f) (irD e) = true
    · obtain ⟨m, hm, h1, h2⟩ := minD_ir es f
      refine ⟨m, List.mem_cons_of_mem _ hm, by rw [key, if_pos h]; exact h1, fun y hy => ?_⟩
      rcases List.mem_cons.mp hy with rfl | hy
      · intro z
        exact h2 f List.mem_cons_self (((lt_ir _ _).mp h).trans z)
      · exact h2 y hy
    · obtain ⟨m, hm, h1, h2⟩ := minD_ir es e
      refine ⟨m, ?_, by rw [key, if_neg h]; exact h1, fun y hy => ?_⟩
      · rcases List.mem_cons.mp hm with rfl | hm
        · exact List.mem_cons_self
        · exact List.mem_cons_of_mem _ (List.mem_cons_of_mem _ hm)
      · rcases List.mem_cons.mp hy with rfl | hy
        · exact h2 _ List.mem_cons_self
        · rcases List.mem_cons.mp hy with rfl | hy
          · exact LtP.negtrans (fun z => h ((lt_ir _ _).mpr z)) (h2 e List.mem_cons_self)
          · exact h2 y (List.mem_cons_of_mem _ hy)
/-- e is the widest of rs, the least of them in order -/
def Wid (rs : List (List Int)) (e : List Int) : Prop := e ∈ rs ∧ ∀ y ∈ rs, y.length < e.length ∨ (y.length = e.length ∧ e ≤ y)
theorem Wid.uniq {rs ss : List (List Int)} {e f : List Int} (h1 : Wid rs e) (h2 : Wid ss f) (h : ∀ r, r ∈ rs ↔ r ∈ ss) : e = f := by
  rcases h1.2 f ((h f).mpr h2.1) with a | ⟨a, a'⟩
  · rcases h2.2 e ((h e).mp h1.1) with b | ⟨b, _⟩ <;> omega
  · rcases h2.2 e ((h e).mp h1.1) with b | ⟨b, b'⟩
    · omega
    · exact List.le_antisymm a' b'
theorem min_wide {rs : List (List Int)} (hne : rs ≠ []) : ∃ e, Wid rs e ∧ gMin [.list (rs.map fun r => irD (-(r.length : Int), r))] = some (irD (-(e.length : Int), e)) := by
  cases rs with
  | nil => exact absurd rfl hne
  | cons r rs =>
    obtain ⟨m, hm, h1, h2⟩ := minD_ir (rs.map fun r => (-(r.length : Int), r)) (-(r.length : Int), r)
    rw [← List.map_cons (f := fun r : List Int => (-(r.length : Int), r))] at hm h2
    obtain ⟨e, he, rfl⟩ := List.mem_map.mp hm
    refine ⟨e, ⟨he, fun y hy => ?_⟩, ?_⟩
    · have := h2 _ (List.mem_map_of_mem (f := fun r : List Int => (-(r.length : Int), r)) hy)
      unfold LtP at this
      simp only at this
      by_cases c : y.length < e.length
      · exact .inl c
      · have c1 : ¬ (-(y.length : Int) < -(e.length : Int)) := fun z => this (.inl z)
        have c2 : y.length = e.length := by omega
        exact .inr ⟨c2, List.not_lt.mp fun z => this (.inr ⟨by omega, z⟩)⟩
    · show (if okM _ = true then some (PySem.W.minD _ _) else none) = _
      have ok := okM_IR ((r :: rs).map fun r => (-(r.length : Int), r))
      rw [List.map_map] at ok h1
      rw [List.map_cons] at ok
      rw [if_pos (by exact ok)]
      exact congrArg some h1
theorem max_ints {ns : List Int} (hne : ns ≠ []) : ∃ M ∈ ns, gMax [.list (ns.map .int)] = some (.int M) ∧ ∀ n ∈ ns, n ≤ M := by
  cases ns with
  | nil => exact absurd rfl hne
  | cons n ns =>
    have key : ∀ (ns : List Int) (n : Int), ns.foldl max n ∈ n :: ns ∧ ∀ k ∈ n :: ns, k ≤ ns.foldl max n := fun ns => by
      induction ns with
      | nil => intro n; simp
      | cons k ns ih =>
        intro n
        obtain ⟨a, b⟩ := ih (max n k)
        rw [List.foldl_cons]
        refine ⟨?_, fun x hx => ?_⟩
        · rcases List.mem_cons.mp a with e | a
          · rw [e]
            by_cases c : n ≤ k
            · rw [Int.max_eq_right c]; simp
            · rw [Int.max_eq_left (by omega)]; simp
          · exact List.mem_cons_of_mem _ (List.mem_cons_of_mem _ a)
        · have b0 := b (max n k) List.mem_cons_self
          rcases List.mem_cons.mp hx with rfl | hx
          · omega
          · rcases List.mem_cons.mp hx with rfl | hx
            · omega
            · exact b x (List.mem_cons_of_mem _ hx)
    obtain ⟨a, b⟩ := key ns n
    refine ⟨_, a, ?_, b⟩
    show (if okM _ = true then some (PySem.W.maxD _ _) else none) = _
    have ok := okM_I (n :: ns)
    rw [List.map_cons] at ok
    rw [if_pos (by exact ok), PySem.W.maxD_ints]
/-- the first place of the greatest size, in a list in order -/
theorem first_wide {rs : List (List Int)} (hs : rs.Pairwise (· ≤ ·)) (hne : rs ≠ []) : ∃ c, Wid rs c ∧ gMax [.list ((rs.map fun r => (r.length : Int)).map .int)] = some (.int c.length) ∧ (c.length : Int) ∈ rs.map (fun r => (r.length : Int)) ∧ dIx (.list (rs.map tR)) (.int ((rs.map fun r => (r.length : Int)).idxOf (c.length : Int) : Nat)) = some (tR c) := by
  obtain ⟨M, hM, h1, h2⟩ := max_ints (ns := rs.map fun r => (r.length : Int)) (by intro z; exact hne (List.map_eq_nil_iff.mp z))
  have hlt := List.idxOf_lt_length_of_mem hM
  rw [List.length_map] at hlt
  have hget := List.getElem_idxOf (x := M) (xs := rs.map fun r => (r.length : Int)) (by rw [List.length_map]; exact hlt)
  rw [List.getElem_map] at hget
  refine ⟨rs[(rs.map fun r => (r.length : Int)).idxOf M], ⟨List.getElem_mem _, fun y hy => ?_⟩, by rw [hget]; exact h1, by rw [hget]; exact hM, ?_⟩
  · have hyM := h2 _ (List.mem_map_of_mem (f := fun r : List Int => (r.length : Int)) hy)
    by_cases c : (y.length : Int) = M
    · refine .inr ⟨by omega, ?_⟩
      obtain ⟨j, hj, rfl⟩ := List.getElem_of_mem hy
      have hle := idxOf_le (ns := rs.map fun r => (r.length : Int)) (m := j) (k := M) (by rw [List.getElem?_map, List.getElem?_eq_getElem hj]; exact congrArg some c)
      rcases Nat.lt_or_eq_of_le hle with e | e
      · exact List.pairwise_iff_getElem.mp hs _ _ hlt hj e
      · have : rs[(rs.map fun r => (r.length : Int)).idxOf M] = rs[j] := by congr 1
        rw [this]
        exact List.le_refl _
    · exact .inl (by omega)
  · rw [hget]
    show atI _ _ = _
    exact atI_nat (by rw [List.getElem?_map, List.getElem?_eq_getElem hlt]; rfl)
end L2.P

set_option Elab.async false
set_option linter.all false
set_option maxRecDepth 100000
set_option maxHeartbeats 4000000
/-! PL35: what several laws share in plain Lean: answers alike, filters, sets, ends; dictionaries of any values. -/
namespace L2.P
open PySem PySem.Spec PyProof.Rows L2
theorem al_Rs {n : Nat} (rs : List (List Int)) (h : rs.length ≤ 1000) (hr : ∀ r ∈ rs, r.length ≤ 1000) : Al (n + 3) (.list (rs.map tR)) := .lst (by rw [List.length_map]; omega) fun x hx => by
  obtain ⟨r, hr', rfl⟩ := List.mem_map.mp hx
  exact al_R _ (by have := hr r hr'; omega)
theorem al_RsT {n : Nat} (rs : List (List Int)) (h : rs.length ≤ 1000) (hr : ∀ r ∈ rs, r.length ≤ 1000) : Al (n + 3) (.tuple (rs.map tR)) := .tup (by rw [List.length_map]; omega) fun x hx => by
  obtain ⟨r, hr', rfl⟩ := List.mem_map.mp hx
  exact al_R _ (by have := hr r hr'; omega)
theorem al_IR {n : Nat} (e : Int × List Int) (h : e.2.length ≤ 1000) : Al (n + 3) (irD e) := .tup (by simp) fun x hx => by
  rcases List.mem_cons.mp hx with rfl | hx
  · exact .int _
  · have : x = tR e.2 := by simpa using hx
    subst this
    exact al_R _ (by omega)
theorem al_L {n : Nat} (r : List Int) (h : r.length ≤ 1000) : Al (n + 2) (.list (r.map .int)) := .lst (by rw [List.length_map]; omega) fun x hx => by
  obtain ⟨k, _, rfl⟩ := List.mem_map.mp hx
  exact .int _
theorem any_filter {α : Type} [DecidableEq α] (P : α → Bool) (xs : List α) : (!decide (xs.filter P = [])) = xs.any P := by
  rw [Bool.eq_iff_iff, Bool.not_eq_true', decide_eq_false_iff_not, List.filter_eq_nil_iff, List.any_eq_true]
  constructor
  · intro h
    apply Classical.byContradiction
    intro q
    exact h fun a ha hp => q ⟨a, ha, hp⟩
  · rintro ⟨a, ha, hp⟩ h
    exact h a ha hp
theorem all_filter {α : Type} [DecidableEq α] (P : α → Bool) (xs : List α) : decide (xs.filter (fun x => !P x) = []) = xs.all P := by
  rw [Bool.eq_iff_iff, decide_eq_true_eq, List.filter_eq_nil_iff, List.all_eq_true]
  simp
theorem peaks_told {w : List (List Int)} {st : List Int} (h : Web w) (hs : Ppl w.length st) : toldM w st (upI w.length) = st.filter fun x => !has w st (fun x k => decide (x < k)) x := by
  refine pw_unique (pw_toldM hs.up) (hs.up.sublist List.filter_sublist) fun x => ?_
  rw [mem_toldM, List.mem_filter, Bool.not_eq_true']
  unfold has
  rw [List.any_eq_false]
  simp only [Bool.and_eq_true, decide_eq_true_eq]
  exact ⟨fun ⟨a, b⟩ => ⟨a, fun k hk ⟨h1, h2⟩ => b k hk h1 (mem_upI.mpr (hs.inn k h2)) h2⟩, fun ⟨a, b⟩ => ⟨a, fun k hk h1 _ h2 => b k hk ⟨h1, h2⟩⟩⟩
theorem peaks_toldS {w : List (List Int)} {st : List Int} (hs : Ppl w.length st) : toldM w st st = st.filter fun x => !has w st (fun x k => decide (x < k)) x := by
  refine pw_unique (pw_toldM hs.up) (hs.up.sublist List.filter_sublist) fun x => ?_
  rw [mem_toldM, List.mem_filter, Bool.not_eq_true']
  unfold has
  rw [List.any_eq_false]
  simp only [Bool.and_eq_true, decide_eq_true_eq]
  exact ⟨fun ⟨a, b⟩ => ⟨a, fun k hk ⟨h1, h2⟩ => b k hk h1 h2 h2⟩, fun ⟨a, b⟩ => ⟨a, fun k hk h1 h2 _ => b k hk ⟨h1, h2⟩⟩⟩
theorem fold_filter {w : List (List Int)} {st : List Int} : ∀ (cs s : List Int), (∀ k ∈ s, k ∈ st) → cs.foldl (callM w) s = (cs.filter fun c => decide (c ∈ st)).foldl (callM w) s
  | [], s, _ => rfl
  | c :: cs, s, hs => by
    rw [List.foldl_cons, List.filter_cons]
    have hs' : ∀ k ∈ callM w s c, k ∈ st := fun k hk => hs k (mem_callM.mp hk).1
    by_cases e : c ∈ st
    · rw [if_pos (by simpa using e), List.foldl_cons]
      exact fold_filter cs _ hs'
    · rw [if_neg (by simpa using e), call_not (fun z => e (hs c z))]
      exact fold_filter cs s hs
theorem upI_filter {n : Nat} {st : List Int} (hs : Ppl n st) : (upI n).filter (fun c => decide (c ∈ st)) = st := by
  refine pw_unique ((pw_upI n).sublist List.filter_sublist) hs.up fun k => ?_
  rw [List.mem_filter, decide_eq_true_eq]
  exact ⟨fun h => h.2, fun h => ⟨mem_upI.mpr (hs.inn k h), h⟩⟩
theorem greedy_eq {w : List (List Int)} {n : Nat} {st : List Int} (hs : Ppl n st) : (upI n).reverse.foldl (callM w) st = st.reverse.foldl (callM w) st := by
  rw [fold_filter (st := st) _ _ (fun _ h => h), List.filter_reverse, upI_filter hs]
theorem ends_ne {w : List (List Int)} {st : List Int} (h : Web w) (hs : Ppl w.length st) : endsM w st ≠ [] := fun z => by
  have : (upI w.length).foldl (callM w) st ∈ endsM w st := mem_endsM.mpr ⟨fold_sublist _ _, ap_fold h hs fun p hp => mem_upI.mpr (hs.inn p hp), fit_fold h hs _⟩
  rw [z] at this
  cases this
theorem upI_succ (n : Nat) : upI (n + 1) = upI n ++ [(n : Int)] := by
  unfold upI
  rw [List.range_succ, List.map_append]; rfl
theorem ppl_upI (n : Nat) : Ppl n (upI n) := ⟨pw_upI _, fun k hk => mem_upI.mp hk⟩
theorem Ppl.row {n : Nat} {st : List Int} (h : Ppl n st) : Row n st := fun k hk => h.inn k hk
theorem row_upI (n : Nat) : Row n (upI n) := fun k hk => mem_upI.mp hk
theorem sortR_filter (P : List Int → Bool) (xs : List (List Int)) : sortR (xs.filter P) = (sortR xs).filter P :=
  sortR_uniq ((sortR_perm xs).symm.filter P) ((sortR_pw xs).sublist List.filter_sublist)
theorem eqN (a b : Int) : dEq (.int a) (.int b) = some (.bool (decide (a = b))) := e_eq a b
/-! ### all sets of n people -/
def setsM : Nat → List (List Int)
  | 0 => [[]]
  | n + 1 => setsM n ++ (setsM n).map fun x => x ++ [(n : Int)]
theorem setsM_len : ∀ n, (setsM n).length = 2 ^ n
  | 0 => rfl
  | n + 1 => by rw [setsM, List.length_append, List.length_map, setsM_len n]; omega
theorem setsM_ppl : ∀ (n : Nat), ∀ x ∈ setsM n, Ppl n x
  | 0, x, h => by
    rcases List.mem_cons.mp h with rfl | h
    · exact ⟨.nil, fun k hk => by cases hk⟩
    · cases h
  | n + 1, x, h => by
    rcases List.mem_append.mp h with h | h
    · have := setsM_ppl n x h
      exact ⟨this.up, fun k hk => by have := this.inn k hk; omega⟩
    · obtain ⟨y, hy, rfl⟩ := List.mem_map.mp h
      have := setsM_ppl n y hy
      refine ⟨List.pairwise_append.mpr ⟨this.up, List.pairwise_singleton _ _, fun a ha b hb => ?_⟩, fun k hk => ?_⟩
      · rw [List.mem_singleton] at hb; subst hb
        exact (this.inn a ha).2
      · rcases List.mem_append.mp hk with hk | hk
        · have := this.inn k hk; omega
        · rw [List.mem_singleton] at hk; omega
theorem sets_ch : ∀ n, setsM n = chM (upI n)
  | 0 => rfl
  | n + 1 => by rw [setsM, sets_ch n, upI_succ, chM_snoc]
theorem mem_setsM {n : Nat} {r : List Int} : r ∈ setsM n ↔ Ppl n r := by
  refine ⟨setsM_ppl n r, fun h => ?_⟩
  rw [sets_ch, mem_chM]
  exact sub_of_mem h.up (pw_upI n) fun k hk => mem_upI.mpr (h.inn k hk)
theorem setsM_nodup (n : Nat) : (setsM n).Nodup := by
  rw [sets_ch]
  exact chM_nodup (pw_nodup (pw_upI n))
theorem sub_ppl {n : Nat} {st r : List Int} (hs : Ppl n st) : r.Sublist st ↔ Ppl n r ∧ ∀ k ∈ r, k ∈ st :=
  ⟨fun h => ⟨hs.sub h, fun k hk => h.subset hk⟩, fun h => sub_of_mem h.1.up hs.up h.2⟩
/-- the sets of those who stand, among all sets -/
theorem sets_perm {n : Nat} {st : List Int} (hs : Ppl n st) (P : List Int → Bool) : ((setsM n).filter fun r => decide (r.filter (fun k => !decide (k ∈ st)) = []) && P r).Perm ((chM st).filter P) := by
  refine (List.perm_ext_iff_of_nodup ((setsM_nodup n).sublist List.filter_sublist) ((chM_nodup (pw_nodup hs.up)).sublist List.filter_sublist)).mpr fun r => ?_
  rw [List.mem_filter, List.mem_filter, mem_setsM, mem_chM, sub_ppl hs, Bool.and_eq_true, decide_eq_true_eq, List.filter_eq_nil_iff]
  simp only [Bool.not_eq_true', decide_eq_false_iff_not, Classical.not_not]
  exact ⟨fun ⟨a, b, c⟩ => ⟨⟨a, b⟩, c⟩, fun ⟨⟨a, b⟩, c⟩ => ⟨a, b, c⟩⟩
/-! ### calls at once -/
theorem told_sub {w : List (List Int)} {st ps : List Int} : (toldM w st ps).Sublist st := List.filter_sublist
theorem told_may {w : List (List Int)} (h : Web w) {st s : List Int} (hs : Ppl w.length st) (hsub : s.Sublist st) (hf : fitM w st s = true) : toldM w st (mayM w st s) = s := by
  obtain ⟨f1, f2⟩ := fitM_iff.mp hf
  refine (pw_unique (hs.up.sublist hsub) (pw_toldM hs.up) fun x => ?_).symm
  rw [mem_toldM]
  constructor
  · intro hx
    have hxs := f1 x hx
    refine ⟨hxs, fun k hk hxk hkm hks => ?_⟩
    have hi := hs.inn x hxs
    exact (mem_mayM.mp hkm).2 x (h.sym x k hi.1 hi.2 hk) hxk hx
  · rintro ⟨hx, hn⟩
    apply Classical.byContradiction
    intro hns
    obtain ⟨k, k1, k2, k3⟩ := f2 x hx hns
    exact hn k k1 k2 k3 (mem_mayM.mp k3).1
theorem fit_told {w : List (List Int)} (h : Web w) {st ps : List Int} (hs : Ppl w.length st) (hp : Ppl w.length ps) : fitM w st (toldM w st ps) = true := by
  rw [← fold_told h _ _ hp hs]
  exact fit_fold h hs _
/-- the ends of single rounds are the ends -/
theorem round_ends_eq {w : List (List Int)} (h : Web w) {st : List Int} (hs : Ppl w.length st) {ks : List (List Int)} (hn : ks.Nodup) (hk : ∀ s, s ∈ ks ↔ ∃ r, r.Sublist st ∧ apM w (toldM w st r) = true ∧ toldM w st r = s) : sortR ks = endsM w st := by
  unfold endsM
  refine sortR_congr ((List.perm_ext_iff_of_nodup hn ((chM_nodup (pw_nodup hs.up)).sublist List.filter_sublist)).mpr fun s => ?_)
  rw [hk, List.mem_filter, mem_chM, Bool.and_eq_true]
  constructor
  · rintro ⟨r, h1, h2, rfl⟩
    exact ⟨told_sub, h2, fit_told h hs (hs.sub h1)⟩
  · rintro ⟨h1, h2, h3⟩
    have e := told_may h hs h1 h3
    exact ⟨mayM w st s, List.filter_sublist, by rw [e]; exact h2, e⟩
/-! ### the least by size -/
/-- e is the shortest of rs, the least of them in order -/
def Lst (rs : List (List Int)) (e : List Int) : Prop := e ∈ rs ∧ ∀ y ∈ rs, e.length < y.length ∨ (y.length = e.length ∧ e ≤ y)
theorem Lst.uniq {rs ss : List (List Int)} {e f : List Int} (h1 : Lst rs e) (h2 : Lst ss f) (h : ∀ r, r ∈ rs ↔ r ∈ ss) : e = f := by
  rcases h1.2 f ((h f).mpr h2.1) with a | ⟨a, a'⟩
  · rcases h2.2 e ((h e).mp h1.1) with b | ⟨b, _⟩ <;> omega
  · rcases h2.2 e ((h e).mp h1.1) with b | ⟨b, b'⟩
    · omega
    · exact List.le_antisymm a' b'
theorem min_short {rs : List (List Int)} (hne : rs ≠ []) : ∃ e, Lst rs e ∧ gMin [.list (rs.map fun r => irD ((r.length : Int), r))] = some (irD ((e.length : Int), e)) := by
  cases rs with
  | nil => exact absurd rfl hne
  | cons r rs =>
    obtain ⟨m, hm, h1, h2⟩ := minD_ir (rs.map fun r => ((r.length : Int), r)) ((r.length : Int), r)
    rw [← List.map_cons (f := fun r : List Int => ((r.length : Int), r))] at hm h2
    obtain ⟨e, he, rfl⟩ := List.mem_map.mp hm
    refine ⟨e, ⟨he, fun y hy => ?_⟩, ?_⟩
    · have := h2 _ (List.mem_map_of_mem (f := fun r : List Int => ((r.length : Int), r)) hy)
      unfold LtP at this
      simp only at this
      by_cases c : e.length < y.length
      · exact .inl c
      · have c1 : ¬ ((y.length : Int) < (e.length : Int)) := fun z => this (.inl z)
        have c2 : y.length = e.length := by omega
        exact .inr ⟨c2, List.not_lt.mp fun z => this (.inr ⟨by omega, z⟩)⟩
    · show (if okM _ = true then some (PySem.W.minD _ _) else none) = _
      have ok := okM_IR ((r :: rs).map fun r => ((r.length : Int), r))
      rw [List.map_map] at ok h1
      rw [List.map_cons] at ok
      rw [if_pos (by exact ok)]
      exact congrArg some h1
/-! ### dictionaries: keys of one kind, any values -/
section
variable {κ β : Type} [DecidableEq κ]
def encK (ek : κ → D) (ev : β → D) (e : κ × β) : D × D := (ek e.1, ev e.2)
def EqK (ek : κ → D) : Prop := ∀ a b, PyData.eqv (ek a) (ek b) = decide (a = b)
theorem eqK_R : EqK tR := fun a b => eqv_ints a b
def putM (kvs : List (κ × β)) (k : κ) (b : β) : List (κ × β) := if k ∈ kvs.map (·.1) then kvs.map (fun e => if e.1 = k then (e.1, b) else e) else kvs ++ [(k, b)]
def getM (kvs : List (κ × β)) (k : κ) : Option β := (kvs.find? fun e => decide (e.1 = k)).map (·.2)
theorem keys_putM {kvs : List (κ × β)} {k : κ} {b : β} : (putM kvs k b).map (·.1) = if k ∈ kvs.map (·.1) then kvs.map (·.1) else kvs.map (·.1) ++ [k] := by
  unfold putM
  split
  · rw [List.map_map]
    refine List.map_congr_left fun e he => ?_
    show (if e.1 = k then (e.1, b) else e).1 = e.1
    split <;> rfl
  · rw [List.map_append]; rfl
theorem getM_isSome {kvs : List (κ × β)} {k : κ} : (getM kvs k).isSome = decide (k ∈ kvs.map (·.1)) := by
  unfold getM
  rw [Option.isSome_map, Bool.eq_iff_iff, List.find?_isSome]
  simp
theorem lookK {ek : κ → D} (he : EqK ek) (ev : β → D) (k : κ) : ∀ kvs : List (κ × β), lookD (kvs.map (encK ek ev)) (ek k) = (getM kvs k).map ev
  | [] => rfl
  | e :: kvs => by
    rw [List.map_cons, lookD_cons]
    show (if PyData.eqv (ek e.1) (ek k) = true then some (ev e.2) else lookD (kvs.map (encK ek ev)) (ek k)) = _
    rw [he, lookK he ev k kvs]
    unfold getM
    rw [List.find?_cons]
    by_cases h : e.1 = k
    · simp [h]
    · simp [h]
theorem putK {ek : κ → D} (he : EqK ek) (ev : β → D) (k : κ) (b : β) (kvs : List (κ × β)) : putD (kvs.map (encK ek ev)) (ek k) (ev b) = (putM kvs k b).map (encK ek ev) := by
  unfold putD putM
  have hc : ((kvs.map (encK ek ev)).any fun e => PyData.eqv e.1 (ek k)) = decide (k ∈ kvs.map (·.1)) := by
    rw [List.any_map, Bool.eq_iff_iff, List.any_eq_true]
    simp only [decide_eq_true_eq, List.mem_map]
    constructor
    · rintro ⟨e, h1, h2⟩
      refine ⟨e, h1, ?_⟩
      have : PyData.eqv (ek e.1) (ek k) = true := h2
      rw [he] at this
      exact of_decide_eq_true this
    · rintro ⟨e, h1, rfl⟩
      exact ⟨e, h1, (he _ _).trans (by simp)⟩
  rw [hc]
  by_cases h : k ∈ kvs.map (·.1)
  · rw [if_pos (by simpa using h), if_pos h, List.map_map, List.map_map]
    refine List.map_congr_left fun e _ => ?_
    show (if PyData.eqv (ek e.1) (ek k) = true then (ek e.1, ev b) else (ek e.1, ev e.2)) = encK ek ev (if e.1 = k then (e.1, b) else e)
    rw [he]
    by_cases h2 : e.1 = k
    · rw [if_pos (by simpa using h2), if_pos h2]; rfl
    · rw [if_neg (by simpa using h2), if_neg h2]; rfl
  · rw [if_neg (by simpa using h), if_neg h, List.map_append]; rfl
theorem keysK (ek : κ → D) (ev : β → D) (kvs : List (κ × β)) : (kvs.map (encK ek ev)).map (·.1) = (kvs.map (·.1)).map ek := by rw [List.map_map, List.map_map]; rfl
theorem putM_nodup {kvs : List (κ × β)} {k : κ} {b : β} (h : (kvs.map (·.1)).Nodup) : ((putM kvs k b).map (·.1)).Nodup := by
  rw [keys_putM]
  split
  · exact h
  · rename_i hk
    exact List.nodup_append.mpr ⟨h, by simp, fun a ha b hb e => hk (by
      have : b = k := by simpa using hb
      rw [← this, ← e]; exact ha)⟩
theorem mem_keys_putM {kvs : List (κ × β)} {k s : κ} {b : β} : s ∈ (putM kvs k b).map (·.1) ↔ s ∈ kvs.map (·.1) ∨ s = k := by
  rw [keys_putM]
  split
  · rename_i h
    exact ⟨.inl, fun z => z.elim id fun e => e ▸ h⟩
  · rw [List.mem_append, List.mem_singleton]
theorem putM_len {kvs : List (κ × β)} {k : κ} {b : β} : (putM kvs k b).length ≤ kvs.length + 1 := by
  unfold putM
  split
  · rw [List.length_map]; omega
  · rw [List.length_append]; simp
theorem getM_put {kvs : List (κ × β)} {k s : κ} {b : β} : getM (putM kvs k b) s = if k = s then some b else getM kvs s := by
  unfold putM
  split
  · rename_i hk
    induction kvs with
    | nil => cases hk
    | cons e kvs ih =>
      rw [List.map_cons]
      unfold getM
      rw [List.find?_cons, List.find?_cons]
      by_cases h1 : e.1 = k
      · rw [if_pos h1]
        by_cases h2 : k = s
        · rw [if_pos h2]
          simp [h1, h2]
        · rw [if_neg h2]
          have h3 : ¬ e.1 = s := fun z => h2 (h1 ▸ z)
          simp only [decide_eq_false h3]
          by_cases h4 : k ∈ kvs.map (·.1)
          · have := ih h4
            rw [if_neg h2] at this
            exact this
          · have : kvs.map (fun e => if e.1 = k then (e.1, b) else e) = kvs := by
              rw [List.map_congr_left (g := id), List.map_id]
              intro x hx
              rw [if_neg fun z => h4 (List.mem_map.mpr ⟨x, hx, z⟩)]; rfl
            rw [this]
      · rw [if_neg h1]
        have h4 : k ∈ kvs.map (·.1) := by
          rw [List.map_cons] at hk
          rcases List.mem_cons.mp hk with z | z
          · exact absurd z.symm h1
          · exact z
        by_cases h3 : e.1 = s
        · have h2 : ¬ k = s := fun z => h1 (h3.trans z.symm)
          rw [if_neg h2]
          simp [h3]
        · simp only [decide_eq_false h3]
          exact ih h4
  · rename_i hk
    unfold getM
    rw [List.find?_append]
    by_cases h2 : k = s
    · subst h2
      rw [if_pos rfl]
      have : kvs.find? (fun e => decide (e.1 = k)) = none := by
        rw [List.find?_eq_none]
        intro x hx
        simp only [decide_eq_true_eq]
        intro z
        exact hk (List.mem_map.mpr ⟨x, hx, z⟩)
      rw [this]
      simp
    · rw [if_neg h2]
      simp [h2]
theorem getM_mem {kvs : List (κ × β)} {k : κ} {b : β} (h : getM kvs k = some b) : (k, b) ∈ kvs := by
  unfold getM at h
  obtain ⟨e, h1, rfl⟩ := Option.map_eq_some_iff.mp h
  have h2 := List.find?_some h1
  have : e.1 = k := of_decide_eq_true h2
  subst this
  exact List.mem_of_find?_eq_some h1
theorem getM_of {kvs : List (κ × β)} (hn : (kvs.map (·.1)).Nodup) {e : κ × β} (h : e ∈ kvs) : getM kvs e.1 = some e.2 := by
  induction kvs with
  | nil => cases h
  | cons x kvs ih =>
    unfold getM
    rw [List.find?_cons]
    rw [List.map_cons, List.nodup_cons] at hn
    rcases List.mem_cons.mp h with rfl | h
    · simp
    · have : ¬ x.1 = e.1 := fun z => hn.1 (List.mem_map.mpr ⟨e, h, z.symm⟩)
      simp only [decide_eq_false this]
      exact ih hn.2 h
end
theorem eqK_I : EqK (fun n : Int => PyData.int n) := fun a b => by
  have := encInt.eq a b
  have h2 : (okD (PyData.int a) = true ∧ okD (PyData.int b) = true) ∧ (PyData.int a).eqv (PyData.int b) = decide (a = b) := by simpa [dEq] using this
  exact h2.2
end L2.P

set_option Elab.async false
set_option linter.all false
set_option maxRecDepth 100000
set_option maxHeartbeats 4000000
/-! PL36: a list filled in a loop; least numbers; what leads to a goal (tellings). -/
namespace L2.P
open PySem PySem.Spec PyProof.Rows L2
theorem q_appf {α : Type} {tg : Tg} {u : Rho → Option (List D)} {t : Rho → Option Bool} {i : Nat} {e : Rho → Option D} {g : Rho → Option Fl} {ρ : Rho} {K : Fl → Prop} (st : List D → Option D → Rho) (xs : List α) (enc : α → D) (P : α → Bool) (E : α → D) (v0 : Option D)
    (hu : u ρ = some (xs.map enc)) (hρ : ρ = st [] v0) (hl : xs.length ≤ 1000)
    (hi : ∀ acc v, (st acc v)[i]? = some (.ol acc)) (hs : ∀ acc v acc', (st acc v).set i (.ol acc') = st acc' v)
    (h : ∀ (acc : List D) (v : Option D) (x : α), x ∈ xs → tg (enc x) (st acc v) = some (st acc (some (enc x))) ∧ t (st acc (some (enc x))) = some (P x) ∧ (P x = true → e (st acc (some (enc x))) = some (E x)))
    (k : ∀ v, fW g (st ((xs.filter P).map E) v) K) : fW (sSeq (sFor tg u (sIf t (sApp i e) sNil)) g) ρ K := by
  have hlen := List.length_filter_le P xs
  refine q_app st xs enc (fun x => if P x = true then [E x] else []) 1000 [] v0 hu hρ ?_ (fun acc v x hx hN => ?_) fun v => ?_
  · rw [flatMap_if, List.length_map]
    simp only [List.length_nil]; omega
  · obtain ⟨h1, h2, h3⟩ := h acc v x hx
    refine ⟨_, h1, s_if (P x) h2 (fun c => ?_) fun c => ?_⟩
    · rw [if_pos c] at hN ⊢
      refine s_app1 (E x) (hi _ _) (h3 c) (by have : acc.length + 1 ≤ 1000 := hN; rw [sizeLine_eq]; omega) ⟨some (enc x), by rw [hs]⟩
    · rw [if_neg (by rw [c]; simp)]
      exact s_nil ⟨some (enc x), by rw [List.append_nil]⟩
  · rw [flatMap_if]
    exact k v
theorem min_ints {ns : List Int} (hne : ns ≠ []) : ∃ M ∈ ns, gMin [.list (ns.map .int)] = some (.int M) ∧ ∀ n ∈ ns, M ≤ n := by
  cases ns with
  | nil => exact absurd rfl hne
  | cons n ns =>
    have key : ∀ (ns : List Int) (n : Int), ns.foldl min n ∈ n :: ns ∧ ∀ k ∈ n :: ns, ns.foldl min n ≤ k := fun ns => by
      induction ns with
      | nil => intro n; simp
      | cons k ns ih =>
        intro n
        obtain ⟨a, b⟩ := ih (min n k)
        rw [List.foldl_cons]
        refine ⟨?_, fun x hx => ?_⟩
        · rcases List.mem_cons.mp a with e | a
          · rw [e]
            by_cases c : n ≤ k
            · rw [Int.min_eq_left c]; simp
            · rw [Int.min_eq_right (by omega)]; simp
          · exact List.mem_cons_of_mem _ (List.mem_cons_of_mem _ a)
        · have b0 := b (min n k) List.mem_cons_self
          rcases List.mem_cons.mp hx with rfl | hx
          · omega
          · rcases List.mem_cons.mp hx with rfl | hx
            · omega
            · exact b x (List.mem_cons_of_mem _ hx)
    obtain ⟨a, b⟩ := key ns n
    refine ⟨_, a, ?_, b⟩
    show (if okM _ = true then some (PySem.W.minD _ _) else none) = _
    have ok := okM_I (n :: ns)
    rw [List.map_cons] at ok
    rw [if_pos (by exact ok), PySem.W.minD_ints]
/-! ### tellings -/
def tellM (w : List (List Int)) (st goal : List Int) : List (List Int) := sortR ((chM (mayM w st goal)).filter fun r => decide (r.foldl (callM w) st = goal))
theorem may_sub {w : List (List Int)} {st goal : List Int} : (mayM w st goal).Sublist st := List.filter_sublist
theorem mem_tellM {w : List (List Int)} (h : Web w) {st goal r : List Int} (hs : Ppl w.length st) : r ∈ tellM w st goal ↔ r.Sublist (mayM w st goal) ∧ toldM w st r = goal := by
  unfold tellM
  rw [mem_sortR, List.mem_filter, mem_chM, decide_eq_true_eq]
  refine and_congr_right fun hr => ?_
  rw [fold_told h _ _ (hs.sub (hr.trans may_sub)) hs]
theorem tell_ppl {w : List (List Int)} (h : Web w) {st goal r : List Int} (hs : Ppl w.length st) (hr : r ∈ tellM w st goal) : Ppl w.length r := hs.sub (((mem_tellM h hs).mp hr).1.trans may_sub)
theorem tell_may {w : List (List Int)} (h : Web w) {st goal : List Int} (hs : Ppl w.length st) (hg : goal.Sublist st) (hf : fitM w st goal = true) : mayM w st goal ∈ tellM w st goal := (mem_tellM h hs).mpr ⟨List.Sublist.refl _, told_may h hs hg hf⟩
theorem tell_ne {w : List (List Int)} (h : Web w) {st goal : List Int} (hs : Ppl w.length st) (hg : goal.Sublist st) (hf : fitM w st goal = true) : tellM w st goal ≠ [] := fun z => by
  have := tell_may h hs hg hf
  rw [z] at this
  cases this
theorem fit_sub {w : List (List Int)} {st goal : List Int} (hs : Ppl w.length st) (hg : Ppl w.length goal) (hf : fitM w st goal = true) : goal.Sublist st := sub_of_mem hg.up hs.up (fitM_iff.mp hf).1
theorem tell_len {w : List (List Int)} {st goal : List Int} : (tellM w st goal).length ≤ 2 ^ st.length := by
  unfold tellM
  rw [(sortR_perm _).length_eq]
  refine Nat.le_trans (List.length_filter_le _ _) ?_
  rw [chM_len]
  exact Nat.pow_le_pow_right (by omega) may_sub.length_le
theorem tell_nodup {w : List (List Int)} {n : Nat} {st goal : List Int} (hs : Ppl n st) : (tellM w st goal).Nodup :=
  (sortR_perm _).nodup_iff.mpr ((chM_nodup ((pw_nodup hs.up).sublist may_sub)).sublist List.filter_sublist)
/-- the fewest calls -/
def distM (w : List (List Int)) (st goal : List Int) : Nat := ((tellM w st goal).map List.length).min?.getD 0
theorem dist_spec {w : List (List Int)} {st goal : List Int} (hne : tellM w st goal ≠ []) : (∃ r ∈ tellM w st goal, r.length = distM w st goal) ∧ ∀ r ∈ tellM w st goal, distM w st goal ≤ r.length := by
  unfold distM
  cases e : ((tellM w st goal).map List.length).min? with
  | none => exact absurd (List.map_eq_nil_iff.mp (List.min?_eq_none_iff.mp e)) hne
  | some m =>
    obtain ⟨h1, h2⟩ := List.min?_eq_some_iff.mp e
    rw [Option.getD_some]
    exact ⟨List.mem_map.mp h1, fun r hr => h2 _ (List.mem_map_of_mem hr)⟩
theorem min_lens {rs : List (List Int)} (hne : rs ≠ []) : gMin [.list ((rs.map fun r => (r.length : Int)).map .int)] = some (.int ((rs.map List.length).min?.getD 0 : Nat)) := by
  obtain ⟨M, h1, h2, h3⟩ := min_ints (ns := rs.map fun r => (r.length : Int)) (fun z => hne (List.map_eq_nil_iff.mp z))
  rw [h2]
  obtain ⟨r, hr, rfl⟩ := List.mem_map.mp h1
  have : (rs.map List.length).min? = some r.length := List.min?_eq_some_iff.mpr ⟨List.mem_map_of_mem hr, fun b hb => by
    obtain ⟨s, hs, rfl⟩ := List.mem_map.mp hb
    have := h3 _ (List.mem_map_of_mem (f := fun r : List Int => (r.length : Int)) hs)
    omega⟩
  rw [this]; rfl
/-! ### all that can come -/
def reachM (w : List (List Int)) (st : List Int) : List (List Int) := sortR ((chM st).filter fun s => fitM w st s)
theorem mem_reachM {w : List (List Int)} {st s : List Int} : s ∈ reachM w st ↔ s.Sublist st ∧ fitM w st s = true := by
  unfold reachM
  rw [mem_sortR, List.mem_filter, mem_chM]
theorem reach_len {w : List (List Int)} {st : List Int} : (reachM w st).length ≤ 2 ^ st.length := by
  unfold reachM
  rw [(sortR_perm _).length_eq]
  refine Nat.le_trans (List.length_filter_le _ _) ?_
  rw [chM_len]
  exact Nat.le_refl _
theorem reach_eq {w : List (List Int)} (h : Web w) {st : List Int} (hs : Ppl w.length st) {ks : List (List Int)} (hn : ks.Nodup) (hk : ∀ s, s ∈ ks ↔ Rch w st s) : sortR ks = reachM w st := by
  unfold reachM
  refine sortR_congr ((List.perm_ext_iff_of_nodup hn ((chM_nodup (pw_nodup hs.up)).sublist List.filter_sublist)).mpr fun s => ?_)
  rw [hk, List.mem_filter, mem_chM, rch_fit h hs]
theorem reach_ne {w : List (List Int)} (h : Web w) {st : List Int} (hs : Ppl w.length st) : reachM w st ≠ [] := fun z => by
  have : st ∈ reachM w st := mem_reachM.mpr ((rch_fit h hs).mp (Rch.refl w st))
  rw [z] at this
  cases this
end L2.P

set_option Elab.async false
set_option linter.all false
set_option maxRecDepth 100000
set_option maxHeartbeats 3200000
/-! PL37: set(xs) of a list of ints, sorted(set(..)) of ints and of tuples of any lengths. -/
namespace L2.PS
open PySem PySem.Calls PySem.SeqAt PySem.W PyProof.Rows L2
section
variable {P : Program} {w : World} {A : Around} {E : Value → Shared → Prop} {s : Shared}
abbrev set0 (w : World) : Obj := { cls := .type "set", dict := none, data := .set #[] 0 (.fresh 0 0 (!w.params.followText "set-order")) }
theorem call_set_listR {l : Addr} {items : Array Value} (ns : List Int) {Q : Value → Shared → Prop} (hh : A.handled = none) (hl : s.heap.IsList l items) (hit : IntsAre items.toList ns) (hb : ns.length + 1 < scanBound)
    (h : ∀ (h' : Heap) (tk c : Nat), SetR w h' s.heap.objs.size (fun j => decide (j ∈ ns)) c → c ≤ ns.length → (∀ b o, s.heap.get? b = some o → h'.get? b = some o) → Q (.ref s.heap.objs.size) { s with heap := h', toks := tk }) :
    wpAny (model P w) A (call (.type "set") [.ref l]) Q E s := by
  have hlen : items.size = ns.length := by rw [← Array.length_toList]; exact IntsAre.length hit
  have hlS : l < s.heap.objs.size := by obtain ⟨o, ho, _⟩ := id hl; exact Heap.lt_size ho
  have hS : (s.heap.push (set0 w)).get? s.heap.objs.size = some (set0 w) := Heap.get?_push_size _ rfl
  have hsz : (s.heap.push (set0 w)).objs.size = s.heap.objs.size + 1 := Heap.size_push ..
  obtain ⟨c, tl, hmro⟩ := F.called_set.mro
  have hmade := F.called_set.made
  have hsub := F.called_set.sub
  have h1 := F.called_set.notType
  have h2 := F.called_set.canCreate
  have hct := F.typeCall_set_1 (.ref l)
  have hli := F.called_set.init.lookup
  have hbi := F.called_set.init.bind (.ref s.heap.objs.size)
  have hT : Shared.TypeIs { s with heap := s.heap.push (set0 w) } (.ref s.heap.objs.size) "set" := ⟨_, hS, rfl⟩
  refine wpAny_call (codeAny_of_tree ?_)
  show wpAny _ _ (callAny (.type "set") _) _ _ _
  refine wpAny_pure ⟨Code.quiet_builtin _ (by decide +kernel), codeAny_builtin F.entry_type_call ?_⟩
  rw [Around.under_plain (weight_type_call_type "set" [.ref l] []) rfl]
  repeat (any_goals (first | assumption | wp_step))
  refine codeAny_mono (code_set_led1 (.ref l) (E := E) (Q₁ := fun obj s₁ => obj = .ref s.heap.objs.size ∧ s₁ = { s with heap := s.heap.push (set0 w) }) ⟨rfl, rfl⟩) fun r s₁ hr => ?_
  cases r with
  | error e => exact hr
  | ok fl =>
    cases fl with
    | ret obj =>
      obtain ⟨rfl, rfl⟩ := hr
      repeat (any_goals (first | assumption | wp_step))
      refine codeAny_mono (codeAny_call_builtin (R := wants (fun r s₂ => r = .none ∧ ∃ h' tk c, s₂ = { s with heap := h', toks := tk } ∧ SetR w h' s.heap.objs.size (fun j => decide (j ∈ ns)) c ∧ c ≤ ns.length ∧ (∀ b o, s.heap.get? b = some o → h'.get? b = some o)) E) F.called_set.init.plain F.entry_set_init (check_set_init_1 hT ?_)) fun r₂ s₂ hr₂ => ?_
      · obtain ⟨⟨ocls, odict, odata, oslots⟩, hol, hcl, nl, hdl⟩ := id hl
        simp only at hcl hdl
        subst hcl hdl
        have hol' : (s.heap.push (set0 w)).get? l = some { cls := .type "list", dict := odict, data := .seq items nl, slots := oslots } := Heap.get?_push_of_some _ hol
        have hsls := F.sub_list_set
        have hslf := F.sub_list_frozenset
        have hne : (Value.type "list" == Value.type "dict") = false := by decide
        have hl1 : (s.heap.push (set0 w)).IsList l items := ⟨_, hol', rfl, nl, rfl⟩
        unfold Builtin.«set.__init__» noKeywords Builtin.Frozenset.updateFrom
        generalize hPI : pyIter = PI
        wp_walk
        subst hPI
        refine wpAny_pyIter_list hl1 (wpAny_bind (wpAny_runValue ?_))
        have hh3 : A.in1.in1.in1.handled = none := by simp [hh]
        have hneI : l ≠ (s.heap.push (set0 w)).objs.size := Nat.ne_of_lt (hsz ▸ Nat.lt_succ_of_lt hlS)
        have hval : ∀ (i : Nat) (v : Value), items[i]? = some v → ∃ k t, ns[i]? = some k ∧ v = .int k t := fun i v hv => by
          have hi : i < ns.length := by rw [← hlen]; exact (Array.getElem?_eq_some_iff.mp hv).1
          obtain ⟨t, e⟩ := IntsAre.int_at hit i v (by rw [Array.getElem?_toList]; exact hv)
          exact ⟨ns[i], t, List.getElem?_eq_getElem hi, by rw [e, List.getD_eq_getElem?_getD, List.getElem?_eq_getElem hi]; rfl⟩
        refine set_update_ints (Walks.list hh3 _ l hneI items).toS s.heap.objs.size (by simp only [List.mem_cons, List.not_mem_nil, or_false, not_or]; exact ⟨Nat.ne_of_lt (hsz ▸ Nat.lt_succ_self _), Nat.ne_of_gt hlS⟩) ns hlen hb hval (items.size - 0) 0 _ (by omega) (Nat.zero_le _) ⟨⟨_, Heap.get?_push_size _ rfl, rfl, rfl⟩, hl1.push _⟩
          ⟨0, Nat.le_refl 0, setR_new_at (Heap.get?_push_of_some _ hS)⟩ fun s' c' hm hc' hS' => ?_
        obtain ⟨h', g2, d', tk', os'⟩ := s'
        have eg : g2 = s.gens := hm.gens
        have ed : d' = s.drawn := hm.drawn
        have eo : os' = s.os := hm.os
        subst eg ed eo
        show wpAny _ _ _ _ _ _
        refine wpAny_pure ?_
        show wpAny _ _ (ret Value.none) _ _ _
        refine wpAny_pure ⟨rfl, h', tk', c', rfl, hS', by omega, fun b o e => ?_⟩
        have hb0 : b < s.heap.objs.size := Heap.lt_size e
        exact hm.heap b o (by simp only [List.mem_cons, List.not_mem_nil, or_false, not_or]; exact ⟨Nat.ne_of_lt hb0, Nat.ne_of_lt (hsz ▸ Nat.lt_succ_of_lt hb0)⟩) (Heap.get?_push_of_some _ (Heap.get?_push_of_some _ e))
      · cases r₂ with
        | error e => exact hr₂
        | ok fl₂ =>
          cases fl₂ with
          | ret r =>
            obtain ⟨rfl, h', tk, c', rfl, hS', hc', hk'⟩ := hr₂
            repeat (any_goals (first | assumption | wp_step))
            exact h _ _ _ hS' hc' hk'
          | _ => exact hr₂.elim
    | _ => exact hr.elim
end
end L2.PS
namespace L2.P
open PySem PySem.Spec PyProof.Rows L2
variable {X : Cx}
def rSetL (w : World) (K : Fg) : List V → Hp → VK → Prop := fun xs H Q => ∃ (a : Addr) (ns : List Int), xs = [.ref a] ∧ SqL K H a (ns.map V.int) ∧ ns.length ≤ 1000 ∧
  ∀ (p : Addr), H p = none → Q (.ref p) (upd H p (SetO w p (fun j => decide (j ∈ ns)) (sortD ns).length))
theorem setR_len {w : World} {h : Heap} {a : Addr} {ns : List Int} {c : Nat} (R : SetR w h a (fun j => decide (j ∈ ns)) c) : c = (sortD ns).length := by
  obtain ⟨o, es, ep, t, _, _, _, g, nd, hm, _, _, hn, _⟩ := R
  have p : (es.toList.map keyOf).Perm (sortD ns) := (List.perm_ext_iff_of_nodup nd (pw_nodup (pw_sortD ns))).mpr fun k => by rw [← hm k, mem_sortD]; simp
  have := p.length_eq
  rw [List.length_map, Array.length_toList] at this
  omega
theorem cr_setL (hc : X.calm = true) : CallR X (.type "set") (rSetL X.w X.K) := by
  intro pins s σ H xs us Q I r h
  obtain ⟨a, ns, rfl, hs, hl, q⟩ := h
  obtain ⟨its, rv, pl, hz⟩ := I.list hs
  rw [Vals.ref1 r]
  have hsb : ns.length + 1 < scanBound := Nat.lt_of_le_of_lt (Nat.add_le_add_right hl 1) (by decide)
  refine PS.call_set_listR ns (I.ok.hd hc) pl.isList (by simpa using rv.ints) hsb fun h' tk c R hcl hk => ?_
  have hc := setR_len R
  subst hc
  exact ⟨.ref _, upd H s.heap.objs.size (SetO X.w s.heap.objs.size (fun j => decide (j ∈ ns)) (sortD ns).length), I.laid (t' := tk) hk (Nat.le_refl _) (setO_new R), rfl, q _ (I.hok.fresh (Nat.le_refl _))⟩
end L2.P
namespace L2.PS
open PySem PySem.Calls PySem.SeqAt PySem.W PyProof.Rows L2
theorem perm_map_inv {α β : Type} {f : α → β} : ∀ {vs ys : List β}, vs.Perm ys → ∀ {L : List α}, ys = L.map f → ∃ L1 : List α, L1.Perm L ∧ vs = L1.map f := by
  intro vs ys h
  induction h with
  | nil => intro L e; cases L with
    | nil => exact ⟨[], .nil, rfl⟩
    | cons _ _ => cases e
  | cons x _ ih => intro L e; cases L with
    | nil => cases e
    | cons y L =>
      rw [List.map_cons] at e
      injection e with e1 e2
      obtain ⟨L1, p, e3⟩ := ih e2
      exact ⟨y :: L1, p.cons y, by rw [List.map_cons, e1, e3]⟩
  | swap x y l => intro L e
                  match L, e with
                  | a :: b :: L, e =>
                    rw [List.map_cons, List.map_cons] at e
                    injection e with e1 e2
                    injection e2 with e2 e3
                    exact ⟨b :: a :: L, List.Perm.swap a b L, by rw [List.map_cons, List.map_cons, e1, e2, e3]⟩
  | trans _ _ ih1 ih2 => intro L e
                         obtain ⟨L2, p2, e2⟩ := ih2 e
                         obtain ⟨L1, p1, e1⟩ := ih1 e2
                         exact ⟨L1, p1.trans p2, e1⟩
theorem reads_ints {h : Heap} : ∀ {vs : List Value} {ns : List Int}, IntsAre vs ns → ∃ as, ReadsAll h vs (ns.map .int) as
  | _, _, .nil => ⟨_, .nil⟩
  | _, _, .cons n t r => by
    obtain ⟨as, q⟩ := reads_ints (h := h) r
    exact ⟨_, .cons (.int n t) q⟩
theorem each_refs {h : Heap} : ∀ {L : List (Addr × List Int)}, (∀ p ∈ L, TS.TupInts h (.ref p.1) p.2) → EachIs (fun (v : Value) (p : Addr × List Int) => ∃ as, Reads h v (L2.P.tR p.2) as) (L.map fun p => Value.ref p.1) L
  | [], _ => .nil
  | p :: L, hL => .cons (by
      obtain ⟨b, items, e, ⟨o, ho, hc, n, hd⟩, hi⟩ := hL p List.mem_cons_self
      injection e with e
      subst e
      obtain ⟨as, q⟩ := reads_ints (h := h) hi
      exact ⟨as, .tuple ho hc hd q⟩) (each_refs fun q hq => hL q (List.mem_cons_of_mem _ hq))
theorem each_self : ∀ (L : List (Addr × List Int)), EachIs (fun (v : Value) (p : Addr × List Int) => v = Value.ref p.1) (L.map fun p => Value.ref p.1) L
  | [] => .nil
  | p :: L => .cons rfl (each_self L)
theorem each_self_inv : ∀ {out : List Value} {L : List (Addr × List Int)}, EachIs (fun (v : Value) (p : Addr × List Int) => v = Value.ref p.1) out L → out = L.map fun p => Value.ref p.1
  | _, _, .nil => rfl
  | _, _, .cons e r => by rw [e, each_self_inv r]; rfl
section
variable {P : Program} {w : World} {A : Around} {E : Value → Shared → Prop} {s : Shared}
theorem sorted_setA {a : Addr} {L : List (Addr × List Int)} {es : Array (Int × Value)} {ep : Nat} {t : SetTable} {Q : Value → Shared → Prop} (R : SetTR P w s.heap a L es ep t) (hh : A.handled = none) (hu : A.units + 20 < cLine)
    (hQ : ∀ s' p (out : Array Value) (c : Nat) (L' : List (Addr × List Int)), (∀ b o, s.heap.get? b = some o → s'.heap.get? b = some o) → s'.gens = s.gens → s'.os = s.os → s.heap.objs.size ≤ p →
      s'.heap.get? p = some (seqObj "list" out c) → out.toList = L'.map (fun q => Value.ref q.1) → L'.Perm L → L'.map (·.2) = L2.P.sortR (L.map (·.2)) → Q (.ref p) s') :
    wpAny (model P w) A (call (.builtin "sorted") [.ref a]) Q E s := by
  obtain ⟨o, ho, hex, hd⟩ := R.ob
  have hsz := R.size
  have hfew := R.few
  refine call_function_entry_kw kind_sorted plain_sorted entry_sorted (args_sorted1 _) ?_
  unfold Builtin.«sorted»
  refine wpAny_bind (m := checkCount "sorted" 1 1 _) (wpAny_pure ?_)
  refine wpAny_bind (collect_set (A := A.in1) hh ⟨o, ho, hex.1, hd⟩ R.fits (by unfold scanBound; omega) R.tab.ris R.led fun s1 vs k1 hz g1 o1 pm => ?_)
  have hes : es.toList.map (·.2) = L.map fun q => Value.ref q.1 := by
    rw [R.rows]
    unfold rowsOf
    rw [List.map_map] <;> rfl
  obtain ⟨L1, hp1, rfl⟩ := perm_map_inv pm hes
  have hL1 : L1.length < 64 := by rw [hp1.length_eq]; exact hfew
  have hvl : (L1.map fun q => Value.ref q.1).length < 64 := by rw [List.length_map]; exact hL1
  generalize hvs : (L1.map fun q => Value.ref q.1) = vs at hvl
  refine wpAny_bind (wpAny_newList ?_ (by rw [sizeLine_eq]; omega))
  have hoL : (s1.heap.push (seqObj "list" vs.toArray 0)).get? s1.heap.objs.size = some (seqObj "list" vs.toArray 0) := Heap.get?_push_size _ rfl
  have tk : ∀ q ∈ L1, TS.TupInts (sortingHeap (s1.heap.push (seqObj "list" vs.toArray 0)) s1.heap.objs.size vs) (.ref q.1) q.2 := fun q hq => tupInts_of (P := P) (w := w) (isT_keep (R.tup q (hp1.mem_iff.mp hq)) fun b u e => by
    have e2 := k1 b u e
    exact sortingHeap_old (Nat.ne_of_lt (Heap.lt_size e2)) (Heap.get?_push_of_some _ e2))
  have er : EachIs (fun (v : Value) (p : Addr × List Int) => ∃ as, Reads (sortingHeap (s1.heap.push (seqObj "list" vs.toArray 0)) s1.heap.objs.size vs) v (L2.P.tR p.2) as) vs L1 := hvs ▸ each_refs (hvs.symm ▸ tk)
  have e0 : EachIs (fun (v : Value) (p : Addr × List Int) => v = Value.ref p.1) vs L1 := hvs ▸ each_self L1
  have hal : AllAlike (L1.map fun p => L2.P.tR p.2) := fun d hd d' hd' => by
    obtain ⟨p, _, rfl⟩ := List.mem_map.mp hd
    obtain ⟨q, _, rfl⟩ := List.mem_map.mp hd'
    exact L2.P.alike_tR _ _
  have hdep : ∀ d, d ∈ (L1.map fun p => L2.P.tR p.2) → d.depth ≤ 2 := fun d hd => by
    obtain ⟨p, _, rfl⟩ := List.mem_map.mp hd
    have : ∀ ns : List Int, PyData.depthAll (ns.map PyData.int) ≤ 1 := fun ns => by
      induction ns with
      | nil => simp [PyData.depthAll]
      | cons n ns ih =>
        rw [List.map_cons, PyData.depthAll]
        exact Nat.max_le.mpr ⟨by simp [PyData.depth], ih⟩
    show (PyData.tuple (p.2.map .int)).depth ≤ 2
    rw [PyData.depth]
    have := this p.2
    omega
  refine wpAny_bind (wpAny_holding (wpAny_call_entry_kw slot_list_sort ⟨_, hoL, rfl⟩ entry_list_sort ?body (args_list_sort _)))
  case body =>
    refine list_sort_vals (κ := dataKind (sortingHeap (s1.heap.push (seqObj "list" vs.toArray 0)) s1.heap.objs.size vs) (L1.map fun p => L2.P.tR p.2)) (s := { s1 with heap := s1.heap.push (seqObj "list" vs.toArray 0) }) hoL (SortsAt.any (each_map (R := fun v d => ∃ as, Reads (sortingHeap (s1.heap.push (seqObj "list" vs.toArray 0)) s1.heap.objs.size vs) v d as) (fun p : Addr × List Int => L2.P.tR p.2) er) hal (fun d hd z => by
        obtain ⟨p, _, rfl⟩ := List.mem_map.mp hd
        cases z) fun d hd => ?_) (by rw [sizeLine_eq]; omega) ?_
    · have := hdep d hd
      show A.in1.in1.units + d.depth < cLine
      have : A.in1.in1.units ≤ A.units + 2 := Nat.le_refl _
      omega
    · have so := sortVals_data (h' := sortingHeap (s1.heap.push (seqObj "list" vs.toArray 0)) s1.heap.objs.size vs) (R := fun (v : Value) (p : Addr × List Int) => v = Value.ref p.1) (enc := fun p : Addr × List Int => L2.P.tR p.2) false e0 er hal
      obtain ⟨c, hc⟩ := sortedHeap_at (vs := vs) (out := (sortVals (dataKind (sortingHeap (s1.heap.push (seqObj "list" vs.toArray 0)) s1.heap.objs.size vs) (L1.map fun p => L2.P.tR p.2)) false vs vs).toArray) hoL
      refine ⟨_, rfl, wpAny_pure ⟨_, rfl, hQ _ s1.heap.objs.size _ c (L1.mergeSort (dataLe false fun p : Addr × List Int => L2.P.tR p.2)) (fun b u e => ?_) g1 o1 hz hc (each_self_inv so) ((List.mergeSort_perm _ _).trans hp1) ?_⟩⟩
      · have q := k1 b u e
        have hlt := Heap.lt_size q
        show (sortedHeap (s1.heap.push (seqObj "list" vs.toArray 0)) s1.heap.objs.size vs _).get? b = some u
        rw [sortedHeap_old (Nat.ne_of_lt hlt) (by rw [size_push']; exact Nat.lt_succ_of_lt hlt)]
        exact Heap.get?_push_of_some _ q
      · have z := List.map_mergeSort (f := fun p : Addr × List Int => p.2) (r := dataLe false fun p : Addr × List Int => L2.P.tR p.2) (s := dataLe false L2.P.tR) (l := L1) (fun a _ b _ => rfl)
        rw [z]
        exact L2.P.sortR_congr (hp1.map _)
end
end L2.PS
namespace L2.P
open PySem PySem.Spec PyProof.Rows L2
section
variable {X : Cx}
def rSortedTA (K : Fg) (P : Program) (w : World) : List V → Hp → VK → Prop := fun vs H Q => ∃ (a : Addr) (L : List (Addr × List Int)), vs = [V.ref a] ∧ H a = some (SetTO P w a L) ∧ (∀ p ∈ L, SqT K H p.1 (p.2.map V.int)) ∧
  ∀ (L' : List (Addr × List Int)) (p : Addr), L'.Perm L → (L'.map (·.2)).Nodup → L'.length < 64 → L'.map (·.2) = sortR (L.map (·.2)) → H p = none → Q (.ref p) (upd H p (.lst (L'.map fun q => V.ref q.1)))
theorem cr_sortedTA (hc : X.calm = true) (hu : Rm X) : CallR X (.builtin "sorted") (rSortedTA X.K X.prog X.w) := by
  intro pins s σ H vs us Q I r h
  obtain ⟨a, L, rfl, ha, hk, q⟩ := h
  have R0 : SetT0 X.prog X.w s.heap a L := (I.hok a _ ha).1
  obtain ⟨es, ep, t, R⟩ := R0.full fun p hp => I.isT (hk p hp)
  rw [Vals.ref1 r]
  refine PS.sorted_setA R (I.ok.hd hc) (by unfold Rm at hu; omega) fun s' p out c L' k g o hp hg hout pm pw => ?_
  have hfew : L'.length < 64 := by rw [pm.length_eq]; exact R.few
  have hlen : (L'.map fun q => V.ref q.1).length ≤ sizeLine := by rw [List.length_map, sizeLine_eq]; omega
  have hn : H p = none := I.hok.fresh hp
  have hv : Vals (L'.map fun q => V.ref q.1) out.toList := by rw [hout]; exact vals_of_refs L'
  have J : Inv X pins σ (upd H p (.lst (L'.map fun q => V.ref q.1))) { s with heap := s'.heap, gens := s'.gens, drawn := s'.drawn, toks := s'.toks } :=
    I.call (ch := []) (Un.laid k hp hn) (I.hok.laid k hp ⟨hlen, out.toList, c, hv, hg⟩) (by rw [g]; exact I.bare) (fun _ z => nomatch z)
  have e : s' = { s with heap := s'.heap, gens := s'.gens, drawn := s'.drawn, toks := s'.toks } := by
    cases s'
    cases s
    cases o
    rfl
  rw [e]
  exact ⟨.ref p, _, J, rfl, q L' p pm ((pm.map (·.2)).nodup_iff.mpr R.nd) hfew pw hn⟩
/-- the tuples of ints of ps -/
def rowsD : List D → Option (List (List Int))
  | [] => some []
  | .tuple xs :: r => (intsD xs).bind fun ns => (rowsD r).map fun rs => ns :: rs
  | _ :: _ => none
theorem rowsD_some : ∀ {ps : List D} {rs : List (List Int)}, rowsD ps = some rs → ps = rs.map tR
  | [], _, h => by cases h; rfl
  | p :: ps, rs, h => by
    cases p with
    | tuple xs =>
      obtain ⟨ns, h1, h2⟩ := Option.bind_eq_some_iff.mp h
      obtain ⟨rs', h3, rfl⟩ := Option.map_eq_some_iff.mp h2
      rw [List.map_cons, ← rowsD_some h3, intsD_some h1]
    | _ => cases h
theorem rowsD_map : ∀ (rs : List (List Int)), rowsD (rs.map tR) = some rs
  | [] => rfl
  | r :: rs => by
    show (intsD (r.map .int)).bind _ = _
    rw [intsD_map, Option.bind_some, rowsD_map rs]; rfl
/-- each once -/
def dedR : List (List Int) → List (List Int)
  | [] => []
  | r :: rs => if r ∈ rs then dedR rs else r :: dedR rs
theorem mem_dedR {x : List Int} : ∀ {rs : List (List Int)}, x ∈ dedR rs ↔ x ∈ rs
  | [] => Iff.rfl
  | r :: rs => by
    unfold dedR
    split
    · rename_i h
      rw [mem_dedR, List.mem_cons]
      exact ⟨.inr, fun z => z.elim (fun e => e ▸ h) id⟩
    · rw [List.mem_cons, List.mem_cons, mem_dedR]
theorem nodup_dedR : ∀ (rs : List (List Int)), (dedR rs).Nodup
  | [] => List.nodup_nil
  | r :: rs => by
    unfold dedR
    split
    · exact nodup_dedR rs
    · rename_i h
      exact List.nodup_cons.mpr ⟨fun z => h (mem_dedR.mp z), nodup_dedR rs⟩
def dSortAll : D → Option (List D)
  | .tuple xs => (intsD xs).bind fun ns => if ns.length < 64 then some ((sortD ns).map PyData.int) else none
  | .list xs => match intsD xs with
    | some ns => if ns.length ≤ 1000 ∧ (sortD ns).length < 64 then some ((sortD ns).map PyData.int) else none
    | none => (rowsD xs).bind fun rs => if rs.length < 64 then some ((sortR (dedR rs)).map tR) else none
  | _ => none
theorem sort_all_Lb {r : List Int} (h : r.length ≤ 1000) (h2 : (sortD r).length < 64) : dSortAll (.list (r.map .int)) = some ((sortD r).map PyData.int) := by
  show (match intsD (r.map PyData.int) with | some ns => _ | none => _) = _
  rw [intsD_map]
  exact if_pos ⟨h, h2⟩
theorem sortD_le (r : List Int) : (sortD r).length ≤ r.length := by
  exact nodup_len (pw_nodup (pw_sortD r)) fun x hx => mem_sortD.mp hx
theorem sort_all_L {r : List Int} (h : r.length < 64) : dSortAll (.list (r.map .int)) = some ((sortD r).map PyData.int) := sort_all_Lb (by omega) (Nat.lt_of_le_of_lt (sortD_le r) h)
theorem sort_all_T {r : List Int} (h : r.length < 64) : dSortAll (tR r) = some ((sortD r).map PyData.int) := by
  show (intsD (r.map PyData.int)).bind _ = _
  rw [intsD_map]
  exact if_pos h
theorem sort_all_R {rs : List (List Int)} (h : rs.length < 64) : dSortAll (.list (rs.map tR)) = some ((sortR (dedR rs)).map tR) := by
  cases rs with
  | nil =>
    have e : sortR (dedR []) = [] := by simp [sortR, dedR]
    rw [e]; rfl
  | cons r rs =>
    show (rowsD ((r :: rs).map tR)).bind _ = _
    rw [rowsD_map]
    exact if_pos h
def nSortAll (f : Rho → Option D) : Rho → Option (List D) := fun ρ => (f ρ).bind dSortAll
theorem dpAll_rows {K : Fg} {F : Hp} : ∀ {vs : List V} {rs : List (List Int)}, DpAll K F vs (rs.map tR) → ∃ ks : List (Addr × List Int), vs = ks.map (fun p => V.ref p.1) ∧ ks.map (·.2) = rs ∧ ∀ p ∈ ks, SqT K F p.1 (p.2.map V.int) ∧ Dp K F (.ref p.1) (tR p.2)
  | _, [], .nil => ⟨[], rfl, rfl, fun p hp => by cases hp⟩
  | _, r :: rs, .cons a b => by
    obtain ⟨ks, rfl, rfl, h⟩ := dpAll_rows b
    obtain ⟨p, xs, rfl, s, d⟩ := Dp.inv_tup a
    rw [dpAll_ints r d] at s
    refine ⟨(p, r) :: ks, rfl, rfl, fun q hq => ?_⟩
    rcases List.mem_cons.mp hq with rfl | hq
    · exact ⟨s, a⟩
    · exact h q hq
theorem dpAll_refs {K : Fg} {F : Hp} : ∀ {ks : List (Addr × List Int)}, (∀ p ∈ ks, Dp K F (.ref p.1) (tR p.2)) → DpAll K F (ks.map fun p => V.ref p.1) ((ks.map (·.2)).map tR)
  | [], _ => .nil
  | p :: ks, h => .cons (h p List.mem_cons_self) (dpAll_refs fun q hq => h q (List.mem_cons_of_mem _ hq))
theorem n_sortAll {e : Expr} {f : Rho → Option D} {p p2 pos pos2 : Pos} (bi : Bi X.mg) (hu : Rm X) (h : XF X e f) (hc : X.calm = true := by rfl) (hg : Gl X "sorted" := by rfl) (hg2 : Gl X "set" := by rfl)
    (he2 : starEach [e] X.env = (false, eval e X.env) :: starEach [] X.env := by rfl) (he : starEach [.Call (.Name "set" p2) [e] [] pos2] X.env = (false, eval (.Call (.Name "set" p2) [e] [] pos2) X.env) :: starEach [] X.env := by rfl) :
    NF X (.Call (.Name "sorted" p) [.Call (.Name "set" p2) [e] [] pos2] [] pos) (nSortAll f) :=
  ⟨fW_mono, (pe_callB (CallR.or (cr_sortedSet hc) (cr_sortedTA hc hu)) hg bi.sorted bt_sorted (pa_cons (pe_callTy (CallR.or (CallR.or (cr_setT hc) (cr_setL hc)) (cr_setOfT hc (by unfold Rm at hu; omega))) hg2 bi.set bt_set (pa_cons h.pe pa_nil he2) (he := he2) (hpl := rfl)) pa_nil he) (he := he) (hpl := rfl)).imp fun σ H Q ⟨B, F, ρ, R, ps, e, k⟩ => by
    obtain ⟨x, e1, e2⟩ := Option.bind_eq_some_iff.mp e
    unfold dSortAll at e2
    split at e2
    · obtain ⟨ns, e3, e4⟩ := Option.bind_eq_some_iff.mp e2
      split at e4
      · rename_i h64
        cases e4
        refine ⟨B, F, ρ, R, _, e1, fun F' H' v R' s' d => ?_⟩
        obtain ⟨a, xs, rfl, s, r⟩ := Dp.inv_tup (d.dp (Same.refl _) R')
        rw [intsD_some e3] at r
        rw [dpAll_ints ns r] at s
        refine .inl (.inl ⟨a, ns, rfl, s, by omega, fun q c hq hcl => ?_⟩)
        refine .inl ⟨q, _, c, rfl, upd_same, by omega, fun ms l hp hm hl hn => ?_⟩
        have em : ms = sortD ns := pw_unique hp (pw_sortD ns) fun z => by rw [hm z, mem_sortD]; simp
        subst em
        exact k F' _ l _ (R'.lay hq) s' hn (dpAll_of_ints _)
      · cases e4
    · split at e2
      · rename_i ns e3
        split at e2
        · rename_i h64
          cases e2
          refine ⟨B, F, ρ, R, _, e1, fun F' H' v R' s' d => ?_⟩
          obtain ⟨a, xs, rfl, r, sq⟩ := pk_items R' d rfl
          have s : SqL X.K H' a xs := by
            rcases sq with ⟨_, s⟩ | ⟨z, _⟩
            · exact s
            · cases z
          rw [intsD_some e3] at r
          rw [dpAll_ints ns r] at s
          refine .inl (.inr ⟨a, ns, rfl, s, h64.1, fun q hq => ?_⟩)
          refine .inl ⟨q, _, _, rfl, upd_same, h64.2, fun ms l hp hm hl hn => ?_⟩
          have em : ms = sortD ns := pw_unique hp (pw_sortD ns) fun z => by rw [hm z, mem_sortD]; simp
          subst em
          exact k F' _ l _ (R'.lay hq) s' hn (dpAll_of_ints _)
        · cases e2
      · obtain ⟨rs, e3, e4⟩ := Option.bind_eq_some_iff.mp e2
        split at e4
        · rename_i h64
          cases e4
          refine ⟨B, F, ρ, R, _, e1, fun F' H' v R' s' d => ?_⟩
          obtain ⟨a, xs, rfl, r, sq⟩ := pk_items R' d rfl
          have s : SqL X.K H' a xs := by
            rcases sq with ⟨_, s⟩ | ⟨z, _⟩
            · exact s
            · cases z
          rw [rowsD_some e3] at r
          obtain ⟨ks, rfl, rfl, hks⟩ := dpAll_rows r
          refine .inr ⟨a, ks, rfl, s, fun p hp => sqT_same R'.sub (hks p hp).1, by rw [List.length_map] at h64; exact h64, fun q L hq hL1 hL2 => ?_⟩
          refine .inr ⟨q, L, rfl, upd_same, fun p hp => ?_, fun L' l hpm hnd hlt hso hn => ?_⟩
          · exact sqT_same (same_upd hq) (sqT_same R'.sub (hks p (hL1 p hp)).1)
          · have hmem : ∀ x, x ∈ L'.map (·.2) ↔ x ∈ ks.map (·.2) := fun x => by
              rw [(hpm.map (·.2)).mem_iff]
              constructor
              · intro hx
                obtain ⟨p, hp, rfl⟩ := List.mem_map.mp hx
                exact List.mem_map_of_mem (hL1 p hp)
              · intro hx
                obtain ⟨p, hp, rfl⟩ := List.mem_map.mp hx
                exact hL2 p hp
            have em : L'.map (·.2) = sortR (dedR (ks.map (·.2))) := by
              rw [hso]
              refine sortR_congr ((hpm.map (·.2)).symm.trans ((List.perm_ext_iff_of_nodup hnd (nodup_dedR _)).mpr fun x => ?_))
              rw [hmem, mem_dedR]
            have hd : DpAll X.K F' (L'.map fun p => V.ref p.1) ((L'.map (·.2)).map tR) := dpAll_refs fun p hp => (hks p (hL1 p (hpm.mem_iff.mp hp))).2
            rw [em] at hd
            exact k F' _ l _ (R'.lay hq) s' hn hd
        · cases e4
    · cases e2⟩
end
end L2.P

set_option Elab.async false
set_option linter.all false
set_option maxRecDepth 100000
set_option maxHeartbeats 4000000
/-! PL38: tests in one step. -/
namespace L2.P
open PySem PySem.Spec PyProof.Rows L2
section
variable {o : G2} {A B : Rho → Option D} {ρ : Rho} {p q : D} {b c : Bool} {f g : Rho → Option Bool}
theorem b2_of (hA : A ρ = some p) (hB : B ρ = some q) : b2 o A B ρ = o p q := by simp [hA, hB]
theorem cmp_b (hA : A ρ = some p) (hB : B ρ = some q) (e : o p q = some (.bool b)) : bB (b2 o A B) ρ = some b := by
  rw [e_bB, b2_of hA hB, e]; rfl
theorem or_b (h1 : f ρ = some b) (h2 : b = false → g ρ = some c) : bOr f g ρ = some (b || c) := by
  rw [e_bOr, h1, Option.bind_some]
  cases b with
  | true => rfl
  | false => rw [if_neg (by simp), h2 rfl]; rfl
theorem or_no (h1 : f ρ = some false) (h2 : g ρ = some false) : bOr f g ρ = some false := or_b h1 fun _ => h2
theorem and_b (h1 : f ρ = some b) (h2 : b = true → g ρ = some c) : bAnd f g ρ = some (b && c) := by
  rw [e_bAnd, h1, Option.bind_some]
  cases b with
  | false => rfl
  | true => rw [if_pos rfl, h2 rfl]; rfl
theorem not_b (h : f ρ = some b) : bNot f ρ = some (!b) := by rw [e_bNot, h]; rfl
theorem bB_of (h : A ρ = some (.bool b)) : bB A ρ = some b := by rw [e_bB, h]; rfl
/-- a test that never says no in a loop -/
theorem q_chkN {α : Type} {tg : Tg} {u : Rho → Option (List D)} {t : Rho → Option Bool} {a : Rho → Option Fl} {k : Rho → Option Fl} {K : Fl → Prop} (st : Option D → Rho) (xs : List α) (enc : α → D) (v : Option D) (hu : u ρ = some (xs.map enc)) (hρ : ρ = st v)
    (h : ∀ (v : Option D) (x : α), x ∈ xs → tg (enc x) (st v) = some (st (some (enc x))) ∧ t (st (some (enc x))) = some false) (kk : ∀ v, fW k (st v) K) : fW (sSeq (sFor tg u (sIf t a sNil)) k) ρ K :=
  q_chk st xs enc v hu hρ (fun v x hx => ⟨_, (h v x hx).1, s_no (h v x hx).2 (s_nil ⟨_, rfl⟩)⟩) kk
theorem wipe_nv {is : List Nat} {ρ : Rho} (h : wipeR ρ is = ρ) : wipeR ρ is = ρ := h
end
/-- an empty choice of a list -/
theorem filter_none {α : Type} {P : α → Bool} {xs : List α} (h : ∀ x ∈ xs, P x = false) : xs.filter P = [] := List.filter_eq_nil_iff.mpr fun x hx => by rw [h x hx]; simp
end L2.P
namespace L2.P
open PySem PySem.Spec PyProof.Rows L2
theorem it_L {A : Rho → Option D} {ρ : Rho} {ps : List D} (h : A ρ = some (.list ps)) : fItems A ρ = some ps := by simp [h]
theorem it_T {A : Rho → Option D} {ρ : Rho} {ps : List D} (h : A ρ = some (.tuple ps)) : fItems A ρ = some ps := by simp [h]
theorem neR (r : List Int) : dNe (tR r) (tR r) = some (.bool false) := by rw [P.neT]; simp
theorem eqR (r : List Int) : dEq (tR r) (tR r) = some (.bool true) := by rw [P.eqT]; simp
theorem neLL (r : List Int) : dNe (.list (r.map .int)) (.list (r.map .int)) = some (.bool false) := by
  have : dNe (.list (r.map .int)) (.list (r.map .int)) = some (.bool (!decide (r = r))) := encInt.list.ne r r
  rw [this]; simp
theorem neRs (rs : List (List Int)) : dNe (.list (rs.map tR)) (.list (rs.map tR)) = some (.bool false) := by
  have : dNe (.list (rs.map tR)) (.list (rs.map tR)) = some (.bool (!decide (rs = rs))) := encInt.tup.list.ne rs rs
  rw [this]; simp
theorem eqRs (rs : List (List Int)) : dEq (.list (rs.map tR)) (.list (rs.map tR)) = some (.bool true) := by
  have : dEq (.list (rs.map tR)) (.list (rs.map tR)) = some (.bool (decide (rs = rs))) := encInt.tup.list.eq rs rs
  rw [this]; simp
end L2.P

set_option Elab.async false
set_option linter.all false
set_option maxRecDepth 100000
set_option maxHeartbeats 4000000
/-! PL39: common parts of what can come; the least end. -/
namespace L2.P
open PySem PySem.Spec PyProof.Rows L2
section
variable {w : List (List Int)} {st s t : List Int}
theorem ppl_sortD {n : Nat} {a : List Int} (h : Row n a) : Ppl n (sortD a) := ⟨pw_sortD _, fun k hk => h k (mem_sortD.mp hk)⟩
theorem ppl_union {n : Nat} {a b : List Int} (ha : Row n a) (hb : Row n b) : Ppl n (sortD (a ++ b)) := ppl_sortD fun k hk => (List.mem_append.mp hk).elim (ha k) (hb k)
theorem sortD_len (a : List Int) : (sortD a).length ≤ a.length := nodup_len (pw_nodup (pw_sortD a)) fun x hx => mem_sortD.mp hx
theorem told_union (hs : Ppl w.length st) {a b : List Int} : toldM w st (sortD (a ++ b)) = (toldM w st a).filter fun x => decide (x ∈ toldM w st b) := by
  refine pw_unique (pw_toldM hs.up) ((pw_toldM hs.up).sublist List.filter_sublist) fun x => ?_
  rw [List.mem_filter, decide_eq_true_eq, mem_toldM, mem_toldM, mem_toldM]
  simp only [mem_sortD, List.mem_append]
  constructor
  · rintro ⟨h1, h2⟩
    exact ⟨⟨h1, fun k a b c => h2 k a b (.inl c)⟩, h1, fun k a b c => h2 k a b (.inr c)⟩
  · rintro ⟨⟨h1, h2⟩, _, h3⟩
    exact ⟨h1, fun k a b c => c.elim (h2 k a b) (h3 k a b)⟩
theorem fit_cap (h : Web w) (hs : Ppl w.length st) (h1 : s.Sublist st) (f1 : fitM w st s = true) (h2 : t.Sublist st) (f2 : fitM w st t = true) : fitM w st (s.filter fun x => decide (x ∈ t)) = true := by
  have e1 := told_may h hs h1 f1
  have e2 := told_may h hs h2 f2
  have e := told_union (w := w) hs (a := mayM w st s) (b := mayM w st t)
  rw [e1, e2] at e
  rw [← e]
  exact fit_told h hs (ppl_union (hs.sub may_sub).row (hs.sub may_sub).row)
theorem reach_cap (h : Web w) (hs : Ppl w.length st) (h1 : s ∈ reachM w st) (h2 : t ∈ reachM w st) : (s.filter fun x => decide (x ∈ t)) ∈ reachM w st := by
  obtain ⟨a1, b1⟩ := mem_reachM.mp h1
  obtain ⟨a2, b2⟩ := mem_reachM.mp h2
  exact mem_reachM.mpr ⟨List.filter_sublist.trans a1, fit_cap h hs a1 b1 a2 b2⟩
theorem may_mono (hst : ∀ x ∈ t, x ∈ s) : ∀ k ∈ mayM w st s, k ∈ mayM w st t := fun k hk => by
  obtain ⟨a, b⟩ := mem_mayM.mp hk
  exact mem_mayM.mpr ⟨a, fun j j1 j2 j3 => b j j1 j2 (hst j j3)⟩
/-- two tellings together tell the common part -/
theorem tell_cap (h : Web w) (hs : Ppl w.length st) {r1 r2 : List Int} (h1 : r1 ∈ tellM w st s) (h2 : r2 ∈ tellM w st t) : sortD (r1 ++ r2) ∈ tellM w st (s.filter fun x => decide (x ∈ t)) := by
  obtain ⟨a1, b1⟩ := (mem_tellM h hs).mp h1
  obtain ⟨a2, b2⟩ := (mem_tellM h hs).mp h2
  refine (mem_tellM h hs).mpr ⟨sub_of_mem (pw_sortD _) (hs.up.sublist may_sub) fun k hk => ?_, by rw [told_union hs, b1, b2]⟩
  rcases List.mem_append.mp (mem_sortD.mp hk) with z | z
  · exact may_mono (fun x hx => (List.mem_filter.mp hx).1) k (a1.subset z)
  · exact may_mono (fun x hx => of_decide_eq_true (List.mem_filter.mp hx).2) k (a2.subset z)
theorem dist_cap (h : Web w) (hs : Ppl w.length st) (h1 : s ∈ reachM w st) (h2 : t ∈ reachM w st) : distM w st (s.filter fun x => decide (x ∈ t)) ≤ distM w st s + distM w st t := by
  obtain ⟨a1, b1⟩ := mem_reachM.mp h1
  obtain ⟨a2, b2⟩ := mem_reachM.mp h2
  obtain ⟨⟨r1, p1, q1⟩, _⟩ := dist_spec (tell_ne h hs a1 b1)
  obtain ⟨⟨r2, p2, q2⟩, _⟩ := dist_spec (tell_ne h hs a2 b2)
  have hm := tell_cap h hs p1 p2
  have := (dist_spec (List.ne_nil_of_mem hm)).2 _ hm
  have h3 := sortD_len (r1 ++ r2)
  rw [List.length_append] at h3
  omega
theorem ap_mono (h : apM w s = true) (hst : ∀ x ∈ t, x ∈ s) : apM w t = true := apM_iff.mpr fun x hx y hy => apM_iff.mp h x (hst x hx) y (hst y hy)
theorem ends_cap (h : Web w) (hs : Ppl w.length st) (h1 : s ∈ endsM w st) (h2 : t ∈ endsM w st) : (s.filter fun x => decide (x ∈ t)) ∈ endsM w st := by
  obtain ⟨a1, b1, c1⟩ := mem_endsM.mp h1
  obtain ⟨a2, b2, c2⟩ := mem_endsM.mp h2
  exact mem_endsM.mpr ⟨List.filter_sublist.trans a1, ap_mono b1 fun x hx => (List.mem_filter.mp hx).1, fit_cap h hs a1 c1 a2 c2⟩
abbrev peaksM (w : List (List Int)) (st : List Int) : List Int := st.filter fun x => !has w st (fun x k => decide (x < k)) x
theorem mem_peaksM {x : Int} : x ∈ peaksM w st ↔ x ∈ st ∧ ∀ k ∈ fr w x, x < k → k ∉ st := by
  unfold peaksM has
  rw [List.mem_filter, Bool.not_eq_true', List.any_eq_false]
  simp only [Bool.and_eq_true, decide_eq_true_eq, not_and]
theorem peaks_end (h : Web w) (hs : Ppl w.length st) : peaksM w st ∈ endsM w st := by
  have : (upI w.length).foldl (callM w) st ∈ endsM w st := mem_endsM.mpr ⟨fold_sublist _ _, ap_fold h hs fun p hp => mem_upI.mpr (hs.inn p hp), fit_fold h hs _⟩
  rw [fold_told h _ _ (ppl_upI _) hs, peaks_told h hs] at this
  exact this
theorem peaks_in_end (h : Web w) {e : List Int} (he : e ∈ endsM w st) {x : Int} (hx : x ∈ peaksM w st) : x ∈ e := by
  obtain ⟨a, b, c⟩ := mem_endsM.mp he
  obtain ⟨x1, x2⟩ := mem_peaksM.mp hx
  apply Classical.byContradiction
  intro hn
  obtain ⟨k, k1, k2, k3⟩ := (fitM_iff.mp c).2 x x1 hn
  exact x2 k k1 k2 (mem_mayM.mp k3).1
/-- those who stand at every end are the peaks -/
theorem must_peaks (h : Web w) (hs : Ppl w.length st) : (st.filter fun p => (endsM w st).all fun e => decide (p ∈ e)) = peaksM w st := by
  refine pw_unique (hs.up.sublist List.filter_sublist) (hs.up.sublist List.filter_sublist) fun x => ?_
  rw [List.mem_filter, List.all_eq_true]
  constructor
  · rintro ⟨_, b⟩
    exact of_decide_eq_true (b _ (peaks_end h hs))
  · intro hx
    exact ⟨(List.mem_filter.mp hx).1, fun e he => decide_eq_true (peaks_in_end h he hx)⟩
end
end L2.P

set_option Elab.async false
set_option linter.all false
set_option maxRecDepth 100000
set_option maxHeartbeats 4000000
/-! PL40: slices x[a:b]. -/
namespace L2.P
open PySem PySem.Spec PyProof.Rows L2
theorem dpAll_drop {K : Fg} {F : Hp} : ∀ {vs : List V} {ps : List D} (n : Nat), DpAll K F vs ps → DpAll K F (vs.drop n) (ps.drop n)
  | _, _, 0, h => h
  | _, _, _ + 1, .nil => .nil
  | _, _, n + 1, .cons a b => dpAll_drop n b
theorem dpAll_take {K : Fg} {F : Hp} : ∀ {vs : List V} {ps : List D} (n : Nat), DpAll K F vs ps → DpAll K F (vs.take n) (ps.take n)
  | _, _, 0, h => .nil
  | _, _, _ + 1, .nil => .nil
  | _, _, n + 1, .cons a b => .cons a (dpAll_take n b)
def cutD {α : Type} (xs : List α) (lo hi : Option Int) : List α := (xs.drop (HT.sIx xs.length 0 lo)).take (HT.sIx xs.length xs.length hi - HT.sIx xs.length 0 lo)
theorem dpAll_cut {K : Fg} {F : Hp} {vs : List V} {ps : List D} (h : DpAll K F vs ps) (lo hi : Option Int) : DpAll K F (cutV vs lo hi) (cutD ps lo hi) := by
  have hlen := h.length
  unfold cutD cutV
  rw [← hlen]
  exact dpAll_take _ (dpAll_drop _ h)
def dCut : D → Option Int → Option Int → Option D
  | .tuple xs, lo, hi => some (.tuple (cutD xs lo hi))
  | .list xs, lo, hi => some (.list (cutD xs lo hi))
  | _, _, _ => none
def oN : Rho → Option (Option Int) := fun _ => some none
def oS (f : Rho → Option D) : Rho → Option (Option Int) := fun ρ => (f ρ).bind fun p => match p with
  | .int i => some (some i)
  | _ => none
def vCut (f : Rho → Option D) (l h : Rho → Option (Option Int)) : Rho → Option D := fun ρ => (f ρ).bind fun p => (l ρ).bind fun a => (h ρ).bind fun b => dCut p a b
def tO (K : Fg) (f : Rho → Option (Option Int)) : TO := fun σ H Q => ∃ B F ρ, Rs K B F H σ ρ ∧ ∃ z, f ρ = some z ∧ ∀ F' H', Rs K B F' H' σ ρ → Same F F' → Q z H'
section
variable {X : Cx} {e : Expr} {lo hi : Option Expr} {pos p2 : Pos}
theorem po_imp {o : Option Expr} {t t' : TO} (h : PO X o t) (k : ∀ σ H Q, t' σ H Q → t σ H Q) : PO X o t' := ⟨fun pins s σ H Q I q => h.run pins s σ H Q I (k _ _ _ q)⟩
theorem so_none : PO X none (tO X.K oN) := po_imp po_none fun σ H Q ⟨B, F, ρ, R, z, ez, q⟩ => by
  cases ez
  exact q F H R (Same.refl _)
theorem so_some {f : Rho → Option D} (h : XF X e f) : PO X (some e) (tO X.K (oS f)) := po_imp (po_some h.pe) fun σ H Q ⟨B, F, ρ, R, z, ez, q⟩ => by
  obtain ⟨p, e1, e2⟩ := Option.bind_eq_some_iff.mp ez
  refine ⟨B, F, ρ, R, p, e1, fun F1 H1 v R1 s1 d => ?_⟩
  split at e2
  · cases e2
    exact ⟨_, Dp.inv_int (d.dp (Same.refl _) R1), q F1 H1 R1 s1⟩
  · cases e2
theorem ef_cut {f : Rho → Option D} {l h : Rho → Option (Option Int)} (he : XF X e f) (hl : PO X lo (tO X.K l)) (hh : PO X hi (tO X.K h)) : EF X (.Subscript e (.Slice lo hi none p2) pos) (vCut f l h) :=
  ⟨fW_mono, (pe_slice (SlR.or sl_tupA sl_list) he.pe hl hh).imp fun σ H Q ⟨B, F, ρ, R, z, ez, q⟩ => by
    obtain ⟨p, e1, ez⟩ := Option.bind_eq_some_iff.mp ez
    obtain ⟨lo', e2, ez⟩ := Option.bind_eq_some_iff.mp ez
    obtain ⟨hi', e3, ez⟩ := Option.bind_eq_some_iff.mp ez
    refine ⟨B, F, ρ, R, p, e1, fun F1 H1 v R1 s1 d1 => ⟨B, F1, ρ, R1, lo', e2, fun F2 H2 R2 s2 => ⟨B, F2, ρ, R2, hi', e3, fun F3 H3 R3 s3 => ?_⟩⟩⟩
    have d3 := (d1.mono s2).mono s3
    have s13 := (s1.trans s2).trans s3
    unfold dCut at ez
    split at ez
    · cases ez
      obtain ⟨a, ys, rfl, hs, r⟩ := Dp.inv_tup (pk_tup d3)
      have hlen := r.length
      refine .inl ⟨a, ys, rfl, sqT_same R3.sub hs, fun hw => ?_, fun hw n hn => ?_⟩
      · refine q _ _ _ R3 s13 ?_
        have hcut : ∀ ps : List D, ys.length = ps.length → cutD ps lo' hi' = ps := fun ps hl => by
          unfold cutD
          rw [← hl, hw.1, hw.2, List.drop_zero, hl]
          exact List.take_of_length_le (Nat.le_refl _)
        rw [hcut _ hlen]
        exact pk_tup d3
      · have n' := R3.sub.free hn
        exact q _ _ _ (R3.grow hn) (s13.trans (same_upd n')) (.tup upd_same ((dpAll_cut r lo' hi').same (same_upd n')))
    · cases ez
      obtain ⟨a, ys, rfl, hs, r⟩ := pk_lst R3 d3
      have hlen := r.length
      refine .inr ⟨a, ys, rfl, hs, fun n hn => ?_⟩
      have n' := R3.sub.free hn
      exact q _ _ _ (R3.grow hn) (s13.trans (same_upd n')) (.lst (.inl (.inl upd_same)) ((dpAll_cut r lo' hi').same (same_upd n')))
    · cases ez⟩
end
theorem cutD_to {α : Type} (xs : List α) (n : Nat) : cutD xs none (some (n : Int)) = xs.take n := by
  unfold cutD
  rw [HT.sIx_none, HT.sIx_nat, List.drop_zero, Nat.sub_zero]
  by_cases h : n ≤ xs.length
  · rw [Nat.min_eq_left h]
  · rw [Nat.min_eq_right (by omega), List.take_of_length_le (Nat.le_refl _), List.take_of_length_le (by omega)]
theorem cutD_from {α : Type} (xs : List α) (n : Nat) : cutD xs (some (n : Int)) none = xs.drop n := by
  unfold cutD
  rw [HT.sIx_none, HT.sIx_nat]
  by_cases h : n ≤ xs.length
  · rw [Nat.min_eq_left h, List.take_of_length_le (by rw [List.length_drop]; omega)]
  · rw [Nat.min_eq_right (by omega), List.drop_of_length_le (Nat.le_refl _), List.drop_of_length_le (by omega)]
    simp
@[simp] theorem e_vCut (f : Rho → Option D) (l h : Rho → Option (Option Int)) (ρ : Rho) : vCut f l h ρ = (f ρ).bind fun p => (l ρ).bind fun a => (h ρ).bind fun b => dCut p a b := rfl
@[simp] theorem e_oN (ρ : Rho) : oN ρ = some none := rfl
theorem oS_of {f : Rho → Option D} {ρ : Rho} {i : Int} (h : f ρ = some (.int i)) : oS f ρ = some (some i) := by unfold oS; rw [h]; rfl
theorem cut_to {f g : Rho → Option D} {ρ : Rho} {xs : List Int} {n : Nat} (h1 : f ρ = some (tR xs)) (h2 : g ρ = some (.int (n : Int))) : vCut f oN (oS g) ρ = some (tR (xs.take n)) := by
  rw [e_vCut, h1, Option.bind_some, e_oN, Option.bind_some, oS_of h2, Option.bind_some]
  show some (PyData.tuple (cutD (xs.map .int) none (some (n : Int)))) = _
  rw [cutD_to, ← List.map_take]
theorem cut_from {f g : Rho → Option D} {ρ : Rho} {xs : List Int} {n : Nat} (h1 : f ρ = some (tR xs)) (h2 : g ρ = some (.int (n : Int))) : vCut f (oS g) oN ρ = some (tR (xs.drop n)) := by
  rw [e_vCut, h1, Option.bind_some, oS_of h2, Option.bind_some, e_oN, Option.bind_some]
  show some (PyData.tuple (cutD (xs.map .int) (some (n : Int)) none)) = _
  rw [cutD_from, ← List.map_drop]
end L2.P
namespace L2.P
open PySem PySem.Spec PyProof.Rows L2
section
variable {X : Cx} {a b c : Expr} {pos : Pos}
/-- a < b < c as a test -/
theorem tf_chain {op op' : CmpOp} {g g' : G2} {f1 f2 f3 : Rho → Option D} (o : OpG X (compareOp op) g) (o' : OpG X (compareOp op') g') (ha : XF X a f1) (hb : XF X b f2) (hc : XF X c f3)
    (hm : lastMarks [op, op'] [b, c] = false := by with_unfolding_all rfl) : TF X (.Compare a [op, op'] [b, c] pos) (bB (b3 g g' f1 f2 f3)) := by
  obtain ⟨r, ho, hr⟩ := o
  obtain ⟨r', ho', hr'⟩ := o'
  refine ⟨fW_mono, (pt_chain ho ho' ha.pe hb.pe hc.pe hm).imp fun σ H Q ⟨B, F, ρ, R, bo, eb, q⟩ => ?_⟩
  obtain ⟨p, e, ebo⟩ := Option.bind_eq_some_iff.mp eb
  obtain ⟨x, e1, e⟩ := Option.bind_eq_some_iff.mp e
  obtain ⟨y, e2, e⟩ := Option.bind_eq_some_iff.mp e
  obtain ⟨z, e3, e⟩ := Option.bind_eq_some_iff.mp e
  obtain ⟨k, e4, e⟩ := Option.bind_eq_some_iff.mp e
  refine ⟨B, F, ρ, R, x, e1, fun F1 H1 v1 R1 s1 d1 => ⟨B, F1, ρ, R1, y, e2, fun F2 H2 v2 R2 s2 d2 => ?_⟩⟩
  refine hr B F2 H2 σ ρ v1 v2 x y z _ R2 (d1.mono s2) d2 e3 fun F3 H3 v3 R3 s3 d3 => ?_
  rw [isB_some e4] at d3
  refine ⟨k, Dp.inv_bl d3, ?_⟩
  cases k with
  | false =>
    cases e
    cases ebo
    exact ⟨false, rfl, q F3 H3 R3 ((s1.trans s2).trans s3)⟩
  | true =>
    obtain ⟨w, e5, e6⟩ := Option.bind_eq_some_iff.mp (show ((f3 ρ).bind fun z => g' y z) = some p from e)
    exact ⟨B, F3, ρ, R3, w, e5, fun F4 H4 v4 R4 s4 d4 => hr' B F4 H4 σ ρ v2 v4 y w p _ R4 (d2.mono (s3.trans s4)) d4 e6 fun F5 H5 v5 R5 s5 d5 => by
      rw [isB_some ebo] at d5
      exact ⟨bo, Dp.inv_bl d5, q F5 H5 R5 ((((s1.trans s2).trans s3).trans s4).trans s5)⟩⟩
end
end L2.P

set_option Elab.async false
set_option linter.all false
set_option maxRecDepth 100000
set_option maxHeartbeats 4000000
/-! PL41: sums and weights. -/
namespace L2.P
open PySem PySem.Spec PyProof.Rows L2
theorem e_gSumI (ns : List Int) : gSum [.list (ns.map .int)] = some (.int ns.sum) := by
  show (intsD (ns.map PyData.int)).map _ = _
  rw [intsD_map]
  rfl
/-- weights of n people -/
structure Wts (n : Nat) (ws : List Int) : Prop where
  len : ws.length = n
  inn : ∀ k ∈ ws, 0 ≤ k ∧ k ≤ 99
def wtM (ws : List Int) (p : Int) : Int := ws.getD p.toNat 0
def costM (ws r : List Int) : Int := (r.map (wtM ws)).sum
theorem Wts.get {n : Nat} {ws : List Int} (h : Wts n ws) {p : Int} (h0 : 0 ≤ p) (h1 : p < n) : wtM ws p ∈ ws := by
  have hl := h.len
  unfold wtM
  rw [List.getD_eq_getElem?_getD, List.getElem?_eq_getElem (by omega)]
  exact List.getElem_mem _
theorem Wts.bound {n : Nat} {ws : List Int} (h : Wts n ws) {p : Int} (h0 : 0 ≤ p) (h1 : p < n) : 0 ≤ wtM ws p ∧ wtM ws p ≤ 99 := h.inn _ (h.get h0 h1)
theorem Wts.ix {n : Nat} {ws : List Int} (h : Wts n ws) {p : Int} (h0 : 0 ≤ p) (h1 : p < n) : dIx (tR ws) (.int p) = some (.int (wtM ws p)) := ix_ints h0 (by rw [h.len]; exact h1)
theorem cost_nil (ws : List Int) : costM ws [] = 0 := rfl
theorem cost_cons (ws : List Int) (p : Int) (r : List Int) : costM ws (p :: r) = wtM ws p + costM ws r := by unfold costM; rw [List.map_cons, List.sum_cons]
theorem cost_append (ws a b : List Int) : costM ws (a ++ b) = costM ws a + costM ws b := by unfold costM; rw [List.map_append, List.sum_append]
theorem cost_nonneg {n : Nat} {ws : List Int} (h : Wts n ws) : ∀ {r : List Int}, Row n r → 0 ≤ costM ws r
  | [], _ => by rw [cost_nil]; omega
  | p :: r, hr => by
    rw [cost_cons]
    obtain ⟨h0, h1⟩ := hr p List.mem_cons_self
    have := (h.bound h0 h1).1
    have := cost_nonneg h (r := r) fun k hk => hr k (List.mem_cons_of_mem _ hk)
    omega
/-- more people weigh no less -/
theorem cost_sub {n : Nat} {ws : List Int} (h : Wts n ws) : ∀ {a b : List Int}, a.Sublist b → Row n b → costM ws a ≤ costM ws b
  | _, _, .slnil, _ => Int.le_refl _
  | a, p :: b, .cons _ hs, hr => by
    rw [cost_cons]
    obtain ⟨h0, h1⟩ := hr p List.mem_cons_self
    have := (h.bound h0 h1).1
    have := cost_sub h hs fun k hk => hr k (List.mem_cons_of_mem _ hk)
    omega
  | p :: a, _ :: b, .cons₂ _ hs, hr => by
    rw [cost_cons, cost_cons]
    have := cost_sub h hs fun k hk => hr k (List.mem_cons_of_mem _ hk)
    omega
theorem cost_perm {ws a b : List Int} (h : a.Perm b) : costM ws a = costM ws b := by
  induction h with
  | nil => rfl
  | cons x _ ih => rw [cost_cons, cost_cons, ih]
  | swap x y l => rw [cost_cons, cost_cons, cost_cons, cost_cons]; omega
  | trans _ _ h1 h2 => exact h1.trans h2
theorem cost_insI {n : Nat} {ws : List Int} (h : Wts n ws) {p : Int} (h0 : 0 ≤ p) (h1 : p < n) : ∀ {r : List Int}, costM ws (insI p r) ≤ wtM ws p + costM ws r
  | [] => by show costM ws [p] ≤ _; rw [cost_cons]; omega
  | q :: r => by
    have hb := (h.bound h0 h1).1
    unfold insI
    split
    · rw [cost_cons]; omega
    · split
      · omega
      · have := cost_insI h h0 h1 (r := r)
        rw [cost_cons, cost_cons]; omega
theorem cost_sortD {n : Nat} {ws : List Int} (h : Wts n ws) : ∀ {r : List Int}, Row n r → costM ws (sortD r) ≤ costM ws r
  | [], _ => Int.le_refl _
  | p :: r, hr => by
    obtain ⟨h0, h1⟩ := hr p List.mem_cons_self
    have e1 := cost_insI h h0 h1 (r := sortD r)
    have e2 := cost_sortD h (r := r) fun k hk => hr k (List.mem_cons_of_mem _ hk)
    show costM ws (insI p (sortD r)) ≤ _
    rw [cost_cons]; omega
/-- each of r weighs at least one -/
theorem cost_len {n : Nat} {ws : List Int} (h1 : ∀ p : Int, 0 ≤ p → p < n → 1 ≤ wtM ws p) : ∀ {r : List Int}, Row n r → (r.length : Int) ≤ costM ws r
  | [], _ => Int.le_refl _
  | p :: r, hr => by
    obtain ⟨a, b⟩ := hr p List.mem_cons_self
    have := h1 p a b
    have := cost_len h1 (r := r) fun k hk => hr k (List.mem_cons_of_mem _ hk)
    rw [cost_cons, List.length_cons]; omega
/-- ws with a new weight for p -/
theorem wt_take {ws : List Int} {p q : Nat} {x : Int} (hp : p < ws.length) : wtM (ws.take p ++ [x] ++ ws.drop (p + 1)) (q : Int) = if q = p then x else wtM ws (q : Int) := by
  unfold wtM
  rw [Int.toNat_natCast, List.getD_eq_getElem?_getD, List.getD_eq_getElem?_getD]
  have e : ws.take p ++ [x] ++ ws.drop (p + 1) = ws.set p x := by
    rw [List.set_eq_take_append_cons_drop, if_pos hp, List.append_assoc]; rfl
  rw [e, List.getElem?_set]
  by_cases h : p = q
  · rw [if_pos h, if_pos h.symm, if_pos hp]; rfl
  · rw [if_neg h, if_neg fun z => h z.symm]
/-- the cheapest -/
def Chp (f : List Int → Int) (rs : List (List Int)) (e : List Int) : Prop := e ∈ rs ∧ ∀ y ∈ rs, f e < f y ∨ (f e = f y ∧ e ≤ y)
theorem min_cheap (f : List Int → Int) {rs : List (List Int)} (hne : rs ≠ []) : ∃ e, Chp f rs e ∧ gMin [.list (rs.map fun r => irD (f r, r))] = some (irD (f e, e)) := by
  cases rs with
  | nil => exact absurd rfl hne
  | cons r rs =>
    obtain ⟨m, hm, h1, h2⟩ := minD_ir (rs.map fun r => (f r, r)) (f r, r)
    rw [← List.map_cons (f := fun r : List Int => (f r, r))] at hm h2
    obtain ⟨e, he, rfl⟩ := List.mem_map.mp hm
    refine ⟨e, ⟨he, fun y hy => ?_⟩, ?_⟩
    · have := h2 _ (List.mem_map_of_mem (f := fun r : List Int => (f r, r)) hy)
      unfold LtP at this
      simp only at this
      by_cases c : f e < f y
      · exact .inl c
      · have c1 : ¬ (f y < f e) := fun z => this (.inl z)
        have c2 : f y = f e := by omega
        exact .inr ⟨c2.symm, List.not_lt.mp fun z => this (.inr ⟨c2, z⟩)⟩
    · show (if okM _ = true then some (PySem.W.minD _ _) else none) = _
      have ok := okM_IR ((r :: rs).map fun r => (f r, r))
      rw [List.map_map] at ok h1
      rw [List.map_cons] at ok
      rw [if_pos (by exact ok)]
      exact congrArg some h1
theorem Chp.le {f : List Int → Int} {rs : List (List Int)} {e y : List Int} (h : Chp f rs e) (hy : y ∈ rs) : f e ≤ f y := by
  rcases h.2 y hy with c | ⟨c, _⟩ <;> omega
theorem Chp.uniq {f : List Int → Int} {rs ss : List (List Int)} {e g : List Int} (h1 : Chp f rs e) (h2 : Chp f ss g) (h : ∀ r, r ∈ rs ↔ r ∈ ss) : e = g := by
  rcases h1.2 g ((h g).mpr h2.1) with a | ⟨a, a'⟩
  · rcases h2.2 e ((h e).mp h1.1) with b | ⟨b, _⟩ <;> omega
  · rcases h2.2 e ((h e).mp h1.1) with b | ⟨b, b'⟩
    · omega
    · exact List.le_antisymm a' b'
end L2.P
namespace L2.P
open PySem PySem.Spec PyProof.Rows L2
theorem tup2_of {A B : Rho → Option D} {ρ : Rho} {p q : D} (hA : A ρ = some p) (hB : B ρ = some q) : vTup (aCons A (aCons B aNil)) ρ = some (.tuple [p, q]) := by simp [hA, hB]
theorem call1_of {α : Type} {A : Rho → Option D} {ρ : Rho} {p : D} {g : List D → Option α} {z : Option α} (hA : A ρ = some p) (h : g [p] = z) : aOf g (aCons A aNil) ρ = z := by simp [hA, h]
end L2.P

set_option Elab.async false
set_option linter.all false
set_option maxRecDepth 100000
set_option maxHeartbeats 4000000
/-! PL42: list.count of any data; lowest terms. -/
namespace L2.P
open PySem PySem.Spec PyProof.Rows L2
def dCountA : G2
  | .list xs, d => if okDs xs = true ∧ okD d = true then some (.int (xs.countP fun y => PyData.eqv y d : Nat)) else none
  | _, _ => none
theorem e_countR (rs : List (List Int)) (s : List Int) : dCountA (.list (rs.map tR)) (tR s) = some (.int (rs.count s : Nat)) := by
  show (if _ then _ else _) = _
  rw [if_pos ⟨encInt.tup.oks rs, encInt.tup.ok s (by decide)⟩, List.countP_map]
  congr 3
  rw [List.count]
  congr 1
  funext y
  show PyData.eqv (tR y) (tR s) = (y == s)
  rw [eqK_R]
  by_cases h : y = s <;> simp [h]
theorem e_countI (ns : List Int) (k : Int) : dCountA (.list (ns.map .int)) (.int k) = some (.int (ns.count k : Nat)) := by
  show (if _ then _ else _) = _
  rw [if_pos ⟨encInt.oks ns, encInt.ok k (by decide)⟩, List.countP_map]
  congr 3
section
variable {X : Cx} {a b : Expr} {pos : Pos}
def rCntD (K : Fg) : V → List V → Hp → VK → Prop := fun x xs H Q => ∃ (v : V) (ys : List D) (d : D), xs = [v] ∧ Dp K H x (.list ys) ∧ Dp K H v d ∧ okDs ys = true ∧ okD d = true ∧ Q (.int (ys.countP fun y => PyData.eqv y d : Nat)) H
theorem mt_lcountD (hu : Rm X) : MtR X "list.count" (rCntD X.K) := by
  intro pins s σ H x xs v us Q I rx rxs h
  obtain ⟨v', ys, d, rfl, hx, hv, h1, h2, q⟩ := h
  obtain ⟨p1, z1⟩ := okDs_iff.mp h1
  obtain ⟨p2, z2⟩ := okD_iff.mp h2
  obtain ⟨u, rfl, ru⟩ := rxs.one
  obtain ⟨a, vs, rfl, hs, hd⟩ := Dp.inv_lst hx
  cases rx
  obtain ⟨its, rv, pl, hz⟩ := I.list hs
  obtain ⟨as, hr⟩ := Dp.readsAll I _ vs its hd p1 rv
  obtain ⟨bs, r2⟩ := Dp.reads I d v' u hv p2 ru
  refine SeqAt.count_list_data pl.isList hr r2 p1 p2 (by unfold Rm at hu; omega) ?_
  exact ⟨.int _, H, I.tok _, ⟨s.toks, rfl⟩, q⟩
theorem ef_countA {f g : Rho → Option D} {p2 cpos : Pos} (hu : Rm X) (ha : XF X a f) (hb : EF X b g) (hbase : attributeBase a "count" X.env (eval a X.env) = eval a X.env := by rfl)
    (hfew : ((backTo cpos (starEach [b] X.env)).all (fun x => !x.1) && (backToKw cpos (keywordEach [] X.env)).all (fun x => x.1.isSome) && decide (([b] : List Expr).length + ([] : List Keyword).length + (if ([] : List Keyword).isEmpty then 0 else 1) < 30)) = true := by rfl)
    (hline : (p2.endLine == cpos.line) = true := by rfl) (hs : starEach [b] X.env = (false, eval b X.env) :: starEach [] X.env := by rfl) : EF X (.Call (.Attribute a "count" p2) [b] [] cpos) (b2 dCountA f g) :=
  ⟨fW_mono, (pe_bm PySem.F.plainAttrs_list PySem.F.slot_list_count PySem.F.type_list_count (mt_lcountD hu) ha.pe (pa_cons hb.pe pa_nil hs) hbase hfew hline hs rfl).imp fun σ H Q ⟨B, F, ρ, R, z, e, k⟩ => by
    have ⟨x, y, e1, e2, e3⟩ : ∃ x y, f ρ = some x ∧ g ρ = some y ∧ dCountA x y = some z := by
      obtain ⟨x, e1, e⟩ := Option.bind_eq_some_iff.mp e
      obtain ⟨y, e2, e⟩ := Option.bind_eq_some_iff.mp e
      exact ⟨x, y, e1, e2, e⟩
    unfold dCountA at e3
    split at e3
    · split at e3
      · rename_i hok
        cases e3
        refine ⟨B, F, ρ, R, _, e1, fun F1 H1 v R1 s1 d => ?_⟩
        obtain ⟨c, ys, rfl, s, r⟩ := pk_lst R1 d
        refine ⟨.inl ⟨rfl, ys, s⟩, B, F1, ρ, R1, _, e2, fun F2 H2 u R2 s2 du => ?_⟩
        have d2 := (d.mono s2).dp (Same.refl _) R2
        exact ⟨u, _, _, rfl, d2, du.same R2.sub, hok.1, hok.2, k F2 H2 _ R2 (s1.trans s2) (.int _)⟩
      · cases e3
    · cases e3⟩
end
/-! ### lowest terms -/
/-- a/b in lowest terms -/
def ratP (a b : Nat) : Int × Int := (((a / Nat.gcd a b : Nat) : Int), ((b / Nat.gcd a b : Nat) : Int))
theorem gcd_pos {a b : Nat} (hb : 1 ≤ b) : 1 ≤ Nat.gcd a b := Nat.gcd_pos_of_pos_right _ hb
theorem gcd_le {a b : Nat} (hb : 1 ≤ b) : Nat.gcd a b ≤ b := Nat.le_of_dvd hb (Nat.gcd_dvd_right _ _)
theorem fdiv_nat {a b : Nat} (h1 : 1 ≤ b) (h2 : b < 1073741824) : dFdiv (.int (a : Int)) (.int (b : Int)) = some (.int ((a / b : Nat) : Int)) := by
  show (if _ then _ else _) = _
  rw [if_pos ⟨by omega, by omega⟩]
  rfl
theorem rat_of {A B G : Rho → Option D} {ρ : Rho} {a b : Nat} (hA : A ρ = some (.int (a : Int))) (hB : B ρ = some (.int (b : Int))) (hG : G ρ = some (.int ((Nat.gcd a b : Nat) : Int))) (h1 : 1 ≤ b) (h2 : b < 1073741824) : vTup (aCons (b2 dFdiv A G) (aCons (b2 dFdiv B G) aNil)) ρ = some (edgeD (ratP a b)) := by
  have g1 := gcd_pos (a := a) h1
  have g2 := gcd_le (a := a) h1
  refine tup2_of (p := .int ((a / Nat.gcd a b : Nat) : Int)) ((b2_of hA hG).trans (fdiv_nat g1 (by omega))) (q := .int ((b / Nat.gcd a b : Nat) : Int)) ((b2_of hB hG).trans (fdiv_nat g1 (by omega)))
/-- the loop of the greatest common divisor -/
theorem q_gcd {t : Rho → Option Bool} {f : Rho → Option Fl} {g : Rho → Option Fl} {K : Fl → Prop} (st : Nat → Nat → Rho) (a b : Nat) (hb : b ≤ 4000)
    (ht : ∀ x y, t (st x y) = some (!decide (y = 0))) (hf : ∀ x y, 1 ≤ y → f (st x y) = some (.nx (st y (x % y)))) (k : fW g (st (Nat.gcd a b) 0) K) : fW (sSeq (whF t f 4096) g) (st a b) K := by
  refine s_seq (s_while (fun s : Nat × Nat => st s.1 s.2) (fun i s => s.2 + i ≤ 4000 ∧ Nat.gcd s.1 s.2 = Nat.gcd a b) 4001 4096 0 (a, b) (by omega) ⟨by simp; omega, rfl⟩ (fun i s hJ => ?_) (by omega))
  obtain ⟨x, y⟩ := s
  obtain ⟨h1, h2⟩ := hJ
  replace h1 : y + i ≤ 4000 := h1
  replace h2 : Nat.gcd x y = Nat.gcd a b := h2
  by_cases c : y = 0
  · subst c
    refine .inr ⟨by rw [ht]; rfl, ?_⟩
    rw [Nat.gcd_zero_right] at h2
    subst h2
    exact k
  · refine .inl ⟨by omega, by rw [ht]; simp [c], _, hf x y (by omega), (y, x % y), rfl, ?_, ?_⟩
    · have := Nat.mod_lt x (Nat.pos_of_ne_zero c)
      show x % y + (i + 1) ≤ 4000
      omega
    · show Nat.gcd y (x % y) = _
      rw [← h2, Nat.gcd_comm x y, Nat.gcd_rec y x, Nat.gcd_comm]
end L2.P

set_option Elab.async false
set_option linter.all false
set_option maxRecDepth 100000
set_option maxHeartbeats 4000000
/-! PL43: x = y.pop(); x[k] = v, x[k] += v of a list of this def's own; displays of a list with a star; len(set(list)). -/
namespace L2.P
open PySem PySem.Spec PyProof.Rows L2
theorem dpAll_dropLast {K : Fg} {F : Hp} : ∀ {vs : List V} {ps : List D}, DpAll K F vs ps → DpAll K F vs.dropLast ps.dropLast
  | _, _, .nil => .nil
  | _, _, .cons _ .nil => .nil
  | _, _, .cons a (.cons b t) => .cons a (dpAll_dropLast (.cons b t))
section
variable {X : Cx} {pos : Pos} {i j : Nat} {x y : Str} {e k v : Expr} {px : Pos}
def sPop (i j : Nat) : Rho → Option Fl := fun ρ => match ρ[j]? with
  | some (.ol ps) => (ps[ps.length - 1]?).map fun p => .nx ((ρ.set j (.ol ps.dropLast)).set i (.v p))
  | _ => none
theorem sf_pop {p' p1 p2 p3 : Pos} (hN : X.N.Nodup) (hi : X.N[i]? = some x) (hx : Loc X.env.scope x) (hN2 : X.N[j]? = some y) (hv2 : Vis X.env.scope y) (hd : (y == ("__debug__" : Str)) = false := by decide) (hcd : (y == ("__classdict__" : Str)) = false := by decide)
    (hs : swapsWith (.Call (.Attribute (.Name y p1) "pop" p2) [] [] p3) (some (.Name x p')) pos.line X.env = pure false := by rfl)
    (hf : X.fn x = true ∨ X.env.scope.names.lookup x = some .local := by first | exact .inl rfl | exact .inr rfl | assumption)
    (hbase : attributeBase (.Name y p1) "pop" X.env (eval (.Name y p1) X.env) = eval (.Name y p1) X.env := by rfl) (hline : (p2.endLine == p3.line) = true := by rfl) :
    SF X (.Assign [.Name x p'] (.Call (.Attribute (.Name y p1) "pop" p2) [] [] p3) pos) (sPop i j) :=
  ⟨fW_mono, (ps_set hN hi hx (pe_bm0 PySem.F.plainAttrs_list PySem.F.slot_list_pop PySem.F.type_list_pop mt_pop (pe_var hN2 hv2 hd hcd) hbase hline) hs hf).imp fun En σ H ⟨B, F, ρ, R, fl, e, q⟩ => by
    unfold sPop at e
    split at e
    · rename_i ps hp
      obtain ⟨p, hy, rfl⟩ := Option.map_eq_some_iff.mp e
      obtain ⟨a, xs, hσ, f, h0, h1, r⟩ := R.own hp
      have hl := r.length
      obtain ⟨u, hu, du⟩ := r.get hy
      refine ⟨.ref a, hσ, .inl ⟨rfl, xs, .inl (.inl h1)⟩, a, xs, u, rfl, rfl, h1, by rw [hl]; exact hu, ?_⟩
      exact q F _ _ ((R.setO hp hσ h1 (dpAll_dropLast r)).put (.v du) rfl) (Same.refl _)
    · cases e⟩
theorem e_sPop {ρ : Rho} {ps : List D} {p : D} (h : ρ[j]? = some (.ol (ps ++ [p]))) : sPop i j ρ = some (.nx ((ρ.set j (.ol ps)).set i (.v p))) := by
  unfold sPop
  rw [h]
  simp
/-! x[k] = v -/
def wPutL (i : Nat) (T U : TW) : TSt := fun ρ K => T ρ fun p => ∃ ps, ρ[i]? = some (.ol ps) ∧ U ρ fun k => ∃ n : Nat, k = .int (n : Int) ∧ n < ps.length ∧ K (.nx (ρ.set i (.ol (ps.set n p))))
def sPutL (i : Nat) (f g : Rho → Option D) : Rho → Option Fl := fun ρ => (f ρ).bind fun p => (g ρ).bind fun k => match ρ[i]?, k with
  | some (.ol ps), .int z => if 0 ≤ z ∧ z < ps.length then some (.nx (ρ.set i (.ol (ps.set z.toNat p)))) else none
  | _, _ => none
theorem ixN_of {n m : Nat} (h : n < m) : ixN m (n : Int) = some n := by
  unfold ixN
  rw [if_pos (by omega), if_pos (by omega)]; simp
theorem sw_putL {T U : TW} {p1 p2 : Pos} (hN : X.N[i]? = some x) (hv : Vis X.env.scope x) (h : EW X v T) (hk : EW X k U) (hs : swapsWithSole [.Subscript (.Name x p1) k p2] v pos.line X.env = pure false := by rfl) (hw : swappedStores [.Subscript (.Name x p1) k p2] v X.env = pure none := by rfl) (ha : ∀ v0, assign (.Subscript (.Name x p1) k p2) X.env v0 = (do
      let ov ← holding [v0] (eval (.Name x p1) X.env)
      let iv ← holding [v0, ov] (eval k X.env)
      standAt p2
      holding [v0, ov, iv] (setItem ov iv v0)
      release [v0, ov, iv] []) := by intro _; rfl) (hd : (x == ("__debug__" : Str)) = false := by decide) (hcd : (x == ("__classdict__" : Str)) = false := by decide) : SW X (.Assign [.Subscript (.Name x p1) k p2] v pos) (wPutL i T U) :=
  ⟨fun ρ K K' kk q => h.mono _ _ _ (fun p ⟨ps, a, z⟩ => ⟨ps, a, hk.mono _ _ _ (fun y ⟨n, b, c, d⟩ => ⟨n, b, c, kk _ d⟩) z⟩) q, (ps_asg h.pe (pg_sub (pe_var hN hv hd hcd) hk.pe set_list ha) hs hw).imp fun En σ H ⟨B, F, ρ, R, q⟩ => ⟨B, F, ρ, R, h.mono _ _ _ (fun p ⟨ps, e0, kp⟩ F1 H1 u R1 s1 d1 => by
    obtain ⟨a, xs, hσ, f, h0, h1, r⟩ := R1.own e0
    refine ⟨.ref a, hσ, B, F1, ρ, R1, hk.mono _ _ _ (fun y ⟨n, ey, hn, kk⟩ F2 H2 w R2 s2 d2 => ?_) kp⟩
    subst ey
    obtain rfl := Dp.inv_int d2
    obtain ⟨a', xs', hσ', f', h0', h1', r'⟩ := R2.own e0
    rw [hσ] at hσ'; cases hσ'
    have hl := r'.length
    exact ⟨a, xs', (n : Int), n, rfl, rfl, h1', by rw [hl]; exact ixN_of hn, kk F2 _ σ (R2.setO e0 hσ h1' (r'.set (d1.same s2) n)) (s1.trans s2)⟩) q⟩⟩
theorem sf_putL {f g : Rho → Option D} {p1 p2 : Pos} (hN : X.N[i]? = some x) (hv : Vis X.env.scope x) (h : EF X v f) (hk : EF X k g) (hs : swapsWithSole [.Subscript (.Name x p1) k p2] v pos.line X.env = pure false := by rfl) (hw : swappedStores [.Subscript (.Name x p1) k p2] v X.env = pure none := by rfl) (ha : ∀ v0, assign (.Subscript (.Name x p1) k p2) X.env v0 = (do
      let ov ← holding [v0] (eval (.Name x p1) X.env)
      let iv ← holding [v0, ov] (eval k X.env)
      standAt p2
      holding [v0, ov, iv] (setItem ov iv v0)
      release [v0, ov, iv] []) := by intro _; rfl) (hd : (x == ("__debug__" : Str)) = false := by decide) (hcd : (x == ("__classdict__" : Str)) = false := by decide) : SF X (.Assign [.Subscript (.Name x p1) k p2] v pos) (sPutL i f g) :=
  (sw_putL hN hv h hk hs hw ha hd hcd).imp fW_mono fun ρ K ⟨z, e, kk⟩ => by
    obtain ⟨p, e1, e⟩ := Option.bind_eq_some_iff.mp e
    obtain ⟨y, e2, e⟩ := Option.bind_eq_some_iff.mp e
    split at e
    · rename_i ps n h0
      split at e
      · rename_i hh
        cases e
        exact ⟨p, e1, ps, h0, _, e2, n.toNat, by congr 1; omega, by omega, kk⟩
      · cases e
    · cases e
theorem e_sPutL {f g : Rho → Option D} {ρ : Rho} {ps : List D} {p : D} {n : Nat} (hi : ρ[i]? = some (.ol ps)) (h1 : f ρ = some p) (h2 : g ρ = some (.int (n : Int))) (hl : n < ps.length) : sPutL i f g ρ = some (.nx (ρ.set i (.ol (ps.set n p)))) := by
  unfold sPutL
  rw [h1, Option.bind_some, h2, Option.bind_some, hi]
  show (if _ then _ else _) = _
  rw [if_pos ⟨by omega, by omega⟩]; rfl
/-! x[k] += v, of ints -/
theorem get_listP : PGet X (fun x y H Q => ∃ p xs n v, x = .ref p ∧ y = .int ((n : Nat) : Int) ∧ SqL X.K H p xs ∧ xs[n]? = some v ∧ Q v H) := by
  intro pins s σ H o i ov iv Q I r1 r2 h
  obtain ⟨p, xs, n, v, rfl, rfl, hq, hv, q⟩ := h
  cases r1
  obtain ⟨t, rfl⟩ := r2
  obtain ⟨its, r, pl, hz⟩ := I.list hq
  obtain ⟨w, ew, rw'⟩ := r.get hv
  have hl := (List.getElem?_eq_some_iff.mp hv).1
  have hn := line63
  exact wpAny_getItem_list pl.isList (by omega) (by omega) (by simpa using ew) ⟨v, H, I, rw', q⟩
def wAugL (i : Nat) (U T : TW) : TSt := fun ρ K => ∃ ps, ρ[i]? = some (.ol ps) ∧ U ρ fun k => ∃ (n : Nat) (a : Int), k = .int (n : Int) ∧ ps[n]? = some (.int a) ∧ T ρ fun p => ∃ b, p = .int b ∧ K (.nx (ρ.set i (.ol (ps.set n (.int (a + b))))))
def sAugL (i : Nat) (g f : Rho → Option D) : Rho → Option Fl := fun ρ => (g ρ).bind fun k => (f ρ).bind fun p => match ρ[i]?, k, p with
  | some (.ol ps), .int z, .int b => if 0 ≤ z then (match ps[z.toNat]? with | some (.int a) => some (.nx (ρ.set i (.ol (ps.set z.toNat (.int (a + b)))))) | _ => none) else none
  | _, _, _ => none
theorem sw_augL {T U : TW} {p1 p2 : Pos} (hN : X.N[i]? = some x) (hv : Vis X.env.scope x) (hk : EW X k U) (h : EW X v T)
    (ha : ∀ ov iv new, augStore k ov iv new = (do holding [new, ov, iv] (setItem ov iv new); release [new, ov, iv] []; pure .next) := by intros; rfl) (hd : (x == ("__debug__" : Str)) = false := by decide) (hcd : (x == ("__classdict__" : Str)) = false := by decide) : SW X (.AugAssign (.Subscript (.Name x p1) k p2) .Add v pos) (wAugL i U T) :=
  ⟨fun ρ K K' kk ⟨ps, e0, q⟩ => ⟨ps, e0, hk.mono _ _ _ (fun y ⟨n, a, b, c, d⟩ => ⟨n, a, b, c, h.mono _ _ _ (fun p ⟨m, z1, z2⟩ => ⟨m, z1, kk _ z2⟩) d⟩) q⟩, (ps_augS (pe_var hN hv hd hcd) hk.pe get_listP h.pe ip_add set_list ha).imp fun En σ H ⟨B, F, ρ, R, ps, e0, q⟩ => by
    obtain ⟨a, xs, hσ, f, h0, h1, r⟩ := R.own e0
    refine ⟨.ref a, hσ, B, F, ρ, R, hk.mono _ _ _ (fun y ⟨n, m, ey, hm, kp⟩ F1 H1 w R1 s1 d1 => ?_) q⟩
    subst ey
    obtain rfl := Dp.inv_int d1
    obtain ⟨a', xs', hσ', f', h0', h1', r'⟩ := R1.own e0
    rw [hσ] at hσ'; cases hσ'
    obtain ⟨u, hu, du⟩ := r'.get hm
    obtain rfl := Dp.inv_int du
    refine ⟨a, xs', n, _, rfl, rfl, .inl (.inl h1'), hu, B, F1, ρ, R1, h.mono _ _ _ (fun p ⟨b, eb, kk⟩ F2 H2 u2 R2 s2 d2 => ?_) kp⟩
    subst eb
    obtain rfl := Dp.inv_int d2
    refine ⟨m, b, rfl, rfl, ?_⟩
    obtain ⟨a', xs2, hσ', f', h0', h1', r2⟩ := R2.own e0
    rw [hσ] at hσ'; cases hσ'
    have hl := r2.length
    have hn := (List.getElem?_eq_some_iff.mp hm).1
    exact ⟨a, xs2, (n : Int), n, rfl, rfl, h1', by rw [hl]; exact ixN_of hn, kk F2 _ σ (R2.setO e0 hσ h1' (r2.set (.int _) n)) (s1.trans s2)⟩⟩
theorem sf_augL {f g : Rho → Option D} {p1 p2 : Pos} (hN : X.N[i]? = some x) (hv : Vis X.env.scope x) (hk : EF X k g) (h : EF X v f)
    (ha : ∀ ov iv new, augStore k ov iv new = (do holding [new, ov, iv] (setItem ov iv new); release [new, ov, iv] []; pure .next) := by intros; rfl) (hd : (x == ("__debug__" : Str)) = false := by decide) (hcd : (x == ("__classdict__" : Str)) = false := by decide) : SF X (.AugAssign (.Subscript (.Name x p1) k p2) .Add v pos) (sAugL i g f) :=
  (sw_augL hN hv hk h ha hd hcd).imp fW_mono fun ρ K ⟨z, e, kk⟩ => by
    obtain ⟨y, e1, e⟩ := Option.bind_eq_some_iff.mp e
    obtain ⟨p, e2, e⟩ := Option.bind_eq_some_iff.mp e
    split at e
    · rename_i ps n b h0 h0b
      split at e
      · rename_i hh
        split at e
        · rename_i a ha
          cases e
          exact ⟨ps, h0, _, e1, n.toNat, a, by congr 1; omega, ha, _, e2, b, rfl, kk⟩
        · cases e
      · cases e
    · cases e
theorem e_sAugL {f g : Rho → Option D} {ρ : Rho} {ps : List D} {n : Nat} {a b : Int} (hi : ρ[i]? = some (.ol ps)) (h1 : g ρ = some (.int (n : Int))) (h2 : f ρ = some (.int b)) (hl : ps[n]? = some (.int a)) : sAugL i g f ρ = some (.nx (ρ.set i (.ol (ps.set n (.int (a + b)))))) := by
  unfold sAugL
  rw [h1, Option.bind_some, h2, Option.bind_some, hi]
  show (if _ then (match ps[Int.toNat (n : Int)]? with | some (.int a) => _ | _ => none) else _) = _
  rw [if_pos (by omega), Int.toNat_natCast, hl]
/-! [*a, *b] -/
def nLstS (f : Rho → Option (List D)) : Rho → Option (List D) := fun ρ => (f ρ).bind fun ps => if ps.length ≤ 1000 then some ps else none
theorem nf_lstS {f : Rho → Option (List D)} {es : List Expr} (h : EAF X es f) : NF X (.List es pos) (nLstS f) :=
  ⟨fW_mono, (pe_lst h.pa).imp fun σ H Q ⟨B, F, ρ, R, ps, e, k⟩ => by
    obtain ⟨qs, e1, e2⟩ := Option.bind_eq_some_iff.mp e
    split at e2
    · rename_i hl
      cases e2
      refine ⟨B, F, ρ, R, ps, e1, fun F1 H1 vs R1 s1 d1 => ⟨?_, fun p hp => k F1 H1 p vs R1 s1 hp d1⟩⟩
      rw [d1.length, sizeLine_eq]; omega
    · cases e2⟩
/-! len(set(x)), x a list of ints -/
def rLenSetO (w : World) : List V → Hp → VK → Prop := fun xs H Q => ∃ (a : Addr) (S : Int → Bool) (n : Nat), xs = [.ref a] ∧ H a = some (SetO w a S n) ∧ Q (.int (n : Nat)) H
theorem cr_lenSetO : CallR X (.builtin "len") (rLenSetO X.w) := by
  intro pins s σ H vs us Q I r h
  obtain ⟨a, S, n, rfl, ha, q⟩ := h
  have R := setO_get I ha
  rw [Vals.ref1 r]
  obtain ⟨o, es, ep, t, ho, hex, hd, g, nd, hm, hb, hf, hn, _⟩ := R
  exact call_len_set ho hex hd hf (by unfold scanBound at hb; omega) ⟨.int n, H, I.tok _, ⟨_, by rw [hn]⟩, q⟩
def vLenSet (f : Rho → Option D) : Rho → Option D := fun ρ => (f ρ).bind fun p => match p with
  | .list xs => (intsD xs).bind fun ns => if ns.length ≤ 1000 then some (.int ((sortD ns).length : Nat)) else none
  | _ => none
theorem ef_lenSet {f : Rho → Option D} {p p2 pos2 : Pos} (bi : Bi X.mg) (h : XF X e f) (hc : X.calm = true := by rfl) (hg : Gl X "len" := by rfl) (hg2 : Gl X "set" := by rfl)
    (he2 : starEach [e] X.env = (false, eval e X.env) :: starEach [] X.env := by rfl) (he : starEach [.Call (.Name "set" p2) [e] [] pos2] X.env = (false, eval (.Call (.Name "set" p2) [e] [] pos2) X.env) :: starEach [] X.env := by rfl) :
    EF X (.Call (.Name "len" p) [.Call (.Name "set" p2) [e] [] pos2] [] pos) (vLenSet f) :=
  ⟨fW_mono, (pe_callB cr_lenSetO hg bi.len boot_len (pa_cons (pe_callTy (cr_setL hc) hg2 bi.set bt_set (pa_cons h.pe pa_nil he2) (he := he2) (hpl := rfl)) pa_nil he) (he := he) (hpl := rfl)).imp fun σ H Q ⟨B, F, ρ, R, p, e, k⟩ => by
    obtain ⟨z, e1, e2⟩ := Option.bind_eq_some_iff.mp e
    split at e2
    · obtain ⟨ns, e3, e4⟩ := Option.bind_eq_some_iff.mp e2
      split at e4
      · rename_i h1
        cases e4
        refine ⟨B, F, ρ, R, _, e1, fun F' H' v R' s' d => ?_⟩
        obtain ⟨a, xs, rfl, r, sq⟩ := pk_items R' d rfl
        have s : SqL X.K H' a xs := by
          rcases sq with ⟨_, s⟩ | ⟨z, _⟩
          · exact s
          · cases z
        rw [intsD_some e3] at r
        rw [dpAll_ints ns r] at s
        exact ⟨a, ns, rfl, s, h1, fun q hq => ⟨q, _, _, rfl, upd_same, k F' _ _ (R'.lay hq) s' (.int _)⟩⟩
      · cases e4
    · cases e2⟩
theorem e_vLenSet {f : Rho → Option D} {ρ : Rho} {ns : List Int} (h : f ρ = some (.list (ns.map .int))) (hl : ns.length ≤ 1000) : vLenSet f ρ = some (.int ((sortD ns).length : Nat)) := by
  unfold vLenSet
  rw [h, Option.bind_some]
  show (intsD (ns.map PyData.int)).bind _ = _
  rw [intsD_map, Option.bind_some, if_pos hl]
theorem e_nLstS {f : Rho → Option (List D)} {ρ : Rho} {ps : List D} (h : f ρ = some ps) (hl : ps.length ≤ 1000) : nLstS f ρ = some ps := by
  unfold nLstS
  rw [h, Option.bind_some, if_pos hl]
end
end L2.P

set_option Elab.async false
set_option linter.all false
set_option maxRecDepth 100000
set_option maxHeartbeats 4000000
/-! PL44: a > b of tuples of ints. -/
namespace L2.PS
open PySem PyProof.Rows L2
section
variable {prog : Program} {w : World} {A : Around} {E : Value → Shared → Prop} {s : Shared} {l : Addr} {xs : Array (Int × Tok)} {its : List Value} {ns : List Int}
theorem sum_intTup {Q : Value → Shared → Prop} (hh : A.handled = none) (hl : s.heap.IsTuple l (intItems xs))
    (h : ∀ h' tk t', (∀ b o, s.heap.get? b = some o → h'.get? b = some o) → Q (.int (preSum (numAt xs) xs.size) t') { s with heap := h', toks := tk }) :
    wpAny (model prog w) A (call (.builtin "sum") [.ref l]) Q E s := by
  have hlt : l < s.heap.objs.size := by obtain ⟨o, ho, _⟩ := id hl; exact Heap.lt_size ho
  have hli : l ≠ s.heap.objs.size := Nat.ne_of_lt hlt
  refine call_sum_walkG (wpAny_pyIter_tuple hl ?_)
  have hsz : (s.heap.push { cls := .type "tuple_iterator", data := .fields #[.ref l, .int 0 0] }).objs.size = s.heap.objs.size + 1 := Heap.size_push ..
  refine ⟨_, _, _, _, _, _, numAt xs, rfl, Walks.tuple (A := A.in1) hh _ l hli (intItems xs), ⟨⟨_, Heap.get?_push_size _ rfl, rfl, rfl⟩, hl.at fun o e => Heap.get?_push_of_some _ e⟩, fun b hb => ?_, (fun _ _ => intItems_at), fun h' tk t' hk => ?_⟩
  · rcases List.mem_cons.mp hb with rfl | hb
    · exact Nat.lt_of_lt_of_eq (Nat.lt_succ_self _) hsz.symm
    · have : b = l := by simpa using hb
      subst this
      exact Nat.lt_of_lt_of_eq (Nat.lt_succ_of_lt hlt) hsz.symm
  · have := h h' tk t' fun b o e => hk b o (fun z => Nat.ne_of_lt (Heap.lt_size e) (by simpa using z)) (Heap.get?_push_of_some _ e)
    simpa [intItems] using this
theorem sum_rawT {Q : Value → Shared → Prop} (hh : A.handled = none) (hl : s.heap.IsTuple l its.toArray) (hi : IntsAre its ns)
    (h : ∀ h' tk t', (∀ b o, s.heap.get? b = some o → h'.get? b = some o) → Q (.int ns.sum t') { s with heap := h', toks := tk }) : wpAny (model prog w) A (call (.builtin "sum") [.ref l]) Q E s := by
  obtain ⟨xs, e⟩ := hi.allInts.items
  have hn : numsOf (intItems xs).toList = ns := by rw [← e]; exact hi.numsOf
  rw [nums_intItems] at hn
  rw [e] at hl
  refine sum_intTup hh hl fun h' tk t' hk => ?_
  have := h h' tk t' hk
  rw [preSum_eq, List.take_of_length_le (by simp), hn]; exact this
end
end L2.PS
namespace L2.P
open PySem PySem.Spec PyProof.Rows L2
def rSumT (K : Fg) : List V → Hp → VK → Prop := fun vs H Q => ∃ (a : Addr) (ns : List Int), vs = [V.ref a] ∧ SqT K H a (ns.map V.int) ∧ Q (.int ns.sum) H
theorem cr_sumT {X : Cx} (hc : X.calm = true) : CallR X (.builtin "sum") (rSumT X.K) := by
  intro pins s σ H vs us Q I r h
  obtain ⟨a, ns, rfl, hs, q⟩ := h
  obtain ⟨its, rv, hl, _⟩ := I.tuple hs
  rw [Vals.ref1 r]
  exact PS.sum_rawT (I.ok.hd hc) hl rv.ints fun h' tk t' hk => ⟨.int _, H, I.kept hk, ⟨_, rfl⟩, q⟩
def gSumA : GA
  | [.list xs] => (intsD xs).map fun ns => .int ns.sum
  | [.tuple xs] => (intsD xs).map fun ns => .int ns.sum
  | _ => none
theorem cg_sumA {X : Cx} (hc : X.calm = true) : CallG X (.builtin "sum") gSumA := ⟨_, CallR.or (cr_sum hc) (cr_sumT hc), fun B F H σ ρ vs ps z Q R d e k => by
  unfold gSumA at e
  split at e
  · obtain ⟨bs, e1, rfl⟩ := Option.map_eq_some_iff.mp e
    obtain ⟨v, rfl, h⟩ := dp1 (d.dp R)
    rw [intsD_some e1] at h
    obtain ⟨a, xs, rfl, s, r⟩ := Dp.inv_lst h
    exact .inl ⟨a, bs, rfl, by rw [dpAll_ints bs r] at s; exact s, k F H _ R (Same.refl _) (.int _)⟩
  · obtain ⟨bs, e1, rfl⟩ := Option.map_eq_some_iff.mp e
    obtain ⟨v, rfl, h⟩ := dp1 (d.dp R)
    rw [intsD_some e1] at h
    obtain ⟨a, xs, rfl, s, r⟩ := Dp.inv_tup h
    exact .inr ⟨a, bs, rfl, by rw [dpAll_ints bs r] at s; exact s, k F H _ R (Same.refl _) (.int _)⟩
  · cases e⟩
theorem c_sumA {X : Cx} {a : Expr} {p pos : Pos} {f : Rho → Option (List D)} (B : Bi X.mg) (h : XAF X [a] f) (hc : X.calm = true := by rfl) (hg : Gl X "sum" := by rfl) (he : starEach [a] X.env = (false, eval a X.env) :: starEach [] X.env := by rfl) : EF X (.Call (.Name "sum" p) [a] [] pos) (aOf gSumA f) := EW.f (ew_callB (cg_sumA hc) h hg B.sum (by decide +kernel) (he := he) (hpl := rfl))
theorem e_gSumL (ns : List Int) : gSumA [.list (ns.map .int)] = some (.int ns.sum) := by
  show (intsD (ns.map PyData.int)).map _ = _
  rw [intsD_map]; rfl
theorem e_gSumT (ns : List Int) : gSumA [tR ns] = some (.int ns.sum) := by
  show (intsD (ns.map PyData.int)).map _ = _
  rw [intsD_map]; rfl
def lexGtI : List Int → List Int → Bool
  | [], _ => false
  | _ :: _, [] => true
  | x :: xs, y :: ys => if x = y then lexGtI xs ys else decide (y < x)
theorem lexAt_shift {e r : Nat → Bool} {z : Bool} : ∀ (k i : Nat), Ob.lexAt e r z (i + 1) k = Ob.lexAt (fun j => e (j + 1)) (fun j => r (j + 1)) z i k
  | 0, _ => rfl
  | k + 1, i => by
    rw [Ob.lexAt_succ, Ob.lexAt_succ, lexAt_shift k (i + 1)]
theorem lexAt_gt : ∀ (ns ms : List Int), Ob.lexAt (fun j => decide (ns.getD j 0 = ms.getD j 0)) (fun j => decide (ms.getD j 0 < ns.getD j 0)) (decide (ns.length > ms.length)) 0 (min ns.length ms.length) = lexGtI ns ms
  | [], ms => by
    rw [List.length_nil, Nat.zero_min, Ob.lexAt_zero]
    exact decide_eq_false (by omega)
  | n :: ns, [] => by
    rw [List.length_nil, Nat.min_zero, Ob.lexAt_zero]
    exact decide_eq_true (by simp)
  | n :: ns, m :: ms => by
    have e1 : min (n :: ns).length (m :: ms).length = min ns.length ms.length + 1 := by simp only [List.length_cons]; omega
    have e2 : decide ((n :: ns).length > (m :: ms).length) = decide (ns.length > ms.length) := by
      rw [decide_eq_decide]; simp only [List.length_cons]; omega
    rw [e1, e2, Ob.lexAt_succ, lexAt_shift]
    show (if decide (n = m) = true then Ob.lexAt (fun j => decide (ns.getD j 0 = ms.getD j 0)) (fun j => decide (ms.getD j 0 < ns.getD j 0)) _ 0 _ else decide (m < n)) = if n = m then lexGtI ns ms else decide (m < n)
    rw [lexAt_gt ns ms]
    by_cases c : n = m
    · rw [if_pos (by simpa using c), if_pos c]
    · rw [if_neg (by simpa using c), if_neg c]
def rGtT (K : PySem.W.Frag) : R2 := fun x y H Q => ∃ (a b : Addr) (ns ms : List Int), x = .ref a ∧ y = .ref b ∧ SqT K H a (ns.map V.int) ∧ SqT K H b (ms.map V.int) ∧ Q (.bl (lexGtI ns ms)) H
theorem op_gtT {X : Cx} (hu : X.A.units < cLine) : OpR X (compareOp .Gt) (rGtT X.K) := by
  intro pins s σ H x y v u Q I rx ry h
  obtain ⟨a, b, ns, ms, rfl, rfl, ha, hb, q⟩ := h
  cases rx
  cases ry
  obtain ⟨its, r1, p1, _⟩ := I.tuple ha
  obtain ⟨its2, r2, p2, _⟩ := I.tuple hb
  have i1 : IntsAre its ns := Vals.ints r1
  have i2 : IntsAre its2 ms := Vals.ints r2
  have e1 : its.toArray.size = ns.length := by rw [List.size_toArray]; exact i1.length
  have e2 : its2.toArray.size = ms.length := by rw [List.size_toArray]; exact i2.length
  have at1 : ∀ j (h1 : j < its.toArray.size), ∃ t, its.toArray[j] = .int (ns.getD j 0) t := fun j h1 => PyProof.Rows.IntsAre.int_at i1 _ _ (by simp at h1; simp [h1])
  have at2 : ∀ j (h1 : j < its2.toArray.size), ∃ t, its2.toArray[j] = .int (ms.getD j 0) t := fun j h1 => PyProof.Rows.IntsAre.int_at i2 _ _ (by simp at h1; simp [h1])
  have R := Ob.RcOp.tuples_gt (A := X.A) (s := s) (e := fun j => decide (ns.getD j 0 = ms.getD j 0)) (r := fun j => decide (ms.getD j 0 < ns.getD j 0)) p1 p2 hu (fun j h1 h2 => by
    obtain ⟨t, et⟩ := at1 j h1
    obtain ⟨t', et'⟩ := at2 j h2
    rw [et, et']
    have z : (ns.getD j 0 == ms.getD j 0) = decide (ns.getD j 0 = ms.getD j 0) := by
      by_cases q : ns.getD j 0 = ms.getD j 0
      · rw [decide_eq_true q]; exact beq_iff_eq.mpr q
      · rw [decide_eq_false q]; exact beq_eq_false_iff_ne.mpr q
    rw [← z]
    exact SeqAt.EqAt.int_int _ _ _ _) (fun j h1 h2 _ => by
    obtain ⟨t, et⟩ := at1 j h1
    obtain ⟨t', et'⟩ := at2 j h2
    rw [et, et']
    exact Ob.RcOp.gt_int _ _ _ _)
  rw [e1, e2, lexAt_gt] at R
  have z : wpAny (model X.prog X.w) X.A (compareOp .Gt (.ref a) (.ref b)) (EP X pins σ Q) X.xe s := R X.prog X.w X.xe (EP X pins σ Q) ⟨.bl _, H, I, rfl, q⟩
  exact z
def dGtT : G2
  | .tuple xs, .tuple ys => (intsD xs).bind fun ns => (intsD ys).bind fun ms => some (.bool (lexGtI ns ms))
  | _, _ => none
theorem og_gtT {X : Cx} (hu : Rm X) : OpG X (compareOp .Gt) dGtT := OpG.of ⟨_, op_gtT (by unfold Rm at hu; omega), fun B F H σ ρ x y p q z Q R hx hy e k => by
  unfold dGtT at e
  split at e
  · obtain ⟨ns, e1, e⟩ := Option.bind_eq_some_iff.mp e
    obtain ⟨ms, e2, e⟩ := Option.bind_eq_some_iff.mp e
    cases e
    obtain ⟨a, xs, rfl, s1, r1⟩ := Dp.inv_tup hx
    obtain ⟨b, ys, rfl, s2, r2⟩ := Dp.inv_tup hy
    rw [intsD_some e1] at r1
    rw [intsD_some e2] at r2
    rw [dpAll_ints ns r1] at s1
    rw [dpAll_ints ms r2] at s2
    exact ⟨a, b, ns, ms, rfl, rfl, s1, s2, k F H _ R (Same.refl _) (.bl _)⟩
  · cases e⟩
theorem e_gtT (ns ms : List Int) : dGtT (tR ns) (tR ms) = some (.bool (lexGtI ns ms)) := by
  show (intsD (ns.map PyData.int)).bind _ = _
  rw [intsD_map, Option.bind_some, intsD_map]; rfl
end L2.P

set_option Elab.async false
set_option linter.all false
set_option maxRecDepth 100000
set_option maxHeartbeats 4000000
/-! PL45: max of a list or a tuple. -/
namespace L2.P
open PySem PySem.Spec PyProof.Rows L2
section
variable {X : Cx}
def rPickT (K : Fg) (g : D → List D → D) : List V → Hp → VK → Prop := fun vs H Q => ∃ (a : Addr) (ys : List V) (x : D) (xs : List D), vs = [.ref a] ∧ SqT K H a ys ∧ DpAll K H ys (x :: xs) ∧ okM (x :: xs) = true ∧
  ∀ (i : Nat) (u : V), ys[i]? = some u → (x :: xs)[i]? = some (g x xs) → Q u H
theorem cr_maxPT (hc : X.calm = true) (hu : Rm X) : CallR X (.builtin "max") (rPickT X.K PySem.W.maxD) := by
  intro pins s σ H vs us Q I r h
  obtain ⟨a, ys, x, xs, rfl, hs, hd, ok, q⟩ := h
  rw [Vals.ref1 r]
  obtain ⟨hpl, hdep⟩ := okDs_iff.mp (okM_oks ok)
  obtain ⟨its, rv, hl, _⟩ := I.tuple hs
  obtain ⟨as, hr⟩ := Dp.readsAll I _ ys its hd hpl rv
  exact PySem.W.max_tuple_data (I.ok.hd hc) hl hr (okM_alike ok) (by unfold Rm at hu; omega) fun i v h' tk bs hv r hk => pick_fin I rv hpl hr (maxD_mem x xs) q i v h' tk bs hv r hk
theorem pk_tup2 {K : Fg} {B : Bs} {F H : Hp} {σ : St} {ρ : Rho} {v : V} {ps : List D} (R : Rs K B F H σ ρ) (d : Pk K F σ ρ v (.tuple ps)) : ∃ a ys, v = .ref a ∧ SqT K H a ys ∧ DpAll K F ys ps := by
  rcases d with d | ⟨i, qs, h1, h2, e⟩ | ⟨_, _, _, _, _, z⟩
  rotate_left 2
  · cases z
  · obtain ⟨a, xs, rfl, s, r⟩ := Dp.inv_tup d
    exact ⟨a, xs, rfl, sqT_same R.sub s, r⟩
  · cases e
def gMaxA : GA
  | [.list (x :: xs)] => if okM (x :: xs) = true then some (PySem.W.maxD x xs) else none
  | [.tuple (x :: xs)] => if okM (x :: xs) = true then some (PySem.W.maxD x xs) else none
  | _ => none
theorem cg_maxA (hc : X.calm = true) (hu : Rm X) : CallG X (.builtin "max") gMaxA := ⟨_, CallR.or (cr_maxP hc hu) (cr_maxPT hc hu), fun B F H σ ρ vs ps z Q R d e k => by
  unfold gMaxA at e
  split at e
  · rename_i x xs
    split at e
    · rename_i ok
      cases e
      cases d with
      | cons d t =>
        cases t
        obtain ⟨a, ys, rfl, hs, r⟩ := pk_lst R d
        refine .inl ⟨a, ys, x, xs, rfl, hs, r.same R.sub, ok, fun i u hu hp => ?_⟩
        obtain ⟨u', hu', du⟩ := r.get hp
        rw [hu] at hu'; cases hu'
        exact k F H u R (Same.refl _) du
    · cases e
  · rename_i x xs
    split at e
    · rename_i ok
      cases e
      cases d with
      | cons d t =>
        cases t
        obtain ⟨a, ys, rfl, hs, r⟩ := pk_tup2 R d
        refine .inr ⟨a, ys, x, xs, rfl, hs, r.same R.sub, ok, fun i u hu hp => ?_⟩
        obtain ⟨u', hu', du⟩ := r.get hp
        rw [hu] at hu'; cases hu'
        exact k F H u R (Same.refl _) du
    · cases e
  · cases e⟩
variable {a : Expr} {p pos : Pos}
theorem c_maxA {f : Rho → Option (List D)} (B : Bi X.mg) (hu : Rm X) (h : XAF X [a] f) (hc : X.calm = true := by rfl) (hg : Gl X "max" := by rfl) (he : starEach [a] X.env = (false, eval a X.env) :: starEach [] X.env := by rfl) : EF X (.Call (.Name "max" p) [a] [] pos) (aOf gMaxA f) := EW.f (ew_callB (cg_maxA hc hu) h hg B.max bt_max (he := he) (hpl := rfl))
end
theorem maxA_L (xs : List D) : gMaxA [.list xs] = gMax [.list xs] := by cases xs <;> rfl
theorem maxA_T (xs : List D) : gMaxA [.tuple xs] = gMax [.list xs] := by cases xs <;> rfl
theorem max_intsL {ns : List Int} (hne : ns ≠ []) : ∃ M ∈ ns, gMaxA [.list (ns.map .int)] = some (.int M) ∧ ∀ n ∈ ns, n ≤ M := by rw [maxA_L]; exact max_ints hne
theorem max_intsT {ns : List Int} (hne : ns ≠ []) : ∃ M ∈ ns, gMaxA [tR ns] = some (.int M) ∧ ∀ n ∈ ns, n ≤ M := by unfold tR; rw [maxA_T]; exact max_ints hne
end L2.P

set_option Elab.async false
set_option linter.all false
set_option maxRecDepth 100000
set_option maxHeartbeats 4000000
/-! PL46: len of a dict that a call returns; unions as states; distances from above. -/
namespace L2.P
open PySem PySem.Spec PyProof.Rows L2
section
variable {X : Cx} {e : Expr} {pos : Pos}
def vLenE (f : Rho → Option D) : Rho → Option D := fun ρ => (f ρ).bind fun p => match p with
  | .dict kvs => some (.int (kvs.length : Nat))
  | _ => none
theorem ef_lenE {f : Rho → Option D} {p : Pos} (bi : Bi X.mg) (h : EF X e f) (hg : Gl X "len" := by rfl) (he : starEach [e] X.env = (false, eval e X.env) :: starEach [] X.env := by rfl) : EF X (.Call (.Name "len" p) [e] [] pos) (vLenE f) :=
  ⟨fW_mono, (pe_callB (CallR.or (CallR.or call_lenD call_len_dT) call_len_seq) hg bi.len boot_len (pa_cons h.pe pa_nil he) (he := he) (hpl := rfl)).imp fun σ H Q ⟨B, F, ρ, R, z, e, q⟩ => by
    obtain ⟨p, e1, e2⟩ := Option.bind_eq_some_iff.mp e
    split at e2
    · rename_i kvs
      cases e2
      refine ⟨B, F, ρ, R, _, e1, fun F1 H1 v R1 s1 d => ?_⟩
      obtain ⟨c, rfl, hd⟩ := Dp.inv_dictQ d
      rcases hd with ⟨es, he, r⟩ | ⟨es, he, r⟩ | ⟨i1, i2, rfl, hs⟩
      · refine .inl (.inl ⟨c, es, rfl, R1.sub _ _ he, ?_⟩)
        rw [r.len]
        exact q F1 H1 _ R1 s1 (.int _)
      · refine .inl (.inr ⟨c, es, rfl, R1.sub _ _ he, ?_⟩)
        rw [r.len]
        exact q F1 H1 _ R1 s1 (.int _)
      · exact .inr ⟨c, _, rfl, .inr (hs _), q F1 H1 _ R1 s1 (.int _)⟩
    · cases e2⟩
theorem e_vLenE {f : Rho → Option D} {ρ : Rho} {kvs : List (D × D)} (h : f ρ = some (.dict kvs)) : vLenE f ρ = some (.int (kvs.length : Nat)) := by
  unfold vLenE
  rw [h]; rfl
end
section
variable {w : List (List Int)} {st goal : List Int}
/-- who sits has a caller that may be called: so many calls at most -/
theorem dist_le (h : Web w) (hs : Ppl w.length st) (hg : goal.Sublist st) (hf : fitM w st goal = true) : distM w st goal ≤ (st.filter fun x => !decide (x ∈ goal)).length := by
  classical
  obtain ⟨f1, f2⟩ := fitM_iff.mp hf
  have hpick : ∀ x ∈ st.filter (fun x => !decide (x ∈ goal)), ∃ k, k ∈ fr w x ∧ x < k ∧ k ∈ mayM w st goal := fun x hx => by
    obtain ⟨a, b⟩ := List.mem_filter.mp hx
    obtain ⟨k, k1, k2, k3⟩ := f2 x a (by simpa using b)
    exact ⟨k, k1, k2, k3⟩
  let pick : Int → Int := fun x => if hx : x ∈ st.filter (fun x => !decide (x ∈ goal)) then Classical.choose (hpick x hx) else 0
  have hp : ∀ x ∈ st.filter (fun x => !decide (x ∈ goal)), pick x ∈ fr w x ∧ x < pick x ∧ pick x ∈ mayM w st goal := fun x hx => by
    have e : pick x = Classical.choose (hpick x hx) := dif_pos hx
    rw [e]
    exact Classical.choose_spec (hpick x hx)
  have hr : ((mayM w st goal).filter fun k => decide (k ∈ (st.filter fun x => !decide (x ∈ goal)).map pick)) ∈ tellM w st goal := by
    refine (mem_tellM h hs).mpr ⟨List.filter_sublist, pw_unique (pw_toldM hs.up) (hs.up.sublist hg) fun x => ?_⟩
    rw [mem_toldM]
    constructor
    · rintro ⟨x1, x2⟩
      apply Classical.byContradiction
      intro hn
      have hx : x ∈ st.filter (fun x => !decide (x ∈ goal)) := List.mem_filter.mpr ⟨x1, by simp [hn]⟩
      obtain ⟨a, b, c⟩ := hp x hx
      exact x2 (pick x) a b (List.mem_filter.mpr ⟨c, decide_eq_true (List.mem_map_of_mem hx)⟩) (may_sub.subset c)
    · intro hx
      refine ⟨hg.subset hx, fun k hk hlt hkr _ => ?_⟩
      obtain ⟨x0, x1⟩ := hs.inn x (hg.subset hx)
      exact (mem_mayM.mp (List.mem_filter.mp hkr).1).2 x (h.sym x k x0 x1 hk) hlt hx
  have hne := tell_ne h hs hg hf
  refine Nat.le_trans ((dist_spec hne).2 _ hr) ?_
  have := nodup_len (ks := (mayM w st goal).filter fun k => decide (k ∈ (st.filter fun x => !decide (x ∈ goal)).map pick)) (ls := (st.filter fun x => !decide (x ∈ goal)).map pick) ((pw_nodup (hs.up.sublist may_sub)).sublist List.filter_sublist) fun k hk => of_decide_eq_true (List.mem_filter.mp hk).2
  rwa [List.length_map] at this
theorem gone_len (hs : st.Pairwise (· < ·)) (hg : goal.Sublist st) : (st.filter fun x => !decide (x ∈ goal)).length + goal.length = st.length := by
  have e : (st.filter fun x => decide (x ∈ goal)) = goal := pw_unique (hs.sublist List.filter_sublist) (hs.sublist hg) fun x => by
    rw [List.mem_filter, decide_eq_true_eq]
    exact ⟨fun z => z.2, fun z => ⟨hg.subset z, z⟩⟩
  have : ∀ l : List Int, (l.filter fun x => !decide (x ∈ goal)).length + (l.filter fun x => decide (x ∈ goal)).length = l.length := fun l => by
    induction l with
    | nil => rfl
    | cons a l ih =>
      by_cases c : a ∈ goal
      · rw [List.filter_cons_of_neg (by simp [c]), List.filter_cons_of_pos (by simp [c]), List.length_cons, List.length_cons]; omega
      · rw [List.filter_cons_of_pos (by simp [c]), List.filter_cons_of_neg (by simp [c]), List.length_cons, List.length_cons]; omega
  have h2 := this st
  rw [e] at h2
  exact h2
/-- two sets from which goal can come: from both of them, too -/
theorem fit_union {a b : List Int} (ha : fitM w a goal = true) (hb : fitM w b goal = true) : fitM w (sortD (a ++ b)) goal = true := by
  obtain ⟨a1, a2⟩ := fitM_iff.mp ha
  obtain ⟨b1, b2⟩ := fitM_iff.mp hb
  refine fitM_iff.mpr ⟨fun x hx => mem_sortD.mpr (List.mem_append_left _ (a1 x hx)), fun x hx hn => ?_⟩
  rcases List.mem_append.mp (mem_sortD.mp hx) with hx | hx
  · obtain ⟨k, k1, k2, k3⟩ := a2 x hx hn
    obtain ⟨k4, k5⟩ := mem_mayM.mp k3
    exact ⟨k, k1, k2, mem_mayM.mpr ⟨mem_sortD.mpr (List.mem_append_left _ k4), k5⟩⟩
  · obtain ⟨k, k1, k2, k3⟩ := b2 x hx hn
    obtain ⟨k4, k5⟩ := mem_mayM.mp k3
    exact ⟨k, k1, k2, mem_mayM.mpr ⟨mem_sortD.mpr (List.mem_append_right _ k4), k5⟩⟩
end
end L2.P

set_option Elab.async false
set_option linter.all false
set_option maxRecDepth 100000
set_option maxHeartbeats 4000000
/-! PL47: who made whom sit: the story's triples; counts by person; the least of pairs. -/
namespace L2.P
open PySem PySem.Spec PyProof.Rows L2
theorem ix_intsL {cs : List Int} {i : Int} (h0 : 0 ≤ i) (h1 : i < cs.length) : dIx (.list (cs.map .int)) (.int i) = some (.int (cs.getD i.toNat 0)) := ix_ints h0 h1
/-! ### the least of pairs, in order -/
def LtE (a b : Int × Int) : Prop := a.1 < b.1 ∨ (a.1 = b.1 ∧ a.2 < b.2)
theorem lt_edge (a b : Int × Int) : PySem.W.dataLt (edgeD a) (edgeD b) = true ↔ LtE a b := by
  unfold edgeD LtE
  rw [PySem.W.dataLt_pair rfl rfl, encInt.1, encInt.1, PySem.W.dataLt_int, PySem.W.dataLt_int]
  by_cases h : a.1 = b.1
  · rw [if_pos (by simpa using h)]
    by_cases h2 : a.2 = b.2
    · rw [if_pos (by simpa using h2), h2]
      simp [h]
    · rw [if_neg (by simpa using h2)]
      simp [h]
  · rw [if_neg (by simpa using h)]
    simp [h]
theorem minD_edge : ∀ (es : List (Int × Int)) (e : Int × Int), ∃ m ∈ e :: es, PySem.W.minD (edgeD e) (es.map edgeD) = edgeD m ∧ ∀ y ∈ e :: es, ¬ LtE y m
  | [], e => ⟨e, List.mem_cons_self, rfl, fun y hy => by
    have : y = e := by simpa using hy
    subst this
    unfold LtE; omega⟩
  | f :: es, e => by
    have key : PySem.W.minD (edgeD e) ((f :: es).map edgeD) = PySem.W.minD (if PySem.W.dataLt (edgeD f) (edgeD e) = true then edgeD f else edgeD e) (es.map edgeD) := rfl
    by_cases h : PySem.W.dataLt (edgeD f) (edgeD e) = true
    · obtain ⟨m, hm, h1, h2⟩ := minD_edge es f
      refine ⟨m, List.mem_cons_of_mem _ hm, by rw [key, if_pos h]; exact h1, fun y hy => ?_⟩
      rcases List.mem_cons.mp hy with rfl | hy
      · intro z
        have a := (lt_edge _ _).mp h
        have b := h2 f List.mem_cons_self
        unfold LtE at *
        omega
      · exact h2 y hy
    · obtain ⟨m, hm, h1, h2⟩ := minD_edge es e
      have a : ¬ LtE f e := fun z => h ((lt_edge _ _).mpr z)
      refine ⟨m, ?_, by rw [key, if_neg h]; exact h1, fun y hy => ?_⟩
      · rcases List.mem_cons.mp hm with rfl | hm
        · exact List.mem_cons_self
        · exact List.mem_cons_of_mem _ (List.mem_cons_of_mem _ hm)
      · rcases List.mem_cons.mp hy with rfl | hy
        · exact h2 _ List.mem_cons_self
        · rcases List.mem_cons.mp hy with rfl | hy
          · have b := h2 e List.mem_cons_self
            unfold LtE at *
            omega
          · exact h2 y (List.mem_cons_of_mem _ hy)
theorem min_edges2 {es : List (Int × Int)} (h : es ≠ []) : ∃ e ∈ es, gMin [.list (es.map edgeD)] = some (edgeD e) ∧ ∀ y ∈ es, ¬ LtE y e := by
  cases es with
  | nil => exact absurd rfl h
  | cons e es =>
    obtain ⟨m, hm, h1, h2⟩ := minD_edge es e
    refine ⟨m, hm, ?_, h2⟩
    show (if okM _ = true then some (PySem.W.minD _ _) else none) = _
    have ok := okM_edges (e :: es)
    rw [List.map_cons] at ok
    rw [if_pos ok, h1]
/-! ### lists over all people -/
theorem upI_at (n i : Nat) : (upI n)[i]? = if i < n then some (i : Int) else none := by
  unfold upI
  rw [List.getElem?_map]
  by_cases h : i < n
  · rw [List.getElem?_range h, if_pos h]; rfl
  · rw [if_neg h, List.getElem?_eq_none (by simp; omega)]; rfl
theorem mapI_getD {n : Nat} (f : Int → Int) {p : Int} (h0 : 0 ≤ p) (h1 : p < n) : ((upI n).map f).getD p.toNat 0 = f p := by
  rw [List.getD_eq_getElem?_getD, List.getElem?_map, upI_at, if_pos (by omega)]
  show f ((p.toNat : Nat) : Int) = f p
  congr 1; omega
theorem mapI_set {n : Nat} (f : Int → Int) {p v : Int} (h0 : 0 ≤ p) (h1 : p < n) : ((upI n).map fun q => PyData.int (f q)).set p.toNat (.int v) = (upI n).map fun q => PyData.int (if q = p then v else f q) := by
  apply List.ext_getElem?
  intro i
  rw [List.getElem?_set, List.getElem?_map, List.getElem?_map, List.length_map, upI_length, upI_at]
  by_cases h : i < n
  · rw [if_pos h]
    by_cases e : p.toNat = i
    · rw [if_pos e, if_pos (by omega)]
      show some (PyData.int v) = some (PyData.int (if ((i : Nat) : Int) = p then v else _))
      rw [if_pos (by omega)]
    · rw [if_neg e]
      show some (PyData.int _) = some (PyData.int (if ((i : Nat) : Int) = p then v else _))
      rw [if_neg (by omega)]
  · rw [if_neg h]
    by_cases e : p.toNat = i
    · omega
    · rw [if_neg e]; rfl
theorem rep_zero (n : Nat) (h : n ≤ 1000) : repI [.int 0] (.int (n : Int)) = some ((upI n).map fun _ => PyData.int 0) := by
  simp only [repI]
  rw [if_pos ⟨by omega, by omega, by rw [sizeLine_eq]; simp; omega⟩, Int.toNat_natCast]
  congr 1
  have : ∀ m, (List.replicate m [PyData.int 0]).flatten = (upI m).map fun _ => PyData.int 0 := fun m => by
    induction m with
    | zero => rfl
    | succ m ih =>
      rw [upI_succ, List.map_append, ← ih, List.replicate_succ', List.flatten_append]
      simp
  exact this n
/-! ### triples -/
def t3D (e : Int × Int × Int) : D := .tuple [.int e.1, .int e.2.1, .int e.2.2]
theorem al_t3 {n : Nat} (es : List (Int × Int × Int)) (h : es.length ≤ 1000) : Al (n + 3) (.tuple (es.map t3D)) := .tup (by rw [List.length_map]; omega) fun x hx => by
  obtain ⟨e, _, rfl⟩ := List.mem_map.mp hx
  refine .tup (by simp) fun y hy => ?_
  simp only [List.mem_cons, List.not_mem_nil, or_false] at hy
  rcases hy with rfl | rfl | rfl <;> exact .int _
/-- how many p made sit -/
def cntM (es : List (Int × Int × Int)) (p : Int) : Nat := es.countP fun e => decide (e.2.1 = p)
theorem cntM_snoc (es : List (Int × Int × Int)) (e : Int × Int × Int) (p : Int) : cntM (es ++ [e]) p = cntM es p + if e.2.1 = p then 1 else 0 := by
  unfold cntM
  rw [List.countP_append, List.countP_cons, List.countP_nil]
  by_cases h : e.2.1 = p <;> simp [h]
abbrev cntL (n : Nat) (es : List (Int × Int × Int)) : List Int := (upI n).map fun p => ((cntM es p : Nat) : Int)
theorem cntL_len (n : Nat) (es : List (Int × Int × Int)) : (cntL n es).length = n := by rw [List.length_map, upI_length]
theorem cntL_get {n : Nat} (es : List (Int × Int × Int)) {p : Int} (h0 : 0 ≤ p) (h1 : p < n) : (cntL n es).getD p.toNat 0 = (cntM es p : Nat) := mapI_getD _ h0 h1
theorem cntL_at {n : Nat} (es : List (Int × Int × Int)) {p : Int} (h0 : 0 ≤ p) (h1 : p < n) : ((cntL n es).map PyData.int)[p.toNat]? = some (.int (cntM es p : Nat)) := by
  rw [List.map_map, List.getElem?_map, upI_at, if_pos (by omega)]
  show some (PyData.int ((cntM es ((p.toNat : Nat) : Int) : Nat) : Int)) = _
  congr 4; omega
theorem cntL_set {n : Nat} (es : List (Int × Int × Int)) {e : Int × Int × Int} (h0 : 0 ≤ e.2.1) (h1 : e.2.1 < n) : ((cntL n es).map PyData.int).set e.2.1.toNat (.int ((cntM es e.2.1 : Nat) + 1)) = (cntL n (es ++ [e])).map PyData.int := by
  rw [List.map_map, List.map_map]
  have := mapI_set (n := n) (fun q => ((cntM es q : Nat) : Int)) (v := ((cntM es e.2.1 : Nat) : Int) + 1) h0 h1
  refine Eq.trans this (List.map_congr_left fun q _ => ?_)
  show PyData.int _ = PyData.int ((cntM (es ++ [e]) q : Nat) : Int)
  rw [cntM_snoc]
  by_cases c : q = e.2.1
  · subst c; rw [if_pos rfl, if_pos rfl]; rfl
  · rw [if_neg c, if_neg (fun z => c z.symm)]; rfl
theorem cntL_nil (n : Nat) : (cntL n []).map PyData.int = (upI n).map fun _ => PyData.int 0 := by
  rw [List.map_map]
  exact List.map_congr_left fun _ _ => rfl
section
variable {w : List (List Int)} {st cs : List Int}
theorem stAt_sub (w : List (List Int)) (st cs : List Int) (i : Nat) : (stAt w st cs (i + 1)).Sublist (stAt w st cs i) := by
  cases e : cs[i]? with
  | none =>
    unfold stAt
    rw [List.take_add_one, e]; simp
  | some c => rw [stAt_succ e]; exact callM_sub _ _ _
theorem stAt_anti (w : List (List Int)) (st cs : List Int) {i j : Nat} (h : i ≤ j) : (stAt w st cs j).Sublist (stAt w st cs i) := by
  induction h with
  | refl => exact List.Sublist.refl _
  | step _ ih => exact (stAt_sub w st cs _).trans ih
/-- who sits at call i, and by whom -/
def madeAt (w : List (List Int)) (st cs : List Int) (i : Nat) : List (Int × Int × Int) := ((stAt w st cs i).filter fun x => !decide (x ∈ stAt w st cs (i + 1))).map fun x => ((i : Int), cs.getD i 0, x)
def madeS (w : List (List Int)) (st cs : List Int) (m : Nat) : List (Int × Int × Int) := (List.range m).flatMap (madeAt w st cs)
theorem madeS_succ (m : Nat) : madeS w st cs (m + 1) = madeS w st cs m ++ madeAt w st cs m := by
  unfold madeS
  rw [List.range_succ, List.flatMap_append]; simp
theorem mem_madeS {m : Nat} {e : Int × Int × Int} : e ∈ madeS w st cs m ↔ ∃ i < m, e.1 = (i : Int) ∧ e.2.1 = cs.getD i 0 ∧ e.2.2 ∈ stAt w st cs i ∧ e.2.2 ∉ stAt w st cs (i + 1) := by
  unfold madeS madeAt
  rw [List.mem_flatMap]
  constructor
  · rintro ⟨i, hi, he⟩
    obtain ⟨x, hx, rfl⟩ := List.mem_map.mp he
    obtain ⟨a, b⟩ := List.mem_filter.mp hx
    exact ⟨i, List.mem_range.mp hi, rfl, rfl, a, by simpa using b⟩
  · rintro ⟨i, hi, h1, h2, h3, h4⟩
    refine ⟨i, List.mem_range.mpr hi, List.mem_map.mpr ⟨e.2.2, List.mem_filter.mpr ⟨h3, by simpa using h4⟩, ?_⟩⟩
    rw [← h1, ← h2]
theorem made_mem {m : Nat} {x : Int} : x ∈ (madeS w st cs m).map (fun e => e.2.2) ↔ x ∈ st ∧ x ∉ stAt w st cs m := by
  induction m with
  | zero => simp [madeS, stAt]
  | succ m ih =>
    rw [madeS_succ, List.map_append, List.mem_append, ih]
    unfold madeAt
    rw [List.map_map]
    simp only [List.mem_map, List.mem_filter, Function.comp_apply]
    constructor
    · rintro (⟨a, b⟩ | ⟨y, ⟨a, b⟩, rfl⟩)
      · exact ⟨a, fun z => b ((stAt_sub w st cs m).subset z)⟩
      · exact ⟨(stAt_anti w st cs (Nat.zero_le m)).subset a, by simpa using b⟩
    · rintro ⟨a, b⟩
      by_cases c : x ∈ stAt w st cs m
      · exact .inr ⟨x, ⟨c, by simpa using b⟩, rfl⟩
      · exact .inl ⟨a, c⟩
theorem made_nodup (hs : st.Nodup) : ∀ m, ((madeS w st cs m).map fun e => e.2.2).Nodup
  | 0 => by simp [madeS]
  | m + 1 => by
    rw [madeS_succ, List.map_append]
    refine List.nodup_append.mpr ⟨made_nodup hs m, ?_, fun a ha b hb z => ?_⟩
    · unfold madeAt
      rw [List.map_map]
      have h1 : (stAt w st cs m).Nodup := hs.sublist (stAt_anti w st cs (Nat.zero_le m))
      have h2 := h1.sublist (List.filter_sublist (p := fun x => !decide (x ∈ stAt w st cs (m + 1))))
      have e : ((fun e : Int × Int × Int => e.2.2) ∘ fun x => ((m : Int), cs.getD m 0, x)) = id := rfl
      rw [e, List.map_id]
      exact h2
    · subst z
      unfold madeAt at hb
      rw [List.map_map] at hb
      obtain ⟨x, hx, rfl⟩ := List.mem_map.mp hb
      exact (made_mem.mp ha).2 (List.mem_filter.mp hx).1
theorem made_perm (hs : st.Nodup) (m : Nat) : ((madeS w st cs m).map fun e => e.2.2).Perm (st.filter fun x => !decide (x ∈ stAt w st cs m)) := (List.perm_ext_iff_of_nodup (made_nodup hs m) (hs.sublist List.filter_sublist)).mpr fun x => by
  rw [made_mem, List.mem_filter, Bool.not_eq_true', decide_eq_false_iff_not]
theorem made_len (hs : st.Nodup) (m : Nat) : (madeS w st cs m).length ≤ st.length := by
  have h1 := (made_perm (w := w) (cs := cs) hs m).length_eq
  have h2 := List.length_filter_le (fun x => !decide (x ∈ stAt w st cs m)) st
  rw [List.length_map] at h1
  omega
/-- at most one triple for each who sits -/
theorem made_uniq (hs : st.Nodup) {m : Nat} {e f : Int × Int × Int} (he : e ∈ madeS w st cs m) (hf : f ∈ madeS w st cs m) (h : e.2.2 = f.2.2) : e = f := by
  have key : ∀ (l : List (Int × Int × Int)), (l.map fun e => e.2.2).Nodup → e ∈ l → f ∈ l → e = f := fun l => by
    induction l with
    | nil => intro _ h; cases h
    | cons a l ih =>
      intro hn h1 h2
      rw [List.map_cons] at hn
      obtain ⟨n1, n2⟩ := List.nodup_cons.mp hn
      rcases List.mem_cons.mp h1 with q1 | q1
      · rcases List.mem_cons.mp h2 with q2 | q2
        · rw [q1, q2]
        · exact absurd (by rw [← q1, h]; exact List.mem_map_of_mem (f := fun e : Int × Int × Int => e.2.2) q2) n1
      · rcases List.mem_cons.mp h2 with q2 | q2
        · exact absurd (by rw [← q2, ← h]; exact List.mem_map_of_mem (f := fun e : Int × Int × Int => e.2.2) q1) n1
        · exact ih n2 q1 q2
  exact key _ (made_nodup hs m) he hf
theorem made_by (h : Web w) (hs : Ppl w.length st) (hr : Row w.length cs) {m : Nat} (hm : m ≤ cs.length) {e : Int × Int × Int} (he : e ∈ madeS w st cs m) : (0 ≤ e.1 ∧ e.1 < m) ∧ (0 ≤ e.2.1 ∧ e.2.1 < w.length) ∧ (0 ≤ e.2.2 ∧ e.2.2 < w.length) ∧ e.2.2 < e.2.1 ∧ e.2.2 ∈ fr w e.2.1 ∧ e.2.1 ∈ stAt w st cs e.1.toNat := by
  obtain ⟨i, hi, h1, h2, h3, h4⟩ := mem_madeS.mp he
  have hc : cs[i]? = some (cs.getD i 0) := by
    rw [List.getD_eq_getElem?_getD, List.getElem?_eq_getElem (by omega)]; rfl
  have hci := hr _ (List.mem_of_getElem? hc)
  rw [stAt_succ hc, ← h2] at h4
  rw [← h2] at hci
  have hst := (stAt_ppl (w := w) (cs := cs) (i := i) hs)
  have hx := hst.inn _ h3
  have hp : e.2.1 ∈ stAt w st cs i := Classical.byContradiction fun z => h4 (mem_callM.mpr ⟨h3, fun q => absurd q z⟩)
  have hlt : ¬ e.2.1 ≤ e.2.2 := fun z => h4 (mem_callM.mpr ⟨h3, fun _ => .inl z⟩)
  have hfr : e.2.2 ∈ fr w e.2.1 := Classical.byContradiction fun z => h4 (mem_callM.mpr ⟨h3, fun _ => .inr z⟩)
  refine ⟨⟨by omega, by omega⟩, hci, hx, by omega, hfr, ?_⟩
  rw [h1, Int.toNat_natCast]; exact hp
/-- who is made to sit by p -/
def satM (es : List (Int × Int × Int)) (st : List Int) (p : Int) : List Int := st.filter fun x => es.any fun e => decide (e.2.1 = p) && decide (e.2.2 = x)
theorem sat_perm (hs : st.Nodup) {m : Nat} {p : Int} : (((madeS w st cs m).filter fun e => decide (e.2.1 = p)).map fun e => e.2.2).Perm (satM (madeS w st cs m) st p) := by
  refine (List.perm_ext_iff_of_nodup ((made_nodup hs m).sublist (List.filter_sublist.map _)) (hs.sublist List.filter_sublist)).mpr fun x => ?_
  rw [List.mem_map, List.mem_filter, List.any_eq_true]
  constructor
  · rintro ⟨e, he, rfl⟩
    obtain ⟨a, b⟩ := List.mem_filter.mp he
    exact ⟨(made_mem.mp (List.mem_map_of_mem (f := fun e : Int × Int × Int => e.2.2) a)).1, e, a, by simp [of_decide_eq_true b]⟩
  · rintro ⟨_, e, he, q⟩
    rw [Bool.and_eq_true, decide_eq_true_eq, decide_eq_true_eq] at q
    exact ⟨e, List.mem_filter.mpr ⟨he, decide_eq_true q.1⟩, q.2⟩
theorem sat_len (hs : st.Nodup) {m : Nat} {p : Int} : (satM (madeS w st cs m) st p).length = cntM (madeS w st cs m) p := by
  rw [← (sat_perm hs).length_eq, List.length_map]
  unfold cntM
  rw [List.countP_eq_length_filter]
/-- who made p sit -/
def whoM (es : List (Int × Int × Int)) (p : Int) : Option Int := ((es.filter fun e => decide (e.2.2 = p)).map fun e => e.2.1).head?
def optD : Option Int → D
  | none => .none
  | some p => .int p
theorem who_some (hs : st.Nodup) {m : Nat} {e : Int × Int × Int} (he : e ∈ madeS w st cs m) : whoM (madeS w st cs m) e.2.2 = some e.2.1 := by
  unfold whoM
  have hm : e ∈ (madeS w st cs m).filter fun f => decide (f.2.2 = e.2.2) := List.mem_filter.mpr ⟨he, by simp⟩
  cases hc : (madeS w st cs m).filter fun f => decide (f.2.2 = e.2.2) with
  | nil => rw [hc] at hm; cases hm
  | cons f l =>
    have hf : f ∈ (madeS w st cs m).filter fun f => decide (f.2.2 = e.2.2) := by rw [hc]; exact List.mem_cons_self
    obtain ⟨a, b⟩ := List.mem_filter.mp hf
    rw [made_uniq hs a he (of_decide_eq_true b)]
    rfl
theorem who_none {es : List (Int × Int × Int)} {p : Int} : whoM es p = none ↔ p ∉ es.map fun e => e.2.2 := by
  unfold whoM
  rw [List.head?_eq_none_iff, List.map_eq_nil_iff, List.filter_eq_nil_iff, List.mem_map]
  constructor
  · rintro h ⟨e, he, rfl⟩
    exact h e he (by simp)
  · intro h e he q
    exact h ⟨e, he, of_decide_eq_true q⟩
theorem who_get (es : List (Int × Int × Int)) (p : Int) : getM (es.map fun e => (e.2.2, e.2.1)) p = whoM es p := by
  unfold getM whoM
  induction es with
  | nil => rfl
  | cons e es ih =>
    rw [List.map_cons, List.find?_cons, List.filter_cons]
    by_cases c : e.2.2 = p
    · simp [c]
    · simp only [c, decide_false, Bool.false_eq_true, if_false]
      exact ih
/-- who made somebody sit, and sits -/
def revM (es : List (Int × Int × Int)) (st : List Int) : List Int := st.filter fun x => (es.any fun e => decide (e.2.2 = x)) && es.any fun e => decide (e.2.1 = x)
theorem rev_perm (hs : st.Nodup) {m : Nat} : (((madeS w st cs m).map fun e => e.2.2).filter fun x => (madeS w st cs m).any fun e => decide (e.2.1 = x)).Perm (revM (madeS w st cs m) st) := by
  refine (List.perm_ext_iff_of_nodup ((made_nodup hs m).sublist List.filter_sublist) (hs.sublist List.filter_sublist)).mpr fun x => ?_
  rw [List.mem_filter, List.mem_filter, Bool.and_eq_true, made_mem]
  constructor
  · rintro ⟨a, b⟩
    refine ⟨a.1, ?_, b⟩
    obtain ⟨e, he, q⟩ := List.mem_map.mp (made_mem.mpr a)
    exact List.any_eq_true.mpr ⟨e, he, decide_eq_true q⟩
  · rintro ⟨a, b, c⟩
    obtain ⟨e, he, q⟩ := List.any_eq_true.mp b
    exact ⟨made_mem.mp (List.mem_map.mpr ⟨e, he, of_decide_eq_true q⟩), c⟩
theorem cnt_pos {es : List (Int × Int × Int)} {p : Int} : 0 < cntM es p ↔ (es.any fun e => decide (e.2.1 = p)) = true := by
  unfold cntM
  rw [List.countP_pos_iff, List.any_eq_true]
end
theorem rep_cnt {G : Rho → Option D} {ρ : Rho} {n : Nat} (hG : G ρ = some (.int (n : Int))) (h : n ≤ 1000) : nRep (aCons (gC (.int 0)) aNil) G ρ = some ((cntL n []).map PyData.int) := by
  have h0 : (aCons (gC (.int 0)) aNil) ρ = some [PyData.int 0] := rfl
  rw [cntL_nil, ← rep_zero n h]
  unfold nRep
  rw [hG, h0, Option.bind_some, Option.bind_some]
end L2.P

set_option Elab.async false
set_option linter.all false
set_option maxRecDepth 100000
set_option maxHeartbeats 4000000
/-! PL48: sums of counts; more of the story's triples. -/
namespace L2.P
open PySem PySem.Spec PyProof.Rows L2
theorem count_sum : ∀ (n : Nat) (ls : List Int), (∀ x ∈ ls, 0 ≤ x ∧ x < n) → ((upI n).map fun k => ((ls.count k : Nat) : Int)).sum = (ls.length : Int)
  | n, [], _ => by
    have : ((upI n).map fun k => (((List.count k ([] : List Int)) : Nat) : Int)) = (upI n).map fun _ => (0 : Int) := List.map_congr_left fun k _ => by simp
    rw [this]
    induction (upI n) with
    | nil => rfl
    | cons a l ih => rw [List.map_cons, List.sum_cons, ih]; rfl
  | n, x :: ls, h => by
    have ih := count_sum n ls fun y hy => h y (List.mem_cons_of_mem _ hy)
    obtain ⟨h0, h1⟩ := h x List.mem_cons_self
    have key : ∀ l : List Int, l.Nodup → (l.map fun k => (((x :: ls).count k : Nat) : Int)).sum = (l.map fun k => ((ls.count k : Nat) : Int)).sum + (if x ∈ l then 1 else 0) := fun l => by
      induction l with
      | nil => intro _; rfl
      | cons a l ihl =>
        intro hn
        obtain ⟨n1, n2⟩ := List.nodup_cons.mp hn
        rw [List.map_cons, List.map_cons, List.sum_cons, List.sum_cons, ihl n2, List.count_cons]
        by_cases c : x = a
        · subst c
          rw [if_neg n1, if_pos List.mem_cons_self]
          simp; omega
        · by_cases d : x ∈ l
          · rw [if_pos d, if_pos (List.mem_cons_of_mem _ d), if_neg (by simpa using c)]; omega
          · rw [if_neg d, if_neg (fun z => (List.mem_cons.mp z).elim c d), if_neg (by simpa using c)]; omega
    rw [key _ (pw_nodup (pw_upI n)), ih, if_pos (mem_upI.mpr ⟨h0, h1⟩), List.length_cons]
    omega
theorem cnt_sum {n : Nat} (es : List (Int × Int × Int)) (h : ∀ e ∈ es, 0 ≤ e.2.1 ∧ e.2.1 < n) : (cntL n es).sum = (es.length : Int) := by
  have := count_sum n (es.map fun e => e.2.1) fun x hx => by
    obtain ⟨e, he, rfl⟩ := List.mem_map.mp hx
    exact h e he
  rw [List.length_map] at this
  rw [← this]
  congr 1
  refine List.map_congr_left fun p _ => ?_
  show ((cntM es p : Nat) : Int) = _
  congr 1
  unfold cntM List.count
  rw [List.countP_map]
  refine List.countP_congr fun e _ => ?_
  show decide (e.2.1 = p) = true ↔ (e.2.1 == p) = true
  simp
section
variable {w : List (List Int)} {st cs : List Int}
theorem down_sum : ∀ m, ((upI m).map fun i => (((stAt w st cs i.toNat).filter fun k => !decide (k ∈ stAt w st cs (i.toNat + 1))).length : Int)).sum = ((madeS w st cs m).length : Int)
  | 0 => rfl
  | m + 1 => by
    rw [upI_succ, List.map_append, List.sum_append, down_sum m, madeS_succ, List.length_append]
    unfold madeAt
    rw [List.length_map]
    simp
theorem made_total (hs : st.Pairwise (· < ·)) (m : Nat) : (madeS w st cs m).length + (stAt w st cs m).length = st.length := by
  have h1 := (made_perm (w := w) (cs := cs) (pw_nodup hs) m).length_eq
  have h2 := gone_len (goal := stAt w st cs m) hs (stAt_anti w st cs (Nat.zero_le m))
  rw [List.length_map] at h1
  omega
theorem sortD_same {r : List Int} (h : r.Nodup) : (sortD r).length = r.length := ((List.perm_ext_iff_of_nodup (pw_nodup (pw_sortD r)) h).mpr fun k => mem_sortD).length_eq
/-- the calls that change something -/
theorem ats_eq (hs : st.Pairwise (· < ·)) (m : Nat) : sortD ((madeS w st cs m).map fun e => e.1) = (upI m).filter fun i => !decide (stAt w st cs i.toNat = stAt w st cs (i.toNat + 1)) := by
  refine pw_unique (pw_sortD _) ((pw_upI m).sublist List.filter_sublist) fun k => ?_
  rw [mem_sortD, List.mem_map, List.mem_filter, Bool.not_eq_true', decide_eq_false_iff_not]
  constructor
  · rintro ⟨e, he, rfl⟩
    obtain ⟨i, hi, h1, h2, h3, h4⟩ := mem_madeS.mp he
    refine ⟨mem_upI.mpr (by omega), fun z => h4 ?_⟩
    rw [h1, Int.toNat_natCast] at z
    rw [← z]; exact h3
  · rintro ⟨a, b⟩
    obtain ⟨k0, k1⟩ := mem_upI.mp a
    apply Classical.byContradiction
    intro hno
    refine b (pw_unique (hs.sublist (stAt_anti w st cs (Nat.zero_le _))) (hs.sublist (stAt_anti w st cs (Nat.zero_le _))) fun x => ⟨fun h1 => Classical.byContradiction fun h2 => ?_, fun h1 => (stAt_sub w st cs _).subset h1⟩)
    exact hno ⟨((k.toNat : Nat), cs.getD k.toNat 0, x), mem_madeS.mpr ⟨k.toNat, by omega, rfl, rfl, h1, h2⟩, by simp; omega⟩
/-- the one call p -/
theorem made_one (hs : st.Pairwise (· < ·)) {p : Int} : cntM (madeS w st [p] 1) p + (callM w st p).length = st.length := by
  have h1 := made_total (w := w) (cs := [p]) hs 1
  have h2 : cntM (madeS w st [p] 1) p = (madeS w st [p] 1).length := by
    unfold cntM
    rw [List.countP_eq_length]
    intro e he
    obtain ⟨i, hi, _, h3, _⟩ := mem_madeS.mp he
    have : i = 0 := by omega
    subst this
    exact decide_eq_true h3
  rw [h2]
  exact h1
/-- the first state without x is the one behind the call -/
theorem first_gone {m : Nat} {e : Int × Int × Int} (he : e ∈ madeS w st cs m) : (upI (m + 1)).find? (fun i => !decide (e.2.2 ∈ stAt w st cs i.toNat)) = some (e.1 + 1) := by
  obtain ⟨i, hi, h1, h2, h3, h4⟩ := mem_madeS.mp he
  have hsplit : upI (m + 1) = upI (i + 1) ++ (upI (m + 1)).drop (i + 1) := by
    have : upI (i + 1) = (upI (m + 1)).take (i + 1) := by
      unfold upI
      rw [← List.map_take, List.take_range, Nat.min_eq_left (by omega)]
    rw [this, List.take_append_drop]
  rw [hsplit, List.find?_append]
  have hn : (upI (i + 1)).find? (fun i => !decide (e.2.2 ∈ stAt w st cs i.toNat)) = none := by
    rw [List.find?_eq_none]
    intro k hk
    obtain ⟨k0, k1⟩ := mem_upI.mp hk
    have : e.2.2 ∈ stAt w st cs k.toNat := (stAt_anti w st cs (by omega)).subset h3
    simp [this]
  rw [hn, Option.none_or]
  have hd : (upI (m + 1)).drop (i + 1) = ((i + 1 : Nat) : Int) :: (upI (m + 1)).drop (i + 2) := by
    have hat := upI_at (m + 1) (i + 1)
    rw [if_pos (by omega)] at hat
    obtain ⟨hl, hg⟩ := List.getElem?_eq_some_iff.mp hat
    rw [List.drop_eq_getElem_cons hl, hg]
  rw [hd, List.find?_cons]
  have : (!decide (e.2.2 ∈ stAt w st cs (((i + 1 : Nat) : Int)).toNat)) = true := by
    rw [Int.toNat_natCast]; simp [h4]
  rw [this, h1]
  rfl
/-- peaks are never made to sit -/
theorem made_no_peak (h : Web w) (hs : Ppl w.length st) (hr : Row w.length cs) {m : Nat} (hm : m ≤ cs.length) {e : Int × Int × Int} (he : e ∈ madeS w st cs m) : e.2.2 ∉ peaksM w st := fun hx => by
  obtain ⟨_, q1, q2, q3, q4, q5⟩ := made_by h hs hr hm he
  exact (mem_peaksM.mp hx).2 e.2.1 (h.sym _ _ q1.1 q1.2 q4) q3 ((stAt_anti w st cs (Nat.zero_le _)).subset q5)
/-- who makes somebody sit is a mover -/
theorem made_mover (h : Web w) (hs : Ppl w.length st) (hr : Row w.length cs) {m : Nat} (hm : m ≤ cs.length) {e : Int × Int × Int} (he : e ∈ madeS w st cs m) : e.2.1 ∈ moversM w st := by
  obtain ⟨_, q1, q2, q3, q4, q5⟩ := made_by h hs hr hm he
  have h1 : e.2.2 ∈ st := (made_mem.mp (List.mem_map_of_mem (f := fun e : Int × Int × Int => e.2.2) he)).1
  unfold moversM has
  exact List.mem_filter.mpr ⟨(stAt_anti w st cs (Nat.zero_le _)).subset q5, List.any_eq_true.mpr ⟨e.2.2, q4, by simp [q3, h1]⟩⟩
end
end L2.P

set_option Elab.async false
set_option linter.all false
set_option maxRecDepth 100000
set_option maxHeartbeats 4000000
/-! PL49: web_by by hand. -/
namespace L2.P
open PySem PySem.Spec PyProof.Rows L2
def modA (rows : List (List Int)) (i : Nat) (j : Int) : List (List Int) := rows.modify i (· ++ [j])
def addA (rows : List (List Int)) (e : Int × Int) : List (List Int) := modA (modA rows e.1.toNat e.2) e.2.toNat e.1
/-- the lists stand -/
structure GridL (H0 H : Hp) (L : Addr) (ds : List Addr) (rows : List (List Int)) : Prop where
  lst : H L = some (.lst (ds.map V.ref))
  nd : ds.Nodup
  nL : L ∉ ds
  len : rows.length = ds.length
  row : ∀ (i : Nat) (a : Addr) (r : List Int), ds[i]? = some a → rows[i]? = some r → H a = some (.lst (r.map V.int))
  old : ∀ b o, H0 b = some o → H b = some o
  fre : ∀ a ∈ ds, H0 a = none
  freL : H0 L = none
theorem GridL.put {H0 H : Hp} {L : Addr} {ds : List Addr} {rows : List (List Int)} (G : GridL H0 H L ds rows) {i : Nat} {a : Addr} {r : List Int} (ha : ds[i]? = some a) (hr : rows[i]? = some r) (j : Int) :
    GridL H0 (upd H a (.lst (r.map V.int ++ [V.int j]))) L ds (modA rows i j) where
  lst := by
    have ne : L ≠ a := fun e => G.nL (e ▸ List.mem_of_getElem? ha)
    rw [upd_ne ne]; exact G.lst
  nd := G.nd
  nL := G.nL
  len := by unfold modA; rw [List.length_modify]; exact G.len
  row := fun k b r' hb hr' => by
    unfold modA at hr'
    rw [List.getElem?_modify] at hr'
    by_cases e : i = k
    · subst e
      rw [ha] at hb; cases hb
      rw [hr] at hr'
      simp at hr'
      subst hr'
      rw [upd_same, List.map_append]; rfl
    · simp only [if_neg e] at hr'
      have ne : b ≠ a := fun q => by
        subst q
        exact e ((Grid.put.nodup_ix_addr G.nd ha hb))
      rw [upd_ne ne]
      exact G.row k b r' hb (by simpa using hr')
  old := fun b o e => by
    have ne : b ≠ a := fun q => by
      subst q
      rw [G.fre b (List.mem_of_getElem? ha)] at e; cases e
    rw [upd_ne ne]; exact G.old b o e
  fre := G.fre
  freL := G.freL
def tWBy1 : TE := tLc (iRng1 (tCons (tVar 0) tNil)) (gName 5) tYes (tLst tNil) [5]
def tWBy2 (K : Fg) : TS := tFor (iList K (tVar 1)) (L2.gTup K 2 (gCons (gName 3) (gCons (gName 4) gNil))) (tSeq (tDrop (tBM K "list" rAppend (tOp (rIxL K) (tVar 2) (tVar 3)) (tCons (tVar 4) tNil))) (tDrop (tBM K "list" rAppend (tOp (rIxL K) (tVar 2) (tVar 4)) (tCons (tVar 3) tNil))))
def tWBy3 (w : World) (K : Fg) : TE := tCB (rTupOf K) (tCons (tLc (iList K (tVar 2)) (gName 6) tYes (tCB (rTupOf K) (tCons (tCB (rSortedSet w) (tCons (tCB (rSetL w K) (tCons (tVar 6) tNil)) tNil)) tNil)) [6]) tNil)
def tWBy (w : World) (K : Fg) : TS := tSeq (tAsg tWBy1 (gName 2)) (tSeq (tWBy2 K) (tRet (tWBy3 w K)))
theorem wby1_ok {H : Hp} {n : Nat} {c : V} {Q : VK} (hn : n ≤ 1000) (q : ∀ L ds H', GridL H H' L ds (List.replicate n []) → Q (.ref L) H') : tWBy1 [some (.int (n : Int)), some c, none, none, none, none, none] H Q := by
  refine ⟨_, rfl, (n : Int), rfl, by omega, by omega, fun D hD => ?_⟩
  refine lc_range (lo := 0) (n := (n : Int).toNat) (fun i H' => ∃ ds : List Addr, ds.length = i ∧ GridL H H' D ds (List.replicate i [])) ⟨[], rfl, ?_⟩ (fun i H' hi ⟨ds, hl, G⟩ => ⟨rfl, by rw [sizeLine_eq]; simp, fun p hp => ⟨ds.map V.ref, ?_, ?_, ds ++ [p], ?_, ?_⟩⟩) fun H' ⟨ds, hl, G⟩ => ?_
  · refine ⟨upd_same, List.nodup_nil, by simp, rfl, fun i a r h => by simp at h, fun b o e => ?_, fun a h => by simp at h, hD⟩
    rw [upd_ne (ne_of_none e hD)]; exact e
  · rw [upd_ne (ne_of_none G.lst hp)]; exact G.lst
  · rw [List.length_map, hl, sizeLine_eq]; omega
  · rw [List.length_append, hl]; rfl
  · have neD : D ≠ p := ne_of_none G.lst hp
    have pnd : p ∉ ds := fun hm => by
      obtain ⟨k, hk⟩ := List.getElem?_of_mem hm
      have hkl : k < (List.replicate i ([] : List Int)).length := by
        rw [List.length_replicate, ← hl]; exact (List.getElem?_eq_some_iff.mp hk).1
      have := G.row k p [] hk (by rw [List.getElem?_replicate]; rw [List.length_replicate] at hkl; rw [if_pos hkl])
      rw [hp] at this; cases this
    refine ⟨by rw [upd_same, List.map_append]; rfl, List.nodup_append.mpr ⟨G.nd, by simp, fun a ha b hb e => pnd (by simp at hb; subst hb; subst e; exact ha)⟩, ?_, by simp [hl], fun k a r hk hr => ?_, fun b o e => ?_, fun a ha => ?_, G.freL⟩
    · intro hm
      rcases List.mem_append.mp hm with hm | hm
      · exact G.nL hm
      · simp at hm; exact neD hm
    · rw [List.getElem?_replicate] at hr
      split at hr
      · cases hr
        rw [List.getElem?_append] at hk
        split at hk
        · rename_i hkl
          have ne1 : a ≠ D := fun e => G.nL (e ▸ List.mem_of_getElem? hk)
          have ne2 : a ≠ p := fun e => pnd (e ▸ List.mem_of_getElem? hk)
          rw [upd_ne ne1, upd_ne ne2]
          exact G.row k a [] hk (by rw [List.getElem?_replicate, if_pos (by omega)])
        · have ea : a = p := by
            have := List.mem_of_getElem? hk
            simpa using this
          subst ea
          rw [upd_ne (Ne.symm neD), upd_same]; rfl
      · cases hr
    · have h1 := G.old b o e
      rw [upd_ne (fun z => by subst z; rw [G.freL] at e; cases e), upd_ne (ne_of_none h1 hp)]; exact h1
    · rcases List.mem_append.mp ha with ha | ha
      · exact G.fre a ha
      · simp at ha
        subst ha
        cases z : H a with
        | none => rfl
        | some o => rw [G.old a o z] at hp; cases hp
  · rw [Int.toNat_natCast] at hl G
    exact q D ds H' G
theorem addA_len (rows : List (List Int)) (e : Int × Int) : (addA rows e).length = rows.length := by unfold addA modA; rw [List.length_modify, List.length_modify]
theorem modA_all {P : List Int → Prop} {rows : List (List Int)} {k : Nat} {j : Int} (h : ∀ r ∈ rows, P r) (hp : ∀ r, P r → P (r ++ [j])) : ∀ r ∈ modA rows k j, P r := fun r hr => by
  unfold modA at hr
  obtain ⟨m, hm⟩ := List.getElem?_of_mem hr
  rw [List.getElem?_modify] at hm
  obtain ⟨r0, hr0, rfl⟩ := Option.map_eq_some_iff.mp hm
  have := h r0 (List.mem_of_getElem? hr0)
  split
  · exact hp _ this
  · exact this
theorem wby2_ok {K : Fg} {H H1 : Hp} {n : Nat} {cs : Addr} {xs : List V} {es : List (Int × Int)} {L : Addr} {ds : List Addr} {rows : List (List Int)} {a : V} {En : Ends} (hz : es.length ≤ 400) (hl : rows.length = n) (hrl : ∀ r ∈ rows, r.length = 0)
    (hS : SqL K H cs xs) (hx : DpAll K H xs (es.map fun e => .tuple [.int e.1, .int e.2])) (he : EdgesOk n es) (G : GridL H H1 L ds rows)
    (q : ∀ (y3 y4 : Option V) H', GridL H H' L ds (es.foldl addA rows) → (es.foldl addA rows).length = n → (∀ r ∈ es.foldl addA rows, r.length ≤ 2 * es.length ∧ ∀ k ∈ r, 0 ≤ k ∧ k < n) → En.nx [some a, some (.ref cs), some (.ref L), y3, y4, none, none] H') : tWBy2 K En [some a, some (.ref cs), some (.ref L), none, none, none, none] H1 := by
  refine ⟨_, rfl, cs, rfl, ⟨xs, sqL_same G.old hS⟩, ?_⟩
  refine for_list (xs := xs) (fun i σ H' => ∃ y3 y4, σ = [some a, some (.ref cs), some (.ref L), y3, y4, none, none] ∧ ∃ rs : List (List Int), rs = (es.take i).foldl addA rows ∧ rs.length = n ∧ (∀ r ∈ rs, r.length ≤ 2 * i ∧ ∀ k ∈ r, 0 ≤ k ∧ k < n) ∧ GridL H H' L ds rs)
    ⟨none, none, rfl, rows, rfl, hl, (fun r hr => by
      have := hrl r hr
      have e : r = [] := List.length_eq_zero_iff.mp this
      subst e
      exact ⟨Nat.zero_le _, fun k hk => by cases hk⟩), G⟩ (fun i σ H' _ ⟨_, _, _, rs, _, _, _, G'⟩ => sqL_same G'.old hS) (fun i x σ H' hxi ⟨y3, y4, eσ, rs, ers, hlr, hzr, G'⟩ => ?_) fun σ H' ⟨y3, y4, eσ, rs, ers, hlr, hzr, G'⟩ => ?_
  · obtain ⟨p, hp, dp⟩ := hx.getV hxi
    rw [List.getElem?_map] at hp
    obtain ⟨e, hei, rfl⟩ := Option.map_eq_some_iff.mp hp
    obtain ⟨t, ys, rfl, st, ry⟩ := Dp.inv_tup dp
    obtain ⟨v1, v2, rfl, d1, d2⟩ := dp2 ry
    obtain rfl := Dp.inv_int d1
    obtain rfl := Dp.inv_int d2
    obtain ⟨e1, e2, e3, e4⟩ := he e (List.mem_of_getElem? hei)
    subst eσ
    refine ⟨t, _, rfl, sqT_same G'.old st, rfl, _, _, rfl, _, _, rfl, rfl, ?_⟩
    have hld := G'.len
    have at_ : ∀ (k : Int), 0 ≤ k → k < n → ∃ b, ds[k.toNat]? = some b ∧ atI (ds.map V.ref) k = some (.ref b) := fun k h1 h2 => by
      have hk : k.toNat < ds.length := by omega
      refine ⟨ds[k.toNat], List.getElem?_eq_getElem hk, ?_⟩
      have ek : k = (k.toNat : Int) := by omega
      have := atI_nat (xs := ds.map V.ref) (j := k.toNat) (v := .ref ds[k.toNat]) (by rw [List.getElem?_map]; simp [hk])
      rw [← ek] at this
      exact this
    have hil : i < es.length := (List.getElem?_eq_some_iff.mp hei).1
    -- found[one].append(other)
    obtain ⟨b1, hb1, at1⟩ := at_ e.1 e1 e2
    have hr1 : e.1.toNat < rs.length := by omega
    have g1 := G'.put hb1 (List.getElem?_eq_getElem hr1) e.2
    have row1 := G'.row _ _ _ hb1 (List.getElem?_eq_getElem hr1)
    have z1 := (hzr _ (List.getElem_mem hr1)).1
    refine ⟨_, rfl, _, rfl, L, ds.map V.ref, e.1, _, rfl, rfl, .inl (.inl G'.lst), at1, .inl ⟨rfl, _, .inl (.inl row1)⟩, ?_⟩
    refine ⟨_, rfl, b1, _, _, rfl, rfl, row1, by rw [List.length_map, sizeLine_eq]; omega, ?_⟩
    have hl1 : (modA rs e.1.toNat e.2).length = n := by unfold modA; rw [List.length_modify]; exact hlr
    have hm1 := modA_all (P := fun r => r.length ≤ 2 * i + 1 ∧ ∀ k ∈ r, 0 ≤ k ∧ k < n) (k := e.1.toNat) (j := e.2) (rows := rs) (fun r hr => ⟨by have := (hzr r hr).1; omega, (hzr r hr).2⟩)
    -- found[other].append(one)
    obtain ⟨b2, hb2, at2⟩ := at_ e.2 e3 e4
    have hr2 : e.2.toNat < (modA rs e.1.toNat e.2).length := by omega
    have row2 := g1.row _ _ _ hb2 (List.getElem?_eq_getElem hr2)
    have all1 : ∀ r ∈ modA rs e.1.toNat e.2, r.length ≤ 2 * i + 1 ∧ ∀ k ∈ r, 0 ≤ k ∧ k < n := fun r hr => by
      unfold modA at hr
      obtain ⟨m, hm⟩ := List.getElem?_of_mem hr
      rw [List.getElem?_modify] at hm
      obtain ⟨r0, hr0, rfl⟩ := Option.map_eq_some_iff.mp hm
      obtain ⟨a1, a2⟩ := hzr r0 (List.mem_of_getElem? hr0)
      split
      · refine ⟨by rw [List.length_append, List.length_singleton]; omega, fun k hk => ?_⟩
        rcases List.mem_append.mp hk with hk | hk
        · exact a2 k hk
        · rw [List.mem_singleton.mp hk]; exact ⟨e3, e4⟩
      · exact ⟨by omega, a2⟩
    have all2 : ∀ r ∈ addA rs e, r.length ≤ 2 * (i + 1) ∧ ∀ k ∈ r, 0 ≤ k ∧ k < n := fun r hr => by
      unfold addA modA at hr
      obtain ⟨m, hm⟩ := List.getElem?_of_mem hr
      rw [List.getElem?_modify] at hm
      obtain ⟨r0, hr0, rfl⟩ := Option.map_eq_some_iff.mp hm
      obtain ⟨a1, a2⟩ := all1 r0 (List.mem_of_getElem? hr0)
      split
      · refine ⟨by rw [List.length_append, List.length_singleton]; omega, fun k hk => ?_⟩
        rcases List.mem_append.mp hk with hk | hk
        · exact a2 k hk
        · rw [List.mem_singleton.mp hk]; exact ⟨e1, e2⟩
      · exact ⟨by omega, a2⟩
    have z2 := (all1 _ (List.getElem_mem hr2)).1
    refine ⟨_, rfl, _, rfl, L, ds.map V.ref, e.2, _, rfl, rfl, .inl (.inl g1.lst), at2, .inl ⟨rfl, _, .inl (.inl row2)⟩, ?_⟩
    refine ⟨_, rfl, b2, _, _, rfl, rfl, row2, by rw [List.length_map, sizeLine_eq]; omega, ?_⟩
    refine ⟨_, _, rfl, addA rs e, ?_, by rw [addA_len]; exact hlr, all2, g1.put hb2 (List.getElem?_eq_getElem hr2) e.1⟩
    rw [List.take_add_one, hei, ers]
    simp [List.foldl_append]
  · subst eσ
    have hxl : xs.length = es.length := by rw [hx.length, List.length_map]
    rw [hxl, List.take_length] at ers
    rw [hxl] at hzr
    subst ers
    exact q y3 y4 H' G' hlr hzr
theorem wby3_ok {w : World} {K : Fg} {H0 H1 : Hp} {L : Addr} {ds : List Addr} {rows : List (List Int)} {a c : V} {y3 y4 : Option V} {Q : VK} (hn : rows.length ≤ 1000) (hsm : ∀ r ∈ rows, r.length ≤ 1000 ∧ (sortD r).length < 64) (G : GridL H0 H1 L ds rows)
    (q : ∀ (l : Addr) (ts : List Addr) (H' : Hp), Same H1 H' → H0 l = none → H' l = some (.tup (ts.map V.ref)) → ts.length = rows.length → (∀ (k : Nat) (t : Addr), ts[k]? = some t → H0 t = none ∧ ∃ r, rows[k]? = some r ∧ H' t = some (.tup ((sortD r).map V.int))) → Q (.ref l) H') :
    tWBy3 w K [some a, some c, some (.ref L), y3, y4, none, none] H1 Q := by
  refine ⟨.ref L, rfl, L, rfl, ⟨_, .inl (.inl G.lst)⟩, fun D hD => ?_⟩
  have none0 : ∀ {H' : Hp} {p : Addr}, Same H1 H' → H' p = none → H0 p = none := fun {H' p} s e => by
    cases z : H0 p with
    | none => rfl
    | some o => rw [s p o (G.old p o z)] at e; cases e
  refine lc_list (K := K) (a := L) (xs := ds.map V.ref) (fun i H' => Same H1 H' ∧ ∃ ts : List Addr, ts.length = i ∧ H' D = some (.lst (ts.map V.ref)) ∧ ∀ (k : Nat) (t : Addr), ts[k]? = some t → H0 t = none ∧ ∃ r, rows[k]? = some r ∧ H' t = some (.tup ((sortD r).map V.int)))
    ⟨same_upd hD, [], rfl, upd_same, fun k t h => by simp at h⟩ (fun i H' _ ⟨s, _⟩ => .inl (.inl (s _ _ G.lst))) (fun i x H' hx ⟨s, ts, hl, hDl, hts⟩ => ?_) fun H' ⟨s, ts, hl, hDl, hts⟩ => ?_
  · refine ⟨rfl, ?_⟩
    rw [List.getElem?_map] at hx
    obtain ⟨b, hb, rfl⟩ := Option.map_eq_some_iff.mp hx
    have hi : i < rows.length := by rw [G.len]; exact (List.getElem?_eq_some_iff.mp hb).1
    have hri := List.getElem?_eq_getElem hi
    generalize rows[i] = r at hri
    obtain ⟨hrl, hr64⟩ := hsm r (List.mem_of_getElem? hri)
    refine ⟨.ref b, rfl, b, r, rfl, .inl (.inl (s _ _ (G.row i b r hb hri))), hrl, fun p hp => ?_⟩
    refine ⟨p, _, _, rfl, upd_same, hr64, fun ns w' hpw hmem hlen hw => ?_⟩
    have en : ns = sortD r := pw_unique hpw (pw_sortD r) fun k => by rw [hmem k, mem_sortD]; simp
    subst en
    refine ⟨w', _, rfl, .inl ⟨.inl (.inl upd_same), fun t ht => ?_⟩⟩
    have s1 := same_upd (o := SetO w p (fun j => decide (j ∈ r)) (sortD r).length) hp
    have s2 := same_upd (o := .lst ((sortD r).map V.int)) hw
    have s3 := same_upd (o := .tup ((sortD r).map V.int)) ht
    have s13 := (s1.trans s2).trans s3
    have t0 : H' t = none := by
      cases z : H' t with
      | none => rfl
      | some o => rw [s2 _ _ (s1 _ _ z)] at ht; cases ht
    have tD : t ≠ D := fun e => by subst e; rw [hDl] at t0; cases t0
    refine ⟨ts.map V.ref, s13 _ _ hDl, ?_, fun b' o e => ?_, ts ++ [t], by simp [hl], ?_, fun k u hu => ?_⟩
    · rw [List.length_map, hl, sizeLine_eq]; omega
    · have neD : b' ≠ D := fun z => by subst z; rw [hD] at e; cases e
      rw [upd_ne neD]; exact s13 _ _ (s _ _ e)
    · rw [upd_same, List.map_append]; rfl
    · rw [List.getElem?_append] at hu
      split at hu
      · obtain ⟨g1, r', g2, g3⟩ := hts k u hu
        have uD : u ≠ D := fun e => by subst e; rw [hDl] at g3; cases g3
        exact ⟨g1, r', g2, by rw [upd_ne uD]; exact s13 _ _ g3⟩
      · rename_i hk
        have eu : u = t := by
          have := List.mem_of_getElem? hu
          simpa using this
        have ek : k = i := by
          have := (List.getElem?_eq_some_iff.mp hu).1
          simp at this; omega
        subst eu; subst ek
        exact ⟨none0 s t0, r, hri, by rw [upd_ne tD, upd_same]⟩
  · rw [List.length_map] at hl
    refine ⟨D, _, rfl, .inl ⟨.inl (.inl hDl), fun l hlf => ?_⟩⟩
    have s1 := same_upd (o := .tup (ts.map V.ref)) hlf
    exact q l ts _ (s.trans s1) (none0 s hlf) upd_same (by rw [hl, G.len]) fun k t hk => by
      obtain ⟨g1, r, g2, g3⟩ := hts k t hk
      exact ⟨g1, r, g2, s1 _ _ g3⟩
/-! the same rows, whichever way they are written -/
theorem sortD_congr {r s : List Int} (h : ∀ k, k ∈ r ↔ k ∈ s) : sortD r = sortD s := pw_unique (pw_sortD r) (pw_sortD s) fun k => by rw [mem_sortD, mem_sortD, h]
theorem rows_same : ∀ (es : List (Int × Int)) (rows qs : List (List Int)), rows.map sortD = qs.map sortD → (es.foldl addA rows).map sortD = (es.foldl addE qs).map sortD
  | [], _, _, h => h
  | e :: es, rows, qs, h => by
    have step : ∀ (rows qs : List (List Int)) (i : Nat) (j : Int), rows.map sortD = qs.map sortD → (modA rows i j).map sortD = (modR qs i j).map sortD := fun rows qs i j h => by
      apply List.ext_getElem?
      intro k
      have hk := congrArg (fun l => l[k]?) h
      simp only [List.getElem?_map] at hk
      unfold modA modR
      rw [List.getElem?_map, List.getElem?_map, List.getElem?_modify, List.getElem?_modify]
      cases e1 : rows[k]? with
      | none =>
        rw [e1] at hk
        cases e2 : qs[k]? with
        | none => rfl
        | some s => rw [e2] at hk; cases hk
      | some r =>
        rw [e1] at hk
        cases e2 : qs[k]? with
        | none => rw [e2] at hk; cases hk
        | some s =>
          rw [e2] at hk
          have hrs : sortD r = sortD s := Option.some.inj hk
          have hm : ∀ z, z ∈ r ↔ z ∈ s := fun z => by rw [← mem_sortD (ns := r), hrs, mem_sortD]
          show some (sortD (if i = k then r ++ [j] else r)) = some (sortD (if i = k then insF j s else s))
          by_cases c : i = k
          · rw [if_pos c, if_pos c]
            congr 1
            refine sortD_congr fun z => ?_
            show z ∈ r ++ [j] ↔ z ∈ insF j s
            rw [mem_insF, List.mem_append, List.mem_singleton, hm]
            exact or_comm
          · rw [if_neg c, if_neg c]
            exact congrArg some hrs
    rw [List.foldl_cons, List.foldl_cons]
    exact rows_same es _ _ (step _ _ _ _ (step _ _ _ _ h))
def edgesD : List D → Option (List (Int × Int))
  | [] => some []
  | .tuple [.int a, .int b] :: xs => (edgesD xs).map ((a, b) :: ·)
  | _ => none
theorem edgesD_map : ∀ es : List (Int × Int), edgesD (es.map edgeD) = some es
  | [] => rfl
  | e :: es => by
    show (edgesD (es.map edgeD)).map _ = _
    rw [edgesD_map es]; rfl
theorem edgesD_some : ∀ {xs : List D} {es : List (Int × Int)}, edgesD xs = some es → xs = es.map edgeD
  | [], es, h => by cases h; rfl
  | x :: xs, es, h => by
    unfold edgesD at h
    split at h
    · rename_i z; cases z
    · rename_i a b ys z
      cases z
      obtain ⟨es', h', rfl⟩ := Option.map_eq_some_iff.mp h
      rw [List.map_cons, ← edgesD_some h']; rfl
    · cases h
/-- web_by -/
def gWebBy : GA
  | [.int z, .list xs] => (edgesD xs).bind fun es => if (0 ≤ z ∧ z ≤ 60) ∧ es.length ≤ 400 ∧ (es.all fun e => decide ((0 ≤ e.1 ∧ e.1 < z) ∧ 0 ≤ e.2 ∧ e.2 < z)) = true then some (webD ((byRows z.toNat es).map sortD)) else none
  | _ => none
theorem e_gWebBy {n : Nat} {es : List (Int × Int)} (h1 : n ≤ 60) (h2 : es.length ≤ 400) (h3 : EdgesOk n es) : gWebBy [.int (n : Int), .list (es.map edgeD)] = some (webD ((byRows n es).map sortD)) := by
  show (edgesD (es.map edgeD)).bind _ = _
  rw [edgesD_map, Option.bind_some, if_pos ⟨by omega, h2, List.all_eq_true.mpr fun e he => by
    obtain ⟨a, b, c, d⟩ := h3 e he
    exact decide_eq_true ⟨⟨a, b⟩, c, d⟩⟩, Int.toNat_natCast]
theorem webby_sp {w : World} {K : Fg} {vs : List V} {H : Hp} {Q : VK} {E : XK} {a b c d e f g : Str} (h : spG K 2 gWebBy vs H Q E) : tWBy w K { nx := fun _ H' => Q .non H', rt := Q } (start [a, b, c, d, e, f, g] vs) H := by
  obtain ⟨hl, F, ps, sF, dd, z0, hz0, k⟩ := h
  unfold gWebBy at hz0
  split at hz0
  · rename_i z xs0
    obtain ⟨es, hes, hz1⟩ := Option.bind_eq_some_iff.mp hz0
    split at hz1
    · rename_i hc
      cases hz1
      obtain ⟨⟨c0, c1⟩, c2, c3⟩ := hc
      have hxe := edgesD_some hes
      subst hxe
      have hn : z = ((z.toNat : Nat) : Int) := by omega
      generalize z.toNat = n at hn k
      subst hn
      have h3 : EdgesOk n es := fun e he => by
        have := of_decide_eq_true (List.all_eq_true.mp c3 e he)
        exact ⟨this.1.1, this.1.2, this.2.1, this.2.2⟩
      obtain ⟨v, u, rfl, d1, d2⟩ := dp2 dd
      obtain rfl := Dp.inv_int d1
      obtain ⟨cs, xs, rfl, sL, r⟩ := Dp.inv_lst d2
      have e0 : start [a, b, c, d, e, f, g] [V.int (n : Int), V.ref cs] = [some (.int (n : Int)), some (.ref cs), none, none, none, none, none] := rfl
      rw [e0]
      unfold tWBy tSeq tAsg
      refine wby1_ok (by omega) fun L ds H1 G => ?_
      refine wby2_ok (rows := List.replicate n []) c2 List.length_replicate (fun r hr => by rw [List.eq_of_mem_replicate hr]; rfl) (sqL_same sF sL) (r.same sF) h3 G fun y3 y4 H2 G2 hlen hall => ?_
      have hval : ((es.foldl addA (List.replicate n [])).map sortD) = (byRows n es).map sortD := rows_same es _ _ rfl
      refine wby3_ok (by rw [hlen]; omega) (fun r hr => ⟨by have := (hall r hr).1; omega, ?_⟩) G2 fun l ts H3 s hl0 hlt hts htt => ?_
      · have := nodup_len (pw_nodup (pw_sortD r)) (ls := upI n) fun k hk => mem_upI.mpr ((hall r hr).2 k (mem_sortD.mp hk))
        rw [upI_length] at this
        omega
      have sH : Same H H3 := fun b o z => s _ _ (G2.old b o z)
      refine k (joinH F H H3) H3 (.ref l) joinH_old sH (joinH_sub sF sH) (fun b h1 h2 => .inl (joinH_fre b h1 h2)) ?_
      rw [← hval]
      refine .tup (by rw [joinH_new sF hl0]; exact hlt) ?_
      have items : ∀ (ts : List Addr) (rows : List (List Int)), ts.length = rows.length → (∀ (k : Nat) (t : Addr), ts[k]? = some t → H t = none ∧ ∃ r, rows[k]? = some r ∧ H3 t = some (.tup ((sortD r).map V.int))) →
          DpAll K (joinH F H H3) (ts.map V.ref) ((rows.map sortD).map fun r => .tuple (r.map .int)) := fun ts => by
        induction ts with
        | nil =>
          intro rows hl _
          cases rows with
          | nil => exact .nil
          | cons _ _ => cases hl
        | cons t ts ih =>
          intro rows hl h
          cases rows with
          | nil => cases hl
          | cons r rows =>
            obtain ⟨g1, r', g2, g3⟩ := h 0 t rfl
            obtain rfl : r = r' := by simpa using g2
            exact .cons (.tup (by rw [joinH_new sF g1]; exact g3) (dpAll_of_ints _)) (ih rows (by simpa using hl) fun k u hu => h (k + 1) u (by simpa using hu))
      exact items ts _ hts htt
    · cases hz1
  · cases hz0
end L2.P

set_option Elab.async false
set_option linter.all false
set_option maxRecDepth 100000
set_option maxHeartbeats 4000000
/-! PL50: max, min of two; global tuples. -/
namespace L2.P
open PySem PySem.Spec PyProof.Rows L2
/-! ### a tuple that the module binds -/
/-- the values of constants -/
def cV : D → Option V
  | .int i => some (.int i)
  | .str z => some (.str z)
  | _ => none
def cVs : List D → Option (List V)
  | [] => some []
  | d :: ds => (cV d).bind fun v => (cVs ds).map (v :: ·)
def cIs : D → Value → Bool
  | .int i, .int j _ => decide (i = j)
  | .str z, .str y _ => decide (z = y)
  | _, _ => false
def cAre : List D → List Value → Bool
  | [], [] => true
  | d :: ds, v :: vs => cIs d v && cAre ds vs
  | _, _ => false
/-- K holds the tuple ds at a -/
def tupIn (K : Fg) (a : Addr) (ds : List D) : Bool := match K.lookup a with
  | some ⟨.type c, _, .seq its _, _⟩ => decide (c = "tuple") && (decide (its.size ≤ sizeLine) && cAre ds its.toList)
  | _ => false
theorem cIs_ok {d : D} {v : Value} (h : cIs d v = true) : ∃ x, cV d = some x ∧ RelV x v ∧ ∀ K F, Dp K F x d := by
  unfold cIs at h
  split at h
  · have := of_decide_eq_true h
    subst this
    exact ⟨_, rfl, ⟨_, rfl⟩, fun _ _ => .int _⟩
  · have := of_decide_eq_true h
    subst this
    exact ⟨_, rfl, ⟨_, rfl⟩, fun _ _ => .str _⟩
  · cases h
theorem cAre_ok : ∀ {ds : List D} {vs : List Value}, cAre ds vs = true → ∃ xs, Vals xs vs ∧ ∀ K F, DpAll K F xs ds
  | [], [], _ => ⟨[], .nil, fun _ _ => .nil⟩
  | d :: ds, v :: vs, h => by
    obtain ⟨h1, h2⟩ := Bool.and_eq_true_iff.mp (show (cIs d v && cAre ds vs) = true from h)
    obtain ⟨x, _, r, dx⟩ := cIs_ok h1
    obtain ⟨xs, rs, dxs⟩ := cAre_ok h2
    exact ⟨x :: xs, .cons r rs, fun K F => .cons (dx K F) (dxs K F)⟩
  | [], _ :: _, h => by cases h
  | _ :: _, [], h => by cases h
theorem tupIn_ok {K : Fg} {a : Addr} {ds : List D} (h : tupIn K a ds = true) (hz : ∃ z, PyData.str z ∈ ds) : ∀ F, Dp K F (.ref a) (.tuple ds) := by
  intro F
  unfold tupIn at h
  split at h
  · rename_i c od its n sl q
    obtain ⟨h1, h2⟩ := Bool.and_eq_true_iff.mp h
    obtain ⟨h3, h4⟩ := Bool.and_eq_true_iff.mp h2
    obtain ⟨xs, r, d⟩ := cAre_ok h4
    exact .tupK q (congrArg Value.type (of_decide_eq_true h1)) rfl (of_decide_eq_true h3) r hz (d K F)
  · cases h
def GTup (K : Fg) (mg : Str → Option Value) (x : Str) (ds : List D) : Prop := ∃ a, mg x = some (.ref a) ∧ ∀ F, Dp K F (.ref a) (.tuple ds)
section
variable {X : Cx}
theorem ef_gtup {ds : List D} {x : Str} {pos : Pos} (h : GTup X.K X.mg x ds) (hg : Gl X x := by rfl) (hd : (x == ("__debug__" : Str)) = false := by decide) : EF X (.Name x pos) (gC (.tuple ds)) := by
  obtain ⟨a, h, d⟩ := h
  exact ⟨fW_mono, (pe_glob (v := .ref a) hg h rfl hd).imp fun σ H Q ⟨B, F, ρ, R, p', e, q⟩ => by
    cases e
    exact q F H _ R (Same.refl _) (d F)⟩
end
/-! ### the Hook with one more Bool -/
abbrev AlE : Type := He.AlD × Bool
def obsE (n : Nat) (fa : List He.Fa) (fn : List He.DefD) (ex : Fg → Bool) (g : Addr → Option Obj) : AlE := (He.obsD fa fn (He.frG g (He.asD g n)), ex (He.frG g (He.asD g n)))
def hookE (n : Nat) (fa : List He.Fa) (fn : List He.DefD) (ex : Fg → Bool) : PySem.W.Hook where
  α := AlE
  obs := fun s => obsE n fa fn ex s.heap.get?
  val := fun _ => (He.valD fn, true)
  says := fun _ h => ∃ K : Fg, K.In h ∧ He.SaysD fa fn K ∧ ex K = true
  of := fun _ _ e => ⟨_, He.frG_in, congrArg (fun z : AlE => z.1) e, congrArg (fun z : AlE => z.2) e⟩
  keeps := fun _ _ _ ⟨K, hK, c⟩ k => ⟨K, PySem.W.Frag.In.keeps hK k, c⟩
theorem obsE_eq {n : Nat} {fa : List He.Fa} {fn : List He.DefD} {ex : Fg → Bool} {g : Addr → Option Obj} {s : Shared} (h : ∀ a, g a = s.heap.get? a) : obsE n fa fn ex g = (hookE n fa fn ex).obs s := by
  have e : g = s.heap.get? := funext h
  rw [e] <;> rfl
end L2.P

set_option Elab.async false
set_option linter.all false
set_option maxRecDepth 100000
set_option maxHeartbeats 4000000
/-! PL51: x[::2] of a tuple. -/
namespace L2.P
open PySem PySem.Spec PyProof.Rows L2
def evens {α : Type} : List α → List α
  | [] => []
  | [a] => [a]
  | a :: _ :: r => a :: evens r
theorem evens_get {α : Type} : ∀ (l : List α) (i : Nat), (evens l)[i]? = l[2 * i]?
  | [], i => by simp [evens]
  | [a], 0 => rfl
  | [a], i + 1 => by simp [evens]
  | a :: b :: r, 0 => rfl
  | a :: b :: r, i + 1 => by
    show (a :: evens r)[i + 1]? = _
    rw [List.getElem?_cons_succ, evens_get r i]
    show _ = (a :: b :: r)[2 * i + 1 + 1]?
    rw [List.getElem?_cons_succ, List.getElem?_cons_succ]
theorem evens_len {α : Type} : ∀ (l : List α), (evens l).length = (l.length + 1) / 2
  | [] => by simp [evens]
  | [a] => by simp [evens]
  | a :: b :: r => by
    show (evens r).length + 1 = (r.length + 1 + 1 + 1) / 2
    rw [evens_len r]; omega
theorem evens_map {α β : Type} (f : α → β) : ∀ (l : List α), evens (l.map f) = (evens l).map f
  | [] => rfl
  | [a] => rfl
  | a :: b :: r => by
    show f a :: evens (r.map f) = f a :: (evens r).map f
    rw [evens_map f r]
theorem vals_evens : ∀ {vs : List V} {its : List Value}, Vals vs its → Vals (evens vs) (evens its)
  | _, _, .nil => .nil
  | _, _, .cons a .nil => .cons a .nil
  | _, _, .cons a (.cons b r) => .cons a (vals_evens r)
theorem dpAll_evens {K : Fg} {F : Hp} : ∀ {vs : List V} {ps : List D}, DpAll K F vs ps → DpAll K F (evens vs) (evens ps)
  | _, _, .nil => .nil
  | _, _, .cons a .nil => .cons a .nil
  | _, _, .cons a (.cons b r) => .cons a (dpAll_evens r)
section
variable {prog : Program} {w : World} {A : Around} {E : Value → Shared → Prop} {s : Shared}
theorem pick_even (xs : Array Value) : ((List.range ((xs.size + 1) / 2)).filterMap fun (m : Nat) => xs[((0 : Int) + (m : Int) * 2).toNat]?).toArray = (evens xs.toList).toArray := by
  congr 1
  have e : ((List.range ((xs.size + 1) / 2)).filterMap fun (m : Nat) => xs[((0 : Int) + (m : Int) * 2).toNat]?) = (List.range ((xs.size + 1) / 2)).map fun m => (evens xs.toList).getD m .none := by
    refine fm_map _ _ _ fun m hm => ?_
    rw [List.mem_range] at hm
    have e1 : ((0 : Int) + (m : Int) * 2).toNat = 2 * m := by omega
    rw [e1]
    show _ = some _
    rw [List.getD_eq_getElem?_getD, evens_get, Array.getElem?_toList, Array.getElem?_eq_getElem (by omega)]
    rfl
  rw [e]
  apply List.ext_getElem?
  intro i
  rw [List.getElem?_map]
  have hl := evens_len xs.toList
  have hz : xs.toList.length = xs.size := Array.length_toList
  rw [hz] at hl
  by_cases h : i < (xs.size + 1) / 2
  · rw [List.getElem?_range h]
    show some ((evens xs.toList).getD i .none) = _
    rw [List.getD_eq_getElem?_getD, List.getElem?_eq_getElem (by omega)]
    rfl
  · rw [List.getElem?_eq_none (by simpa using h), List.getElem?_eq_none (by omega)]
    rfl
theorem sliceApplied_even {sl : Addr} {vs : Value} {n : Nat} {Q : Int × Int × Nat → Shared → Prop} (hs : s.heap.IsSliceOf sl .none .none vs) (ps : IsPart vs (some 2))
    (h : Q ((0 : Int), 2, (n + 1) / 2) s) : wpAny (model prog w) A (Builtin.Slice.sliceApplied (.ref sl) (pure (n : Int))) Q E s := by
  obtain ⟨os, hos, hcs, hds⟩ := id hs
  unfold Builtin.Slice.sliceApplied Builtin.Slice.sliceFields
  refine wpAny_bind (wpAny_bind (wpAny_field hos hds (x := .none) rfl (wpAny_bind (wpAny_field hos hds (x := .none) rfl (wpAny_bind (wpAny_field hos hds (x := vs) rfl (wpAny_pure ?_)))))))
  refine wpAny_bind (HT.slicePart_ ps ?_)
  show wpAny _ _ (if ((2 : Int) == 0) = true then _ else _) _ _ s
  rw [if_neg (by decide)]
  refine wpAny_bind (slicePart_none (wpAny_bind (slicePart_none (wpAny_bind (wpAny_pure ?_)))))
  have e1 : Builtin.Slice.sliceAdjust none none 2 (n : Int) = ((0 : Int), (n : Int)) := by
    unfold Builtin.Slice.sliceAdjust
    simp
  have e2 : Builtin.Slice.slicePlaces 0 (n : Int) 2 = (n + 1) / 2 := by
    unfold Builtin.Slice.slicePlaces
    simp
    split <;> omega
  show wpAny _ _ (match Builtin.Slice.sliceAdjust none none 2 (n : Int) with | (lo, hi) => pure (lo, (2 : Int), Builtin.Slice.slicePlaces lo hi 2)) _ _ s
  rw [e1]
  show wpAny _ _ (pure ((0 : Int), (2 : Int), Builtin.Slice.slicePlaces 0 (n : Int) 2)) _ _ s
  rw [e2]
  exact wpAny_pure h
theorem getItem_tuple_even {t sl : Addr} {items : Array Value} {vs : Value} {Q : Value → Shared → Prop} (ht : IsTup s.heap t items) (hs : s.heap.IsSliceOf sl .none .none vs) (ps : IsPart vs (some 2))
    (h : Q (.ref s.heap.objs.size) { s with heap := s.heap.push { cls := .type "tuple", data := .seq (evens items.toList).toArray } })
    (hsz : items.size ≤ sizeLine) : wpAny (model prog w) A (getItem (.ref t) (.ref sl)) Q E s := by
  have htake : sizeOk (.seq (evens items.toList).toArray) := by
    show (evens items.toList).toArray.size ≤ sizeLine
    rw [List.size_toArray, evens_len, Array.length_toList]
    omega
  obtain ⟨os, hos, hcs, hds⟩ := id hs
  have hTs : s.TypeIs (.ref sl) "slice" := ⟨os, hos, hcs⟩
  unfold getItem
  try with_reducible refine wpAny_holding ?_
  first | refine wpAny_bind (wpAny_pure ?_) | skip
  refine wpAny_bind (wpAny_sequenceKey ht.typeIs (by decide) ?_)
  refine wpAny_bind (wpAny_callSpecial?_slot (name := Str.ofString "__getitem__") ht.typeIs PyProof.Rows.slot_tuple_getitem
    (wpAny_call_entry PyProof.Rows.slot_tuple_getitem ht.typeIs entry_tuple_getitem ?_ (args_tuple_getitem _ _)))
  show wpAny _ _ (Builtin.Tuple.tupleItemsOf (.ref t) >>= _) _ _ s
  refine wpAny_bind (tupleItemsOf_ ht ?_)
  refine wpAny_bind (wpAny_typeOf hTs ?_)
  rw [if_pos (by decide)]
  refine wpAny_bind (sliceApplied_even hs ps ?_)
  have hno : ¬ (((0 : Int) == 0 && (2 : Int) == 1 && (items.size + 1) / 2 == items.size) = true) := by
    intro q
    rw [Bool.and_eq_true, Bool.and_eq_true] at q
    exact absurd q.1.2 (by decide)
  show wpAny _ _ (if ((0 : Int) == 0 && (2 : Int) == 1 && (items.size + 1) / 2 == items.size) = true then _ else _) _ _ s
  rw [if_neg hno, pick_even]
  first
    | exact wpAny_bind (m := Builtin.Tuple.tupleExact _) (wpAny_newObj_type (wpAny_pure ⟨_, rfl, wpAny_pure h⟩) htake)
    | exact wpAny_bind (m := Builtin.Tuple.tupleExact _) (wpAny_newObj_type (wpAny_bind (wpAny_pure (wpAny_pure ⟨_, rfl, wpAny_pure h⟩))) htake)
    | exact wpAny_bind (wpAny_bind (m := Builtin.Tuple.tupleExact _) (wpAny_newObj_type (wpAny_pure (wpAny_pure ⟨_, rfl, wpAny_pure h⟩)) htake))
    | exact wpAny_bind (wpAny_bind (m := Builtin.Tuple.tupleExact _) (wpAny_newObj_type (wpAny_pure ⟨_, rfl, wpAny_pure h⟩) htake))
end
section
variable {X : Cx} {e : Expr} {pos : Pos}
def tEvP (K : Fg) (te : TE) : TE := fun σ H Q => te σ H fun x H1 => ∃ a xs, x = .ref a ∧ SqT K H1 a xs ∧ ∀ p, H1 p = none → Q (.ref p) (upd H1 p (.tup (evens xs)))
theorem pe_evP {te : TE} {k : Nat} {p1 p3 pos : Pos} (he : PE X e te) : PE X (.Subscript e (.Slice none none (some (.Constant (.int 2) k p1)) p3) pos) (tEvP X.K te) := by
  refine ⟨fun pins s σ H Q I h => ?_⟩
  refine Subscript_ (thn (he.run pins s σ H _ I h) fun v s1 ⟨x, H1, I1, r1, q1⟩ => ?_)
  obtain ⟨a, xs, ex, hx, q⟩ := q1
  subst ex
  cases r1
  have hst : PO X (some (.Constant (.int 2) k p1)) (tPart (tC (.int 2))) := po_some pe_int
  refine wpAny_Slice (thn (po_none.run pins s1 σ H1 (fun o H2 => o = none ∧ H2 = H1) I1 ⟨rfl, rfl⟩) fun vl s2 ⟨l, H2, I2, pl, el, e2⟩ => ?_)
  subst el e2
  refine thn (po_none.run pins s2 σ H2 (fun o H3 => o = none ∧ H3 = H2) I2 ⟨rfl, rfl⟩) fun vu s3 ⟨u, H3, I3, pu, eu, e3⟩ => ?_
  subst eu e3
  refine thn (hst.run pins s3 σ H3 (fun o H4 => o = some 2 ∧ H4 = H3) I3 ⟨2, rfl, rfl, rfl⟩) fun vs s4 ⟨o, H4, I4, ps, eo, e4⟩ => ?_
  subst eo e4
  have I5 : L2.Inv X pins σ H4 { s4 with heap := s4.heap.push { cls := .type "slice", data := .fields #[vl, vu, vs] } } := I4.kept (t' := s4.toks) fun b ob q => Heap.get?_push_of_some _ q
  show wpAny (model X.prog X.w) X.A (subscriptTail e (.Slice none none (some (.Constant (.int 2) k p1)) p3) (.ref a) (.ref s4.heap.objs.size)) (EP X pins σ Q) X.xe { s4 with heap := s4.heap.push { cls := .type "slice", data := .fields #[vl, vu, vs] } }
  obtain ⟨its, r, ht, hz⟩ := I5.tuple hx
  have hlen := r.length
  cases pl
  cases pu
  refine tail_any (ops := [.ref a, .ref s4.heap.objs.size]) ht.typeIs PyProof.Rows.slot_tuple_getitem.lookup ?_ (by with_unfolding_all rfl)
  refine getItem_tuple_even ht (Heap.IsSliceOf.new _ _ _ vs) ps ?_ (by rw [List.size_toArray]; omega)
  refine ⟨.ref _, _, I5.laid (t' := s4.toks) (o := .tup (evens xs)) (fun b ob q => Heap.get?_push_of_some _ q) (Nat.le_refl _) ?_, rfl, q _ (I5.hok.fresh (Nat.le_refl _))⟩
  exact ⟨by rw [evens_len]; omega, _, vals_evens r, IsTup.new _ _⟩
def dEven : D → Option D
  | .tuple xs => some (.tuple (evens xs))
  | _ => none
def vEven (f : Rho → Option D) : Rho → Option D := fun ρ => (f ρ).bind dEven
theorem ef_even {f : Rho → Option D} {k : Nat} {p1 p3 pos : Pos} (he : XF X e f) : EF X (.Subscript e (.Slice none none (some (.Constant (.int 2) k p1)) p3) pos) (vEven f) :=
  ⟨fW_mono, (pe_evP he.pe).imp fun σ H Q ⟨B, F, ρ, R, z, ez, q⟩ => by
    obtain ⟨p, e1, e2⟩ := Option.bind_eq_some_iff.mp ez
    refine ⟨B, F, ρ, R, p, e1, fun F1 H1 v R1 s1 d => ?_⟩
    unfold dEven at e2
    split at e2
    · cases e2
      rename_i ps
      have dd : Dp X.K F1 v (.tuple ps) := pk_tup d
      obtain ⟨a, ys, rfl, hs, r⟩ := Dp.inv_tup dd
      refine ⟨a, ys, rfl, sqT_same R1.sub hs, fun l hl => ?_⟩
      have n' := R1.sub.free hl
      exact q _ _ _ (R1.grow hl) (s1.trans (same_upd n')) (.tup upd_same ((dpAll_evens r).same (same_upd n')))
    · cases e2⟩
@[simp] theorem e_vEven (f : Rho → Option D) (ρ : Rho) : vEven f ρ = (f ρ).bind dEven := rfl
@[simp] theorem e_dEvenT (xs : List D) : dEven (.tuple xs) = some (.tuple (evens xs)) := rfl
end
end L2.P

set_option Elab.async false
set_option linter.all false
set_option maxRecDepth 100000
set_option maxHeartbeats 4000000
/-! PL52: for .. in f(..), f(..).values(), f(..).items(), the dict that the call made: it is locked for good. -/
namespace L2.P
open PySem PySem.Spec PyProof.Rows L2
/-- all but the dicts -/
def noD (F : Hp) : Hp := fun b => match F b with
  | some (.dK _) => none
  | some (.dT _) => none
  | x => x
theorem noD_sub (F : Hp) : Same (noD F) F := fun b o e => by
  unfold noD at e
  split at e
  · cases e
  · cases e
  · exact e
theorem noD_keep {F : Hp} {b : Addr} {o : HO} (h : F b = some o) (h1 : ∀ es, o ≠ .dK es) (h2 : ∀ es, o ≠ .dT es) : noD F b = some o := by
  unfold noD
  rw [h]
  split
  · rename_i q; cases q; exact absurd rfl (h1 _)
  · rename_i q; cases q; exact absurd rfl (h2 _)
  · rfl
theorem noD_no {F : Hp} {b : Addr} {es : List (List Key × V)} (h : ∀ o, noD F b = some o → o = .dT es) : noD F b = none := by
  cases e : noD F b with
  | none => rfl
  | some o =>
    have := h o e
    subst this
    unfold noD at e
    split at e
    · cases e
    · cases e
    · rename_i q1 q2
      exact absurd e (q2 _)
def KeepD (F F' : Hp) : Prop := ∀ b o, F b = some o → (∀ es, o ≠ .dK es) → (∀ es, o ≠ .dT es) → F' b = some o
theorem sqL_keep {K : Fg} {F F' : Hp} (e : KeepD F F') {a : Addr} {xs : List V} (s : SqL K F a xs) : SqL K F' a xs := by
  rcases s with (h | ⟨o, h⟩) | h
  · exact .inl (.inl (e _ _ h (fun _ z => by cases z) fun _ z => by cases z))
  · exact .inl (.inr ⟨o, e _ _ h (fun _ z => by cases z) fun _ z => by cases z⟩)
  · exact .inr h
mutual
theorem Dp.keep {K : Fg} {F F' : Hp} (e : KeepD F F') : ∀ {v : V} {p : D}, Dp K F v p → p.plain = true → Dp K F' v p
  | _, _, .non, _ => .non
  | _, _, .bl b, _ => .bl b
  | _, _, .int i, _ => .int i
  | _, _, .str i, _ => .str i
  | _, _, .tup s r, h => .tup (e _ _ s (fun _ z => by cases z) fun _ z => by cases z) (DpAll.keep e r (by simpa [PyData.plain] using h))
  | _, _, .tupK a b c d f g r, h => .tupK a b c d f g (DpAll.keep e r (by simpa [PyData.plain] using h))
  | _, _, .lst s r, h => .lst (sqL_keep e s) (DpAll.keep e r (by simpa [PyData.plain] using h))
  | _, _, .dk s r, h => by simp [PyData.plain] at h
  | _, _, .dt s r, h => by simp [PyData.plain] at h
  | _, _, .q a b c d f, _ => .q a b c d f
theorem DpAll.keep {K : Fg} {F F' : Hp} (e : KeepD F F') : ∀ {vs : List V} {ps : List D}, DpAll K F vs ps → PyData.plainAll ps = true → DpAll K F' vs ps
  | _, _, .nil, _ => .nil
  | _, _, .cons a b, h => by
    rw [PyData.plainAll, Bool.and_eq_true] at h
    exact .cons (Dp.keep e a h.1) (DpAll.keep e b h.2)
end
mutual
theorem Dp.keepN {K : Fg} {F F' : Hp} (e : KeepD F F') : ∀ {v : V} {p : D}, Dp K F v p → (nm p).plain = true → Dp K F' v p
  | _, _, .non, _ => .non
  | _, _, .bl b, _ => .bl b
  | _, _, .int i, _ => .int i
  | _, _, .str i, _ => .str i
  | _, _, .tup s r, h => .tup (e _ _ s (fun _ z => by cases z) fun _ z => by cases z) (DpAll.keepN e r (by simpa [nm, PyData.plain] using h))
  | _, _, .tupK a b c d f g r, h => .tupK a b c d f g (DpAll.keepN e r (by simpa [nm, PyData.plain] using h))
  | _, _, .lst s r, h => .lst (sqL_keep e s) (DpAll.keepN e r (by simpa [nm, PyData.plain] using h))
  | _, _, .dk s r, h => by
    obtain ⟨i, j, z, e⟩ := nm_dict h
    subst e
    cases r with
    | cons d r => cases d with
      | dk _ r => cases r
      | dt _ r => cases r
  | _, _, .dt s r, h => by
    obtain ⟨i, j, z, e⟩ := nm_dict h
    subst e
    cases r
  | _, _, .q a b c d f, _ => .q a b c d f
theorem DpAll.keepN {K : Fg} {F F' : Hp} (e : KeepD F F') : ∀ {vs : List V} {ps : List D}, DpAll K F vs ps → PyData.plainAll (nmAll ps) = true → DpAll K F' vs ps
  | _, _, .nil, _ => .nil
  | _, _, .cons a b, h => by
    rw [nmAll, PyData.plainAll, Bool.and_eq_true] at h
    exact .cons (Dp.keepN e a h.1) (DpAll.keepN e b h.2)
end
theorem DtAll.keep {K : Fg} {F F' : Hp} (e : KeepD F F') : ∀ {es : List (List Key × V)} {kvs : List (D × D)}, DtAll K F es kvs → (kvs.all fun q => (nm q.2).plain) = true → DtAll K F' es kvs
  | _, _, .nil, _ => .nil
  | _, _, .cons a b, h => by
    rw [List.all_cons, Bool.and_eq_true] at h
    exact .cons (Dp.keepN e a h.1) (DtAll.keep e b h.2)
theorem DtAll.getV {K : Fg} {F : Hp} : ∀ {es : List (List Key × V)} {kvs : List (D × D)} {i : Nat} {k : List Key} {v : V}, DtAll K F es kvs → es[i]? = some (k, v) → ∃ q, kvs[i]? = some q ∧ Dp K F v q.2
  | _, _, _, _, _, .nil, h => by simp at h
  | _, _, 0, _, _, .cons a _, h => by
    simp at h
    obtain ⟨_, rfl⟩ := h
    exact ⟨_, rfl, a⟩
  | _, _, i + 1, _, _, .cons _ b, h => by simpa using DtAll.getV (i := i) b (by simpa using h)
/-- the dict (its keys tuples, its values plain) -/
def dictT : D → Option (List (D × D))
  | .dict kvs => if kindOf kvs = some true ∧ (kvs.all fun q => (nm q.2).plain) = true then some kvs else none
  | _ => none
def fDt (g : GA) (f : Rho → Option (List D)) : Rho → Option (List (D × D)) := fun ρ => (f ρ).bind fun ps => if PyData.plainAll ps = true then (g ps).bind dictT else none
def tFD (K : Fg) (h : Rho → Option (List (D × D))) : TE := fun σ H Q => ∃ B F ρ, Rs K B F H σ ρ ∧ ∃ kvs, h ρ = some kvs ∧
  ∀ a es F' H', Same F F' → F' a = none → H' a = some (.dT es) → DtAll K F' es kvs → (∀ o, Rs K B (upd F' a o) (upd H' a o) σ ρ) → Q (.ref a) H'
section
variable {X : Cx} {x : Str} {p pos : Pos} {e : Expr} {es : List Expr} {n : Nat}
theorem ed_call {g : GA} {f : Rho → Option (List D)} (c : CalX X x (spF X.K n (fun ps K => ∃ z, g ps = some z ∧ K z))) (ha : EAF X (e :: es) f) (hl : LenA f n) (hg : Gl X x) (hdb : (x == ("__debug__" : Str)) = false := by decide)
    (he : starEach (e :: es) X.env = (false, eval e X.env) :: starEach es X.env := by rfl) (hpl : (backTo pos (starEach es X.env)).any (·.1) = false := by rfl) : PE X (.Call (.Name x p) (e :: es) [] pos) (tFD X.K (fDt g f)) := by
  obtain ⟨k, fA, fd, ps0, Fo, hr, hm, hk, hb⟩ := c
  refine (pe_call Fo hr hg hm hk hb .nil pass0 ha.pa hdb he hpl).imp fun σ H Q ⟨B, F, ρ, R, kvs, e1, q⟩ => ?_
  obtain ⟨ps, e2, e3⟩ := Option.bind_eq_some_iff.mp e1
  split at e3
  · rename_i hp
    obtain ⟨z, e4, e5⟩ := Option.bind_eq_some_iff.mp e3
    refine ⟨B, F, ρ, R, ps, e2, fun F1 H1 vs R1 s1 d1 => ?_⟩
    refine ⟨by rw [List.append_nil, d1.length]; exact hl _ _ e2, noD F1, ps, (noD_sub F1).trans R1.sub, by rw [List.append_nil]; exact d1.keep (fun b o h h1 h2 => noD_keep h h1 h2) hp, z, e4, fun F2 H2 v s2 sH sF fr d2 => ?_⟩
    unfold dictT at e5
    split at e5
    · rename_i kvs0
      split at e5
      · rename_i hk2
        cases e5
        obtain ⟨hkd, hpl2⟩ := hk2
        obtain ⟨a, rfl, hd⟩ := Dp.inv_dictQ d2
        rcases hd with ⟨es0, h0, r⟩ | ⟨es0, h0, r⟩ | ⟨i1, i2, h0, _⟩
        · cases r with
          | nil => cases hkd
          | cons _ _ =>
            unfold kindOf at hkd
            split at hkd
            · cases hkd
            · cases hkd
            · rename_i h; cases h
            · cases hkd
        rotate_left
        · subst h0; cases hkd
        · have n0 : noD F1 a = none := noD_no (es := es0) fun o ho => by
            have := s2 a o ho
            rw [h0] at this
            exact (Option.some.inj this).symm
          have hH2 := sF a _ h0
          have hH1 : H1 a = none := by
            rcases fr a n0 (by rw [h0]; simp) with z | ⟨xs, z⟩
            · exact z
            · have := sH a _ z
              rw [hH2] at this; cases this
          have hF1 : F1 a = none := by
            cases z : F1 a with
            | none => rfl
            | some u => have := R1.sub a u z; rw [hH1] at this; cases this
          have agree : ∀ b o u, F1 b = some o → F2 b = some u → o = u := fun b o u h1 h2 => by
            have z1 := sH b o (R1.sub b o h1)
            have z2 := sF b u h2
            rw [z1] at z2
            exact Option.some.inj z2
          have hF' : ∀ b u, (if b = a then none else (F1 b).or (F2 b)) = some u → H2 b = some u := fun b u h => by
            split at h
            · cases h
            · cases h1 : F1 b with
              | none => rw [h1] at h; exact sF b u h
              | some o1 => rw [h1] at h; have h9 : some o1 = some u := h; rw [← h9] at *; exact sH b _ (R1.sub b _ h1)
          refine q a es0 (fun b => if b = a then none else (F1 b).or (F2 b)) H2 (s1.trans fun b o h => ?_) (if_pos rfl) hH2 (r.keep (fun b o h h1 h2 => ?_) hpl2) fun o => ?_
          · have ne : b ≠ a := fun z => by rw [z, hF1] at h; cases h
            show (if b = a then none else (F1 b).or (F2 b)) = _
            rw [if_neg ne, h]; rfl
          · have ne : b ≠ a := fun z => by rw [z, h0] at h; cases h; exact h2 _ rfl
            show (if b = a then none else (F1 b).or (F2 b)) = _
            rw [if_neg ne]
            cases z : F1 b with
            | none => exact h
            | some u => rw [agree b u o z h]; rfl
          · refine R1.call (fun b u h => ?_) (fun b u h => ?_) (fun b u h => ?_) fun b h h2 => ?_
            · have ne : b ≠ a := fun z => by rw [z, hF1] at h; cases h
              rw [upd_ne ne]
              show (if b = a then none else (F1 b).or (F2 b)) = _
              rw [if_neg ne, h]; rfl
            · have ne : b ≠ a := fun z => by rw [z, hH1] at h; cases h
              rw [upd_ne ne]; exact sH b u h
            · by_cases ne : b = a
              · subst ne; rw [upd_same] at h ⊢; exact h
              · rw [upd_ne ne] at h ⊢; exact hF' b u h
            · by_cases ne : b = a
              · subst ne; exact .inl hH1
              · rw [upd_ne ne] at h2
                have h3 : F2 b ≠ none := by
                  have : (if b = a then none else (F1 b).or (F2 b)) ≠ none := h2
                  rw [if_neg ne, h] at this
                  exact this
                refine fr b ?_ h3
                cases z : noD F1 b with
                | none => rfl
                | some u => have := noD_sub F1 b u z; rw [h] at this; cases this
      · cases e5
    · cases e5
  · cases e3
end
end L2.P
namespace L2.P
open PySem PySem.Spec PyProof.Rows L2
/-! ### the walks -/
theorem frzT2 {X : Cx} {pins : List (Addr × Obj)} {σ : St} {H : Hp} {s : Shared} {d : Addr} {o : Obj} {kvs : List (List Key × V)} (I : L2.Inv X pins σ H s) (h : H d = some (.frz o (.dT kvs))) :
    (d == sysModules) = false ∧ s.heap.get? d = some o ∧ o.ExactDict ∧ kvs.length ≤ sizeLine ∧ ∃ (es : Array DictEntry) (ep : Nat), o.data = .dict es ep ∧ es.size = kvs.length ∧
      (∃ bs : List Addr, IsKeys H kvs bs ∧ ∀ i : Nat, es[i]?.map (·.key) = bs[i]?.map Value.ref) ∧ ∀ (i : Nat) (k : List Key) (v : V), kvs[i]? = some (k, v) → ∃ en : DictEntry, es[i]? = some en ∧ RelV v en.val := by
  obtain ⟨hd, z, hs, xs, pr, o', es, ep, ho, hx, hdt, he, _⟩ := I.hok d _ h
  rw [hd] at ho
  cases ho
  refine ⟨hs, hd, hx, z, es, ep, hdt, ?_, ⟨xs.map fun x => x.2.1, isKeys_of pr, fun i => ?_⟩, fun i k v e => ?_⟩
  · have l1 : es.size = xs.length := size_of_entries he
    have l2 : kvs.length = xs.length := Paired.length pr
    omega
  · rw [entry_at he i, List.getElem?_map]
    cases xs[i]? <;> rfl
  · obtain ⟨b, hb, e1, e2, e3⟩ := paired_get pr e
    have q := entry_at he i
    rw [hb] at q
    exact ⟨_, q, e3⟩
def ItKB (d : Addr) (o : Obj) (kvs : List (List Key × V)) (bs : List Addr) : It :=
  ⟨fun i H => H d = some (.frz o (.dT kvs)) ∧ i < kvs.length, fun i H x H' => H' = H ∧ ∃ b, bs[i]? = some b ∧ x = .ref b, fun i H => H d = some (.frz o (.dT kvs)) ∧ kvs.length ≤ i⟩
def ItVB (d : Addr) (o : Obj) (kvs : List (List Key × V)) : It :=
  ⟨fun i H => H d = some (.frz o (.dT kvs)) ∧ i < kvs.length, fun i H x H' => H' = H ∧ ∃ k, kvs[i]? = some (k, x), fun i H => H d = some (.frz o (.dT kvs)) ∧ kvs.length ≤ i⟩
def ItIB (d : Addr) (o : Obj) (kvs : List (List Key × V)) (bs : List Addr) : It :=
  ⟨fun i H => H d = some (.frz o (.dT kvs)) ∧ i < kvs.length, fun i H x H' => ∃ T b k v, bs[i]? = some b ∧ kvs[i]? = some (k, v) ∧ x = .ref T ∧ H T = none ∧ H' = upd H T (.tup [.ref b, v]), fun i H => H d = some (.frz o (.dT kvs)) ∧ kvs.length ≤ i⟩
section
variable {P : Program} {w : World} {K : PySem.W.Frag} {tg : Expr} {d : Addr} {o : Obj} {es : Array DictEntry} {ep : Nat}
theorem keyB_at {es : Array DictEntry} {bs : List Addr} (hb : ∀ i : Nat, es[i]?.map (·.key) = bs[i]?.map Value.ref) {i : Nat} {en : DictEntry} (h : es[i]? = some en) : ∃ b, bs[i]? = some b ∧ en.key = .ref b := by
  have q := hb i
  rw [h] at q
  cases e : bs[i]? with
  | none => rw [e] at q; cases q
  | some b => rw [e] at q; exact ⟨b, rfl, Option.some.inj q⟩
theorem turn_KB {kvs : List (List Key × V)} {bs : List Addr} (it : Addr) (hod : o.data = .dict es ep) (hb : ∀ i : Nat, es[i]?.map (·.key) = bs[i]?.map Value.ref) : Turn P w K tg (ItKB d o kvs bs) [it] it (fun i h => h.IsKeyIter it d i kvs.length ep) where
  mem := by simp
  obj := fun i h st b hb => by
    have e : b = it := by simpa using hb
    subst e
    obtain ⟨oi, e, c, dd⟩ := st
    exact ⟨oi, e, fun v z => by rw [dd] at z; cases z⟩
  keep := fun i h h' st k => st.at fun oi e => k it (by simp) oi e
  item := by
    intro X hP hw hK hc i pins s σ H E I hf st hg
    subst hP hw hK
    obtain ⟨hd, hi⟩ := hg
    obtain ⟨f0, f1, f2, f3, f4, f5⟩ := hf it (by simp)
    obtain ⟨hs, hgd, hx, hz, es', ep', hdt, hsz, _, ent⟩ := frzT2 I hd
    obtain ⟨rfl, rfl⟩ := dict_ep hod hdt
    obtain ⟨⟨k, v⟩, hkv⟩ : ∃ p, kvs[i]? = some p := ⟨kvs[i], List.getElem?_eq_getElem hi⟩
    obtain ⟨en, hen, hv⟩ := ent i k v hkv
    obtain ⟨b, hbi, hkey⟩ := keyB_at hb hen
    refine next_key_item st hgd hdt hsz hen fun h' st' sb => ?_
    have I1 : L2.Inv X pins σ H { s with heap := h' } := I.turned (t' := s.toks) (fun b ob hb e => (sb.2 b hb).trans e) f0 f1 f3 f4 f5
    obtain ⟨oi, e, c, dd⟩ := id st'
    exact ⟨en.key, rfl, go_of (s := { s with heap := h' }) e c dd (by decide) ⟨.ref b, H, I1, hkey, ⟨rfl, b, hbi, rfl⟩, st', fun b hb => (hf b hb).1⟩⟩
  done := by
    intro X hP hw hK hc i pins s σ H E I hf st hg
    subst hP hw hK
    obtain ⟨hd, hi⟩ := hg
    obtain ⟨f0, f1, f2, f3, f4, f5⟩ := hf it (by simp)
    obtain ⟨hs, hgd, hx, hz, es', ep', hdt, hsz, _, ent⟩ := frzT2 I hd
    obtain ⟨rfl, rfl⟩ := dict_ep hod hdt
    exact next_key_end (I.ok.hd hc) st hgd hdt hsz hi fun h' eb => ⟨rfl, I.turned (t' := s.toks) (fun b ob hb e => eb b ob hb e) f0 f1 f3 f4 f5⟩
  self := fun A i s Q E st h => by
    refine wpAny_pyIter_slot st.typeIs F.slot_dict_keyiterator_iter (wpAny_call_entry F.slot_dict_keyiterator_iter st.typeIs F.entry_dict_keyiterator_iter ?_ (F.args_dict_keyiterator_iter_1 _))
    show wpAny _ _ (ret (.ref it)) _ _ s
    exact wpAny_pure ⟨_, rfl, "dict_keyiterator", _, st.typeIs, F.slot_dict_keyiterator_next.lookup, h⟩
theorem turn_VB {kvs : List (List Key × V)} (it : Addr) (hod : o.data = .dict es ep) : Turn P w K tg (ItVB d o kvs) [it] it (fun i h => h.IsValIter it d i kvs.length ep) where
  mem := by simp
  obj := fun i h st b hb => by
    have e : b = it := by simpa using hb
    subst e
    obtain ⟨oi, e, c, dd⟩ := st
    exact ⟨oi, e, fun v z => by rw [dd] at z; cases z⟩
  keep := fun i h h' st k => st.at fun oi e => k it (by simp) oi e
  item := by
    intro X hP hw hK hc i pins s σ H E I hf st hg
    subst hP hw hK
    obtain ⟨hd, hi⟩ := hg
    obtain ⟨f0, f1, f2, f3, f4, f5⟩ := hf it (by simp)
    obtain ⟨hs, hgd, hx, hz, es', ep', hdt, hsz, _, ent⟩ := frzT2 I hd
    obtain ⟨rfl, rfl⟩ := dict_ep hod hdt
    obtain ⟨⟨k, v⟩, hkv⟩ : ∃ p, kvs[i]? = some p := ⟨kvs[i], List.getElem?_eq_getElem hi⟩
    obtain ⟨en, hen, hv⟩ := ent i k v hkv
    rw [← hsz] at st
    obtain ⟨hlt, hge⟩ := Array.getElem?_eq_some_iff.mp hen
    refine wpAny_pyNext_values_item_raw st ⟨o, hgd, hx, hdt⟩ hlt fun h' st' sb => ?_
    have I1 : L2.Inv X pins σ H { s with heap := h' } := I.turned (t' := s.toks) (fun b ob hb e => (sb.2 b hb).trans e) f0 f1 f3 f4 f5
    obtain ⟨oi, e, c, dd⟩ := id st'
    refine ⟨_, rfl, go_of (s := { s with heap := h' }) e c dd (by decide) ⟨v, H, I1, ?_, ⟨rfl, k, hkv⟩, ?_, fun b hb => (hf b hb).1⟩⟩
    · rw [hge]; exact hv
    · show h'.IsValIter it d (i + 1) kvs.length _
      rw [← hsz]
      exact st'
  done := by
    intro X hP hw hK hc i pins s σ H E I hf st hg
    subst hP hw hK
    obtain ⟨hd, hi⟩ := hg
    obtain ⟨f0, f1, f2, f3, f4, f5⟩ := hf it (by simp)
    obtain ⟨hs, hgd, hx, hz, es', ep', hdt, hsz, _, ent⟩ := frzT2 I hd
    obtain ⟨rfl, rfl⟩ := dict_ep hod hdt
    rw [← hsz] at st
    exact wpAny_pyNext_values_end_raw (I.ok.hd hc) st ⟨o, hgd, hx, hdt⟩ (by omega) fun h' eb => ⟨rfl, I.turned (t' := s.toks) (fun b ob hb e => eb b ob hb e) f0 f1 f3 f4 f5⟩
  self := fun A i s Q E st h => wpAny_pyIter_valiter st h
theorem turn_IB {kvs : List (List Key × V)} {bs : List Addr} {elts : List Expr} {kk : Nat} {tpos : Pos} (it : Addr) (hod : o.data = .dict es ep) (hb : ∀ i : Nat, es[i]?.map (·.key) = bs[i]?.map Value.ref) :
    Turn P w K (.Tuple elts kk tpos) (ItIB d o kvs bs) [it] it (fun i h => ∃ ok ov, IsItemIter h it d i kvs.length ep ok ov) where
  mem := by simp
  obj := fun i h st b hb => by
    have e : b = it := by simpa using hb
    subst e
    obtain ⟨ok, ov, e⟩ := st
    exact ⟨_, e, fun v z => nomatch z⟩
  keep := fun i h h' st k => let ⟨ok, ov, e⟩ := st; ⟨ok, ov, k it (by simp) _ e⟩
  item := by
    intro X hP hw hK hc i pins s σ H E I hf st hg
    subst hP hw hK
    obtain ⟨hd, hi⟩ := hg
    obtain ⟨hs, hgd, hx, hz, es', ep', hdt, hsz, _, ent⟩ := frzT2 I hd
    obtain ⟨rfl, rfl⟩ := dict_ep hod hdt
    obtain ⟨⟨k, v⟩, hkv⟩ : ∃ p, kvs[i]? = some p := ⟨kvs[i], List.getElem?_eq_getElem hi⟩
    obtain ⟨en, hen, hv⟩ := ent i k v hkv
    obtain ⟨b, hbi, hkey⟩ := keyB_at hb hen
    obtain ⟨hlt0, hge⟩ := Array.getElem?_eq_some_iff.mp hen
    obtain ⟨ok, ov, he⟩ := st
    rw [← hsz] at he
    have hlt : it < s.heap.objs.size := Heap.lt_size he
    refine wpAny_pyNext_items_item_raw he ⟨o, hgd, hx, hdt⟩ hlt0 fun h' ho hT hz hk => ?_
    rw [hge] at ho hT
    refine ⟨_, rfl, wpAny_letOwnedTupleGo_items (s := { s with heap := h' }) ho fun h'' he' sb => ?_⟩
    have hT2 : h''.get? s.heap.objs.size = some { cls := .type "tuple", data := .seq #[en.key, en.val] } := (sb.2 _ (Nat.ne_of_gt hlt)).trans hT
    have new : ObjOk X.prog X.w (upd H s.heap.objs.size (.tup [.ref b, v])) h'' s.heap.objs.size (.tup [.ref b, v]) :=
      ⟨by show 2 ≤ sizeLine; decide, [en.key, en.val], .cons hkey (.cons hv .nil), ⟨_, hT2, rfl, _, rfl⟩⟩
    have I1 : L2.Inv X pins σ (upd H s.heap.objs.size (.tup [.ref b, v])) { s with heap := h'' } :=
      I.turnedNew (t' := s.toks) (ch := [it]) (fun b ob hb e => (sb.2 b (by simpa using hb)).trans (hk b ob (by simpa using hb) e)) hf (Nat.le_refl _) new
    refine ⟨.ref s.heap.objs.size, _, I1, rfl, ⟨_, b, k, v, hbi, hkv, rfl, I.hok.fresh (Nat.le_refl _), rfl⟩, ⟨en.key, en.val, ?_⟩, fun b hb => ?_⟩
    · rw [← hsz]; exact he'
    · have e : b = it := by simpa using hb
      rw [e, upd_ne (Nat.ne_of_lt hlt)]
      exact (hf it (by simp)).1
  done := by
    intro X hP hw hK hc i pins s σ H E I hf st hg
    subst hP hw hK
    obtain ⟨hd, hi⟩ := hg
    obtain ⟨f0, f1, f2, f3, f4, f5⟩ := hf it (by simp)
    obtain ⟨hs, hgd, hx, hz, es', ep', hdt, hsz, _, ent⟩ := frzT2 I hd
    obtain ⟨rfl, rfl⟩ := dict_ep hod hdt
    obtain ⟨ok, ov, he⟩ := st
    rw [← hsz] at he
    exact wpAny_pyNext_items_end_raw (I.ok.hd hc) he ⟨o, hgd, hx, hdt⟩ (by omega) fun h' eb => ⟨rfl, I.turned (t' := s.toks) (fun b ob hb e => eb b ob hb e) f0 f1 f3 f4 f5⟩
  self := fun A i s Q E st h => let ⟨_, _, e⟩ := st; PySem.W.kcp_self e h
end
/-! ### the iterables -/
def iDT (J : Addr → Obj → List (List Key × V) → List Addr → It) (te : TE) : TI := fun σ H R => te σ H fun x H1 => ∃ d es, x = .ref d ∧ H1 d = some (.dT es) ∧
  (es.length ≤ sizeLine → ∀ od bs, IsKeys (upd H1 d (.frz od (.dT es))) es bs → R (J d od es bs) (upd H1 d (.frz od (.dT es))))
section
variable {X : Cx} {tg e : Expr} {td : TE} {apos cpos : Pos}
theorem pi_KB (he : PE X e td) : PI X tg e (iDT ItKB td) := by
  refine ⟨fun pins s σ H R I h => ?_⟩
  refine thn (he.run pins s σ H _ I h) fun u s1 ⟨x, H1, I1, rx, d, kvs, ex, hd, q⟩ => ?_
  subst ex
  obtain rfl : u = Value.ref d := rx
  obtain ⟨od, I2⟩ := I1.lock hd True.intro
  obtain ⟨hs, hgd, hx, hz, es, ep, hdt, hsz, ⟨bs, hk, hb⟩, ent⟩ := frzT2 I2 upd_same
  refine iter_keys hs hgd hx hdt (pi_one (tk := s1.toks) I2 _ (turn_KB _ hdt hb) ⟨_, Heap.get?_push_size _ rfl, rfl, ?_⟩ (q hz od bs hk))
  rw [hsz] <;> rfl
theorem pi_VB (he : PE X e td) (hbase : attributeBase e "values" X.env (eval e X.env) = eval e X.env := by rfl) (hline : (apos.endLine == cpos.line) = true := by rfl) : PI X tg (.Call (.Attribute e "values" apos) [] [] cpos) (iDT (fun d o es _ => ItVB d o es) td) := by
  refine ⟨fun pins s σ H R I h => ?_⟩
  refine wpAny_Call_method (T := "dict") (id := "dict.values") hbase rfl hline F.plainAttrs_dict F.slot_dict_values F.type_dict_values (thn (he.run pins s σ H _ I h) fun u s1 ⟨x, H1, I1, rx, d, kvs, ex, hd, q⟩ => ?_)
  subst ex
  obtain rfl : u = Value.ref d := rx
  obtain ⟨od, I1⟩ := I1.lock hd True.intro
  obtain ⟨hs, hgd, hx, hz, es, ep, hdt, hsz, ⟨bs, hk, hb⟩, ent⟩ := frzT2 I1 upd_same
  have raw : s1.heap.DictRaw d es ep := ⟨od, hgd, hx, hdt⟩
  refine ⟨raw.typeIs, fun b e => by cases e; exact ⟨od, hgd, hx.2.1⟩, ?_⟩
  have I2 := I1.kept (t' := s1.toks) (h' := s1.heap.push { cls := .type "dict_values", data := .fields #[.ref d] }) fun b ob q => Heap.get?_push_of_some _ q
  have fin : wpAny (model X.prog X.w) X.A (pyIter (.ref s1.heap.objs.size)) (PIE X pins σ tg R) X.xe { s1 with heap := s1.heap.push { cls := .type "dict_values", data := .fields #[.ref d] } } := by
    refine wpAny_pyIter_values_raw (d := d) ⟨_, Heap.get?_push_size _ rfl, rfl, rfl⟩ (raw.at fun o e => Heap.get?_push_of_some _ e) (pi_one (tk := s1.toks) I2 _ (turn_VB _ hdt) ⟨_, Heap.get?_push_size _ rfl, rfl, ?_⟩ (q hz od bs hk))
    rw [hsz] <;> rfl
  show wpAny _ _ (callWith cpos (.builtin "dict.values") [.ref d] [] []) _ X.xe s1
  exact method_meetsIn F.slot_dict_values F.entry_dict_values rfl (PySem.evalArgs_none ⟨rfl, raw.typeIs, F.args_dict_values_1 _, _, meets_dict_values_raw d hs, ⟨⟨es, ep, raw⟩, fin⟩⟩)
theorem pi_IB {elts : List Expr} {kk : Nat} {tpos : Pos} (he : PE X e td) (hbase : attributeBase e "items" X.env (eval e X.env) = eval e X.env := by rfl) (hline : (apos.endLine == cpos.line) = true := by rfl) :
    PI X (.Tuple elts kk tpos) (.Call (.Attribute e "items" apos) [] [] cpos) (iDT ItIB td) := by
  refine ⟨fun pins s σ H R I h => ?_⟩
  refine wpAny_Call_method (T := "dict") (id := "dict.items") hbase rfl hline F.plainAttrs_dict F.slot_dict_items F.type_dict_items (thn (he.run pins s σ H _ I h) fun u s1 ⟨x, H1, I1, rx, d, kvs, ex, hd, q⟩ => ?_)
  subst ex
  obtain rfl : u = Value.ref d := rx
  obtain ⟨od, I1⟩ := I1.lock hd True.intro
  obtain ⟨hs, hgd, hx, hz, es, ep, hdt, hsz, ⟨bs, hk, hb⟩, ent⟩ := frzT2 I1 upd_same
  have raw : s1.heap.DictRaw d es ep := ⟨od, hgd, hx, hdt⟩
  refine ⟨raw.typeIs, fun b e => by cases e; exact ⟨od, hgd, hx.2.1⟩, ?_⟩
  have I2 := I1.kept (t' := s1.toks) (h' := s1.heap.push { cls := .type "dict_items", data := .fields #[.ref d] }) fun b ob q => Heap.get?_push_of_some _ q
  have fin : wpAny (model X.prog X.w) X.A (pyIter (.ref s1.heap.objs.size)) (PIE X pins σ (.Tuple elts kk tpos) R) X.xe { s1 with heap := s1.heap.push { cls := .type "dict_items", data := .fields #[.ref d] } } := by
    refine wpAny_pyIter_items_raw (d := d) ⟨_, Heap.get?_push_size _ rfl, rfl, rfl⟩ (raw.at fun o e => Heap.get?_push_of_some _ e) (pi_one (tk := s1.toks) I2 _ (turn_IB _ hdt hb) ⟨.none, .none, ?_⟩ (q hz od bs hk))
    rw [← hsz]
    exact Heap.get?_push_size _ rfl
  show wpAny _ _ (callWith cpos (.builtin "dict.items") [.ref d] [] []) _ X.xe s1
  exact method_meetsIn F.slot_dict_items F.entry_dict_items rfl (PySem.evalArgs_none ⟨rfl, raw.typeIs, F.args_dict_items_1 _, _, meets_dict_items_raw d hs, ⟨⟨es, ep, raw⟩, fin⟩⟩)
/-! the data -/
theorem wlk_KB {K : Fg} {F : Hp} {d : Addr} {o : Obj} {es : List (List Key × V)} {kvs : List (D × D)} {bs : List Addr} (hF : F d = some (.frz o (.dT es))) (hl : es.length = kvs.length) (db : DpAll K F (bs.map V.ref) (kvs.map (·.1))) : Wlk K F (ItKB d o es bs) (kvs.map (·.1)) where
  go := fun i H hi e => ⟨e _ _ hF, by rw [List.length_map] at hi; omega⟩
  stop := fun H e => ⟨e _ _ hF, by rw [List.length_map]; omega⟩
  yld := fun i H x H' hi e ⟨y1, b, y2, y3⟩ => by
    subst y1 y3
    obtain ⟨p, hp, dp⟩ := db.getV (i := i) (v := .ref b) (by rw [List.getElem?_map, y2]; rfl)
    exact ⟨p, hp, .inl ⟨rfl, dp⟩⟩
theorem wlk_VB {K : Fg} {F : Hp} {d : Addr} {o : Obj} {es : List (List Key × V)} {kvs : List (D × D)} (hF : F d = some (.frz o (.dT es))) (dv : DtAll K F es kvs) : Wlk K F (ItVB d o es) (kvs.map (·.2)) where
  go := fun i H hi e => ⟨e _ _ hF, by rw [List.length_map] at hi; rw [dv.len]; exact hi⟩
  stop := fun H e => ⟨e _ _ hF, by rw [List.length_map, dv.len]; exact Nat.le_refl _⟩
  yld := fun i H x H' hi e ⟨y1, k, y2⟩ => by
    subst y1
    obtain ⟨q, hq, dp⟩ := dv.getV y2
    exact ⟨q.2, by rw [List.getElem?_map, hq]; rfl, .inl ⟨rfl, dp⟩⟩
theorem wlk_IB {K : Fg} {F : Hp} {d : Addr} {o : Obj} {es : List (List Key × V)} {kvs : List (D × D)} {bs : List Addr} (hF : F d = some (.frz o (.dT es))) (dv : DtAll K F es kvs) (db : DpAll K F (bs.map V.ref) (kvs.map (·.1))) : Wlk K F (ItIB d o es bs) (kvs.map fun q => .tuple [q.1, q.2]) where
  go := fun i H hi e => ⟨e _ _ hF, by rw [List.length_map] at hi; rw [dv.len]; exact hi⟩
  stop := fun H e => ⟨e _ _ hF, by rw [List.length_map, dv.len]; exact Nat.le_refl _⟩
  yld := fun i H x H' hi e ⟨T, b, k, v, y1, y2, y3, y4, y5⟩ => by
    subst y3 y5
    obtain ⟨p, hp, dp⟩ := db.getV (i := i) (v := .ref b) (by rw [List.getElem?_map, y1]; rfl)
    obtain ⟨q, hq, dq⟩ := dv.getV y2
    rw [List.getElem?_map, hq] at hp
    have hp' : q.1 = p := Option.some.inj hp
    subst hp'
    exact ⟨.tuple [q.1, q.2], by rw [List.getElem?_map, hq]; rfl, .inr ⟨T, _, _, _, _, rfl, y4, rfl, rfl, dp, dq⟩⟩
theorem iDT_of {K : Fg} {J : Addr → Obj → List (List Key × V) → List Addr → It} {h : Rho → Option (List (D × D))} {m : D × D → D} (wk : ∀ (F : Hp) d o es kvs bs, F d = some (.frz o (.dT es)) → DtAll K F es kvs → DpAll K F (bs.map V.ref) (kvs.map (·.1)) → Wlk K F (J d o es bs) (kvs.map m))
    {σ : St} {H : Hp} {R : It → Hp → Prop} (q : tI K (fW fun ρ => (h ρ).map fun kvs => kvs.map m) σ H R) : iDT J (tFD K h) σ H R := by
  obtain ⟨B, F, ρ, R0, z, e, k⟩ := q
  obtain ⟨kvs, e1, rfl⟩ := Option.map_eq_some_iff.mp e
  refine ⟨B, F, ρ, R0, kvs, e1, fun a es F' H' sF n hH dv rs => ⟨a, es, rfl, hH, fun hz od bs hk => ?_⟩⟩
  have R1 := rs (.frz od (.dT es))
  have s1 : Same F (upd F' a (.frz od (.dT es))) := sF.trans (same_upd n)
  have dv1 : DtAll K (upd F' a (.frz od (.dT es))) es kvs := dv.same (same_upd n)
  obtain ⟨F2, R2, s2, db⟩ := R1.frzKs dv1 hk
  exact k F2 _ _ R2 (s1.trans s2) (by rw [List.length_map, ← dv.len]; exact hz) (wk F2 a od es kvs bs (s2 _ _ upd_same) (dv1.same s2) db)
def fKeysC (h : Rho → Option (List (D × D))) : Rho → Option (List D) := fun ρ => (h ρ).map fun kvs => kvs.map (·.1)
def fValsC (h : Rho → Option (List (D × D))) : Rho → Option (List D) := fun ρ => (h ρ).map fun kvs => kvs.map (·.2)
def fItemsC (h : Rho → Option (List (D × D))) : Rho → Option (List D) := fun ρ => (h ρ).map fun kvs => kvs.map fun q => .tuple [q.1, q.2]
theorem if_keysC {h : Rho → Option (List (D × D))} (he : PE X e (tFD X.K h)) : IF X tg e (fKeysC h) :=
  ⟨fW_mono, PI.imp (pi_KB he) fun σ H R q => iDT_of (fun F d o es kvs bs hF dv db => wlk_KB hF dv.len db) q⟩
theorem if_valsC {h : Rho → Option (List (D × D))} (he : PE X e (tFD X.K h)) (hbase : attributeBase e "values" X.env (eval e X.env) = eval e X.env := by rfl) (hline : (apos.endLine == cpos.line) = true := by rfl) : IF X tg (.Call (.Attribute e "values" apos) [] [] cpos) (fValsC h) :=
  ⟨fW_mono, PI.imp (pi_VB he hbase hline) fun σ H R q => iDT_of (fun F d o es kvs bs hF dv db => wlk_VB hF dv) q⟩
theorem if_itemsC {elts : List Expr} {kk : Nat} {tpos : Pos} {h : Rho → Option (List (D × D))} (he : PE X e (tFD X.K h)) (hbase : attributeBase e "items" X.env (eval e X.env) = eval e X.env := by rfl) (hline : (apos.endLine == cpos.line) = true := by rfl) : IF X (.Tuple elts kk tpos) (.Call (.Attribute e "items" apos) [] [] cpos) (fItemsC h) :=
  ⟨fW_mono, PI.imp (pi_IB he hbase hline) fun σ H R q => iDT_of (fun F d o es kvs bs hF dv db => wlk_IB hF dv db) q⟩
/-! ### a name for the dict that a call made, locked -/
def tLk (td : TE) : TE := fun σ H Q => td σ H fun x H1 => ∃ d es, x = .ref d ∧ H1 d = some (.dT es) ∧ ∀ od, Q x (upd H1 d (.frz od (.dT es)))
theorem pe_lk (he : PE X e td) : PE X e (tLk td) := by
  refine ⟨fun pins s σ H Q I h => ?_⟩
  refine thn (he.run pins s σ H _ I h) fun u s1 ⟨x, H1, I1, rx, d, kvs, ex, hd, q⟩ => ?_
  obtain ⟨od, I2⟩ := I1.lock hd True.intro
  exact ⟨x, _, I2, rx, q od⟩
def sSetZ (i : Nat) (h : Rho → Option (List (D × D))) : Rho → Option Fl := fun ρ => (h ρ).map fun kvs => .nx (ρ.set i (.fz kvs))
theorem sf_setZ {i : Nat} {x : Str} {h : Rho → Option (List (D × D))} {p' pos : Pos} (hN : X.N.Nodup) (hi : X.N[i]? = some x) (hx : Loc X.env.scope x) (he : PE X e (tFD X.K h)) (hs : swapsWith e (some (.Name x p')) pos.line X.env = pure false := by rfl)
    (hf : X.fn x = true ∨ X.env.scope.names.lookup x = some .local := by first | exact .inl rfl | exact .inr rfl | assumption) : SF X (.Assign [.Name x p'] e pos) (sSetZ i h) :=
  ⟨fW_mono, (ps_set hN hi hx (pe_lk he) hs hf).imp fun En σ H ⟨B, F, ρ, R, fl, e0, k⟩ => by
    obtain ⟨kvs, e1, rfl⟩ := Option.map_eq_some_iff.mp e0
    exact ⟨B, F, ρ, R, kvs, e1, fun a es F' H' sF n hH dv rs => ⟨a, es, rfl, hH, fun od => k _ _ _ ((rs (.frz od (.dT es))).put (.fz upd_same (dv.same (same_upd n))) rfl) (sF.trans (same_upd n))⟩⟩⟩
def slotZ (i : Nat) : Rho → Option (List (D × D)) := fun ρ => match ρ[i]? with
  | some (.fz kvs) => some kvs
  | _ => none
def tFZ (K : Fg) (i : Nat) : TE := fun σ H Q => ∃ B F ρ, Rs K B F H σ ρ ∧ ∃ kvs, slotZ i ρ = some kvs ∧ ∀ a o es, F a = some (.frz o (.dT es)) → DtAll K F es kvs → Q (.ref a) H
theorem pe_varZ {i : Nat} {x : Str} {pos : Pos} (hN : X.N[i]? = some x) (hv : Vis X.env.scope x) (hd : (x == ("__debug__" : Str)) = false := by decide) (hcd : (x == ("__classdict__" : Str)) = false := by decide) : PE X (.Name x pos) (tFZ X.K i) :=
  (pe_var hN hv hd hcd).imp fun σ H Q ⟨B, F, ρ, R, kvs, e, q⟩ => by
    unfold slotZ at e
    split at e
    · rename_i s hs
      cases e
      have z := R.at_ i _ hs
      generalize hσ : σ[i]? = o at z
      cases z with
      | fz f d => exact ⟨_, hσ, q _ _ _ f d⟩
    · cases e
def iDZ (J : Addr → Obj → List (List Key × V) → List Addr → It) (te : TE) : TI := fun σ H R => te σ H fun x H1 => ∃ d od es, x = .ref d ∧ H1 d = some (.frz od (.dT es)) ∧
  (es.length ≤ sizeLine → ∀ bs, IsKeys H1 es bs → R (J d od es bs) H1)
theorem pi_KZ (he : PE X e td) : PI X tg e (iDZ ItKB td) := by
  refine ⟨fun pins s σ H R I h => ?_⟩
  refine thn (he.run pins s σ H _ I h) fun u s1 ⟨x, H1, I2, rx, d, od, kvs, ex, hd, q⟩ => ?_
  subst ex
  obtain rfl : u = Value.ref d := rx
  obtain ⟨hs, hgd, hx, hz, es, ep, hdt, hsz, ⟨bs, hk, hb⟩, ent⟩ := frzT2 I2 hd
  refine iter_keys hs hgd hx hdt (pi_one (tk := s1.toks) I2 _ (turn_KB _ hdt hb) ⟨_, Heap.get?_push_size _ rfl, rfl, ?_⟩ (q hz bs hk))
  rw [hsz] <;> rfl
theorem pi_VZ (he : PE X e td) (hbase : attributeBase e "values" X.env (eval e X.env) = eval e X.env := by rfl) (hline : (apos.endLine == cpos.line) = true := by rfl) : PI X tg (.Call (.Attribute e "values" apos) [] [] cpos) (iDZ (fun d o es _ => ItVB d o es) td) := by
  refine ⟨fun pins s σ H R I h => ?_⟩
  refine wpAny_Call_method (T := "dict") (id := "dict.values") hbase rfl hline F.plainAttrs_dict F.slot_dict_values F.type_dict_values (thn (he.run pins s σ H _ I h) fun u s1 ⟨x, H1, I1, rx, d, od, kvs, ex, hd, q⟩ => ?_)
  subst ex
  obtain rfl : u = Value.ref d := rx
  obtain ⟨hs, hgd, hx, hz, es, ep, hdt, hsz, ⟨bs, hk, hb⟩, ent⟩ := frzT2 I1 hd
  have raw : s1.heap.DictRaw d es ep := ⟨od, hgd, hx, hdt⟩
  refine ⟨raw.typeIs, fun b e => by cases e; exact ⟨od, hgd, hx.2.1⟩, ?_⟩
  have I2 := I1.kept (t' := s1.toks) (h' := s1.heap.push { cls := .type "dict_values", data := .fields #[.ref d] }) fun b ob q => Heap.get?_push_of_some _ q
  have fin : wpAny (model X.prog X.w) X.A (pyIter (.ref s1.heap.objs.size)) (PIE X pins σ tg R) X.xe { s1 with heap := s1.heap.push { cls := .type "dict_values", data := .fields #[.ref d] } } := by
    refine wpAny_pyIter_values_raw (d := d) ⟨_, Heap.get?_push_size _ rfl, rfl, rfl⟩ (raw.at fun o e => Heap.get?_push_of_some _ e) (pi_one (tk := s1.toks) I2 _ (turn_VB _ hdt) ⟨_, Heap.get?_push_size _ rfl, rfl, ?_⟩ (q hz bs hk))
    rw [hsz] <;> rfl
  show wpAny _ _ (callWith cpos (.builtin "dict.values") [.ref d] [] []) _ X.xe s1
  exact method_meetsIn F.slot_dict_values F.entry_dict_values rfl (PySem.evalArgs_none ⟨rfl, raw.typeIs, F.args_dict_values_1 _, _, meets_dict_values_raw d hs, ⟨⟨es, ep, raw⟩, fin⟩⟩)
theorem pi_IZ {elts : List Expr} {kk : Nat} {tpos : Pos} (he : PE X e td) (hbase : attributeBase e "items" X.env (eval e X.env) = eval e X.env := by rfl) (hline : (apos.endLine == cpos.line) = true := by rfl) :
    PI X (.Tuple elts kk tpos) (.Call (.Attribute e "items" apos) [] [] cpos) (iDZ ItIB td) := by
  refine ⟨fun pins s σ H R I h => ?_⟩
  refine wpAny_Call_method (T := "dict") (id := "dict.items") hbase rfl hline F.plainAttrs_dict F.slot_dict_items F.type_dict_items (thn (he.run pins s σ H _ I h) fun u s1 ⟨x, H1, I1, rx, d, od, kvs, ex, hd, q⟩ => ?_)
  subst ex
  obtain rfl : u = Value.ref d := rx
  obtain ⟨hs, hgd, hx, hz, es, ep, hdt, hsz, ⟨bs, hk, hb⟩, ent⟩ := frzT2 I1 hd
  have raw : s1.heap.DictRaw d es ep := ⟨od, hgd, hx, hdt⟩
  refine ⟨raw.typeIs, fun b e => by cases e; exact ⟨od, hgd, hx.2.1⟩, ?_⟩
  have I2 := I1.kept (t' := s1.toks) (h' := s1.heap.push { cls := .type "dict_items", data := .fields #[.ref d] }) fun b ob q => Heap.get?_push_of_some _ q
  have fin : wpAny (model X.prog X.w) X.A (pyIter (.ref s1.heap.objs.size)) (PIE X pins σ (.Tuple elts kk tpos) R) X.xe { s1 with heap := s1.heap.push { cls := .type "dict_items", data := .fields #[.ref d] } } := by
    refine wpAny_pyIter_items_raw (d := d) ⟨_, Heap.get?_push_size _ rfl, rfl, rfl⟩ (raw.at fun o e => Heap.get?_push_of_some _ e) (pi_one (tk := s1.toks) I2 _ (turn_IB _ hdt hb) ⟨.none, .none, ?_⟩ (q hz bs hk))
    rw [← hsz]
    exact Heap.get?_push_size _ rfl
  show wpAny _ _ (callWith cpos (.builtin "dict.items") [.ref d] [] []) _ X.xe s1
  exact method_meetsIn F.slot_dict_items F.entry_dict_items rfl (PySem.evalArgs_none ⟨rfl, raw.typeIs, F.args_dict_items_1 _, _, meets_dict_items_raw d hs, ⟨⟨es, ep, raw⟩, fin⟩⟩)
theorem iDZ_of {K : Fg} {J : Addr → Obj → List (List Key × V) → List Addr → It} {i : Nat} {m : D × D → D} (wk : ∀ (F : Hp) d o es kvs bs, F d = some (.frz o (.dT es)) → DtAll K F es kvs → DpAll K F (bs.map V.ref) (kvs.map (·.1)) → Wlk K F (J d o es bs) (kvs.map m))
    {σ : St} {H : Hp} {R : It → Hp → Prop} (q : tI K (fW fun ρ => (slotZ i ρ).map fun kvs => kvs.map m) σ H R) : iDZ J (tFZ K i) σ H R := by
  obtain ⟨B, F, ρ, R0, z, e, k⟩ := q
  obtain ⟨kvs, e1, rfl⟩ := Option.map_eq_some_iff.mp e
  refine ⟨B, F, ρ, R0, kvs, e1, fun a o es f d => ⟨a, o, es, rfl, R0.sub _ _ f, fun hz bs hk => ?_⟩⟩
  obtain ⟨F2, R2, s2, db⟩ := R0.frzKs d hk
  exact k F2 _ _ R2 s2 (by rw [List.length_map, ← d.len]; exact hz) (wk F2 a o es kvs bs (s2 _ _ f) (d.same s2) db)
section
variable {x : Str} {px : Pos} {i : Nat}
theorem if_keysZ (hN : X.N[i]? = some x) (hv : Vis X.env.scope x) (hd : (x == ("__debug__" : Str)) = false := by decide) (hcd : (x == ("__classdict__" : Str)) = false := by decide) : IF X tg (.Name x px) (fKeysC (slotZ i)) :=
  ⟨fW_mono, PI.imp (pi_KZ (pe_varZ hN hv hd hcd)) fun σ H R q => iDZ_of (fun F d o es kvs bs hF dv db => wlk_KB hF dv.len db) q⟩
theorem if_valsZ (hN : X.N[i]? = some x) (hv : Vis X.env.scope x) (hd : (x == ("__debug__" : Str)) = false := by decide) (hcd : (x == ("__classdict__" : Str)) = false := by decide) (hbase : attributeBase (.Name x px) "values" X.env (eval (.Name x px) X.env) = eval (.Name x px) X.env := by rfl) (hline : (apos.endLine == cpos.line) = true := by rfl) : IF X tg (.Call (.Attribute (.Name x px) "values" apos) [] [] cpos) (fValsC (slotZ i)) :=
  ⟨fW_mono, PI.imp (pi_VZ (pe_varZ hN hv hd hcd) hbase hline) fun σ H R q => iDZ_of (fun F d o es kvs bs hF dv db => wlk_VB hF dv) q⟩
theorem if_itemsZ {elts : List Expr} {kk : Nat} {tpos : Pos} (hN : X.N[i]? = some x) (hv : Vis X.env.scope x) (hd : (x == ("__debug__" : Str)) = false := by decide) (hcd : (x == ("__classdict__" : Str)) = false := by decide) (hbase : attributeBase (.Name x px) "items" X.env (eval (.Name x px) X.env) = eval (.Name x px) X.env := by rfl) (hline : (apos.endLine == cpos.line) = true := by rfl) : IF X (.Tuple elts kk tpos) (.Call (.Attribute (.Name x px) "items" apos) [] [] cpos) (fItemsC (slotZ i)) :=
  ⟨fW_mono, PI.imp (pi_IZ (pe_varZ hN hv hd hcd) hbase hline) fun σ H R q => iDZ_of (fun F d o es kvs bs hF dv db => wlk_IB hF dv db) q⟩
end
end
end L2.P

set_option Elab.async false
set_option linter.all false
set_option maxRecDepth 100000
set_option maxHeartbeats 4000000
/-! PL53: max(a, b), min(a, b) of ints; list(f(..).values()). -/
namespace L2.P
open PySem PySem.Spec PyProof.Rows L2
section
variable {X : Cx} {a b : Expr} {p pos : Pos}
def gMax2 : GA
  | [.int i, .int j] => some (.int (if j > i then j else i))
  | _ => none
def gMin2 : GA
  | [.int i, .int j] => some (.int (if j < i then j else i))
  | _ => none
theorem cg_max2 (hc : X.calm = true) : CallG X (.builtin "max") gMax2 := ⟨_, call_max2 hc, fun B F H σ ρ vs ps z Q R d e k => by
  unfold gMax2 at e
  split at e
  · cases e
    obtain ⟨v, u, rfl, h1, h2⟩ := dp2 (d.dp R)
    exact ⟨_, _, by rw [Dp.inv_int h1, Dp.inv_int h2], k F H _ R (Same.refl _) (.int _)⟩
  · cases e⟩
theorem cg_min2 (hc : X.calm = true) : CallG X (.builtin "min") gMin2 := ⟨_, call_min2 hc, fun B F H σ ρ vs ps z Q R d e k => by
  unfold gMin2 at e
  split at e
  · cases e
    obtain ⟨v, u, rfl, h1, h2⟩ := dp2 (d.dp R)
    exact ⟨_, _, by rw [Dp.inv_int h1, Dp.inv_int h2], k F H _ R (Same.refl _) (.int _)⟩
  · cases e⟩
theorem c_max2 {f : Rho → Option (List D)} (B : Bi X.mg) (h : XAF X [a, b] f) (hc : X.calm = true := by rfl) (hg : Gl X "max" := by rfl) (he : starEach [a, b] X.env = (false, eval a X.env) :: starEach [b] X.env := by rfl) (hpl : (backTo pos (starEach [b] X.env)).any (·.1) = false := by rfl) :
    EF X (.Call (.Name "max" p) [a, b] [] pos) (aOf gMax2 f) := EW.f (ew_callB (cg_max2 hc) h hg B.max bt_max (he := he) (hpl := hpl))
theorem c_min2 {f : Rho → Option (List D)} (B : Bi X.mg) (h : XAF X [a, b] f) (hc : X.calm = true := by rfl) (hg : Gl X "min" := by rfl) (he : starEach [a, b] X.env = (false, eval a X.env) :: starEach [b] X.env := by rfl) (hpl : (backTo pos (starEach [b] X.env)).any (·.1) = false := by rfl) :
    EF X (.Call (.Name "min" p) [a, b] [] pos) (aOf gMin2 f) := EW.f (ew_callB (cg_min2 hc) h hg B.min bt_min (he := he) (hpl := hpl))
end
/-! list(d.values()) -/
def valuesO (p d : Addr) : HO := .ext fun h => h.IsValuesView p d
theorem valuesO_ok {P : Program} {w : World} {H : Hp} {h : Heap} {p d : Addr} (e : h.get? p = some { cls := .type "dict_values", data := .fields #[.ref d] }) : ObjOk P w H h p (valuesO p d) :=
  ⟨⟨_, e, rfl, rfl⟩, ⟨_, e⟩, fun h1 h2 x k => let ⟨o, ho, r⟩ := x; ⟨o, k o ho, r⟩⟩
section
variable {X : Cx} {e : Expr} {td : TE} {p pos apos cpos : Pos}
def tVw (td : TE) : TE := fun σ H Q => td σ H fun x H1 => ∃ d es, x = .ref d ∧ H1 d = some (.dT es) ∧ ∀ q, H1 q = none → Q (.ref q) (upd H1 q (valuesO q d))
theorem pe_vw (he : PE X e td) (hbase : attributeBase e "values" X.env (eval e X.env) = eval e X.env := by rfl) (hline : (apos.endLine == cpos.line) = true := by rfl) : PE X (.Call (.Attribute e "values" apos) [] [] cpos) (tVw td) := by
  refine ⟨fun pins s σ H Q I h => ?_⟩
  refine wpAny_Call_method (T := "dict") (id := "dict.values") hbase rfl hline F.plainAttrs_dict F.slot_dict_values F.type_dict_values (thn (he.run pins s σ H _ I h) fun u s1 ⟨x, H1, I1, rx, d, kvs, ex, hd, q⟩ => ?_)
  subst ex
  obtain rfl : u = Value.ref d := rx
  obtain ⟨hz, hs, xs, pr, o, es, ep, hgd, hx, hdt, _⟩ := dt_of I1.hok hd
  have raw : s1.heap.DictRaw d es ep := ⟨o, hgd, hx, hdt⟩
  refine ⟨raw.typeIs, fun b e => by cases e; exact ⟨o, hgd, hx.2.1⟩, ?_⟩
  have hn : H1 s1.heap.objs.size = none := I1.hok.fresh (Nat.le_refl _)
  show wpAny _ _ (callWith cpos (.builtin "dict.values") [.ref d] [] []) _ X.xe s1
  exact method_meetsIn F.slot_dict_values F.entry_dict_values rfl (PySem.evalArgs_none ⟨rfl, raw.typeIs, F.args_dict_values_1 _, _, meets_dict_values_raw d hs, ⟨⟨es, ep, raw⟩,
    ⟨.ref s1.heap.objs.size, upd H1 s1.heap.objs.size (valuesO s1.heap.objs.size d), I1.laid (t' := s1.toks) (fun b u e => Heap.get?_push_of_some _ e) (Nat.le_refl _) (valuesO_ok (Heap.get?_push_size _ rfl)), rfl, q _ hn⟩⟩⟩)
def rListV : List V → Hp → VK → Prop := fun xs H Q => ∃ p d kvs, xs = [V.ref p] ∧ H p = some (valuesO p d) ∧ H d = some (.dT kvs) ∧ ∀ q, H q = none → Q (.ref q) (upd H q (.lst (kvs.map (·.2))))
theorem vals_of_paired {H : Hp} : ∀ {kvs : List (List Key × V)} {ks : List (List Key × Addr × Value)}, KT H kvs ks → Vals (kvs.map (·.2)) (ks.map fun x => x.2.2)
  | _, _, .nil => .nil
  | _, _, .cons h t => .cons h.2.2 (vals_of_paired t)
theorem call_listV (hc : X.calm = true) : CallR X (.type "list") rListV := by
  intro pins s σ H xs us Q I r h
  obtain ⟨p, d, kvs, rfl, hp, hd, q⟩ := h
  obtain ⟨u, rfl, rx⟩ := r.one
  cases rx
  obtain ⟨z, hs, ks, pr, o, es, ep, ho, hx, hdt, he, hn⟩ := dt_of I.hok hd
  obtain ⟨hv, _, _⟩ : ObjOk X.prog X.w H s.heap p (valuesO p d) := I.hok p _ hp
  have l1 : es.size = ks.length := size_of_entries he
  have l2 : kvs.length = ks.length := Paired.length pr
  refine PySem.W.kdl_call (PySem.KdlSrc.rawValues (r := p) (d := d) (es := es) (ep := ep)) (I.ok.hd hc) ⟨hv, ⟨o, ho, hx, hdt⟩⟩ (by omega) fun h' tk acc' c' kp e it => ?_
  have ea : acc'.toList = ks.map fun x => x.2.2 := by
    have hl : acc'.toList.length = ks.length := by rw [Array.length_toList, it.1]; exact l1
    apply List.ext_getElem?
    intro j
    rw [List.getElem?_map]
    cases hj : acc'.toList[j]? with
    | none =>
      have h1 := List.getElem?_eq_none_iff.mp hj
      rw [List.getElem?_eq_none (by omega)]
      all_goals rfl
    | some v =>
      obtain ⟨hi, hv⟩ := it.2 j v (by rw [← Array.getElem?_toList]; exact hj)
      have qe := entry_at he j
      rw [Array.getElem?_eq_getElem hi] at qe
      cases hb : ks[j]? with
      | none =>
        rw [hb] at qe
        exact nomatch (show some _ = none from qe)
      | some b =>
        rw [hb] at qe
        have e2 : es[j] = entryOfKey (tupleKind (mixKind X.prog X.w)) b := Option.some.inj qe
        rw [hv, e2]
        all_goals rfl
  have rv : Vals (kvs.map (·.2)) acc'.toList := by rw [ea]; exact vals_of_paired pr
  refine ⟨.ref s.heap.objs.size, _, I.laid (t' := tk) (o := .lst (kvs.map (·.2))) kp (Nat.le_refl _) ?_, rfl, q _ (I.hok.fresh (Nat.le_refl _))⟩
  exact ⟨by rw [List.length_map]; omega, acc'.toList, c', rv, by rw [Array.toArray_toList]; exact e⟩
theorem dtAll_vals {K : Fg} {F : Hp} : ∀ {es : List (List Key × V)} {kvs : List (D × D)}, DtAll K F es kvs → DpAll K F (es.map (·.2)) (kvs.map (·.2))
  | _, _, .nil => .nil
  | _, _, .cons d r => .cons d (dtAll_vals r)
theorem nf_listVals {h : Rho → Option (List (D × D))} (bi : Bi X.mg) (he : PE X e (tFD X.K h)) (hc : X.calm = true := by rfl) (hg : Gl X "list" := by rfl)
    (hbase : attributeBase e "values" X.env (eval e X.env) = eval e X.env := by rfl) (hline : (apos.endLine == cpos.line) = true := by rfl)
    (hs : starEach [.Call (.Attribute e "values" apos) [] [] cpos] X.env = (false, eval (.Call (.Attribute e "values" apos) [] [] cpos) X.env) :: starEach [] X.env := by rfl) :
    NF X (.Call (.Name "list" p) [.Call (.Attribute e "values" apos) [] [] cpos] [] pos) (fValsC h) :=
  ⟨fW_mono, (pe_callTy (call_listV hc) hg bi.list bt_list (pa_cons (pe_vw he hbase hline) pa_nil hs) (he := hs) (hpl := rfl)).imp fun σ H Q ⟨B, F, ρ, R, z, e0, q⟩ => by
    obtain ⟨kvs, e1, rfl⟩ := Option.map_eq_some_iff.mp e0
    refine ⟨B, F, ρ, R, kvs, e1, fun a es F' H' sF n hH dv rs => ⟨a, es, rfl, hH, fun v hv => ?_⟩⟩
    have R1 := rs (.dT es)
    have eH : upd H' a (.dT es) = H' := by
      funext b
      by_cases hb : b = a
      · subst hb; rw [upd_same, hH]
      · rw [upd_ne hb]
    rw [eH] at R1
    have na : v ≠ a := fun z => by rw [z, hH] at hv; cases hv
    refine ⟨v, a, es, rfl, upd_same, by rw [upd_ne (Ne.symm na)]; exact hH, fun l hl => ?_⟩
    exact q _ _ _ _ (R1.lay hv) (sF.trans (same_upd n)) hl ((dtAll_vals dv).same (same_upd n))⟩
end
end L2.P

set_option Elab.async false
set_option linter.all false
set_option maxRecDepth 100000
set_option maxHeartbeats 1000000
/-! PL54: t * k of a tuple, k at least 1. -/
namespace L2.P
open PySem PySem.Spec PyProof.Rows L2
theorem tuple_mul1 (l : Addr) (items : Array Value) (n : Nat) (sl : Array (Option Value)) (dd : Option Addr) (u : Tok) :
    Meets (Builtin.«tuple.__mul__» ⟨[.ref l, .int 1 u], []⟩) (fun _ R s => s.heap.get? l = some { cls := .type "tuple", dict := dd, data := .seq items n, slots := sl } ∧
      R (.ok (.ret (Value.ref l))) s) :=
  .of_wp fun prog w A R s h => by
    obtain ⟨hp, g, d, tk, os⟩ := s
    obtain ⟨hl, h⟩ := h
    have c1 : (items.isEmpty || (1 : Int) == 1) = true := by simp
    have f1 := AutoSeq1.idx_int
    wp_walk using wpAny_loadPart' hl
    exact ⟨_, rfl, h⟩
section
variable {X : Cx} {a b : Expr} {pos : Pos}
def rRep1 (K : PySem.W.Frag) : R2 := fun x y H Q => ∃ l xs, x = .ref l ∧ y = .int 1 ∧ SqT K H l xs ∧ Q (.ref l) H
theorem op_rep1 : OpR X (binaryOp .Mult) (rRep1 X.K) := by
  intro pins s σ H x y v u Q I rx ry h
  obtain ⟨l, xs, rfl, rfl, hT, q⟩ := h
  cases rx
  obtain ⟨t, rfl⟩ := ry
  obtain ⟨its, r, ⟨⟨cls, dd, data, sl⟩, ho, hc, n, hd⟩, hs⟩ := I.tuple hT
  simp only at hc hd
  subst hc hd
  refine wpAny_binaryOp_repeat_ref (T := "tuple") (U := "int") (by decide) ⟨_, ho, rfl⟩ (fun s' => typeIs_int s' 1 t) noFill_tuple_mul F.fills_int_mul F.slot_int_rmul repeat_tuple F.slot_int_index.lookup
    (call_meets F.slot_int_rmul (typeIs_int s 1 t) F.entry_int_rmul (F.args_int_rmul_2 _ _) (int_rmul_tuple 1 t l its.toArray n dd sl)
      ⟨ho, rfl, ⟨_, ho, rfl⟩, call_meets F.slot_tuple_mul ⟨_, ho, rfl⟩ F.entry_tuple_mul (F.args_tuple_mul_2 _ _) (tuple_mul1 l its.toArray n sl dd t) ⟨ho, ?_⟩⟩)
  exact ⟨.ref l, H, I, rfl, q⟩
theorem op_or {f : Value → Value → Sem Value} {r r' : R2} (h : OpR X f r) (h' : OpR X f r') : OpR X f (fun x y H Q => r x y H Q ∨ r' x y H Q) := fun pins s σ H x y v u Q I rx ry h0 => h0.elim (h pins s σ H x y v u Q I rx ry) (h' pins s σ H x y v u Q I rx ry)
def dMulT : G2
  | .tuple xs, .int k => if (xs ≠ [] ∧ xs.length ≤ 1000) ∧ 1 ≤ k ∧ k ≤ 1000 then some (.tuple (List.replicate k.toNat xs).flatten) else none
  | _, _ => none
theorem og_mulT : OpG X (binaryOp .Mult) dMulT := ⟨_, op_or op_repT op_rep1, fun B F H σ ρ x y p q z Q R dx dy e k => by
  unfold dMulT at e
  split at e
  · rename_i xs j
    split at e
    · rename_i hh
      obtain ⟨⟨hne, hl⟩, h1, h2⟩ := hh
      cases e
      obtain ⟨a, ys, rfl, hs, r⟩ := Dp.inv_tup (pk_tup dx)
      obtain rfl := Dp.inv_int (dy.dp (Same.refl _) R)
      have hlen := r.length
      by_cases hk : j = 1
      · subst hk
        refine .inr ⟨a, ys, rfl, rfl, sqT_same R.sub hs, k F H _ R (Same.refl _) ?_⟩
        have e1 : (List.replicate (1 : Int).toNat xs).flatten = xs := by
          show (List.replicate 1 xs).flatten = xs
          simp
        rw [e1]
        exact pk_tup dx
      · refine .inl ⟨a, j, ys, rfl, rfl, sqT_same R.sub hs, fun z => hne (by rw [z] at hlen; exact List.eq_nil_of_length_eq_zero hlen.symm), by omega, h2, by omega, fun l hl2 => ?_⟩
        have n' := R.sub.free hl2
        exact k _ _ _ (R.grow hl2) (same_upd n') (.tup upd_same ((dpAll_rep r _).same (same_upd n')))
    · cases e
  · cases e⟩
end
end L2.P

set_option Elab.async false
set_option linter.all false
set_option maxRecDepth 100000
set_option maxHeartbeats 4000000
/-! PL55: two-tuples of ints that the module binds (rqD): names, index, compare, sorted. -/
namespace L2.P
open PySem PySem.Spec PyProof.Rows L2
/-! ### the name -/
/-- K holds the tuple (i, j) at a -/
def twoIn (K : Fg) (a : Addr) (i j : Int) : Bool := tupIn K a [.int i, .int j]
theorem twoIn_ok {K : Fg} {a : Addr} {i j : Int} (h : twoIn K a i j = true) : ∀ F, Dp K F (.ref a) (rqD i j) := by
  intro F
  unfold twoIn tupIn at h
  split at h
  · rename_i c od its n sl q
    obtain ⟨h1, h2⟩ := Bool.and_eq_true_iff.mp h
    obtain ⟨h3, h4⟩ := Bool.and_eq_true_iff.mp h2
    obtain ⟨xs, r, d⟩ := cAre_ok h4
    have := dpAll_ints (K := K) (F := F) [i, j] (d K F)
    subst this
    exact .q q (congrArg Value.type (of_decide_eq_true h1)) rfl (of_decide_eq_true h3) r
  · cases h
def GTwo (K : Fg) (mg : Str → Option Value) (x : Str) (i j : Int) : Prop := ∃ a, mg x = some (.ref a) ∧ ∀ F, Dp K F (.ref a) (rqD i j)
section
variable {X : Cx}
theorem ef_gtwo {i j : Int} {x : Str} {pos : Pos} (h : GTwo X.K X.mg x i j) (hg : Gl X x := by rfl) (hd : (x == ("__debug__" : Str)) = false := by decide) : EF X (.Name x pos) (gC (rqD i j)) := by
  obtain ⟨a, h, d⟩ := h
  exact ⟨fW_mono, (pe_glob (v := .ref a) hg h rfl hd).imp fun σ H Q ⟨B, F, ρ, R, p', e, q⟩ => by
    cases e
    exact q F H _ R (Same.refl _) (d F)⟩
/-! ### index -/
def dIxN : G2
  | .dict [(.int i, .dict [(.none, .none)]), (.int j, .dict [(.none, .none)])], .int k => atI [.int i, .int j] k
  | p, q => dIx p q
theorem ix_okN {K : Fg} {B : Bs} {F H : Hp} {σ : St} {ρ : Rho} {x y : V} {p q z : D} {Q : VK} (R : Rs K B F H σ ρ) (hx : Pk K F σ ρ x p) (hy : Dp K H y q) (e : dIxN p q = some z) (k : ∀ v, Dp K F v z → Q v H) : rIx K x y H Q := by
  unfold dIxN at e
  split at e
  · rename_i i j k'
    rcases hx with h | ⟨_, _, _, _, h⟩ | ⟨n, t, kvs, h1, h2, h3⟩
    · obtain ⟨a, rfl, hd⟩ := Dp.inv_dictQ h
      rcases hd with ⟨es, _, r⟩ | ⟨es, _, r⟩ | ⟨i1, i2, h0, hs⟩
      · exfalso
        cases r with
        | cons d r => cases d with
          | dk _ r => cases r
          | dt _ r => cases r
      · cases r
      · cases h0
        obtain ⟨jj, e1, e2⟩ := atI_len (xs := [V.int i, V.int j]) (ys := [PyData.int i, .int j]) rfl e
        have hdp : DpAll K F [V.int i, V.int j] [.int i, .int j] := .cons (.int _) (.cons (.int _) .nil)
        obtain ⟨v, hv, d⟩ := hdp.get e1
        exact .inr (.inl ⟨a, [.int i, .int j], _, v, rfl, Dp.inv_int hy, hs _, e2 v hv, k v d⟩)
    · cases h
    · exfalso
      have h3' : kvs = [(.int i, mkD), (.int j, mkD)] := (PyData.dict.inj h3).symm
      have q := R.at_ n _ h1
      rw [h2] at q
      cases q with
      | od f h0 h4 =>
        subst h3'
        cases t with
        | false =>
          obtain ⟨es, e3, r⟩ := h4
          cases r with
          | cons d r => cases d with
            | dk _ r => cases r
            | dt _ r => cases r
        | true =>
          obtain ⟨es, e3, r⟩ := h4
          cases r
  · exact ix_ok R hx hy e k
variable {a b : Expr} {pos : Pos}
theorem ew_ixN {T1 T2 : TW} (ha : XW X a T1) (hb : XW X b T2) (hs : PlainIx b := by intro _ _; rfl) : EW X (.Subscript a b pos) (w2 dIxN T1 T2) :=
  ⟨w2_mono ha.mono hb.mono, (pe_ix ix_seq ha.pe hb.pe hs).imp fun σ H Q ⟨B, F, ρ, R, q⟩ => by
    refine ⟨B, F, ρ, R, ha.mono _ _ _ (fun x qx F1 H1 v1 R1 e1 d1 => ?_) q⟩
    refine ⟨B, F1, ρ, R1, hb.mono _ _ _ (fun y ⟨z, ez, qz⟩ F2 H2 v2 R2 e2 d2 => ?_) qx⟩
    exact ix_okN R2 (d1.mono e2) (d2.dp (Same.refl _) R2) ez fun v d => qz F2 H2 v R2 (e1.trans e2) d⟩
theorem ef_ixN {f1 f2 : Rho → Option D} (ha : XF X a f1) (hb : XF X b f2) (hs : PlainIx b := by intro _ _; rfl) : EF X (.Subscript a b pos) (b2 dIxN f1 f2) := (ew_ixN ha hb hs).imp fW_mono b2_w
/-! ### compare -/
def dEqN : G2 := fun p q => dEq (nm p) (nm q)
def dNeN : G2 := fun p q => dNe (nm p) (nm q)
def rEqN (K : Fg) (n : Bool) : R2 := fun x y H Q => ∃ d e, Dp K H x d ∧ Dp K H y e ∧ okD (nm d) = true ∧ okD (nm e) = true ∧ Q (.bl (if n = true then !PyData.eqv (nm d) (nm e) else PyData.eqv (nm d) (nm e))) H
theorem or_eqN (hu : Rm X) : OpR X (compareOp .Eq) (rEqN X.K false) := by
  intro pins s σ H x y v u Q I rx ry h
  obtain ⟨d, e, hd, he, sd, se, q⟩ := h
  obtain ⟨p1, z1⟩ := okD_iff.mp sd
  obtain ⟨p2, z2⟩ := okD_iff.mp se
  obtain ⟨as, r1⟩ := Dp.readsN I d x v hd p1 rx
  obtain ⟨bs, r2⟩ := Dp.readsN I e y u he p2 ry
  exact SeqAt.eq_plain r1 r2 p1 p2 (by unfold Rm at hu; omega) ⟨.bl _, H, I, rfl, q⟩
theorem or_neN (hu : Rm X) : OpR X (compareOp .NotEq) (rEqN X.K true) := by
  intro pins s σ H x y v u Q I rx ry h
  obtain ⟨d, e, hd, he, sd, se, q⟩ := h
  obtain ⟨p1, z1⟩ := okD_iff.mp sd
  obtain ⟨p2, z2⟩ := okD_iff.mp se
  obtain ⟨as, r1⟩ := Dp.readsN I d x v hd p1 rx
  obtain ⟨bs, r2⟩ := Dp.readsN I e y u he p2 ry
  exact SeqAt.ne_plain r1 r2 p1 p2 (by unfold Rm at hu; omega) ⟨.bl _, H, I, rfl, q⟩
theorem og_eqN (hu : Rm X) : OpG X (compareOp .Eq) dEqN := OpG.of ⟨_, or_eqN hu, fun B F H σ ρ x y p q z Q R hx hy e k => by
  unfold dEqN dEq at e
  split at e
  · rename_i h; cases e
    exact ⟨p, q, hx, hy, h.1, h.2, k F H _ R (Same.refl _) (.bl _)⟩
  · cases e⟩
theorem og_neN (hu : Rm X) : OpG X (compareOp .NotEq) dNeN := OpG.of ⟨_, or_neN hu, fun B F H σ ρ x y p q z Q R hx hy e k => by
  unfold dNeN dNe at e
  split at e
  · rename_i h; cases e
    exact ⟨p, q, hx, hy, h.1, h.2, k F H _ R (Same.refl _) (.bl _)⟩
  · cases e⟩
/-! ### sorted -/
def srN (xs : List D) : List D := msF (PySem.W.dataLe false nm) (xs.length + 1) xs
def gSrtN : List D → Option (List D)
  | [.list xs] => if okM (nmAll xs) = true then some (srN xs) else none
  | [.tuple xs] => if okM (nmAll xs) = true then some (srN xs) else none
  | _ => none
def rSortN (K : Fg) : List V → Hp → VK → Prop := fun vs H Q => ∃ (a : Addr) (ys : List V) (ps : List D), vs = [.ref a] ∧ (SqL K H a ys ∨ SqT K H a ys) ∧ DpAll K H ys ps ∧ okM (nmAll ps) = true ∧ ∀ (bs : List (V × D)) (p : Addr), H p = none → bs.Perm (ys.zip ps) → bs.map (·.2) = srN ps → Q (.ref p) (upd H p (.lst (bs.map (·.1))))
theorem each_readsN {h : Heap} : ∀ {ys : List V} {its : List Value} {ps : List D} {as : List Addr}, ReadsAll h its (nmAll ps) as → ys.length = ps.length → PySem.W.EachIs (fun (v : Value) (b : V × D) => ∃ as, Reads h v (nm b.2) as) its (ys.zip ps)
  | [], _, [], _, .nil, _ => .nil
  | _ :: _, _, [], _, .nil, h => by simp at h
  | [], _, _ :: _, _, .cons _ _, h => by simp at h
  | _ :: _, _, _ :: _, _, .cons a r, h => .cons ⟨_, a⟩ (each_readsN r (by simpa using h))
theorem cr_sortN (hc : X.calm = true) (hu : Rm X) : CallR X (.builtin "sorted") (rSortN X.K) := by
  intro pins s σ H vs us Q I r h
  obtain ⟨a, ys, ps, rfl, hs, hd, ok, q⟩ := h
  rw [Vals.ref1 r]
  obtain ⟨hpl, hdep⟩ := okDs_iff.mp (okM_oks ok)
  obtain ⟨its, rv, hl, hz⟩ : ∃ its : List Value, Vals ys its ∧ (s.heap.IsList a its.toArray ∨ IsTup s.heap a its.toArray) ∧ ys.length ≤ sizeLine := by
    rcases hs with hs | hs
    · obtain ⟨its, rv, hl, hz⟩ := I.list hs
      exact ⟨its, rv, .inl hl.isList, hz⟩
    · obtain ⟨its, rv, hl, hz⟩ := I.tuple hs
      exact ⟨its, rv, .inr hl, hz⟩
  obtain ⟨as, hr⟩ := Dp.readsAllN I _ ys its hd hpl rv
  have hlen := hd.length
  have e2 : (ys.zip ps).map (·.2) = ps := List.map_snd_zip (by omega)
  have e3 : (ys.zip ps).map (fun b => nm b.2) = nmAll ps := by
    rw [nmAll_map, ← e2, List.map_map, e2]; rfl
  have hal := okM_alike ok
  refine PS.sorted_any (R := fun (v : Value) (b : V × D) => RelV b.1 v) (enc := fun b : V × D => nm b.2) (bs := ys.zip ps) hl (each_zip (h := s.heap) rv hlen) (each_readsN hr hlen) ?_ ?_ ?_ ?_ fun out ho hout => ?_
  · rw [e3]; exact hal.1
  · rw [e3]; exact hal.2
  · rw [List.length_zip]; omega
  · intro b hb
    have hb2 : nm b.2 ∈ nmAll ps := by rw [← e3]; exact List.mem_map_of_mem (f := fun b : V × D => nm b.2) hb
    have := depth_mem hb2
    unfold Rm at hu
    omega
  · obtain ⟨e, he⟩ := sortedAll_at s.heap its (List.toArray out)
    have hperm := List.mergeSort_perm (ys.zip ps) (PySem.W.dataLe false fun b : V × D => nm b.2)
    have hv := vals_each hout
    have hsz : (List.map (·.1) ((ys.zip ps).mergeSort (PySem.W.dataLe false fun b : V × D => nm b.2))).length ≤ sizeLine := by
      rw [List.length_map, hperm.length_eq, List.length_zip]; omega
    refine ⟨.ref (s.heap.objs.size + 1), upd H (s.heap.objs.size + 1) (.lst (List.map (·.1) ((ys.zip ps).mergeSort (PySem.W.dataLe false fun b : V × D => nm b.2)))), I.laid (t' := s.toks) (fun b o hb => sortedAll_old hb) (Nat.le_succ _) ⟨hsz, out, e, hv, he⟩, rfl, q _ _ (I.hok.fresh (Nat.le_succ _)) hperm ?_⟩
    unfold srN
    rw [msF_eq _ _ (Nat.lt_succ_self _)]
    have z := List.map_mergeSort (f := fun b : V × D => b.2) (r := PySem.W.dataLe false fun b : V × D => nm b.2) (s := PySem.W.dataLe false nm) (l := ys.zip ps) (fun a _ b _ => rfl)
    rw [z, e2]
theorem cn_sortN (hc : X.calm = true) (hu : Rm X) : CallN X (.builtin "sorted") gSrtN := ⟨_, cr_sortN hc hu, fun B F H σ ρ vs ps zs Q R d e k => by
  have key : ∀ (p : D) (xs : List D), ps = [p] → items p = some xs → okM (nmAll xs) = true → zs = srN xs → rSortN X.K vs H Q := fun p xs e1 e2 ok e3 => by
    subst e1 e3
    obtain ⟨v, rfl, h⟩ := pk1 d
    obtain ⟨a, ys, rfl, r, q⟩ := pk_items R h e2
    refine ⟨a, ys, xs, rfl, sq_of R.sub q, r.same R.sub, ok, fun bs p hp hb hs => ?_⟩
    have := dpAll_of (K := X.K) (F := F) (bs := bs) fun b hb' => dpAll_zip r b (hb.mem_iff.mp hb')
    rw [hs] at this
    exact k F H p _ R (Same.refl _) hp this
  unfold gSrtN at e
  split at e
  · split at e
    · exact key _ _ rfl rfl (by assumption) (Option.some.inj e).symm
    · cases e
  · split at e
    · exact key _ _ rfl rfl (by assumption) (Option.some.inj e).symm
    · cases e
  · cases e⟩
variable {p : Pos}
theorem n_sortedN {f : Rho → Option (List D)} (B : Bi X.mg) (hu : Rm X) (h : XAF X [a] f) (hc : X.calm = true := by rfl) (hg : Gl X "sorted" := by rfl) (he : starEach [a] X.env = (false, eval a X.env) :: starEach [] X.env := by rfl) : NF X (.Call (.Name "sorted" p) [a] [] pos) (aOf gSrtN f) :=
  NW.f (nw_callB (cn_sortN hc hu) h hg B.sorted bt_sorted (he := he) (hpl := rfl))
end
end L2.P

set_option Elab.async false
set_option linter.all false
set_option maxRecDepth 100000
set_option maxHeartbeats 4000000
/-! PL56: sorted(d.items()), d a dict whose keys are tuples. -/
namespace L2.PS
open PySem PySem.Spec PySem.Calls PySem.W PyProof.Rows L2
section
variable {prog : Program} {w : World} {A : Around} {E : Value → Shared → Prop} {s : Shared} {r d : Addr} {es : Array DictEntry} {ep : Nat}
/-- sorted(v), v a view of items -/
theorem sorted_view {Q : Value → Shared → Prop} (hh : A.handled = none) (hv : s.heap.IsItemsView r d) (hm : s.heap.DictRaw d es ep) (hn : es.size ≤ sizeLine)
    (body : ∀ (h' : Heap) (tk : Nat) (as : List Addr), (∀ b o, s.heap.get? b = some o → h'.get? b = some o) → as.length = es.size → DilG es s.heap.objs.size h' as → ∀ E' : Value → Shared → Prop,
      wpAny (model prog w) A.in1.in1 (Builtin.«list.sort» ⟨[.ref h'.objs.size], []⟩) (fun f s' => f = .done (.ret .none) ∧ Q (.ref h'.objs.size) s') E' { s with heap := h'.push (seqObj "list" (as.map Value.ref).toArray 0), toks := tk }) :
    wpAny (model prog w) A (call (.builtin "sorted") [.ref r]) Q E s := by
  refine call_function_entry_kw kind_sorted plain_sorted entry_sorted (args_sorted1 _) ?_
  unfold Builtin.«sorted»
  refine wpAny_bind (m := checkCount "sorted" 1 1 _) (wpAny_pure ?_)
  refine wpAny_bind (dil_collect (A := A.in1) hh hv hm hn fun h' tk as hk hl hG => ?_)
  refine wpAny_bind (wpAny_newList ?_ (by rw [List.length_map, hl]; exact hn))
  refine wpAny_bind (wpAny_holding (wpAny_call_entry_kw slot_list_sort ⟨_, Heap.get?_push_size _ rfl, rfl⟩ entry_list_sort ?body (args_list_sort _)))
  case body =>
    show wpAny (model prog w) A.in1.in1 (Builtin.«list.sort» ⟨[.ref h'.objs.size], []⟩) _ _ _
    refine wpAny_mono (body h' tk as hk hl hG _) (fun f s' hf => ?_) fun _ _ e => e
    obtain ⟨rfl, hq⟩ := hf
    exact ⟨_, rfl, wpAny_pure ⟨_, rfl, hq⟩⟩
end
end L2.PS
namespace L2.P
open PySem PySem.Spec PyProof.Rows L2
/-! ### tuples laid at their addresses -/
def putC : Hp → List Addr → List (List V) → Hp
  | H, t :: ts, c :: cs => putC (upd H t (.tup c)) ts cs
  | H, _, _ => H
theorem putC_off {b : Addr} : ∀ (ts : List Addr) (cs : List (List V)) (H : Hp), b ∉ ts → putC H ts cs b = H b
  | [], _, _, _ => rfl
  | _ :: _, [], _, _ => rfl
  | t :: ts, c :: cs, H, h => by
    show putC (upd H t (.tup c)) ts cs b = H b
    rw [putC_off ts cs _ (fun z => h (List.mem_cons_of_mem _ z)), upd_ne (fun z => h (by rw [z]; exact List.mem_cons_self))]
theorem putC_at : ∀ (ts : List Addr) (cs : List (List V)) (H : Hp), ts.Nodup → ∀ {j : Nat} {t : Addr} {c : List V}, ts[j]? = some t → cs[j]? = some c → putC H ts cs t = some (.tup c)
  | [], _, _, _, j, t, c, h, _ => by simp at h
  | _ :: _, [], _, _, j, t, c, _, h => by simp at h
  | t0 :: ts, c0 :: cs, H, hn, 0, t, c, h1, h2 => by
    obtain ⟨n1, n2⟩ := List.nodup_cons.mp hn
    simp at h1 h2
    subst h1 h2
    show putC (upd H t0 (.tup c0)) ts cs t0 = _
    rw [putC_off ts cs _ n1, upd_same]
  | t0 :: ts, c0 :: cs, H, hn, j + 1, t, c, h1, h2 => by
    obtain ⟨n1, n2⟩ := List.nodup_cons.mp hn
    exact putC_at ts cs _ n2 (j := j) (by simpa using h1) (by simpa using h2)
theorem putC_same {H : Hp} {ts : List Addr} {cs : List (List V)} (hf : ∀ t ∈ ts, H t = none) : Same H (putC H ts cs) := fun b o e => by
  rw [putC_off ts cs H (fun z => by rw [hf b z] at e; cases e)]
  exact e
theorem Rs.grows {K : Fg} {B : Bs} {σ : St} {ρ : Rho} : ∀ (ts : List Addr) (cs : List (List V)) {F H : Hp}, Rs K B F H σ ρ → ts.Nodup → (∀ t ∈ ts, H t = none) → Rs K B (putC F ts cs) (putC H ts cs) σ ρ
  | [], _, _, _, R, _, _ => R
  | _ :: _, [], _, _, R, _, _ => R
  | t :: ts, c :: cs, F, H, R, hn, hf => by
    obtain ⟨n1, n2⟩ := List.nodup_cons.mp hn
    exact Rs.grows ts cs (R.grow (o := .tup c) (hf t List.mem_cons_self)) n2 fun u hu => by
      rw [upd_ne (fun z => n1 (by rw [← z]; exact hu))]
      exact hf u (List.mem_cons_of_mem _ hu)
/-! ### the view -/
def ViewO (r d : Addr) : HO := .ext fun h => h.get? r = some { cls := .type "dict_items", data := .fields #[.ref d] }
theorem rdT {X : Cx} {pins : List (Addr × Obj)} {σ : St} {H : Hp} {s : Shared} {d : Addr} {kvs : List (List Key × V)} (I : L2.Inv X pins σ H s) (h : Rd H d (.dT kvs)) :
    (d == sysModules) = false ∧ ∃ o : Obj, s.heap.get? d = some o ∧ o.ExactDict ∧ kvs.length ≤ sizeLine ∧ ∃ (es : Array DictEntry) (ep : Nat), o.data = .dict es ep ∧ es.size = kvs.length ∧
      (∃ bs : List Addr, IsKeys H kvs bs ∧ bs.length = kvs.length ∧ ∀ i : Nat, es[i]?.map (·.key) = bs[i]?.map Value.ref) ∧ ∀ (i : Nat) (k : List Key) (v : V), kvs[i]? = some (k, v) → ∃ en : DictEntry, es[i]? = some en ∧ RelV v en.val := by
  obtain ⟨z, hs, xs, pr, o', es, ep, ho, hx, hdt, he, _⟩ := h.ok I.hok
  refine ⟨hs, o', ho, hx, z, es, ep, hdt, ?_, ⟨xs.map fun x => x.2.1, isKeys_of pr, ?_, fun i => ?_⟩, fun i k v e => ?_⟩
  · have l1 : es.size = xs.length := size_of_entries he
    have l2 : kvs.length = xs.length := Paired.length pr
    omega
  · rw [List.length_map]; exact (Paired.length pr).symm
  · rw [entry_at he i, List.getElem?_map]
    cases xs[i]? <;> rfl
  · obtain ⟨b, hb, e1, e2, e3⟩ := paired_get pr e
    have q := entry_at he i
    rw [hb] at q
    exact ⟨_, q, e3⟩
/-- what stands in the tuples of the items -/
def cont (bs : List Addr) (es : List (List Key × V)) : List (List V) := (bs.zip es).map fun p => [.ref p.1, p.2.2]
theorem cont_at {bs : List Addr} {es : List (List Key × V)} {j : Nat} {b : Addr} {k : List Key} {v : V} (h1 : bs[j]? = some b) (h2 : es[j]? = some (k, v)) : (cont bs es)[j]? = some [.ref b, v] := by
  unfold cont
  have : (bs.zip es)[j]? = some (b, (k, v)) := List.getElem?_zip_eq_some.mpr ⟨h1, h2⟩
  rw [List.getElem?_map, this]; rfl
section
variable {X : Cx} {e : Expr} {te : TE} {p apos cpos pos : Pos}
def tView (te : TE) : TE := fun σ H Q => te σ H fun x H1 => ∃ d es, x = .ref d ∧ Rd H1 d (.dT es) ∧ ∀ r, H1 r = none → Q (.ref r) (upd H1 r (ViewO r d))
theorem pe_view (he : PE X e te) (hbase : attributeBase e "items" X.env (eval e X.env) = eval e X.env := by rfl) (hline : (apos.endLine == cpos.line) = true := by rfl) : PE X (.Call (.Attribute e "items" apos) [] [] cpos) (tView te) := by
  refine ⟨fun pins s σ H Q I hq => ?_⟩
  refine wpAny_Call_method (T := "dict") (id := "dict.items") hbase rfl hline F.plainAttrs_dict F.slot_dict_items F.type_dict_items (thn (he.run pins s σ H _ I hq) fun u s1 ⟨x, H1, I1, rx, d, es, ex, hd, q⟩ => ?_)
  subst ex
  obtain rfl : u = Value.ref d := rx
  obtain ⟨hs, o, hgd, hx, hz, es', ep, hdt, hsz, _, _⟩ := rdT I1 hd
  have raw : s1.heap.DictRaw d es' ep := ⟨o, hgd, hx, hdt⟩
  refine ⟨raw.typeIs, fun b e => by cases e; exact ⟨o, hgd, hx.2.1⟩, ?_⟩
  show wpAny _ _ (callWith cpos (.builtin "dict.items") [.ref d] [] []) _ X.xe s1
  refine method_meetsIn F.slot_dict_items F.entry_dict_items rfl (PySem.evalArgs_none ⟨rfl, raw.typeIs, F.args_dict_items_1 _, _, meets_dict_items_raw d hs, ⟨⟨es', ep, raw⟩, ?_⟩⟩)
  have e0 : (s1.heap.push { cls := .type "dict_items", data := .fields #[.ref d] }).get? s1.heap.objs.size = some { cls := .type "dict_items", data := .fields #[.ref d] } := Heap.get?_push_size _ rfl
  exact ⟨.ref s1.heap.objs.size, upd H1 s1.heap.objs.size (ViewO s1.heap.objs.size d), I1.laid (t' := s1.toks) (fun b o hb => Heap.get?_push_of_some _ hb) (Nat.le_refl _) ⟨e0, ⟨_, e0⟩, fun h1 h2 z st => st _ z⟩, rfl, q _ (I1.hok.fresh (Nat.le_refl _))⟩
/-- sorted(v) -/
def rSortView (K : Fg) : List V → Hp → VK → Prop := fun vs H Q => ∃ (r d : Addr) (es : List (List Key × V)), vs = [.ref r] ∧ H r = some (ViewO r d) ∧ Rd H d (.dT es) ∧
  ∀ bs, IsKeys H es bs → bs.length = es.length → ∃ ps : List D, ps.length = es.length ∧ okM (nmAll ps) = true ∧ ∀ ts : List Addr, ts.length = es.length → ts.Nodup → (∀ t ∈ ts, H t = none) →
    DpAll K (putC H ts (cont bs es)) (ts.map .ref) ps ∧ ∀ (zs : List (V × D)) (p : Addr), putC H ts (cont bs es) p = none → zs.Perm ((ts.map V.ref).zip ps) → zs.map (·.2) = srN ps → Q (.ref p) (upd (putC H ts (cont bs es)) p (.lst (zs.map (·.1))))
theorem vals_refs' : ∀ as : List Addr, Vals (as.map V.ref) (as.map Value.ref)
  | [] => .nil
  | _ :: as => .cons rfl (vals_refs' as)
theorem cr_sortView (hc : X.calm = true) (hu : Rm X) : CallR X (.builtin "sorted") (rSortView X.K) := by
  intro pins s σ H vs us Q I r h
  obtain ⟨rr, d, es, rfl, hr, hd, q⟩ := h
  rw [Vals.ref1 r]
  obtain ⟨hs, o, hgd, hx, hz, ens, ep, hdt, hsz, ⟨bs, hk, hbl, hb⟩, ent⟩ := rdT I hd
  obtain ⟨ps, hpl, ok, q⟩ := q bs hk hbl
  obtain ⟨vw, _, _⟩ := I.hok rr _ hr
  refine PS.sorted_view (I.ok.hd hc) ⟨_, vw, rfl, rfl⟩ ⟨o, hgd, hx, hdt⟩ (by omega) fun h' tk as hkp hal hG E' => ?_
  have hnd : as.Nodup := List.Pairwise.imp (fun {a b} (h : a < b) => Nat.ne_of_lt h) hG.rise
  have hfr : ∀ t ∈ as, H t = none := fun t ht => I.hok.fresh (Nat.le_of_lt (hG.above t ht))
  obtain ⟨hdp, q⟩ := q as (by omega) hnd hfr
  have sm := putC_same (cs := cont bs es) hfr
  have old : ∀ b o, s.heap.get? b = some o → b ∉ as := fun b o e z => absurd (Heap.lt_size e) (Nat.not_lt.mpr (Nat.le_of_lt (hG.above b z)))
  have I2 : L2.Inv X pins σ (putC H as (cont bs es)) { s with heap := h', toks := tk } := by
    refine I.call' (ch := []) rfl ⟨fun b o q _ _ _ => hkp b o q, fun b o q _ _ _ => ⟨o.slots, hkp b o q⟩, fun b o q n _ => ?_, fun b o q _ => ⟨o, hkp b o q⟩, fun b xs q => sm b _ q, fun b o u q => sm b _ q, fun b ps q => ⟨#[], by rw [sm b _ q]; simp⟩⟩ (fun b u q => ?_) I.bare fun b z => by simp at z
    · rw [putC_off _ _ _ (old b o q)]; exact n
    · by_cases hb2 : b ∈ as
      · obtain ⟨j, hj⟩ := List.mem_iff_getElem?.mp hb2
        obtain ⟨hjl, et⟩ := hG.pairs j b hj
        have hje : j < es.length := by omega
        have ej : es[j]? = some (es[j].1, es[j].2) := List.getElem?_eq_getElem hje
        obtain ⟨en, e1, rv⟩ := ent j _ _ ej
        have e1' : ens[j] = en := (Array.getElem?_eq_some_iff.mp e1).2
        have hbj := hb j
        rw [e1] at hbj
        cases eb : bs[j]? with
        | none => rw [eb] at hbj; cases hbj
        | some kb =>
          rw [eb] at hbj
          have hkey : en.key = .ref kb := Option.some.inj hbj
          rw [putC_at as _ H hnd hj (cont_at eb ej)] at q
          cases q
          rw [e1', hkey] at et
          exact ⟨by show 2 ≤ sizeLine; decide, [.ref kb, en.val], .cons rfl (.cons rv .nil), ⟨_, et, rfl, _, rfl⟩⟩
      · rw [putC_off _ _ _ hb2] at q
        exact (I.hok b u q).stay (fun d v _ y => hkp d v y) (fun d y => sm d _ y) fun d xs y => sm d _ y
  obtain ⟨hpl2, hdep⟩ := okDs_iff.mp (okM_oks ok)
  have rv := vals_refs' as
  obtain ⟨ads, hrd⟩ := Dp.readsAllN I2 ps _ (as.map Value.ref) hdp hpl2 rv
  have hlen := hdp.length
  have e2 : ((as.map V.ref).zip ps).map (·.2) = ps := List.map_snd_zip (by omega)
  have e3 : ((as.map V.ref).zip ps).map (fun b => nm b.2) = nmAll ps := by
    rw [nmAll_map, ← e2, List.map_map, e2]; rfl
  have hal2 := okM_alike ok
  have each := each_zip (h := h') rv hlen
  have er := each_readsN hrd hlen
  have hL : (as.map Value.ref).length ≤ sizeLine := by rw [List.length_map]; omega
  have hdepth : ∀ b, b ∈ (as.map V.ref).zip ps → X.A.in1.in1.units + (nm b.2).depth < cLine := fun b hb => by
    have hb2 : nm b.2 ∈ nmAll ps := by rw [← e3]; exact List.mem_map_of_mem (f := fun b : V × D => nm b.2) hb
    have := depth_mem hb2
    unfold Rm at hu
    show X.A.units + 1 + 1 + (nm b.2).depth < cLine
    omega
  have hal3 : PySem.W.AllAlike (((as.map V.ref).zip ps).map fun b => nm b.2) := by rw [e3]; exact hal2.1
  have hnn : ∀ d ∈ ((as.map V.ref).zip ps).map (fun b => nm b.2), d ≠ .none := by rw [e3]; exact hal2.2
  obtain ⟨hS, ehS⟩ : ∃ hS, hS = PySem.W.sortingHeap (h'.push (seqObj "list" (as.map Value.ref).toArray 0)) h'.objs.size (as.map Value.ref) := ⟨_, rfl⟩
  have kS : ∀ b o, h'.get? b = some o → hS.get? b = some o := fun b o e => by rw [ehS]; exact PySem.W.sortingHeap_old (Nat.ne_of_lt (Heap.lt_size e)) (Heap.get?_push_of_some _ e)
  have er2 := er.mono (R' := fun v b => ∃ zs, Reads hS v (nm b.2) zs) fun _ _ ⟨zs, r⟩ => ⟨zs, PyProof.Rows.Reads.keeps kS r⟩
  have S := PS.SortsAt.any (prog := X.prog) (w := X.w) (A := X.A.in1.in1) (s := { s with heap := hS, toks := tk }) (PySem.W.each_map (R := fun v d => ∃ zs, Reads hS v d zs) (fun b : V × D => nm b.2) er2) hal3 hnn (PySem.W.bound_map hdepth)
  have hout := PySem.W.sortVals_data (h' := hS) (enc := fun b : V × D => nm b.2) false each er2 hal3
  rw [ehS] at S
  refine PySem.W.list_sort_vals (s := { s with heap := h'.push (seqObj "list" (as.map Value.ref).toArray 0), toks := tk }) (Heap.get?_push_size _ rfl) S hL ⟨rfl, ?_⟩
  rw [ehS] at hout
  generalize PySem.W.sortVals _ false (as.map Value.ref) (as.map Value.ref) = out at hout
  have hperm := List.mergeSort_perm ((as.map V.ref).zip ps) (PySem.W.dataLe false fun b : V × D => nm b.2)
  have hv := vals_each hout
  have hszl : (List.map (·.1) (((as.map V.ref).zip ps).mergeSort (PySem.W.dataLe false fun b : V × D => nm b.2))).length ≤ sizeLine := by
    rw [List.length_map, hperm.length_eq, List.length_zip, List.length_map]; omega
  have z := List.map_mergeSort (f := fun b : V × D => b.2) (r := PySem.W.dataLe false fun b : V × D => nm b.2) (s := PySem.W.dataLe false nm) (l := (as.map V.ref).zip ps) (fun a _ b _ => rfl)
  obtain ⟨en, he⟩ := PyProof.Rows.sortedHeap_at (vs := as.map Value.ref) (out := out.toArray) (h := h'.push (seqObj "list" (as.map Value.ref).toArray 0)) (a := h'.objs.size) (n := 0) (Heap.get?_push_size _ rfl)
  refine ⟨.ref h'.objs.size, upd (putC H as (cont bs es)) h'.objs.size (.lst (List.map (·.1) (((as.map V.ref).zip ps).mergeSort (PySem.W.dataLe false fun b : V × D => nm b.2)))), I2.laid (t' := tk) (fun b o hb => ?_) (Nat.le_refl _) ⟨hszl, out, en, hv, he⟩, rfl, q _ _ (I2.hok.fresh (Nat.le_refl _)) hperm ?_⟩
  · have e1 := Heap.get?_push_of_some (seqObj "list" (as.map Value.ref).toArray 0) hb
    rw [PyProof.Rows.sortedHeap_old (Nat.ne_of_lt (Heap.lt_size hb)) (Heap.lt_size e1)]
    exact e1
  · unfold srN
    rw [msF_eq _ _ (Nat.lt_succ_self _), z, e2]
end
/-! ### the data -/
/-- the dict that an expression gives: unlocked or locked, not in what is frozen but as such -/
def tRd (K : Fg) (h : Rho → Option (List (D × D))) : TE := fun σ H Q => ∃ B F ρ, Rs K B F H σ ρ ∧ ∃ kvs, h ρ = some kvs ∧
  ∀ a es F' H', Rs K B F' H' σ ρ → Same F F' → Rd H' a (.dT es) → DtAll K F' es kvs → Q (.ref a) H'
/-- the slot's dict, its keys tuples -/
def slotT (i : Nat) : Rho → Option (List (D × D)) := fun ρ => match ρ[i]? with
  | some (.od true kvs) => some kvs
  | some (.fz kvs) => some kvs
  | _ => none
section
variable {X : Cx} {e : Expr} {p apos cpos pos : Pos}
theorem pe_varT {i : Nat} {x : Str} {pos : Pos} (hN : X.N[i]? = some x) (hv : Vis X.env.scope x) (hd : (x == ("__debug__" : Str)) = false := by decide) (hcd : (x == ("__classdict__" : Str)) = false := by decide) : PE X (.Name x pos) (tRd X.K (slotT i)) :=
  (pe_var hN hv hd hcd).imp fun σ H Q ⟨B, F, ρ, R, kvs, e, q⟩ => by
    unfold slotT at e
    split at e
    · rename_i kvs' hs
      cases e
      have z := R.at_ i _ hs
      generalize hσ : σ[i]? = o at z
      cases z with
      | od f h0 h1 =>
        obtain ⟨es, e1, d⟩ := h1
        exact ⟨_, hσ, q _ _ F H R (Same.refl _) (.inl e1) d⟩
    · rename_i kvs' hs
      cases e
      have z := R.at_ i _ hs
      generalize hσ : σ[i]? = o at z
      cases z with
      | fz f d => exact ⟨_, hσ, q _ _ F H R (Same.refl _) (.inr ⟨_, R.sub _ _ f⟩) d⟩
    · cases e
/-- a call's dict, locked -/
theorem pe_callT {h : Rho → Option (List (D × D))} (he : PE X e (tFD X.K h)) : PE X e (tRd X.K h) :=
  (pe_lk he).imp fun σ H Q ⟨B, F, ρ, R, kvs, e1, q⟩ => ⟨B, F, ρ, R, kvs, e1, fun a es F' H' sF n hH dv rs => ⟨a, es, rfl, hH, fun od => by
    have R1 := rs (.frz od (.dT es))
    exact q a es (upd F' a (.frz od (.dT es))) (upd H' a (.frz od (.dT es))) R1 (sF.trans (same_upd n)) (.inr ⟨od, upd_same⟩) (dv.same (same_upd n))⟩⟩
def nSrtItems (h : Rho → Option (List (D × D))) : Rho → Option (List D) := fun ρ => (h ρ).bind fun kvs => if okM (nmAll (kvs.map fun q => .tuple [q.1, q.2])) = true then some (srN (kvs.map fun q => .tuple [q.1, q.2])) else none
theorem dpAll_ix {K : Fg} {F : Hp} : ∀ {vs : List V} {ps : List D}, vs.length = ps.length → (∀ (j : Nat) (v : V) (p : D), vs[j]? = some v → ps[j]? = some p → Dp K F v p) → DpAll K F vs ps
  | [], [], _, _ => .nil
  | [], _ :: _, h, _ => by simp at h
  | _ :: _, [], h, _ => by simp at h
  | v :: vs, p :: ps, h, k => .cons (k 0 v p rfl rfl) (dpAll_ix (by simpa using h) fun j v' p' h1 h2 => k (j + 1) v' p' (by simpa using h1) (by simpa using h2))
theorem nf_sortItems {h : Rho → Option (List (D × D))} (bi : Bi X.mg) (hu : Rm X) (he : PE X e (tRd X.K h)) (hc : X.calm = true := by rfl) (hg : Gl X "sorted" := by rfl) (hbase : attributeBase e "items" X.env (eval e X.env) = eval e X.env := by rfl) (hline : (apos.endLine == cpos.line) = true := by rfl)
    (hs : starEach [.Call (.Attribute e "items" apos) [] [] cpos] X.env = (false, eval (.Call (.Attribute e "items" apos) [] [] cpos) X.env) :: starEach [] X.env := by rfl) :
    NF X (.Call (.Name "sorted" p) [.Call (.Attribute e "items" apos) [] [] cpos] [] pos) (nSrtItems h) :=
  ⟨fW_mono, (pe_callB (cr_sortView hc hu) hg bi.sorted bt_sorted (pa_cons (pe_view he hbase hline) pa_nil hs) (he := hs) (hpl := rfl)).imp fun σ H Q ⟨B, F, ρ, R, zs, e1, q⟩ => by
    obtain ⟨kvs, e2, e3⟩ := Option.bind_eq_some_iff.mp e1
    split at e3
    · rename_i hok
      cases e3
      refine ⟨B, F, ρ, R, kvs, e2, fun a es F1 H1 R1 s1 hd dv => ⟨a, es, rfl, hd, fun r hr => ?_⟩⟩
      have hd1 : Rd (upd H1 r (ViewO r a)) a (.dT es) := by
        rcases hd with hd | ⟨o, hd⟩
        · exact .inl (by rw [upd_ne (ne_of_none hd hr)]; exact hd)
        · exact .inr ⟨o, by rw [upd_ne (ne_of_none hd hr)]; exact hd⟩
      have R2 := R1.lay (o := ViewO r a) hr
      refine ⟨r, a, es, rfl, upd_same, hd1, fun bs hk hbl => ⟨kvs.map fun q => .tuple [q.1, q.2], by rw [List.length_map, dv.len], hok, fun ts htl hnd hfr => ?_⟩⟩
      obtain ⟨F3, R3, s3, db⟩ := R2.frzKs dv hk
      have dv3 := dv.same s3
      have R4 := R3.grows ts (cont bs es) hnd hfr
      have hfrF : ∀ t ∈ ts, F3 t = none := fun t ht => R3.sub.free (hfr t ht)
      have s4 : Same F3 (putC F3 ts (cont bs es)) := putC_same hfrF
      have dall : DpAll X.K (putC F3 ts (cont bs es)) (ts.map V.ref) (kvs.map fun q => .tuple [q.1, q.2]) := by
        refine dpAll_ix (by rw [List.length_map, List.length_map, htl, dv.len]) fun j v pq h1 h2 => ?_
        rw [List.getElem?_map] at h1 h2
        obtain ⟨t, ht, rfl⟩ := Option.map_eq_some_iff.mp h1
        obtain ⟨kv, hkv, rfl⟩ := Option.map_eq_some_iff.mp h2
        have hj : j < es.length := by rw [dv.len]; exact (List.getElem?_eq_some_iff.mp hkv).1
        have ej : es[j]? = some (es[j].1, es[j].2) := List.getElem?_eq_getElem hj
        have hjb : j < bs.length := by omega
        have eb : bs[j]? = some bs[j] := List.getElem?_eq_getElem hjb
        obtain ⟨kp, hkp, dk⟩ := db.getV (i := j) (v := .ref bs[j]) (by rw [List.getElem?_map, eb]; rfl)
        rw [List.getElem?_map, hkv] at hkp
        cases hkp
        obtain ⟨kv', hkv', dvv⟩ := dv3.getV ej
        rw [hkv] at hkv'
        cases hkv'
        exact .tup (putC_at ts _ F3 hnd ht (cont_at eb ej)) (.cons (dk.same s4) (.cons (dvv.same s4) .nil))
      refine ⟨dall.same R4.sub, fun zs p hp hperm hzs => ?_⟩
      have hz := dpAll_of (K := X.K) (F := putC F3 ts (cont bs es)) (bs := zs) fun b hb' => dpAll_zip dall b (hperm.mem_iff.mp hb')
      rw [hzs] at hz
      exact q _ _ p _ R4 (s1.trans (s3.trans s4)) hp hz
    · cases e3⟩
/-! ### f(..).get(k, z) -/
def tLkF (K : Fg) (h : Rho → Option (List (D × D))) : TE := fun σ H Q => ∃ B F ρ, Rs K B F H σ ρ ∧ ∃ kvs, h ρ = some kvs ∧
  ∀ a o es F' H', Rs K B F' H' σ ρ → Same F F' → F' a = some (.frz o (.dT es)) → DtAll K F' es kvs → Q (.ref a) H'
theorem pe_callL {h : Rho → Option (List (D × D))} (he : PE X e (tFD X.K h)) : PE X e (tLkF X.K h) :=
  (pe_lk he).imp fun σ H Q ⟨B, F, ρ, R, kvs, e1, q⟩ => ⟨B, F, ρ, R, kvs, e1, fun a es F' H' sF n hH dv rs => ⟨a, es, rfl, hH, fun od => by
    have R1 := rs (.frz od (.dT es))
    exact q a od es (upd F' a (.frz od (.dT es))) (upd H' a (.frz od (.dT es))) R1 (sF.trans (same_upd n)) upd_same (dv.same (same_upd n))⟩⟩
def vGet2T (h : Rho → Option (List (D × D))) (f g : Rho → Option D) : Rho → Option D := fun ρ => (f ρ).bind fun k => (g ρ).bind fun z => (h ρ).bind fun kvs => if kindOk true k = true then some ((lookD kvs k).getD z) else none
theorem ef_get2T {k v : Expr} {h : Rho → Option (List (D × D))} {f g : Rho → Option D} {ap : Pos} (hu : Rm X) (he : PE X e (tLkF X.K h)) (hk : EF X k f) (hz : EF X v g) (hbase : attributeBase e "get" X.env (eval e X.env) = eval e X.env := by rfl)
    (hfew : ((backTo pos (starEach [k, v] X.env)).all (fun x => !x.1) && (backToKw pos (keywordEach [] X.env)).all (fun x => x.1.isSome) && decide (([k, v] : List Expr).length + ([] : List Keyword).length + (if ([] : List Keyword).isEmpty then 0 else 1) < 30)) = true := by rfl)
    (hline : (ap.endLine == pos.line) = true := by rfl) (htr : backTo pos (starEach [k, v] X.env) = [(false, eval k X.env), (false, eval v X.env)] := by rfl) : EF X (.Call (.Attribute e "get" ap) [k, v] [] pos) (vGet2T h f g) :=
  ⟨fW_mono, (pe_dget2 (by unfold Rm at hu; omega) he hk.pe hz.pe ⟨hbase, hfew, hline, htr⟩).imp fun σ H Q ⟨B, F, ρ, R, z, e, q⟩ => by
    obtain ⟨a, e1, e⟩ := Option.bind_eq_some_iff.mp e
    obtain ⟨b, e3, e⟩ := Option.bind_eq_some_iff.mp e
    obtain ⟨kvs, e2, e⟩ := Option.bind_eq_some_iff.mp e
    split at e
    · rename_i hkind
      cases e
      refine ⟨B, F, ρ, R, kvs, e2, fun c o es F1 H1 R1 s1 hd dv => ⟨c, rfl, .inr ⟨es, .inr ⟨o, R1.sub _ _ hd⟩⟩, B, F1, ρ, R1, a, e1, fun F2 H2 y R2 s2 d1 => ⟨B, F2, ρ, R2, b, e3, fun F3 H3 u R3 s3 d3 => ?_⟩⟩⟩
      obtain ⟨ns, kb, rfl, rfl, hb⟩ := key_at (d1.same s3) hkind
      have ho : OpD X.K F3 (valV es (ns.map Sum.inl)) (lookD kvs (.tuple (ns.map .int))) := (dv.same (s2.trans s3)).val ns
      refine ⟨_, .inr ⟨es, ns.map Sum.inl, kb, .inr ⟨o, R3.sub _ _ (s3 _ _ (s2 _ _ hd))⟩, rfl, R3.sub _ _ hb, rfl⟩, q F3 H3 _ R3 (s1.trans (s2.trans s3)) ?_⟩
      show Dp X.K F3 ((valV es (ns.map Sum.inl)).getD u) ((lookD kvs (.tuple (ns.map .int))).getD b)
      generalize lookD kvs (.tuple (ns.map .int)) = lk at ho ⊢
      generalize valV es (ns.map Sum.inl) = vl at ho ⊢
      cases ho with
      | no => exact d3
      | yes dz => exact dz
    · cases e⟩
end
end L2.P

set_option Elab.async false
set_option linter.all false
set_option maxRecDepth 100000
set_option maxHeartbeats 4000000
/-! PL57: own dicts locked ahead of a walk, handed from name to name; names for dicts that calls make: x[k], list(x), list(x.values()). -/
namespace L2.P
open PySem PySem.Spec PyProof.Rows L2
/-! ### a slot's dict is locked -/
theorem Rs.lockD {K : Fg} {B : Bs} {F H : Hp} {σ : St} {ρ : Rho} {i : Nat} {kvs : List (D × D)} (R : Rs K B F H σ ρ) (h : ρ[i]? = some (.od true kvs)) :
    ∃ a es, σ[i]? = some (some (.ref a)) ∧ H a = some (.dT es) ∧ F a = none ∧ ∀ od, Rs K B (upd F a (.frz od (.dT es))) (upd H a (.frz od (.dT es))) σ (ρ.set i (.fz kvs)) := by
  obtain ⟨a, o, hσ, f, h0, h1, r⟩ := R.ownG h rfl (fun z => by cases z)
  obtain ⟨es, rfl, dv⟩ := r
  refine ⟨a, es, hσ, h1, f, fun od => ?_⟩
  have s : Same F (upd F a (.frz od (.dT es))) := same_upd f
  refine ⟨same_upd3 R.sub, fun b x e => s b x (R.ext b x e), fun b h2 h3 => ?_, fun b x hb e => ?_, fun r hr => ?_, R.hr2, by rw [List.length_set]; exact R.len, fun j t ht => ?_, fun j k c t u hjk h1' h2' o1 o2 e1 e2 => ?_⟩
  · by_cases q : b = a
    · subst q; exact .inl h0
    · rw [upd_ne q] at h3; exact R.new b h2 h3
  · have ne : b ≠ a := fun z => by rw [z, h0] at e; cases e
    rw [upd_ne ne]; exact R.old b x hb e
  · obtain ⟨g1, g2⟩ := R.hrow r hr
    have ne : r ≠ a := fun e => R.hr2 r hr (by rw [e]; exact h0)
    exact ⟨by rw [upd_ne ne]; exact g1, g2.mono s fun o e => by rw [upd_ne ne]; exact e⟩
  · rcases set_some ht with ⟨rfl, hl, rfl⟩ | ⟨ne, ht⟩
    · rw [hσ]; exact .fz upd_same (dv.same s)
    · have q := R.at_ j t ht
      have far : t.owns = true → σ[j]? = some (some (V.ref a)) → False := fun o e => R.apart i j a _ t ne h ht rfl o hσ e
      generalize hx : σ[j]? = x at q far
      cases q with
      | no => exact .no
      | v r => exact .v (r.same s)
      | fz f d => exact .fz (s _ _ f) (d.same s)
      | @ol c zs rs g1 g2 g3 g4 =>
        have ne : c ≠ a := fun e => far rfl (by rw [e])
        exact .ol (by rw [upd_ne ne]; exact g1) g2 (by rw [upd_ne ne]; exact g3) (g4.same s)
      | @od t c kvs g1 g2 g3 =>
        have ne : c ≠ a := fun e => far rfl (by rw [e])
        exact .od (by rw [upd_ne ne]; exact g1) g2 (g3.mono s fun o e => by rw [upd_ne ne]; exact e)
      | @row c g1 g2 g3 =>
        have ne : c ≠ a := fun e => far rfl (by rw [e])
        exact .row (by rw [upd_ne ne]; exact g1) g2 (g3.mono s fun o e => by rw [upd_ne ne]; exact e)
  · rcases set_some h1' with ⟨rfl, hl, rfl⟩ | ⟨ne, h1'⟩
    · cases o1
    · rcases set_some h2' with ⟨rfl, hl, rfl⟩ | ⟨ne2, h2'⟩
      · cases o2
      · exact R.apart j k c t u hjk h1' h2' o1 o2 e1 e2
/-- the slot's dict is locked -/
def lckR (ρ : Rho) (i : Nat) : Rho := match ρ[i]? with
  | some (.od true kvs) => ρ.set i (.fz kvs)
  | _ => ρ
theorem sws_lock {X : Cx} {sts : List Stmt} {T : TSt} (i : Nat) (h : SWs X sts T) : SWs X sts (fun ρ K => T (lckR ρ i) K) :=
  ⟨fun ρ K K' k q => h.mono _ _ _ k q, ⟨fun pins s σ H D I hw => by
    obtain ⟨B, F, ρ, R, q⟩ := hw
    by_cases hi : ∃ kvs, ρ[i]? = some (.od true kvs)
    · obtain ⟨kvs, hi⟩ := hi
      have e : lckR ρ i = ρ.set i (.fz kvs) := by unfold lckR; rw [hi]
      rw [e] at q
      obtain ⟨a, es, hσ, hH, hF, R'⟩ := R.lockD hi
      obtain ⟨od, I2⟩ := I.lock hH True.intro
      exact h.pss.run pins s σ _ D I2 ⟨B, _, _, R' od, h.mono _ _ _ (fun fl k => endOk.mono (same_upd hF) k) q⟩
    · have e : lckR ρ i = ρ := by
        unfold lckR
        split
        · rename_i kvs hk; exact absurd ⟨kvs, hk⟩ hi
        · rfl
      rw [e] at q
      exact h.pss.run pins s σ H D I ⟨B, F, ρ, R, q⟩⟩⟩
theorem sfs_lock {X : Cx} {sts : List Stmt} {f : Rho → Option Fl} (i : Nat) (h : SFs X sts f) : SFs X sts (fun ρ => f (lckR ρ i)) := sws_lock i h
/-! ### x = y, y an own dict -/
theorem Rs.drop {K : Fg} {B : Bs} {F H : Hp} {σ : St} {ρ : Rho} (R : Rs K B F H σ ρ) (j : Nat) : Rs K B F H σ (ρ.set j .no) where
  sub := R.sub
  ext := R.ext
  new := R.new
  old := R.old
  hrow := R.hrow
  hr2 := R.hr2
  len := by rw [List.length_set]; exact R.len
  at_ := fun k t ht => by
    rcases set_some ht with ⟨rfl, hl, rfl⟩ | ⟨ne, ht⟩
    · exact .no
    · exact R.at_ k t ht
  apart := fun k l c t u hkl h1 h2 o1 o2 e1 e2 => by
    rcases set_some h1 with ⟨rfl, hl, rfl⟩ | ⟨ne, h1⟩
    · cases o1
    · rcases set_some h2 with ⟨rfl, hl, rfl⟩ | ⟨ne2, h2⟩
      · cases o2
      · exact R.apart k l c t u hkl h1 h2 o1 o2 e1 e2
def sMove (i j : Nat) : Rho → Option Fl := fun ρ => match ρ[j]? with
  | some (.od t kvs) => if i = j then none else some (.nx ((ρ.set j .no).set i (.od t kvs)))
  | _ => none
section
variable {X : Cx} {x y : Str} {i j : Nat} {py p' pos : Pos}
theorem sf_move (hN : X.N.Nodup) (hi : X.N[i]? = some x) (hx : Loc X.env.scope x) (hj : X.N[j]? = some y) (hv : Vis X.env.scope y) (hd : (y == ("__debug__" : Str)) = false := by decide) (hcd : (y == ("__classdict__" : Str)) = false := by decide) (hs : swapsWith (.Name y py) (some (.Name x p')) pos.line X.env = pure false := by rfl)
    (hf : X.fn x = true ∨ X.env.scope.names.lookup x = some .local := by first | exact .inl rfl | exact .inr rfl | assumption) : SF X (.Assign [.Name x p'] (.Name y py) pos) (sMove i j) :=
  ⟨fW_mono, (ps_set hN hi hx (pe_var hj hv hd hcd) hs hf).imp fun En σ H ⟨B, F, ρ, R, fl, e, k⟩ => by
    unfold sMove at e
    split at e
    · rename_i t kvs hρ
      split at e
      · cases e
      · rename_i hij
        cases e
        obtain ⟨a, o, hσ, f, h0, h1, r⟩ := R.ownG hρ rfl (fun z => by cases z)
        refine ⟨_, hσ, k F H _ ((R.drop j).putA f h0 h1 r fun l s hs ho e => ?_) (Same.refl _)⟩
        rcases set_some hs with ⟨rfl, hl, rfl⟩ | ⟨ne, hs⟩
        · cases ho
        · exact R.apart j l a _ s ne hρ hs rfl ho hσ e
    · cases e⟩
end
/-! ### names for dicts that calls make -/
section
variable {X : Cx} {x : Str} {i : Nat} {px p apos cpos pos : Pos}
/-- several at once -/
def oZ (h : Rho → Option (List (D × D))) (U : TP) : TP := fun ρ K => ∃ kvs, h ρ = some kvs ∧ U ρ fun ps => K (.z kvs :: ps)
theorem oa_z {e : Expr} {es : List Expr} {h : Rho → Option (List (D × D))} {U : TP} (ha : PE X e (tLkF X.K h)) (hr : OA X es U) (hs : starEach (e :: es) X.env = (false, eval e X.env) :: starEach es X.env := by rfl) : OA X (e :: es) (oZ h U) :=
  ⟨fun ρ K K' h ⟨kvs, e, q⟩ => ⟨kvs, e, hr.mono _ _ _ (fun xs => h _) q⟩, PA.imp (pa_cons ha hr.pa hs) fun σ H Q ⟨B, F, ρ, R, kvs, e, q⟩ => ⟨B, F, ρ, R, kvs, e, fun a o es F1 H1 R1 s1 hf dv =>
    ⟨B, F1, ρ, R1, hr.mono _ _ _ (fun xs k2 F2 H2 vs as R2 e2 d2 => k2 F2 H2 (.ref a :: vs) as R2 (s1.trans e2) (.z (e2 _ _ hf) (dv.same e2) d2)) q⟩⟩⟩
def pZ (h : Rho → Option (List (D × D))) (g : Rho → Option (List Pv)) : Rho → Option (List Pv) := fun ρ => (h ρ).bind fun x => (g ρ).map fun xs => .z x :: xs
theorem of_z {e : Expr} {es : List Expr} {h : Rho → Option (List (D × D))} {g : Rho → Option (List Pv)} (ha : PE X e (tLkF X.K h)) (hr : OA X es (fW g)) (hs : starEach (e :: es) X.env = (false, eval e X.env) :: starEach es X.env := by rfl) : OA X (e :: es) (fW (pZ h g)) := (oa_z ha hr hs).imp fW_mono fun ρ K ⟨p, e, k⟩ => by
  obtain ⟨x, e1, e⟩ := Option.bind_eq_some_iff.mp e
  obtain ⟨xs, e2, rfl⟩ := Option.map_eq_some_iff.mp e
  exact ⟨x, e1, xs, e2, k⟩
/-- the name, for reading -/
theorem pe_varL (hN : X.N[i]? = some x) (hv : Vis X.env.scope x) (hd : (x == ("__debug__" : Str)) = false := by decide) (hcd : (x == ("__classdict__" : Str)) = false := by decide) : PE X (.Name x px) (tLkF X.K (slotZ i)) :=
  (pe_varZ hN hv hd hcd).imp fun σ H Q ⟨B, F, ρ, R, kvs, e, q⟩ => ⟨B, F, ρ, R, kvs, e, fun a o es f d => q a o es F H R (Same.refl _) f d⟩
/-- x[k] -/
def vGetL (h : Rho → Option (List (D × D))) (f : Rho → Option D) : Rho → Option D := fun ρ => (h ρ).bind fun kvs => (f ρ).bind fun k => if kindOk true k = true then lookD kvs k else none
theorem ef_getL {e k : Expr} {h : Rho → Option (List (D × D))} {f : Rho → Option D} (hu : Rm X) (he : PE X e (tLkF X.K h)) (hk : EF X k f) (hs : NoSl k := by intro _ _; rfl) : EF X (.Subscript e k pos) (vGetL h f) :=
  ⟨fW_mono, (pe_dget (by unfold Rm at hu; omega) he hk.pe hs).imp fun σ H Q ⟨B, F, ρ, R, z, e, q⟩ => by
    obtain ⟨kvs, e2, e⟩ := Option.bind_eq_some_iff.mp e
    obtain ⟨a, e1, e⟩ := Option.bind_eq_some_iff.mp e
    split at e
    · rename_i hkind
      refine ⟨B, F, ρ, R, kvs, e2, fun c o es F1 H1 R1 s1 hd dv => ⟨B, F1, ρ, R1, a, e1, fun F2 H2 y R2 s2 d1 => ?_⟩⟩
      obtain ⟨ns, kb, rfl, rfl, hb⟩ := key_at d1 hkind
      have ho : OpD X.K F2 (valV es (ns.map Sum.inl)) (lookD kvs (.tuple (ns.map .int))) := (dv.same s2).val ns
      rw [e] at ho
      generalize hvl : valV es (ns.map Sum.inl) = vl at ho
      cases ho with
      | yes dz => exact ⟨c, _, rfl, .inr ⟨es, ns.map Sum.inl, kb, .inr ⟨o, R2.sub _ _ (s2 _ _ hd)⟩, rfl, R2.sub _ _ hb, hvl.symm⟩, q F2 H2 _ R2 (s1.trans s2) dz⟩
    · cases e⟩
/-- list(x) -/
theorem nf_keysL {e : Expr} {h : Rho → Option (List (D × D))} (bi : Bi X.mg) (he : PE X e (tRd X.K h)) (hc : X.calm = true := by rfl) (hg : Gl X "list" := by rfl) (hs : starEach [e] X.env = (false, eval e X.env) :: starEach [] X.env := by rfl) : NF X (.Call (.Name "list" p) [e] [] pos) (fKeysC h) :=
  ⟨fW_mono, (pe_callTy (call_list_dT hc) hg bi.list bt_list (pa_cons he pa_nil hs) (he := hs) (hpl := rfl)).imp fun σ H Q ⟨B, F, ρ, R, z, e, q⟩ => by
    obtain ⟨kvs, e1, rfl⟩ := Option.map_eq_some_iff.mp e
    refine ⟨B, F, ρ, R, kvs, e1, fun a es F1 H1 R1 s1 hd dv => ⟨a, es, rfl, hd, fun l bs hl hk => ?_⟩⟩
    obtain ⟨F', R', s', d'⟩ := R1.frzKs dv hk
    exact q F' H1 l _ R' (s1.trans s') hl d'⟩
/-- list(x.values()) -/
def tVwR (td : TE) : TE := fun σ H Q => td σ H fun x H1 => ∃ d es, x = .ref d ∧ Rd H1 d (.dT es) ∧ ∀ q, H1 q = none → Q (.ref q) (upd H1 q (valuesO q d))
theorem pe_vwR {e : Expr} {td : TE} (he : PE X e td) (hbase : attributeBase e "values" X.env (eval e X.env) = eval e X.env := by rfl) (hline : (apos.endLine == cpos.line) = true := by rfl) : PE X (.Call (.Attribute e "values" apos) [] [] cpos) (tVwR td) := by
  refine ⟨fun pins s σ H Q I h => ?_⟩
  refine wpAny_Call_method (T := "dict") (id := "dict.values") hbase rfl hline F.plainAttrs_dict F.slot_dict_values F.type_dict_values (thn (he.run pins s σ H _ I h) fun u s1 ⟨x, H1, I1, rx, d, kvs, ex, hd, q⟩ => ?_)
  subst ex
  obtain rfl : u = Value.ref d := rx
  obtain ⟨hs, o, hgd, hx, hz, es, ep, hdt, _, _, _⟩ := rdT I1 hd
  have raw : s1.heap.DictRaw d es ep := ⟨o, hgd, hx, hdt⟩
  refine ⟨raw.typeIs, fun b e => by cases e; exact ⟨o, hgd, hx.2.1⟩, ?_⟩
  have hn : H1 s1.heap.objs.size = none := I1.hok.fresh (Nat.le_refl _)
  show wpAny _ _ (callWith cpos (.builtin "dict.values") [.ref d] [] []) _ X.xe s1
  exact method_meetsIn F.slot_dict_values F.entry_dict_values rfl (PySem.evalArgs_none ⟨rfl, raw.typeIs, F.args_dict_values_1 _, _, meets_dict_values_raw d hs, ⟨⟨es, ep, raw⟩,
    ⟨.ref s1.heap.objs.size, upd H1 s1.heap.objs.size (valuesO s1.heap.objs.size d), I1.laid (t' := s1.toks) (fun b u e => Heap.get?_push_of_some _ e) (Nat.le_refl _) (valuesO_ok (Heap.get?_push_size _ rfl)), rfl, q _ hn⟩⟩⟩)
def rListVR : List V → Hp → VK → Prop := fun xs H Q => ∃ p d kvs, xs = [V.ref p] ∧ H p = some (valuesO p d) ∧ Rd H d (.dT kvs) ∧ ∀ q, H q = none → Q (.ref q) (upd H q (.lst (kvs.map (·.2))))
theorem call_listVR (hc : X.calm = true) : CallR X (.type "list") rListVR := by
  intro pins s σ H xs us Q I r h
  obtain ⟨p, d, kvs, rfl, hp, hd, q⟩ := h
  obtain ⟨u, rfl, rx⟩ := r.one
  cases rx
  obtain ⟨hs, o, ho, hx, hz, es, ep, hdt, hsz, _, ent⟩ := rdT I hd
  obtain ⟨hv, _, _⟩ : ObjOk X.prog X.w H s.heap p (valuesO p d) := I.hok p _ hp
  refine PySem.W.kdl_call (PySem.KdlSrc.rawValues (r := p) (d := d) (es := es) (ep := ep)) (I.ok.hd hc) ⟨hv, ⟨o, ho, hx, hdt⟩⟩ (by omega) fun h' tk acc' c' kp e it => ?_
  have rv : Vals (kvs.map (·.2)) acc'.toList := by
    have hl : acc'.toList.length = kvs.length := by rw [Array.length_toList, it.1]; exact hsz
    have all : ∀ (xs : List V) (us : List Value), xs.length = us.length → (∀ (j : Nat) (x : V) (u : Value), xs[j]? = some x → us[j]? = some u → RelV x u) → Vals xs us := by
      intro xs
      induction xs with
      | nil => intro us h _; cases us with
        | nil => exact .nil
        | cons _ _ => simp at h
      | cons x xs ih => intro us h k; cases us with
        | nil => simp at h
        | cons u us => exact .cons (k 0 x u rfl rfl) (ih us (by simpa using h) fun j x' u' h1 h2 => k (j + 1) x' u' (by simpa using h1) (by simpa using h2))
    refine all _ _ (by rw [List.length_map, hl]) fun j x u h1 h2 => ?_
    rw [List.getElem?_map] at h1
    obtain ⟨⟨k, v⟩, hkv, rfl⟩ := Option.map_eq_some_iff.mp h1
    obtain ⟨en, e1, r1⟩ := ent j k v hkv
    obtain ⟨hi, hvv⟩ := it.2 j u (by rw [← Array.getElem?_toList]; exact h2)
    have e1' : es[j] = en := (Array.getElem?_eq_some_iff.mp e1).2
    rw [hvv, e1']
    exact r1
  refine ⟨.ref s.heap.objs.size, _, I.laid (t' := tk) (o := .lst (kvs.map (·.2))) kp (Nat.le_refl _) ?_, rfl, q _ (I.hok.fresh (Nat.le_refl _))⟩
  exact ⟨by rw [List.length_map]; omega, acc'.toList, c', rv, by rw [Array.toArray_toList]; exact e⟩
theorem nf_listValsL {e : Expr} {h : Rho → Option (List (D × D))} (bi : Bi X.mg) (he : PE X e (tRd X.K h)) (hc : X.calm = true := by rfl) (hg : Gl X "list" := by rfl)
    (hbase : attributeBase e "values" X.env (eval e X.env) = eval e X.env := by rfl) (hline : (apos.endLine == cpos.line) = true := by rfl)
    (hs : starEach [.Call (.Attribute e "values" apos) [] [] cpos] X.env = (false, eval (.Call (.Attribute e "values" apos) [] [] cpos) X.env) :: starEach [] X.env := by rfl) :
    NF X (.Call (.Name "list" p) [.Call (.Attribute e "values" apos) [] [] cpos] [] pos) (fValsC h) :=
  ⟨fW_mono, (pe_callTy (call_listVR hc) hg bi.list bt_list (pa_cons (pe_vwR he hbase hline) pa_nil hs) (he := hs) (hpl := rfl)).imp fun σ H Q ⟨B, F, ρ, R, z, e0, q⟩ => by
    obtain ⟨kvs, e1, rfl⟩ := Option.map_eq_some_iff.mp e0
    refine ⟨B, F, ρ, R, kvs, e1, fun a es F' H' R1 sF hd dv => ⟨a, es, rfl, hd, fun v hv => ?_⟩⟩
    have hd1 : Rd (upd H' v (valuesO v a)) a (.dT es) := by
      rcases hd with hd | ⟨o, hd⟩
      · exact .inl (by rw [upd_ne (ne_of_none hd hv)]; exact hd)
      · exact .inr ⟨o, by rw [upd_ne (ne_of_none hd hv)]; exact hd⟩
    exact ⟨v, a, es, rfl, upd_same, hd1, fun l hl => q _ _ _ _ (R1.lay hv) sF hl (dtAll_vals dv)⟩⟩
end
end L2.P

set_option Elab.async false
set_option linter.all false
set_option maxRecDepth 100000
set_option maxHeartbeats 4000000
/-! PL58: laws of few cases: what the kernel runs. -/
namespace L2.P
open PySem PySem.Spec PyProof.Rows L2
def nxOf : Option Fl → Rho
  | some (.nx ρ) => ρ
  | _ => []
def isNx : Option Fl → Bool
  | some (.nx _) => true
  | _ => false
def isTru : Option Fl → Bool
  | some (.rt (.bool true)) => true
  | _ => false
theorem isNx_of {o : Option Fl} (h : isNx o = true) : o = some (.nx (nxOf o)) := by
  unfold isNx at h
  split at h
  · rfl
  · cases h
theorem isTru_of {o : Option Fl} (h : isTru o = true) : o = some (.rt (.bool true)) := by
  unfold isTru at h
  split at h
  · rfl
  · cases h
/-- a piece without draws -/
theorem k_seq {f : Rho → Option Fl} {U : TSt} {ρ : Rho} {K : Fl → Prop} (h : isNx (f ρ) = true) (k : U (nxOf (f ρ)) K) : wSeq (fW f) U ρ K := ⟨_, isNx_of h, k⟩
/-- two pieces at once -/
theorem k_join {f g : Rho → Option Fl} {U : TSt} {ρ : Rho} {K : Fl → Prop} (k : wSeq (fW (sSeq f g)) U ρ K) : wSeq (fW f) (wSeq (fW g) U) ρ K := by
  obtain ⟨fl, e, k⟩ := k
  have e' : (match f ρ with | some (.nx ρ') => g ρ' | r => r) = some fl := e
  cases hf : f ρ with
  | none => rw [hf] at e'; cases e'
  | some x =>
    rw [hf] at e'
    refine ⟨x, hf, ?_⟩
    cases x with
    | nx ρ' => exact ⟨fl, e', k⟩
    | rt p => cases e'; exact k
    | bk p => cases e'; exact k
    | ct p => cases e'; exact k
theorem k_last {f g : Rho → Option Fl} {ρ : Rho} {K : Fl → Prop} (k : fW (sSeq f g) ρ K) : wSeq (fW f) (fW g) ρ K := by
  obtain ⟨fl, e, k⟩ := k
  have e' : (match f ρ with | some (.nx ρ') => g ρ' | r => r) = some fl := e
  cases hf : f ρ with
  | none => rw [hf] at e'; cases e'
  | some x =>
    rw [hf] at e'
    refine ⟨x, hf, ?_⟩
    cases x with
    | nx ρ' => exact ⟨fl, e', k⟩
    | rt p => cases e'; exact k
    | bk p => cases e'; exact k
    | ct p => cases e'; exact k
theorem k_end {f : Rho → Option Fl} {ρ : Rho} {K : Fl → Prop} (h : isTru (f ρ) = true) (k : K (.rt (.bool true))) : fW f ρ K := ⟨_, isTru_of h, k⟩
end L2.P

set_option Elab.async false
set_option linter.all false
set_option maxRecDepth 100000
set_option maxHeartbeats 4000000
namespace W
open PySem PySem.Spec PyProof.Rows L2 L2.P
def topS (i : Nat) : Stmt := PySem.Challenge.pw_tallsits_k75_whole_stairs_by_lot.main.body.getD i (.Pass ⟨0, 0, 0, 0⟩)
section
variable {P : Program} {w : World} {K : PySem.W.Frag} {mg : Str → Option Value} {base : Heap}
def B_is_integer : Rho → Option Fl := (sRet (vAnd (vIsi "int" (gX 0)) (vNot (vIsi "bool" (gX 0)))))
def g_is_integer : GA := runF 1 B_is_integer

abbrev s_is_integer : Stmt := topS 1
theorem sc_is_integer : FnScope ["value"] ["value"] (defScope s_is_integer) := ⟨rfl, rfl, rfl, by decide +kernel, rfl, by decide +kernel, by decide +kernel⟩
theorem ok_is_integer (bi : Bi mg) (Fd : ∃ f fd, FunD K "is_integer" "is_integer" (defArgs s_is_integer) (defBody s_is_integer) (defScope s_is_integer) [] [] f fd ∧ mg "is_integer" = some (.ref f)) : DG P w K mg base "is_integer" 1 1 g_is_integer := by
  obtain ⟨f, fd, Fd, m⟩ := Fd
  refine ⟨f, fd, ["value"], fn_pureF (k := 0) (N := ["value"]) (g := B_is_integer) Fd sc_is_integer rfl (by decide) (fun cdv A outer s H E hr => ?_), m, Fd.kp, Fd.bindsN fun _ _ _ _ _ _ us hl => match us, hl with | [_], _ => by kernel_rfl⟩
  have rm := rm_of (X := (cxOf CX0 P w K mg base ["value"] "is_integer" (defScope s_is_integer) f cdv A outer s H E).nox) hr
  have nd := sc_is_integer.nd
  exact (sws_one (sf_ret (ef_and (ef_isi (T := "int") (xv 0) rfl bi.isinstance rfl bi.int bt_int (hv := bt_isi)) (ef_one (ef_not (ef_isi (T := "bool") (xv 0) rfl bi.isinstance rfl bi.bool bt_bool (hv := bt_isi)))))))

def B_is_in : Rho → Option Fl := (sRet (vAnd (aOf g_is_integer (aCons (gV 0) aNil)) (b3 dLe dLe (gX 1) (gX 0) (gX 2))))
def g_is_in : GA := runF 3 B_is_in

abbrev s_is_in : Stmt := topS 2
theorem sc_is_in : FnScope ["value", "least", "most"] ["value", "least", "most"] (defScope s_is_in) := ⟨rfl, rfl, rfl, by decide +kernel, rfl, by decide +kernel, by decide +kernel⟩
theorem ok_is_in (bi : Bi mg) (c_is_integer : DG P w K mg base "is_integer" 1 1 g_is_integer) (Fd : ∃ f fd, FunD K "is_in" "is_in" (defArgs s_is_in) (defBody s_is_in) (defScope s_is_in) [] [] f fd ∧ mg "is_in" = some (.ref f)) : DG P w K mg base "is_in" 2 3 g_is_in := by
  obtain ⟨f, fd, Fd, m⟩ := Fd
  refine ⟨f, fd, ["value", "least", "most"], fn_pureF (k := 1) (N := ["value", "least", "most"]) (g := B_is_in) Fd sc_is_in rfl (by decide) (fun cdv A outer s H E hr => ?_), m, Fd.kp, Fd.bindsN fun _ _ _ _ _ _ us hl => match us, hl with | [_, _, _], _ => by kernel_rfl⟩
  have rm := rm_of (X := (cxOf CX0 P w K mg base ["value", "least", "most"] "is_in" (defScope s_is_in) f cdv A outer s H E).nox) hr
  have nd := sc_is_in.nd
  exact (sws_one (sf_ret (ef_and (ef_call (c_is_integer.cal hr) (ea_cons (ev 0) ea_nil) (lenA_cons lenA_nil) rfl) (ef_one (ef_chain og_le og_le (xv 1) (xv 0) (xv 2))))))

def B_is_list : Rho → Option Fl := (sRet (vAnd (vIsi "tuple" (gX 0)) (b3 dLe dLe (gX 1) (aOf gLen (aCons (gX 0) aNil)) (gX 2))))
def g_is_list : GA := runF 3 B_is_list

abbrev s_is_list : Stmt := topS 3
theorem sc_is_list : FnScope ["value", "least", "most"] ["value", "least", "most"] (defScope s_is_list) := ⟨rfl, rfl, rfl, by decide +kernel, rfl, by decide +kernel, by decide +kernel⟩
theorem ok_is_list (bi : Bi mg) (Fd : ∃ f fd, FunD K "is_list" "is_list" (defArgs s_is_list) (defBody s_is_list) (defScope s_is_list) [] [] f fd ∧ mg "is_list" = some (.ref f)) : DG P w K mg base "is_list" 1 3 g_is_list := by
  obtain ⟨f, fd, Fd, m⟩ := Fd
  refine ⟨f, fd, ["value", "least", "most"], fn_pureF (k := 0) (N := ["value", "least", "most"]) (g := B_is_list) Fd sc_is_list rfl (by decide) (fun cdv A outer s H E hr => ?_), m, Fd.kp, Fd.bindsN fun _ _ _ _ _ _ us hl => match us, hl with | [_, _, _], _ => by kernel_rfl⟩
  have rm := rm_of (X := (cxOf CX0 P w K mg base ["value", "least", "most"] "is_list" (defScope s_is_list) f cdv A outer s H E).nox) hr
  have nd := sc_is_list.nd
  exact (sws_one (sf_ret (ef_and (ef_isi (T := "tuple") (xv 0) rfl bi.isinstance rfl bi.tuple bt_tuple (hv := bt_isi)) (ef_one (ef_chain og_le og_le (xv 1) (EW.x (c_len bi (xa_cons (xv 0) xa_nil))) (xv 2))))))

def B_need_web : Rho → Option Fl := (sSeq (sIf (bNot (bB (aOf g_is_list (aCons (gV 0) (aCons (gC (.int 1)) (aCons (gC (.int 7)) aNil)))))) sNever sNil)
  (sSeq (sSet 1 (aOf gLen (aCons (gX 0) aNil)))
  (sSeq (sFor (tg2 2 3) (fEnum (gV 0)) (sSeq (sIf (bOr (bNot (bB (aOf g_is_list (aCons (gV 3) (aCons (gC (.int 0)) (aCons (b2 dSub (gX 1) (gC (.int 1))) aNil)))))) (bNot (bB (aOf gAll (aCons (fun ρ => ((cLc [4] (tgN 4) fYes (aOf g_is_in (aCons (gV 4) (aCons (gC (.int 0)) (aCons (b2 dSub (gX 1) (gC (.int 1))) aNil)))) (fItems (gV 3))) ρ).map PyData.list) aNil))))) sNever sNil)
  (sIf (bOr (bB (b2 dNeN (fun ρ => ((aOf gLst (aCons (gX 3) aNil)) ρ).map PyData.list) (fun ρ => ((nSortSet (gX 3)) ρ).map PyData.list))) (bB (b2 dIn (gX 2) (gX 3)))) sNever sNil)))
  (sFor (tg2 2 3) (fEnum (gV 0)) (sIf (bB (aOf gAny (aCons (fun ρ => ((cLc [4] (tgN 4) fYes (b2 dNotIn (gX 2) (b2 dIxN (gX 0) (gX 4))) (fItems (gV 3))) ρ).map PyData.list) aNil))) sNever sNil)))))
def g_need_web : GA := runF 5 B_need_web

abbrev s_need_web : Stmt := topS 12
theorem sc_need_web : FnScope ["web", "people", "index", "friends", "other"] ["web"] (defScope s_need_web) := ⟨rfl, rfl, rfl, by decide +kernel, rfl, by decide +kernel, by decide +kernel⟩
theorem ok_need_web (bi : Bi mg) (k_MOST_PEOPLE : ∃ t, mg "MOST_PEOPLE" = some (.int 7 t)) (c_is_list : DG P w K mg base "is_list" 1 3 g_is_list) (c_is_in : DG P w K mg base "is_in" 2 3 g_is_in) (Fd : ∃ f fd, FunD K "need_web" "need_web" (defArgs s_need_web) (defBody s_need_web) (defScope s_need_web) [] [] f fd ∧ mg "need_web" = some (.ref f)) : DG P w K mg base "need_web" 3 1 g_need_web := by
  obtain ⟨f, fd, Fd, m⟩ := Fd
  refine ⟨f, fd, ["web"], fn_pureF (k := 2) (N := ["web", "people", "index", "friends", "other"]) (g := B_need_web) Fd sc_need_web rfl (by decide) (fun cdv A outer s H E hr => ?_), m, Fd.kp, Fd.bindsN fun _ _ _ _ _ _ us hl => match us, hl with | [_], _ => by kernel_rfl⟩
  have rm := rm_of (X := (cxOf CX0 P w K mg base ["web", "people", "index", "friends", "other"] "need_web" (defScope s_need_web) f cdv A outer s H E).nox) hr
  have nd := sc_need_web.nd
  exact (sfs_cons (sf_if (tf_not (tf_val (ef_call (c_is_list.cal hr) (ea_cons (ev 0) (ea_cons ef_int (ea_cons (ef_gint k_MOST_PEOPLE) ea_nil))) (lenA_cons (lenA_cons (lenA_cons lenA_nil))) rfl))) (sws_one sf_never) sfs_nil)
    (sfs_cons (sf_set (i := 1) nd rfl (by first | exact Or.inl rfl | exact Or.inr rfl) (c_len bi (xa_cons (xv 0) xa_nil)))
    (sfs_cons (sf_for PassesOwn.never rfl (if_enum bi (ev 0)) (gw_two (i := 2) (j := 3) rfl nd rfl (by first | exact Or.inl rfl | exact Or.inr rfl) rfl (by first | exact Or.inl rfl | exact Or.inr rfl)) (sfs_cons (sf_if (TWW.t (tf_or (tf_not (tf_val (ef_call (c_is_list.cal hr) (ea_cons (ev 3) (ea_cons ef_int (ea_cons (ef_bin og_sub (xv 1) (EW.x ef_int)) ea_nil))) (lenA_cons (lenA_cons (lenA_cons lenA_nil))) rfl))) (tf_or1 (tf_not (tf_val (c_all bi (xa_cons (EW.x (NF.e (NW.lc (nw_lc (own := [("other", 4)]) (g := (tgN 4)) (T := fW fYes) (E := fW (aOf g_is_in (aCons (gV 4) (aCons (gC (.int 0)) (aCons (b2 dSub (gX 1) (gC (.int 1))) aNil))))) rfl nd (if_seq (ev 3)) (blkOk_by (own := [("other", 4)]) (by kernel_rfl)) (fun _ _ _ _ _ => (gw_sub (gw_name (i := 4) nd rfl (by first | exact Or.inl rfl | exact Or.inr rfl)))) (fun _ _ _ _ _ => ts_nil) (fun _ _ _ _ _ => (ef_call (c_is_in.cal hr) (ea_cons (ev 4) (ea_cons ef_int (ea_cons (ef_bin og_sub (xv 1) (EW.x ef_int)) ea_nil))) (lenA_cons (lenA_cons (lenA_cons lenA_nil))) rfl)) s)))) xa_nil))))))) (sws_one sf_never) sfs_nil)
    (sws_one (sf_if (TWW.t (tf_or (tf_cmp (og_neN rm) (EW.x (NF.e (n_list bi (xa_cons (xv 3) xa_nil)))) (EW.x (NF.e (n_sortSet bi (xv 3)))) (nomark _)) (tf_or1 (tf_cmp (og_in rm) (xv 2) (xv 3) (by rfl))))) (sws_one sf_never) sfs_nil))))
    (sws_one (sf_for PassesOwn.never rfl (if_enum bi (ev 0)) (gw_two (i := 2) (j := 3) rfl nd rfl (by first | exact Or.inl rfl | exact Or.inr rfl) rfl (by first | exact Or.inl rfl | exact Or.inr rfl)) (sws_one (sf_if (tf_val (c_any bi (xa_cons (EW.x (NF.e (NW.lc (nw_lc (own := [("other", 4)]) (g := (tgN 4)) (T := fW fYes) (E := fW (b2 dNotIn (gX 2) (b2 dIxN (gX 0) (gX 4)))) rfl nd (if_seq (ev 3)) (blkOk_by (own := [("other", 4)]) (by kernel_rfl)) (fun _ _ _ _ _ => (gw_sub (gw_name (i := 4) nd rfl (by first | exact Or.inl rfl | exact Or.inr rfl)))) (fun _ _ _ _ _ => ts_nil) (fun _ _ _ _ _ => (ef_cmp (og_notIn rm) (xv 2) (EW.x (ef_ixN (xv 0) (xv 4))) (by rfl))) s)))) xa_nil))) (sws_one sf_never) sfs_nil)))))))

def B_is_set : Rho → Option Fl := (sSeq (sSet 2 (aOf gLen (aCons (gX 0) aNil)))
  (sSeq (sIf (bOr (bNot (bB (aOf g_is_list (aCons (gV 1) (aCons (gC (.int 0)) (aCons (gV 2) aNil)))))) (bNot (bB (aOf gAll (aCons (fun ρ => ((cLc [3] (tgN 3) fYes (aOf g_is_in (aCons (gV 3) (aCons (gC (.int 0)) (aCons (b2 dSub (gX 2) (gC (.int 1))) aNil)))) (fItems (gV 1))) ρ).map PyData.list) aNil))))) (sRet (gC (.bool false))) sNil)
  (sRet (b2 dEqN (fun ρ => ((aOf gLst (aCons (gX 1) aNil)) ρ).map PyData.list) (fun ρ => ((nSortSet (gX 1)) ρ).map PyData.list)))))
def g_is_set : GA := runF 4 B_is_set

abbrev s_is_set : Stmt := topS 13
theorem sc_is_set : FnScope ["web", "people", "many", "person"] ["web", "people"] (defScope s_is_set) := ⟨rfl, rfl, rfl, by decide +kernel, rfl, by decide +kernel, by decide +kernel⟩
theorem ok_is_set (bi : Bi mg) (c_is_list : DG P w K mg base "is_list" 1 3 g_is_list) (c_is_in : DG P w K mg base "is_in" 2 3 g_is_in) (Fd : ∃ f fd, FunD K "is_set" "is_set" (defArgs s_is_set) (defBody s_is_set) (defScope s_is_set) [] [] f fd ∧ mg "is_set" = some (.ref f)) : DG P w K mg base "is_set" 3 2 g_is_set := by
  obtain ⟨f, fd, Fd, m⟩ := Fd
  refine ⟨f, fd, ["web", "people"], fn_pureF (k := 2) (N := ["web", "people", "many", "person"]) (g := B_is_set) Fd sc_is_set rfl (by decide) (fun cdv A outer s H E hr => ?_), m, Fd.kp, Fd.bindsN fun _ _ _ _ _ _ us hl => match us, hl with | [_, _], _ => by kernel_rfl⟩
  have rm := rm_of (X := (cxOf CX0 P w K mg base ["web", "people", "many", "person"] "is_set" (defScope s_is_set) f cdv A outer s H E).nox) hr
  have nd := sc_is_set.nd
  exact (sfs_cons (sf_set (i := 2) nd rfl (by first | exact Or.inl rfl | exact Or.inr rfl) (c_len bi (xa_cons (xv 0) xa_nil)))
    (sfs_cons (sf_if (TWW.t (tf_or (tf_not (tf_val (ef_call (c_is_list.cal hr) (ea_cons (ev 1) (ea_cons ef_int (ea_cons (ev 2) ea_nil))) (lenA_cons (lenA_cons (lenA_cons lenA_nil))) rfl))) (tf_or1 (tf_not (tf_val (c_all bi (xa_cons (EW.x (NF.e (NW.lc (nw_lc (own := [("person", 3)]) (g := (tgN 3)) (T := fW fYes) (E := fW (aOf g_is_in (aCons (gV 3) (aCons (gC (.int 0)) (aCons (b2 dSub (gX 2) (gC (.int 1))) aNil))))) rfl nd (if_seq (ev 1)) (blkOk_by (own := [("person", 3)]) (by kernel_rfl)) (fun _ _ _ _ _ => (gw_sub (gw_name (i := 3) nd rfl (by first | exact Or.inl rfl | exact Or.inr rfl)))) (fun _ _ _ _ _ => ts_nil) (fun _ _ _ _ _ => (ef_call (c_is_in.cal hr) (ea_cons (ev 3) (ea_cons ef_int (ea_cons (ef_bin og_sub (xv 2) (EW.x ef_int)) ea_nil))) (lenA_cons (lenA_cons (lenA_cons lenA_nil))) rfl)) s)))) xa_nil))))))) (sws_one (sf_ret ef_bl)) sfs_nil)
    (sws_one (sf_ret (ef_cmp (og_eqN rm) (EW.x (NF.e (n_list bi (xa_cons (xv 1) xa_nil)))) (EW.x (NF.e (n_sortSet bi (xv 1)))) (nomark _))))))

def B_need_state : Rho → Option Fl := (sSeq (sDrop (aOf g_need_web (aCons (gV 0) aNil)))
  (sIf (bNot (bB (aOf g_is_set (aCons (gV 0) (aCons (gV 1) aNil))))) sNever sNil))
def g_need_state : GA := runF 2 B_need_state

abbrev s_need_state : Stmt := topS 14
theorem sc_need_state : FnScope ["web", "standing"] ["web", "standing"] (defScope s_need_state) := ⟨rfl, rfl, rfl, by decide +kernel, rfl, by decide +kernel, by decide +kernel⟩
theorem ok_need_state (bi : Bi mg) (c_need_web : DG P w K mg base "need_web" 3 1 g_need_web) (c_is_set : DG P w K mg base "is_set" 3 2 g_is_set) (Fd : ∃ f fd, FunD K "need_state" "need_state" (defArgs s_need_state) (defBody s_need_state) (defScope s_need_state) [] [] f fd ∧ mg "need_state" = some (.ref f)) : DG P w K mg base "need_state" 4 2 g_need_state := by
  obtain ⟨f, fd, Fd, m⟩ := Fd
  refine ⟨f, fd, ["web", "standing"], fn_pureF (k := 3) (N := ["web", "standing"]) (g := B_need_state) Fd sc_need_state rfl (by decide) (fun cdv A outer s H E hr => ?_), m, Fd.kp, Fd.bindsN fun _ _ _ _ _ _ us hl => match us, hl with | [_, _], _ => by kernel_rfl⟩
  have rm := rm_of (X := (cxOf CX0 P w K mg base ["web", "standing"] "need_state" (defScope s_need_state) f cdv A outer s H E).nox) hr
  have nd := sc_need_state.nd
  exact (sfs_cons (sf_expr (ef_call (c_need_web.cal hr) (ea_cons (ev 0) ea_nil) (lenA_cons lenA_nil) rfl))
    (sws_one (sf_if (tf_not (tf_val (ef_call (c_is_set.cal hr) (ea_cons (ev 0) (ea_cons (ev 1) ea_nil)) (lenA_cons (lenA_cons lenA_nil)) rfl))) (sws_one sf_never) sfs_nil)))

def B_need_person : Rho → Option Fl := (sIf (bNot (bB (aOf g_is_in (aCons (gV 1) (aCons (gC (.int 0)) (aCons (b2 dSub (aOf gLen (aCons (gX 0) aNil)) (gC (.int 1))) aNil)))))) sNever sNil)
def g_need_person : GA := runF 2 B_need_person

abbrev s_need_person : Stmt := topS 15
theorem sc_need_person : FnScope ["web", "person"] ["web", "person"] (defScope s_need_person) := ⟨rfl, rfl, rfl, by decide +kernel, rfl, by decide +kernel, by decide +kernel⟩
theorem ok_need_person (bi : Bi mg) (c_is_in : DG P w K mg base "is_in" 2 3 g_is_in) (Fd : ∃ f fd, FunD K "need_person" "need_person" (defArgs s_need_person) (defBody s_need_person) (defScope s_need_person) [] [] f fd ∧ mg "need_person" = some (.ref f)) : DG P w K mg base "need_person" 3 2 g_need_person := by
  obtain ⟨f, fd, Fd, m⟩ := Fd
  refine ⟨f, fd, ["web", "person"], fn_pureF (k := 2) (N := ["web", "person"]) (g := B_need_person) Fd sc_need_person rfl (by decide) (fun cdv A outer s H E hr => ?_), m, Fd.kp, Fd.bindsN fun _ _ _ _ _ _ us hl => match us, hl with | [_, _], _ => by kernel_rfl⟩
  have rm := rm_of (X := (cxOf CX0 P w K mg base ["web", "person"] "need_person" (defScope s_need_person) f cdv A outer s H E).nox) hr
  have nd := sc_need_person.nd
  exact (sws_one (sf_if (tf_not (tf_val (ef_call (c_is_in.cal hr) (ea_cons (ev 1) (ea_cons ef_int (ea_cons (ef_bin og_sub (EW.x (c_len bi (xa_cons (xv 0) xa_nil))) (EW.x ef_int)) ea_nil))) (lenA_cons (lenA_cons (lenA_cons lenA_nil))) rfl))) (sws_one sf_never) sfs_nil))

def B_taller_in : Rho → Option Fl := (sRet (aOf gTup (aCons (fun ρ => ((cLc [2] (tgN 2) (bB (b2 dGt (gX 2) (gX 1))) (gV 2) (fItems (b2 dIxN (gX 0) (gX 1)))) ρ).map PyData.list) aNil)))
def g_taller_in : GA := runF 3 B_taller_in

abbrev s_taller_in : Stmt := topS 16
theorem sc_taller_in : FnScope ["web", "person", "other"] ["web", "person"] (defScope s_taller_in) := ⟨rfl, rfl, rfl, by decide +kernel, rfl, by decide +kernel, by decide +kernel⟩
theorem ok_taller_in (bi : Bi mg) (Fd : ∃ f fd, FunD K "taller_in" "taller_in" (defArgs s_taller_in) (defBody s_taller_in) (defScope s_taller_in) [] [] f fd ∧ mg "taller_in" = some (.ref f)) : DG P w K mg base "taller_in" 1 2 g_taller_in := by
  obtain ⟨f, fd, Fd, m⟩ := Fd
  refine ⟨f, fd, ["web", "person"], fn_pureF (k := 0) (N := ["web", "person", "other"]) (g := B_taller_in) Fd sc_taller_in rfl (by decide) (fun cdv A outer s H E hr => ?_), m, Fd.kp, Fd.bindsN fun _ _ _ _ _ _ us hl => match us, hl with | [_, _], _ => by kernel_rfl⟩
  have rm := rm_of (X := (cxOf CX0 P w K mg base ["web", "person", "other"] "taller_in" (defScope s_taller_in) f cdv A outer s H E).nox) hr
  have nd := sc_taller_in.nd
  exact (sws_one (sf_ret (c_tuple bi (xa_cons (EW.x (NF.e (NW.lc (nw_lc (own := [("other", 2)]) (g := (tgN 2)) (T := fW (bB (b2 dGt (gX 2) (gX 1)))) (E := fW (gV 2)) rfl nd (if_seq (ef_ixN (xv 0) (xv 1))) (blkOk_by (own := [("other", 2)]) (by kernel_rfl)) (fun _ _ _ _ _ => (gw_sub (gw_name (i := 2) nd rfl (by first | exact Or.inl rfl | exact Or.inr rfl)))) (fun _ _ _ _ _ => (ts_one (tf_cmp og_gt (xv 2) (xv 1) (nomark _)))) (fun _ _ _ _ _ => (ev 2)) s)))) xa_nil))))

def B_everybody : Rho → Option Fl := (sSeq (sDrop (aOf g_need_web (aCons (gV 0) aNil)))
  (sRet (vTupRg (aOf gR1 (aCons (aOf gLen (aCons (gX 0) aNil)) aNil)))))
def g_everybody : GA := runF 1 B_everybody

abbrev s_everybody : Stmt := topS 17
theorem sc_everybody : FnScope ["web"] ["web"] (defScope s_everybody) := ⟨rfl, rfl, rfl, by decide +kernel, rfl, by decide +kernel, by decide +kernel⟩
theorem ok_everybody (bi : Bi mg) (c_need_web : DG P w K mg base "need_web" 3 1 g_need_web) (Fd : ∃ f fd, FunD K "everybody" "everybody" (defArgs s_everybody) (defBody s_everybody) (defScope s_everybody) [] [] f fd ∧ mg "everybody" = some (.ref f)) : DG P w K mg base "everybody" 4 1 g_everybody := by
  obtain ⟨f, fd, Fd, m⟩ := Fd
  refine ⟨f, fd, ["web"], fn_pureF (k := 3) (N := ["web"]) (g := B_everybody) Fd sc_everybody rfl (by decide) (fun cdv A outer s H E hr => ?_), m, Fd.kp, Fd.bindsN fun _ _ _ _ _ _ us hl => match us, hl with | [_], _ => by kernel_rfl⟩
  have rm := rm_of (X := (cxOf CX0 P w K mg base ["web"] "everybody" (defScope s_everybody) f cdv A outer s H E).nox) hr
  have nd := sc_everybody.nd
  exact (sfs_cons (sf_expr (ef_call (c_need_web.cal hr) (ea_cons (ev 0) ea_nil) (lenA_cons lenA_nil) rfl))
    (sws_one (sf_ret (c_tupRg bi (rg_1 bi (EW.x (c_len bi (xa_cons (xv 0) xa_nil))))))))

def B_apart_in : Rho → Option Fl := (sRet (vNot (aOf gAny (aCons (fun ρ => ((cLc2 [2, 3] [3] (tgN 2) (tgN 3) fYes fYes (b2 dIn (gX 3) (b2 dIxN (gX 0) (gX 2))) (fItems (gV 1)) (fItems (gV 1))) ρ).map PyData.list) aNil))))
def g_apart_in : GA := runF 4 B_apart_in

abbrev s_apart_in : Stmt := topS 18
theorem sc_apart_in : FnScope ["web", "people", "one", "other"] ["web", "people"] (defScope s_apart_in) := ⟨rfl, rfl, rfl, by decide +kernel, rfl, by decide +kernel, by decide +kernel⟩
theorem ok_apart_in (bi : Bi mg) (Fd : ∃ f fd, FunD K "apart_in" "apart_in" (defArgs s_apart_in) (defBody s_apart_in) (defScope s_apart_in) [] [] f fd ∧ mg "apart_in" = some (.ref f)) : DG P w K mg base "apart_in" 1 2 g_apart_in := by
  obtain ⟨f, fd, Fd, m⟩ := Fd
  refine ⟨f, fd, ["web", "people"], fn_pureF (k := 0) (N := ["web", "people", "one", "other"]) (g := B_apart_in) Fd sc_apart_in rfl (by decide) (fun cdv A outer s H E hr => ?_), m, Fd.kp, Fd.bindsN fun _ _ _ _ _ _ us hl => match us, hl with | [_, _], _ => by kernel_rfl⟩
  have rm := rm_of (X := (cxOf CX0 P w K mg base ["web", "people", "one", "other"] "apart_in" (defScope s_apart_in) f cdv A outer s H E).nox) hr
  have nd := sc_apart_in.nd
  exact (sws_one (sf_ret (ef_not (c_any bi (xa_cons (EW.x (NF.e (NW.lc2 (nw_lc2 (own := [("one", 2), ("other", 3)]) (vs1 := [3]) (g := (tgN 2)) (g1 := (tgN 3)) (T := fW fYes) (T1 := fW fYes) (E := fW (b2 dIn (gX 3) (b2 dIxN (gX 0) (gX 2)))) rfl nd (if_seq (ev 1)) (blkOk_by (own := [("one", 2), ("other", 3)]) (by kernel_rfl)) (by decide) (fun _ _ _ _ _ => (gw_sub (gw_name (i := 2) nd rfl (by first | exact Or.inl rfl | exact Or.inr rfl)))) (fun _ _ _ _ _ => ts_nil) (fun _ _ _ _ _ => (if_seq (ev 1))) (fun _ _ _ _ _ => (gw_name (i := 3) nd rfl (by first | exact Or.inl rfl | exact Or.inr rfl))) (fun _ _ _ _ _ => ts_nil) (fun _ _ _ _ _ => (ef_cmp (og_in rm) (xv 3) (EW.x (ef_ixN (xv 0) (xv 2))) (by rfl))) s)))) xa_nil)))))

def B_choices : Rho → Option Fl := (sSeq (sSetO 1 (aCons (vTup aNil) aNil))
  (sSeq (sFor (tgN 2) (fItems (gV 0)) (sExt 1 (cLcO 1 [3] (tgN 3) fYes (vTupS (fStar (gV 3) (aCons (gV 2) aNil))))))
  (sRet (gX 1))))
def g_choices : GA := runF 4 B_choices

abbrev s_choices : Stmt := topS 19
theorem sc_choices : FnScope ["people", "found", "person", "row"] ["people"] (defScope s_choices) := ⟨rfl, rfl, rfl, by decide +kernel, rfl, by decide +kernel, by decide +kernel⟩
theorem ok_choices (bi : Bi mg) (Fd : ∃ f fd, FunD K "choices" "choices" (defArgs s_choices) (defBody s_choices) (defScope s_choices) [] [] f fd ∧ mg "choices" = some (.ref f)) : DG P w K mg base "choices" 1 1 g_choices := by
  obtain ⟨f, fd, Fd, m⟩ := Fd
  refine ⟨f, fd, ["people"], fn_pureF (k := 0) (N := ["people", "found", "person", "row"]) (g := B_choices) Fd sc_choices rfl (by decide) (fun cdv A outer s H E hr => ?_), m, Fd.kp, Fd.bindsN fun _ _ _ _ _ _ us hl => match us, hl with | [_], _ => by kernel_rfl⟩
  have rm := rm_of (X := (cxOf CX0 P w K mg base ["people", "found", "person", "row"] "choices" (defScope s_choices) f cdv A outer s H E).nox) hr
  have nd := sc_choices.nd
  exact (sfs_cons (NSF.so (ns_set (i := 1) nd rfl (by first | exact Or.inl rfl | exact Or.inr rfl) (nf_lst (ea_cons (ef_tup ea_nil lenA_nil) ea_nil) (lenA_cons lenA_nil))))
    (sfs_cons (sf_for PassesOwn.never rfl (if_seq (ev 0)) (gw_name (i := 2) nd rfl (by first | exact Or.inl rfl | exact Or.inr rfl)) (sws_one (sf_ext (i := 1) rfl (by first | exact Or.inl rfl | exact Or.inr (Or.inl rfl) | exact Or.inr (Or.inr rfl)) (NW.lcO (nw_lcO (i := 1) (own := [("row", 3)]) (g := (tgN 3)) (T := fW fYes) (E := fW (vTupS (fStar (gV 3) (aCons (gV 2) aNil)))) rfl nd rfl (by first | exact Or.inl rfl | exact Or.inr (Or.inl rfl) | exact Or.inr (Or.inr rfl)) (blkOk_by (own := [("row", 3)]) (by kernel_rfl)) (fun _ _ _ _ _ => (gw_sub (gw_name (i := 3) nd rfl (by first | exact Or.inl rfl | exact Or.inr rfl)))) (fun _ _ _ _ _ => ts_nil) (fun _ _ _ _ _ => (ef_tupS (ea_starF (ev 3) (ea_cons (ev 2) ea_nil)))) s)))))
    (sws_one (sf_retx (xv 1)))))

def B_call_in : Rho → Option Fl := (sSeq (sIf (bB (b2 dNotIn (gX 2) (gX 1))) (sRet (gV 1)) sNil)
  (sRet (aOf gTup (aCons (fun ρ => ((cLc [3] (tgN 3) (bOr (bB (b2 dGe (gX 3) (gX 2))) (bB (b2 dNotIn (gX 3) (b2 dIxN (gX 0) (gX 2))))) (gV 3) (fItems (gV 1))) ρ).map PyData.list) aNil))))
def g_call_in : GA := runF 4 B_call_in

abbrev s_call_in : Stmt := topS 21
theorem sc_call_in : FnScope ["web", "standing", "person", "other"] ["web", "standing", "person"] (defScope s_call_in) := ⟨rfl, rfl, rfl, by decide +kernel, rfl, by decide +kernel, by decide +kernel⟩
theorem ok_call_in (bi : Bi mg) (Fd : ∃ f fd, FunD K "call_in" "call_in" (defArgs s_call_in) (defBody s_call_in) (defScope s_call_in) [] [] f fd ∧ mg "call_in" = some (.ref f)) : DG P w K mg base "call_in" 1 3 g_call_in := by
  obtain ⟨f, fd, Fd, m⟩ := Fd
  refine ⟨f, fd, ["web", "standing", "person"], fn_pureF (k := 0) (N := ["web", "standing", "person", "other"]) (g := B_call_in) Fd sc_call_in rfl (by decide) (fun cdv A outer s H E hr => ?_), m, Fd.kp, Fd.bindsN fun _ _ _ _ _ _ us hl => match us, hl with | [_, _, _], _ => by kernel_rfl⟩
  have rm := rm_of (X := (cxOf CX0 P w K mg base ["web", "standing", "person", "other"] "call_in" (defScope s_call_in) f cdv A outer s H E).nox) hr
  have nd := sc_call_in.nd
  exact (sfs_cons (sf_if (tf_cmp (og_notIn rm) (xv 2) (xv 1) (by rfl)) (sws_one (sf_ret (ev 1))) sfs_nil)
    (sws_one (sf_ret (c_tuple bi (xa_cons (EW.x (NF.e (NW.lc (nw_lc (own := [("other", 3)]) (g := (tgN 3)) (T := fW (bOr (bB (b2 dGe (gX 3) (gX 2))) (bB (b2 dNotIn (gX 3) (b2 dIxN (gX 0) (gX 2)))))) (E := fW (gV 3)) rfl nd (if_seq (ev 1)) (blkOk_by (own := [("other", 3)]) (by kernel_rfl)) (fun _ _ _ _ _ => (gw_sub (gw_name (i := 3) nd rfl (by first | exact Or.inl rfl | exact Or.inr rfl)))) (fun _ _ _ _ _ => (ts_one (TWW.t (tf_or (tf_cmp og_ge (xv 3) (xv 2) (nomark _)) (tf_or1 (tf_cmp (og_notIn rm) (xv 3) (EW.x (ef_ixN (xv 0) (xv 2))) (by rfl))))))) (fun _ _ _ _ _ => (ev 3)) s)))) xa_nil)))))

def B_story_in : Rho → Option Fl := (sSeq (sSetO 3 (aCons (gV 1) aNil))
  (sSeq (sFor (tgN 4) (fItems (gV 2)) (sApp 3 (aOf g_call_in (aCons (gV 0) (aCons (b2 dIxN (gX 3) (vNeg (gC (.int 1)))) (aCons (gV 4) aNil))))))
  (sRet (gX 3))))
def g_story_in : GA := runF 5 B_story_in

abbrev s_story_in : Stmt := topS 22
theorem sc_story_in : FnScope ["web", "standing", "calls", "found", "person"] ["web", "standing", "calls"] (defScope s_story_in) := ⟨rfl, rfl, rfl, by decide +kernel, rfl, by decide +kernel, by decide +kernel⟩
theorem ok_story_in (bi : Bi mg) (c_call_in : DG P w K mg base "call_in" 1 3 g_call_in) (Fd : ∃ f fd, FunD K "story_in" "story_in" (defArgs s_story_in) (defBody s_story_in) (defScope s_story_in) [] [] f fd ∧ mg "story_in" = some (.ref f)) : DG P w K mg base "story_in" 2 3 g_story_in := by
  obtain ⟨f, fd, Fd, m⟩ := Fd
  refine ⟨f, fd, ["web", "standing", "calls"], fn_pureF (k := 1) (N := ["web", "standing", "calls", "found", "person"]) (g := B_story_in) Fd sc_story_in rfl (by decide) (fun cdv A outer s H E hr => ?_), m, Fd.kp, Fd.bindsN fun _ _ _ _ _ _ us hl => match us, hl with | [_, _, _], _ => by kernel_rfl⟩
  have rm := rm_of (X := (cxOf CX0 P w K mg base ["web", "standing", "calls", "found", "person"] "story_in" (defScope s_story_in) f cdv A outer s H E).nox) hr
  have nd := sc_story_in.nd
  exact (sfs_cons (NSF.so (ns_set (i := 3) nd rfl (by first | exact Or.inl rfl | exact Or.inr rfl) (nf_lst (ea_cons (ev 1) ea_nil) (lenA_cons lenA_nil))))
    (sfs_cons (sf_for PassesOwn.never rfl (if_seq (ev 2)) (gw_name (i := 4) nd rfl (by first | exact Or.inl rfl | exact Or.inr rfl)) (sws_one (sf_app (i := 3) rfl (by first | exact Or.inl rfl | exact Or.inr (Or.inl rfl) | exact Or.inr (Or.inr rfl)) (ef_call (c_call_in.cal hr) (ea_cons (ev 0) (ea_cons (ef_ixN (xv 3) (EW.x (ef_neg ef_int))) (ea_cons (ev 4) ea_nil))) (lenA_cons (lenA_cons (lenA_cons lenA_nil))) rfl))))
    (sws_one (sf_retx (xv 3)))))

def B_may_call : Rho → Option Fl := (sSeq (sSetO 3 aNil)
  (sSeq (sFor (tgN 4) (fItems (gV 1)) (sIf (bNot (bB (aOf gAny (aCons (fun ρ => ((cLc [5] (tgN 5) fYes (vAnd (b2 dLt (gX 5) (gX 4)) (b2 dIn (gX 5) (gX 2))) (fItems (b2 dIxN (gX 0) (gX 4)))) ρ).map PyData.list) aNil)))) (sApp 3 (gV 4)) sNil))
  (sRet (aOf gTup (aCons (gX 3) aNil)))))
def g_may_call : GA := runF 6 B_may_call

abbrev s_may_call : Stmt := topS 24
theorem sc_may_call : FnScope ["web", "standing", "goal", "found", "person", "other"] ["web", "standing", "goal"] (defScope s_may_call) := ⟨rfl, rfl, rfl, by decide +kernel, rfl, by decide +kernel, by decide +kernel⟩
theorem ok_may_call (bi : Bi mg) (Fd : ∃ f fd, FunD K "may_call" "may_call" (defArgs s_may_call) (defBody s_may_call) (defScope s_may_call) [] [] f fd ∧ mg "may_call" = some (.ref f)) : DG P w K mg base "may_call" 1 3 g_may_call := by
  obtain ⟨f, fd, Fd, m⟩ := Fd
  refine ⟨f, fd, ["web", "standing", "goal"], fn_pureF (k := 0) (N := ["web", "standing", "goal", "found", "person", "other"]) (g := B_may_call) Fd sc_may_call rfl (by decide) (fun cdv A outer s H E hr => ?_), m, Fd.kp, Fd.bindsN fun _ _ _ _ _ _ us hl => match us, hl with | [_, _, _], _ => by kernel_rfl⟩
  have rm := rm_of (X := (cxOf CX0 P w K mg base ["web", "standing", "goal", "found", "person", "other"] "may_call" (defScope s_may_call) f cdv A outer s H E).nox) hr
  have nd := sc_may_call.nd
  exact (sfs_cons (NSF.so (ns_set (i := 3) nd rfl (by first | exact Or.inl rfl | exact Or.inr rfl) (nf_lst ea_nil lenA_nil)))
    (sfs_cons (sf_for PassesOwn.never rfl (if_seq (ev 1)) (gw_name (i := 4) nd rfl (by first | exact Or.inl rfl | exact Or.inr rfl)) (sws_one (sf_if (tf_not (tf_val (c_any bi (xa_cons (EW.x (NF.e (NW.lc (nw_lc (own := [("other", 5)]) (g := (tgN 5)) (T := fW fYes) (E := fW (vAnd (b2 dLt (gX 5) (gX 4)) (b2 dIn (gX 5) (gX 2)))) rfl nd (if_seq (ef_ixN (xv 0) (xv 4))) (blkOk_by (own := [("other", 5)]) (by kernel_rfl)) (fun _ _ _ _ _ => (gw_sub (gw_name (i := 5) nd rfl (by first | exact Or.inl rfl | exact Or.inr rfl)))) (fun _ _ _ _ _ => ts_nil) (fun _ _ _ _ _ => (ef_and (ef_cmp og_lt (xv 5) (xv 4) (nomark _)) (ef_one (ef_cmp (og_in rm) (xv 5) (xv 2) (by rfl))))) s)))) xa_nil)))) (sws_one (sf_app (i := 3) rfl (by first | exact Or.inl rfl | exact Or.inr (Or.inl rfl) | exact Or.inr (Or.inr rfl)) (ev 4))) sfs_nil)))
    (sws_one (sf_ret (c_tuple bi (xa_cons (xv 3) xa_nil))))))

def B_fits : Rho → Option Fl := (sSeq (sIf (bNot (bB (aOf gAll (aCons (fun ρ => ((cLc [5] (tgN 5) fYes (b2 dIn (gX 5) (gX 1)) (fItems (gV 2))) ρ).map PyData.list) aNil)))) (sRet (gC (.bool false))) sNil)
  (sSeq (sSet 3 (aOf g_may_call (aCons (gV 0) (aCons (gV 1) (aCons (gV 2) aNil)))))
  (sSeq (sSetL 4 (cLc [5] (tgN 5) (bB (b2 dNotIn (gX 5) (gX 2))) (gV 5) (fItems (gV 1))))
  (sRet (aOf gAll (aCons (fun ρ => ((cLc [5] (tgN 5) fYes (aOf gAny (aCons (fun ρ => ((cLc [6] (tgN 6) fYes (b2 dIn (gX 6) (gX 3)) (fItems (aOf g_taller_in (aCons (gV 0) (aCons (gV 5) aNil))))) ρ).map PyData.list) aNil)) (fItems (gV 4))) ρ).map PyData.list) aNil))))))
def g_fits : GA := runF 7 B_fits

abbrev s_fits : Stmt := topS 25
theorem sc_fits : FnScope ["web", "standing", "goal", "free", "gone", "person", "other"] ["web", "standing", "goal"] (defScope s_fits) := ⟨rfl, rfl, rfl, by decide +kernel, rfl, by decide +kernel, by decide +kernel⟩
theorem ok_fits (bi : Bi mg) (c_may_call : DG P w K mg base "may_call" 1 3 g_may_call) (c_taller_in : DG P w K mg base "taller_in" 1 2 g_taller_in) (Fd : ∃ f fd, FunD K "fits" "fits" (defArgs s_fits) (defBody s_fits) (defScope s_fits) [] [] f fd ∧ mg "fits" = some (.ref f)) : DG P w K mg base "fits" 2 3 g_fits := by
  obtain ⟨f, fd, Fd, m⟩ := Fd
  refine ⟨f, fd, ["web", "standing", "goal"], fn_pureF (k := 1) (N := ["web", "standing", "goal", "free", "gone", "person", "other"]) (g := B_fits) Fd sc_fits rfl (by decide) (fun cdv A outer s H E hr => ?_), m, Fd.kp, Fd.bindsN fun _ _ _ _ _ _ us hl => match us, hl with | [_, _, _], _ => by kernel_rfl⟩
  have rm := rm_of (X := (cxOf CX0 P w K mg base ["web", "standing", "goal", "free", "gone", "person", "other"] "fits" (defScope s_fits) f cdv A outer s H E).nox) hr
  have nd := sc_fits.nd
  exact (sfs_cons (sf_if (tf_not (tf_val (c_all bi (xa_cons (EW.x (NF.e (NW.lc (nw_lc (own := [("person", 5)]) (g := (tgN 5)) (T := fW fYes) (E := fW (b2 dIn (gX 5) (gX 1))) rfl nd (if_seq (ev 2)) (blkOk_by (own := [("person", 5)]) (by kernel_rfl)) (fun _ _ _ _ _ => (gw_sub (gw_name (i := 5) nd rfl (by first | exact Or.inl rfl | exact Or.inr rfl)))) (fun _ _ _ _ _ => ts_nil) (fun _ _ _ _ _ => (ef_cmp (og_in rm) (xv 5) (xv 1) (by rfl))) s)))) xa_nil)))) (sws_one (sf_ret ef_bl)) sfs_nil)
    (sfs_cons (sf_set (i := 3) nd rfl (by first | exact Or.inl rfl | exact Or.inr rfl) (ef_call (c_may_call.cal hr) (ea_cons (ev 0) (ea_cons (ev 1) (ea_cons (ev 2) ea_nil))) (lenA_cons (lenA_cons (lenA_cons lenA_nil))) rfl))
    (sfs_cons (NSF.sl (NS.lc (ns_lc (i := 4) (own := [("person", 5)]) (g := (tgN 5)) (T := fW (bB (b2 dNotIn (gX 5) (gX 2)))) (E := fW (gV 5)) rfl nd rfl rfl (if_seq (ev 1)) (blkOk_by (own := [("person", 5)]) (by kernel_rfl)) (fun _ _ _ _ _ => (gw_sub (gw_name (i := 5) nd rfl (by first | exact Or.inl rfl | exact Or.inr rfl)))) (fun _ _ _ _ _ => (ts_one (tf_cmp (og_notIn rm) (xv 5) (xv 2) (by rfl)))) (fun _ _ _ _ _ => (ev 5)) s (sw_true rfl rfl rfl (by decide +kernel)))))
    (sws_one (sf_ret (c_all bi (xa_cons (EW.x (NF.e (NW.lc (nw_lc (own := [("person", 5)]) (g := (tgN 5)) (T := fW fYes) (E := fW (aOf gAny (aCons (fun ρ => ((cLc [6] (tgN 6) fYes (b2 dIn (gX 6) (gX 3)) (fItems (aOf g_taller_in (aCons (gV 0) (aCons (gV 5) aNil))))) ρ).map PyData.list) aNil))) rfl nd (if_seq (ev 4)) (blkOk_by (own := [("person", 5)]) (by kernel_rfl)) (fun _ _ _ _ _ => (gw_sub (gw_name (i := 5) nd rfl (by first | exact Or.inl rfl | exact Or.inr rfl)))) (fun _ _ _ _ _ => ts_nil) (fun _ _ _ _ _ => (c_any bi (xa_cons (EW.x (NF.e (NW.lc (nw_lc (own := [("other", 6)]) (g := (tgN 6)) (T := fW fYes) (E := fW (b2 dIn (gX 6) (gX 3))) rfl nd (if_seq (ef_call (c_taller_in.cal hr) (ea_cons (ev 0) (ea_cons (ev 5) ea_nil)) (lenA_cons (lenA_cons lenA_nil)) rfl)) (blkOk_by (own := [("other", 6)]) (by kernel_rfl)) (fun _ _ _ _ _ => (gw_sub (gw_name (i := 6) nd rfl (by first | exact Or.inl rfl | exact Or.inr rfl)))) (fun _ _ _ _ _ => ts_nil) (fun _ _ _ _ _ => (ef_cmp (og_in rm) (xv 6) (xv 3) (by rfl))) s)))) xa_nil))) s)))) xa_nil)))))))

def B_ends_in : Rho → Option Fl := (sRet (fun ρ => ((aOf gSrtN (aCons (fun ρ => ((cLc [2] (tgN 2) (bAnd (bB (aOf g_apart_in (aCons (gV 0) (aCons (gV 2) aNil)))) (bB (aOf g_fits (aCons (gV 0) (aCons (gV 1) (aCons (gV 2) aNil)))))) (gV 2) (fItems (aOf g_choices (aCons (gV 1) aNil)))) ρ).map PyData.list) aNil)) ρ).map PyData.list))
def g_ends_in : GA := runF 3 B_ends_in

abbrev s_ends_in : Stmt := topS 27
theorem sc_ends_in : FnScope ["web", "standing", "row"] ["web", "standing"] (defScope s_ends_in) := ⟨rfl, rfl, rfl, by decide +kernel, rfl, by decide +kernel, by decide +kernel⟩
theorem ok_ends_in (bi : Bi mg) (c_choices : DG P w K mg base "choices" 1 1 g_choices) (c_apart_in : DG P w K mg base "apart_in" 1 2 g_apart_in) (c_fits : DG P w K mg base "fits" 2 3 g_fits) (Fd : ∃ f fd, FunD K "ends_in" "ends_in" (defArgs s_ends_in) (defBody s_ends_in) (defScope s_ends_in) [] [] f fd ∧ mg "ends_in" = some (.ref f)) : DG P w K mg base "ends_in" 3 2 g_ends_in := by
  obtain ⟨f, fd, Fd, m⟩ := Fd
  refine ⟨f, fd, ["web", "standing"], fn_pureF (k := 2) (N := ["web", "standing", "row"]) (g := B_ends_in) Fd sc_ends_in rfl (by decide) (fun cdv A outer s H E hr => ?_), m, Fd.kp, Fd.bindsN fun _ _ _ _ _ _ us hl => match us, hl with | [_, _], _ => by kernel_rfl⟩
  have rm := rm_of (X := (cxOf CX0 P w K mg base ["web", "standing", "row"] "ends_in" (defScope s_ends_in) f cdv A outer s H E).nox) hr
  have nd := sc_ends_in.nd
  exact (sws_one (sf_ret (NF.e (n_sortedN bi rm (xa_cons (EW.x (NF.e (NW.lc (nw_lc (own := [("row", 2)]) (g := (tgN 2)) (T := fW (bAnd (bB (aOf g_apart_in (aCons (gV 0) (aCons (gV 2) aNil)))) (bB (aOf g_fits (aCons (gV 0) (aCons (gV 1) (aCons (gV 2) aNil))))))) (E := fW (gV 2)) rfl nd (if_seq (ef_call (c_choices.cal hr) (ea_cons (ev 1) ea_nil) (lenA_cons lenA_nil) rfl)) (blkOk_by (own := [("row", 2)]) (by kernel_rfl)) (fun _ _ _ _ _ => (gw_sub (gw_name (i := 2) nd rfl (by first | exact Or.inl rfl | exact Or.inr rfl)))) (fun _ _ _ _ _ => (ts_one (TWW.t (tf_and (tf_val (ef_call (c_apart_in.cal hr) (ea_cons (ev 0) (ea_cons (ev 2) ea_nil)) (lenA_cons (lenA_cons lenA_nil)) rfl)) (tf_and1 (tf_val (ef_call (c_fits.cal hr) (ea_cons (ev 0) (ea_cons (ev 1) (ea_cons (ev 2) ea_nil))) (lenA_cons (lenA_cons (lenA_cons lenA_nil))) rfl))))))) (fun _ _ _ _ _ => (ev 2)) s)))) xa_nil)))))

def B_ends : Rho → Option Fl := (sSeq (sDrop (aOf g_need_state (aCons (gV 0) (aCons (gV 1) aNil))))
  (sRet (aOf g_ends_in (aCons (gV 0) (aCons (gV 1) aNil)))))
def g_ends : GA := runF 2 B_ends

abbrev s_ends : Stmt := topS 28
theorem sc_ends : FnScope ["web", "standing"] ["web", "standing"] (defScope s_ends) := ⟨rfl, rfl, rfl, by decide +kernel, rfl, by decide +kernel, by decide +kernel⟩
theorem ok_ends (bi : Bi mg) (c_need_state : DG P w K mg base "need_state" 4 2 g_need_state) (c_ends_in : DG P w K mg base "ends_in" 3 2 g_ends_in) (Fd : ∃ f fd, FunD K "ends" "ends" (defArgs s_ends) (defBody s_ends) (defScope s_ends) [] [] f fd ∧ mg "ends" = some (.ref f)) : DG P w K mg base "ends" 5 2 g_ends := by
  obtain ⟨f, fd, Fd, m⟩ := Fd
  refine ⟨f, fd, ["web", "standing"], fn_pureF (k := 4) (N := ["web", "standing"]) (g := B_ends) Fd sc_ends rfl (by decide) (fun cdv A outer s H E hr => ?_), m, Fd.kp, Fd.bindsN fun _ _ _ _ _ _ us hl => match us, hl with | [_, _], _ => by kernel_rfl⟩
  have rm := rm_of (X := (cxOf CX0 P w K mg base ["web", "standing"] "ends" (defScope s_ends) f cdv A outer s H E).nox) hr
  have nd := sc_ends.nd
  exact (sfs_cons (sf_expr (ef_call (c_need_state.cal hr) (ea_cons (ev 0) (ea_cons (ev 1) ea_nil)) (lenA_cons (lenA_cons lenA_nil)) rfl))
    (sws_one (sf_ret (ef_call (c_ends_in.cal hr) (ea_cons (ev 0) (ea_cons (ev 1) ea_nil)) (lenA_cons (lenA_cons lenA_nil)) rfl))))

def B_count_ends : Rho → Option Fl := (sSeq (sDrop (aOf g_need_state (aCons (gV 0) (aCons (gV 1) aNil))))
  (sRet (aOf gLen (aCons (aOf g_ends_in (aCons (gV 0) (aCons (gV 1) aNil))) aNil))))
def g_count_ends : GA := runF 2 B_count_ends

abbrev s_count_ends : Stmt := topS 29
theorem sc_count_ends : FnScope ["web", "standing"] ["web", "standing"] (defScope s_count_ends) := ⟨rfl, rfl, rfl, by decide +kernel, rfl, by decide +kernel, by decide +kernel⟩
theorem ok_count_ends (bi : Bi mg) (c_need_state : DG P w K mg base "need_state" 4 2 g_need_state) (c_ends_in : DG P w K mg base "ends_in" 3 2 g_ends_in) (Fd : ∃ f fd, FunD K "count_ends" "count_ends" (defArgs s_count_ends) (defBody s_count_ends) (defScope s_count_ends) [] [] f fd ∧ mg "count_ends" = some (.ref f)) : DG P w K mg base "count_ends" 5 2 g_count_ends := by
  obtain ⟨f, fd, Fd, m⟩ := Fd
  refine ⟨f, fd, ["web", "standing"], fn_pureF (k := 4) (N := ["web", "standing"]) (g := B_count_ends) Fd sc_count_ends rfl (by decide) (fun cdv A outer s H E hr => ?_), m, Fd.kp, Fd.bindsN fun _ _ _ _ _ _ us hl => match us, hl with | [_, _], _ => by kernel_rfl⟩
  have rm := rm_of (X := (cxOf CX0 P w K mg base ["web", "standing"] "count_ends" (defScope s_count_ends) f cdv A outer s H E).nox) hr
  have nd := sc_count_ends.nd
  exact (sfs_cons (sf_expr (ef_call (c_need_state.cal hr) (ea_cons (ev 0) (ea_cons (ev 1) ea_nil)) (lenA_cons (lenA_cons lenA_nil)) rfl))
    (sws_one (sf_ret (c_len bi (xa_cons (EW.x (ef_call (c_ends_in.cal hr) (ea_cons (ev 0) (ea_cons (ev 1) ea_nil)) (lenA_cons (lenA_cons lenA_nil)) rfl)) xa_nil)))))

def B_shared : Rho → Option Fl := (sSeq (sPar 0 1 (aCons (aOf gAbs (aCons (gX 0) aNil)) (aCons (aOf gAbs (aCons (gX 1) aNil)) aNil)))
  (sSeq (whF (bB (b2 dNeN (gX 1) (gC (.int 0)))) (sPar 0 1 (aCons (gV 1) (aCons (b2 dMod (gX 0) (gX 1)) aNil))) 4096)
  (sRet (gV 0))))
def g_shared : GA := runF 2 B_shared

abbrev s_shared : Stmt := topS 32
theorem sc_shared : FnScope ["one", "other"] ["one", "other"] (defScope s_shared) := ⟨rfl, rfl, rfl, by decide +kernel, rfl, by decide +kernel, by decide +kernel⟩
theorem ok_shared (bi : Bi mg) (Fd : ∃ f fd, FunD K "shared" "shared" (defArgs s_shared) (defBody s_shared) (defScope s_shared) [] [] f fd ∧ mg "shared" = some (.ref f)) : DG P w K mg base "shared" 1 2 g_shared := by
  obtain ⟨f, fd, Fd, m⟩ := Fd
  refine ⟨f, fd, ["one", "other"], fn_pureF (k := 0) (N := ["one", "other"]) (g := B_shared) Fd sc_shared rfl (by decide) (fun cdv A outer s H E hr => ?_), m, Fd.kp, Fd.bindsN fun _ _ _ _ _ _ us hl => match us, hl with | [_, _], _ => by kernel_rfl⟩
  have rm := rm_of (X := (cxOf CX0 P w K mg base ["one", "other"] "shared" (defScope s_shared) f cdv A outer s H E).nox) hr
  have nd := sc_shared.nd
  exact (sfs_cons (sf_par (i := 0) (j := 1) rfl nd rfl rfl (by decide) rfl rfl (ea_cons (c_abs bi (xa_cons (xv 0) xa_nil)) (ea_cons (c_abs bi (xa_cons (xv 1) xa_nil)) ea_nil)) (by rfl))
    (sfs_cons (sf_while 4096  PassesOwn.never (tf_cmp (og_neN rm) (xv 1) (EW.x ef_int) (nomark _)) (sws_one (sf_par (i := 0) (j := 1) rfl nd rfl rfl (by decide) rfl rfl (ea_cons (ev 1) (ea_cons (ef_bin og_mod (xv 0) (xv 1)) ea_nil)) (by rfl))))
    (sws_one (sf_ret (ev 0)))))

def B_ratio : Rho → Option Fl := (sSeq (sSet 2 (aOf g_shared (aCons (gV 0) (aCons (gV 1) aNil))))
  (sRet (vTup (aCons (b2 dFdiv (gX 0) (gX 2)) (aCons (b2 dFdiv (gX 1) (gX 2)) aNil)))))
def g_ratio : GA := runF 3 B_ratio

abbrev s_ratio : Stmt := topS 33
theorem sc_ratio : FnScope ["top", "low", "part"] ["top", "low"] (defScope s_ratio) := ⟨rfl, rfl, rfl, by decide +kernel, rfl, by decide +kernel, by decide +kernel⟩
theorem ok_ratio (bi : Bi mg) (c_shared : DG P w K mg base "shared" 1 2 g_shared) (Fd : ∃ f fd, FunD K "ratio" "ratio" (defArgs s_ratio) (defBody s_ratio) (defScope s_ratio) [] [] f fd ∧ mg "ratio" = some (.ref f)) : DG P w K mg base "ratio" 2 2 g_ratio := by
  obtain ⟨f, fd, Fd, m⟩ := Fd
  refine ⟨f, fd, ["top", "low"], fn_pureF (k := 1) (N := ["top", "low", "part"]) (g := B_ratio) Fd sc_ratio rfl (by decide) (fun cdv A outer s H E hr => ?_), m, Fd.kp, Fd.bindsN fun _ _ _ _ _ _ us hl => match us, hl with | [_, _], _ => by kernel_rfl⟩
  have rm := rm_of (X := (cxOf CX0 P w K mg base ["top", "low", "part"] "ratio" (defScope s_ratio) f cdv A outer s H E).nox) hr
  have nd := sc_ratio.nd
  exact (sfs_cons (sf_set (i := 2) nd rfl (by first | exact Or.inl rfl | exact Or.inr rfl) (ef_call (c_shared.cal hr) (ea_cons (ev 0) (ea_cons (ev 1) ea_nil)) (lenA_cons (lenA_cons lenA_nil)) rfl))
    (sws_one (sf_ret (ef_tup (ea_cons (ef_bin og_fdiv (xv 0) (xv 2)) (ea_cons (ef_bin og_fdiv (xv 1) (xv 2)) ea_nil)) (lenA_cons (lenA_cons lenA_nil))))))

def B_plus : Rho → Option Fl := (sRet (aOf g_ratio (aCons (b2 dAdd (b2 dMul (b2 dIxN (gX 0) (gC (.int 0))) (b2 dIxN (gX 1) (gC (.int 1)))) (b2 dMul (b2 dIxN (gX 1) (gC (.int 0))) (b2 dIxN (gX 0) (gC (.int 1))))) (aCons (b2 dMul (b2 dIxN (gX 0) (gC (.int 1))) (b2 dIxN (gX 1) (gC (.int 1)))) aNil))))
def g_plus : GA := runF 2 B_plus

abbrev s_plus : Stmt := topS 34
theorem sc_plus : FnScope ["one", "other"] ["one", "other"] (defScope s_plus) := ⟨rfl, rfl, rfl, by decide +kernel, rfl, by decide +kernel, by decide +kernel⟩
theorem ok_plus (bi : Bi mg) (c_ratio : DG P w K mg base "ratio" 2 2 g_ratio) (Fd : ∃ f fd, FunD K "plus" "plus" (defArgs s_plus) (defBody s_plus) (defScope s_plus) [] [] f fd ∧ mg "plus" = some (.ref f)) : DG P w K mg base "plus" 3 2 g_plus := by
  obtain ⟨f, fd, Fd, m⟩ := Fd
  refine ⟨f, fd, ["one", "other"], fn_pureF (k := 2) (N := ["one", "other"]) (g := B_plus) Fd sc_plus rfl (by decide) (fun cdv A outer s H E hr => ?_), m, Fd.kp, Fd.bindsN fun _ _ _ _ _ _ us hl => match us, hl with | [_, _], _ => by kernel_rfl⟩
  have rm := rm_of (X := (cxOf CX0 P w K mg base ["one", "other"] "plus" (defScope s_plus) f cdv A outer s H E).nox) hr
  have nd := sc_plus.nd
  exact (sws_one (sf_ret (ef_call (c_ratio.cal hr) (ea_cons (ef_bin og_add (EW.x (ef_bin og_mul (EW.x (ef_ixN (xv 0) (EW.x ef_int))) (EW.x (ef_ixN (xv 1) (EW.x ef_int))))) (EW.x (ef_bin og_mul (EW.x (ef_ixN (xv 1) (EW.x ef_int))) (EW.x (ef_ixN (xv 0) (EW.x ef_int)))))) (ea_cons (ef_bin og_mul (EW.x (ef_ixN (xv 0) (EW.x ef_int))) (EW.x (ef_ixN (xv 1) (EW.x ef_int)))) ea_nil)) (lenA_cons (lenA_cons lenA_nil)) rfl)))

def B_all_orders : Rho → Option Fl := (sSeq (sSet 1 (fun ρ => ((aCons (vTup aNil) aNil) ρ).map PyData.list))
  (sSeq (sFor (tgN 2) (aOf gRng1 (aCons (gX 0) aNil)) (sSeq (sSetO 3 aNil)
  (sSeq (sFor (tgN 4) (fItems (gV 1)) (sExt 3 (cLc [5] (tgN 5) (bB (b2 dNotIn (gX 5) (gX 4))) (vTupS (fStar (gV 4) (aCons (gV 5) aNil))) (aOf gRng1 (aCons (gX 0) aNil)))))
  (fun ρ => (sSet 1 (gV 3)) (frz ρ [3])))))
  (sRet (gV 1))))
def g_all_orders : GA := runF 6 B_all_orders

abbrev s_all_orders : Stmt := topS 37
theorem sc_all_orders : FnScope ["people", "found", "turn", "later", "row", "person"] ["people"] (defScope s_all_orders) := ⟨rfl, rfl, rfl, by decide +kernel, rfl, by decide +kernel, by decide +kernel⟩
theorem ok_all_orders (bi : Bi mg) (Fd : ∃ f fd, FunD K "all_orders" "all_orders" (defArgs s_all_orders) (defBody s_all_orders) (defScope s_all_orders) [] [] f fd ∧ mg "all_orders" = some (.ref f)) : DG P w K mg base "all_orders" 1 1 g_all_orders := by
  obtain ⟨f, fd, Fd, m⟩ := Fd
  refine ⟨f, fd, ["people"], fn_pureF (k := 0) (N := ["people", "found", "turn", "later", "row", "person"]) (g := B_all_orders) Fd sc_all_orders rfl (by decide) (fun cdv A outer s H E hr => ?_), m, Fd.kp, Fd.bindsN fun _ _ _ _ _ _ us hl => match us, hl with | [_], _ => by kernel_rfl⟩
  have rm := rm_of (X := (cxOf CX0 P w K mg base ["people", "found", "turn", "later", "row", "person"] "all_orders" (defScope s_all_orders) f cdv A outer s H E).nox) hr
  have nd := sc_all_orders.nd
  exact (sfs_cons (sf_set (i := 1) nd rfl (by first | exact Or.inl rfl | exact Or.inr rfl) (NF.e (nf_lst (ea_cons (ef_tup ea_nil lenA_nil) ea_nil) (lenA_cons lenA_nil))))
    (sfs_cons (sf_for PassesOwn.never rfl (if_rng1 rfl bi.range (xa_cons (xv 0) xa_nil)) (gw_name (i := 2) nd rfl (by first | exact Or.inl rfl | exact Or.inr rfl)) (sfs_cons (NSF.so (ns_set (i := 3) nd rfl (by first | exact Or.inl rfl | exact Or.inr rfl) (nf_lst ea_nil lenA_nil)))
    (sfs_cons (sf_for PassesOwn.never rfl (if_seq (ev 1)) (gw_name (i := 4) nd rfl (by first | exact Or.inl rfl | exact Or.inr rfl)) (sws_one (sf_ext (i := 3) rfl (by first | exact Or.inl rfl | exact Or.inr (Or.inl rfl) | exact Or.inr (Or.inr rfl)) (NW.lc (nw_lc (own := [("person", 5)]) (g := (tgN 5)) (T := fW (bB (b2 dNotIn (gX 5) (gX 4)))) (E := fW (vTupS (fStar (gV 4) (aCons (gV 5) aNil)))) rfl nd (if_rng1 rfl bi.range (xa_cons (xv 0) xa_nil)) (blkOk_by (own := [("person", 5)]) (by kernel_rfl)) (fun _ _ _ _ _ => (gw_sub (gw_name (i := 5) nd rfl (by first | exact Or.inl rfl | exact Or.inr rfl)))) (fun _ _ _ _ _ => (ts_one (tf_cmp (og_notIn rm) (xv 5) (xv 4) (by rfl)))) (fun _ _ _ _ _ => (ef_tupS (ea_starF (ev 4) (ea_cons (ev 5) ea_nil)))) s)))))
    (sfs_frz [3] (sws_one (sf_set (i := 1) nd rfl (by first | exact Or.inl rfl | exact Or.inr rfl) (ev 3)))))))
    (sws_one (sf_ret (ev 1)))))

def B_need_few : Rho → Option Fl := (sSeq (sDrop (aOf g_need_state (aCons (gV 0) (aCons (gV 1) aNil))))
  (sIf (bB (b2 dGt (aOf gLen (aCons (gX 0) aNil)) (gC (.int 6)))) sNever sNil))
def g_need_few : GA := runF 2 B_need_few

abbrev s_need_few : Stmt := topS 38
theorem sc_need_few : FnScope ["web", "standing"] ["web", "standing"] (defScope s_need_few) := ⟨rfl, rfl, rfl, by decide +kernel, rfl, by decide +kernel, by decide +kernel⟩
theorem ok_need_few (bi : Bi mg) (c_need_state : DG P w K mg base "need_state" 4 2 g_need_state) (Fd : ∃ f fd, FunD K "need_few" "need_few" (defArgs s_need_few) (defBody s_need_few) (defScope s_need_few) [] [] f fd ∧ mg "need_few" = some (.ref f)) : DG P w K mg base "need_few" 5 2 g_need_few := by
  obtain ⟨f, fd, Fd, m⟩ := Fd
  refine ⟨f, fd, ["web", "standing"], fn_pureF (k := 4) (N := ["web", "standing"]) (g := B_need_few) Fd sc_need_few rfl (by decide) (fun cdv A outer s H E hr => ?_), m, Fd.kp, Fd.bindsN fun _ _ _ _ _ _ us hl => match us, hl with | [_, _], _ => by kernel_rfl⟩
  have rm := rm_of (X := (cxOf CX0 P w K mg base ["web", "standing"] "need_few" (defScope s_need_few) f cdv A outer s H E).nox) hr
  have nd := sc_need_few.nd
  exact (sfs_cons (sf_expr (ef_call (c_need_state.cal hr) (ea_cons (ev 0) (ea_cons (ev 1) ea_nil)) (lenA_cons (lenA_cons lenA_nil)) rfl))
    (sws_one (sf_if (tf_cmp og_gt (EW.x (c_len bi (xa_cons (xv 0) xa_nil))) (EW.x ef_int) (nomark _)) (sws_one sf_never) sfs_nil)))

def B_counts_in : Rho → Option Fl := (sSeq (sSetD 2 true (fun _ => some []))
  (sSeq (sFor (tgN 3) (fItems (aOf g_all_orders (aCons (aOf gLen (aCons (gX 0) aNil)) aNil))) (sSeq (sSet 4 (b2 dIxN (aOf g_story_in (aCons (gV 0) (aCons (gV 1) (aCons (gV 3) aNil)))) (vNeg (gC (.int 1)))))
  (sPutD 2 (b2 dAdd (vGet2S 2 (gV 4) (gC (.int 0))) (gC (.int 1))) (gV 4))))
  (sRet (gX 2))))
def g_counts_in : GA := runF 5 B_counts_in

abbrev s_counts_in : Stmt := topS 39
theorem sc_counts_in : FnScope ["web", "standing", "found", "order", "end"] ["web", "standing"] (defScope s_counts_in) := ⟨rfl, rfl, rfl, by decide +kernel, rfl, by decide +kernel, by decide +kernel⟩
theorem ok_counts_in (bi : Bi mg) (c_all_orders : DG P w K mg base "all_orders" 1 1 g_all_orders) (c_story_in : DG P w K mg base "story_in" 2 3 g_story_in) (Fd : ∃ f fd, FunD K "counts_in" "counts_in" (defArgs s_counts_in) (defBody s_counts_in) (defScope s_counts_in) [] [] f fd ∧ mg "counts_in" = some (.ref f)) : DG P w K mg base "counts_in" 3 2 g_counts_in := by
  obtain ⟨f, fd, Fd, m⟩ := Fd
  refine ⟨f, fd, ["web", "standing"], fn_pureF (k := 2) (N := ["web", "standing", "found", "order", "end"]) (g := B_counts_in) Fd sc_counts_in rfl (by decide) (fun cdv A outer s H E hr => ?_), m, Fd.kp, Fd.bindsN fun _ _ _ _ _ _ us hl => match us, hl with | [_, _], _ => by kernel_rfl⟩
  have rm := rm_of (X := (cxOf CX0 P w K mg base ["web", "standing", "found", "order", "end"] "counts_in" (defScope s_counts_in) f cdv A outer s H E).nox) hr
  have nd := sc_counts_in.nd
  exact (sfs_cons (sf_setD (i := 2) nd rfl (by first | exact Or.inl rfl | exact Or.inr rfl) nd_nilT)
    (sfs_cons (sf_for PassesOwn.never rfl (if_seq (ef_call (c_all_orders.cal hr) (ea_cons (c_len bi (xa_cons (xv 0) xa_nil)) ea_nil) (lenA_cons lenA_nil) rfl)) (gw_name (i := 3) nd rfl (by first | exact Or.inl rfl | exact Or.inr rfl)) (sfs_cons (sf_set (i := 4) nd rfl (by first | exact Or.inl rfl | exact Or.inr rfl) (ef_ixN (EW.x (ef_call (c_story_in.cal hr) (ea_cons (ev 0) (ea_cons (ev 1) (ea_cons (ev 3) ea_nil))) (lenA_cons (lenA_cons (lenA_cons lenA_nil))) rfl)) (EW.x (ef_neg ef_int))))
    (sws_one (sf_putD (i := 2) rm rfl (by first | exact Or.inl rfl | exact Or.inr (Or.inl rfl) | exact Or.inr (Or.inr rfl)) (ef_bin og_add (EW.x (ef_get2D (i := 2) rm rfl (by first | exact Or.inl rfl | exact Or.inr (Or.inl rfl) | exact Or.inr (Or.inr rfl)) (ev 4) ef_int)) (EW.x ef_int)) (ev 4)))))
    (sws_one (sf_retx (xv 2)))))

def B_order_counts : Rho → Option Fl := (sSeq (sDrop (aOf g_need_few (aCons (gV 0) (aCons (gV 1) aNil))))
  (sRet (aOf gTup (aCons (fun ρ => ((nSrtItems (fDt g_counts_in (aCons (gV 0) (aCons (gV 1) aNil)))) ρ).map PyData.list) aNil))))
def g_order_counts : GA := runF 2 B_order_counts

abbrev s_order_counts : Stmt := topS 40
theorem sc_order_counts : FnScope ["web", "standing"] ["web", "standing"] (defScope s_order_counts) := ⟨rfl, rfl, rfl, by decide +kernel, rfl, by decide +kernel, by decide +kernel⟩
theorem ok_order_counts (bi : Bi mg) (c_need_few : DG P w K mg base "need_few" 5 2 g_need_few) (c_counts_in : DG P w K mg base "counts_in" 3 2 g_counts_in) (Fd : ∃ f fd, FunD K "order_counts" "order_counts" (defArgs s_order_counts) (defBody s_order_counts) (defScope s_order_counts) [] [] f fd ∧ mg "order_counts" = some (.ref f)) : DG P w K mg base "order_counts" 6 2 g_order_counts := by
  obtain ⟨f, fd, Fd, m⟩ := Fd
  refine ⟨f, fd, ["web", "standing"], fn_pureF (k := 5) (N := ["web", "standing"]) (g := B_order_counts) Fd sc_order_counts rfl (by decide) (fun cdv A outer s H E hr => ?_), m, Fd.kp, Fd.bindsN fun _ _ _ _ _ _ us hl => match us, hl with | [_, _], _ => by kernel_rfl⟩
  have rm := rm_of (X := (cxOf CX0 P w K mg base ["web", "standing"] "order_counts" (defScope s_order_counts) f cdv A outer s H E).nox) hr
  have nd := sc_order_counts.nd
  exact (sfs_cons (sf_expr (ef_call (c_need_few.cal hr) (ea_cons (ev 0) (ea_cons (ev 1) ea_nil)) (lenA_cons (lenA_cons lenA_nil)) rfl))
    (sws_one (sf_ret (c_tuple bi (xa_cons (EW.x (NF.e (nf_sortItems bi rm (pe_callT (ed_call (c_counts_in.cal hr) (ea_cons (ev 0) (ea_cons (ev 1) ea_nil)) (lenA_cons (lenA_cons lenA_nil)) rfl))))) xa_nil)))))

def B_order_chances : Rho → Option Fl := (sSeq (sDrop (aOf g_need_few (aCons (gV 0) (aCons (gV 1) aNil))))
  (sSeq (sSetZ 2 (fDt g_counts_in (aCons (gV 0) (aCons (gV 1) aNil))))
  (sSeq (sSet 3 (aOf gSumA (aCons (fun ρ => ((fValsC (slotT 2)) ρ).map PyData.list) aNil)))
  (sRet (aOf gTup (aCons (fun ρ => ((cLc [4] (tgN 4) fYes (vTup (aCons (gV 4) (aCons (aOf g_ratio (aCons (vGetL (slotZ 2) (gV 4)) (aCons (gV 3) aNil))) aNil))) (fItems (fun ρ => ((aOf gSrtN (aCons (fun ρ => ((fKeysC (slotT 2)) ρ).map PyData.list) aNil)) ρ).map PyData.list))) ρ).map PyData.list) aNil))))))
def g_order_chances : GA := runF 5 B_order_chances

abbrev s_order_chances : Stmt := topS 41
theorem sc_order_chances : FnScope ["web", "standing", "found", "whole", "end"] ["web", "standing"] (defScope s_order_chances) := ⟨rfl, rfl, rfl, by decide +kernel, rfl, by decide +kernel, by decide +kernel⟩
theorem ok_order_chances (bi : Bi mg) (c_need_few : DG P w K mg base "need_few" 5 2 g_need_few) (c_counts_in : DG P w K mg base "counts_in" 3 2 g_counts_in) (c_ratio : DG P w K mg base "ratio" 2 2 g_ratio) (Fd : ∃ f fd, FunD K "order_chances" "order_chances" (defArgs s_order_chances) (defBody s_order_chances) (defScope s_order_chances) [] [] f fd ∧ mg "order_chances" = some (.ref f)) : DG P w K mg base "order_chances" 6 2 g_order_chances := by
  obtain ⟨f, fd, Fd, m⟩ := Fd
  refine ⟨f, fd, ["web", "standing"], fn_pureF (k := 5) (N := ["web", "standing", "found", "whole", "end"]) (g := B_order_chances) Fd sc_order_chances rfl (by decide) (fun cdv A outer s H E hr => ?_), m, Fd.kp, Fd.bindsN fun _ _ _ _ _ _ us hl => match us, hl with | [_, _], _ => by kernel_rfl⟩
  have rm := rm_of (X := (cxOf CX0 P w K mg base ["web", "standing", "found", "whole", "end"] "order_chances" (defScope s_order_chances) f cdv A outer s H E).nox) hr
  have nd := sc_order_chances.nd
  exact (sfs_cons (sf_expr (ef_call (c_need_few.cal hr) (ea_cons (ev 0) (ea_cons (ev 1) ea_nil)) (lenA_cons (lenA_cons lenA_nil)) rfl))
    (sfs_cons (sf_setZ (i := 2) nd rfl (by first | exact Or.inl rfl | exact Or.inr rfl) (ed_call (c_counts_in.cal hr) (ea_cons (ev 0) (ea_cons (ev 1) ea_nil)) (lenA_cons (lenA_cons lenA_nil)) rfl))
    (sfs_cons (sf_set (i := 3) nd rfl (by first | exact Or.inl rfl | exact Or.inr rfl) (c_sumA bi (xa_cons (EW.x (NF.e (nf_listValsL bi (pe_varT (i := 2) rfl (by first | exact Or.inl rfl | exact Or.inr (Or.inl rfl) | exact Or.inr (Or.inr rfl)))))) xa_nil)))
    (sws_one (sf_ret (c_tuple bi (xa_cons (EW.x (NF.e (NW.lc (nw_lc (own := [("end", 4)]) (g := (tgN 4)) (T := fW fYes) (E := fW (vTup (aCons (gV 4) (aCons (aOf g_ratio (aCons (vGetL (slotZ 2) (gV 4)) (aCons (gV 3) aNil))) aNil)))) rfl nd (if_seq (NF.e (n_sortedN bi rm (xa_cons (EW.x (NF.e (nf_keysL bi (pe_varT (i := 2) rfl (by first | exact Or.inl rfl | exact Or.inr (Or.inl rfl) | exact Or.inr (Or.inr rfl)))))) xa_nil)))) (blkOk_by (own := [("end", 4)]) (by kernel_rfl)) (fun _ _ _ _ _ => (gw_sub (gw_name (i := 4) nd rfl (by first | exact Or.inl rfl | exact Or.inr rfl)))) (fun _ _ _ _ _ => ts_nil) (fun _ _ _ _ _ => (ef_tup (ea_cons (ev 4) (ea_cons (ef_call (c_ratio.cal hr) (ea_cons (ef_getL rm (pe_varL (i := 2) rfl (by first | exact Or.inl rfl | exact Or.inr (Or.inl rfl) | exact Or.inr (Or.inr rfl))) (ev 4)) (ea_cons (ev 3) ea_nil)) (lenA_cons (lenA_cons lenA_nil)) rfl) ea_nil)) (lenA_cons (lenA_cons lenA_nil)))) s)))) xa_nil)))))))

def B_stand_chance : Rho → Option Fl := (sSeq (sDrop (aOf g_need_state (aCons (gV 0) (aCons (gV 1) aNil))))
  (sSeq (sDrop (aOf g_need_person (aCons (gV 0) (aCons (gV 2) aNil))))
  (sSeq (sDrop (aOf g_need_few (aCons (gV 0) (aCons (gV 1) aNil))))
  (sSeq (sSetZ 3 (fDt g_counts_in (aCons (gV 0) (aCons (gV 1) aNil))))
  (sRet (aOf g_ratio (aCons (aOf gSum (aCons (fun ρ => ((cLc [4, 5] (tg2 4 5) (bB (b2 dIn (gX 2) (gX 4))) (gV 5) (fItemsC (slotZ 3))) ρ).map PyData.list) aNil)) (aCons (aOf gSumA (aCons (fun ρ => ((fValsC (slotT 3)) ρ).map PyData.list) aNil)) aNil))))))))
def g_stand_chance : GA := runF 6 B_stand_chance

abbrev s_stand_chance : Stmt := topS 42
theorem sc_stand_chance : FnScope ["web", "standing", "person", "found", "end", "many"] ["web", "standing", "person"] (defScope s_stand_chance) := ⟨rfl, rfl, rfl, by decide +kernel, rfl, by decide +kernel, by decide +kernel⟩
theorem ok_stand_chance (bi : Bi mg) (c_need_state : DG P w K mg base "need_state" 4 2 g_need_state) (c_need_person : DG P w K mg base "need_person" 3 2 g_need_person) (c_need_few : DG P w K mg base "need_few" 5 2 g_need_few) (c_counts_in : DG P w K mg base "counts_in" 3 2 g_counts_in) (c_ratio : DG P w K mg base "ratio" 2 2 g_ratio) (Fd : ∃ f fd, FunD K "stand_chance" "stand_chance" (defArgs s_stand_chance) (defBody s_stand_chance) (defScope s_stand_chance) [] [] f fd ∧ mg "stand_chance" = some (.ref f)) : DG P w K mg base "stand_chance" 6 3 g_stand_chance := by
  obtain ⟨f, fd, Fd, m⟩ := Fd
  refine ⟨f, fd, ["web", "standing", "person"], fn_pureF (k := 5) (N := ["web", "standing", "person", "found", "end", "many"]) (g := B_stand_chance) Fd sc_stand_chance rfl (by decide) (fun cdv A outer s H E hr => ?_), m, Fd.kp, Fd.bindsN fun _ _ _ _ _ _ us hl => match us, hl with | [_, _, _], _ => by kernel_rfl⟩
  have rm := rm_of (X := (cxOf CX0 P w K mg base ["web", "standing", "person", "found", "end", "many"] "stand_chance" (defScope s_stand_chance) f cdv A outer s H E).nox) hr
  have nd := sc_stand_chance.nd
  exact (sfs_cons (sf_expr (ef_call (c_need_state.cal hr) (ea_cons (ev 0) (ea_cons (ev 1) ea_nil)) (lenA_cons (lenA_cons lenA_nil)) rfl))
    (sfs_cons (sf_expr (ef_call (c_need_person.cal hr) (ea_cons (ev 0) (ea_cons (ev 2) ea_nil)) (lenA_cons (lenA_cons lenA_nil)) rfl))
    (sfs_cons (sf_expr (ef_call (c_need_few.cal hr) (ea_cons (ev 0) (ea_cons (ev 1) ea_nil)) (lenA_cons (lenA_cons lenA_nil)) rfl))
    (sfs_cons (sf_setZ (i := 3) nd rfl (by first | exact Or.inl rfl | exact Or.inr rfl) (ed_call (c_counts_in.cal hr) (ea_cons (ev 0) (ea_cons (ev 1) ea_nil)) (lenA_cons (lenA_cons lenA_nil)) rfl))
    (sws_one (sf_ret (ef_call (c_ratio.cal hr) (ea_cons (c_sum bi (xa_cons (EW.x (NF.e (NW.lc (nw_lc (own := [("end", 4), ("many", 5)]) (g := (tg2 4 5)) (T := fW (bB (b2 dIn (gX 2) (gX 4)))) (E := fW (gV 5)) rfl nd (if_itemsZ (i := 3) rfl (by first | exact Or.inl rfl | exact Or.inr (Or.inl rfl) | exact Or.inr (Or.inr rfl))) (blkOk_by (own := [("end", 4), ("many", 5)]) (by kernel_rfl)) (fun _ _ _ _ _ => (gw_sub (gw_two (i := 4) (j := 5) rfl nd rfl (by first | exact Or.inl rfl | exact Or.inr rfl) rfl (by first | exact Or.inl rfl | exact Or.inr rfl)))) (fun _ _ _ _ _ => (ts_one (tf_cmp (og_in rm) (xv 2) (xv 4) (by rfl)))) (fun _ _ _ _ _ => (ev 5)) s)))) xa_nil)) (ea_cons (c_sumA bi (xa_cons (EW.x (NF.e (nf_listValsL bi (pe_varT (i := 3) rfl (by first | exact Or.inl rfl | exact Or.inr (Or.inl rfl) | exact Or.inr (Or.inr rfl)))))) xa_nil)) ea_nil)) (lenA_cons (lenA_cons lenA_nil)) rfl)))))))

def B_mean_standing : Rho → Option Fl := (sSeq (sDrop (aOf g_need_few (aCons (gV 0) (aCons (gV 1) aNil))))
  (sSeq (sPuts [2, 3] 2 (pZ (fDt g_counts_in (aCons (gV 0) (aCons (gV 1) aNil))) (pF (gC (rqD 0 1)) pNil)))
  (sSeq (sFor (tg2 4 5) (fItemsC (slotZ 2)) (sSet 3 (aOf g_plus (aCons (gV 3) (aCons (aOf g_ratio (aCons (b2 dMul (aOf gLen (aCons (gX 4) aNil)) (gX 5)) (aCons (aOf gSumA (aCons (fun ρ => ((fValsC (slotT 2)) ρ).map PyData.list) aNil)) aNil))) aNil)))))
  (sRet (gV 3)))))
def g_mean_standing : GA := runF 6 B_mean_standing

abbrev s_mean_standing : Stmt := topS 43
theorem sc_mean_standing : FnScope ["web", "standing", "found", "whole", "end", "many"] ["web", "standing"] (defScope s_mean_standing) := ⟨rfl, rfl, rfl, by decide +kernel, rfl, by decide +kernel, by decide +kernel⟩
theorem ok_mean_standing (bi : Bi mg) (k_ZERO : GTwo K mg "ZERO" 0 1) (c_need_few : DG P w K mg base "need_few" 5 2 g_need_few) (c_counts_in : DG P w K mg base "counts_in" 3 2 g_counts_in) (c_plus : DG P w K mg base "plus" 3 2 g_plus) (c_ratio : DG P w K mg base "ratio" 2 2 g_ratio) (Fd : ∃ f fd, FunD K "mean_standing" "mean_standing" (defArgs s_mean_standing) (defBody s_mean_standing) (defScope s_mean_standing) [] [] f fd ∧ mg "mean_standing" = some (.ref f)) : DG P w K mg base "mean_standing" 6 2 g_mean_standing := by
  obtain ⟨f, fd, Fd, m⟩ := Fd
  refine ⟨f, fd, ["web", "standing"], fn_pureF (k := 5) (N := ["web", "standing", "found", "whole", "end", "many"]) (g := B_mean_standing) Fd sc_mean_standing rfl (by decide) (fun cdv A outer s H E hr => ?_), m, Fd.kp, Fd.bindsN fun _ _ _ _ _ _ us hl => match us, hl with | [_, _], _ => by kernel_rfl⟩
  have rm := rm_of (X := (cxOf CX0 P w K mg base ["web", "standing", "found", "whole", "end", "many"] "mean_standing" (defScope s_mean_standing) f cdv A outer s H E).nox) hr
  have nd := sc_mean_standing.nd
  exact (sfs_cons (sf_expr (ef_call (c_need_few.cal hr) (ea_cons (ev 0) (ea_cons (ev 1) ea_nil)) (lenA_cons (lenA_cons lenA_nil)) rfl))
    (sfs_cons (SW.puts (sw_own2 (i := 2) (j := 3) rfl nd rfl rfl (by decide) rfl rfl (of_z (pe_callL (ed_call (c_counts_in.cal hr) (ea_cons (ev 0) (ea_cons (ev 1) ea_nil)) (lenA_cons (lenA_cons lenA_nil)) rfl)) (of_f (ef_gtwo k_ZERO) of_nil)) (by rfl)))
    (sfs_cons (sf_for PassesOwn.never rfl (if_itemsZ (i := 2) rfl (by first | exact Or.inl rfl | exact Or.inr (Or.inl rfl) | exact Or.inr (Or.inr rfl))) (gw_two (i := 4) (j := 5) rfl nd rfl (by first | exact Or.inl rfl | exact Or.inr rfl) rfl (by first | exact Or.inl rfl | exact Or.inr rfl)) (sws_one (sf_set (i := 3) nd rfl (by first | exact Or.inl rfl | exact Or.inr rfl) (ef_call (c_plus.cal hr) (ea_cons (ev 3) (ea_cons (ef_call (c_ratio.cal hr) (ea_cons (ef_bin og_mul (EW.x (c_len bi (xa_cons (xv 4) xa_nil))) (xv 5)) (ea_cons (c_sumA bi (xa_cons (EW.x (NF.e (nf_listValsL bi (pe_varT (i := 2) rfl (by first | exact Or.inl rfl | exact Or.inr (Or.inl rfl) | exact Or.inr (Or.inr rfl)))))) xa_nil)) ea_nil)) (lenA_cons (lenA_cons lenA_nil)) rfl) ea_nil)) (lenA_cons (lenA_cons lenA_nil)) rfl))))
    (sws_one (sf_ret (ev 3))))))

abbrev s__law_taken : Stmt := topS 45
theorem sc__law_taken : FnScope ["_law_row", "_law_many", "_law_found", "_law_cell"] ["_law_row", "_law_many"] (defScope s__law_taken) := ⟨rfl, rfl, rfl, by decide +kernel, rfl, by decide +kernel, by decide +kernel⟩
theorem ok__law_taken (bi : Bi mg) (Fd : ∃ f fd, FunD K "_law_taken" "_law_taken" (defArgs s__law_taken) (defBody s__law_taken) (defScope s__law_taken) [] [] f fd ∧ mg "_law_taken" = some (.ref f)) : DefOk P w K mg base "_law_taken" 1 (spR K 1 wTaken) := by
  obtain ⟨f, fd, Fd, m⟩ := Fd
  refine ⟨f, fd, ["_law_row", "_law_many"], Fd.ok sc__law_taken (fun vs H Q E h => h.1) (fun cdv A outer s H vs Q E hr h => ?_), m, Fd.kp, Fd.bindsN fun _ _ _ _ _ _ us hl => match us, hl with | [_, _], _ => by kernel_rfl⟩
  have nd := sc__law_taken.nd
  have W : PSs (cxOf CX0 P w K mg base _ "_law_taken" (defScope s__law_taken) f cdv A outer s H E).nox (defBody s__law_taken) _ :=
    pss_cons (ps_if (pt_cmpR op_gt (pe_ix ix_list (pv 0) pe_int (fun _ _ => rfl)) pe_int (nomark _))
      (pss_cons (ps_set (i := 2) nd rfl (Or.inl rfl) (pe_op op_mod (pe_callTy call_int1 rfl bi.int bt_int (pa_cons (pe_ix ix_list (pv 0) pe_int (fun _ _ => rfl)) pa_nil)) (pv 1)))
      (pss_cons (ps_asg (pe_op op_fdiv (pe_ix ix_list (pv 0) pe_int (fun _ _ => rfl)) (pv 1)) (pg_sub (pv 0) pe_int set_list))
      (pss_one (ps_ret (pv 2))))) pss_nil)
    (pss_cons (ps_asg (pe_op op_add (pe_ix ix_list (pv 0) pe_int (fun _ _ => rfl)) pe_int) (pg_sub (pv 0) pe_int set_list))
    (pss_cons (ps_if (pt_cmpR op_gt (pe_ix ix_list (pv 0) pe_int (fun _ _ => rfl)) (pe_callB call_len_seq rfl bi.len boot_len (pa_cons (pe_ix ix_list (pv 0) pe_int (fun _ _ => rfl)) pa_nil)) (nomark _))
      (pss_cons (ps_asg (pe_op op_mod (pe_callTy call_int1 rfl bi.int bt_int (pa_cons (pe_op op_add (pe_op op_mul (pe_ix ix_list (pv 0) pe_int (fun _ _ => rfl)) pe_int) pe_int) pa_nil)) pe_int) (pg_sub (pv 0) pe_int set_list))
      (pss_one (ps_ret (pe_op op_mod (pe_callTy call_int1 rfl bi.int bt_int (pa_cons (pe_op op_fdiv (pe_ix ix_list (pv 0) pe_int (fun _ _ => rfl)) pe_int) pa_nil)) (pv 1))))) pss_nil)
    (pss_cons (ps_set (i := 3) nd rfl (Or.inl rfl) (pe_ix ix_list (pe_ix ix_list (pv 0) pe_int (fun _ _ => rfl)) (pe_op op_sub (pe_ix ix_list (pv 0) pe_int (fun _ _ => rfl)) pe_int) (fun _ _ => rfl)))
    (pss_cons (ps_asg (pe_op op_mod (pe_callTy call_int1 rfl bi.int bt_int (pa_cons (pe_op op_add (pe_op op_add (pe_op op_mul (pe_ix ix_list (pv 0) pe_int (fun _ _ => rfl)) pe_int) (pv 3)) pe_int) pa_nil)) pe_int) (pg_sub (pv 0) pe_int set_list))
    (pss_cons (ps_if (pt_cmpR op_ge (pv 3) (pe_op op_pow pe_int pe_int) (nomark _))
      (pss_one (ps_asg (pe_op op_fdiv (pv 3) (pv 1)) (pg_sub (pv 0) pe_int set_list))) pss_nil)
    (pss_one (ps_ret (pe_op op_mod (pe_callTy call_int1 rfl bi.int bt_int (pa_cons (pv 3) pa_nil)) (pv 1)))))))))
  exact ⟨_, PSs.nox W, taken_sp h⟩

def B__law_gcd : Rho → Option Fl := (sSeq (whF (bB (b2 dNeN (gX 1) (gC (.int 0)))) (sPar 0 1 (aCons (gV 1) (aCons (b2 dMod (aOf gInt (aCons (gX 0) aNil)) (gX 1)) aNil))) 4096)
  (sRet (gV 0)))
def g__law_gcd : GA := runF 2 B__law_gcd

abbrev s__law_gcd : Stmt := topS 46
theorem sc__law_gcd : FnScope ["_law_one", "_law_other"] ["_law_one", "_law_other"] (defScope s__law_gcd) := ⟨rfl, rfl, rfl, by decide +kernel, rfl, by decide +kernel, by decide +kernel⟩
theorem ok__law_gcd (bi : Bi mg) (Fd : ∃ f fd, FunD K "_law_gcd" "_law_gcd" (defArgs s__law_gcd) (defBody s__law_gcd) (defScope s__law_gcd) [] [] f fd ∧ mg "_law_gcd" = some (.ref f)) : DG P w K mg base "_law_gcd" 1 2 g__law_gcd := by
  obtain ⟨f, fd, Fd, m⟩ := Fd
  refine ⟨f, fd, ["_law_one", "_law_other"], fn_pureF (k := 0) (N := ["_law_one", "_law_other"]) (g := B__law_gcd) Fd sc__law_gcd rfl (by decide) (fun cdv A outer s H E hr => ?_), m, Fd.kp, Fd.bindsN fun _ _ _ _ _ _ us hl => match us, hl with | [_, _], _ => by kernel_rfl⟩
  have rm := rm_of (X := (cxOf CX0 P w K mg base ["_law_one", "_law_other"] "_law_gcd" (defScope s__law_gcd) f cdv A outer s H E).nox) hr
  have nd := sc__law_gcd.nd
  exact (sfs_cons (sf_while 4096  PassesOwn.never (tf_cmp (og_neN rm) (xv 1) (EW.x ef_int) (nomark _)) (sws_one (sf_par (i := 0) (j := 1) rfl nd rfl rfl (by decide) rfl rfl (ea_cons (ev 1) (ea_cons (ef_bin og_mod (EW.x (c_int bi (xa_cons (xv 0) xa_nil))) (xv 1)) ea_nil)) (by rfl))))
    (sws_one (sf_ret (ev 0))))

def B__law_lowest : Rho → Option Fl := (sSeq (sSet 2 (aOf g__law_gcd (aCons (aOf gAbs (aCons (gX 0) aNil)) (aCons (gV 1) aNil))))
  (sRet (vTup (aCons (b2 dFdiv (gX 0) (gX 2)) (aCons (b2 dFdiv (gX 1) (gX 2)) aNil)))))
def g__law_lowest : GA := runF 3 B__law_lowest

abbrev s__law_lowest : Stmt := topS 47
theorem sc__law_lowest : FnScope ["_law_numerator", "_law_denominator", "_law_common"] ["_law_numerator", "_law_denominator"] (defScope s__law_lowest) := ⟨rfl, rfl, rfl, by decide +kernel, rfl, by decide +kernel, by decide +kernel⟩
theorem ok__law_lowest (bi : Bi mg) (c__law_gcd : DG P w K mg base "_law_gcd" 1 2 g__law_gcd) (Fd : ∃ f fd, FunD K "_law_lowest" "_law_lowest" (defArgs s__law_lowest) (defBody s__law_lowest) (defScope s__law_lowest) [] [] f fd ∧ mg "_law_lowest" = some (.ref f)) : DG P w K mg base "_law_lowest" 2 2 g__law_lowest := by
  obtain ⟨f, fd, Fd, m⟩ := Fd
  refine ⟨f, fd, ["_law_numerator", "_law_denominator"], fn_pureF (k := 1) (N := ["_law_numerator", "_law_denominator", "_law_common"]) (g := B__law_lowest) Fd sc__law_lowest rfl (by decide) (fun cdv A outer s H E hr => ?_), m, Fd.kp, Fd.bindsN fun _ _ _ _ _ _ us hl => match us, hl with | [_, _], _ => by kernel_rfl⟩
  have rm := rm_of (X := (cxOf CX0 P w K mg base ["_law_numerator", "_law_denominator", "_law_common"] "_law_lowest" (defScope s__law_lowest) f cdv A outer s H E).nox) hr
  have nd := sc__law_lowest.nd
  exact (sfs_cons (sf_set (i := 2) nd rfl (by first | exact Or.inl rfl | exact Or.inr rfl) (ef_call (c__law_gcd.cal hr) (ea_cons (c_abs bi (xa_cons (xv 0) xa_nil)) (ea_cons (ev 1) ea_nil)) (lenA_cons (lenA_cons lenA_nil)) rfl))
    (sws_one (sf_ret (ef_tup (ea_cons (ef_bin og_fdiv (xv 0) (xv 2)) (ea_cons (ef_bin og_fdiv (xv 1) (xv 2)) ea_nil)) (lenA_cons (lenA_cons lenA_nil))))))

abbrev s__law_by : Stmt := topS 48
theorem sc__law_by : FnScope ["_law_many", "_law_couples", "_law_found", "_law_one", "_law_other", "_law_person", "_law_own"] ["_law_many", "_law_couples"] (defScope s__law_by) := ⟨rfl, rfl, rfl, by decide +kernel, rfl, by decide +kernel, by decide +kernel⟩
theorem ok__law_by (bi : Bi mg) (Fd : ∃ f fd, FunD K "_law_by" "_law_by" (defArgs s__law_by) (defBody s__law_by) (defScope s__law_by) [] [] f fd ∧ mg "_law_by" = some (.ref f)) : DefOk P w K mg base "_law_by" 1 (spF K 2 wBy) := by
  obtain ⟨f, fd, Fd, m⟩ := Fd
  refine ⟨f, fd, ["_law_many", "_law_couples"], Fd.ok sc__law_by (fun vs H Q E h => h.1) (fun cdv A outer s H vs Q E hr h => ⟨tBy K, PSs.nox ?_, by_sp h⟩), m, Fd.kp, Fd.bindsN fun _ _ _ _ _ _ us hl => match us, hl with | [_, _], _ => by kernel_rfl⟩
  have hu : (A.deeper (envOfC "_law_by" (defScope s__law_by) s.heap.objs.size f cdv)).units + 1 < cLine := by have := hr.un; omega
  have nd := sc__law_by.nd
  have W : PSs (cxOf CX0 P w K mg base _ "_law_by" (defScope s__law_by) f cdv A outer s H E).nox (defBody s__law_by) _ :=
    pss_cons (ps_setLc (i := 2) rfl nd rfl rfl (by rfl) (pi_range1 (by rfl) bi.range (pa_cons (pv 0) pa_nil)) (blkOk_by (own := [("_law_person", 5)]) (by kernel_rfl)) (fun _ _ _ _ _ => pg_name (i := 5) nd rfl (by first | exact Or.inl rfl | exact Or.inr rfl)) (fun _ _ _ _ _ => pts_nil) (fun _ _ _ _ _ => pe_dnewK))
    (pss_cons (ps_for PassesOwn.never rfl (pi_list (pv 1)) (pg_tup rfl (pgs_cons (pg_name (i := 3) nd rfl (Or.inl rfl)) (pgs_cons (pg_name (i := 4) nd rfl (Or.inl rfl)) pgs_nil)))
      (pss_cons (ps_dput hu (pe_ix ix_list (pv 2) (pv 3) (fun _ _ => rfl)) (pv 4) pe_bl (by rfl))
        (pss_one (ps_dput hu (pe_ix ix_list (pv 2) (pv 4) (fun _ _ => rfl)) (pv 3) pe_bl (by rfl)))))
    (pss_one (ps_ret (pe_callTy call_tuple_of rfl bi.tuple bt_tuple (pa_cons (pe_lc (te := tCB (rTupOf K) (tCons (tCB (rSortedI K) (tCons (tCB rListD (tCons (tVar 6) tNil)) tNil)) tNil)) rfl nd (pi_list (pv 2)) (blkOk_by (own := [("_law_own", 6)]) (by kernel_rfl)) (fun _ _ _ _ _ => pg_name (i := 6) nd rfl (by first | exact Or.inl rfl | exact Or.inr rfl)) (fun _ _ _ _ _ => pts_nil)
      (fun _ _ _ _ _ => pe_callTy call_tuple_of rfl bi.tuple bt_tuple (pa_cons (pe_callB cr_sortedI rfl bi.sorted bt_sorted (pa_cons (pe_callTy (call_list_dK rfl) rfl bi.list bt_list (pa_cons (pv 6) pa_nil)) pa_nil)) pa_nil))) pa_nil)))))
  exact W

def B__law_plus : Rho → Option Fl := (sRet (aOf g__law_lowest (aCons (b2 dAdd (b2 dMul (b2 dIxN (gX 0) (gC (.int 0))) (b2 dIxN (gX 1) (gC (.int 1)))) (b2 dMul (b2 dIxN (gX 1) (gC (.int 0))) (b2 dIxN (gX 0) (gC (.int 1))))) (aCons (b2 dMul (b2 dIxN (gX 0) (gC (.int 1))) (b2 dIxN (gX 1) (gC (.int 1)))) aNil))))
def g__law_plus : GA := runF 2 B__law_plus

abbrev s__law_plus : Stmt := topS 49
theorem sc__law_plus : FnScope ["_law_one", "_law_other"] ["_law_one", "_law_other"] (defScope s__law_plus) := ⟨rfl, rfl, rfl, by decide +kernel, rfl, by decide +kernel, by decide +kernel⟩
theorem ok__law_plus (bi : Bi mg) (c__law_lowest : DG P w K mg base "_law_lowest" 2 2 g__law_lowest) (Fd : ∃ f fd, FunD K "_law_plus" "_law_plus" (defArgs s__law_plus) (defBody s__law_plus) (defScope s__law_plus) [] [] f fd ∧ mg "_law_plus" = some (.ref f)) : DG P w K mg base "_law_plus" 3 2 g__law_plus := by
  obtain ⟨f, fd, Fd, m⟩ := Fd
  refine ⟨f, fd, ["_law_one", "_law_other"], fn_pureF (k := 2) (N := ["_law_one", "_law_other"]) (g := B__law_plus) Fd sc__law_plus rfl (by decide) (fun cdv A outer s H E hr => ?_), m, Fd.kp, Fd.bindsN fun _ _ _ _ _ _ us hl => match us, hl with | [_, _], _ => by kernel_rfl⟩
  have rm := rm_of (X := (cxOf CX0 P w K mg base ["_law_one", "_law_other"] "_law_plus" (defScope s__law_plus) f cdv A outer s H E).nox) hr
  have nd := sc__law_plus.nd
  exact (sws_one (sf_ret (ef_call (c__law_lowest.cal hr) (ea_cons (ef_bin og_add (EW.x (ef_bin og_mul (EW.x (ef_ixN (xv 0) (EW.x ef_int))) (EW.x (ef_ixN (xv 1) (EW.x ef_int))))) (EW.x (ef_bin og_mul (EW.x (ef_ixN (xv 1) (EW.x ef_int))) (EW.x (ef_ixN (xv 0) (EW.x ef_int)))))) (ea_cons (ef_bin og_mul (EW.x (ef_ixN (xv 0) (EW.x ef_int))) (EW.x (ef_ixN (xv 1) (EW.x ef_int)))) ea_nil)) (lenA_cons (lenA_cons lenA_nil)) rfl)))

def B__law_times : Rho → Option Fl := (sRet (aOf g__law_lowest (aCons (b2 dMul (b2 dIxN (gX 0) (gC (.int 0))) (b2 dIxN (gX 1) (gC (.int 0)))) (aCons (b2 dMul (b2 dIxN (gX 0) (gC (.int 1))) (b2 dIxN (gX 1) (gC (.int 1)))) aNil))))
def g__law_times : GA := runF 2 B__law_times

abbrev s__law_times : Stmt := topS 50
theorem sc__law_times : FnScope ["_law_one", "_law_other"] ["_law_one", "_law_other"] (defScope s__law_times) := ⟨rfl, rfl, rfl, by decide +kernel, rfl, by decide +kernel, by decide +kernel⟩
theorem ok__law_times (bi : Bi mg) (c__law_lowest : DG P w K mg base "_law_lowest" 2 2 g__law_lowest) (Fd : ∃ f fd, FunD K "_law_times" "_law_times" (defArgs s__law_times) (defBody s__law_times) (defScope s__law_times) [] [] f fd ∧ mg "_law_times" = some (.ref f)) : DG P w K mg base "_law_times" 3 2 g__law_times := by
  obtain ⟨f, fd, Fd, m⟩ := Fd
  refine ⟨f, fd, ["_law_one", "_law_other"], fn_pureF (k := 2) (N := ["_law_one", "_law_other"]) (g := B__law_times) Fd sc__law_times rfl (by decide) (fun cdv A outer s H E hr => ?_), m, Fd.kp, Fd.bindsN fun _ _ _ _ _ _ us hl => match us, hl with | [_, _], _ => by kernel_rfl⟩
  have rm := rm_of (X := (cxOf CX0 P w K mg base ["_law_one", "_law_other"] "_law_times" (defScope s__law_times) f cdv A outer s H E).nox) hr
  have nd := sc__law_times.nd
  exact (sws_one (sf_ret (ef_call (c__law_lowest.cal hr) (ea_cons (ef_bin og_mul (EW.x (ef_ixN (xv 0) (EW.x ef_int))) (EW.x (ef_ixN (xv 1) (EW.x ef_int)))) (ea_cons (ef_bin og_mul (EW.x (ef_ixN (xv 0) (EW.x ef_int))) (EW.x (ef_ixN (xv 1) (EW.x ef_int)))) ea_nil)) (lenA_cons (lenA_cons lenA_nil)) rfl)))

def T_law : TSt := (wSeq (wRow 1 (fW (aCons (gV 0) (aCons (gC (.int 0)) (aCons (gC (.int 9975)) (aCons (gC (.int 0)) aNil))))))
  (wSeq (wSet 2 (w2 dAdd (fW (gC (.int 1))) (wDraw 1 wTaken (wCons (fW (gC (.int 5))) wNil))))
  (wSeq (wPuts [3, 4, 5, 6] 4 (oF (wCal wBy (wCons (fW (gV 2)) (wCons (fW (fun ρ => ((cLc [14] (tgN 14) fYes (vTup (aCons (gV 14) (aCons (b2 dAdd (gX 14) (gC (.int 1))) aNil))) (aOf gRng1 (aCons (b2 dSub (gX 2) (gC (.int 1))) aNil))) ρ).map PyData.list)) wNil))) (oF (fW (vTup (aCons (gC (.int 1)) (aCons (gC (.int 1)) aNil)))) (oF (fW (vTup (aCons (gC (.int 1)) (aCons (gC (.int 1)) aNil)))) (oF (fW (vTup (aCons (gC (.int 0)) (aCons (gC (.int 1)) aNil)))) oNil)))))
  (wSeq (fW (sPuts [7, 8] 2 (pF (aOf g_everybody (aCons (gV 3) aNil)) (pO (aCons (vTup (aCons (gC (.int 1)) (aCons (gC (.int 1)) aNil))) aNil) pNil))))
  (wSeq (fW (sFor (tgN 9) (aOf gRng2 (aCons (gC (.int 1)) (aCons (gX 2) aNil))) (sSeq (sSet 4 (aOf g__law_times (aCons (gV 4) (aCons (vTup (aCons (gC (.int 1)) (aCons (gV 9) aNil))) aNil))))
  (sSeq (sSet 5 (aOf g__law_plus (aCons (gV 5) (aCons (vIf (bB (b2 dEqN (b2 dMod (aOf gInt (aCons (gX 9) aNil)) (gC (.int 2))) (gC (.int 0)))) (gV 4) (vTup (aCons (b2 dSub (gC (.int 0)) (b2 dIxN (gX 4) (gC (.int 0)))) (aCons (b2 dIxN (gX 4) (gC (.int 1))) aNil)))) aNil))))
  (sApp 8 (gV 5))))))
  (wSeq (fW (sFor (tgN 10) (fItems (gV 7)) (sSeq (sIf (bB (b2 dNeN (aOf g_stand_chance (aCons (gV 3) (aCons (gV 7) (aCons (gV 10) aNil)))) (b2 dIxN (gX 8) (b2 dSub (b2 dSub (gX 2) (gC (.int 1))) (gX 10))))) (sRet (gC (.bool false))) sNil)
  (sSet 6 (aOf g__law_plus (aCons (gV 6) (aCons (b2 dIxN (gX 8) (b2 dSub (b2 dSub (gX 2) (gC (.int 1))) (gX 10))) aNil)))))))
  (wSeq (fW (sIf (bOr (bB (b2 dNeN (aOf g_mean_standing (aCons (gV 3) (aCons (gV 7) aNil))) (gX 6))) (bB (b2 dNeN (aOf g_count_ends (aCons (gV 3) (aCons (gV 7) aNil))) (aOf gLen (aCons (aOf g_order_counts (aCons (gV 3) (aCons (gV 7) aNil))) aNil))))) (sRet (gC (.bool false))) sNil))
  (wSeq (fW (sIf (bB (b2 dNeN (fun ρ => ((cLc [15, 16] (tg2 15 16) fYes (gV 15) (fItems (aOf g_order_chances (aCons (gV 3) (aCons (gV 7) aNil))))) ρ).map PyData.list) (aOf g_ends (aCons (gV 3) (aCons (gV 7) aNil))))) (sRet (gC (.bool false))) sNil))
  (wSeq (wSet 11 (wOf gTup (wCons (wLst (wLc [13] (tgN 13) (wB (w2 dGt (wDraw 1 wTaken (wCons (fW (gC (.int 4))) wNil)) (fW (gC (.int 0))))) (fW (gV 13)) (fW (fItems (gV 7))))) wNil)))
  (fW (sSeq (sFor (tgN 10) (fItems (gV 11)) (sSeq (sSet 12 (gC (.int 0)))
  (sSeq (sFor (tgN 13) (aOf gRng2 (aCons (b2 dAdd (gX 10) (gC (.int 1))) (aCons (gX 2) aNil))) (sSet 12 (vIf (bAnd (bB (b2 dIn (gX 13) (gX 11))) (bB (b2 dEqN (gX 12) (b2 dSub (b2 dSub (gX 13) (gX 10)) (gC (.int 1)))))) (b2 dAdd (gX 12) (gC (.int 1))) (gV 12))))
  (sIf (bB (b2 dNeN (aOf g_stand_chance (aCons (gV 3) (aCons (gV 11) (aCons (gV 10) aNil)))) (b2 dIxN (gX 8) (gX 12)))) (sRet (gC (.bool false))) sNil))))
  (sRet (gC (.bool true))))))))))))))

abbrev s_law : Stmt := topS 51
theorem sc_law : FnScope ["_law_script", "_law_row", "_law_many", "_law_web", "_law_part", "_law_whole", "_law_mean", "_law_begin", "_law_chances", "_law_number", "_law_person", "_law_some", "_law_far", "_law_one", "_law_at", "_law_end", "_law_chance"] ["_law_script"] (defScope s_law) := ⟨rfl, rfl, rfl, by decide +kernel, rfl, by decide +kernel, by decide +kernel⟩
theorem sw_law (bi : Bi mg) (c__law_taken : DefOk P w K mg base "_law_taken" 1 (spR K 1 wTaken)) (c__law_by : DefOk P w K mg base "_law_by" 1 (spF K 2 wBy)) (c_everybody : DG P w K mg base "everybody" 4 1 g_everybody) (c__law_times : DG P w K mg base "_law_times" 3 2 g__law_times) (c__law_plus : DG P w K mg base "_law_plus" 3 2 g__law_plus) (c_ends : DG P w K mg base "ends" 5 2 g_ends) (c_stand_chance : DG P w K mg base "stand_chance" 6 3 g_stand_chance) (c_mean_standing : DG P w K mg base "mean_standing" 6 2 g_mean_standing) (c_count_ends : DG P w K mg base "count_ends" 5 2 g_count_ends) (c_order_counts : DG P w K mg base "order_counts" 6 2 g_order_counts) (c_order_chances : DG P w K mg base "order_chances" 6 2 g_order_chances) (cdv : Value) (A : Around) (outer : List Env) (s : Shared) (H : Hp) (E : XK) (f : Addr) (hr : Room 6 (A.deeper (envOfC "law" (defScope s_law) s.heap.objs.size f cdv))) : SWs (cxOf CX0 P w K mg base ["_law_script", "_law_row", "_law_many", "_law_web", "_law_part", "_law_whole", "_law_mean", "_law_begin", "_law_chances", "_law_number", "_law_person", "_law_some", "_law_far", "_law_one", "_law_at", "_law_end", "_law_chance"] "law" (defScope s_law) f cdv A outer s H E).nox (defBody s_law) T_law := by
  have rm := rm_of (X := (cxOf CX0 P w K mg base ["_law_script", "_law_row", "_law_many", "_law_web", "_law_part", "_law_whole", "_law_mean", "_law_begin", "_law_chances", "_law_number", "_law_person", "_law_some", "_law_far", "_law_one", "_law_at", "_law_end", "_law_chance"] "law" (defScope s_law) f cdv A outer s H E).nox) hr
  have nd := sc_law.nd
  exact (sws_cons (sw_row (ns_set (i := 1) nd rfl (by first | exact Or.inl rfl | exact Or.inr rfl) (nf_lst (ea_cons (ev 0) (ea_cons ef_int (ea_cons ef_int (ea_cons ef_int ea_nil)))) (lenA_cons (lenA_cons (lenA_cons (lenA_cons lenA_nil)))))))
    (sws_cons (sw_set (i := 2) nd rfl (by first | exact Or.inl rfl | exact Or.inr rfl) (ew_bin og_add (EW.x ef_int) (EW.x (ew_draw (i := 1) (c__law_taken.cal hr) wTaken_mono rfl (by first | exact Or.inl rfl | exact Or.inr (Or.inl rfl) | exact Or.inr (Or.inr rfl)) (eal_cons ef_int eal_nil) rfl))))
    (sws_cons (sw_ownT (n := 4) rfl nd (is := [3, 4, 5, 6]) (.cons (i := 3) rfl (by first | exact Or.inl rfl | exact Or.inr rfl) (by first | exact .inl rfl | exact .inr rfl) (.cons (i := 4) rfl (by first | exact Or.inl rfl | exact Or.inr rfl) (by first | exact .inl rfl | exact .inr rfl) (.cons (i := 5) rfl (by first | exact Or.inl rfl | exact Or.inr rfl) (by first | exact .inl rfl | exact .inr rfl) (.cons (i := 6) rfl (by first | exact Or.inl rfl | exact Or.inr rfl) (by first | exact .inl rfl | exact .inr rfl) .nil)))) (oa_f (ew_callL (c__law_by.cal hr) wBy_mono (eal_cons (ev 2) (eal_cons (NF.e (NW.lc (nw_lc (own := [("_law_at", 14)]) (g := (tgN 14)) (T := fW fYes) (E := fW (vTup (aCons (gV 14) (aCons (b2 dAdd (gX 14) (gC (.int 1))) aNil)))) rfl nd (if_rng1 rfl bi.range (xa_cons (EW.x (ef_bin og_sub (xv 2) (EW.x ef_int))) xa_nil)) (blkOk_by (own := [("_law_at", 14)]) (by kernel_rfl)) (fun _ _ _ _ _ => (gw_sub (gw_name (i := 14) nd rfl (by first | exact Or.inl rfl | exact Or.inr rfl)))) (fun _ _ _ _ _ => ts_nil) (fun _ _ _ _ _ => (ef_tup (ea_cons (ev 14) (ea_cons (ef_bin og_add (xv 14) (EW.x ef_int)) ea_nil)) (lenA_cons (lenA_cons lenA_nil)))) s))) eal_nil)) rfl) (oa_f (ef_tup (ea_cons ef_int (ea_cons ef_int ea_nil)) (lenA_cons (lenA_cons lenA_nil))) (oa_f (ef_tup (ea_cons ef_int (ea_cons ef_int ea_nil)) (lenA_cons (lenA_cons lenA_nil))) (oa_f (ef_tup (ea_cons ef_int (ea_cons ef_int ea_nil)) (lenA_cons (lenA_cons lenA_nil))) oa_nil)))) rfl rfl (by decide))
    (sws_cons (SW.puts (sw_own2 (i := 7) (j := 8) rfl nd rfl rfl (by decide) rfl rfl (of_f (ef_call (c_everybody.cal hr) (ea_cons (ev 3) ea_nil) (lenA_cons lenA_nil) rfl) (of_o (nf_lst (ea_cons (ef_tup (ea_cons ef_int (ea_cons ef_int ea_nil)) (lenA_cons (lenA_cons lenA_nil))) ea_nil) (lenA_cons lenA_nil)) of_nil)) (by rfl)))
    (sws_cons (sf_for PassesOwn.never rfl (if_rng2 rfl bi.range (xa_cons (EW.x ef_int) (xa_cons (xv 2) xa_nil))) (gw_name (i := 9) nd rfl (by first | exact Or.inl rfl | exact Or.inr rfl)) (sfs_cons (sf_set (i := 4) nd rfl (by first | exact Or.inl rfl | exact Or.inr rfl) (ef_call (c__law_times.cal hr) (ea_cons (ev 4) (ea_cons (ef_tup (ea_cons ef_int (ea_cons (ev 9) ea_nil)) (lenA_cons (lenA_cons lenA_nil))) ea_nil)) (lenA_cons (lenA_cons lenA_nil)) rfl))
    (sfs_cons (sf_set (i := 5) nd rfl (by first | exact Or.inl rfl | exact Or.inr rfl) (ef_call (c__law_plus.cal hr) (ea_cons (ev 5) (ea_cons (ef_if (tf_cmp (og_eqN rm) (EW.x (ef_bin og_mod (EW.x (c_int bi (xa_cons (xv 9) xa_nil))) (EW.x ef_int))) (EW.x ef_int) (nomark _)) (ev 4) (ef_tup (ea_cons (ef_bin og_sub (EW.x ef_int) (EW.x (ef_ixN (xv 4) (EW.x ef_int)))) (ea_cons (ef_ixN (xv 4) (EW.x ef_int)) ea_nil)) (lenA_cons (lenA_cons lenA_nil)))) ea_nil)) (lenA_cons (lenA_cons lenA_nil)) rfl))
    (sws_one (sf_app (i := 8) rfl (by first | exact Or.inl rfl | exact Or.inr (Or.inl rfl) | exact Or.inr (Or.inr rfl)) (ev 5))))))
    (sws_cons (sf_for PassesOwn.never rfl (if_seq (ev 7)) (gw_name (i := 10) nd rfl (by first | exact Or.inl rfl | exact Or.inr rfl)) (sfs_cons (sf_if (tf_cmp (og_neN rm) (EW.x (ef_call (c_stand_chance.cal hr) (ea_cons (ev 3) (ea_cons (ev 7) (ea_cons (ev 10) ea_nil))) (lenA_cons (lenA_cons (lenA_cons lenA_nil))) rfl)) (EW.x (ef_ixN (xv 8) (EW.x (ef_bin og_sub (EW.x (ef_bin og_sub (xv 2) (EW.x ef_int))) (xv 10))))) (nomark _)) (sws_one (sf_ret ef_bl)) sfs_nil)
    (sws_one (sf_set (i := 6) nd rfl (by first | exact Or.inl rfl | exact Or.inr rfl) (ef_call (c__law_plus.cal hr) (ea_cons (ev 6) (ea_cons (ef_ixN (xv 8) (EW.x (ef_bin og_sub (EW.x (ef_bin og_sub (xv 2) (EW.x ef_int))) (xv 10)))) ea_nil)) (lenA_cons (lenA_cons lenA_nil)) rfl)))))
    (sws_cons (sf_if (TWW.t (tf_or (tf_cmp (og_neN rm) (EW.x (ef_call (c_mean_standing.cal hr) (ea_cons (ev 3) (ea_cons (ev 7) ea_nil)) (lenA_cons (lenA_cons lenA_nil)) rfl)) (xv 6) (nomark _)) (tf_or1 (tf_cmp (og_neN rm) (EW.x (ef_call (c_count_ends.cal hr) (ea_cons (ev 3) (ea_cons (ev 7) ea_nil)) (lenA_cons (lenA_cons lenA_nil)) rfl)) (EW.x (c_len bi (xa_cons (EW.x (ef_call (c_order_counts.cal hr) (ea_cons (ev 3) (ea_cons (ev 7) ea_nil)) (lenA_cons (lenA_cons lenA_nil)) rfl)) xa_nil))) (nomark _))))) (sws_one (sf_ret ef_bl)) sfs_nil)
    (sws_cons (sf_if (tf_cmp (og_neN rm) (EW.x (NF.e (NW.lc (nw_lc (own := [("_law_end", 15), ("_law_chance", 16)]) (g := (tg2 15 16)) (T := fW fYes) (E := fW (gV 15)) rfl nd (if_seq (ef_call (c_order_chances.cal hr) (ea_cons (ev 3) (ea_cons (ev 7) ea_nil)) (lenA_cons (lenA_cons lenA_nil)) rfl)) (blkOk_by (own := [("_law_end", 15), ("_law_chance", 16)]) (by kernel_rfl)) (fun _ _ _ _ _ => (gw_sub (gw_two (i := 15) (j := 16) rfl nd rfl (by first | exact Or.inl rfl | exact Or.inr rfl) rfl (by first | exact Or.inl rfl | exact Or.inr rfl)))) (fun _ _ _ _ _ => ts_nil) (fun _ _ _ _ _ => (ev 15)) s)))) (EW.x (ef_call (c_ends.cal hr) (ea_cons (ev 3) (ea_cons (ev 7) ea_nil)) (lenA_cons (lenA_cons lenA_nil)) rfl)) (nomark _)) (sws_one (sf_ret ef_bl)) sfs_nil)
    (sws_cons (sw_set (i := 11) nd rfl (by first | exact Or.inl rfl | exact Or.inr rfl) (cw_tuple bi (xa_consw (EW.x (NW.eL (nw_lc (own := [("_law_one", 13)]) (g := (tgN 13)) (T := (wB (w2 dGt (wDraw 1 wTaken (wCons (fW (gC (.int 4))) wNil)) (fW (gC (.int 0)))))) (E := (fW (gV 13))) rfl nd (if_seq (ev 7)) (blkOk_by (own := [("_law_one", 13)]) (by kernel_rfl)) (fun _ _ _ _ _ => (gw_sub (gw_name (i := 13) nd rfl (by first | exact Or.inl rfl | exact Or.inr rfl)))) (fun _ _ _ _ _ => (ts_one (tw_cmp og_gt (EW.x (ew_draw (i := 1) (c__law_taken.cal hr) wTaken_mono rfl (by first | exact Or.inl rfl | exact Or.inr (Or.inl rfl) | exact Or.inr (Or.inr rfl)) (eal_cons ef_int eal_nil) rfl)) (EW.x ef_int) (nomark _)))) (fun _ _ _ _ _ => (ev 13)) s))) xa_nilw)))
    (sfs_cons (sf_for PassesOwn.never rfl (if_seq (ev 11)) (gw_name (i := 10) nd rfl (by first | exact Or.inl rfl | exact Or.inr rfl)) (sfs_cons (sf_set (i := 12) nd rfl (by first | exact Or.inl rfl | exact Or.inr rfl) ef_int)
    (sfs_cons (sf_for PassesOwn.never rfl (if_rng2 rfl bi.range (xa_cons (EW.x (ef_bin og_add (xv 10) (EW.x ef_int))) (xa_cons (xv 2) xa_nil))) (gw_name (i := 13) nd rfl (by first | exact Or.inl rfl | exact Or.inr rfl)) (sws_one (sf_set (i := 12) nd rfl (by first | exact Or.inl rfl | exact Or.inr rfl) (ef_if (TWW.t (tf_and (tf_cmp (og_in rm) (xv 13) (xv 11) (by rfl)) (tf_and1 (tf_cmp (og_eqN rm) (xv 12) (EW.x (ef_bin og_sub (EW.x (ef_bin og_sub (xv 13) (xv 10))) (EW.x ef_int))) (nomark _))))) (ef_bin og_add (xv 12) (EW.x ef_int)) (ev 12)))))
    (sws_one (sf_if (tf_cmp (og_neN rm) (EW.x (ef_call (c_stand_chance.cal hr) (ea_cons (ev 3) (ea_cons (ev 11) (ea_cons (ev 10) ea_nil))) (lenA_cons (lenA_cons (lenA_cons lenA_nil))) rfl)) (EW.x (ef_ixN (xv 8) (xv 12))) (nomark _)) (sws_one (sf_ret ef_bl)) sfs_nil)))))
    (sws_one (sf_ret ef_bl))))))))))))
theorem ok_law (bi : Bi mg) (c__law_taken : DefOk P w K mg base "_law_taken" 1 (spR K 1 wTaken)) (c__law_by : DefOk P w K mg base "_law_by" 1 (spF K 2 wBy)) (c_everybody : DG P w K mg base "everybody" 4 1 g_everybody) (c__law_times : DG P w K mg base "_law_times" 3 2 g__law_times) (c__law_plus : DG P w K mg base "_law_plus" 3 2 g__law_plus) (c_ends : DG P w K mg base "ends" 5 2 g_ends) (c_stand_chance : DG P w K mg base "stand_chance" 6 3 g_stand_chance) (c_mean_standing : DG P w K mg base "mean_standing" 6 2 g_mean_standing) (c_count_ends : DG P w K mg base "count_ends" 5 2 g_count_ends) (c_order_counts : DG P w K mg base "order_counts" 6 2 g_order_counts) (c_order_chances : DG P w K mg base "order_chances" 6 2 g_order_chances) (Fd : ∃ f fd, FunD K "law" "law" (defArgs s_law) (defBody s_law) (defScope s_law) [] [] f fd ∧ mg "law" = some (.ref f)) : DefOk P w K mg base "law" 7 (spF K 1 (runW 17 T_law)) := by
  obtain ⟨f, fd, Fd, m⟩ := Fd
  exact ⟨f, fd, ["_law_script"], fn_pure (T := T_law) (k := 6) (N := ["_law_script", "_law_row", "_law_many", "_law_web", "_law_part", "_law_whole", "_law_mean", "_law_begin", "_law_chances", "_law_number", "_law_person", "_law_some", "_law_far", "_law_one", "_law_at", "_law_end", "_law_chance"]) Fd sc_law rfl (by decide) (fun cdv A outer s H E hr => sw_law bi c__law_taken c__law_by c_everybody c__law_times c__law_plus c_ends c_stand_chance c_mean_standing c_count_ends c_order_counts c_order_chances cdv A outer s H E f hr), m, Fd.kp, Fd.bindsN fun _ _ _ _ _ _ us hl => match us, hl with | [_], _ => by kernel_rfl⟩

end
end W


set_option Elab.async false
set_option linter.all false
set_option maxRecDepth 1000000
set_option maxHeartbeats 4000000
namespace W
open PySem PySem.Spec PyProof.Rows L2 L2.P
theorem k_to {f : Rho → Option Fl} {U : TSt} {ρ ρ' : Rho} {K : Fl → Prop} (h : f ρ = some (.nx ρ')) (k : U ρ' K) : wSeq (fW f) U ρ K := ⟨_, h, k⟩
theorem edges_of {n : Nat} {es : List (Int × Int)} (h : (es.all fun e => decide (0 ≤ e.1) && decide (e.1 < n) && decide (0 ≤ e.2) && decide (e.2 < n) && decide (e.1 ≠ e.2)) = true) : EdgesOk n es := fun e he => by
  have := List.all_eq_true.mp h e he
  simp only [Bool.and_eq_true, decide_eq_true_eq] at this
  omega
theorem to_st {U : TSt} {ρ ρ' : Rho} {K : Fl → Prop} (h : ρ = ρ') (k : U ρ' K) : U ρ K := by subst h; exact k
def F0 : Rho → Option Fl := (sPuts [7, 8] 2 (pF (aOf g_everybody (aCons (gV 3) aNil)) (pO (aCons (vTup (aCons (gC (.int 1)) (aCons (gC (.int 1)) aNil))) aNil) pNil)))
def F1 : Rho → Option Fl := (sFor (tgN 9) (aOf gRng2 (aCons (gC (.int 1)) (aCons (gX 2) aNil))) (sSeq (sSet 4 (aOf g__law_times (aCons (gV 4) (aCons (vTup (aCons (gC (.int 1)) (aCons (gV 9) aNil))) aNil))))   (sSeq (sSet 5 (aOf g__law_plus (aCons (gV 5) (aCons (vIf (bB (b2 dEqN (b2 dMod (aOf gInt (aCons (gX 9) aNil)) (gC (.int 2))) (gC (.int 0)))) (gV 4) (vTup (aCons (b2 dSub (gC (.int 0)) (b2 dIxN (gX 4) (gC (.int 0)))) (aCons (b2 dIxN (gX 4) (gC (.int 1))) aNil)))) aNil))))   (sApp 8 (gV 5)))))
def F2 : Rho → Option Fl := (sFor (tgN 10) (fItems (gV 7)) (sSeq (sIf (bB (b2 dNeN (aOf g_stand_chance (aCons (gV 3) (aCons (gV 7) (aCons (gV 10) aNil)))) (b2 dIxN (gX 8) (b2 dSub (b2 dSub (gX 2) (gC (.int 1))) (gX 10))))) (sRet (gC (.bool false))) sNil)   (sSet 6 (aOf g__law_plus (aCons (gV 6) (aCons (b2 dIxN (gX 8) (b2 dSub (b2 dSub (gX 2) (gC (.int 1))) (gX 10))) aNil))))))
def F3 : Rho → Option Fl := (sIf (bOr (bB (b2 dNeN (aOf g_mean_standing (aCons (gV 3) (aCons (gV 7) aNil))) (gX 6))) (bB (b2 dNeN (aOf g_count_ends (aCons (gV 3) (aCons (gV 7) aNil))) (aOf gLen (aCons (aOf g_order_counts (aCons (gV 3) (aCons (gV 7) aNil))) aNil))))) (sRet (gC (.bool false))) sNil)
def F4 : Rho → Option Fl := (sIf (bB (b2 dNeN (fun ρ => ((cLc [15, 16] (tg2 15 16) fYes (gV 15) (fItems (aOf g_order_chances (aCons (gV 3) (aCons (gV 7) aNil))))) ρ).map PyData.list) (aOf g_ends (aCons (gV 3) (aCons (gV 7) aNil))))) (sRet (gC (.bool false))) sNil)
def FF : Rho → Option Fl := (sSeq (sFor (tgN 10) (fItems (gV 11)) (sSeq (sSet 12 (gC (.int 0)))   (sSeq (sFor (tgN 13) (aOf gRng2 (aCons (b2 dAdd (gX 10) (gC (.int 1))) (aCons (gX 2) aNil))) (sSet 12 (vIf (bAnd (bB (b2 dIn (gX 13) (gX 11))) (bB (b2 dEqN (gX 12) (b2 dSub (b2 dSub (gX 13) (gX 10)) (gC (.int 1)))))) (b2 dAdd (gX 12) (gC (.int 1))) (gV 12))))   (sIf (bB (b2 dNeN (aOf g_stand_chance (aCons (gV 3) (aCons (gV 11) (aCons (gV 10) aNil)))) (b2 dIxN (gX 8) (gX 12)))) (sRet (gC (.bool false))) sNil))))   (sRet (gC (.bool true))))
def Tail : TSt := (wSeq (fW F0) (wSeq (fW F1) (wSeq (fW F2) (wSeq (fW F3) (wSeq (fW F4) (wSeq (wSet 11 (wOf gTup (wCons (wLst (wLc [13] (tgN 13) (wB (w2 dGt (wDraw 1 wTaken (wCons (fW (gC (.int 4))) wNil)) (fW (gC (.int 0))))) (fW (gV 13)) (fW (fItems (gV 7))))) wNil))) (fW FF)))))))
def st0_1 (z : D) : Rho := [.v z, .row, .v (.int 1), .v (.tuple [.tuple []]), .v (.tuple [.int 1, .int 1]), .v (.tuple [.int 1, .int 1]), .v (.tuple [.int 0, .int 1]), .no, .no, .no, .no, .no, .no, .no, .no, .no, .no]
def st1_1 (z : D) : Rho := [.v z, .row, .v (.int 1), .v (.tuple [.tuple []]), .v (.tuple [.int 1, .int 1]), .v (.tuple [.int 1, .int 1]), .v (.tuple [.int 0, .int 1]), .v (.tuple [.int 0]), .ol [.tuple [.int 1, .int 1]], .no, .no, .no, .no, .no, .no, .no, .no]
def st2_1 (z : D) : Rho := [.v z, .row, .v (.int 1), .v (.tuple [.tuple []]), .v (.tuple [.int 1, .int 1]), .v (.tuple [.int 1, .int 1]), .v (.tuple [.int 0, .int 1]), .v (.tuple [.int 0]), .ol [.tuple [.int 1, .int 1]], .no, .no, .no, .no, .no, .no, .no, .no]
def st3_1 (z : D) : Rho := [.v z, .row, .v (.int 1), .v (.tuple [.tuple []]), .v (.tuple [.int 1, .int 1]), .v (.tuple [.int 1, .int 1]), .v (.tuple [.int 1, .int 1]), .v (.tuple [.int 0]), .ol [.tuple [.int 1, .int 1]], .no, .v (.int 0), .no, .no, .no, .no, .no, .no]
theorem s0_1 (z : D) : F0 (st0_1 z) = some (.nx (st1_1 z)) := by kernel_rfl
theorem s1_1 (z : D) : F1 (st1_1 z) = some (.nx (st2_1 z)) := by kernel_rfl
theorem s2_1 (z : D) : F2 (st2_1 z) = some (.nx (st3_1 z)) := by kernel_rfl
theorem s3_1 (z : D) : F3 (st3_1 z) = some (.nx (st3_1 z)) := by kernel_rfl
theorem s4_1 (z : D) : F4 (st3_1 z) = some (.nx (st3_1 z)) := by kernel_rfl
def st4_1_0 (z : D) : Rho := [.v z, .row, .v (.int 1), .v (.tuple [.tuple []]), .v (.tuple [.int 1, .int 1]), .v (.tuple [.int 1, .int 1]), .v (.tuple [.int 1, .int 1]), .v (.tuple [.int 0]), .ol [.tuple [.int 1, .int 1]], .no, .v (.int 0), .v (.tuple []), .no, .no, .no, .no, .no]
theorem u1_0 (z : D) : isTru (FF (st4_1_0 z)) = true := by kernel_rfl
def st4_1_1 (z : D) : Rho := [.v z, .row, .v (.int 1), .v (.tuple [.tuple []]), .v (.tuple [.int 1, .int 1]), .v (.tuple [.int 1, .int 1]), .v (.tuple [.int 1, .int 1]), .v (.tuple [.int 0]), .ol [.tuple [.int 1, .int 1]], .no, .v (.int 0), .v (.tuple [.int 0]), .no, .no, .no, .no, .no]
theorem u1_1 (z : D) : isTru (FF (st4_1_1 z)) = true := by kernel_rfl
theorem sub_1 {ys : List Int} (h : ys.Sublist (upI 1)) : ys = [] ∨ ys = [0] := by
  have : ys ∈ ([[], [0]] : List (List Int)) := by
    have e : chM (upI 1) = [[], [0]] := by decide +kernel
    rw [← e]
    exact mem_chM.mpr h
  simpa using this
theorem tail_1 (z : D) (K : Fl → Prop) (hK : K (.rt (.bool true))) : Tail (st0_1 z) K := by
  unfold Tail
  refine k_to (s0_1 z) (k_to (s1_1 z) (k_to (s2_1 z) (k_to (s3_1 z) (k_to (s4_1 z) (?_)))))
  refine ⟨rfl, _, rfl, ?_⟩
  refine lcV_sub (E := .int) (upI 1) [] (fun y hy => ⟨_, rfl, fun K2 hK2 => ?_, fun K2 hK2 => ⟨_, rfl, hK2⟩⟩) fun ys hys => ?_
  · exact ⟨rfl, _, rfl, 4, rfl, by omega, by omega, fun k _ _ => ⟨_, rfl, _, rfl, _, rfl, hK2 _⟩⟩
  refine ⟨_, rfl, ?_⟩
  rcases sub_1 hys with rfl | rfl
  · exact k_end (f := FF) (ρ := st4_1_0 z) (u1_0 z) hK
  · exact k_end (f := FF) (ρ := st4_1_1 z) (u1_1 z) hK
def st0_2 (z : D) : Rho := [.v z, .row, .v (.int 2), .v (.tuple [.tuple [.int 1], .tuple [.int 0]]), .v (.tuple [.int 1, .int 1]), .v (.tuple [.int 1, .int 1]), .v (.tuple [.int 0, .int 1]), .no, .no, .no, .no, .no, .no, .no, .no, .no, .no]
def st1_2 (z : D) : Rho := [.v z, .row, .v (.int 2), .v (.tuple [.tuple [.int 1], .tuple [.int 0]]), .v (.tuple [.int 1, .int 1]), .v (.tuple [.int 1, .int 1]), .v (.tuple [.int 0, .int 1]), .v (.tuple [.int 0, .int 1]), .ol [.tuple [.int 1, .int 1]], .no, .no, .no, .no, .no, .no, .no, .no]
def st2_2 (z : D) : Rho := [.v z, .row, .v (.int 2), .v (.tuple [.tuple [.int 1], .tuple [.int 0]]), .v (.tuple [.int 1, .int 1]), .v (.tuple [.int 0, .int 1]), .v (.tuple [.int 0, .int 1]), .v (.tuple [.int 0, .int 1]), .ol [.tuple [.int 1, .int 1], .tuple [.int 0, .int 1]], .v (.int 1), .no, .no, .no, .no, .no, .no, .no]
def st3_2 (z : D) : Rho := [.v z, .row, .v (.int 2), .v (.tuple [.tuple [.int 1], .tuple [.int 0]]), .v (.tuple [.int 1, .int 1]), .v (.tuple [.int 0, .int 1]), .v (.tuple [.int 1, .int 1]), .v (.tuple [.int 0, .int 1]), .ol [.tuple [.int 1, .int 1], .tuple [.int 0, .int 1]], .v (.int 1), .v (.int 1), .no, .no, .no, .no, .no, .no]
theorem s0_2 (z : D) : F0 (st0_2 z) = some (.nx (st1_2 z)) := by kernel_rfl
theorem s1_2 (z : D) : F1 (st1_2 z) = some (.nx (st2_2 z)) := by kernel_rfl
theorem s2_2 (z : D) : F2 (st2_2 z) = some (.nx (st3_2 z)) := by kernel_rfl
theorem s3_2 (z : D) : F3 (st3_2 z) = some (.nx (st3_2 z)) := by kernel_rfl
theorem s4_2 (z : D) : F4 (st3_2 z) = some (.nx (st3_2 z)) := by kernel_rfl
def st4_2_0 (z : D) : Rho := [.v z, .row, .v (.int 2), .v (.tuple [.tuple [.int 1], .tuple [.int 0]]), .v (.tuple [.int 1, .int 1]), .v (.tuple [.int 0, .int 1]), .v (.tuple [.int 1, .int 1]), .v (.tuple [.int 0, .int 1]), .ol [.tuple [.int 1, .int 1], .tuple [.int 0, .int 1]], .v (.int 1), .v (.int 1), .v (.tuple []), .no, .no, .no, .no, .no]
theorem u2_0 (z : D) : isTru (FF (st4_2_0 z)) = true := by kernel_rfl
def st4_2_1 (z : D) : Rho := [.v z, .row, .v (.int 2), .v (.tuple [.tuple [.int 1], .tuple [.int 0]]), .v (.tuple [.int 1, .int 1]), .v (.tuple [.int 0, .int 1]), .v (.tuple [.int 1, .int 1]), .v (.tuple [.int 0, .int 1]), .ol [.tuple [.int 1, .int 1], .tuple [.int 0, .int 1]], .v (.int 1), .v (.int 1), .v (.tuple [.int 0]), .no, .no, .no, .no, .no]
theorem u2_1 (z : D) : isTru (FF (st4_2_1 z)) = true := by kernel_rfl
def st4_2_2 (z : D) : Rho := [.v z, .row, .v (.int 2), .v (.tuple [.tuple [.int 1], .tuple [.int 0]]), .v (.tuple [.int 1, .int 1]), .v (.tuple [.int 0, .int 1]), .v (.tuple [.int 1, .int 1]), .v (.tuple [.int 0, .int 1]), .ol [.tuple [.int 1, .int 1], .tuple [.int 0, .int 1]], .v (.int 1), .v (.int 1), .v (.tuple [.int 1]), .no, .no, .no, .no, .no]
theorem u2_2 (z : D) : isTru (FF (st4_2_2 z)) = true := by kernel_rfl
def st4_2_3 (z : D) : Rho := [.v z, .row, .v (.int 2), .v (.tuple [.tuple [.int 1], .tuple [.int 0]]), .v (.tuple [.int 1, .int 1]), .v (.tuple [.int 0, .int 1]), .v (.tuple [.int 1, .int 1]), .v (.tuple [.int 0, .int 1]), .ol [.tuple [.int 1, .int 1], .tuple [.int 0, .int 1]], .v (.int 1), .v (.int 1), .v (.tuple [.int 0, .int 1]), .no, .no, .no, .no, .no]
theorem u2_3 (z : D) : isTru (FF (st4_2_3 z)) = true := by kernel_rfl
theorem sub_2 {ys : List Int} (h : ys.Sublist (upI 2)) : ys = [] ∨ ys = [0] ∨ ys = [1] ∨ ys = [0, 1] := by
  have : ys ∈ ([[], [0], [1], [0, 1]] : List (List Int)) := by
    have e : chM (upI 2) = [[], [0], [1], [0, 1]] := by decide +kernel
    rw [← e]
    exact mem_chM.mpr h
  simpa using this
theorem tail_2 (z : D) (K : Fl → Prop) (hK : K (.rt (.bool true))) : Tail (st0_2 z) K := by
  unfold Tail
  refine k_to (s0_2 z) (k_to (s1_2 z) (k_to (s2_2 z) (k_to (s3_2 z) (k_to (s4_2 z) (?_)))))
  refine ⟨rfl, _, rfl, ?_⟩
  refine lcV_sub (E := .int) (upI 2) [] (fun y hy => ⟨_, rfl, fun K2 hK2 => ?_, fun K2 hK2 => ⟨_, rfl, hK2⟩⟩) fun ys hys => ?_
  · exact ⟨rfl, _, rfl, 4, rfl, by omega, by omega, fun k _ _ => ⟨_, rfl, _, rfl, _, rfl, hK2 _⟩⟩
  refine ⟨_, rfl, ?_⟩
  rcases sub_2 hys with rfl | rfl | rfl | rfl
  · exact k_end (f := FF) (ρ := st4_2_0 z) (u2_0 z) hK
  · exact k_end (f := FF) (ρ := st4_2_1 z) (u2_1 z) hK
  · exact k_end (f := FF) (ρ := st4_2_2 z) (u2_2 z) hK
  · exact k_end (f := FF) (ρ := st4_2_3 z) (u2_3 z) hK
def st0_3 (z : D) : Rho := [.v z, .row, .v (.int 3), .v (.tuple [.tuple [.int 1], .tuple [.int 0, .int 2], .tuple [.int 1]]), .v (.tuple [.int 1, .int 1]), .v (.tuple [.int 1, .int 1]), .v (.tuple [.int 0, .int 1]), .no, .no, .no, .no, .no, .no, .no, .no, .no, .no]
def st1_3 (z : D) : Rho := [.v z, .row, .v (.int 3), .v (.tuple [.tuple [.int 1], .tuple [.int 0, .int 2], .tuple [.int 1]]), .v (.tuple [.int 1, .int 1]), .v (.tuple [.int 1, .int 1]), .v (.tuple [.int 0, .int 1]), .v (.tuple [.int 0, .int 1, .int 2]), .ol [.tuple [.int 1, .int 1]], .no, .no, .no, .no, .no, .no, .no, .no]
def st2_3 (z : D) : Rho := [.v z, .row, .v (.int 3), .v (.tuple [.tuple [.int 1], .tuple [.int 0, .int 2], .tuple [.int 1]]), .v (.tuple [.int 1, .int 2]), .v (.tuple [.int 1, .int 2]), .v (.tuple [.int 0, .int 1]), .v (.tuple [.int 0, .int 1, .int 2]), .ol [.tuple [.int 1, .int 1], .tuple [.int 0, .int 1], .tuple [.int 1, .int 2]], .v (.int 2), .no, .no, .no, .no, .no, .no, .no]
def st3_3 (z : D) : Rho := [.v z, .row, .v (.int 3), .v (.tuple [.tuple [.int 1], .tuple [.int 0, .int 2], .tuple [.int 1]]), .v (.tuple [.int 1, .int 2]), .v (.tuple [.int 1, .int 2]), .v (.tuple [.int 3, .int 2]), .v (.tuple [.int 0, .int 1, .int 2]), .ol [.tuple [.int 1, .int 1], .tuple [.int 0, .int 1], .tuple [.int 1, .int 2]], .v (.int 2), .v (.int 2), .no, .no, .no, .no, .no, .no]
theorem s0_3 (z : D) : F0 (st0_3 z) = some (.nx (st1_3 z)) := by kernel_rfl
theorem s1_3 (z : D) : F1 (st1_3 z) = some (.nx (st2_3 z)) := by kernel_rfl
theorem s2_3 (z : D) : F2 (st2_3 z) = some (.nx (st3_3 z)) := by kernel_rfl
theorem s3_3 (z : D) : F3 (st3_3 z) = some (.nx (st3_3 z)) := by kernel_rfl
theorem s4_3 (z : D) : F4 (st3_3 z) = some (.nx (st3_3 z)) := by kernel_rfl
def st4_3_0 (z : D) : Rho := [.v z, .row, .v (.int 3), .v (.tuple [.tuple [.int 1], .tuple [.int 0, .int 2], .tuple [.int 1]]), .v (.tuple [.int 1, .int 2]), .v (.tuple [.int 1, .int 2]), .v (.tuple [.int 3, .int 2]), .v (.tuple [.int 0, .int 1, .int 2]), .ol [.tuple [.int 1, .int 1], .tuple [.int 0, .int 1], .tuple [.int 1, .int 2]], .v (.int 2), .v (.int 2), .v (.tuple []), .no, .no, .no, .no, .no]
theorem u3_0 (z : D) : isTru (FF (st4_3_0 z)) = true := by kernel_rfl
def st4_3_1 (z : D) : Rho := [.v z, .row, .v (.int 3), .v (.tuple [.tuple [.int 1], .tuple [.int 0, .int 2], .tuple [.int 1]]), .v (.tuple [.int 1, .int 2]), .v (.tuple [.int 1, .int 2]), .v (.tuple [.int 3, .int 2]), .v (.tuple [.int 0, .int 1, .int 2]), .ol [.tuple [.int 1, .int 1], .tuple [.int 0, .int 1], .tuple [.int 1, .int 2]], .v (.int 2), .v (.int 2), .v (.tuple [.int 0]), .no, .no, .no, .no, .no]
theorem u3_1 (z : D) : isTru (FF (st4_3_1 z)) = true := by kernel_rfl
def st4_3_2 (z : D) : Rho := [.v z, .row, .v (.int 3), .v (.tuple [.tuple [.int 1], .tuple [.int 0, .int 2], .tuple [.int 1]]), .v (.tuple [.int 1, .int 2]), .v (.tuple [.int 1, .int 2]), .v (.tuple [.int 3, .int 2]), .v (.tuple [.int 0, .int 1, .int 2]), .ol [.tuple [.int 1, .int 1], .tuple [.int 0, .int 1], .tuple [.int 1, .int 2]], .v (.int 2), .v (.int 2), .v (.tuple [.int 1]), .no, .no, .no, .no, .no]
theorem u3_2 (z : D) : isTru (FF (st4_3_2 z)) = true := by kernel_rfl
def st4_3_3 (z : D) : Rho := [.v z, .row, .v (.int 3), .v (.tuple [.tuple [.int 1], .tuple [.int 0, .int 2], .tuple [.int 1]]), .v (.tuple [.int 1, .int 2]), .v (.tuple [.int 1, .int 2]), .v (.tuple [.int 3, .int 2]), .v (.tuple [.int 0, .int 1, .int 2]), .ol [.tuple [.int 1, .int 1], .tuple [.int 0, .int 1], .tuple [.int 1, .int 2]], .v (.int 2), .v (.int 2), .v (.tuple [.int 0, .int 1]), .no, .no, .no, .no, .no]
theorem u3_3 (z : D) : isTru (FF (st4_3_3 z)) = true := by kernel_rfl
def st4_3_4 (z : D) : Rho := [.v z, .row, .v (.int 3), .v (.tuple [.tuple [.int 1], .tuple [.int 0, .int 2], .tuple [.int 1]]), .v (.tuple [.int 1, .int 2]), .v (.tuple [.int 1, .int 2]), .v (.tuple [.int 3, .int 2]), .v (.tuple [.int 0, .int 1, .int 2]), .ol [.tuple [.int 1, .int 1], .tuple [.int 0, .int 1], .tuple [.int 1, .int 2]], .v (.int 2), .v (.int 2), .v (.tuple [.int 2]), .no, .no, .no, .no, .no]
theorem u3_4 (z : D) : isTru (FF (st4_3_4 z)) = true := by kernel_rfl
def st4_3_5 (z : D) : Rho := [.v z, .row, .v (.int 3), .v (.tuple [.tuple [.int 1], .tuple [.int 0, .int 2], .tuple [.int 1]]), .v (.tuple [.int 1, .int 2]), .v (.tuple [.int 1, .int 2]), .v (.tuple [.int 3, .int 2]), .v (.tuple [.int 0, .int 1, .int 2]), .ol [.tuple [.int 1, .int 1], .tuple [.int 0, .int 1], .tuple [.int 1, .int 2]], .v (.int 2), .v (.int 2), .v (.tuple [.int 0, .int 2]), .no, .no, .no, .no, .no]
theorem u3_5 (z : D) : isTru (FF (st4_3_5 z)) = true := by kernel_rfl
def st4_3_6 (z : D) : Rho := [.v z, .row, .v (.int 3), .v (.tuple [.tuple [.int 1], .tuple [.int 0, .int 2], .tuple [.int 1]]), .v (.tuple [.int 1, .int 2]), .v (.tuple [.int 1, .int 2]), .v (.tuple [.int 3, .int 2]), .v (.tuple [.int 0, .int 1, .int 2]), .ol [.tuple [.int 1, .int 1], .tuple [.int 0, .int 1], .tuple [.int 1, .int 2]], .v (.int 2), .v (.int 2), .v (.tuple [.int 1, .int 2]), .no, .no, .no, .no, .no]
theorem u3_6 (z : D) : isTru (FF (st4_3_6 z)) = true := by kernel_rfl
def st4_3_7 (z : D) : Rho := [.v z, .row, .v (.int 3), .v (.tuple [.tuple [.int 1], .tuple [.int 0, .int 2], .tuple [.int 1]]), .v (.tuple [.int 1, .int 2]), .v (.tuple [.int 1, .int 2]), .v (.tuple [.int 3, .int 2]), .v (.tuple [.int 0, .int 1, .int 2]), .ol [.tuple [.int 1, .int 1], .tuple [.int 0, .int 1], .tuple [.int 1, .int 2]], .v (.int 2), .v (.int 2), .v (.tuple [.int 0, .int 1, .int 2]), .no, .no, .no, .no, .no]
theorem u3_7 (z : D) : isTru (FF (st4_3_7 z)) = true := by kernel_rfl
theorem sub_3 {ys : List Int} (h : ys.Sublist (upI 3)) : ys = [] ∨ ys = [0] ∨ ys = [1] ∨ ys = [0, 1] ∨ ys = [2] ∨ ys = [0, 2] ∨ ys = [1, 2] ∨ ys = [0, 1, 2] := by
  have : ys ∈ ([[], [0], [1], [0, 1], [2], [0, 2], [1, 2], [0, 1, 2]] : List (List Int)) := by
    have e : chM (upI 3) = [[], [0], [1], [0, 1], [2], [0, 2], [1, 2], [0, 1, 2]] := by decide +kernel
    rw [← e]
    exact mem_chM.mpr h
  simpa using this
theorem tail_3 (z : D) (K : Fl → Prop) (hK : K (.rt (.bool true))) : Tail (st0_3 z) K := by
  unfold Tail
  refine k_to (s0_3 z) (k_to (s1_3 z) (k_to (s2_3 z) (k_to (s3_3 z) (k_to (s4_3 z) (?_)))))
  refine ⟨rfl, _, rfl, ?_⟩
  refine lcV_sub (E := .int) (upI 3) [] (fun y hy => ⟨_, rfl, fun K2 hK2 => ?_, fun K2 hK2 => ⟨_, rfl, hK2⟩⟩) fun ys hys => ?_
  · exact ⟨rfl, _, rfl, 4, rfl, by omega, by omega, fun k _ _ => ⟨_, rfl, _, rfl, _, rfl, hK2 _⟩⟩
  refine ⟨_, rfl, ?_⟩
  rcases sub_3 hys with rfl | rfl | rfl | rfl | rfl | rfl | rfl | rfl
  · exact k_end (f := FF) (ρ := st4_3_0 z) (u3_0 z) hK
  · exact k_end (f := FF) (ρ := st4_3_1 z) (u3_1 z) hK
  · exact k_end (f := FF) (ρ := st4_3_2 z) (u3_2 z) hK
  · exact k_end (f := FF) (ρ := st4_3_3 z) (u3_3 z) hK
  · exact k_end (f := FF) (ρ := st4_3_4 z) (u3_4 z) hK
  · exact k_end (f := FF) (ρ := st4_3_5 z) (u3_5 z) hK
  · exact k_end (f := FF) (ρ := st4_3_6 z) (u3_6 z) hK
  · exact k_end (f := FF) (ρ := st4_3_7 z) (u3_7 z) hK
def st0_4 (z : D) : Rho := [.v z, .row, .v (.int 4), .v (.tuple [.tuple [.int 1], .tuple [.int 0, .int 2], .tuple [.int 1, .int 3], .tuple [.int 2]]), .v (.tuple [.int 1, .int 1]), .v (.tuple [.int 1, .int 1]), .v (.tuple [.int 0, .int 1]), .no, .no, .no, .no, .no, .no, .no, .no, .no, .no]
def st1_4 (z : D) : Rho := [.v z, .row, .v (.int 4), .v (.tuple [.tuple [.int 1], .tuple [.int 0, .int 2], .tuple [.int 1, .int 3], .tuple [.int 2]]), .v (.tuple [.int 1, .int 1]), .v (.tuple [.int 1, .int 1]), .v (.tuple [.int 0, .int 1]), .v (.tuple [.int 0, .int 1, .int 2, .int 3]), .ol [.tuple [.int 1, .int 1]], .no, .no, .no, .no, .no, .no, .no, .no]
def st2_4 (z : D) : Rho := [.v z, .row, .v (.int 4), .v (.tuple [.tuple [.int 1], .tuple [.int 0, .int 2], .tuple [.int 1, .int 3], .tuple [.int 2]]), .v (.tuple [.int 1, .int 6]), .v (.tuple [.int 1, .int 3]), .v (.tuple [.int 0, .int 1]), .v (.tuple [.int 0, .int 1, .int 2, .int 3]), .ol [.tuple [.int 1, .int 1], .tuple [.int 0, .int 1], .tuple [.int 1, .int 2], .tuple [.int 1, .int 3]], .v (.int 3), .no, .no, .no, .no, .no, .no, .no]
def st3_4 (z : D) : Rho := [.v z, .row, .v (.int 4), .v (.tuple [.tuple [.int 1], .tuple [.int 0, .int 2], .tuple [.int 1, .int 3], .tuple [.int 2]]), .v (.tuple [.int 1, .int 6]), .v (.tuple [.int 1, .int 3]), .v (.tuple [.int 11, .int 6]), .v (.tuple [.int 0, .int 1, .int 2, .int 3]), .ol [.tuple [.int 1, .int 1], .tuple [.int 0, .int 1], .tuple [.int 1, .int 2], .tuple [.int 1, .int 3]], .v (.int 3), .v (.int 3), .no, .no, .no, .no, .no, .no]
theorem s0_4 (z : D) : F0 (st0_4 z) = some (.nx (st1_4 z)) := by kernel_rfl
theorem s1_4 (z : D) : F1 (st1_4 z) = some (.nx (st2_4 z)) := by kernel_rfl
theorem s2_4 (z : D) : F2 (st2_4 z) = some (.nx (st3_4 z)) := by kernel_rfl
theorem s3_4 (z : D) : F3 (st3_4 z) = some (.nx (st3_4 z)) := by kernel_rfl
theorem s4_4 (z : D) : F4 (st3_4 z) = some (.nx (st3_4 z)) := by kernel_rfl
def st4_4_0 (z : D) : Rho := [.v z, .row, .v (.int 4), .v (.tuple [.tuple [.int 1], .tuple [.int 0, .int 2], .tuple [.int 1, .int 3], .tuple [.int 2]]), .v (.tuple [.int 1, .int 6]), .v (.tuple [.int 1, .int 3]), .v (.tuple [.int 11, .int 6]), .v (.tuple [.int 0, .int 1, .int 2, .int 3]), .ol [.tuple [.int 1, .int 1], .tuple [.int 0, .int 1], .tuple [.int 1, .int 2], .tuple [.int 1, .int 3]], .v (.int 3), .v (.int 3), .v (.tuple []), .no, .no, .no, .no, .no]
theorem u4_0 (z : D) : isTru (FF (st4_4_0 z)) = true := by kernel_rfl
def st4_4_1 (z : D) : Rho := [.v z, .row, .v (.int 4), .v (.tuple [.tuple [.int 1], .tuple [.int 0, .int 2], .tuple [.int 1, .int 3], .tuple [.int 2]]), .v (.tuple [.int 1, .int 6]), .v (.tuple [.int 1, .int 3]), .v (.tuple [.int 11, .int 6]), .v (.tuple [.int 0, .int 1, .int 2, .int 3]), .ol [.tuple [.int 1, .int 1], .tuple [.int 0, .int 1], .tuple [.int 1, .int 2], .tuple [.int 1, .int 3]], .v (.int 3), .v (.int 3), .v (.tuple [.int 0]), .no, .no, .no, .no, .no]
theorem u4_1 (z : D) : isTru (FF (st4_4_1 z)) = true := by kernel_rfl
def st4_4_2 (z : D) : Rho := [.v z, .row, .v (.int 4), .v (.tuple [.tuple [.int 1], .tuple [.int 0, .int 2], .tuple [.int 1, .int 3], .tuple [.int 2]]), .v (.tuple [.int 1, .int 6]), .v (.tuple [.int 1, .int 3]), .v (.tuple [.int 11, .int 6]), .v (.tuple [.int 0, .int 1, .int 2, .int 3]), .ol [.tuple [.int 1, .int 1], .tuple [.int 0, .int 1], .tuple [.int 1, .int 2], .tuple [.int 1, .int 3]], .v (.int 3), .v (.int 3), .v (.tuple [.int 1]), .no, .no, .no, .no, .no]
theorem u4_2 (z : D) : isTru (FF (st4_4_2 z)) = true := by kernel_rfl
def st4_4_3 (z : D) : Rho := [.v z, .row, .v (.int 4), .v (.tuple [.tuple [.int 1], .tuple [.int 0, .int 2], .tuple [.int 1, .int 3], .tuple [.int 2]]), .v (.tuple [.int 1, .int 6]), .v (.tuple [.int 1, .int 3]), .v (.tuple [.int 11, .int 6]), .v (.tuple [.int 0, .int 1, .int 2, .int 3]), .ol [.tuple [.int 1, .int 1], .tuple [.int 0, .int 1], .tuple [.int 1, .int 2], .tuple [.int 1, .int 3]], .v (.int 3), .v (.int 3), .v (.tuple [.int 0, .int 1]), .no, .no, .no, .no, .no]
theorem u4_3 (z : D) : isTru (FF (st4_4_3 z)) = true := by kernel_rfl
def st4_4_4 (z : D) : Rho := [.v z, .row, .v (.int 4), .v (.tuple [.tuple [.int 1], .tuple [.int 0, .int 2], .tuple [.int 1, .int 3], .tuple [.int 2]]), .v (.tuple [.int 1, .int 6]), .v (.tuple [.int 1, .int 3]), .v (.tuple [.int 11, .int 6]), .v (.tuple [.int 0, .int 1, .int 2, .int 3]), .ol [.tuple [.int 1, .int 1], .tuple [.int 0, .int 1], .tuple [.int 1, .int 2], .tuple [.int 1, .int 3]], .v (.int 3), .v (.int 3), .v (.tuple [.int 2]), .no, .no, .no, .no, .no]
theorem u4_4 (z : D) : isTru (FF (st4_4_4 z)) = true := by kernel_rfl
def st4_4_5 (z : D) : Rho := [.v z, .row, .v (.int 4), .v (.tuple [.tuple [.int 1], .tuple [.int 0, .int 2], .tuple [.int 1, .int 3], .tuple [.int 2]]), .v (.tuple [.int 1, .int 6]), .v (.tuple [.int 1, .int 3]), .v (.tuple [.int 11, .int 6]), .v (.tuple [.int 0, .int 1, .int 2, .int 3]), .ol [.tuple [.int 1, .int 1], .tuple [.int 0, .int 1], .tuple [.int 1, .int 2], .tuple [.int 1, .int 3]], .v (.int 3), .v (.int 3), .v (.tuple [.int 0, .int 2]), .no, .no, .no, .no, .no]
theorem u4_5 (z : D) : isTru (FF (st4_4_5 z)) = true := by kernel_rfl
def st4_4_6 (z : D) : Rho := [.v z, .row, .v (.int 4), .v (.tuple [.tuple [.int 1], .tuple [.int 0, .int 2], .tuple [.int 1, .int 3], .tuple [.int 2]]), .v (.tuple [.int 1, .int 6]), .v (.tuple [.int 1, .int 3]), .v (.tuple [.int 11, .int 6]), .v (.tuple [.int 0, .int 1, .int 2, .int 3]), .ol [.tuple [.int 1, .int 1], .tuple [.int 0, .int 1], .tuple [.int 1, .int 2], .tuple [.int 1, .int 3]], .v (.int 3), .v (.int 3), .v (.tuple [.int 1, .int 2]), .no, .no, .no, .no, .no]
theorem u4_6 (z : D) : isTru (FF (st4_4_6 z)) = true := by kernel_rfl
def st4_4_7 (z : D) : Rho := [.v z, .row, .v (.int 4), .v (.tuple [.tuple [.int 1], .tuple [.int 0, .int 2], .tuple [.int 1, .int 3], .tuple [.int 2]]), .v (.tuple [.int 1, .int 6]), .v (.tuple [.int 1, .int 3]), .v (.tuple [.int 11, .int 6]), .v (.tuple [.int 0, .int 1, .int 2, .int 3]), .ol [.tuple [.int 1, .int 1], .tuple [.int 0, .int 1], .tuple [.int 1, .int 2], .tuple [.int 1, .int 3]], .v (.int 3), .v (.int 3), .v (.tuple [.int 0, .int 1, .int 2]), .no, .no, .no, .no, .no]
theorem u4_7 (z : D) : isTru (FF (st4_4_7 z)) = true := by kernel_rfl
def st4_4_8 (z : D) : Rho := [.v z, .row, .v (.int 4), .v (.tuple [.tuple [.int 1], .tuple [.int 0, .int 2], .tuple [.int 1, .int 3], .tuple [.int 2]]), .v (.tuple [.int 1, .int 6]), .v (.tuple [.int 1, .int 3]), .v (.tuple [.int 11, .int 6]), .v (.tuple [.int 0, .int 1, .int 2, .int 3]), .ol [.tuple [.int 1, .int 1], .tuple [.int 0, .int 1], .tuple [.int 1, .int 2], .tuple [.int 1, .int 3]], .v (.int 3), .v (.int 3), .v (.tuple [.int 3]), .no, .no, .no, .no, .no]
theorem u4_8 (z : D) : isTru (FF (st4_4_8 z)) = true := by kernel_rfl
def st4_4_9 (z : D) : Rho := [.v z, .row, .v (.int 4), .v (.tuple [.tuple [.int 1], .tuple [.int 0, .int 2], .tuple [.int 1, .int 3], .tuple [.int 2]]), .v (.tuple [.int 1, .int 6]), .v (.tuple [.int 1, .int 3]), .v (.tuple [.int 11, .int 6]), .v (.tuple [.int 0, .int 1, .int 2, .int 3]), .ol [.tuple [.int 1, .int 1], .tuple [.int 0, .int 1], .tuple [.int 1, .int 2], .tuple [.int 1, .int 3]], .v (.int 3), .v (.int 3), .v (.tuple [.int 0, .int 3]), .no, .no, .no, .no, .no]
theorem u4_9 (z : D) : isTru (FF (st4_4_9 z)) = true := by kernel_rfl
def st4_4_10 (z : D) : Rho := [.v z, .row, .v (.int 4), .v (.tuple [.tuple [.int 1], .tuple [.int 0, .int 2], .tuple [.int 1, .int 3], .tuple [.int 2]]), .v (.tuple [.int 1, .int 6]), .v (.tuple [.int 1, .int 3]), .v (.tuple [.int 11, .int 6]), .v (.tuple [.int 0, .int 1, .int 2, .int 3]), .ol [.tuple [.int 1, .int 1], .tuple [.int 0, .int 1], .tuple [.int 1, .int 2], .tuple [.int 1, .int 3]], .v (.int 3), .v (.int 3), .v (.tuple [.int 1, .int 3]), .no, .no, .no, .no, .no]
theorem u4_10 (z : D) : isTru (FF (st4_4_10 z)) = true := by kernel_rfl
def st4_4_11 (z : D) : Rho := [.v z, .row, .v (.int 4), .v (.tuple [.tuple [.int 1], .tuple [.int 0, .int 2], .tuple [.int 1, .int 3], .tuple [.int 2]]), .v (.tuple [.int 1, .int 6]), .v (.tuple [.int 1, .int 3]), .v (.tuple [.int 11, .int 6]), .v (.tuple [.int 0, .int 1, .int 2, .int 3]), .ol [.tuple [.int 1, .int 1], .tuple [.int 0, .int 1], .tuple [.int 1, .int 2], .tuple [.int 1, .int 3]], .v (.int 3), .v (.int 3), .v (.tuple [.int 0, .int 1, .int 3]), .no, .no, .no, .no, .no]
theorem u4_11 (z : D) : isTru (FF (st4_4_11 z)) = true := by kernel_rfl
def st4_4_12 (z : D) : Rho := [.v z, .row, .v (.int 4), .v (.tuple [.tuple [.int 1], .tuple [.int 0, .int 2], .tuple [.int 1, .int 3], .tuple [.int 2]]), .v (.tuple [.int 1, .int 6]), .v (.tuple [.int 1, .int 3]), .v (.tuple [.int 11, .int 6]), .v (.tuple [.int 0, .int 1, .int 2, .int 3]), .ol [.tuple [.int 1, .int 1], .tuple [.int 0, .int 1], .tuple [.int 1, .int 2], .tuple [.int 1, .int 3]], .v (.int 3), .v (.int 3), .v (.tuple [.int 2, .int 3]), .no, .no, .no, .no, .no]
theorem u4_12 (z : D) : isTru (FF (st4_4_12 z)) = true := by kernel_rfl
def st4_4_13 (z : D) : Rho := [.v z, .row, .v (.int 4), .v (.tuple [.tuple [.int 1], .tuple [.int 0, .int 2], .tuple [.int 1, .int 3], .tuple [.int 2]]), .v (.tuple [.int 1, .int 6]), .v (.tuple [.int 1, .int 3]), .v (.tuple [.int 11, .int 6]), .v (.tuple [.int 0, .int 1, .int 2, .int 3]), .ol [.tuple [.int 1, .int 1], .tuple [.int 0, .int 1], .tuple [.int 1, .int 2], .tuple [.int 1, .int 3]], .v (.int 3), .v (.int 3), .v (.tuple [.int 0, .int 2, .int 3]), .no, .no, .no, .no, .no]
theorem u4_13 (z : D) : isTru (FF (st4_4_13 z)) = true := by kernel_rfl
def st4_4_14 (z : D) : Rho := [.v z, .row, .v (.int 4), .v (.tuple [.tuple [.int 1], .tuple [.int 0, .int 2], .tuple [.int 1, .int 3], .tuple [.int 2]]), .v (.tuple [.int 1, .int 6]), .v (.tuple [.int 1, .int 3]), .v (.tuple [.int 11, .int 6]), .v (.tuple [.int 0, .int 1, .int 2, .int 3]), .ol [.tuple [.int 1, .int 1], .tuple [.int 0, .int 1], .tuple [.int 1, .int 2], .tuple [.int 1, .int 3]], .v (.int 3), .v (.int 3), .v (.tuple [.int 1, .int 2, .int 3]), .no, .no, .no, .no, .no]
theorem u4_14 (z : D) : isTru (FF (st4_4_14 z)) = true := by kernel_rfl
def st4_4_15 (z : D) : Rho := [.v z, .row, .v (.int 4), .v (.tuple [.tuple [.int 1], .tuple [.int 0, .int 2], .tuple [.int 1, .int 3], .tuple [.int 2]]), .v (.tuple [.int 1, .int 6]), .v (.tuple [.int 1, .int 3]), .v (.tuple [.int 11, .int 6]), .v (.tuple [.int 0, .int 1, .int 2, .int 3]), .ol [.tuple [.int 1, .int 1], .tuple [.int 0, .int 1], .tuple [.int 1, .int 2], .tuple [.int 1, .int 3]], .v (.int 3), .v (.int 3), .v (.tuple [.int 0, .int 1, .int 2, .int 3]), .no, .no, .no, .no, .no]
theorem u4_15 (z : D) : isTru (FF (st4_4_15 z)) = true := by kernel_rfl
theorem sub_4 {ys : List Int} (h : ys.Sublist (upI 4)) : ys = [] ∨ ys = [0] ∨ ys = [1] ∨ ys = [0, 1] ∨ ys = [2] ∨ ys = [0, 2] ∨ ys = [1, 2] ∨ ys = [0, 1, 2] ∨ ys = [3] ∨ ys = [0, 3] ∨ ys = [1, 3] ∨ ys = [0, 1, 3] ∨ ys = [2, 3] ∨ ys = [0, 2, 3] ∨ ys = [1, 2, 3] ∨ ys = [0, 1, 2, 3] := by
  have : ys ∈ ([[], [0], [1], [0, 1], [2], [0, 2], [1, 2], [0, 1, 2], [3], [0, 3], [1, 3], [0, 1, 3], [2, 3], [0, 2, 3], [1, 2, 3], [0, 1, 2, 3]] : List (List Int)) := by
    have e : chM (upI 4) = [[], [0], [1], [0, 1], [2], [0, 2], [1, 2], [0, 1, 2], [3], [0, 3], [1, 3], [0, 1, 3], [2, 3], [0, 2, 3], [1, 2, 3], [0, 1, 2, 3]] := by decide +kernel
    rw [← e]
    exact mem_chM.mpr h
  simpa using this
theorem tail_4 (z : D) (K : Fl → Prop) (hK : K (.rt (.bool true))) : Tail (st0_4 z) K := by
  unfold Tail
  refine k_to (s0_4 z) (k_to (s1_4 z) (k_to (s2_4 z) (k_to (s3_4 z) (k_to (s4_4 z) (?_)))))
  refine ⟨rfl, _, rfl, ?_⟩
  refine lcV_sub (E := .int) (upI 4) [] (fun y hy => ⟨_, rfl, fun K2 hK2 => ?_, fun K2 hK2 => ⟨_, rfl, hK2⟩⟩) fun ys hys => ?_
  · exact ⟨rfl, _, rfl, 4, rfl, by omega, by omega, fun k _ _ => ⟨_, rfl, _, rfl, _, rfl, hK2 _⟩⟩
  refine ⟨_, rfl, ?_⟩
  rcases sub_4 hys with rfl | rfl | rfl | rfl | rfl | rfl | rfl | rfl | rfl | rfl | rfl | rfl | rfl | rfl | rfl | rfl
  · exact k_end (f := FF) (ρ := st4_4_0 z) (u4_0 z) hK
  · exact k_end (f := FF) (ρ := st4_4_1 z) (u4_1 z) hK
  · exact k_end (f := FF) (ρ := st4_4_2 z) (u4_2 z) hK
  · exact k_end (f := FF) (ρ := st4_4_3 z) (u4_3 z) hK
  · exact k_end (f := FF) (ρ := st4_4_4 z) (u4_4 z) hK
  · exact k_end (f := FF) (ρ := st4_4_5 z) (u4_5 z) hK
  · exact k_end (f := FF) (ρ := st4_4_6 z) (u4_6 z) hK
  · exact k_end (f := FF) (ρ := st4_4_7 z) (u4_7 z) hK
  · exact k_end (f := FF) (ρ := st4_4_8 z) (u4_8 z) hK
  · exact k_end (f := FF) (ρ := st4_4_9 z) (u4_9 z) hK
  · exact k_end (f := FF) (ρ := st4_4_10 z) (u4_10 z) hK
  · exact k_end (f := FF) (ρ := st4_4_11 z) (u4_11 z) hK
  · exact k_end (f := FF) (ρ := st4_4_12 z) (u4_12 z) hK
  · exact k_end (f := FF) (ρ := st4_4_13 z) (u4_13 z) hK
  · exact k_end (f := FF) (ρ := st4_4_14 z) (u4_14 z) hK
  · exact k_end (f := FF) (ρ := st4_4_15 z) (u4_15 z) hK
def st0_5 (z : D) : Rho := [.v z, .row, .v (.int 5), .v (.tuple [.tuple [.int 1], .tuple [.int 0, .int 2], .tuple [.int 1, .int 3], .tuple [.int 2, .int 4], .tuple [.int 3]]), .v (.tuple [.int 1, .int 1]), .v (.tuple [.int 1, .int 1]), .v (.tuple [.int 0, .int 1]), .no, .no, .no, .no, .no, .no, .no, .no, .no, .no]
def st1_5 (z : D) : Rho := [.v z, .row, .v (.int 5), .v (.tuple [.tuple [.int 1], .tuple [.int 0, .int 2], .tuple [.int 1, .int 3], .tuple [.int 2, .int 4], .tuple [.int 3]]), .v (.tuple [.int 1, .int 1]), .v (.tuple [.int 1, .int 1]), .v (.tuple [.int 0, .int 1]), .v (.tuple [.int 0, .int 1, .int 2, .int 3, .int 4]), .ol [.tuple [.int 1, .int 1]], .no, .no, .no, .no, .no, .no, .no, .no]
def st2_5 (z : D) : Rho := [.v z, .row, .v (.int 5), .v (.tuple [.tuple [.int 1], .tuple [.int 0, .int 2], .tuple [.int 1, .int 3], .tuple [.int 2, .int 4], .tuple [.int 3]]), .v (.tuple [.int 1, .int 24]), .v (.tuple [.int 3, .int 8]), .v (.tuple [.int 0, .int 1]), .v (.tuple [.int 0, .int 1, .int 2, .int 3, .int 4]), .ol [.tuple [.int 1, .int 1], .tuple [.int 0, .int 1], .tuple [.int 1, .int 2], .tuple [.int 1, .int 3], .tuple [.int 3, .int 8]], .v (.int 4), .no, .no, .no, .no, .no, .no, .no]
def st3_5 (z : D) : Rho := [.v z, .row, .v (.int 5), .v (.tuple [.tuple [.int 1], .tuple [.int 0, .int 2], .tuple [.int 1, .int 3], .tuple [.int 2, .int 4], .tuple [.int 3]]), .v (.tuple [.int 1, .int 24]), .v (.tuple [.int 3, .int 8]), .v (.tuple [.int 53, .int 24]), .v (.tuple [.int 0, .int 1, .int 2, .int 3, .int 4]), .ol [.tuple [.int 1, .int 1], .tuple [.int 0, .int 1], .tuple [.int 1, .int 2], .tuple [.int 1, .int 3], .tuple [.int 3, .int 8]], .v (.int 4), .v (.int 4), .no, .no, .no, .no, .no, .no]
theorem s0_5 (z : D) : F0 (st0_5 z) = some (.nx (st1_5 z)) := by kernel_rfl
theorem s1_5 (z : D) : F1 (st1_5 z) = some (.nx (st2_5 z)) := by kernel_rfl
theorem s2_5 (z : D) : F2 (st2_5 z) = some (.nx (st3_5 z)) := by kernel_rfl
theorem s3_5 (z : D) : F3 (st3_5 z) = some (.nx (st3_5 z)) := by kernel_rfl
theorem s4_5 (z : D) : F4 (st3_5 z) = some (.nx (st3_5 z)) := by kernel_rfl
def st4_5_0 (z : D) : Rho := [.v z, .row, .v (.int 5), .v (.tuple [.tuple [.int 1], .tuple [.int 0, .int 2], .tuple [.int 1, .int 3], .tuple [.int 2, .int 4], .tuple [.int 3]]), .v (.tuple [.int 1, .int 24]), .v (.tuple [.int 3, .int 8]), .v (.tuple [.int 53, .int 24]), .v (.tuple [.int 0, .int 1, .int 2, .int 3, .int 4]), .ol [.tuple [.int 1, .int 1], .tuple [.int 0, .int 1], .tuple [.int 1, .int 2], .tuple [.int 1, .int 3], .tuple [.int 3, .int 8]], .v (.int 4), .v (.int 4), .v (.tuple []), .no, .no, .no, .no, .no]
theorem u5_0 (z : D) : isTru (FF (st4_5_0 z)) = true := by kernel_rfl
def st4_5_1 (z : D) : Rho := [.v z, .row, .v (.int 5), .v (.tuple [.tuple [.int 1], .tuple [.int 0, .int 2], .tuple [.int 1, .int 3], .tuple [.int 2, .int 4], .tuple [.int 3]]), .v (.tuple [.int 1, .int 24]), .v (.tuple [.int 3, .int 8]), .v (.tuple [.int 53, .int 24]), .v (.tuple [.int 0, .int 1, .int 2, .int 3, .int 4]), .ol [.tuple [.int 1, .int 1], .tuple [.int 0, .int 1], .tuple [.int 1, .int 2], .tuple [.int 1, .int 3], .tuple [.int 3, .int 8]], .v (.int 4), .v (.int 4), .v (.tuple [.int 0]), .no, .no, .no, .no, .no]
theorem u5_1 (z : D) : isTru (FF (st4_5_1 z)) = true := by kernel_rfl
def st4_5_2 (z : D) : Rho := [.v z, .row, .v (.int 5), .v (.tuple [.tuple [.int 1], .tuple [.int 0, .int 2], .tuple [.int 1, .int 3], .tuple [.int 2, .int 4], .tuple [.int 3]]), .v (.tuple [.int 1, .int 24]), .v (.tuple [.int 3, .int 8]), .v (.tuple [.int 53, .int 24]), .v (.tuple [.int 0, .int 1, .int 2, .int 3, .int 4]), .ol [.tuple [.int 1, .int 1], .tuple [.int 0, .int 1], .tuple [.int 1, .int 2], .tuple [.int 1, .int 3], .tuple [.int 3, .int 8]], .v (.int 4), .v (.int 4), .v (.tuple [.int 1]), .no, .no, .no, .no, .no]
theorem u5_2 (z : D) : isTru (FF (st4_5_2 z)) = true := by kernel_rfl
def st4_5_3 (z : D) : Rho := [.v z, .row, .v (.int 5), .v (.tuple [.tuple [.int 1], .tuple [.int 0, .int 2], .tuple [.int 1, .int 3], .tuple [.int 2, .int 4], .tuple [.int 3]]), .v (.tuple [.int 1, .int 24]), .v (.tuple [.int 3, .int 8]), .v (.tuple [.int 53, .int 24]), .v (.tuple [.int 0, .int 1, .int 2, .int 3, .int 4]), .ol [.tuple [.int 1, .int 1], .tuple [.int 0, .int 1], .tuple [.int 1, .int 2], .tuple [.int 1, .int 3], .tuple [.int 3, .int 8]], .v (.int 4), .v (.int 4), .v (.tuple [.int 0, .int 1]), .no, .no, .no, .no, .no]
theorem u5_3 (z : D) : isTru (FF (st4_5_3 z)) = true := by kernel_rfl
def st4_5_4 (z : D) : Rho := [.v z, .row, .v (.int 5), .v (.tuple [.tuple [.int 1], .tuple [.int 0, .int 2], .tuple [.int 1, .int 3], .tuple [.int 2, .int 4], .tuple [.int 3]]), .v (.tuple [.int 1, .int 24]), .v (.tuple [.int 3, .int 8]), .v (.tuple [.int 53, .int 24]), .v (.tuple [.int 0, .int 1, .int 2, .int 3, .int 4]), .ol [.tuple [.int 1, .int 1], .tuple [.int 0, .int 1], .tuple [.int 1, .int 2], .tuple [.int 1, .int 3], .tuple [.int 3, .int 8]], .v (.int 4), .v (.int 4), .v (.tuple [.int 2]), .no, .no, .no, .no, .no]
theorem u5_4 (z : D) : isTru (FF (st4_5_4 z)) = true := by kernel_rfl
def st4_5_5 (z : D) : Rho := [.v z, .row, .v (.int 5), .v (.tuple [.tuple [.int 1], .tuple [.int 0, .int 2], .tuple [.int 1, .int 3], .tuple [.int 2, .int 4], .tuple [.int 3]]), .v (.tuple [.int 1, .int 24]), .v (.tuple [.int 3, .int 8]), .v (.tuple [.int 53, .int 24]), .v (.tuple [.int 0, .int 1, .int 2, .int 3, .int 4]), .ol [.tuple [.int 1, .int 1], .tuple [.int 0, .int 1], .tuple [.int 1, .int 2], .tuple [.int 1, .int 3], .tuple [.int 3, .int 8]], .v (.int 4), .v (.int 4), .v (.tuple [.int 0, .int 2]), .no, .no, .no, .no, .no]
theorem u5_5 (z : D) : isTru (FF (st4_5_5 z)) = true := by kernel_rfl
def st4_5_6 (z : D) : Rho := [.v z, .row, .v (.int 5), .v (.tuple [.tuple [.int 1], .tuple [.int 0, .int 2], .tuple [.int 1, .int 3], .tuple [.int 2, .int 4], .tuple [.int 3]]), .v (.tuple [.int 1, .int 24]), .v (.tuple [.int 3, .int 8]), .v (.tuple [.int 53, .int 24]), .v (.tuple [.int 0, .int 1, .int 2, .int 3, .int 4]), .ol [.tuple [.int 1, .int 1], .tuple [.int 0, .int 1], .tuple [.int 1, .int 2], .tuple [.int 1, .int 3], .tuple [.int 3, .int 8]], .v (.int 4), .v (.int 4), .v (.tuple [.int 1, .int 2]), .no, .no, .no, .no, .no]
theorem u5_6 (z : D) : isTru (FF (st4_5_6 z)) = true := by kernel_rfl
def st4_5_7 (z : D) : Rho := [.v z, .row, .v (.int 5), .v (.tuple [.tuple [.int 1], .tuple [.int 0, .int 2], .tuple [.int 1, .int 3], .tuple [.int 2, .int 4], .tuple [.int 3]]), .v (.tuple [.int 1, .int 24]), .v (.tuple [.int 3, .int 8]), .v (.tuple [.int 53, .int 24]), .v (.tuple [.int 0, .int 1, .int 2, .int 3, .int 4]), .ol [.tuple [.int 1, .int 1], .tuple [.int 0, .int 1], .tuple [.int 1, .int 2], .tuple [.int 1, .int 3], .tuple [.int 3, .int 8]], .v (.int 4), .v (.int 4), .v (.tuple [.int 0, .int 1, .int 2]), .no, .no, .no, .no, .no]
theorem u5_7 (z : D) : isTru (FF (st4_5_7 z)) = true := by kernel_rfl
def st4_5_8 (z : D) : Rho := [.v z, .row, .v (.int 5), .v (.tuple [.tuple [.int 1], .tuple [.int 0, .int 2], .tuple [.int 1, .int 3], .tuple [.int 2, .int 4], .tuple [.int 3]]), .v (.tuple [.int 1, .int 24]), .v (.tuple [.int 3, .int 8]), .v (.tuple [.int 53, .int 24]), .v (.tuple [.int 0, .int 1, .int 2, .int 3, .int 4]), .ol [.tuple [.int 1, .int 1], .tuple [.int 0, .int 1], .tuple [.int 1, .int 2], .tuple [.int 1, .int 3], .tuple [.int 3, .int 8]], .v (.int 4), .v (.int 4), .v (.tuple [.int 3]), .no, .no, .no, .no, .no]
theorem u5_8 (z : D) : isTru (FF (st4_5_8 z)) = true := by kernel_rfl
def st4_5_9 (z : D) : Rho := [.v z, .row, .v (.int 5), .v (.tuple [.tuple [.int 1], .tuple [.int 0, .int 2], .tuple [.int 1, .int 3], .tuple [.int 2, .int 4], .tuple [.int 3]]), .v (.tuple [.int 1, .int 24]), .v (.tuple [.int 3, .int 8]), .v (.tuple [.int 53, .int 24]), .v (.tuple [.int 0, .int 1, .int 2, .int 3, .int 4]), .ol [.tuple [.int 1, .int 1], .tuple [.int 0, .int 1], .tuple [.int 1, .int 2], .tuple [.int 1, .int 3], .tuple [.int 3, .int 8]], .v (.int 4), .v (.int 4), .v (.tuple [.int 0, .int 3]), .no, .no, .no, .no, .no]
theorem u5_9 (z : D) : isTru (FF (st4_5_9 z)) = true := by kernel_rfl
def st4_5_10 (z : D) : Rho := [.v z, .row, .v (.int 5), .v (.tuple [.tuple [.int 1], .tuple [.int 0, .int 2], .tuple [.int 1, .int 3], .tuple [.int 2, .int 4], .tuple [.int 3]]), .v (.tuple [.int 1, .int 24]), .v (.tuple [.int 3, .int 8]), .v (.tuple [.int 53, .int 24]), .v (.tuple [.int 0, .int 1, .int 2, .int 3, .int 4]), .ol [.tuple [.int 1, .int 1], .tuple [.int 0, .int 1], .tuple [.int 1, .int 2], .tuple [.int 1, .int 3], .tuple [.int 3, .int 8]], .v (.int 4), .v (.int 4), .v (.tuple [.int 1, .int 3]), .no, .no, .no, .no, .no]
theorem u5_10 (z : D) : isTru (FF (st4_5_10 z)) = true := by kernel_rfl
def st4_5_11 (z : D) : Rho := [.v z, .row, .v (.int 5), .v (.tuple [.tuple [.int 1], .tuple [.int 0, .int 2], .tuple [.int 1, .int 3], .tuple [.int 2, .int 4], .tuple [.int 3]]), .v (.tuple [.int 1, .int 24]), .v (.tuple [.int 3, .int 8]), .v (.tuple [.int 53, .int 24]), .v (.tuple [.int 0, .int 1, .int 2, .int 3, .int 4]), .ol [.tuple [.int 1, .int 1], .tuple [.int 0, .int 1], .tuple [.int 1, .int 2], .tuple [.int 1, .int 3], .tuple [.int 3, .int 8]], .v (.int 4), .v (.int 4), .v (.tuple [.int 0, .int 1, .int 3]), .no, .no, .no, .no, .no]
theorem u5_11 (z : D) : isTru (FF (st4_5_11 z)) = true := by kernel_rfl
def st4_5_12 (z : D) : Rho := [.v z, .row, .v (.int 5), .v (.tuple [.tuple [.int 1], .tuple [.int 0, .int 2], .tuple [.int 1, .int 3], .tuple [.int 2, .int 4], .tuple [.int 3]]), .v (.tuple [.int 1, .int 24]), .v (.tuple [.int 3, .int 8]), .v (.tuple [.int 53, .int 24]), .v (.tuple [.int 0, .int 1, .int 2, .int 3, .int 4]), .ol [.tuple [.int 1, .int 1], .tuple [.int 0, .int 1], .tuple [.int 1, .int 2], .tuple [.int 1, .int 3], .tuple [.int 3, .int 8]], .v (.int 4), .v (.int 4), .v (.tuple [.int 2, .int 3]), .no, .no, .no, .no, .no]
theorem u5_12 (z : D) : isTru (FF (st4_5_12 z)) = true := by kernel_rfl
def st4_5_13 (z : D) : Rho := [.v z, .row, .v (.int 5), .v (.tuple [.tuple [.int 1], .tuple [.int 0, .int 2], .tuple [.int 1, .int 3], .tuple [.int 2, .int 4], .tuple [.int 3]]), .v (.tuple [.int 1, .int 24]), .v (.tuple [.int 3, .int 8]), .v (.tuple [.int 53, .int 24]), .v (.tuple [.int 0, .int 1, .int 2, .int 3, .int 4]), .ol [.tuple [.int 1, .int 1], .tuple [.int 0, .int 1], .tuple [.int 1, .int 2], .tuple [.int 1, .int 3], .tuple [.int 3, .int 8]], .v (.int 4), .v (.int 4), .v (.tuple [.int 0, .int 2, .int 3]), .no, .no, .no, .no, .no]
theorem u5_13 (z : D) : isTru (FF (st4_5_13 z)) = true := by kernel_rfl
def st4_5_14 (z : D) : Rho := [.v z, .row, .v (.int 5), .v (.tuple [.tuple [.int 1], .tuple [.int 0, .int 2], .tuple [.int 1, .int 3], .tuple [.int 2, .int 4], .tuple [.int 3]]), .v (.tuple [.int 1, .int 24]), .v (.tuple [.int 3, .int 8]), .v (.tuple [.int 53, .int 24]), .v (.tuple [.int 0, .int 1, .int 2, .int 3, .int 4]), .ol [.tuple [.int 1, .int 1], .tuple [.int 0, .int 1], .tuple [.int 1, .int 2], .tuple [.int 1, .int 3], .tuple [.int 3, .int 8]], .v (.int 4), .v (.int 4), .v (.tuple [.int 1, .int 2, .int 3]), .no, .no, .no, .no, .no]
theorem u5_14 (z : D) : isTru (FF (st4_5_14 z)) = true := by kernel_rfl
def st4_5_15 (z : D) : Rho := [.v z, .row, .v (.int 5), .v (.tuple [.tuple [.int 1], .tuple [.int 0, .int 2], .tuple [.int 1, .int 3], .tuple [.int 2, .int 4], .tuple [.int 3]]), .v (.tuple [.int 1, .int 24]), .v (.tuple [.int 3, .int 8]), .v (.tuple [.int 53, .int 24]), .v (.tuple [.int 0, .int 1, .int 2, .int 3, .int 4]), .ol [.tuple [.int 1, .int 1], .tuple [.int 0, .int 1], .tuple [.int 1, .int 2], .tuple [.int 1, .int 3], .tuple [.int 3, .int 8]], .v (.int 4), .v (.int 4), .v (.tuple [.int 0, .int 1, .int 2, .int 3]), .no, .no, .no, .no, .no]
theorem u5_15 (z : D) : isTru (FF (st4_5_15 z)) = true := by kernel_rfl
def st4_5_16 (z : D) : Rho := [.v z, .row, .v (.int 5), .v (.tuple [.tuple [.int 1], .tuple [.int 0, .int 2], .tuple [.int 1, .int 3], .tuple [.int 2, .int 4], .tuple [.int 3]]), .v (.tuple [.int 1, .int 24]), .v (.tuple [.int 3, .int 8]), .v (.tuple [.int 53, .int 24]), .v (.tuple [.int 0, .int 1, .int 2, .int 3, .int 4]), .ol [.tuple [.int 1, .int 1], .tuple [.int 0, .int 1], .tuple [.int 1, .int 2], .tuple [.int 1, .int 3], .tuple [.int 3, .int 8]], .v (.int 4), .v (.int 4), .v (.tuple [.int 4]), .no, .no, .no, .no, .no]
theorem u5_16 (z : D) : isTru (FF (st4_5_16 z)) = true := by kernel_rfl
def st4_5_17 (z : D) : Rho := [.v z, .row, .v (.int 5), .v (.tuple [.tuple [.int 1], .tuple [.int 0, .int 2], .tuple [.int 1, .int 3], .tuple [.int 2, .int 4], .tuple [.int 3]]), .v (.tuple [.int 1, .int 24]), .v (.tuple [.int 3, .int 8]), .v (.tuple [.int 53, .int 24]), .v (.tuple [.int 0, .int 1, .int 2, .int 3, .int 4]), .ol [.tuple [.int 1, .int 1], .tuple [.int 0, .int 1], .tuple [.int 1, .int 2], .tuple [.int 1, .int 3], .tuple [.int 3, .int 8]], .v (.int 4), .v (.int 4), .v (.tuple [.int 0, .int 4]), .no, .no, .no, .no, .no]
theorem u5_17 (z : D) : isTru (FF (st4_5_17 z)) = true := by kernel_rfl
def st4_5_18 (z : D) : Rho := [.v z, .row, .v (.int 5), .v (.tuple [.tuple [.int 1], .tuple [.int 0, .int 2], .tuple [.int 1, .int 3], .tuple [.int 2, .int 4], .tuple [.int 3]]), .v (.tuple [.int 1, .int 24]), .v (.tuple [.int 3, .int 8]), .v (.tuple [.int 53, .int 24]), .v (.tuple [.int 0, .int 1, .int 2, .int 3, .int 4]), .ol [.tuple [.int 1, .int 1], .tuple [.int 0, .int 1], .tuple [.int 1, .int 2], .tuple [.int 1, .int 3], .tuple [.int 3, .int 8]], .v (.int 4), .v (.int 4), .v (.tuple [.int 1, .int 4]), .no, .no, .no, .no, .no]
theorem u5_18 (z : D) : isTru (FF (st4_5_18 z)) = true := by kernel_rfl
def st4_5_19 (z : D) : Rho := [.v z, .row, .v (.int 5), .v (.tuple [.tuple [.int 1], .tuple [.int 0, .int 2], .tuple [.int 1, .int 3], .tuple [.int 2, .int 4], .tuple [.int 3]]), .v (.tuple [.int 1, .int 24]), .v (.tuple [.int 3, .int 8]), .v (.tuple [.int 53, .int 24]), .v (.tuple [.int 0, .int 1, .int 2, .int 3, .int 4]), .ol [.tuple [.int 1, .int 1], .tuple [.int 0, .int 1], .tuple [.int 1, .int 2], .tuple [.int 1, .int 3], .tuple [.int 3, .int 8]], .v (.int 4), .v (.int 4), .v (.tuple [.int 0, .int 1, .int 4]), .no, .no, .no, .no, .no]
theorem u5_19 (z : D) : isTru (FF (st4_5_19 z)) = true := by kernel_rfl
def st4_5_20 (z : D) : Rho := [.v z, .row, .v (.int 5), .v (.tuple [.tuple [.int 1], .tuple [.int 0, .int 2], .tuple [.int 1, .int 3], .tuple [.int 2, .int 4], .tuple [.int 3]]), .v (.tuple [.int 1, .int 24]), .v (.tuple [.int 3, .int 8]), .v (.tuple [.int 53, .int 24]), .v (.tuple [.int 0, .int 1, .int 2, .int 3, .int 4]), .ol [.tuple [.int 1, .int 1], .tuple [.int 0, .int 1], .tuple [.int 1, .int 2], .tuple [.int 1, .int 3], .tuple [.int 3, .int 8]], .v (.int 4), .v (.int 4), .v (.tuple [.int 2, .int 4]), .no, .no, .no, .no, .no]
theorem u5_20 (z : D) : isTru (FF (st4_5_20 z)) = true := by kernel_rfl
def st4_5_21 (z : D) : Rho := [.v z, .row, .v (.int 5), .v (.tuple [.tuple [.int 1], .tuple [.int 0, .int 2], .tuple [.int 1, .int 3], .tuple [.int 2, .int 4], .tuple [.int 3]]), .v (.tuple [.int 1, .int 24]), .v (.tuple [.int 3, .int 8]), .v (.tuple [.int 53, .int 24]), .v (.tuple [.int 0, .int 1, .int 2, .int 3, .int 4]), .ol [.tuple [.int 1, .int 1], .tuple [.int 0, .int 1], .tuple [.int 1, .int 2], .tuple [.int 1, .int 3], .tuple [.int 3, .int 8]], .v (.int 4), .v (.int 4), .v (.tuple [.int 0, .int 2, .int 4]), .no, .no, .no, .no, .no]
theorem u5_21 (z : D) : isTru (FF (st4_5_21 z)) = true := by kernel_rfl
def st4_5_22 (z : D) : Rho := [.v z, .row, .v (.int 5), .v (.tuple [.tuple [.int 1], .tuple [.int 0, .int 2], .tuple [.int 1, .int 3], .tuple [.int 2, .int 4], .tuple [.int 3]]), .v (.tuple [.int 1, .int 24]), .v (.tuple [.int 3, .int 8]), .v (.tuple [.int 53, .int 24]), .v (.tuple [.int 0, .int 1, .int 2, .int 3, .int 4]), .ol [.tuple [.int 1, .int 1], .tuple [.int 0, .int 1], .tuple [.int 1, .int 2], .tuple [.int 1, .int 3], .tuple [.int 3, .int 8]], .v (.int 4), .v (.int 4), .v (.tuple [.int 1, .int 2, .int 4]), .no, .no, .no, .no, .no]
theorem u5_22 (z : D) : isTru (FF (st4_5_22 z)) = true := by kernel_rfl
def st4_5_23 (z : D) : Rho := [.v z, .row, .v (.int 5), .v (.tuple [.tuple [.int 1], .tuple [.int 0, .int 2], .tuple [.int 1, .int 3], .tuple [.int 2, .int 4], .tuple [.int 3]]), .v (.tuple [.int 1, .int 24]), .v (.tuple [.int 3, .int 8]), .v (.tuple [.int 53, .int 24]), .v (.tuple [.int 0, .int 1, .int 2, .int 3, .int 4]), .ol [.tuple [.int 1, .int 1], .tuple [.int 0, .int 1], .tuple [.int 1, .int 2], .tuple [.int 1, .int 3], .tuple [.int 3, .int 8]], .v (.int 4), .v (.int 4), .v (.tuple [.int 0, .int 1, .int 2, .int 4]), .no, .no, .no, .no, .no]
theorem u5_23 (z : D) : isTru (FF (st4_5_23 z)) = true := by kernel_rfl
def st4_5_24 (z : D) : Rho := [.v z, .row, .v (.int 5), .v (.tuple [.tuple [.int 1], .tuple [.int 0, .int 2], .tuple [.int 1, .int 3], .tuple [.int 2, .int 4], .tuple [.int 3]]), .v (.tuple [.int 1, .int 24]), .v (.tuple [.int 3, .int 8]), .v (.tuple [.int 53, .int 24]), .v (.tuple [.int 0, .int 1, .int 2, .int 3, .int 4]), .ol [.tuple [.int 1, .int 1], .tuple [.int 0, .int 1], .tuple [.int 1, .int 2], .tuple [.int 1, .int 3], .tuple [.int 3, .int 8]], .v (.int 4), .v (.int 4), .v (.tuple [.int 3, .int 4]), .no, .no, .no, .no, .no]
theorem u5_24 (z : D) : isTru (FF (st4_5_24 z)) = true := by kernel_rfl
def st4_5_25 (z : D) : Rho := [.v z, .row, .v (.int 5), .v (.tuple [.tuple [.int 1], .tuple [.int 0, .int 2], .tuple [.int 1, .int 3], .tuple [.int 2, .int 4], .tuple [.int 3]]), .v (.tuple [.int 1, .int 24]), .v (.tuple [.int 3, .int 8]), .v (.tuple [.int 53, .int 24]), .v (.tuple [.int 0, .int 1, .int 2, .int 3, .int 4]), .ol [.tuple [.int 1, .int 1], .tuple [.int 0, .int 1], .tuple [.int 1, .int 2], .tuple [.int 1, .int 3], .tuple [.int 3, .int 8]], .v (.int 4), .v (.int 4), .v (.tuple [.int 0, .int 3, .int 4]), .no, .no, .no, .no, .no]
theorem u5_25 (z : D) : isTru (FF (st4_5_25 z)) = true := by kernel_rfl
def st4_5_26 (z : D) : Rho := [.v z, .row, .v (.int 5), .v (.tuple [.tuple [.int 1], .tuple [.int 0, .int 2], .tuple [.int 1, .int 3], .tuple [.int 2, .int 4], .tuple [.int 3]]), .v (.tuple [.int 1, .int 24]), .v (.tuple [.int 3, .int 8]), .v (.tuple [.int 53, .int 24]), .v (.tuple [.int 0, .int 1, .int 2, .int 3, .int 4]), .ol [.tuple [.int 1, .int 1], .tuple [.int 0, .int 1], .tuple [.int 1, .int 2], .tuple [.int 1, .int 3], .tuple [.int 3, .int 8]], .v (.int 4), .v (.int 4), .v (.tuple [.int 1, .int 3, .int 4]), .no, .no, .no, .no, .no]
theorem u5_26 (z : D) : isTru (FF (st4_5_26 z)) = true := by kernel_rfl
def st4_5_27 (z : D) : Rho := [.v z, .row, .v (.int 5), .v (.tuple [.tuple [.int 1], .tuple [.int 0, .int 2], .tuple [.int 1, .int 3], .tuple [.int 2, .int 4], .tuple [.int 3]]), .v (.tuple [.int 1, .int 24]), .v (.tuple [.int 3, .int 8]), .v (.tuple [.int 53, .int 24]), .v (.tuple [.int 0, .int 1, .int 2, .int 3, .int 4]), .ol [.tuple [.int 1, .int 1], .tuple [.int 0, .int 1], .tuple [.int 1, .int 2], .tuple [.int 1, .int 3], .tuple [.int 3, .int 8]], .v (.int 4), .v (.int 4), .v (.tuple [.int 0, .int 1, .int 3, .int 4]), .no, .no, .no, .no, .no]
theorem u5_27 (z : D) : isTru (FF (st4_5_27 z)) = true := by kernel_rfl
def st4_5_28 (z : D) : Rho := [.v z, .row, .v (.int 5), .v (.tuple [.tuple [.int 1], .tuple [.int 0, .int 2], .tuple [.int 1, .int 3], .tuple [.int 2, .int 4], .tuple [.int 3]]), .v (.tuple [.int 1, .int 24]), .v (.tuple [.int 3, .int 8]), .v (.tuple [.int 53, .int 24]), .v (.tuple [.int 0, .int 1, .int 2, .int 3, .int 4]), .ol [.tuple [.int 1, .int 1], .tuple [.int 0, .int 1], .tuple [.int 1, .int 2], .tuple [.int 1, .int 3], .tuple [.int 3, .int 8]], .v (.int 4), .v (.int 4), .v (.tuple [.int 2, .int 3, .int 4]), .no, .no, .no, .no, .no]
theorem u5_28 (z : D) : isTru (FF (st4_5_28 z)) = true := by kernel_rfl
def st4_5_29 (z : D) : Rho := [.v z, .row, .v (.int 5), .v (.tuple [.tuple [.int 1], .tuple [.int 0, .int 2], .tuple [.int 1, .int 3], .tuple [.int 2, .int 4], .tuple [.int 3]]), .v (.tuple [.int 1, .int 24]), .v (.tuple [.int 3, .int 8]), .v (.tuple [.int 53, .int 24]), .v (.tuple [.int 0, .int 1, .int 2, .int 3, .int 4]), .ol [.tuple [.int 1, .int 1], .tuple [.int 0, .int 1], .tuple [.int 1, .int 2], .tuple [.int 1, .int 3], .tuple [.int 3, .int 8]], .v (.int 4), .v (.int 4), .v (.tuple [.int 0, .int 2, .int 3, .int 4]), .no, .no, .no, .no, .no]
theorem u5_29 (z : D) : isTru (FF (st4_5_29 z)) = true := by kernel_rfl
def st4_5_30 (z : D) : Rho := [.v z, .row, .v (.int 5), .v (.tuple [.tuple [.int 1], .tuple [.int 0, .int 2], .tuple [.int 1, .int 3], .tuple [.int 2, .int 4], .tuple [.int 3]]), .v (.tuple [.int 1, .int 24]), .v (.tuple [.int 3, .int 8]), .v (.tuple [.int 53, .int 24]), .v (.tuple [.int 0, .int 1, .int 2, .int 3, .int 4]), .ol [.tuple [.int 1, .int 1], .tuple [.int 0, .int 1], .tuple [.int 1, .int 2], .tuple [.int 1, .int 3], .tuple [.int 3, .int 8]], .v (.int 4), .v (.int 4), .v (.tuple [.int 1, .int 2, .int 3, .int 4]), .no, .no, .no, .no, .no]
theorem u5_30 (z : D) : isTru (FF (st4_5_30 z)) = true := by kernel_rfl
def st4_5_31 (z : D) : Rho := [.v z, .row, .v (.int 5), .v (.tuple [.tuple [.int 1], .tuple [.int 0, .int 2], .tuple [.int 1, .int 3], .tuple [.int 2, .int 4], .tuple [.int 3]]), .v (.tuple [.int 1, .int 24]), .v (.tuple [.int 3, .int 8]), .v (.tuple [.int 53, .int 24]), .v (.tuple [.int 0, .int 1, .int 2, .int 3, .int 4]), .ol [.tuple [.int 1, .int 1], .tuple [.int 0, .int 1], .tuple [.int 1, .int 2], .tuple [.int 1, .int 3], .tuple [.int 3, .int 8]], .v (.int 4), .v (.int 4), .v (.tuple [.int 0, .int 1, .int 2, .int 3, .int 4]), .no, .no, .no, .no, .no]
theorem u5_31 (z : D) : isTru (FF (st4_5_31 z)) = true := by kernel_rfl
theorem sub_5 {ys : List Int} (h : ys.Sublist (upI 5)) : ys = [] ∨ ys = [0] ∨ ys = [1] ∨ ys = [0, 1] ∨ ys = [2] ∨ ys = [0, 2] ∨ ys = [1, 2] ∨ ys = [0, 1, 2] ∨ ys = [3] ∨ ys = [0, 3] ∨ ys = [1, 3] ∨ ys = [0, 1, 3] ∨ ys = [2, 3] ∨ ys = [0, 2, 3] ∨ ys = [1, 2, 3] ∨ ys = [0, 1, 2, 3] ∨ ys = [4] ∨ ys = [0, 4] ∨ ys = [1, 4] ∨ ys = [0, 1, 4] ∨ ys = [2, 4] ∨ ys = [0, 2, 4] ∨ ys = [1, 2, 4] ∨ ys = [0, 1, 2, 4] ∨ ys = [3, 4] ∨ ys = [0, 3, 4] ∨ ys = [1, 3, 4] ∨ ys = [0, 1, 3, 4] ∨ ys = [2, 3, 4] ∨ ys = [0, 2, 3, 4] ∨ ys = [1, 2, 3, 4] ∨ ys = [0, 1, 2, 3, 4] := by
  have : ys ∈ ([[], [0], [1], [0, 1], [2], [0, 2], [1, 2], [0, 1, 2], [3], [0, 3], [1, 3], [0, 1, 3], [2, 3], [0, 2, 3], [1, 2, 3], [0, 1, 2, 3], [4], [0, 4], [1, 4], [0, 1, 4], [2, 4], [0, 2, 4], [1, 2, 4], [0, 1, 2, 4], [3, 4], [0, 3, 4], [1, 3, 4], [0, 1, 3, 4], [2, 3, 4], [0, 2, 3, 4], [1, 2, 3, 4], [0, 1, 2, 3, 4]] : List (List Int)) := by
    have e : chM (upI 5) = [[], [0], [1], [0, 1], [2], [0, 2], [1, 2], [0, 1, 2], [3], [0, 3], [1, 3], [0, 1, 3], [2, 3], [0, 2, 3], [1, 2, 3], [0, 1, 2, 3], [4], [0, 4], [1, 4], [0, 1, 4], [2, 4], [0, 2, 4], [1, 2, 4], [0, 1, 2, 4], [3, 4], [0, 3, 4], [1, 3, 4], [0, 1, 3, 4], [2, 3, 4], [0, 2, 3, 4], [1, 2, 3, 4], [0, 1, 2, 3, 4]] := by decide +kernel
    rw [← e]
    exact mem_chM.mpr h
  simpa using this
theorem tail_5 (z : D) (K : Fl → Prop) (hK : K (.rt (.bool true))) : Tail (st0_5 z) K := by
  unfold Tail
  refine k_to (s0_5 z) (k_to (s1_5 z) (k_to (s2_5 z) (k_to (s3_5 z) (k_to (s4_5 z) (?_)))))
  refine ⟨rfl, _, rfl, ?_⟩
  refine lcV_sub (E := .int) (upI 5) [] (fun y hy => ⟨_, rfl, fun K2 hK2 => ?_, fun K2 hK2 => ⟨_, rfl, hK2⟩⟩) fun ys hys => ?_
  · exact ⟨rfl, _, rfl, 4, rfl, by omega, by omega, fun k _ _ => ⟨_, rfl, _, rfl, _, rfl, hK2 _⟩⟩
  refine ⟨_, rfl, ?_⟩
  rcases sub_5 hys with rfl | rfl | rfl | rfl | rfl | rfl | rfl | rfl | rfl | rfl | rfl | rfl | rfl | rfl | rfl | rfl | rfl | rfl | rfl | rfl | rfl | rfl | rfl | rfl | rfl | rfl | rfl | rfl | rfl | rfl | rfl | rfl
  · exact k_end (f := FF) (ρ := st4_5_0 z) (u5_0 z) hK
  · exact k_end (f := FF) (ρ := st4_5_1 z) (u5_1 z) hK
  · exact k_end (f := FF) (ρ := st4_5_2 z) (u5_2 z) hK
  · exact k_end (f := FF) (ρ := st4_5_3 z) (u5_3 z) hK
  · exact k_end (f := FF) (ρ := st4_5_4 z) (u5_4 z) hK
  · exact k_end (f := FF) (ρ := st4_5_5 z) (u5_5 z) hK
  · exact k_end (f := FF) (ρ := st4_5_6 z) (u5_6 z) hK
  · exact k_end (f := FF) (ρ := st4_5_7 z) (u5_7 z) hK
  · exact k_end (f := FF) (ρ := st4_5_8 z) (u5_8 z) hK
  · exact k_end (f := FF) (ρ := st4_5_9 z) (u5_9 z) hK
  · exact k_end (f := FF) (ρ := st4_5_10 z) (u5_10 z) hK
  · exact k_end (f := FF) (ρ := st4_5_11 z) (u5_11 z) hK
  · exact k_end (f := FF) (ρ := st4_5_12 z) (u5_12 z) hK
  · exact k_end (f := FF) (ρ := st4_5_13 z) (u5_13 z) hK
  · exact k_end (f := FF) (ρ := st4_5_14 z) (u5_14 z) hK
  · exact k_end (f := FF) (ρ := st4_5_15 z) (u5_15 z) hK
  · exact k_end (f := FF) (ρ := st4_5_16 z) (u5_16 z) hK
  · exact k_end (f := FF) (ρ := st4_5_17 z) (u5_17 z) hK
  · exact k_end (f := FF) (ρ := st4_5_18 z) (u5_18 z) hK
  · exact k_end (f := FF) (ρ := st4_5_19 z) (u5_19 z) hK
  · exact k_end (f := FF) (ρ := st4_5_20 z) (u5_20 z) hK
  · exact k_end (f := FF) (ρ := st4_5_21 z) (u5_21 z) hK
  · exact k_end (f := FF) (ρ := st4_5_22 z) (u5_22 z) hK
  · exact k_end (f := FF) (ρ := st4_5_23 z) (u5_23 z) hK
  · exact k_end (f := FF) (ρ := st4_5_24 z) (u5_24 z) hK
  · exact k_end (f := FF) (ρ := st4_5_25 z) (u5_25 z) hK
  · exact k_end (f := FF) (ρ := st4_5_26 z) (u5_26 z) hK
  · exact k_end (f := FF) (ρ := st4_5_27 z) (u5_27 z) hK
  · exact k_end (f := FF) (ρ := st4_5_28 z) (u5_28 z) hK
  · exact k_end (f := FF) (ρ := st4_5_29 z) (u5_29 z) hK
  · exact k_end (f := FF) (ρ := st4_5_30 z) (u5_30 z) hK
  · exact k_end (f := FF) (ρ := st4_5_31 z) (u5_31 z) hK
theorem law_value (ns : List Int) (h : ns.length ≤ 63) (K : D → Prop) (hK : K (.bool true)) : runW 17 T_law [.list (ns.map .int)] K := by
  show T_law [.v (.list (ns.map .int)), .no, .no, .no, .no, .no, .no, .no, .no, .no, .no, .no, .no, .no, .no, .no, .no] _
  refine ⟨by show 1 < 17; omega, _, rfl, ns, 0, 9975, 0, rfl, h, by omega, by omega, by omega, ?_⟩
  refine ⟨_, rfl, rfl, _, rfl, 5, rfl, by omega, by omega, fun m hm0 hm1 => ⟨_, rfl, ?_⟩⟩
  generalize PyData.list (ns.map .int) = z
  have : m = 0 ∨ m = 1 ∨ m = 2 ∨ m = 3 ∨ m = 4 := by omega
  rcases this with rfl | rfl | rfl | rfl | rfl
  · refine ⟨.int 1, rfl, .list (([] : List (Int × Int)).map edgeD), by kernel_rfl, (1 : Nat), [], rfl, by decide, by decide, edges_of (by decide), _, rfl, _, rfl, _, rfl, rfl, ?_⟩
    exact to_st (U := Tail) (ρ' := st0_1 z) (by kernel_rfl) (tail_1 z _ hK)
  · refine ⟨.int 2, rfl, .list (([(0, 1)] : List (Int × Int)).map edgeD), by kernel_rfl, (2 : Nat), [(0, 1)], rfl, by decide, by decide, edges_of (by decide), _, rfl, _, rfl, _, rfl, rfl, ?_⟩
    exact to_st (U := Tail) (ρ' := st0_2 z) (by kernel_rfl) (tail_2 z _ hK)
  · refine ⟨.int 3, rfl, .list (([(0, 1), (1, 2)] : List (Int × Int)).map edgeD), by kernel_rfl, (3 : Nat), [(0, 1), (1, 2)], rfl, by decide, by decide, edges_of (by decide), _, rfl, _, rfl, _, rfl, rfl, ?_⟩
    exact to_st (U := Tail) (ρ' := st0_3 z) (by kernel_rfl) (tail_3 z _ hK)
  · refine ⟨.int 4, rfl, .list (([(0, 1), (1, 2), (2, 3)] : List (Int × Int)).map edgeD), by kernel_rfl, (4 : Nat), [(0, 1), (1, 2), (2, 3)], rfl, by decide, by decide, edges_of (by decide), _, rfl, _, rfl, _, rfl, rfl, ?_⟩
    exact to_st (U := Tail) (ρ' := st0_4 z) (by kernel_rfl) (tail_4 z _ hK)
  · refine ⟨.int 5, rfl, .list (([(0, 1), (1, 2), (2, 3), (3, 4)] : List (Int × Int)).map edgeD), by kernel_rfl, (5 : Nat), [(0, 1), (1, 2), (2, 3), (3, 4)], rfl, by decide, by decide, edges_of (by decide), _, rfl, _, rfl, _, rfl, rfl, ?_⟩
    exact to_st (U := Tail) (ρ' := st0_5 z) (by kernel_rfl) (tail_5 z _ hK)
end W

set_option Elab.async false
set_option linter.all false
set_option maxRecDepth 100000
set_option maxHeartbeats 4000000
namespace W
open PySem PySem.Spec PyProof.Rows L2 L2.P
def d_is_integer : He.DefD := ⟨("is_integer", none), "is_integer", "is_integer", defArgs s_is_integer, defBody s_is_integer, defScope s_is_integer, [], []⟩
def d_is_in : He.DefD := ⟨("is_in", none), "is_in", "is_in", defArgs s_is_in, defBody s_is_in, defScope s_is_in, [], []⟩
def d_is_list : He.DefD := ⟨("is_list", none), "is_list", "is_list", defArgs s_is_list, defBody s_is_list, defScope s_is_list, [], []⟩
def d_need_web : He.DefD := ⟨("need_web", none), "need_web", "need_web", defArgs s_need_web, defBody s_need_web, defScope s_need_web, [], []⟩
def d_is_set : He.DefD := ⟨("is_set", none), "is_set", "is_set", defArgs s_is_set, defBody s_is_set, defScope s_is_set, [], []⟩
def d_need_state : He.DefD := ⟨("need_state", none), "need_state", "need_state", defArgs s_need_state, defBody s_need_state, defScope s_need_state, [], []⟩
def d_need_person : He.DefD := ⟨("need_person", none), "need_person", "need_person", defArgs s_need_person, defBody s_need_person, defScope s_need_person, [], []⟩
def d_taller_in : He.DefD := ⟨("taller_in", none), "taller_in", "taller_in", defArgs s_taller_in, defBody s_taller_in, defScope s_taller_in, [], []⟩
def d_everybody : He.DefD := ⟨("everybody", none), "everybody", "everybody", defArgs s_everybody, defBody s_everybody, defScope s_everybody, [], []⟩
def d_apart_in : He.DefD := ⟨("apart_in", none), "apart_in", "apart_in", defArgs s_apart_in, defBody s_apart_in, defScope s_apart_in, [], []⟩
def d_choices : He.DefD := ⟨("choices", none), "choices", "choices", defArgs s_choices, defBody s_choices, defScope s_choices, [], []⟩
def d_call_in : He.DefD := ⟨("call_in", none), "call_in", "call_in", defArgs s_call_in, defBody s_call_in, defScope s_call_in, [], []⟩
def d_story_in : He.DefD := ⟨("story_in", none), "story_in", "story_in", defArgs s_story_in, defBody s_story_in, defScope s_story_in, [], []⟩
def d_may_call : He.DefD := ⟨("may_call", none), "may_call", "may_call", defArgs s_may_call, defBody s_may_call, defScope s_may_call, [], []⟩
def d_fits : He.DefD := ⟨("fits", none), "fits", "fits", defArgs s_fits, defBody s_fits, defScope s_fits, [], []⟩
def d_ends_in : He.DefD := ⟨("ends_in", none), "ends_in", "ends_in", defArgs s_ends_in, defBody s_ends_in, defScope s_ends_in, [], []⟩
def d_ends : He.DefD := ⟨("ends", none), "ends", "ends", defArgs s_ends, defBody s_ends, defScope s_ends, [], []⟩
def d_count_ends : He.DefD := ⟨("count_ends", none), "count_ends", "count_ends", defArgs s_count_ends, defBody s_count_ends, defScope s_count_ends, [], []⟩
def d_shared : He.DefD := ⟨("shared", none), "shared", "shared", defArgs s_shared, defBody s_shared, defScope s_shared, [], []⟩
def d_ratio : He.DefD := ⟨("ratio", none), "ratio", "ratio", defArgs s_ratio, defBody s_ratio, defScope s_ratio, [], []⟩
def d_plus : He.DefD := ⟨("plus", none), "plus", "plus", defArgs s_plus, defBody s_plus, defScope s_plus, [], []⟩
def d_all_orders : He.DefD := ⟨("all_orders", none), "all_orders", "all_orders", defArgs s_all_orders, defBody s_all_orders, defScope s_all_orders, [], []⟩
def d_need_few : He.DefD := ⟨("need_few", none), "need_few", "need_few", defArgs s_need_few, defBody s_need_few, defScope s_need_few, [], []⟩
def d_counts_in : He.DefD := ⟨("counts_in", none), "counts_in", "counts_in", defArgs s_counts_in, defBody s_counts_in, defScope s_counts_in, [], []⟩
def d_order_counts : He.DefD := ⟨("order_counts", none), "order_counts", "order_counts", defArgs s_order_counts, defBody s_order_counts, defScope s_order_counts, [], []⟩
def d_order_chances : He.DefD := ⟨("order_chances", none), "order_chances", "order_chances", defArgs s_order_chances, defBody s_order_chances, defScope s_order_chances, [], []⟩
def d_stand_chance : He.DefD := ⟨("stand_chance", none), "stand_chance", "stand_chance", defArgs s_stand_chance, defBody s_stand_chance, defScope s_stand_chance, [], []⟩
def d_mean_standing : He.DefD := ⟨("mean_standing", none), "mean_standing", "mean_standing", defArgs s_mean_standing, defBody s_mean_standing, defScope s_mean_standing, [], []⟩
def d__law_taken : He.DefD := ⟨("_law_taken", none), "_law_taken", "_law_taken", defArgs s__law_taken, defBody s__law_taken, defScope s__law_taken, [], []⟩
def d__law_gcd : He.DefD := ⟨("_law_gcd", none), "_law_gcd", "_law_gcd", defArgs s__law_gcd, defBody s__law_gcd, defScope s__law_gcd, [], []⟩
def d__law_lowest : He.DefD := ⟨("_law_lowest", none), "_law_lowest", "_law_lowest", defArgs s__law_lowest, defBody s__law_lowest, defScope s__law_lowest, [], []⟩
def d__law_by : He.DefD := ⟨("_law_by", none), "_law_by", "_law_by", defArgs s__law_by, defBody s__law_by, defScope s__law_by, [], []⟩
def d__law_plus : He.DefD := ⟨("_law_plus", none), "_law_plus", "_law_plus", defArgs s__law_plus, defBody s__law_plus, defScope s__law_plus, [], []⟩
def d__law_times : He.DefD := ⟨("_law_times", none), "_law_times", "_law_times", defArgs s__law_times, defBody s__law_times, defScope s__law_times, [], []⟩
def d_law : He.DefD := ⟨("law", none), "law", "law", defArgs s_law, defBody s_law, defScope s_law, [], []⟩
def fn : List He.DefD := [d_is_integer, d_is_in, d_is_list, d_need_web, d_is_set, d_need_state, d_need_person, d_taller_in, d_everybody, d_apart_in, d_choices, d_call_in, d_story_in, d_may_call, d_fits, d_ends_in, d_ends, d_count_ends, d_shared, d_ratio, d_plus, d_all_orders, d_need_few, d_counts_in, d_order_counts, d_order_chances, d_stand_chance, d_mean_standing, d__law_taken, d__law_gcd, d__law_lowest, d__law_by, d__law_plus, d__law_times, d_law]
def fa : List He.Fa := [.glo "is_integer", .glo "is_in", .glo "is_list", .glo "need_web", .glo "is_set", .glo "need_state", .glo "need_person", .glo "taller_in", .glo "everybody", .glo "apart_in", .glo "choices", .glo "call_in", .glo "story_in", .glo "may_call", .glo "fits", .glo "ends_in", .glo "ends", .glo "count_ends", .glo "shared", .glo "ratio", .glo "plus", .glo "all_orders", .glo "need_few", .glo "counts_in", .glo "order_counts", .glo "order_chances", .glo "stand_chance", .glo "mean_standing", .glo "_law_taken", .glo "_law_gcd", .glo "_law_lowest", .glo "_law_by", .glo "_law_plus", .glo "_law_times", .glo "law", .free "len", .free "range", .free "tuple", .free "list", .free "sorted", .free "set", .free "any", .free "all", .free "min", .free "max", .free "sum", .free "abs", .free "int", .free "str", .free "bool", .free "isinstance", .free "enumerate", .free "zip", .int "MOST_PEOPLE" 7, .glo "ZERO"]
def loose : List Str := (["is_integer", "is_in", "is_list", "SitError", "BadWeb", "BadStanding", "BadPerson", "TooMany", "MOST_PEOPLE", "need_web", "is_set", "need_state", "need_person", "taller_in", "everybody", "apart_in", "choices", "call_in", "story_in", "may_call", "fits", "ends_in", "ends", "count_ends", "ZERO", "shared", "ratio", "plus", "MOST_ORDERS", "all_orders"] : List Str) ++ (["need_few", "counts_in", "order_counts", "order_chances", "stand_chance", "mean_standing", "_law_taken", "_law_gcd", "_law_lowest", "_law_by", "_law_plus", "_law_times"] : List Str)
def ex (K : PySem.W.Frag) : Bool := twoIn K (He.ga K "ZERO") 0 1
theorem ex_ZERO_ok {K : PySem.W.Frag} (h : ex K = true) : twoIn K (He.ga K "ZERO") 0 1 = true := h
abbrev R : PySem.W.OpenRow := PySem.W.OpenLaw.row PySem.Challenge.rw_tallsits_k75_whole_stairs_by_lot
abbrev hk : PySem.W.Hook := hookE 4 fa fn ex
def ob (s : PySem.W.SharedT) : AlE := obsE 4 fa fn ex (HandSHeadRun.getT s)
theorem ob_eq (s : PySem.W.SharedT) : ob s = hk.obs s.abs := obsE_eq (HandSHeadRun.getT_eq s)
theorem run (w : World) : HandSHeadRun.RunEq R (PySem.W.view R.prog [51]) hk ob 4000 loose w := by
  intro os
  kernel_rfl
theorem facts {P : Program} {w : World} {K : PySem.W.Frag} {h : Heap} {mg : Str → Option Value} {f : Addr} (X : K.In h) (G : h.Ns mainGlobals mg) (hfa : mg ("law" : Str) = some (.ref f)) (c : He.SaysD fa fn K) (cx : ex K = true) :
    ∃ fd : FuncData, (∀ (s : Shared) (v : Value), BindsTo s fd ⟨[v], []⟩ [("_law_script", v)]) ∧ ∀ base : Heap, K.In base → base.Ns mainGlobals mg → FnOk P w K mg base CX0 7 f fd ["_law_script"] (spF K 1 (runW 17 T_law)) := by
  obtain ⟨fd, F⟩ := c.def_ 34 (d := d_law) rfl
  have e := hfa.symm.trans (He.glo_ok X G (c.fact 34 (f := .glo "law") rfl))
  cases e
  have b := FunD.bindsA (ps := ["_law_script"]) F fun _ _ _ _ _ _ us hl => match us, hl with | [_], _ => by kernel_rfl
  refine ⟨fd, fun s v => b s [v] rfl, fun base _ _ => ?_⟩
  have bi : Bi mg := ⟨He.free_ok X G (c.fact 35 (f := .free "len") rfl), He.free_ok X G (c.fact 36 (f := .free "range") rfl), He.free_ok X G (c.fact 37 (f := .free "tuple") rfl), He.free_ok X G (c.fact 38 (f := .free "list") rfl), He.free_ok X G (c.fact 39 (f := .free "sorted") rfl), He.free_ok X G (c.fact 40 (f := .free "set") rfl), He.free_ok X G (c.fact 41 (f := .free "any") rfl), He.free_ok X G (c.fact 42 (f := .free "all") rfl), He.free_ok X G (c.fact 43 (f := .free "min") rfl), He.free_ok X G (c.fact 44 (f := .free "max") rfl), He.free_ok X G (c.fact 45 (f := .free "sum") rfl), He.free_ok X G (c.fact 46 (f := .free "abs") rfl), He.free_ok X G (c.fact 47 (f := .free "int") rfl), He.free_ok X G (c.fact 48 (f := .free "str") rfl), He.free_ok X G (c.fact 49 (f := .free "bool") rfl), He.free_ok X G (c.fact 50 (f := .free "isinstance") rfl), He.free_ok X G (c.fact 51 (f := .free "enumerate") rfl), He.free_ok X G (c.fact 52 (f := .free "zip") rfl)⟩
  have k_MOST_PEOPLE := He.int_ok X G (c.fact 53 (f := .int "MOST_PEOPLE" 7) rfl)
  have k_ZERO : GTwo K mg "ZERO" 0 1 := ⟨_, He.glo_ok X G (c.fact 54 (f := .glo "ZERO") rfl), twoIn_ok (ex_ZERO_ok cx)⟩
  have c_is_integer := ok_is_integer (P := P) (w := w) (K := K) (mg := mg) (base := base) bi (by obtain ⟨fd, F⟩ := c.def_ 0 (d := d_is_integer) rfl; exact ⟨_, fd, F, He.glo_ok X G (c.fact 0 (f := .glo "is_integer") rfl)⟩)
  have c_is_in := ok_is_in (P := P) (w := w) (K := K) (mg := mg) (base := base) bi c_is_integer (by obtain ⟨fd, F⟩ := c.def_ 1 (d := d_is_in) rfl; exact ⟨_, fd, F, He.glo_ok X G (c.fact 1 (f := .glo "is_in") rfl)⟩)
  have c_is_list := ok_is_list (P := P) (w := w) (K := K) (mg := mg) (base := base) bi (by obtain ⟨fd, F⟩ := c.def_ 2 (d := d_is_list) rfl; exact ⟨_, fd, F, He.glo_ok X G (c.fact 2 (f := .glo "is_list") rfl)⟩)
  have c_need_web := ok_need_web (P := P) (w := w) (K := K) (mg := mg) (base := base) bi k_MOST_PEOPLE c_is_list c_is_in (by obtain ⟨fd, F⟩ := c.def_ 3 (d := d_need_web) rfl; exact ⟨_, fd, F, He.glo_ok X G (c.fact 3 (f := .glo "need_web") rfl)⟩)
  have c_is_set := ok_is_set (P := P) (w := w) (K := K) (mg := mg) (base := base) bi c_is_list c_is_in (by obtain ⟨fd, F⟩ := c.def_ 4 (d := d_is_set) rfl; exact ⟨_, fd, F, He.glo_ok X G (c.fact 4 (f := .glo "is_set") rfl)⟩)
  have c_need_state := ok_need_state (P := P) (w := w) (K := K) (mg := mg) (base := base) bi c_need_web c_is_set (by obtain ⟨fd, F⟩ := c.def_ 5 (d := d_need_state) rfl; exact ⟨_, fd, F, He.glo_ok X G (c.fact 5 (f := .glo "need_state") rfl)⟩)
  have c_need_person := ok_need_person (P := P) (w := w) (K := K) (mg := mg) (base := base) bi c_is_in (by obtain ⟨fd, F⟩ := c.def_ 6 (d := d_need_person) rfl; exact ⟨_, fd, F, He.glo_ok X G (c.fact 6 (f := .glo "need_person") rfl)⟩)
  have c_taller_in := ok_taller_in (P := P) (w := w) (K := K) (mg := mg) (base := base) bi (by obtain ⟨fd, F⟩ := c.def_ 7 (d := d_taller_in) rfl; exact ⟨_, fd, F, He.glo_ok X G (c.fact 7 (f := .glo "taller_in") rfl)⟩)
  have c_everybody := ok_everybody (P := P) (w := w) (K := K) (mg := mg) (base := base) bi c_need_web (by obtain ⟨fd, F⟩ := c.def_ 8 (d := d_everybody) rfl; exact ⟨_, fd, F, He.glo_ok X G (c.fact 8 (f := .glo "everybody") rfl)⟩)
  have c_apart_in := ok_apart_in (P := P) (w := w) (K := K) (mg := mg) (base := base) bi (by obtain ⟨fd, F⟩ := c.def_ 9 (d := d_apart_in) rfl; exact ⟨_, fd, F, He.glo_ok X G (c.fact 9 (f := .glo "apart_in") rfl)⟩)
  have c_choices := ok_choices (P := P) (w := w) (K := K) (mg := mg) (base := base) bi (by obtain ⟨fd, F⟩ := c.def_ 10 (d := d_choices) rfl; exact ⟨_, fd, F, He.glo_ok X G (c.fact 10 (f := .glo "choices") rfl)⟩)
  have c_call_in := ok_call_in (P := P) (w := w) (K := K) (mg := mg) (base := base) bi (by obtain ⟨fd, F⟩ := c.def_ 11 (d := d_call_in) rfl; exact ⟨_, fd, F, He.glo_ok X G (c.fact 11 (f := .glo "call_in") rfl)⟩)
  have c_story_in := ok_story_in (P := P) (w := w) (K := K) (mg := mg) (base := base) bi c_call_in (by obtain ⟨fd, F⟩ := c.def_ 12 (d := d_story_in) rfl; exact ⟨_, fd, F, He.glo_ok X G (c.fact 12 (f := .glo "story_in") rfl)⟩)
  have c_may_call := ok_may_call (P := P) (w := w) (K := K) (mg := mg) (base := base) bi (by obtain ⟨fd, F⟩ := c.def_ 13 (d := d_may_call) rfl; exact ⟨_, fd, F, He.glo_ok X G (c.fact 13 (f := .glo "may_call") rfl)⟩)
  have c_fits := ok_fits (P := P) (w := w) (K := K) (mg := mg) (base := base) bi c_may_call c_taller_in (by obtain ⟨fd, F⟩ := c.def_ 14 (d := d_fits) rfl; exact ⟨_, fd, F, He.glo_ok X G (c.fact 14 (f := .glo "fits") rfl)⟩)
  have c_ends_in := ok_ends_in (P := P) (w := w) (K := K) (mg := mg) (base := base) bi c_choices c_apart_in c_fits (by obtain ⟨fd, F⟩ := c.def_ 15 (d := d_ends_in) rfl; exact ⟨_, fd, F, He.glo_ok X G (c.fact 15 (f := .glo "ends_in") rfl)⟩)
  have c_ends := ok_ends (P := P) (w := w) (K := K) (mg := mg) (base := base) bi c_need_state c_ends_in (by obtain ⟨fd, F⟩ := c.def_ 16 (d := d_ends) rfl; exact ⟨_, fd, F, He.glo_ok X G (c.fact 16 (f := .glo "ends") rfl)⟩)
  have c_count_ends := ok_count_ends (P := P) (w := w) (K := K) (mg := mg) (base := base) bi c_need_state c_ends_in (by obtain ⟨fd, F⟩ := c.def_ 17 (d := d_count_ends) rfl; exact ⟨_, fd, F, He.glo_ok X G (c.fact 17 (f := .glo "count_ends") rfl)⟩)
  have c_shared := ok_shared (P := P) (w := w) (K := K) (mg := mg) (base := base) bi (by obtain ⟨fd, F⟩ := c.def_ 18 (d := d_shared) rfl; exact ⟨_, fd, F, He.glo_ok X G (c.fact 18 (f := .glo "shared") rfl)⟩)
  have c_ratio := ok_ratio (P := P) (w := w) (K := K) (mg := mg) (base := base) bi c_shared (by obtain ⟨fd, F⟩ := c.def_ 19 (d := d_ratio) rfl; exact ⟨_, fd, F, He.glo_ok X G (c.fact 19 (f := .glo "ratio") rfl)⟩)
  have c_plus := ok_plus (P := P) (w := w) (K := K) (mg := mg) (base := base) bi c_ratio (by obtain ⟨fd, F⟩ := c.def_ 20 (d := d_plus) rfl; exact ⟨_, fd, F, He.glo_ok X G (c.fact 20 (f := .glo "plus") rfl)⟩)
  have c_all_orders := ok_all_orders (P := P) (w := w) (K := K) (mg := mg) (base := base) bi (by obtain ⟨fd, F⟩ := c.def_ 21 (d := d_all_orders) rfl; exact ⟨_, fd, F, He.glo_ok X G (c.fact 21 (f := .glo "all_orders") rfl)⟩)
  have c_need_few := ok_need_few (P := P) (w := w) (K := K) (mg := mg) (base := base) bi c_need_state (by obtain ⟨fd, F⟩ := c.def_ 22 (d := d_need_few) rfl; exact ⟨_, fd, F, He.glo_ok X G (c.fact 22 (f := .glo "need_few") rfl)⟩)
  have c_counts_in := ok_counts_in (P := P) (w := w) (K := K) (mg := mg) (base := base) bi c_all_orders c_story_in (by obtain ⟨fd, F⟩ := c.def_ 23 (d := d_counts_in) rfl; exact ⟨_, fd, F, He.glo_ok X G (c.fact 23 (f := .glo "counts_in") rfl)⟩)
  have c_order_counts := ok_order_counts (P := P) (w := w) (K := K) (mg := mg) (base := base) bi c_need_few c_counts_in (by obtain ⟨fd, F⟩ := c.def_ 24 (d := d_order_counts) rfl; exact ⟨_, fd, F, He.glo_ok X G (c.fact 24 (f := .glo "order_counts") rfl)⟩)
  have c_order_chances := ok_order_chances (P := P) (w := w) (K := K) (mg := mg) (base := base) bi c_need_few c_counts_in c_ratio (by obtain ⟨fd, F⟩ := c.def_ 25 (d := d_order_chances) rfl; exact ⟨_, fd, F, He.glo_ok X G (c.fact 25 (f := .glo "order_chances") rfl)⟩)
  have c_stand_chance := ok_stand_chance (P := P) (w := w) (K := K) (mg := mg) (base := base) bi c_need_state c_need_person c_need_few c_counts_in c_ratio (by obtain ⟨fd, F⟩ := c.def_ 26 (d := d_stand_chance) rfl; exact ⟨_, fd, F, He.glo_ok X G (c.fact 26 (f := .glo "stand_chance") rfl)⟩)
  have c_mean_standing := ok_mean_standing (P := P) (w := w) (K := K) (mg := mg) (base := base) bi k_ZERO c_need_few c_counts_in c_plus c_ratio (by obtain ⟨fd, F⟩ := c.def_ 27 (d := d_mean_standing) rfl; exact ⟨_, fd, F, He.glo_ok X G (c.fact 27 (f := .glo "mean_standing") rfl)⟩)
  have c__law_taken := ok__law_taken (P := P) (w := w) (K := K) (mg := mg) (base := base) bi (by obtain ⟨fd, F⟩ := c.def_ 28 (d := d__law_taken) rfl; exact ⟨_, fd, F, He.glo_ok X G (c.fact 28 (f := .glo "_law_taken") rfl)⟩)
  have c__law_gcd := ok__law_gcd (P := P) (w := w) (K := K) (mg := mg) (base := base) bi (by obtain ⟨fd, F⟩ := c.def_ 29 (d := d__law_gcd) rfl; exact ⟨_, fd, F, He.glo_ok X G (c.fact 29 (f := .glo "_law_gcd") rfl)⟩)
  have c__law_lowest := ok__law_lowest (P := P) (w := w) (K := K) (mg := mg) (base := base) bi c__law_gcd (by obtain ⟨fd, F⟩ := c.def_ 30 (d := d__law_lowest) rfl; exact ⟨_, fd, F, He.glo_ok X G (c.fact 30 (f := .glo "_law_lowest") rfl)⟩)
  have c__law_by := ok__law_by (P := P) (w := w) (K := K) (mg := mg) (base := base) bi (by obtain ⟨fd, F⟩ := c.def_ 31 (d := d__law_by) rfl; exact ⟨_, fd, F, He.glo_ok X G (c.fact 31 (f := .glo "_law_by") rfl)⟩)
  have c__law_plus := ok__law_plus (P := P) (w := w) (K := K) (mg := mg) (base := base) bi c__law_lowest (by obtain ⟨fd, F⟩ := c.def_ 32 (d := d__law_plus) rfl; exact ⟨_, fd, F, He.glo_ok X G (c.fact 32 (f := .glo "_law_plus") rfl)⟩)
  have c__law_times := ok__law_times (P := P) (w := w) (K := K) (mg := mg) (base := base) bi c__law_lowest (by obtain ⟨fd, F⟩ := c.def_ 33 (d := d__law_times) rfl; exact ⟨_, fd, F, He.glo_ok X G (c.fact 33 (f := .glo "_law_times") rfl)⟩)
  exact fn_pure (T := T_law) (k := 6) (N := ["_law_script", "_law_row", "_law_many", "_law_web", "_law_part", "_law_whole", "_law_mean", "_law_begin", "_law_chances", "_law_number", "_law_person", "_law_some", "_law_far", "_law_one", "_law_at", "_law_end", "_law_chance"]) F sc_law rfl (by decide) (fun cdv A outer s H E hr => sw_law bi c__law_taken c__law_by c_everybody c__law_times c__law_plus c_ends c_stand_chance c_mean_standing c_count_ends c_order_counts c_order_chances cdv A outer s H E _ hr)
end W
open PySem PySem.W PySem.Calls PyProof.Rows
theorem PySem.Challenge.cw_tallsits_k75_whole_stairs_by_lot_holds : PySem.Challenge.rw_tallsits_k75_whole_stairs_by_lot.Holds := by
  w_on; o_law
  refine HandSHeadRun.head_any (r := OpenLaw.row PySem.Challenge.rw_tallsits_k75_whole_stairs_by_lot) (q := view (OpenLaw.row PySem.Challenge.rw_tallsits_k75_whole_stairs_by_lot).prog [51]) (H := W.hk) (ob := W.ob) (M := 4000) (loose := W.loose) (d := HandSHeadRun.topDef (OpenLaw.row PySem.Challenge.rw_tallsits_k75_whole_stairs_by_lot).prog 51) (kwd := []) W.ob_eq
    (by kernel_rfl) (fun s => by kernel_rfl) W.run (by kernel_rfl) (by kernel_rfl) (by kernel_rfl) (by rfl) (by first | assumption | decide +kernel) (by decide +kernel) ⟨rfl, rfl, rfl, rfl, rfl, by decide +kernel⟩ ?hw ?hc
  case hw => w_witness2
  case hc =>
    refine L2.walk_ofE (l := PySem.Challenge.rw_tallsits_k75_whole_stairs_by_lot) (n := 63) (k := 7) (x := "_law_script") (CX := L2.CX0) rfl (by decide) (by kernel_rfl) ⟨rfl, by decide, by decide⟩ ?F (fun _ _ _ _ z => z)
    intro w mg fa h Y G hmg0
    obtain ⟨K, KX, c, cx⟩ := Y
    have hmg : mg ("law" : PySem.Str) = some (.ref fa) := by
      have e : (HandSHeadRun.topDef (OpenLaw.row PySem.Challenge.rw_tallsits_k75_whole_stairs_by_lot).prog 51).name = ("law" : PySem.Str) := by kernel_rfl
      rw [← e]
      exact hmg0
    obtain ⟨fd, hb, hF⟩ := W.facts (P := (PySem.Challenge.rw_tallsits_k75_whole_stairs_by_lot).prog) (w := w) KX G hmg c cx
    refine ⟨K, fd, _, KX, hb, fun H a ns hl _ hS => ?_, hF⟩
    exact ⟨rfl, H, [.list (ns.map .int)], L2.Same.refl _, .cons (.lst hS (L2.P.dpAll_of_ints ns)) .nil, W.law_value ns hl _ fun F' H' v _ _ _ _ d => L2.P.Dp.inv_bl d⟩


