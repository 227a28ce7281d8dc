import PyProof.Rows.All
import Wide.All
import OpenK.AllK
import Wide.FinOn
import HandS.ForMost
import HandS.Star
import HandS.IsInst
import HandS.SortInts
import HandS.Wide
import HandS.WordsExc
import HandS.Walk
import HandS.Flow
import HandS.CallSlots
import KE.KeyNested
import KE.KDictWalk
import HandS.Lambda
import HandS.Deep
import HandS.WordsDict
import HandS.TupAny
import KE.GoesMore
import HandS.Style
import HandS.FStr
import HandS.DictComp
import HandS.Comp
import HandS.DictTup
import HandS.List
import PyProof.P3In
import HandS.Defaults
import HandS.Conv
import HandS.RaiseMore
import HandS.OwnEq
import HandS.TupMul
import HandS.SortRule
import HandS.Iter
import KE.KDictDisplayH
import PyProof.Rows.SumAny
import KE.KDictCopyH
import KE.KDictList
import HandS.TupLen
import HandS.More
import HandS.Codes
import PyProof.InstNe
import HandS.SetFor
import HandS.SetKeys
import PyProof.Rows.SetFrom
import PyProof.SetRoads
import HandS.TupLe
import HandS.TryOnly
import HandS.Text
import HandS.ExcField
import HandS.ExcIs
import HandS.ExcInit
import KE.KExcIs
import HandS.TryMany
import PyProof.StrBlock2
import HandS.ClsMeth
import HandS.NoneIn
import HandS.MakeKw
import HandS.HeadHook3
import HandS.ReplaceLit
import HandS.SortOrd
import HandS.NamedTupSort
import KE.SortData
import KE.GoesEnumKw
import PyProof.ZipIter
import KE.KDictKeyed
import HandS.Zip
import HandS.EndTab
import HandS.ExcOwn
import KE.KNestM
import PySem.Challenge.RW_turnrota_k02_rotas_made
import PyProof.Rows.StrJoinMade
import PyProof.Rows.SetFoldBridge
set_option Elab.async false
set_option linter.all false
set_option maxRecDepth 100000
set_option maxHeartbeats 4000000
namespace NK
open PySem PySem.Spec PyProof.Rows L2
/-! ### dicts whose keys are an int and a tuple of ints -/
abbrev NKey := Int × List Int
def nk (k : NKey) : NestedKey := .tup [.num k.1, .tup (k.2.map .num)]
def nHash (k : NKey) : Int := reduceHash (Builtin.Tuple.tupleHashOf [hashInt k.1, reduceHash (Builtin.Tuple.tupleHashOf (k.2.map hashInt))])
/-- where a key is -/
def KAt (K : PySem.W.Frag) (H : Hp) (ka : Addr) (k : NKey) : Prop := ∃ b, H ka = some (.tup [.int k.1, .ref b]) ∧ (H b = some (.tup (k.2.map V.int)) ∨ (k.2 = [] ∧ SqT K H b []))
/-! ### entries -/
abbrev NE := NKey × Addr × V
def ent (p : NE) (u : Value) : DictEntry := ⟨nHash p.1, .ref p.2.1, u⟩
def xsOf : List NE → List Value → List (NestedKey × Addr × Value) := List.zipWith fun p u => (nk p.1, p.2.1, u)
/-- one value of an object each -/
abbrev Vs (kvs : List NE) (us : List Value) : Prop := Vals (kvs.map (·.2.2)) us
/-! ### the dict on the heap -/
def DFit (a : Addr) (o : Obj) (kvs : List NE) : Prop := kvs.length ≤ sizeLine ∧ (a == sysModules) = false ∧ (kvs.map (·.1)).Nodup ∧ ∃ (us : List Value) (es : Array DictEntry) (ep : Nat), Vs kvs us ∧ o.ExactDict ∧ o.data = .dict es ep ∧ es.toList = List.zipWith ent kvs us
/-- the dict at a: its object, its keys with where they are -/
def DN (a : Addr) (o : Obj) (kvs : List NE) : HO := .ext fun h => h.get? a = some o ∧ DFit a o kvs
def DKs (K : PySem.W.Frag) (H : Hp) (kvs : List NE) : Prop := ∀ p ∈ kvs, KAt K H p.2.1 p.1
structure Held (X : Cx) (s : Shared) (a : Addr) (ob : Obj) (kvs : List NE) (us : List Value) (es : Array DictEntry) (ep : Nat) : Prop where
  sz : kvs.length ≤ sizeLine
  ns : (a == sysModules) = false
  nd : (kvs.map (·.1)).Nodup
  vs : Vs kvs us
  raw : s.heap.DictRaw a es ep
  dat : ob.data = .dict es ep
  ent : es.toList = List.zipWith NK.ent kvs us
  dic : s.heap.DictOfH (nestedKind X.prog X.w) a (xsOf kvs us)
end NK
namespace Dl
open PySem PySem.Spec PyProof.Rows L2
/-! ### data -/
inductive Dt where
  | non | bl (b : Bool) | int (i : Int) | str (x : Str) | ty (n : String)
  | scr (ns : List Int) | lst (xs : List Dt) | tup (xs : List Dt) | dic (t : Bool) (ks vs : List Dt) | ins (c : Nat) (vs : List Dt)
  /-- a list of an inner list of ints, held by it alone, and an int -/
  | deal (cs : List Int) (bl : Int)
  /-- a class of the text; an instance of which it is known where it is -/
  | cls (c : Nat) | obj (a c : Nat) (vs : List Dt)
  /-- a dict whose keys are an int and a tuple of ints -/
  | dcn (ks vs : List Dt)
  /-- a table of code objects of the name q; a lambda's function object: its code, and what its maker's names held -/
  | tbl (q : Str) | lam (f c : Addr) (q : Str) (σ : List (Option V)) (is : List Nat) (ds : List Dt)
/-- a parameter that the caller goes on holding: where it is, and what it holds alone -/
abbrev Pin := Addr × List Addr
/-- the classes of the text: their addresses, their fields in order -/
structure Tx where
  K : PySem.W.Frag
  cl : Nat → Option (Addr × List Str)
def kD : Key → Dt
  | .inl i => .int i
  | .inr x => .str x
def nkD (k : NK.NKey) : Dt := .tup [.int k.1, .tup (k.2.map .int)]
abbrev Le (F H : Hp) : Prop := ∀ a o, F a = some o → H a = some o
mutual
inductive Rep (T : Tx) (F : Hp) : V → Dt → Prop
  | non : Rep T F .non .non
  | bl (b : Bool) : Rep T F (.bl b) (.bl b)
  | int (i : Int) : Rep T F (.int i) (.int i)
  | str (x : Str) : Rep T F (.str x) (.str x)
  | ty (n : String) : Rep T F (.ty n) (.ty n)
  | scr {a : Addr} {ns : List Int} : SqL T.K F a (ns.map V.int) → Rep T F (.ref a) (.scr ns)
  | lst {a : Addr} {vs : List V} {ds : List Dt} : F a = some (.lst vs) → Reps T F vs ds → Rep T F (.ref a) (.lst ds)
  | tup {a : Addr} {vs : List V} {ds : List Dt} : F a = some (.tup vs) → Reps T F vs ds → Rep T F (.ref a) (.tup ds)
  | tup0 {a : Addr} : SqT T.K F a [] → Rep T F (.ref a) (.tup [])
  | dicK {a : Addr} {ks : List Key} {vs : List V} {ds : List Dt} : F a = some (.dK (ks.zip vs)) → ks.length = vs.length → Reps T F vs ds → Rep T F (.ref a) (.dic false (ks.map kD) ds)
  | dicT {a : Addr} {ks : List (List Key)} {vs : List V} {ds : List Dt} : F a = some (.dT (ks.zip vs)) → ks.length = vs.length → Reps T F vs ds → Rep T F (.ref a) (.dic true (ks.map fun l => .tup (l.map kD)) ds)
  | ins {a C dx : Addr} {c : Nat} {ns : List Str} {vs : List V} {ds : List Dt} : T.cl c = some (C, ns) → F a = some (.ins C dx (ns.zip vs)) → vs.length ≤ ns.length → Reps T F vs ds → Rep T F (.ref a) (.ins c ds)
  | deal {a b : Addr} {cs : List Int} {bl : Int} : F a = some (.lst [.ref b, .int bl]) → F b = some (.lst (cs.map V.int)) → Rep T F (.ref a) (.deal cs bl)
  | cls {C : Addr} {c : Nat} {ns : List Str} : T.cl c = some (C, ns) → Rep T F (.ref C) (.cls c)
  | obj {a C dx : Addr} {c : Nat} {ns : List Str} {vs : List V} {ds : List Dt} : T.cl c = some (C, ns) → F a = some (.ins C dx (ns.zip vs)) → vs.length ≤ ns.length → Reps T F vs ds → Rep T F (.ref a) (.obj a c ds)
  | dcn {a : Addr} {ob : Obj} {kvs : List NK.NE} {ds : List Dt} : F a = some (NK.DN a ob kvs) → NK.DKs T.K F kvs → Reps T F (kvs.map (·.2.2)) ds → Rep T F (.ref a) (.dcn (kvs.map fun p => nkD p.1) ds)
  | tbl {a : Addr} {ps : Array Value} {q : Str} : F a = some (.tbl ps) → Rep T F (.ref a) (.tbl q)
  | lam {f c : Addr} {q : Str} {σ : List (Option V)} {is : List Nat} {vs : List V} {ds : List Dt} : F c = some (LamX.CodeO c q) → vs.length = is.length → (∀ (j i : Nat) (v : V), is[j]? = some i → vs[j]? = some v → σ[i]? = some (some v)) → Reps T F vs ds → Rep T F (.ref f) (.lam f c q σ is ds)
inductive Reps (T : Tx) (F : Hp) : List V → List Dt → Prop
  | nil : Reps T F [] []
  | cons {v : V} {vs : List V} {d : Dt} {ds : List Dt} : Rep T F v d → Reps T F vs ds → Reps T F (v :: vs) (d :: ds)
end
theorem le_refl (H : Hp) : Le H H := fun _ _ h => h
theorem le_trans {A B C : Hp} (h : Le A B) (k : Le B C) : Le A C := fun a o e => k a o (h a o e)
theorem le_new {H : Hp} {p : Addr} {o : HO} (h : H p = none) : Le H (upd H p o) := fun a u e => by
  rw [upd_ne (ne_of_none e h)]; exact e
theorem sql_mono {K : PySem.W.Frag} {H H' : Hp} {a : Addr} {xs : List V} (e : Le H H') (h : SqL K H a xs) : SqL K H' a xs := Same.seq e h
theorem sqt_mono {K : PySem.W.Frag} {H H' : Hp} {a : Addr} {xs : List V} (e : Le H H') (h : SqT K H a xs) : SqT K H' a xs := by
  rcases h with (h | ⟨o, h⟩) | h
  · exact .inl (.inl (e _ _ h))
  · exact .inl (.inr ⟨o, e _ _ h⟩)
  · exact .inr h
theorem kat_mono {K : PySem.W.Frag} {F F' : Hp} (e : Le F F') {a : Addr} {k : NK.NKey} (h : NK.KAt K F a k) : NK.KAt K F' a k := let ⟨b, h1, h2⟩ := h; ⟨b, e _ _ h1, h2.elim (fun z => .inl (e _ _ z)) fun z => .inr ⟨z.1, sqt_mono e z.2⟩⟩
theorem dks_mono {K : PySem.W.Frag} {F F' : Hp} (e : Le F F') {kvs : List NK.NE} (h : NK.DKs K F kvs) : NK.DKs K F' kvs := fun p hp => kat_mono e (h p hp)
section
variable {T : Tx} {F F' : Hp}
mutual
theorem Rep.mono (e : Le F F') : ∀ {v : V} {d : Dt}, Rep T F v d → Rep T F' v d
  | _, _, .non => .non
  | _, _, .bl b => .bl b
  | _, _, .int i => .int i
  | _, _, .str x => .str x
  | _, _, .ty n => .ty n
  | _, _, .scr h => .scr (sql_mono e h)
  | _, _, .lst h r => .lst (e _ _ h) (Reps.mono e r)
  | _, _, .tup h r => .tup (e _ _ h) (Reps.mono e r)
  | _, _, .tup0 h => .tup0 (sqt_mono e h)
  | _, _, .dicK h l r => .dicK (e _ _ h) l (Reps.mono e r)
  | _, _, .dicT h l r => .dicT (e _ _ h) l (Reps.mono e r)
  | _, _, .ins c h l r => .ins c (e _ _ h) l (Reps.mono e r)
  | _, _, .deal h l => .deal (e _ _ h) (e _ _ l)
  | _, _, .cls h => .cls h
  | _, _, .obj c h l r => .obj c (e _ _ h) l (Reps.mono e r)
  | _, _, .dcn h l r => .dcn (e _ _ h) (dks_mono e l) (Reps.mono e r)
  | _, _, .tbl h => .tbl (e _ _ h)
  | _, _, .lam h l g r => .lam (e _ _ h) l g (Reps.mono e r)
theorem Reps.mono (e : Le F F') : ∀ {vs : List V} {ds : List Dt}, Reps T F vs ds → Reps T F' vs ds
  | _, _, .nil => .nil
  | _, _, .cons h r => .cons (Rep.mono e h) (Reps.mono e r)
end
theorem Reps.length : ∀ {vs : List V} {ds : List Dt}, Reps T F vs ds → vs.length = ds.length
  | _, _, .nil => rfl
  | _, _, .cons _ r => by rw [List.length_cons, List.length_cons, Reps.length r]
theorem Reps.get : ∀ {vs : List V} {ds : List Dt} {i : Nat} {d : Dt}, Reps T F vs ds → ds[i]? = some d → ∃ v, vs[i]? = some v ∧ Rep T F v d
  | _, _, _, _, .nil, e => by simp at e
  | _, _, 0, _, .cons h _, e => by simp at e; subst e; exact ⟨_, rfl, h⟩
  | _, _, i + 1, d, .cons _ r, e => by
    obtain ⟨v, h1, h2⟩ := Reps.get (i := i) (d := d) r (by simpa using e)
    exact ⟨v, by simpa using h1, h2⟩
theorem Reps.append : ∀ {vs ws : List V} {ds es : List Dt}, Reps T F vs ds → Reps T F ws es → Reps T F (vs ++ ws) (ds ++ es)
  | _, _, _, _, .nil, s => s
  | _, _, _, _, .cons h r, s => .cons h (Reps.append r s)
theorem Reps.set {v : V} {d : Dt} (h : Rep T F v d) : ∀ {vs : List V} {ds : List Dt} (i : Nat), Reps T F vs ds → Reps T F (vs.set i v) (ds.set i d)
  | _, _, _, .nil => .nil
  | _, _, 0, .cons _ r => .cons h r
  | _, _, i + 1, .cons q r => .cons q (Reps.set h i r)
theorem Reps.take : ∀ {vs : List V} {ds : List Dt} (n : Nat), Reps T F vs ds → Reps T F (vs.take n) (ds.take n)
  | _, _, 0, _ => .nil
  | _, _, _ + 1, .nil => .nil
  | _, _, n + 1, .cons h r => .cons h (Reps.take n r)
theorem Reps.drop : ∀ {vs : List V} {ds : List Dt} (n : Nat), Reps T F vs ds → Reps T F (vs.drop n) (ds.drop n)
  | _, _, 0, h => h
  | _, _, _ + 1, .nil => .nil
  | _, _, n + 1, .cons _ r => Reps.drop n r
theorem Reps.mk : ∀ {vs : List V} {ds : List Dt}, vs.length = ds.length → (∀ (i : Nat) v d, vs[i]? = some v → ds[i]? = some d → Rep T F v d) → Reps T F vs ds
  | [], [], _, _ => .nil
  | [], _ :: _, h, _ => by simp at h
  | _ :: _, [], h, _ => by simp at h
  | v :: vs, d :: ds, h, f => .cons (f 0 v d rfl rfl) (Reps.mk (by simpa using h) fun i w e a b => f (i + 1) w e (by simpa using a) (by simpa using b))
end
theorem Rep.tup_inv {T : Tx} {F : Hp} {v : V} {ds : List Dt} (h : Rep T F v (.tup ds)) : ∃ a vs, v = .ref a ∧ SqT T.K F a vs ∧ Reps T F vs ds := by
  cases h with
  | tup e r => exact ⟨_, _, rfl, SqT.of e, r⟩
  | tup0 e => exact ⟨_, _, rfl, e, .nil⟩
/-- an object that one slot holds alone: it stands in H, not among the frozen ones -/
def OwnAt (T : Tx) (F H : Hp) (a : Addr) : Dt → Prop
  | .lst ds => ∃ vs, H a = some (.lst vs) ∧ Reps T F vs ds
  | .dic false ks ds => ∃ (kk : List Key) (vs : List V), H a = some (.dK (kk.zip vs)) ∧ kk.length = vs.length ∧ ks = kk.map kD ∧ Reps T F vs ds
  | .dic true ks ds => ∃ (kk : List (List Key)) (vs : List V), H a = some (.dT (kk.zip vs)) ∧ kk.length = vs.length ∧ (ks = kk.map fun l => .tup (l.map kD)) ∧ Reps T F vs ds
  | .ins c ds => ∃ (C dx : Addr) (ns : List Str) (vs : List V), T.cl c = some (C, ns) ∧ H a = some (.ins C dx (ns.zip vs)) ∧ vs.length ≤ ns.length ∧ Reps T F vs ds
  | .deal cs bl => ∃ b, H a = some (.lst [.ref b, .int bl]) ∧ H b = some (.lst (cs.map V.int)) ∧ b ≠ a
  | .dcn ks ds => ∃ (ob : Obj) (kvs : List NK.NE), H a = some (NK.DN a ob kvs) ∧ NK.DKs T.K F kvs ∧ (ks = kvs.map fun p => nkD p.1) ∧ Reps T F (kvs.map (·.2.2)) ds
  | .tbl q => ∃ ps : Array Value, H a = some (.tbl ps) ∧ TriplesOk ps.toList ∧ ∀ (pos : Pos) (cv : Value), codeAmong pos ps.toList = some cv → ∃ c, cv = .ref c ∧ F c = some (LamX.CodeO c q)
  | _ => False
/-- what a slot's own object holds alone -/
def inH (H : Hp) (a : Addr) : Dt → List Addr
  | .deal _ _ => (match H a with | some (.lst (.ref b :: _)) => [b] | _ => [])
  | _ => []
theorem OwnAt.has {T : Tx} {F H : Hp} {a : Addr} {d : Dt} (h : OwnAt T F H a d) : ∃ o, H a = some o ∧ ∀ vs, o ≠ .tup vs := by
  cases d with
  | lst ds => obtain ⟨_, e, _⟩ := h; exact ⟨_, e, fun _ z => nomatch z⟩
  | dic t ks ds =>
    cases t with
    | false => obtain ⟨_, _, e, _⟩ := h; exact ⟨_, e, fun _ z => nomatch z⟩
    | true => obtain ⟨_, _, e, _⟩ := h; exact ⟨_, e, fun _ z => nomatch z⟩
  | ins c ds => obtain ⟨_, _, _, _, _, e, _⟩ := h; exact ⟨_, e, fun _ z => nomatch z⟩
  | deal cs bl => obtain ⟨_, e, _⟩ := h; exact ⟨_, e, fun _ z => nomatch z⟩
  | dcn ks ds => obtain ⟨_, _, e, _⟩ := h; exact ⟨_, e, fun _ z => nomatch z⟩
  | tbl q => obtain ⟨_, e, _⟩ := h; exact ⟨_, e, fun _ z => nomatch z⟩
  | _ => exact h.elim
theorem inH_deal {H : Hp} {a b : Addr} {cs : List Int} {bl bl' : Int} (h : H a = some (.lst [.ref b, .int bl])) : inH H a (.deal cs bl') = [b] := by
  unfold inH; dsimp only; rw [h]
theorem OwnAt.hasI {T : Tx} {F H : Hp} {a x : Addr} {d : Dt} (h : OwnAt T F H a d) (hx : x = a ∨ x ∈ inH H a d) : ∃ o, H x = some o ∧ ∀ vs, o ≠ .tup vs := by
  rcases hx with hx | hx
  · rw [hx]; exact h.has
  · cases d with
    | deal cs bl => obtain ⟨b, e1, e2, e3⟩ := h; rw [inH_deal e1] at hx; rw [List.mem_singleton.mp hx]; exact ⟨_, e2, fun _ z => nomatch z⟩
    | _ => cases hx
theorem OwnAt.same {T : Tx} {F H H' : Hp} {a : Addr} {d : Dt} (h : OwnAt T F H a d) (ha : ∀ o, H a = some o → H' a = some o) : inH H' a d = inH H a d := by
  cases d with
  | deal cs bl => obtain ⟨b, e1, e2, e3⟩ := h; rw [inH_deal e1, inH_deal (ha _ e1)]
  | _ => rfl
theorem OwnAt.mono {T : Tx} {F F' H H' : Hp} {a : Addr} {d : Dt} (e : Le F F') (ha : ∀ x, (x = a ∨ x ∈ inH H a d) → ∀ o, H x = some o → H' x = some o) (h : OwnAt T F H a d) : OwnAt T F' H' a d := by
  have ha0 := ha a (.inl rfl)
  cases d with
  | lst ds => obtain ⟨vs, x, r⟩ := h; exact ⟨vs, ha0 _ x, r.mono e⟩
  | dic t ks ds =>
    cases t with
    | false => obtain ⟨kk, vs, x, l, k, r⟩ := h; exact ⟨kk, vs, ha0 _ x, l, k, r.mono e⟩
    | true => obtain ⟨kk, vs, x, l, k, r⟩ := h; exact ⟨kk, vs, ha0 _ x, l, k, r.mono e⟩
  | ins c ds => obtain ⟨C, dx, ns, vs, c1, x, l, r⟩ := h; exact ⟨C, dx, ns, vs, c1, ha0 _ x, l, r.mono e⟩
  | deal cs bl => obtain ⟨b, e1, e2, e3⟩ := h; exact ⟨b, ha0 _ e1, ha b (.inr (by rw [inH_deal e1]; exact List.mem_singleton.mpr rfl)) _ e2, e3⟩
  | dcn ks ds => obtain ⟨ob, kvs, x, l, k, r⟩ := h; exact ⟨ob, kvs, ha0 _ x, dks_mono e l, k, r.mono e⟩
  | tbl q => obtain ⟨ps, x, l, r⟩ := h; exact ⟨ps, ha0 _ x, l, fun pos cv z => let ⟨c, h1, h2⟩ := r pos cv z; ⟨c, h1, e _ _ h2⟩⟩
  | _ => exact h.elim
/-- it is frozen -/
theorem OwnAt.frozen {T : Tx} {F H : Hp} {a : Addr} {d : Dt} (h : OwnAt T F H a d) (le : Le F H) (hf : F a = none) (hi : ∀ x ∈ inH H a d, F x = none) :
    ∃ F', Le F F' ∧ Le F' H ∧ (∀ y, y ≠ a → y ∉ inH H a d → F' y = F y) ∧ Rep T F' (.ref a) d := by
  have one : ∀ o, H a = some o → Le F (upd F a o) ∧ Le (upd F a o) H ∧ ∀ y, y ≠ a → upd F a o y = F y := fun o ho =>
    ⟨le_new hf, fun y u z => by
      by_cases zz : y = a
      · subst zz; rw [upd_same] at z; cases z; exact ho
      · rw [upd_ne zz] at z; exact le y u z, fun y hy => upd_ne hy⟩
  cases d with
  | lst ds =>
    obtain ⟨vs, x, r⟩ := h; obtain ⟨e1, e2, e3⟩ := one _ x
    exact ⟨_, e1, e2, fun y hy _ => e3 y hy, .lst upd_same (r.mono e1)⟩
  | dic t ks ds =>
    cases t with
    | false =>
      obtain ⟨kk, vs, x, l, k, r⟩ := h; obtain ⟨e1, e2, e3⟩ := one _ x; subst k
      exact ⟨_, e1, e2, fun y hy _ => e3 y hy, .dicK upd_same l (r.mono e1)⟩
    | true =>
      obtain ⟨kk, vs, x, l, k, r⟩ := h; obtain ⟨e1, e2, e3⟩ := one _ x; subst k
      exact ⟨_, e1, e2, fun y hy _ => e3 y hy, .dicT upd_same l (r.mono e1)⟩
  | ins c ds =>
    obtain ⟨C, dx, ns, vs, c1, x, l, r⟩ := h; obtain ⟨e1, e2, e3⟩ := one _ x
    exact ⟨_, e1, e2, fun y hy _ => e3 y hy, .ins c1 upd_same l (r.mono e1)⟩
  | deal cs bl =>
    obtain ⟨b, g1, g2, g3⟩ := h
    obtain ⟨e1, e2, e3⟩ := one _ g1
    rw [inH_deal g1] at hi ⊢
    have hb : F b = none := hi b (List.mem_singleton.mpr rfl)
    have hb2 : upd F a (.lst [.ref b, .int bl]) b = none := by rw [upd_ne g3]; exact hb
    refine ⟨upd (upd F a (.lst [.ref b, .int bl])) b (.lst (cs.map V.int)), le_trans e1 (le_new hb2), fun y u z => ?_, fun y hy hyi => ?_, .deal (b := b) ?_ upd_same⟩
    · by_cases zz : y = b
      · subst zz; rw [upd_same] at z; cases z; exact g2
      · rw [upd_ne zz] at z; exact e2 y u z
    · rw [upd_ne (fun z => hyi (List.mem_singleton.mpr z))]; exact e3 y hy
    · rw [upd_ne (fun z => g3 z.symm)]; exact upd_same
  | dcn ks ds =>
    obtain ⟨ob, kvs, x, l, k, r⟩ := h; obtain ⟨e1, e2, e3⟩ := one _ x; subst k
    exact ⟨_, e1, e2, fun y hy _ => e3 y hy, .dcn upd_same (dks_mono e1 l) (r.mono e1)⟩
  | tbl q => obtain ⟨ps, x, l, r⟩ := h; obtain ⟨e1, e2, e3⟩ := one _ x; exact ⟨_, e1, e2, fun y hy _ => e3 y hy, .tbl upd_same⟩
  | _ => exact h.elim
/-- to be read: frozen, or a slot's own -/
def RepS (T : Tx) (F H : Hp) (v : V) (d : Dt) : Prop := Rep T F v d ∨ ∃ a, v = .ref a ∧ OwnAt T F H a d
theorem Rep.s {T : Tx} {F H : Hp} {v : V} {d : Dt} (h : Rep T F v d) : RepS T F H v d := .inl h
/-! ### slots -/
inductive Sl where
  | val (d : Dt)
  /-- held alone; io: a parameter that the caller goes on holding -/
  | own (io : Bool) (d : Dt)
abbrev En := List (Option Sl)
def IsOwn (H : Hp) (σ : L2.St) (ρ : En) (x : Addr) : Prop := ∃ (i : Nat) (io : Bool) (d : Dt) (a : Addr), ρ[i]? = some (some (.own io d)) ∧ σ[i]? = some (some (.ref a)) ∧ (x = a ∨ x ∈ inH H a d)
structure Ok (T : Tx) (π : Nat → Option Pin) (A : Addr → Prop) (F H : Hp) (σ : L2.St) (ρ : En) : Prop where
  le : Le F H
  len : σ.length = ρ.length
  val : ∀ (i : Nat) d, ρ[i]? = some (some (.val d)) → ∃ v, σ[i]? = some (some v) ∧ Rep T F v d
  own : ∀ (i : Nat) io d, ρ[i]? = some (some (.own io d)) → ∃ a, σ[i]? = some (some (.ref a)) ∧ F a = none ∧ OwnAt T F H a d ∧ A a ∧ (io = true → π i = some (a, inH H a d)) ∧ ∀ x ∈ inH H a d, F x = none ∧ A x
  dis : ∀ (i j : Nat) io jo d e a b x, ρ[i]? = some (some (.own io d)) → ρ[j]? = some (some (.own jo e)) → σ[i]? = some (some (.ref a)) → σ[j]? = some (some (.ref b)) → (x = a ∨ x ∈ inH H a d) → (x = b ∨ x ∈ inH H b e) → i = j
structure Fr (A : Addr → Prop) (F H F' H' : Hp) : Prop where
  f : Le F F'
  h : ∀ a o, ¬ A a → H a = some o → H' a = some o
  n : ∀ a o, ¬ A a → H a = some o → (∀ vs, o ≠ .tup vs) → F' a = F a
  t : ∀ a, H' a = none → H a = none
theorem Fr.refl {A : Addr → Prop} {F H : Hp} : Fr A F H F H := ⟨le_refl F, fun _ _ _ e => e, fun _ _ _ _ _ => rfl, fun _ e => e⟩
theorem Fr.trans {A : Addr → Prop} {F H F1 H1 F2 H2 : Hp} (a : Fr A F H F1 H1) (b : Fr A F1 H1 F2 H2) : Fr A F H F2 H2 :=
  ⟨le_trans a.f b.f, fun x o hx e => b.h x o hx (a.h x o hx e), fun x o hx e t => by
    rw [b.n x o hx (a.h x o hx e) t, a.n x o hx e t], fun x e => a.t x (b.t x e)⟩
theorem up_none {H : Hp} {p x : Addr} {o : HO} (e : upd H p o x = none) : H x = none := by
  by_cases z : x = p
  · subst z; rw [upd_same] at e; cases e
  · rw [upd_ne z] at e; exact e
/-- a new object, frozen at once -/
theorem Fr.new {A : Addr → Prop} {F H : Hp} {p : Addr} {o : HO} (hf : Le F H) (hp : H p = none) : Fr A F H (upd F p o) (upd H p o) := by
  have fp : F p = none := by
    cases q : F p with
    | none => rfl
    | some u => rw [hf p u q] at hp; cases hp
  refine ⟨le_new fp, fun a u _ e => le_new hp a u e, fun a o _ e _ => ?_, fun a e => up_none e⟩
  rw [upd_ne fun z => by rw [z, hp] at e; cases e]
theorem f_none {F H : Hp} {p : Addr} (hf : Le F H) (hp : H p = none) : F p = none := by
  cases q : F p with
  | none => rfl
  | some u => rw [hf p u q] at hp; cases hp
/-- a new object, not frozen -/
theorem Fr.newO {A : Addr → Prop} {F H : Hp} {p : Addr} {o : HO} (hp : H p = none) : Fr A F H F (upd H p o) := ⟨le_refl F, fun a u _ e => le_new hp a u e, fun _ _ _ _ _ => rfl, fun a e => up_none e⟩
section
variable {T : Tx} {π : Nat → Option Pin} {A : Addr → Prop} {F H F' H' : Hp} {σ : L2.St} {ρ : En}
/-- what stands is kept, the frozen part grows -/
theorem Ok.grow (k : Ok T π A F H σ ρ) (hf : Le F F') (hl : Le F' H') (hn : ∀ a, IsOwn H σ ρ a → F' a = none) (hh : ∀ a o, IsOwn H σ ρ a → H a = some o → H' a = some o) : Ok T π A F' H' σ ρ := by
  have sm : ∀ (i : Nat) io d a, ρ[i]? = some (some (.own io d)) → σ[i]? = some (some (.ref a)) → inH H' a d = inH H a d := fun i io d a e s => by
    obtain ⟨b, h1, h2, h3, h4, h5, h6⟩ := k.own i io d e
    rw [s] at h1
    cases h1
    exact h3.same fun o q => hh a o ⟨i, io, d, a, e, s, .inl rfl⟩ q
  refine ⟨hl, k.len, fun i d e => ?_, fun i io d e => ?_, fun i j io jo d e a b x h1 h2 h3 h4 h5 h6 => k.dis i j io jo d e a b x h1 h2 h3 h4 (by rw [← sm i io d a h1 h3]; exact h5) (by rw [← sm j jo e b h2 h4]; exact h6)⟩
  · obtain ⟨v, h1, h2⟩ := k.val i d e
    exact ⟨v, h1, h2.mono hf⟩
  · obtain ⟨a, h1, h2, h3, h4, h5, h6⟩ := k.own i io d e
    have w : ∀ x, (x = a ∨ x ∈ inH H a d) → IsOwn H σ ρ x := fun x hx => ⟨i, io, d, a, e, h1, hx⟩
    rw [← sm i io d a e h1] at h5 h6
    exact ⟨a, h1, hn a (w a (.inl rfl)), h3.mono hf fun x hx o q => hh x o (w x hx) q, h4, h5, fun x hx => ⟨hn x (w x (.inr (by rw [← sm i io d a e h1]; exact hx))), (h6 x hx).2⟩⟩
/-- the slots' own things are the same where what stands is kept -/
theorem Ok.sameOwn (k : Ok T π A F H σ ρ) (hh : ∀ a o, IsOwn H σ ρ a → H a = some o → H' a = some o) {x : Addr} : IsOwn H' σ ρ x ↔ IsOwn H σ ρ x := by
  have sm : ∀ (i : Nat) io d a, ρ[i]? = some (some (.own io d)) → σ[i]? = some (some (.ref a)) → inH H' a d = inH H a d := fun i io d a e s => by
    obtain ⟨b, h1, h2, h3, h4, h5, h6⟩ := k.own i io d e
    rw [s] at h1
    cases h1
    exact h3.same fun o q => hh a o ⟨i, io, d, a, e, s, .inl rfl⟩ q
  constructor
  · rintro ⟨i, io, d, a, e, s, hx⟩
    exact ⟨i, io, d, a, e, s, by rw [← sm i io d a e s]; exact hx⟩
  · rintro ⟨i, io, d, a, e, s, hx⟩
    exact ⟨i, io, d, a, e, s, by rw [sm i io d a e s]; exact hx⟩
theorem Ok.ownT (k : Ok T π A F H σ ρ) {a : Addr} (w : IsOwn H σ ρ a) : A a ∧ F a = none ∧ ∃ o, H a = some o ∧ ∀ vs, o ≠ .tup vs := by
  obtain ⟨i, io, d, b, e, s, hx⟩ := w
  obtain ⟨c, h1, h2, h3, h4, h5, h6⟩ := k.own i io d e
  rw [s] at h1
  cases h1
  refine ⟨?_, ?_, h3.hasI hx⟩
  · rcases hx with hx | hx
    · rw [hx]; exact h4
    · exact (h6 a hx).2
  · rcases hx with hx | hx
    · rw [hx]; exact h2
    · exact (h6 a hx).1
theorem Ok.ownH (k : Ok T π A F H σ ρ) {a : Addr} (w : IsOwn H σ ρ a) : A a ∧ F a = none ∧ ∃ o, H a = some o := by
  obtain ⟨h1, h2, o, h3, _⟩ := k.ownT w
  exact ⟨h1, h2, o, h3⟩
theorem Ok.new (k : Ok T π A F H σ ρ) {p : Addr} {o : HO} (hp : H p = none) : Ok T π A (upd F p o) (upd H p o) σ ρ := by
  have ne : ∀ a, IsOwn H σ ρ a → a ≠ p := fun a w z => by
    obtain ⟨_, _, u, e⟩ := k.ownH w
    rw [z, hp] at e; cases e
  refine k.grow (le_new (f_none k.le hp)) (fun a u e => ?_) (fun a w => ?_) fun a u w e => ?_
  · by_cases z : a = p
    · subst z; rw [upd_same] at e ⊢; exact e
    · rw [upd_ne z] at e ⊢; exact k.le a u e
  · rw [upd_ne (ne a w)]; exact (k.ownH w).2.1
  · rw [upd_ne (ne a w)]; exact e
theorem Ok.newO (k : Ok T π A F H σ ρ) {p : Addr} {o : HO} (hp : H p = none) : Ok T π A F (upd H p o) σ ρ := by
  refine k.grow (le_refl F) (le_trans k.le (le_new hp)) (fun a w => (k.ownH w).2.1) fun a u w e => ?_
  rw [upd_ne fun z => by rw [z, hp] at e; cases e]; exact e
end
/-! ### results -/
/-- an exception: its class's number, its fields -/
structure Ex where
  c : Nat
  fs : List Dt
inductive Ou (α : Type) where
  | ok (a : α) (ρ : En)
  | exc (x : Ex) (ρ : En)
  | bad
abbrev Mi (α : Type) := En → Ou α
def mPure {α : Type} (a : α) : Mi α := fun ρ => .ok a ρ
def mBad {α : Type} : Mi α := fun _ => .bad
def mBind {α β : Type} (m : Mi α) (k : α → Mi β) : Mi β := fun ρ => match m ρ with
  | .ok a ρ' => k a ρ'
  | .exc x ρ' => .exc x ρ'
  | .bad => .bad
def mOpt {α : Type} : Option α → Mi α
  | some a => mPure a
  | none => mBad
/-- what is known of a flying exception (filled in where exceptions are) -/
def RepX (T : Tx) (F H : Hp) (cls : Value) (d : Option Addr) (x : Ex) : Prop :=
  ∃ (C dx : Addr) (ns : List Str) (vs : List V), T.cl x.c = some (C, ns) ∧ cls = .ref C ∧ vs.length = ns.length ∧ Reps T F vs x.fs ∧
    ((ns = [] ∧ d = none) ∨ (d = some dx ∧ H dx = some (.xd (ns.zip vs))))
def Post {α : Type} (T : Tx) (π : Nat → Option Pin) (W : WX) (σ : L2.St) (A : Addr → Prop) (F H : Hp) (P : α → En → Hp → Hp → Prop) : Ou α → Prop
  | .ok a ρ' => ∀ F' H', Ok T π A F' H' σ ρ' → Fr A F H F' H' → P a ρ' F' H'
  | .exc x ρ' => ∀ F' H' cls d, Ok T π A F' H' σ ρ' → Fr A F H F' H' → RepX T F' H' cls d x → W cls d σ H'
  | .bad => False
section
variable {T : Tx} {π : Nat → Option Pin} {W : WX} {A : Addr → Prop} {F H : Hp} {σ : L2.St} {α β : Type}
theorem Post.imp {P P' : α → En → Hp → Hp → Prop} {o : Ou α} (h : Post T π W σ A F H P o) (f : ∀ a ρ' F' H', Ok T π A F' H' σ ρ' → Fr A F H F' H' → P a ρ' F' H' → P' a ρ' F' H') : Post T π W σ A F H P' o := by
  cases o with
  | ok a ρ' => exact fun F' H' k r => f a ρ' F' H' k r (h F' H' k r)
  | exc x ρ' => exact h
  | bad => exact h
theorem Post.bind {P : β → En → Hp → Hp → Prop} {m : Mi α} {k : α → Mi β} {ρ : En} (h : Post T π W σ A F H P (mBind m k ρ)) :
    Post T π W σ A F H (fun a ρ1 F1 H1 => Post T π W σ A F1 H1 P (k a ρ1)) (m ρ) := by
  unfold mBind at h
  cases e : m ρ with
  | ok a ρ1 =>
    rw [e] at h
    intro F1 H1 k1 r1
    dsimp only at h
    cases e2 : k a ρ1 with
    | ok b ρ2 =>
      rw [e2] at h
      exact fun F2 H2 k2 r2 => h F2 H2 k2 (r1.trans r2)
    | exc x ρ2 =>
      rw [e2] at h
      exact fun F2 H2 c d k2 r2 => h F2 H2 c d k2 (r1.trans r2)
    | bad => rw [e2] at h; exact h.elim
  | exc x ρ1 => rw [e] at h; exact h
  | bad => rw [e] at h; exact h.elim
theorem Post.pure {P : α → En → Hp → Hp → Prop} {a : α} {ρ : En} (h : Post T π W σ A F H P (mPure a ρ)) (k : Ok T π A F H σ ρ) : P a ρ F H := h F H k .refl
theorem Post.opt {P : α → En → Hp → Hp → Prop} {o : Option α} {ρ : En} (h : Post T π W σ A F H P (mOpt o ρ)) : ∃ a, o = some a ∧ Post T π W σ A F H P (mPure a ρ) := by
  cases o with
  | none => exact h.elim
  | some a => exact ⟨a, rfl, h⟩
end
/-! ### the readings of mirrors -/
section
variable (T : Tx) (π : Nat → Option Pin) (W : WX)
/-- a value that may be kept -/
def TMe (m : Mi Dt) : TE := fun σ H Q => ∃ A F ρ, Ok T π A F H σ ρ ∧ Post T π W σ A F H (fun d _ F' H' => ∀ v, Rep T F' v d → Q v H') (m ρ)
/-- a value to be read at once -/
def TMp (m : Mi Dt) : TE := fun σ H Q => ∃ A F ρ, Ok T π A F H σ ρ ∧ Post T π W σ A F H (fun d _ F' H' => ∀ v, RepS T F' H' v d → Q v H') (m ρ)
/-- a new object that nobody else holds -/
def TMn (m : Mi Dt) : TE := fun σ H Q => ∃ A F ρ, Ok T π A F H σ ρ ∧ Post T π W σ A F H (fun d ρ' F' H' => ∀ p, F' p = none → ¬ IsOwn H' σ ρ' p → H p = none → OwnAt T F' H' p d → (∀ x ∈ inH H' p d, F' x = none ∧ ¬ IsOwn H' σ ρ' x ∧ H x = none) → Q (.ref p) H') (m ρ)
def TMt (m : Mi Bool) : TT := fun σ H Q => ∃ A F ρ, Ok T π A F H σ ρ ∧ Post T π W σ A F H (fun b _ _ H' => Q b H') (m ρ)
def TMa (m : Mi (List Dt)) : TA := fun σ H Q => ∃ A F ρ, Ok T π A F H σ ρ ∧ Post T π W σ A F H (fun ds _ F' H' => ∀ vs, Reps T F' vs ds → Q vs H') (m ρ)
end
end Dl
namespace Dl
open PySem PySem.Spec PyProof.Rows L2
theorem _root_.L2.PE.imp {X : Cx} {e : Expr} {t t' : TE} (h : PE X e t) (f : ∀ σ H Q, t' σ H Q → t σ H Q) : PE X e t' := ⟨fun pins s σ H Q I q => h.run pins s σ H Q I (f σ H Q q)⟩
theorem _root_.L2.PT.imp {X : Cx} {e : Expr} {t t' : TT} (h : PT X e t) (f : ∀ σ H Q, t' σ H Q → t σ H Q) : PT X e t' := ⟨fun pins s σ H Q I q => h.run pins s σ H Q I (f σ H Q q)⟩
theorem _root_.L2.PA.imp {X : Cx} {e : List Expr} {t t' : TA} (h : PA X e t) (f : ∀ σ H Q, t' σ H Q → t σ H Q) : PA X e t' := ⟨fun pos pins s σ H Q I q => h.run pos pins s σ H Q I (f σ H Q q)⟩
theorem _root_.L2.PS.imp {X : Cx} {e : Stmt} {t t' : TS} (h : PS X e t) (f : ∀ D σ H, t' D σ H → t D σ H) : PS X e t' := ⟨fun pins s σ H D I q => h.run pins s σ H D I (f D σ H q)⟩
theorem _root_.L2.PSs.imp {X : Cx} {e : List Stmt} {t t' : TS} (h : PSs X e t) (f : ∀ D σ H, t' D σ H → t D σ H) : PSs X e t' := ⟨fun pins s σ H D I q => h.run pins s σ H D I (f D σ H q)⟩
theorem _root_.L2.PG.imp {X : Cx} {e : Expr} {t t' : TG} (h : PG X e t) (f : ∀ v σ H Q, t' v σ H Q → t v σ H Q) : PG X e t' := ⟨fun pins s σ H v u Q I r q => h.run pins s σ H v u Q I r (f v σ H Q q)⟩
theorem _root_.L2.PI.imp {X : Cx} {tg e : Expr} {t t' : TI} (h : PI X tg e t) (f : ∀ σ H Q, t' σ H Q → t σ H Q) : PI X tg e t' := ⟨fun pins s σ H Q I q => h.run pins s σ H Q I (f σ H Q q)⟩
theorem Post.imp2 {T : Tx} {π : Nat → Option Pin} {W : WX} {A : Addr → Prop} {F H : Hp} {σ : L2.St} {α : Type} {P P' : α → En → Hp → Hp → Prop} {o : Ou α} (h : Post T π W σ A F H P o)
    (f : ∀ a ρ', (∀ F' H', Ok T π A F' H' σ ρ' → Fr A F H F' H' → P a ρ' F' H') → ∀ F' H', Ok T π A F' H' σ ρ' → Fr A F H F' H' → P' a ρ' F' H') : Post T π W σ A F H P' o := by
  cases o with
  | ok a ρ' => exact f a ρ' h
  | exc x ρ' => exact h
  | bad => exact h
section
variable {X : Cx} {T : Tx} {π : Nat → Option Pin} {W : WX} {a b c e : Expr} {es : List Expr} {pos : Pos} {m ma mb mc : Mi Dt}
/-! ### from one kind of value to another -/
theorem _root_.L2.PE.peek (h : PE X e (TMe T π W m)) : PE X e (TMp T π W m) := h.imp fun σ H Q ⟨A, F, ρ, k, p⟩ => ⟨A, F, ρ, k, p.imp fun d ρ' F' H' _ _ q v r => q v r.s⟩
theorem _root_.L2.PE.keep (h : PE X e (TMn T π W m)) : PE X e (TMe T π W m) := h.imp fun σ H Q ⟨A, F, ρ, k, p⟩ => ⟨A, F, ρ, k, p.imp2 fun d ρ' q F' H' k' r' x hx nx hp ho hi => by
  obtain ⟨F2, e1, e2, e3, e4⟩ := ho.frozen k'.le hx (fun y hy => (hi y hy).1)
  have ne : ∀ y, IsOwn H' σ ρ' y → F2 y = F' y := fun y w => e3 y (fun z => nx (z ▸ w)) fun z => (hi y z).2.1 w
  have k2 : Ok T π A F2 H' σ ρ' := k'.grow e1 e2 (fun y w => by rw [ne y w]; exact (k'.ownH w).2.1) fun y u w z => z
  refine q F2 H' k2 ⟨le_trans r'.f e1, r'.h, fun y o hy z t => ?_, r'.t⟩ _ e4
  rw [e3 y (fun zz => by rw [zz, hp] at z; cases z) fun zz => by rw [(hi y zz).2.2] at z; cases z]
  exact r'.n y o hy z t⟩
/-! ### names -/
def mVar (i : Nat) : Mi Dt := fun ρ => match ρ[i]? with
  | some (some (.val d)) => .ok d ρ
  | some (some (.own false d)) => .ok d (ρ.set i (some (.val d)))
  | _ => .bad
def mPeek (i : Nat) : Mi Dt := fun ρ => match ρ[i]? with
  | some (some (.val d)) => .ok d ρ
  | some (some (.own _ d)) => .ok d ρ
  | _ => .bad
/-- a slot's own object is frozen -/
theorem Ok.freeze {A : Addr → Prop} {F H : Hp} {σ : L2.St} {ρ : En} (k : Ok T π A F H σ ρ) {i : Nat} {io : Bool} {d : Dt} (e : ρ[i]? = some (some (.own io d))) :
    ∃ a F', σ[i]? = some (some (.ref a)) ∧ Ok T π A F' H σ (ρ.set i (some (.val d))) ∧ Rep T F' (.ref a) d ∧ Fr A F H F' H := by
  obtain ⟨a, h1, h2, h3, h4, h5, h6⟩ := k.own i io d e
  obtain ⟨F2, e1, e2, e3, e4⟩ := h3.frozen k.le h2 (fun y hy => (h6 y hy).1)
  have hi : i < ρ.length := (List.getElem?_eq_some_iff.mp e).1
  have old : ∀ {j : Nat} {jo : Bool} {dj : Dt}, (ρ.set i (some (Sl.val d)))[j]? = some (some (.own jo dj)) → ρ[j]? = some (some (.own jo dj)) ∧ i ≠ j := fun {j jo dj} ej => by
    by_cases hj : i = j
    · subst hj; rw [List.getElem?_set_self hi] at ej; cases ej
    · rw [List.getElem?_set_ne hj] at ej; exact ⟨ej, hj⟩
  refine ⟨a, F2, h1, ⟨e2, by simpa using k.len, fun j dj ej => ?_, fun j jo dj ej => ?_, fun j l jo lo dj dl b c x ej el => k.dis j l jo lo dj dl b c x (old ej).1 (old el).1⟩, e4, ⟨e1, fun _ _ _ z => z, fun b o hb _ _ => e3 b (fun z => hb (by rw [z]; exact h4)) fun z => hb (h6 b z).2, fun _ z => z⟩⟩
  · by_cases hj : i = j
    · subst hj
      rw [List.getElem?_set_self hi] at ej
      cases ej
      exact ⟨.ref a, h1, e4⟩
    · rw [List.getElem?_set_ne hj] at ej
      obtain ⟨v, q1, q2⟩ := k.val j dj ej
      exact ⟨v, q1, q2.mono e1⟩
  · obtain ⟨ej, hj⟩ := old ej
    obtain ⟨b, q1, q2, q3, q4, q5, q6⟩ := k.own j jo dj ej
    have ne : ∀ x, (x = b ∨ x ∈ inH H b dj) → F2 x = F x := fun x hx => e3 x (fun z => hj (k.dis i j io jo d dj a b x e ej h1 q1 (.inl z) hx)) fun z => hj (k.dis i j io jo d dj a b x e ej h1 q1 (.inr z) hx)
    exact ⟨b, q1, by rw [ne b (.inl rfl)]; exact q2, q3.mono e1 fun _ _ _ z => z, q4, q5, fun x hx => ⟨by rw [ne x (.inr hx)]; exact (q6 x hx).1, (q6 x hx).2⟩⟩
theorem de_var {i : Nat} {x : Str} (h : PE X (.Name x pos) (tVar i)) : PE X (.Name x pos) (TMe T π W (mVar i)) := h.imp fun σ H Q ⟨A, F, ρ, k, p⟩ => by
  unfold mVar at p
  cases e : ρ[i]? with
  | none => rw [e] at p; exact p.elim
  | some s =>
    cases s with
    | none => rw [e] at p; exact p.elim
    | some s =>
      cases s with
      | val d =>
        rw [e] at p
        obtain ⟨v, h1, h2⟩ := k.val i d e
        exact ⟨v, h1, p F H k .refl v h2⟩
      | own io d =>
        cases io with
        | true => rw [e] at p; exact p.elim
        | false =>
          rw [e] at p
          obtain ⟨a, F', h1, h5, h6, h7⟩ := k.freeze e
          exact ⟨.ref a, h1, p F' H h5 h7 _ h6⟩
theorem dp_var {i : Nat} {x : Str} (h : PE X (.Name x pos) (tVar i)) : PE X (.Name x pos) (TMp T π W (mPeek i)) := h.imp fun σ H Q ⟨A, F, ρ, k, p⟩ => by
  unfold mPeek at p
  cases e : ρ[i]? with
  | none => rw [e] at p; exact p.elim
  | some s =>
    cases s with
    | none => rw [e] at p; exact p.elim
    | some s =>
      cases s with
      | val d =>
        rw [e] at p
        obtain ⟨v, h1, h2⟩ := k.val i d e
        exact ⟨v, h1, p F H k .refl v h2.s⟩
      | own io d =>
        rw [e] at p
        obtain ⟨a, h1, h2, h3, h4, h5⟩ := k.own i io d e
        exact ⟨.ref a, h1, p F H k .refl _ (.inr ⟨a, rfl, h3⟩)⟩
/-! ### constants -/
theorem de_c {v : V} {d : Dt} (h : PE X e (tC v)) (r : ∀ F, Rep T F v d) : PE X e (TMe T π W (mPure d)) := h.imp fun σ H Q ⟨A, F, ρ, k, p⟩ => p.pure k v (r F)
theorem de_int {i j} : PE X (.Constant (.int i) j pos) (TMe T π W (mPure (.int i))) := de_c pe_int fun _ => .int i
theorem de_bl {i j} : PE X (.Constant (.bool i) j pos) (TMe T π W (mPure (.bl i))) := de_c pe_bl fun _ => .bl i
theorem de_str {i j} : PE X (.Constant (.str i) j pos) (TMe T π W (mPure (.str i))) := de_c pe_str fun _ => .str i
/-! ### operators -/
def OpS (T : Tx) (r : R2) (f : Dt → Dt → Option Dt) : Prop := ∀ (π : Nat → Option Pin) (A : Addr → Prop) (F H : Hp) (σ : L2.St) (ρ : En) (v w : V) (d e z : Dt) (Q : VK), Ok T π A F H σ ρ → RepS T F H v d → RepS T F H w e → f d e = some z →
  (∀ F' H' u, Ok T π A F' H' σ ρ → Fr A F H F' H' → Rep T F' u z → Q u H') → r v w H Q
def UnS (T : Tx) (r : V → Hp → VK → Prop) (f : Dt → Option Dt) : Prop := ∀ (π : Nat → Option Pin) (A : Addr → Prop) (F H : Hp) (σ : L2.St) (ρ : En) (v : V) (d z : Dt) (Q : VK), Ok T π A F H σ ρ → RepS T F H v d → f d = some z →
  (∀ F' H' u, Ok T π A F' H' σ ρ → Fr A F H F' H' → Rep T F' u z → Q u H') → r v H Q
def m2 (f : Dt → Dt → Option Dt) (ma mb : Mi Dt) : Mi Dt := mBind ma fun x => mBind mb fun y => mOpt (f x y)
def m1 (f : Dt → Option Dt) (m : Mi Dt) : Mi Dt := mBind m fun x => mOpt (f x)
theorem de_tOp {r : R2} {f : Dt → Dt → Option Dt} (h : PE X e (tOp r (TMe T π W ma) (TMp T π W mb))) (hs : OpS T r f) : PE X e (TMe T π W (m2 f ma mb)) := h.imp fun σ H Q ⟨A, F, ρ, k, p⟩ =>
  ⟨A, F, ρ, k, p.bind.imp fun x ρ1 F1 H1 k1 r1 p1 v rv => ⟨A, F1, ρ1, k1, p1.bind.imp fun y ρ2 F2 H2 k2 r2 p2 w rw => by
    obtain ⟨z, e, p3⟩ := p2.opt
    exact hs π A F2 H2 σ ρ2 v w x y z Q k2 (rv.mono r2.f).s rw e fun F' H' u k' r' ru => p3 F' H' k' r' u ru⟩⟩
theorem de_bin {op : Operator} {r : R2} {f : Dt → Dt → Option Dt} (ho : OpR X (binaryOp op) r) (hs : OpS T r f) (ha : PE X a (TMe T π W ma)) (hb : PE X b (TMp T π W mb)) : PE X (.BinOp a op b pos) (TMe T π W (m2 f ma mb)) :=
  de_tOp (pe_op ho ha hb) hs
theorem de_cmp {op : CmpOp} {r : R2} {f : Dt → Dt → Option Dt} (ho : OpR X (compareOp op) r) (hs : OpS T r f) (ha : PE X a (TMe T π W ma)) (hb : PE X b (TMp T π W mb)) (hm : behindInMarks op b = false) : PE X (.Compare a [op] [b] pos) (TMe T π W (m2 f ma mb)) :=
  de_tOp (pe_cmpR ho ha hb hm) hs
/-! ### tests -/
def mB (m : Mi Dt) : Mi Bool := mBind m fun d => match d with
  | .bl b => mPure b
  | _ => mBad
theorem Rep.bl_inv {F : Hp} {v : V} {b : Bool} (h : Rep T F v (.bl b)) : v = .bl b := by cases h; rfl
theorem Rep.int_inv {F : Hp} {v : V} {b : Int} (h : Rep T F v (.int b)) : v = .int b := by cases h; rfl
theorem Rep.str_inv {F : Hp} {v : V} {b : Str} (h : Rep T F v (.str b)) : v = .str b := by cases h; rfl
theorem Rep.non_inv {F : Hp} {v : V} (h : Rep T F v .non) : v = .non := by cases h; rfl
theorem RepS.flat {F H : Hp} {v : V} {d : Dt} (h : RepS T F H v d) (hd : match d with | .lst _ => False | .dic _ _ _ => False | .ins _ _ => False | .deal _ _ => False | .dcn _ _ => False | .tbl _ => False | _ => True) : Rep T F v d := by
  rcases h with h | ⟨a, e, h⟩
  · exact h
  · cases d <;> first | exact hd.elim | exact h.elim
theorem dt_val (h : PE X e (TMe T π W m)) (he : ∀ whole, isTrue e X.env whole = (do let v ← whole; standAt e.pos; holding [v] (truthy v)) := by intro _; rfl) : PT X e (TMt T π W (mB m)) :=
  (pt_val h he).imp fun σ H Q ⟨A, F, ρ, k, p⟩ => ⟨A, F, ρ, k, p.bind.imp fun d ρ1 F1 H1 k1 r1 p1 v rv => by
    cases d with
    | bl b => exact ⟨b, rv.bl_inv, p1.pure k1⟩
    | _ => exact p1.elim⟩
theorem dt_tOp {r : R2} {f : Dt → Dt → Option Dt} (h : PT X e (tTest (tOp r (TMe T π W ma) (TMp T π W mb)))) (hs : OpS T r f) : PT X e (TMt T π W (mB (m2 f ma mb))) := h.imp fun σ H Q ⟨A, F, ρ, k, p⟩ => by
  have p' := p.bind
  exact ⟨A, F, ρ, k, p'.bind.imp fun x ρ1 F1 H1 k1 r1 p1 v rv => ⟨A, F1, ρ1, k1, p1.bind.imp fun y ρ2 F2 H2 k2 r2 p2 w rw => by
    obtain ⟨z, e, p3⟩ := p2.opt
    refine hs π A F2 H2 σ ρ2 v w x y z _ k2 (rv.mono r2.f).s rw e fun F' H' u k' r' ru => ?_
    have p4 := p3 F' H' k' r'
    cases z with
    | bl b => exact ⟨b, ru.bl_inv, p4 F' H' k' .refl⟩
    | _ => exact p4.elim⟩⟩
theorem dt_cmp {op : CmpOp} {r : R2} {f : Dt → Dt → Option Dt} (ho : OpR X (compareOp op) r) (hs : OpS T r f) (ha : PE X a (TMe T π W ma)) (hb : PE X b (TMp T π W mb)) (hm : behindInMarks op b = false) : PT X (.Compare a [op] [b] pos) (TMt T π W (mB (m2 f ma mb))) :=
  dt_tOp (pt_cmpR ho ha hb hm) hs
variable {ta tb : Mi Bool} {rest : List Expr}
def mAnd (s t : Mi Bool) : Mi Bool := mBind s fun b => match b with | true => t | false => mPure false
def mOr (s t : Mi Bool) : Mi Bool := mBind s fun b => match b with | true => mPure true | false => t
def mNot (s : Mi Bool) : Mi Bool := mBind s fun b => mPure (!b)
theorem _root_.L2.PW.imp {t t' : TT} (h : PW X e t) (f : ∀ σ H Q, t' σ H Q → t σ H Q) : PW X e t' := ⟨fun wh pins s σ H Q I q => h.run wh pins s σ H Q I (f σ H Q q)⟩
theorem dw_or1 (ha : PT X a (TMt T π W ta)) : PW X (.BoolOp .Or [a] pos) (TMt T π W ta) := pw_or1 ha
theorem dw_or (ha : PT X a (TMt T π W ta)) (hb : PW X (.BoolOp .Or (b :: rest) pos) (TMt T π W tb)) : PW X (.BoolOp .Or (a :: b :: rest) pos) (TMt T π W (mOr ta tb)) :=
  PW.imp (pw_or ha hb) fun σ H Q ⟨A, F, ρ, k, p⟩ => ⟨A, F, ρ, k, p.bind.imp fun c ρ1 F1 H1 k1 r1 p1 => by
    cases c with
    | false => exact iteF ⟨A, F1, ρ1, k1, p1⟩
    | true => exact iteT (p1.pure k1)⟩
theorem dt_not (ha : PT X a (TMt T π W ta)) : PT X (.UnaryOp .Not a pos) (TMt T π W (mNot ta)) := (pt_not ha).imp fun σ H Q ⟨A, F, ρ, k, p⟩ => ⟨A, F, ρ, k, p.bind.imp fun c ρ1 F1 H1 k1 r1 p1 => p1.pure k1⟩
/-! ### and, or, not as values -/
def mAndV (s t : Mi Dt) : Mi Dt := mBind s fun d => match d with | .bl true => t | .bl false => mPure (.bl false) | _ => mBad
def mOrV (s t : Mi Dt) : Mi Dt := mBind s fun d => match d with | .bl true => mPure (.bl true) | .bl false => t | _ => mBad
def mNotV (s : Mi Dt) : Mi Dt := mBind s fun d => match d with | .bl b => mPure (.bl (!b)) | _ => mBad
theorem de_and (ha : PE X a (TMe T π W ma)) (hb : PE X (.BoolOp .And (b :: rest) pos) (TMe T π W mb)) : PE X (.BoolOp .And (a :: b :: rest) pos) (TMe T π W (mAndV ma mb)) :=
  (pe_and ha hb).imp fun σ H Q ⟨A, F, ρ, k, p⟩ => ⟨A, F, ρ, k, p.bind.imp fun c ρ1 F1 H1 k1 r1 p1 v rv => by
    cases c with
    | bl c =>
      refine ⟨c, rv.bl_inv, ?_⟩
      cases c with
      | true => exact iteT ⟨A, F1, ρ1, k1, p1⟩
      | false => exact iteF (p1.pure k1 _ (.bl false))
    | _ => exact p1.elim⟩
theorem de_one {op} (ha : PE X a (TMe T π W ma)) : PE X (.BoolOp op [a] pos) (TMe T π W ma) := pe_one ha
theorem de_not (ha : PE X a (TMe T π W ma)) : PE X (.UnaryOp .Not a pos) (TMe T π W (mNotV ma)) := (pe_not ha).imp fun σ H Q ⟨A, F, ρ, k, p⟩ => ⟨A, F, ρ, k, p.bind.imp fun c ρ1 F1 H1 k1 r1 p1 v rv => by
    cases c with
    | bl c => exact ⟨c, rv.bl_inv, p1.pure k1 _ (.bl _)⟩
    | _ => exact p1.elim⟩
/-- a if t else b -/
def mIfE (t : Mi Bool) (ma mb : Mi Dt) : Mi Dt := mBind t fun b => match b with | true => ma | false => mb
theorem de_ifExp (hc : PT X c (TMt T π W ta)) (ha : PE X a (TMe T π W ma)) (hb : PE X b (TMe T π W mb)) : PE X (.IfExp c a b pos) (TMe T π W (mIfE ta ma mb)) :=
  (pe_ifExp hc ha hb).imp fun σ H Q ⟨A, F, ρ, k, p⟩ => ⟨A, F, ρ, k, p.bind.imp fun c ρ1 F1 H1 k1 r1 p1 => by
    cases c with
    | true => exact iteT ⟨A, F1, ρ1, k1, p1⟩
    | false => exact iteF ⟨A, F1, ρ1, k1, p1⟩⟩
/-! ### displays -/
def mCons (m : Mi Dt) (ms : Mi (List Dt)) : Mi (List Dt) := mBind m fun d => mBind ms fun ds => mPure (d :: ds)
def mStar (m : Mi Dt) (ms : Mi (List Dt)) : Mi (List Dt) := mBind m fun d => match d with
  | .lst xs => mBind ms fun ds => mPure (xs ++ ds)
  | .tup xs => mBind ms fun ds => mPure (xs ++ ds)
  | _ => mBad
variable {ms : Mi (List Dt)}
theorem da_nil : PA X [] (TMa T π W (mPure [])) := pa_nil.imp fun σ H Q ⟨A, F, ρ, k, p⟩ => p.pure k [] .nil
theorem da_cons (he : PE X e (TMe T π W m)) (hr : PA X es (TMa T π W ms)) (hs : starEach (e :: es) X.env = (false, eval e X.env) :: starEach es X.env := by rfl) : PA X (e :: es) (TMa T π W (mCons m ms)) :=
  (pa_cons he hr hs).imp fun σ H Q ⟨A, F, ρ, k, p⟩ => ⟨A, F, ρ, k, p.bind.imp fun d ρ1 F1 H1 k1 r1 p1 v rv => ⟨A, F1, ρ1, k1, p1.bind.imp fun ds ρ2 F2 H2 k2 r2 p2 vs rvs => p2.pure k2 (v :: vs) (.cons (rv.mono r2.f) rvs)⟩⟩
theorem RepS.seq {F H : Hp} {v : V} {d : Dt} {xs : List Dt} (h : RepS T F H v d) (le : Le F H) (hd : d = .lst xs ∨ d = .tup xs) : ∃ p vs, v = .ref p ∧ (SqL T.K H p vs ∨ SqT T.K H p vs) ∧ Reps T F vs xs ∧ (d = .lst xs → SqL T.K H p vs) ∧ (d = .tup xs → SqT T.K H p vs) := by
  rcases h with h | ⟨a, e, h⟩
  · rcases hd with rfl | rfl
    · cases h with
      | lst q r => exact ⟨_, _, rfl, .inl (SqL.of (le _ _ q)), r, fun _ => SqL.of (le _ _ q), fun z => by cases z⟩
    · obtain ⟨a, vs, e, q, r⟩ := h.tup_inv
      exact ⟨a, vs, e, .inr (sqt_mono le q), r, (fun z => by cases z), fun _ => sqt_mono le q⟩
  · rcases hd with rfl | rfl
    · obtain ⟨vs, q, r⟩ := h
      exact ⟨a, vs, e, .inl (SqL.of q), r, fun _ => SqL.of q, fun z => by cases z⟩
    · exact h.elim
def mTup (ms : Mi (List Dt)) : Mi Dt := mBind ms fun ds => if ds.length ≤ sizeLine then mPure (.tup ds) else mBad
def mLst (ms : Mi (List Dt)) : Mi Dt := mBind ms fun ds => if ds.length ≤ sizeLine then mPure (.lst ds) else mBad
theorem de_tup {x1} (h : PA X es (TMa T π W ms)) : PE X (.Tuple es x1 pos) (TMe T π W (mTup ms)) := (pe_tup h).imp fun σ H Q ⟨A, F, ρ, k, p⟩ => ⟨A, F, ρ, k, p.bind.imp fun ds ρ1 F1 H1 k1 r1 p1 vs rvs => by
  split at p1
  · rename_i hl
    refine ⟨by rw [rvs.length]; exact hl, fun x hx => ?_⟩
    exact p1 (upd F1 x (.tup vs)) (upd H1 x (.tup vs)) (k1.new hx) (.new k1.le hx) _ (.tup upd_same (rvs.mono (le_new (f_none k1.le hx))))
  · exact p1.elim⟩
/-- a fresh address is no slot's own -/
theorem Ok.fresh_own {A : Addr → Prop} {F H : Hp} {σ : L2.St} {ρ : En} (k : Ok T π A F H σ ρ) {p : Addr} (hp : H p = none) : ¬ IsOwn H σ ρ p := fun w => by
  obtain ⟨_, _, o, e⟩ := k.ownH w
  rw [hp] at e; cases e
theorem Ok.fresh_new {A : Addr → Prop} {F H : Hp} {σ : L2.St} {ρ : En} (k : Ok T π A F H σ ρ) {p : Addr} {o : HO} (hp : H p = none) : ¬ IsOwn (upd H p o) σ ρ p := fun w =>
  k.fresh_own hp ((k.sameOwn fun a u _ e => le_new hp a u e).mp w)
end
end Dl
namespace Dl
open PySem PySem.Spec PyProof.Rows L2
section
variable {X : Cx} {T : Tx} {π : Nat → Option Pin} {W : WX} {a b c e : Expr} {es : List Expr} {pos : Pos} {m ma mb mc : Mi Dt} {ms : Mi (List Dt)} {A A' : Addr → Prop} {F H F' H' F0 H0 : Hp} {σ : L2.St} {ρ : En}
theorem Ok.weak (k : Ok T π A F H σ ρ) (h : ∀ a, A a → A' a) : Ok T π A' F H σ ρ := ⟨k.le, k.len, k.val, fun i io d e => by
  obtain ⟨x, h1, h2, h3, h4, h5⟩ := k.own i io d e
  exact ⟨x, h1, h2, h3, h _ h4, h5.1, fun y hy => ⟨(h5.2 y hy).1, h _ (h5.2 y hy).2⟩⟩, k.dis⟩
theorem Ok.tight (k : Ok T π A F H σ ρ) : Ok T π (IsOwn H σ ρ) F H σ ρ := ⟨k.le, k.len, k.val, fun i io d e => by
  obtain ⟨x, h1, h2, h3, h4, h5⟩ := k.own i io d e
  exact ⟨x, h1, h2, h3, ⟨i, io, d, x, e, h1, .inl rfl⟩, h5.1, fun y hy => ⟨(h5.2 y hy).1, ⟨i, io, d, x, e, h1, .inr hy⟩⟩⟩, k.dis⟩
theorem Fr.weak (r : Fr A F H F' H') (h : ∀ a, A a → A' a) : Fr A' F H F' H' := ⟨r.f, fun a o n e => r.h a o (fun z => n (h a z)) e, fun a o n e t => r.n a o (fun z => n (h a z)) e t, r.t⟩
theorem Post.weak {α : Type} {P : α → En → Hp → Hp → Prop} {o : Ou α} (p : Post T π W σ A F H P o) (h : ∀ a, A' a → A a) : Post T π W σ A' F H P o := by
  cases o with
  | ok a ρ' => exact fun F' H' k r => p F' H' (k.weak h) (r.weak h)
  | exc x ρ' => exact fun F' H' c d k r => p F' H' c d (k.weak h) (r.weak h)
  | bad => exact p
theorem Ok.ownA (k : Ok T π A F H σ ρ) {a : Addr} (w : IsOwn H σ ρ a) : A a := (k.ownH w).1
/-- [..]: a new list -/
theorem dn_lst (h : PA X es (TMa T π W ms)) : PE X (.List es pos) (TMn T π W (mLst ms)) := (pe_lst h).imp fun σ H Q ⟨A, F, ρ, k, p⟩ => ⟨A, F, ρ, k, p.bind.imp fun ds ρ1 F1 H1 k1 r1 p1 vs rvs => by
  split at p1
  · rename_i hl
    refine ⟨by rw [rvs.length]; exact hl, fun x hx => ?_⟩
    exact p1 F1 (upd H1 x (.lst vs)) (k1.newO hx) (.newO hx) x (f_none k1.le hx) (k1.fresh_new hx) (r1.t x hx) ⟨vs, upd_same, rvs⟩ (fun _ z => nomatch z)
  · exact p1.elim⟩
/-! ### several values, some of them new objects -/
inductive Gk (T : Tx) (F H : Hp) (A : Addr → Prop) : List Bool → List V → List Dt → List Addr → Prop
  | nil : Gk T F H A [] [] [] []
  | val {v : V} {d : Dt} {ks : List Bool} {vs : List V} {ds : List Dt} {as : List Addr} : Rep T F v d → Gk T F H A ks vs ds as → Gk T F H A (false :: ks) (v :: vs) (d :: ds) as
  | own {p : Addr} {d : Dt} {ks : List Bool} {vs : List V} {ds : List Dt} {as : List Addr} : F p = none → ¬ A p → OwnAt T F H p d → p ∉ as → (∀ x ∈ inH H p d, F x = none ∧ ¬ A x ∧ x ∉ as) → Gk T F H A ks vs ds as → Gk T F H A (true :: ks) (.ref p :: vs) (d :: ds) (p :: (inH H p d ++ as))
def TMk (T : Tx) (π : Nat → Option Pin) (W : WX) (ks : List Bool) (m : Mi (List Dt)) : TA := fun σ H Q => ∃ A F ρ, Ok T π A F H σ ρ ∧ (∀ a, A a → H a ≠ none) ∧
  Post T π W σ A F H (fun ds _ F' H' => ∀ vs as, Gk T F' H' A ks vs ds as → (∀ a ∈ as, H a = none) → Q vs H') (m ρ)
variable {ks : List Bool}
theorem dk_nil : PA X [] (TMk T π W [] (mPure [])) := pa_nil.imp fun σ H Q ⟨A, F, ρ, k, ht, p⟩ => p.pure k [] [] .nil (fun _ z => nomatch z)
theorem dk_val (he : PE X e (TMe T π W m)) (hr : PA X es (TMk T π W ks ms)) (hs : starEach (e :: es) X.env = (false, eval e X.env) :: starEach es X.env := by rfl) : PA X (e :: es) (TMk T π W (false :: ks) (mCons m ms)) :=
  (pa_cons he hr hs).imp fun σ H Q ⟨A, F, ρ, k, ht, p⟩ => ⟨A, F, ρ, k, p.bind.imp fun d ρ1 F1 H1 k1 r1 p1 v rv =>
    ⟨A, F1, ρ1, k1, fun a z e => ht a z (r1.t a e), p1.bind.imp fun ds ρ2 F2 H2 k2 r2 p2 vs as g ha => p2.pure k2 (v :: vs) as (.val (rv.mono r2.f) g) fun a z => r1.t a (ha a z)⟩⟩
theorem dk_own (he : PE X e (TMn T π W m)) (hr : PA X es (TMk T π W ks ms)) (hs : starEach (e :: es) X.env = (false, eval e X.env) :: starEach es X.env := by rfl) : PA X (e :: es) (TMk T π W (true :: ks) (mCons m ms)) :=
  (pa_cons he hr hs).imp fun σ H Q ⟨A, F, ρ, k, ht, p⟩ => ⟨A, F, ρ, k, p.bind.imp fun d ρ1 F1 H1 k1 r1 p1 x hx nx hp ho hi =>
    ⟨A, F1, ρ1, k1, fun a z e => ht a z (r1.t a e), p1.bind.imp fun ds ρ2 F2 H2 k2 r2 p2 vs as g ha => by
      have hpi : ∀ y, (y = x ∨ y ∈ inH H1 x d) → H y = none := fun y hy => hy.elim (fun z => z ▸ hp) fun z => (hi y z).2.2
      have hfi : ∀ y, (y = x ∨ y ∈ inH H1 x d) → F1 y = none := fun y hy => hy.elim (fun z => z ▸ hx) fun z => (hi y z).1
      have nA : ∀ y, (y = x ∨ y ∈ inH H1 x d) → ¬ A y := fun y hy z => ht y z (hpi y hy)
      have f2 : ∀ y, (y = x ∨ y ∈ inH H1 x d) → F2 y = none := fun y hy => by
        obtain ⟨o, eo, et⟩ := ho.hasI hy
        rw [r2.n y o (nA y hy) eo et]; exact hfi y hy
      have nas : ∀ y, (y = x ∨ y ∈ inH H1 x d) → y ∉ as := fun y hy z => by
        obtain ⟨o, eo, et⟩ := ho.hasI hy
        rw [ha y z] at eo; cases eo
      have sm : inH H2 x d = inH H1 x d := ho.same fun o q => r2.h x o (nA x (.inl rfl)) q
      refine p2.pure k2 (.ref x :: vs) (x :: (inH H2 x d ++ as)) (.own (f2 x (.inl rfl)) (nA x (.inl rfl)) (ho.mono r2.f fun y hy o q => r2.h y o (nA y hy) q) (nas x (.inl rfl)) (fun y hy => by rw [sm] at hy; exact ⟨f2 y (.inr hy), nA y (.inr hy), nas y (.inr hy)⟩) g) fun a z => ?_
      rw [sm] at z
      rcases List.mem_cons.mp z with z | z
      · exact hpi a (.inl z)
      · rcases List.mem_append.mp z with z | z
        · exact hpi a (.inr z)
        · exact r1.t a (ha a z)⟩⟩
/-! ### statements -/
inductive So where
  | nx (ρ : En) | rt (d : Dt) (ρ : En) | rtN (d : Dt) (ρ : En) | bk (ρ : En) | ct (ρ : En) | exc (x : Ex) (ρ : En) | bad
structure StOk (T : Tx) (π : Nat → Option Pin) (A : Addr → Prop) (F0 H0 F H : Hp) (σ : L2.St) (ρ : En) : Prop where
  ok : Ok T π (fun a => A a ∨ H0 a = none) F H σ ρ
  fr : Fr A F0 H0 F H
theorem StOk.step {σ' : L2.St} {ρ' : En} (s : StOk T π A F0 H0 F H σ ρ) (k : Ok T π (fun a => A a ∨ H0 a = none) F' H' σ' ρ') (r : Fr (fun a => A a ∨ H0 a = none) F H F' H') : StOk T π A F0 H0 F' H' σ' ρ' :=
  ⟨k, le_trans s.fr.f r.f, fun a o n e => r.h a o (fun z => z.elim n fun z => by rw [z] at e; cases e) (s.fr.h a o n e), fun a o n e t => by
    rw [r.n a o (fun z => z.elim n fun z => by rw [z] at e; cases e) (s.fr.h a o n e) t, s.fr.n a o n e t], fun a e => s.fr.t a (r.t a e)⟩
theorem StOk.start (s : StOk T π A F0 H0 F H σ ρ) {σ' : L2.St} {ρ' : En} (k : Ok T π (fun a => A a ∨ H0 a = none) F H σ' ρ') : StOk T π (fun a => A a ∨ H0 a = none) F H F H σ' ρ' := ⟨k.weak fun _ z => .inl z, .refl⟩
theorem StOk.rebase {σ' : L2.St} {ρ' : En} (s : StOk T π A F0 H0 F H σ ρ) (k : StOk T π (fun a => A a ∨ H0 a = none) F H F' H' σ' ρ') : StOk T π A F0 H0 F' H' σ' ρ' :=
  s.step (k.ok.weak fun a z => z.elim id fun z => .inr (s.fr.t a z)) k.fr
def PostS (T : Tx) (π : Nat → Option Pin) (W : WX) (A : Addr → Prop) (F0 H0 : Hp) (D : Ends) : So → Prop
  | .nx ρ' => ∀ σ' F' H', StOk T π A F0 H0 F' H' σ' ρ' → D.nx σ' H'
  | .bk ρ' => ∀ σ' F' H', StOk T π A F0 H0 F' H' σ' ρ' → D.bk σ' H'
  | .ct ρ' => ∀ σ' F' H', StOk T π A F0 H0 F' H' σ' ρ' → D.ct σ' H'
  | .rt d ρ' => ∀ σ' F' H' v, StOk T π A F0 H0 F' H' σ' ρ' → Rep T F' v d → D.rt v H'
  | .rtN d ρ' => ∀ σ' F' H' p, StOk T π A F0 H0 F' H' σ' ρ' → F' p = none → ¬ IsOwn H' σ' ρ' p → (A p ∨ H0 p = none) → OwnAt T F' H' p d → (∀ x ∈ inH H' p d, F' x = none ∧ ¬ IsOwn H' σ' ρ' x ∧ (A x ∨ H0 x = none)) → D.rt (.ref p) H'
  | .exc x ρ' => ∀ σ' F' H' cls d, StOk T π A F0 H0 F' H' σ' ρ' → RepX T F' H' cls d x → W cls d σ' H'
  | .bad => False
def TMs (T : Tx) (π : Nat → Option Pin) (W : WX) (s : En → So) : TS := fun D σ H => ∃ A F0 H0 F ρ, StOk T π A F0 H0 F H σ ρ ∧ PostS T π W A F0 H0 D (s ρ)
def sBind {α : Type} (m : Mi α) (k : α → En → So) : En → So := fun ρ => match m ρ with
  | .ok a ρ' => k a ρ'
  | .exc x ρ' => .exc x ρ'
  | .bad => .bad
theorem PostS.bind {α : Type} {D : Ends} {m : Mi α} {k : α → En → So} (p : PostS T π W A F0 H0 D (sBind m k ρ)) (s : StOk T π A F0 H0 F H σ ρ) :
    Post T π W σ (fun a => A a ∨ H0 a = none) F H (fun a ρ1 F1 H1 => StOk T π A F0 H0 F1 H1 σ ρ1 ∧ PostS T π W A F0 H0 D (k a ρ1)) (m ρ) := by
  unfold sBind at p
  cases e : m ρ with
  | ok x ρ1 =>
    rw [e] at p
    exact fun F1 H1 k1 r1 => ⟨s.step k1 r1, p⟩
  | exc x ρ1 =>
    rw [e] at p
    exact fun F1 H1 c d k1 r1 x => p σ F1 H1 c d (s.step k1 r1) x
  | bad => rw [e] at p; exact p.elim
variable {s t : En → So} {st : Stmt} {rest : List Stmt}
def sSeq (s t : En → So) : En → So := fun ρ => match s ρ with
  | .nx ρ' => t ρ'
  | o => o
theorem dss_cons (h1 : PS X st (TMs T π W s)) (h2 : PSs X rest (TMs T π W t)) : PSs X (st :: rest) (TMs T π W (sSeq s t)) := (pss_cons h1 h2).imp fun D σ H ⟨A, F0, H0, F, ρ, k, p⟩ => ⟨A, F0, H0, F, ρ, k, by
  unfold sSeq at p
  cases e : s ρ with
  | nx ρ' => rw [e] at p; exact fun σ' F' H' k' => ⟨A, F0, H0, F', ρ', k', p⟩
  | rt d ρ' => rw [e] at p; exact p
  | rtN d ρ' => rw [e] at p; exact p
  | bk ρ' => rw [e] at p; exact p
  | ct ρ' => rw [e] at p; exact p
  | exc d ρ' => rw [e] at p; exact p
  | bad => rw [e] at p; exact p⟩
theorem dss_one (h1 : PS X st (TMs T π W s)) : PSs X [st] (TMs T π W s) := pss_one h1
theorem dss_nil : PSs X [] (TMs T π W (fun ρ => .nx ρ)) := pss_nil.imp fun D σ H ⟨A, F0, H0, F, ρ, k, p⟩ => p σ F H k
theorem ds_never : PS X st (TMs T π W (fun _ => .bad)) := ps_never.imp fun D σ H ⟨A, F0, H0, F, ρ, k, p⟩ => p
def sIf (c : Mi Bool) (s t : En → So) : En → So := sBind c fun b => match b with | true => s | false => t
theorem ds_if {x y : List Stmt} {mc : Mi Bool} (hc : PT X c (TMt T π W mc)) (ha : PSs X x (TMs T π W s)) (hb : PSs X y (TMs T π W t)) : PS X (.If c x y pos) (TMs T π W (sIf mc s t)) :=
  (ps_if hc ha hb).imp fun D σ H ⟨A, F0, H0, F, ρ, k, p⟩ => ⟨_, F, ρ, k.ok, (p.bind k).imp fun b ρ1 F1 H1 _ _ ⟨k1, p1⟩ => by
    cases b with
    | true => exact iteT ⟨A, F0, H0, F1, ρ1, k1, p1⟩
    | false => exact iteF ⟨A, F0, H0, F1, ρ1, k1, p1⟩⟩
def sRet (m : Mi Dt) : En → So := sBind m fun d ρ => .rt d ρ
def sRetN (m : Mi Dt) : En → So := sBind m fun d ρ => .rtN d ρ
def sDrop (m : Mi Dt) : En → So := sBind m fun _ ρ => .nx ρ
theorem ds_ret (he : PE X e (TMe T π W m)) : PS X (.Return (some e) pos) (TMs T π W (sRet m)) := (ps_ret he).imp fun D σ H ⟨A, F0, H0, F, ρ, k, p⟩ => ⟨_, F, ρ, k.ok, (p.bind k).imp fun d ρ1 F1 H1 _ _ ⟨k1, p1⟩ v rv => p1 σ F1 H1 v k1 rv⟩
theorem ds_retN (he : PE X e (TMn T π W m)) : PS X (.Return (some e) pos) (TMs T π W (sRetN m)) := (ps_ret he).imp fun D σ H ⟨A, F0, H0, F, ρ, k, p⟩ => ⟨_, F, ρ, k.ok, (p.bind k).imp fun d ρ1 F1 H1 _ _ ⟨k1, p1⟩ x h1 h2 h3 h4 h5 =>
  p1 σ F1 H1 x k1 h1 h2 (.inr (k.fr.t x h3)) h4 fun y hy => ⟨(h5 y hy).1, (h5 y hy).2.1, .inr (k.fr.t y (h5 y hy).2.2)⟩⟩
theorem ds_expr (he : PE X e (TMe T π W m)) (hs : swapsWith e none pos.line X.env = pure false := by rfl) : PS X (.Expr e pos) (TMs T π W (sDrop m)) := (ps_expr he hs).imp fun D σ H ⟨A, F0, H0, F, ρ, k, p⟩ => ⟨_, F, ρ, k.ok, (p.bind k).imp fun d ρ1 F1 H1 _ _ ⟨k1, p1⟩ v rv => p1 σ F1 H1 k1⟩
/-! ### names are stored -/
def setSl (i : Nat) (s : Sl) (ρ : En) : Option En := match ρ[i]? with
  | some (some (.own true _)) => none
  | some _ => some (ρ.set i (some s))
  | none => none
theorem setSl_inv {i : Nat} {s : Sl} {ρ ρ' : En} (h : setSl i s ρ = some ρ') : i < ρ.length ∧ ρ' = ρ.set i (some s) ∧ ∀ d, ρ[i]? ≠ some (some (.own true d)) := by
  unfold setSl at h
  split at h
  · cases h
  · rename_i x hn hx
    cases h
    exact ⟨(List.getElem?_eq_some_iff.mp hx).1, rfl, fun d z => hn d (Option.some.inj (hx.symm.trans z))⟩
  · cases h
theorem Ok.set {i : Nat} {v : V} {d : Dt} {ρ' : En} (k : Ok T π A F H σ ρ) (r : Rep T F v d) (h : setSl i (.val d) ρ = some ρ') : Ok T π A F H (σ.set i (some v)) ρ' := by
  obtain ⟨hi, rfl, hio⟩ := setSl_inv h
  have hσ : i < σ.length := by rw [k.len]; exact hi
  have ol : ∀ (j : Nat) jo dj, (ρ.set i (some (.val d)))[j]? = some (some (.own jo dj)) → i ≠ j ∧ ρ[j]? = some (some (.own jo dj)) := fun j jo dj ej => by
    by_cases hj : i = j
    · subst hj; rw [List.getElem?_set_self hi] at ej; cases ej
    · rw [List.getElem?_set_ne hj] at ej; exact ⟨hj, ej⟩
  refine ⟨k.le, by simpa using k.len, fun j dj ej => ?_, fun j jo dj ej => ?_, fun j l jo lo dj dl a b x ej el sj sl => ?_⟩
  · by_cases hj : i = j
    · subst hj
      rw [List.getElem?_set_self hi] at ej
      cases ej
      exact ⟨v, List.getElem?_set_self hσ, r⟩
    · rw [List.getElem?_set_ne hj] at ej
      rw [List.getElem?_set_ne hj]
      exact k.val j dj ej
  · obtain ⟨hj, q⟩ := ol j jo dj ej
    rw [List.getElem?_set_ne hj]
    exact k.own j jo dj q
  · obtain ⟨hj, q⟩ := ol j jo dj ej
    obtain ⟨hl, q2⟩ := ol l lo dl el
    rw [List.getElem?_set_ne hj] at sj
    rw [List.getElem?_set_ne hl] at sl
    exact k.dis j l jo lo dj dl a b x q q2 sj sl
theorem Ok.setN {i : Nat} {p : Addr} {d : Dt} {ρ' : En} (k : Ok T π A F H σ ρ) (hf : F p = none) (hn : ¬ IsOwn H σ ρ p) (hA : A p) (ho : OwnAt T F H p d) (hI : ∀ x ∈ inH H p d, F x = none ∧ ¬ IsOwn H σ ρ x ∧ A x) (h : setSl i (.own false d) ρ = some ρ') : Ok T π A F H (σ.set i (some (.ref p))) ρ' := by
  obtain ⟨hi, rfl, hio⟩ := setSl_inv h
  have hσ : i < σ.length := by rw [k.len]; exact hi
  have nI : ∀ x, (x = p ∨ x ∈ inH H p d) → ¬ IsOwn H σ ρ x := fun x hx => hx.elim (fun z => z ▸ hn) fun z => (hI x z).2.1
  refine ⟨k.le, by simpa using k.len, fun j dj ej => ?_, fun j jo dj ej => ?_, fun j l jo lo dj dl a b x ej el sj sl xj xl => ?_⟩
  · by_cases hj : i = j
    · subst hj
      rw [List.getElem?_set_self hi] at ej
      cases ej
    · rw [List.getElem?_set_ne hj] at ej
      rw [List.getElem?_set_ne hj]
      exact k.val j dj ej
  · by_cases hj : i = j
    · subst hj
      rw [List.getElem?_set_self hi] at ej
      cases ej
      exact ⟨p, List.getElem?_set_self hσ, hf, ho, hA, (fun z => by cases z), fun x hx => ⟨(hI x hx).1, (hI x hx).2.2⟩⟩
    · rw [List.getElem?_set_ne hj] at ej
      rw [List.getElem?_set_ne hj]
      exact k.own j jo dj ej
  · by_cases hj : i = j
    · by_cases hl : i = l
      · rw [← hj, ← hl]
      · subst hj
        rw [List.getElem?_set_ne hl] at el sl
        rw [List.getElem?_set_self hσ] at sj
        rw [List.getElem?_set_self hi] at ej
        cases sj; cases ej
        exact absurd ⟨l, lo, dl, b, el, sl, xl⟩ (nI x xj)
    · by_cases hl : i = l
      · subst hl
        rw [List.getElem?_set_ne hj] at ej sj
        rw [List.getElem?_set_self hσ] at sl
        rw [List.getElem?_set_self hi] at el
        cases sl; cases el
        exact absurd ⟨j, jo, dj, a, ej, sj, xj⟩ (nI x xl)
      · rw [List.getElem?_set_ne hj] at ej sj
        rw [List.getElem?_set_ne hl] at el sl
        exact k.dis j l jo lo dj dl a b x ej el sj sl xj xl
def sPut (i : Nat) (s : Sl) : En → So := fun ρ => match setSl i s ρ with
  | some ρ' => .nx ρ'
  | none => .bad
def sSet (i : Nat) (m : Mi Dt) : En → So := sBind m fun d => sPut i (.val d)
def sSetN (i : Nat) (m : Mi Dt) : En → So := sBind m fun d => sPut i (.own false d)
theorem ds_asgV {i : Nat} (h : PS X st (tAsg (TMe T π W m) (gName i))) : PS X st (TMs T π W (sSet i m)) := h.imp fun D σ H ⟨A, F0, H0, F, ρ, k, p⟩ => ⟨_, F, ρ, k.ok, (p.bind k).imp fun d ρ1 F1 H1 _ _ ⟨k1, p1⟩ v rv => by
  unfold sPut at p1
  cases e : setSl i (.val d) ρ1 with
  | none => rw [e] at p1; exact p1.elim
  | some ρ' => rw [e] at p1; exact p1 _ F1 H1 ⟨k1.ok.set rv e, k1.fr⟩⟩
theorem ds_asgN {i : Nat} (h : PS X st (tAsg (TMn T π W m) (gName i))) : PS X st (TMs T π W (sSetN i m)) := h.imp fun D σ H ⟨A, F0, H0, F, ρ, k, p⟩ => ⟨_, F, ρ, k.ok, (p.bind k).imp fun d ρ1 F1 H1 _ _ ⟨k1, p1⟩ x h1 h2 h3 h4 h5 => by
  unfold sPut at p1
  cases e : setSl i (.own false d) ρ1 with
  | none => rw [e] at p1; exact p1.elim
  | some ρ' => rw [e] at p1; exact p1 _ F1 H1 ⟨k1.ok.setN h1 h2 (.inr (k.fr.t x h3)) h4 (fun y hy => ⟨(h5 y hy).1, (h5 y hy).2.1, .inr (k.fr.t y (h5 y hy).2.2)⟩) e, k1.fr⟩⟩
/-! ### targets -/
def TMg (T : Tx) (π : Nat → Option Pin) (g : Dt → En → Option En) (sl : List Nat) : TG := fun v σ H Q => ∃ A F ρ d ρ', Ok T π A F H σ ρ ∧ Rep T F v d ∧ g d ρ = some ρ' ∧
  ∀ σ', Ok T π A F H σ' ρ' → σ'.length = σ.length → (∀ i, i ∉ sl → σ'[i]? = σ[i]?) → Q σ' H
def TMgs (T : Tx) (π : Nat → Option Pin) (g : List Dt → En → Option En) (sl : List Nat) : TGs := fun vs σ H Q => ∃ A F ρ ds ρ', Ok T π A F H σ ρ ∧ Reps T F vs ds ∧ g ds ρ = some ρ' ∧
  ∀ σ', Ok T π A F H σ' ρ' → σ'.length = σ.length → (∀ i, i ∉ sl → σ'[i]? = σ[i]?) → Q σ' H
theorem _root_.L2.PGs.imp {ts : List Expr} {t t' : TGs} (h : PGs X ts t) (f : ∀ v σ H Q, t' v σ H Q → t v σ H Q) : PGs X ts t' := ⟨fun pins s σ H v u Q I r q => h.run pins s σ H v u Q I r (f v σ H Q q)⟩
def gV (i : Nat) : Dt → En → Option En := fun d => setSl i (.val d)
theorem dg_name {i : Nat} (h : PG X e (gName i)) : PG X e (TMg T π (gV i) [i]) := h.imp fun v σ H Q ⟨A, F, ρ, d, ρ', k, r, e, q⟩ => q _ (k.set r e) (by simp) fun j hj => List.getElem?_set_ne (fun z => hj (by simp [z]))
def gsN : List Dt → En → Option En
  | [], ρ => some ρ
  | _, _ => none
def gsC (g : Dt → En → Option En) (gs : List Dt → En → Option En) : List Dt → En → Option En
  | d :: ds, ρ => (g d ρ).bind (gs ds)
  | [], _ => none
theorem dgs_nil : PGs X [] (TMgs T π gsN []) := pgs_nil.imp fun vs σ H Q ⟨A, F, ρ, ds, ρ', k, r, e, q⟩ => by
  cases ds with
  | nil => cases r; cases e; exact ⟨rfl, q σ k rfl fun _ _ => rfl⟩
  | cons _ _ => cases e
theorem dgs_cons {g : Dt → En → Option En} {gs : List Dt → En → Option En} {sl sls : List Nat} (h1 : PG X e (TMg T π g sl)) (h2 : PGs X es (TMgs T π gs sls)) (hs : (assignEach (e :: es) X.env).map (·.2) = assign e X.env :: (assignEach es X.env).map (·.2) := by rfl) :
    PGs X (e :: es) (TMgs T π (gsC g gs) (sl ++ sls)) := (pgs_cons h1 h2 hs).imp fun vs σ H Q ⟨A, F, ρ, ds, ρ', k, r, e, q⟩ => by
  cases ds with
  | nil => cases e
  | cons d ds =>
    cases r with
    | @cons v vs _ _ rv rvs =>
      have e' : (g d ρ).bind (gs ds) = some ρ' := e
      cases e1 : g d ρ with
      | none => rw [e1] at e'; cases e'
      | some ρ1 =>
        rw [e1] at e'
        exact ⟨v, vs, rfl, A, F, ρ, d, ρ1, k, rv, e1, fun σ1 k1 l1 s1 => ⟨A, F, ρ1, ds, ρ', k1, rvs, e', fun σ2 k2 l2 s2 => q σ2 k2 (l2.trans l1) fun i hi => by
          rw [List.mem_append, not_or] at hi
          rw [s2 i hi.2, s1 i hi.1]⟩⟩
def gT (gs : List Dt → En → Option En) (n : Nat) : Dt → En → Option En
  | .tup ds, ρ => if ds.length = n then gs ds ρ else none
  | _, _ => none
theorem dg_tup {k : Nat} {gs : List Dt → En → Option En} {sl : List Nat} {n : Nat} (hK : X.K = T.K) (hc : X.calm = true) (h : PGs X es (TMgs T π gs sl))
    (hn : (assignEach es X.env).length = n := by rfl) (hst : (assignEach es X.env).findIdx? (·.1) = none := by rfl) : PG X (.Tuple es k pos) (TMg T π (gT gs n) sl) := (pg_tup hc h hn hst).imp fun v σ H Q ⟨A, F, ρ, d, ρ', k, r, e, q⟩ => by
  cases d with
  | tup ds =>
    obtain ⟨a, vs, ev, hq, rs⟩ := r.tup_inv
    have e' : (if ds.length = n then gs ds ρ else none) = some ρ' := e
    by_cases hl : ds.length = n
    · rw [if_pos hl] at e'
      exact ⟨a, vs, ev, by rw [hK]; exact sqt_mono k.le hq, by rw [rs.length]; exact hl, A, F, ρ, ds, ρ', k, rs, e', q⟩
    · rw [if_neg hl] at e'; cases e'
  | _ => cases e
def sAsg (m : Mi Dt) (g : Dt → En → Option En) : En → So := sBind m fun d ρ => match g d ρ with
  | some ρ' => .nx ρ'
  | none => .bad
/-! ### loops -/
/-- J walks ds while what is frozen in F stands -/
structure Wk (T : Tx) (J : It) (ds : List Dt) (F : Hp) : Prop where
  goes : ∀ i H, i < ds.length → Le F H → J.go i H
  stops : ∀ H, Le F H → J.stop ds.length H
  yields : ∀ i H x H' d, ds[i]? = some d → Le F H → J.yld i H x H' → (H' = H ∧ Rep T F x d) ∨ ∃ p vs es, H p = none ∧ H' = upd H p (.tup vs) ∧ x = .ref p ∧ Reps T F vs es ∧ d = .tup es
def TMi (T : Tx) (π : Nat → Option Pin) (W : WX) (m : Mi (List Dt)) : TI := fun σ H R => ∃ A F ρ, Ok T π A F H σ ρ ∧ Post T π W σ A F H (fun ds _ F' H' => ∀ J, Wk T J ds F' → R J H') (m ρ)
/-- what a turn yields, frozen -/
theorem Wk.turn {J : It} {ds : List Dt} {Fs : Hp} (w : Wk T J ds Fs) {i : Nat} {x : V} {d : Dt} (hd : ds[i]? = some d) (k : Ok T π A F H σ ρ) (le : Le Fs F) (y : J.yld i H x H') :
    ∃ F', Ok T π A F' H' σ ρ ∧ Fr A F H F' H' ∧ Rep T F' x d ∧ Le Fs F' := by
  rcases w.yields i H x H' d hd (le_trans le k.le) y with ⟨rfl, r⟩ | ⟨p, vs, es, hp, rfl, rfl, rs, rfl⟩
  · exact ⟨F, k, .refl, r.mono le, le⟩
  · exact ⟨upd F p (.tup vs), k.new hp, .new k.le hp, .tup upd_same ((rs.mono le).mono (le_new (f_none k.le hp))), le_trans le (le_new (f_none k.le hp))⟩
def forGo (g : Dt → En → Option En) (b : En → So) : List Dt → En → So
  | [], ρ => .nx ρ
  | d :: ds, ρ => match g d ρ with
    | none => .bad
    | some ρ1 => match b ρ1 with
      | .nx ρ2 => forGo g b ds ρ2
      | .ct ρ2 => forGo g b ds ρ2
      | .bk ρ2 => .nx ρ2
      | o => o
def sFor (m : Mi (List Dt)) (g : Dt → En → Option En) (b : En → So) : En → So := sBind m (forGo g b)
theorem walk_of_wk {J : It} {ds : List Dt} {Fs : Hp} (w : Wk T J ds Fs) : Walk J ds.length (fun H => Le Fs H) (fun i H x H' => J.yld i H x H') := ⟨fun i H hi h => w.goes i H hi h, fun H h => w.stops H h, fun _ _ _ _ _ _ y => y⟩
theorem ds_for {tg iter : Expr} {body : List Stmt} {g : Dt → En → Option En} {sl : List Nat} {bm : En → So} (hp : PassesOwn (model X.prog X.w) X.A X.env X.xe) (hc : X.calm = true) (hi : PI X tg iter (TMi T π W ms)) (hg : PG X tg (TMg T π g sl)) (hb : PSs X body (TMs T π W bm))
    (hs : ∀ x, foldedSetIterable iter X.env x = pure x := by intro _; rfl) : PS X (.For tg iter body [] pos) (TMs T π W (sFor ms g bm)) := (ps_for hp hc hi hg hb hs).imp fun D σ H ⟨A, F0, H0, F, ρ, k, p⟩ =>
  ⟨_, F, ρ, k.ok, (p.bind k).imp fun ds ρ1 F1 H1 _ _ ⟨k1, p1⟩ J w => by
    refine for_it (walk_of_wk w) (fun i σ H => ∃ F ρ, StOk T π A F0 H0 F H σ ρ ∧ Le F1 F ∧ PostS T π W A F0 H0 D (forGo g bm (ds.drop i) ρ)) ⟨F1, ρ1, k1, le_refl F1, p1⟩ (fun i σ H _ ⟨F, ρ, k, l, _⟩ => le_trans l k.ok.le) (fun i x σ H H' hi ⟨F, ρ, k, l, p⟩ y => ?_) (fun σ H ⟨F, ρ, k, l, p⟩ => ?_)
    · have hd : ds[i]? = some ds[i] := List.getElem?_eq_getElem hi
      obtain ⟨F', k', r', rx, l'⟩ := w.turn hd k.ok l y
      rw [List.drop_eq_getElem_cons hi] at p
      unfold forGo at p
      cases e : g ds[i] ρ with
      | none => rw [e] at p; exact p.elim
      | some ρ2 =>
        rw [e] at p
        have k0 := k.step k' r'
        refine ⟨_, F', ρ, ds[i], ρ2, k', rx, e, fun σ2 k2 _ _ => ⟨_, F', H', F', ρ2, k0.start k2, ?_⟩⟩
        dsimp only at p
        cases eb : bm ρ2 with
        | nx ρ3 => rw [eb] at p; exact fun σ3 F3 H3 k3 => ⟨F3, ρ3, k0.rebase k3, le_trans l' k3.fr.f, p⟩
        | ct ρ3 => rw [eb] at p; exact fun σ3 F3 H3 k3 => ⟨F3, ρ3, k0.rebase k3, le_trans l' k3.fr.f, p⟩
        | bk ρ3 => rw [eb] at p; exact fun σ3 F3 H3 k3 => p σ3 F3 H3 (k0.rebase k3)
        | rt d ρ3 => rw [eb] at p; exact fun σ3 F3 H3 v k3 => p σ3 F3 H3 v (k0.rebase k3)
        | rtN d ρ3 => rw [eb] at p; exact fun σ3 F3 H3 v k3 h1 h2 h3 h4 h5 => p σ3 F3 H3 v (k0.rebase k3) h1 h2 (h3.elim id fun z => .inr (k0.fr.t v z)) h4 fun y hy => ⟨(h5 y hy).1, (h5 y hy).2.1, (h5 y hy).2.2.elim id fun z => .inr (k0.fr.t y z)⟩
        | exc x ρ3 => rw [eb] at p; exact fun σ3 F3 H3 c d k3 => p σ3 F3 H3 c d (k0.rebase k3)
        | bad => rw [eb] at p; exact p.elim
    · have e : ds.drop ds.length = [] := List.drop_length
      rw [e] at p
      exact p σ _ H k⟩
end
end Dl
namespace Dl
open PySem PySem.Spec PyProof.Rows L2
section
variable {X : Cx} {T : Tx} {π : Nat → Option Pin} {W : WX} {a b c e : Expr} {es : List Expr} {pos : Pos} {m ma mb mc : Mi Dt} {ms : Mi (List Dt)} {A A' : Addr → Prop} {F H F' H' F0 H0 : Hp} {σ : L2.St} {ρ : En}
/-! ### while -/
/-! ### comprehensions -/
def wipeE (ρ : En) : List Nat → En
  | [] => ρ
  | v :: vs => (wipeE ρ vs).set v none
def restE (ρ0 ρ : En) : List Nat → En
  | [] => ρ
  | v :: vs => (restE ρ0 ρ vs).set v (ρ0[v]?.getD none)
def ownAny (ρ : En) : List Nat → Bool
  | [] => false
  | v :: vs => (match ρ[v]? with | some (some (.own _ _)) => true | _ => false) || ownAny ρ vs
theorem wipeE_len (ρ : En) : ∀ vs, (wipeE ρ vs).length = ρ.length
  | [] => rfl
  | v :: vs => by unfold wipeE; rw [List.length_set, wipeE_len ρ vs]
theorem restE_len (ρ0 ρ : En) : ∀ vs, (restE ρ0 ρ vs).length = ρ.length
  | [] => rfl
  | v :: vs => by unfold restE; rw [List.length_set, restE_len ρ0 ρ vs]
theorem wipeE_some {ρ : En} {i : Nat} {x : Sl} : ∀ {vs : List Nat}, (wipeE ρ vs)[i]? = some (some x) → ρ[i]? = some (some x) ∧ i ∉ vs
  | [], h => ⟨h, by simp⟩
  | v :: vs, h => by
    unfold wipeE at h
    by_cases hi : v = i
    · subst hi
      by_cases hv : v < (wipeE ρ vs).length
      · rw [List.getElem?_set_self hv] at h; cases h
      · rw [List.getElem?_eq_none (by simpa using hv)] at h; cases h
    · rw [List.getElem?_set_ne hi] at h
      obtain ⟨h1, h2⟩ := wipeE_some h
      exact ⟨h1, by simp only [List.mem_cons, not_or]; exact ⟨fun e => hi e.symm, h2⟩⟩
theorem restE_out {ρ0 ρ : En} {i : Nat} : ∀ {vs : List Nat}, i ∉ vs → (restE ρ0 ρ vs)[i]? = ρ[i]?
  | [], _ => rfl
  | v :: vs, h => by
    simp only [List.mem_cons, not_or] at h
    unfold restE
    rw [List.getElem?_set_ne fun e => h.1 e.symm]
    exact restE_out h.2
theorem restE_in {ρ0 ρ : En} {i : Nat} {x : Sl} : ∀ {vs : List Nat}, i ∈ vs → (restE ρ0 ρ vs)[i]? = some (some x) → ρ0[i]? = some (some x)
  | [], h, _ => nomatch h
  | v :: vs, h, e => by
    unfold restE at e
    by_cases hi : v = i
    · subst hi
      by_cases hv : v < (restE ρ0 ρ vs).length
      · rw [List.getElem?_set_self hv] at e
        cases q : ρ0[v]? with
        | none => rw [q] at e; cases e
        | some s => rw [q] at e; exact e
      · rw [List.getElem?_eq_none (by simpa using hv)] at e; cases e
    · rw [List.getElem?_set_ne hi] at e
      cases h with
      | head => exact absurd rfl hi
      | tail _ h => exact restE_in h e
theorem ownAny_no {ρ : En} {i : Nat} {io : Bool} {d : Dt} : ∀ {vs : List Nat}, ownAny ρ vs = false → i ∈ vs → ρ[i]? ≠ some (some (.own io d))
  | [], _, q, _ => nomatch q
  | v :: vs, h, q, e => by
    unfold ownAny at h
    rcases List.mem_cons.mp q with q | q
    · subst q
      rw [e] at h
      cases h
    · exact ownAny_no (Bool.or_eq_false_iff.mp h).2 q e
theorem wipe_ext {σ σ' : L2.St} (hl : σ'.length = σ.length) : ∀ {vs : List Nat}, (∀ i, i ∉ vs → σ'[i]? = σ[i]?) → wipe σ' vs = wipe σ vs := fun {vs} h => by
  apply List.ext_getElem?
  intro i
  by_cases hi : i ∈ vs
  · have hw : ∀ τ : L2.St, i < τ.length → (wipe τ vs)[i]? = some none := fun τ ht => by
      have hlt : i < (wipe τ vs).length := by rw [wipe_length]; exact ht
      cases q : (wipe τ vs)[i]? with
      | none => rw [List.getElem?_eq_none_iff] at q; omega
      | some s =>
        cases s with
        | none => rfl
        | some v => exact absurd hi (wipe_some q).2
    by_cases hs : i < σ.length
    · rw [hw σ hs, hw σ' (by omega)]
    · rw [List.getElem?_eq_none (by rw [wipe_length]; omega), List.getElem?_eq_none (by rw [wipe_length]; omega)]
  · rw [wipe_out hi, wipe_out hi]
    exact h i hi
theorem wipe_wipe (σ : L2.St) (vs : List Nat) : wipe (wipe σ vs) vs = wipe σ vs := wipe_ext (wipe_length σ vs) fun i hi => wipe_out hi
theorem Ok.wipe (k : Ok T π A F H σ ρ) (vs : List Nat) : Ok T π A F H (L2.wipe σ vs) (wipeE ρ vs) := by
  refine ⟨k.le, by rw [wipe_length, wipeE_len]; exact k.len, fun i d e => ?_, fun i io d e => ?_, fun i j io jo d e a b x ei ej si sj => ?_⟩
  · obtain ⟨h1, h2⟩ := wipeE_some e
    rw [wipe_out h2]
    exact k.val i d h1
  · obtain ⟨h1, h2⟩ := wipeE_some e
    rw [wipe_out h2]
    exact k.own i io d h1
  · obtain ⟨h1, h2⟩ := wipeE_some ei
    obtain ⟨h3, h4⟩ := wipeE_some ej
    rw [wipe_out h2] at si
    rw [wipe_out h4] at sj
    exact k.dis i j io jo d e a b x h1 h3 si sj
/-- behind the block -/
theorem Ok.rest {ρ0 : En} {vs : List Nat} (k0 : Ok T π A F0 H0 σ ρ0) (no : ownAny ρ0 vs = false) (f : Le F0 F) (k : Ok T π A F H (L2.wipe σ vs) ρ) : Ok T π A F H σ (restE ρ0 ρ vs) := by
  have ol : ∀ (i : Nat) io d, (restE ρ0 ρ vs)[i]? = some (some (.own io d)) → i ∉ vs ∧ ρ[i]? = some (some (.own io d)) := fun i io d e => by
    by_cases hi : i ∈ vs
    · exact absurd (restE_in hi e) (ownAny_no no hi)
    · rw [restE_out hi] at e; exact ⟨hi, e⟩
  refine ⟨k.le, by rw [restE_len, ← k.len, wipe_length], fun i d e => ?_, fun i io d e => ?_, fun i j io jo d e a b x ei ej si sj => ?_⟩
  · by_cases hi : i ∈ vs
    · obtain ⟨v, h1, h2⟩ := k0.val i d (restE_in hi e)
      exact ⟨v, h1, h2.mono f⟩
    · rw [restE_out hi] at e
      obtain ⟨v, h1, h2⟩ := k.val i d e
      rw [wipe_out hi] at h1
      exact ⟨v, h1, h2⟩
  · obtain ⟨hi, e⟩ := ol i io d e
    obtain ⟨x, h1, h2⟩ := k.own i io d e
    rw [wipe_out hi] at h1
    exact ⟨x, h1, h2⟩
  · obtain ⟨hi, ei⟩ := ol i io d ei
    obtain ⟨hj, ej⟩ := ol j jo e ej
    exact k.dis i j io jo d e a b x ei ej (by rw [wipe_out hi]; exact si) (by rw [wipe_out hj]; exact sj)
def lcGo (g : Dt → En → Option En) (t : Mi Bool) (e : Mi Dt) (vs : List Nat) : List Dt → List Dt → En → Ou (List Dt)
  | [], acc, ρ => .ok acc ρ
  | d :: ds, acc, ρ => match g d ρ with
    | none => .bad
    | some ρ1 => match t ρ1 with
      | .ok true ρ2 => (match e ρ2 with
        | .ok y ρ3 => if acc.length < sizeLine then lcGo g t e vs ds (acc ++ [y]) (wipeE ρ3 vs) else .bad
        | _ => .bad)
      | .ok false ρ2 => lcGo g t e vs ds acc (wipeE ρ2 vs)
      | _ => .bad
def mLc (mi : Mi (List Dt)) (g : Dt → En → Option En) (t : Mi Bool) (e : Mi Dt) (vs : List Nat) : Mi Dt := mBind mi fun ds ρ =>
  if ownAny ρ vs then .bad else match lcGo g t e vs ds [] (wipeE ρ vs) with
    | .ok acc ρ' => .ok (.lst acc) (restE ρ ρ' vs)
    | _ => .bad
def W0 : WX := fun _ _ _ _ => False
theorem tme_tmn {Q : VK} (h : TMe T π W m σ H Q) : TMn T π W m σ H Q := by
  obtain ⟨A, F, ρ, k, p⟩ := h
  refine ⟨A, F, ρ, k, p.imp2 fun d ρ' q F' H' k' r' x hx nx hp ho hi => ?_⟩
  obtain ⟨F2, e1, e2, e3, e4⟩ := ho.frozen k'.le hx (fun y hy => (hi y hy).1)
  have ne : ∀ y, IsOwn H' σ ρ' y → F2 y = F' y := fun y w => e3 y (fun z => nx (z ▸ w)) fun z => (hi y z).2.1 w
  have k2 : Ok T π A F2 H' σ ρ' := k'.grow e1 e2 (fun y w => by rw [ne y w]; exact (k'.ownH w).2.1) fun y u w z => z
  refine q F2 H' k2 ⟨le_trans r'.f e1, r'.h, fun y o hy z t => ?_, r'.t⟩ _ e4
  rw [e3 y (fun zz => by rw [zz, hp] at z; cases z) fun zz => by rw [(hi y zz).2.2] at z; cases z]
  exact r'.n y o hy z t
/-- an object that is none of the slots' own changes -/
theorem Ok.upd_other {p : Addr} {o : HO} (k : Ok T π A F H σ ρ) (hf : F p = none) (hn : ¬ A p) : Ok T π A F (upd H p o) σ ρ := by
  refine k.grow (le_refl F) (fun a u e => ?_) (fun a w => (k.ownH w).2.1) fun a u w e => ?_
  · rw [upd_ne fun z => by rw [z, hf] at e; cases e]; exact k.le a u e
  · rw [upd_ne fun z => hn (by rw [← z]; exact k.ownA w)]; exact e
theorem tlc_of {g : Dt → En → Option En} {sl vs : List Nat} {mt : Mi Bool} {me : Mi Dt} {Q : VK} (hsl : ∀ i ∈ sl, i ∈ vs) (h : TMn T π W (mLc ms g mt me vs) σ H Q) : tLc (TMi T π W ms) (TMg T π g sl) (TMt T π W0 mt) (TMe T π W0 me) vs σ H Q := by
  obtain ⟨A0, F, ρ, k, p⟩ := h
  refine ⟨IsOwn H σ ρ, F, ρ, k.tight, ((p.weak (A' := IsOwn H σ ρ) fun a z => k.ownA z).bind).imp fun ds ρ1 F1 H1 k1 r1 p1 J w D hD => ?_⟩
  have nA : ¬ IsOwn H σ ρ D := k.fresh_own (r1.t D hD)
  by_cases hown : ownAny ρ1 vs = true
  · rw [if_pos hown] at p1; exact p1.elim
  · rw [if_neg hown] at p1
    have hown : ownAny ρ1 vs = false := by simpa using hown
    cases el : lcGo g mt me vs ds [] (wipeE ρ1 vs) with
    | exc x r => rw [el] at p1; exact p1.elim
    | bad => rw [el] at p1; exact p1.elim
    | ok accF ρF =>
      rw [el] at p1
      refine lc_it (walk_of_wk w) (fun i Hc => ∃ F ρ' acc vacc, Ok T π (IsOwn H σ ρ) F Hc (wipe σ vs) ρ' ∧ Fr (IsOwn H σ ρ) F1 H1 F Hc ∧ F D = none ∧ Hc D = some (.lst vacc) ∧ Reps T F vacc acc ∧ lcGo g mt me vs (ds.drop i) acc ρ' = .ok accF ρF)
        ⟨F1, wipeE ρ1 vs, [], [], (k1.newO hD).wipe vs, .newO hD, f_none k1.le hD, upd_same, .nil, el⟩ (fun i Hc _ ⟨F, _, _, _, k, r, _⟩ => le_trans r.f k.le) (fun i x Hc H' hi ⟨F2, ρ', acc, vacc, k2, r2, fD, hDc, rs, eg⟩ y => ?_) (fun Hc ⟨F2, ρ', acc, vacc, k2, r2, fD, hDc, rs, eg⟩ => ?_)
      · have hd : ds[i]? = some ds[i] := List.getElem?_eq_getElem hi
        obtain ⟨F3, k3, r3, rx, l3⟩ := w.turn hd k2 r2.f y
        rw [List.drop_eq_getElem_cons hi] at eg
        unfold lcGo at eg
        cases e1 : g ds[i] ρ' with
        | none => rw [e1] at eg; cases eg
        | some ρ2 =>
          rw [e1] at eg
          dsimp only at eg
          refine ⟨_, F3, ρ', ds[i], ρ2, k3, rx, e1, fun σ2 k4 l4 s4 => ?_⟩
          have ew : wipe σ2 vs = wipe σ vs := by
            rw [wipe_ext (σ := wipe σ vs) (σ' := σ2) l4 fun i hi => s4 i fun z => hi (hsl i z), wipe_wipe]
          refine ⟨ew, _, F3, ρ2, k4, ?_⟩
          have keep : ∀ {F5 H5 : Hp} {ρ5 : En}, Ok T π (IsOwn H σ ρ) F5 H5 σ2 ρ5 → Fr (IsOwn H σ ρ) F3 H' F5 H5 → H5 D = some (.lst vacc) ∧ F5 D = none ∧ Reps T F5 vacc acc ∧ Fr (IsOwn H σ ρ) F1 H1 F5 H5 ∧ Ok T π (IsOwn H σ ρ) F5 H5 (wipe σ vs) (wipeE ρ5 vs) := fun {F5 H5 ρ5} k5 r5 => by
            have rr := r3.trans r5
            refine ⟨rr.h D _ nA hDc, ?_, rs.mono rr.f, r2.trans rr, by rw [← ew]; exact k5.wipe vs⟩
            rw [rr.n D _ nA hDc (fun _ z => nomatch z)]; exact fD
          cases e2 : mt ρ2 with
          | exc x r => rw [e2] at eg; cases eg
          | bad => rw [e2] at eg; cases eg
          | ok b ρ3 =>
            rw [e2] at eg
            intro F5 H5 k5 r5
            cases b with
            | false =>
              obtain ⟨q1, q2, q3, q4, q5⟩ := keep k5 r5
              exact iteF ⟨F5, _, acc, vacc, q5, q4, q2, q1, q3, eg⟩
            | true =>
              dsimp only at eg
              refine iteT ⟨_, F5, ρ3, k5, ?_⟩
              cases e3 : me ρ3 with
              | exc x r => rw [e3] at eg; cases eg
              | bad => rw [e3] at eg; cases eg
              | ok yv ρ4 =>
                rw [e3] at eg
                dsimp only at eg
                intro F6 H6 k6 r6 v rv
                obtain ⟨q1, q2, q3, q4, q5⟩ := keep k6 (r5.trans r6)
                by_cases hz : acc.length < sizeLine
                · rw [if_pos hz] at eg
                  refine ⟨vacc, q1, by rw [rs.length]; exact hz, F6, _, acc ++ [yv], vacc ++ [v], q5.upd_other q2 nA, ?_, q2, upd_same, q3.append (.cons rv .nil), eg⟩
                  exact ⟨q4.f, fun a o n e => by
                    rw [upd_ne fun z => by rw [z, hD] at e; cases e]; exact q4.h a o n e, q4.n, fun a e => q4.t a (up_none e)⟩
                · rw [if_neg hz] at eg; cases eg
      · have e : ds.drop ds.length = [] := List.drop_length
        rw [e] at eg
        unfold lcGo at eg
        cases eg
        have k5 := k1.rest hown r2.f k2
        exact p1 F2 Hc k5 r2 D fD (fun z => nA (k5.ownA z)) (r1.t D hD) ⟨vacc, hDc, rs⟩ (fun _ z => nomatch z)
theorem dn_lc {elt tg iter : Expr} {ifs : List Expr} {scope : Scope} {own : List (Str × Nat)} {g : Dt → En → Option En} {sl : List Nat} {mt : Mi Bool} {me : Mi Dt} (h : PE X (.ListComp elt [⟨tg, iter, ifs, 0⟩] scope pos) (tLc (TMi T π W ms) (TMg T π g sl) (TMt T π W0 mt) (TMe T π W0 me) (own.map (·.2)))) (hsl : ∀ i ∈ sl, i ∈ own.map (·.2)) :
    PE X (.ListComp elt [⟨tg, iter, ifs, 0⟩] scope pos) (TMn T π W (mLc ms g mt me (own.map (·.2)))) := h.imp fun σ H Q q => tlc_of hsl q
theorem ds_setLcV {i : Nat} {g : Dt → En → Option En} {sl vs : List Nat} {st : Stmt} {mt : Mi Bool} {me : Mi Dt} (h : PS X st (tAsg (tLc (TMi T π W ms) (TMg T π g sl) (TMt T π W0 mt) (TMe T π W0 me) vs) (gName i))) (hsl : ∀ i ∈ sl, i ∈ vs) : PS X st (TMs T π W (sSet i (mLc ms g mt me vs))) :=
  ds_asgV (h.imp fun D σ H q => tlc_of hsl (tme_tmn q))
theorem dts_nil : PTs X [] (TMt T π W (mPure true)) := ⟨fun pins s σ H Q I ⟨A, F, ρ, k, p⟩ => pts_nil.run pins s σ H Q I (p.pure k)⟩
theorem dts_one {mt : Mi Bool} (h : PT X c (TMt T π W mt)) : PTs X [c] (TMt T π W mt) := pts_one h
end
end Dl
namespace Dl
open PySem PySem.Spec PyProof.Rows L2
/-! ### what a def promises -/
inductive Fo where
  | ret (d o : Dt) | exc (x : Ex) (o : Dt) | bad
def pinA (π0 : Option Pin) : Addr → Prop := fun x => ∃ q, π0 = some q ∧ (x = q.1 ∨ x ∈ q.2)
def ArgsOk (T : Tx) (F H : Hp) : Bool → List V → List Dt → Option Pin → Prop
  | false, vs, ds, π0 => Reps T F vs ds ∧ π0 = none
  | true, vs, ds, π0 => ∃ a vr d dr, vs = .ref a :: vr ∧ ds = d :: dr ∧ F a = none ∧ OwnAt T F H a d ∧ Reps T F vr dr ∧ π0 = some (a, inH H a d) ∧ ∀ x ∈ inH H a d, F x = none
def RetOk (T : Tx) (H F' H' : Hp) (v : V) (d : Dt) : Bool → Prop
  | false => Rep T F' v d
  | true => ∃ p, v = .ref p ∧ F' p = none ∧ H p = none ∧ OwnAt T F' H' p d ∧ ∀ x ∈ inH H' p d, F' x = none ∧ H x = none
def IoOk (T : Tx) (F' H' : Hp) (π0 : Option Pin) (o : Dt) : Prop := ∀ q, π0 = some q → F' q.1 = none ∧ OwnAt T F' H' q.1 o ∧ inH H' q.1 o = q.2 ∧ ∀ x ∈ q.2, F' x = none
def FoOk (T : Tx) (rn : Bool) (π0 : Option Pin) (F H : Hp) (Q : VK) (E : XK) : Fo → Prop
  | .ret d o => ∀ F' H' v, Le F' H' → Fr (pinA π0) F H F' H' → IoOk T F' H' π0 o → RetOk T H F' H' v d rn → Q v H'
  | .exc x o => ∀ F' H' cls dx, Le F' H' → Fr (pinA π0) F H F' H' → IoOk T F' H' π0 o → RepX T F' H' cls dx x → E cls dx H'
  | .bad => False
def spM (T : Tx) (n : Nat) (io rn : Bool) (f : List Dt → Fo) : Sp := fun vs H Q E => ∃ F ds π0, vs.length = n ∧ Le F H ∧ ArgsOk T F H io vs ds π0 ∧ FoOk T rn π0 F H Q E (f ds)
def argE : Bool → List Dt → En
  | true, d :: r => some (.own true d) :: r.map fun d => some (.val d)
  | _, ds => ds.map fun d => some (.val d)
def ioOut (io : Bool) (ρ : En) : Option Dt := match io with
  | true => (match ρ[0]? with | some (some (Sl.own true d)) => some d | _ => none)
  | false => some .non
def runF (k : Nat) (io rn : Bool) (body : En → So) (ds : List Dt) : Fo := match body (argE io ds ++ List.replicate (k - ds.length) none) with
  | .nx ρ => (match ioOut io ρ with | some o => (match rn with | false => .ret .non o | true => .bad) | none => .bad)
  | .rt d ρ => (match ioOut io ρ with | some o => (match rn with | false => .ret d o | true => .bad) | none => .bad)
  | .rtN d ρ => (match ioOut io ρ with | some o => (match rn with | true => .ret d o | false => .bad) | none => .bad)
  | .exc x ρ => (match ioOut io ρ with | some o => .exc x o | none => .bad)
  | _ => .bad
theorem Reps.slots {T : Tx} {F : Hp} : ∀ {vs : List V} {ds : List Dt} {i : Nat} {d : Dt}, Reps T F vs ds → (ds.map fun d => (some (Sl.val d)))[i]? = some (some (.val d)) → ∃ v, vs[i]? = some v ∧ Rep T F v d := fun {vs ds i d} r e => by
  rw [List.getElem?_map] at e
  cases q : ds[i]? with
  | none => rw [q] at e; cases e
  | some d' =>
    rw [q] at e
    cases e
    exact r.get q
theorem noown (ds : List Dt) (i : Nat) (io : Bool) (d : Dt) : (ds.map fun d => (some (Sl.val d)))[i]? ≠ some (some (.own io d)) := fun e => by
  rw [List.getElem?_map] at e
  cases q : ds[i]? with
  | none => rw [q] at e; cases e
  | some d' => rw [q] at e; cases e
theorem app_some {ρ : En} {n : Nat} {i : Nat} {s : Sl} (h : (ρ ++ List.replicate n none)[i]? = some (some s)) : ρ[i]? = some (some s) ∧ i < ρ.length := by
  by_cases hi : i < ρ.length
  · rw [List.getElem?_append_left hi] at h; exact ⟨h, hi⟩
  · rw [List.getElem?_append_right (by omega), List.getElem?_replicate] at h
    split at h
    · cases h
    · cases h
theorem argsOk_len {T : Tx} {F H : Hp} {io : Bool} {vs : List V} {ds : List Dt} {π0 : Option Pin} (h : ArgsOk T F H io vs ds π0) : vs.length = ds.length := by
  cases io with
  | false => exact h.1.length
  | true =>
    obtain ⟨a, vr, d, dr, rfl, rfl, _, _, r, _⟩ := h
    rw [List.length_cons, List.length_cons, r.length]
def pi0 (π0 : Option Pin) : Nat → Option Pin
  | 0 => π0
  | _ + 1 => none
theorem ok_start {T : Tx} {N : List Str} {F H : Hp} {io : Bool} {vs : List V} {ds : List Dt} {π0 : Option Pin} (hl : vs.length ≤ N.length) (le : Le F H) (h : ArgsOk T F H io vs ds π0) :
    StOk T (pi0 π0) (pinA π0) F H F H (L2.start N vs) (argE io ds ++ List.replicate (N.length - ds.length) none) := by
  have hn := argsOk_len h
  have sl : ∀ (i : Nat) v, vs[i]? = some v → (L2.start N vs)[i]? = some (some v) := fun i v e => by
    unfold L2.start
    rw [List.getElem?_append_left (by rw [List.length_map]; exact (List.getElem?_eq_some_iff.mp e).1), List.getElem?_map, e]
    rfl
  refine ⟨⟨le, ?_, fun i d e => ?_, fun i jo d e => ?_, fun i j jo lo d e a b x ei ej si sj _ _ => ?_⟩, .refl⟩
  · unfold L2.start
    cases io with
    | false => unfold argE; simp; omega
    | true =>
      obtain ⟨a, vr, d, dr, rfl, rfl, _, _, r, _⟩ := h
      have := r.length
      unfold argE; simp at hl ⊢; omega
  · obtain ⟨e, hi⟩ := app_some e
    cases io with
    | false =>
      obtain ⟨v, h1, h2⟩ := h.1.slots (show (ds.map fun d => (some (Sl.val d)))[i]? = _ from e)
      exact ⟨v, sl i v h1, h2⟩
    | true =>
      obtain ⟨a, vr, d0, dr, rfl, rfl, h1, h2, r, h3⟩ := h
      cases i with
      | zero => cases e
      | succ i =>
        obtain ⟨v, q1, q2⟩ := r.slots (show (dr.map fun d => (some (Sl.val d)))[i]? = _ from e)
        exact ⟨v, sl (i + 1) v q1, q2⟩
  · obtain ⟨e, hi⟩ := app_some e
    cases io with
    | false => exact absurd e (noown ds i jo d)
    | true =>
      obtain ⟨a, vr, d0, dr, rfl, rfl, h1, h2, r, h3⟩ := h
      cases i with
      | succ i => exact absurd (show (dr.map fun d => (some (Sl.val d)))[i]? = _ from e) (noown dr i jo d)
      | zero =>
        cases e
        exact ⟨a, sl 0 _ rfl, h1, h2, .inl ⟨_, h3.1, .inl rfl⟩, (fun _ => h3.1), fun x hx => ⟨h3.2 x hx, .inl ⟨_, h3.1, .inr hx⟩⟩⟩
  · obtain ⟨ei, _⟩ := app_some ei
    obtain ⟨ej, _⟩ := app_some ej
    cases io with
    | false => exact absurd ei (noown ds i jo d)
    | true =>
      obtain ⟨a, vr, d0, dr, rfl, rfl, h1, h2, r, h3⟩ := h
      cases i with
      | succ i => exact absurd (show (dr.map fun d => (some (Sl.val d)))[i]? = _ from ei) (noown dr i jo d)
      | zero =>
        cases j with
        | succ j => exact absurd (show (dr.map fun d => (some (Sl.val d)))[j]? = _ from ej) (noown dr j lo e)
        | zero => rfl
theorem io_end {T : Tx} {F H F' H' : Hp} {io : Bool} {vs : List V} {ds : List Dt} {π0 : Option Pin} {σ : L2.St} {ρ : En} {o : Dt} (h : ArgsOk T F H io vs ds π0) (k : StOk T (pi0 π0) (pinA π0) F H F' H' σ ρ) (e : ioOut io ρ = some o) : IoOk T F' H' π0 o := fun a ha => by
  cases io with
  | false => rw [h.2] at ha; cases ha
  | true =>
    unfold ioOut at e
    dsimp only at e
    split at e
    · rename_i d hd
      cases e
      obtain ⟨b, h1, h2, h3, h4, h5⟩ := k.ok.own 0 true _ hd
      have e2 : π0 = some (b, _) := h5.1 rfl
      rw [ha] at e2
      cases e2
      exact ⟨h2, h3, rfl, fun x hx => (h5.2 x hx).1⟩
    · cases e
section
variable {P : Program} {w : World} {K : PySem.W.Frag} {mg : Str → Option Value} {base : Heap}
/-- a def keeps the promise of its mirror -/
theorem rtn_new {T : Tx} {F H F' H' : Hp} {io : Bool} {vs : List V} {ds : List Dt} {π0 : Option Pin} {σ : L2.St} {ρ : En} {o : Dt} {p : Addr} (h : ArgsOk T F H io vs ds π0) (k : StOk T (pi0 π0) (pinA π0) F H F' H' σ ρ) (e : ioOut io ρ = some o) (hn : ¬ IsOwn H' σ ρ p) (hp : pinA π0 p ∨ H p = none) : H p = none := by
  rcases hp with hp | hp
  · exfalso
    cases io with
    | false => obtain ⟨q, hq, _⟩ := hp; rw [h.2] at hq; cases hq
    | true =>
      unfold ioOut at e
      dsimp only at e
      split at e
      · rename_i d q
        obtain ⟨a, h1, _, _, _, h5⟩ := k.ok.own 0 true d q
        have h6 : π0 = some (a, inH H' a d) := h5.1 rfl
        obtain ⟨r, hr, hx⟩ := hp
        rw [h6] at hr
        cases hr
        exact hn ⟨0, true, d, a, q, h1, hx⟩
      · cases e
  · exact hp
theorem fun_ok {x qual : Str} {st : Stmt} {f : Addr} {fd : FuncData} {N ps : List Str} {k : Nat} {cl : Nat → Option (Addr × List Str)} {io rn : Bool} {body : En → So} (F : Fun K x qual st f fd) (S : FnScope N ps (defScope st)) (hN : ps.length ≤ N.length)
    (hb : ∀ (cdv : Value) (A : Around) (outer : List Env) (s : Shared) (H : Hp) (E : XK) (π : Nat → Option Pin), Room k (A.deeper (envOfC qual (defScope st) s.heap.objs.size f cdv)) →
      PSs (cxOf (L2.CX P w) P w K mg base N qual (defScope st) f cdv A outer s H E) (defBody st) (TMs ⟨K, cl⟩ π (fun cls d _ H => E cls d H) body)) :
    FnOk P w K mg base (L2.CX P w) (k + 1) f fd ps (spM ⟨K, cl⟩ ps.length io rn (runF N.length io rn body)) := by
  refine F.okX S (fun vs H Q E h => ?_) (fun cdv A outer s H vs Q E hr h => ?_)
  · obtain ⟨F, ds, π0, hl, _⟩ := h
    exact hl
  · obtain ⟨F0, ds, π0, hl, le, ha, q⟩ := h
    refine ⟨_, hb cdv A outer s H E (pi0 π0) hr, _, F0, H, F0, _, ok_start (by rw [hl]; exact hN) le ha, ?_⟩
    unfold runF at q
    cases eb : body (argE io ds ++ List.replicate (N.length - ds.length) none) with
    | nx ρ =>
      rw [eb] at q
      dsimp only at q
      cases eo : ioOut io ρ with
      | none => rw [eo] at q; exact q.elim
      | some o =>
        rw [eo] at q
        cases rn with
        | true => exact q.elim
        | false => exact fun σ' F' H' k' => q F' H' .non k'.ok.le k'.fr (io_end ha k' eo) .non
    | rt d ρ =>
      rw [eb] at q
      dsimp only at q
      cases eo : ioOut io ρ with
      | none => rw [eo] at q; exact q.elim
      | some o =>
        rw [eo] at q
        cases rn with
        | true => exact q.elim
        | false => exact fun σ' F' H' v k' rv => q F' H' v k'.ok.le k'.fr (io_end ha k' eo) rv
    | rtN d ρ =>
      rw [eb] at q
      dsimp only at q
      cases eo : ioOut io ρ with
      | none => rw [eo] at q; exact q.elim
      | some o =>
        rw [eo] at q
        cases rn with
        | false => exact q.elim
        | true => exact fun σ' F' H' p k' h1 h2 h3 h4 h5 => q F' H' (.ref p) k'.ok.le k'.fr (io_end ha k' eo) ⟨p, rfl, h1, rtn_new ha k' eo h2 h3, h4, fun y hy => ⟨(h5 y hy).1, rtn_new ha k' eo (h5 y hy).2.1 (h5 y hy).2.2⟩⟩
    | exc x ρ =>
      rw [eb] at q
      dsimp only at q
      cases eo : ioOut io ρ with
      | none => rw [eo] at q; exact q.elim
      | some o =>
        rw [eo] at q
        exact fun σ' F' H' c d k' rx => q F' H' c d k'.ok.le k'.fr (io_end ha k' eo) rx
    | bk ρ => rw [eb] at q; exact q.elim
    | ct ρ => rw [eb] at q; exact q.elim
    | bad => rw [eb] at q; exact q.elim
end
section
variable {P : Program} {w : World} {K : PySem.W.Frag} {mg : Str → Option Value} {base : Heap}
theorem fun_ok2 {x qual : Str} {st : Stmt} {f : Addr} {fd : FuncData} {N ps : List Str} {k n : Nat} {cl : Nat → Option (Addr × List Str)} {io rn : Bool} {body : En → So} {fm : List Dt → Fo} (F : Fun K x qual st f fd) (S : FnScope N ps (defScope st)) (hN : ps.length ≤ N.length) (hn : n = ps.length) (hm : fm = runF N.length io rn body)
    (hb : ∀ (cdv : Value) (A : Around) (outer : List Env) (s : Shared) (H : Hp) (E : XK) (π : Nat → Option Pin), Room k (A.deeper (envOfC qual (defScope st) s.heap.objs.size f cdv)) →
      PSs (cxOf (L2.CX P w) P w K mg base N qual (defScope st) f cdv A outer s H E) (defBody st) (TMs ⟨K, cl⟩ π (fun cls d _ H => E cls d H) body)) :
    FnOk P w K mg base (L2.CX P w) (k + 1) f fd ps (spM ⟨K, cl⟩ n io rn fm) := by
  subst hn hm
  exact fun_ok F S hN hb
end
section
variable {X : Cx} {T : Tx} {π : Nat → Option Pin} {W : WX} {a b c e o : Expr} {es : List Expr} {pos : Pos} {m ma mb mc : Mi Dt} {ms : Mi (List Dt)} {A A' : Addr → Prop} {F H F' H' F0 H0 : Hp} {σ : L2.St} {ρ : En}
/-! ### a def is called -/
def mCall (n : Nat) (f : List Dt → Fo) (ms : Mi (List Dt)) : Mi Dt := mBind ms fun ds ρ => if ds.length = n then (match f ds with
  | .ret d _ => .ok d ρ
  | .exc x _ => .exc x ρ
  | .bad => .bad) else .bad
/-- behind a call that changes none of the slots' own objects -/
theorem Ok.called (k : Ok T π A F H σ ρ) (le : Le F' H') (r : Fr (pinA none) F H F' H') : Ok T π A F' H' σ ρ :=
  k.grow r.f le (fun a w => by
    obtain ⟨_, h2, o, h3, h4⟩ := k.ownT w
    rw [r.n a o (fun ⟨_, z, _⟩ => nomatch z) h3 h4]; exact h2) fun a o w e => r.h a o (fun ⟨_, z, _⟩ => nomatch z) e
theorem sp_call {n : Nat} {rn : Bool} {f : List Dt → Fo} {Q : VK} {vs : List V} {ds : List Dt} {P : Dt → En → Hp → Hp → Prop} (k : Ok T π A F H σ ρ) (r : Reps T F vs ds)
    (p : Post T π W σ A F H P (if ds.length = n then (match f ds with | .ret d _ => Ou.ok d ρ | .exc x _ => .exc x ρ | .bad => .bad) else .bad))
    (q : ∀ d F' H' v, Ok T π A F' H' σ ρ → Fr (pinA none) F H F' H' → RetOk T H F' H' v d rn → P d ρ F' H' → Q v H') : spM T n false rn f vs H Q (WE W σ) := by
  by_cases hl : ds.length = n
  · rw [if_pos hl] at p
    refine ⟨F, ds, none, by rw [r.length]; exact hl, k.le, ⟨r, rfl⟩, ?_⟩
    cases e : f ds with
    | ret d o =>
      rw [e] at p
      exact fun F' H' v le fr _ rv => q d F' H' v (k.called le fr) fr rv (p F' H' (k.called le fr) (fr.weak fun a ⟨_, z, _⟩ => nomatch z))
    | exc x o =>
      rw [e] at p
      exact fun F' H' c d le fr _ rx => p F' H' c d (k.called le fr) (fr.weak fun a ⟨_, z, _⟩ => nomatch z) rx
    | bad => rw [e] at p; exact p.elim
  · rw [if_neg hl] at p; exact p.elim
variable {k n : Nat} {f : Addr} {fd : FuncData} {ps : List Str} {x : Str} {p : Pos} {fm : List Dt → Fo}
theorem de_call (G : FnOk X.prog X.w X.K X.mg X.base (L2.CX X.prog X.w) k f fd ps (spM T n false false fm)) (hr : Room k X.A) (hg : Gl X x) (hm : X.mg x = some (.ref f)) (hk : PySem.W.keepIn X.K (.ref f) = true) (hb : Binds X.K fd ps []) (tk : Takes X W) (ha : PA X (e :: es) (TMa T π W ms))
    (hdb : (x == ("__debug__" : Str)) = false := by decide) (he : starEach (e :: es) X.env = (false, eval e X.env) :: starEach es X.env := by rfl) (hpl : (backTo pos (starEach es X.env)).any (·.1) = false := by rfl) :
    PE X (.Call (.Name x p) (e :: es) [] pos) (TMe T π W (mCall n fm ms)) := (pe_callSD (E := WE W) G hr hg hm hk hb .nil (fun σ => passAt tk σ) ha hdb he hpl).imp fun σ H Q ⟨A, F, ρ, k, p⟩ => ⟨A, F, ρ, k, p.bind.imp fun ds ρ1 F1 H1 k1 r1 p1 vs rvs => by
  show spM T n false false fm (vs ++ []) H1 Q (WE W σ)
  rw [List.append_nil]
  exact sp_call k1 rvs p1 fun d F' H' v _ _ rv q => q v rv⟩
theorem dn_call (G : FnOk X.prog X.w X.K X.mg X.base (L2.CX X.prog X.w) k f fd ps (spM T n false true fm)) (hr : Room k X.A) (hg : Gl X x) (hm : X.mg x = some (.ref f)) (hk : PySem.W.keepIn X.K (.ref f) = true) (hb : Binds X.K fd ps []) (tk : Takes X W) (ha : PA X (e :: es) (TMa T π W ms))
    (hdb : (x == ("__debug__" : Str)) = false := by decide) (he : starEach (e :: es) X.env = (false, eval e X.env) :: starEach es X.env := by rfl) (hpl : (backTo pos (starEach es X.env)).any (·.1) = false := by rfl) :
    PE X (.Call (.Name x p) (e :: es) [] pos) (TMn T π W (mCall n fm ms)) := (pe_callSD (E := WE W) G hr hg hm hk hb .nil (fun σ => passAt tk σ) ha hdb he hpl).imp fun σ H Q ⟨A, F, ρ, k, p⟩ => ⟨A, F, ρ, k, p.bind.imp fun ds ρ1 F1 H1 k1 r1 p1 vs rvs => by
  show spM T n false true fm (vs ++ []) H1 Q (WE W σ)
  rw [List.append_nil]
  exact sp_call k1 rvs p1 fun d F' H' v k' r' ⟨p, e, h1, h2, h3, h4⟩ q => by
    rw [e]
    have no : ∀ y, H1 y = none → ¬ IsOwn H' σ ρ1 y := fun y hy w => by
      have w' : IsOwn H1 σ ρ1 y := (k1.sameOwn fun a o w e => r'.h a o (fun ⟨_, z, _⟩ => nomatch z) e).mp w
      obtain ⟨_, _, o, ho⟩ := k1.ownH w'
      rw [hy] at ho; cases ho
    exact q p h1 (no p h2) (r1.t p h2) h3 fun y hy => ⟨(h4 y hy).1, no y (h4 y hy).2, r1.t y (h4 y hy).2⟩⟩
/-! ### a slot's own list is changed -/
/-- the slot's object changes, and what it holds alone -/
theorem Ok.putG {i : Nat} {io : Bool} {d d' : Dt} {a : Addr} {H' : Hp} (k : Ok T π A F H σ ρ) (e : ρ[i]? = some (some (.own io d))) (s : σ[i]? = some (some (.ref a))) (hH : ∀ b, b ≠ a → b ∉ inH H a d → H' b = H b) (ho : OwnAt T F H' a d') (hin : inH H' a d' = inH H a d) : Ok T π A F H' σ (ρ.set i (some (.own io d'))) := by
  have hi : i < ρ.length := (List.getElem?_eq_some_iff.mp e).1
  obtain ⟨a', h1, h2, h3, h4, h5⟩ := k.own i io d e
  rw [s] at h1
  cases h1
  have oth : ∀ (j : Nat) jo dj b, i ≠ j → ρ[j]? = some (some (.own jo dj)) → σ[j]? = some (some (.ref b)) → ∀ x, (x = b ∨ x ∈ inH H b dj) → H' x = H x := fun j jo dj b hj ej sj x hx =>
    hH x (fun z => hj (k.dis i j io jo d dj a b x e ej s sj (.inl z) hx)) fun z => hj (k.dis i j io jo d dj a b x e ej s sj (.inr z) hx)
  have smj : ∀ (j : Nat) jo dj b, i ≠ j → ρ[j]? = some (some (.own jo dj)) → σ[j]? = some (some (.ref b)) → inH H' b dj = inH H b dj := fun j jo dj b hj ej sj => by
    obtain ⟨b', q1, q2, q3, q4, q5⟩ := k.own j jo dj ej
    rw [sj] at q1
    cases q1
    exact q3.same fun o q => by rw [oth j jo dj b hj ej sj b (.inl rfl)]; exact q
  refine ⟨fun b u z => ?_, by simpa using k.len, fun j dj ej => ?_, fun j jo dj ej => ?_, fun j l jo lo dj dl b c x ej el sj sl xj xl => ?_⟩
  · rw [hH b (fun q => by rw [q, h2] at z; cases z) fun q => by rw [(h5.2 b q).1] at z; cases z]; exact k.le b u z
  · by_cases hj : i = j
    · subst hj; rw [List.getElem?_set_self hi] at ej; cases ej
    · rw [List.getElem?_set_ne hj] at ej; exact k.val j dj ej
  · by_cases hj : i = j
    · subst hj
      rw [List.getElem?_set_self hi] at ej
      cases ej
      exact ⟨a, s, h2, ho, h4, by rw [hin]; exact h5⟩
    · rw [List.getElem?_set_ne hj] at ej
      obtain ⟨b, q1, q2, q3, q4, q5⟩ := k.own j jo dj ej
      exact ⟨b, q1, q2, q3.mono (le_refl F) fun x hx u q => by rw [oth j jo dj b hj ej q1 x hx]; exact q, q4, by rw [smj j jo dj b hj ej q1]; exact q5⟩
  · have back : ∀ (j : Nat) jo dj b, (ρ.set i (some (.own io d')))[j]? = some (some (.own jo dj)) → σ[j]? = some (some (.ref b)) → ∃ jo dk, ρ[j]? = some (some (.own jo dk)) ∧ inH H b dk = inH H' b dj := fun j jo dj b ej sj => by
      by_cases hj : i = j
      · subst hj; rw [List.getElem?_set_self hi] at ej; cases ej; rw [s] at sj; cases sj; exact ⟨io, d, e, hin.symm⟩
      · rw [List.getElem?_set_ne hj] at ej; exact ⟨jo, dj, ej, (smj j jo dj b hj ej sj).symm⟩
    obtain ⟨_, _, gj, ij⟩ := back j jo dj b ej sj
    obtain ⟨_, _, gl, il⟩ := back l lo dl c el sl
    exact k.dis j l _ _ _ _ b c x gj gl sj sl (by rw [ij]; exact xj) (by rw [il]; exact xl)
/-- the slot's object changes -/
theorem Ok.put {i : Nat} {io : Bool} {d d' : Dt} {a : Addr} {o : HO} (k : Ok T π A F H σ ρ) (e : ρ[i]? = some (some (.own io d))) (s : σ[i]? = some (some (.ref a))) (ho : OwnAt T F (upd H a o) a d') (hin : inH (upd H a o) a d' = inH H a d := by rfl) : Ok T π A F (upd H a o) σ (ρ.set i (some (.own io d'))) :=
  k.putG e s (fun b hb _ => upd_ne hb) ho hin
theorem Fr.put {i : Nat} {io : Bool} {d : Dt} {a : Addr} {o : HO} (k : Ok T π A F H σ ρ) (e : ρ[i]? = some (some (.own io d))) (s : σ[i]? = some (some (.ref a))) : Fr A F H F (upd H a o) := by
  have hA : A a := k.ownA ⟨i, io, d, a, e, s, .inl rfl⟩
  exact ⟨le_refl F, fun b u n q => by rw [upd_ne fun z => n (by rw [z]; exact hA)]; exact q, fun _ _ _ _ _ => rfl, fun _ z => up_none z⟩
/-- the list in slot i, changed by f of the list and a value -/
def mMut (i : Nat) (f : List Dt → Option (Dt × List Dt)) : Mi Dt := fun ρ => match ρ[i]? with
  | some (some (.own io (.lst ds))) => (match f ds with
    | some (r, es) => .ok r (ρ.set i (some (.own io (.lst es))))
    | none => .bad)
  | _ => .bad
theorem mMut_inv {i : Nat} {f : List Dt → Option (Dt × List Dt)} {P : Dt → En → Hp → Hp → Prop} (p : Post T π W σ A F H P (mMut i f ρ)) (k : Ok T π A F H σ ρ) :
    ∃ io ds r es a vs, ρ[i]? = some (some (.own io (.lst ds))) ∧ f ds = some (r, es) ∧ σ[i]? = some (some (.ref a)) ∧ H a = some (.lst vs) ∧ Reps T F vs ds ∧
      ∀ vs', Reps T F vs' es → P r (ρ.set i (some (.own io (.lst es)))) F (upd H a (.lst vs')) := by
  unfold mMut at p
  split at p
  · rename_i io ds e
    split at p
    · rename_i r es ef
      obtain ⟨a, h1, h2, ⟨vs, h3, h4⟩, _⟩ := k.own i io _ e
      exact ⟨io, ds, r, es, a, vs, e, ef, h1, h3, h4, fun vs' rv => p F (upd H a (.lst vs')) (k.put e h1 ⟨vs', upd_same, rv⟩) (.put k e h1)⟩
    · exact p.elim
  · exact p.elim
def mAppend (i : Nat) (m : Mi Dt) : Mi Dt := mBind m fun y => mMut i fun ds => if ds.length < sizeLine then some (.non, ds ++ [y]) else none
def mExtend (i : Nat) (m : Mi Dt) : Mi Dt := mBind m fun y => mMut i fun ds => match y with
  | .lst es => if ds.length + es.length ≤ sizeLine then some (.non, ds ++ es) else none
  | _ => none
def mPopAt (i : Nat) (m : Mi Dt) : Mi Dt := mBind m fun y => mMut i fun ds => match y with
  | .int j => if -(2 ^ 63) ≤ j ∧ j < 2 ^ 63 then (ixN ds.length j).bind fun q => (ds[q]?).map fun y => (y, ds.eraseIdx q) else none
  | _ => none
/-- the slot's own list is there, whatever comes -/
theorem own_first {i : Nat} {io : Bool} {ds : List Dt} (hK : X.K = T.K) (k : Ok T π A F H σ ρ) (e : ρ[i]? = some (some (.own io (.lst ds)))) : ∃ a, σ[i]? = some (some (.ref a)) ∧ tyV X.K "list" (.ref a) H := by
  obtain ⟨a, h1, h2, ⟨vs, h3, h4⟩, _⟩ := k.own i io _ e
  exact ⟨a, h1, .inl ⟨rfl, vs, SqL.of h3⟩⟩
def ownLst (i : Nat) (m : Mi Dt) : Mi Dt := fun ρ => match ρ[i]? with
  | some (some (.own _ (.lst _))) => m ρ
  | _ => .bad
theorem de_append {i : Nat} (hK : X.K = T.K) (h : PE X o (tBM X.K "list" rAppend (tVar i) (tCons (TMe T π W m) tNil))) : PE X o (TMe T π W (ownLst i (mAppend i m))) := h.imp fun σ H Q ⟨A, F, ρ, k, p⟩ => by
  unfold ownLst at p
  split at p
  · rename_i io ds e
    obtain ⟨a, h1, h2⟩ := own_first hK k e
    refine ⟨.ref a, h1, h2, A, F, ρ, k, p.bind.imp fun y ρ1 F1 H1 k1 r1 p1 v rv => ?_⟩
    obtain ⟨io1, ds1, r, es, a1, vs, e1, ef, s1, h3, h4, q⟩ := mMut_inv p1 k1
    rw [h1] at s1
    cases s1
    by_cases hz : ds1.length < sizeLine
    · rw [if_pos hz] at ef
      cases ef
      exact ⟨a, vs, v, rfl, rfl, h3, by rw [h4.length]; exact hz, q _ (h4.append (.cons rv .nil)) _ .non⟩
    · rw [if_neg hz] at ef; cases ef
  · exact p.elim
end
end Dl
namespace Dl
open PySem PySem.Spec PyProof.Rows L2
section
variable {X : Cx} {T : Tx} {π : Nat → Option Pin} {W : WX} {a b c e o : Expr} {es : List Expr} {pos : Pos} {m ma mb mc : Mi Dt} {ms : Mi (List Dt)} {A A' : Addr → Prop} {F H F' H' F0 H0 : Hp} {σ : L2.St} {ρ : En}
theorem ops_pure {r : R2} {f : Dt → Dt → Option Dt} (h : ∀ F H v w d e z (Q : VK), Le F H → RepS T F H v d → RepS T F H w e → f d e = some z → (∀ u, Rep T F u z → Q u H) → r v w H Q) : OpS T r f :=
  fun π A F H σ ρ v w d e z Q k rv rw ef q => h F H v w d e z Q k.le rv rw ef fun u ru => q F H u k .refl ru
theorem uns_pure {r : V → Hp → VK → Prop} {f : Dt → Option Dt} (h : ∀ F H v d z (Q : VK), Le F H → RepS T F H v d → f d = some z → (∀ u, Rep T F u z → Q u H) → r v H Q) : UnS T r f :=
  fun π A F H σ ρ v d z Q k rv ef q => h F H v d z Q k.le rv ef fun u ru => q F H u k .refl ru
theorem RepS.int_inv {v : V} {i : Int} (h : RepS T F H v (.int i)) : v = .int i := (h.flat trivial).int_inv
theorem RepS.str_inv {v : V} {i : Str} (h : RepS T F H v (.str i)) : v = .str i := (h.flat trivial).str_inv
theorem RepS.bl_inv {v : V} {i : Bool} (h : RepS T F H v (.bl i)) : v = .bl i := (h.flat trivial).bl_inv
/-! ### whole numbers -/
def fI (g : Int → Int → Option Dt) : Dt → Dt → Option Dt
  | .int i, .int j => g i j
  | _, _ => none
theorem fI_inv {g : Int → Int → Option Dt} {d e z : Dt} (h : fI g d e = some z) : ∃ i j, d = .int i ∧ e = .int j ∧ g i j = some z := by
  unfold fI at h
  split at h
  · exact ⟨_, _, rfl, rfl, h⟩
  · cases h
theorem os_I0 {g : Int → Int → V} {gd : Int → Int → Dt} (hg : ∀ F i j, Rep T F (g i j) (gd i j)) : OpS T (rI0 g) (fI fun i j => some (gd i j)) := ops_pure fun F H v w d e z Q le rv rw ef q => by
  obtain ⟨i, j, rfl, rfl, h⟩ := fI_inv ef
  cases h
  exact ⟨i, j, rv.int_inv, rw.int_inv, q _ (hg F i j)⟩
theorem os_I {C : Int → Int → Prop} [∀ i j, Decidable (C i j)] {g : Int → Int → V} {gd : Int → Int → Dt} (hg : ∀ F i j, Rep T F (g i j) (gd i j)) : OpS T (rI C g) (fI fun i j => if C i j then some (gd i j) else none) := ops_pure fun F H v w d e z Q le rv rw ef q => by
  obtain ⟨i, j, rfl, rfl, h⟩ := fI_inv ef
  split at h
  · rename_i hc
    cases h
    exact ⟨i, j, rv.int_inv, rw.int_inv, hc, q _ (hg F i j)⟩
  · cases h
instance (i j : Int) : Decidable (CMul i j) := by unfold CMul; exact inferInstance
/-- // by a positive divisor below 2 ^ 100 -/
def CDivX (_ j : Int) : Prop := 0 < j ∧ j < 1267650600228229401496703205376
instance (i j : Int) : Decidable (CDivX i j) := by unfold CDivX; exact inferInstance
theorem CDivX.w {i j : Int} (h : CDivX i j) : CDivW i j := wide_div (b := 100) h.1 (by have h1 := h.1; have h2 := h.2; omega) (by decide) (by decide)
instance (i j : Int) : Decidable (CPow i j) := by unfold CPow; exact inferInstance
def fSub : Dt → Dt → Option Dt := fI fun i j => some (.int (i - j))
def fMulI : Dt → Dt → Option Dt := fI fun i j => if CMul i j then some (.int (i * j)) else none
def fDiv : Dt → Dt → Option Dt := fI fun i j => if CDivX i j then some (.int (i / j)) else none
def fMod : Dt → Dt → Option Dt := fI fun i j => if 0 < j then some (.int (i % j)) else none
def fPow : Dt → Dt → Option Dt := fI fun i j => if CPow i j then some (.int (i ^ j.toNat)) else none
def fLt : Dt → Dt → Option Dt := fI fun i j => some (.bl (decide (i < j)))
def fLe : Dt → Dt → Option Dt := fI fun i j => some (.bl (decide (i ≤ j)))
def fGt : Dt → Dt → Option Dt := fI fun i j => some (.bl (decide (j < i)))
def fGe : Dt → Dt → Option Dt := fI fun i j => some (.bl (decide (j ≤ i)))
theorem os_mulI : OpS T (rI CMul fun i j => .int (i * j)) fMulI := os_I fun F i j => .int _
theorem rI_mono {C C' : Int → Int → Prop} {g : Int → Int → V} {x y : V} {H : Hp} {Q : VK} (hC : ∀ i j, C' i j → C i j) (h : rI C' g x y H Q) : rI C g x y H Q := by
  obtain ⟨i, j, h1, h2, h3, h4⟩ := h
  exact ⟨i, j, h1, h2, hC i j h3, h4⟩
theorem os_div : OpS T (rI CDivW fun i j => .int (i / j)) fDiv := fun π A F H σ ρ v w d e z Q k rv rw ef q => rI_mono (fun _ _ => CDivX.w) (os_I (T := T) (C := CDivX) (g := fun i j => .int (i / j)) (gd := fun i j => .int (i / j)) (fun F i j => .int _) π A F H σ ρ v w d e z Q k rv rw ef q)
theorem os_mod : OpS T (rI (fun _ j => 0 < j) fun i j => .int (i % j)) fMod := os_I fun F i j => .int _
theorem os_pow : OpS T (rI CPow fun i j => .int (i ^ j.toNat)) fPow := os_I fun F i j => .int _
theorem os_lt : OpS T (rI0 fun i j => .bl (decide (i < j))) fLt := os_I0 fun F i j => .bl _
theorem os_gt : OpS T (rI0 fun i j => .bl (decide (j < i))) fGt := os_I0 fun F i j => .bl _
theorem os_ge : OpS T (rI0 fun i j => .bl (decide (j ≤ i))) fGe := os_I0 fun F i j => .bl _
/-! ### + of numbers, texts, lists, tuples -/
def fAdd : Dt → Dt → Option Dt
  | .int i, .int j => some (.int (i + j))
  | .str x, .str y => if x.length + y.length ≤ sizeLine then some (.str (x ++ y)) else none
  | .lst xs, .lst ys => if xs.length + ys.length ≤ sizeLine then some (.lst (xs ++ ys)) else none
  | .tup xs, .tup ys => if xs.length + ys.length ≤ sizeLine then some (.tup (xs ++ ys)) else none
  | _, _ => none
def rAddS : R2 := fun x y H Q => ∃ i j, x = V.str i ∧ y = V.str j ∧ i.length + j.length ≤ sizeLine ∧ Q (.str (i ++ j)) H
def rAdd (K : PySem.W.Frag) : R2 := fun x y H Q => rI0 (fun i j => .int (i + j)) x y H Q ∨ (rAddS x y H Q ∨ (rCat x y H Q ∨ rCatA K x y H Q))
theorem op_addA : OpR X (binaryOp .Add) (rAdd X.K) := OpR.or op_add (OpR.or op_add_str (OpR.or op_cat op_catA))
theorem RepS.lst_inv {v : V} {ds : List Dt} (r : RepS T F H v (.lst ds)) (le : Le F H) : ∃ a vs, v = .ref a ∧ H a = some (.lst vs) ∧ Reps T F vs ds := by
  rcases r with r | ⟨a, e, vs, h, r⟩
  · cases r with
    | lst h r => exact ⟨_, _, rfl, le _ _ h, r⟩
  · exact ⟨a, vs, e, h, r⟩
theorem os_add : OpS T (rAdd T.K) fAdd := fun π A F H σ ρ v w d e z Q k rv rw ef q => by
  unfold fAdd at ef
  split at ef
  · cases ef
    exact .inl ⟨_, _, rv.int_inv, rw.int_inv, q F H _ k .refl (.int _)⟩
  · split at ef
    · cases ef
      exact .inr (.inl ⟨_, _, rv.str_inv, rw.str_inv, by assumption, q F H _ k .refl (.str _)⟩)
    · cases ef
  · split at ef
    · rename_i hz
      cases ef
      obtain ⟨a, vs, e1, h1, r1⟩ := rv.lst_inv k.le
      obtain ⟨b, ws, e2, h2, r2⟩ := rw.lst_inv k.le
      refine .inr (.inr (.inl ⟨a, b, vs, ws, e1, e2, h1, h2, by rw [r1.length, r2.length]; exact hz, fun p hp => ?_⟩))
      exact q (upd F p (.lst (vs ++ ws))) _ (.ref p) (k.new hp) (.new k.le hp) (.lst upd_same ((r1.append r2).mono (le_new (f_none k.le hp))))
    · cases ef
  · rename_i xs ys
    split at ef
    · rename_i hz
      cases ef
      have rv' := rv.flat trivial
      have rw' := rw.flat trivial
      obtain ⟨a, vs, e1, h1, r1⟩ := rv'.tup_inv
      obtain ⟨b, ws, e2, h2, r2⟩ := rw'.tup_inv
      refine .inr (.inr (.inr ⟨a, b, vs, ws, e1, e2, sqt_mono k.le h1, sqt_mono k.le h2, by rw [r1.length, r2.length]; exact hz, fun z => ?_, fun z1 z2 => ?_, fun z1 z2 p hp => ?_⟩))
      · subst z
        cases r1
        exact q F H _ k .refl (by rw [← e2]; exact rw')
      · subst z2
        cases r2
        rw [List.append_nil] at q
        exact q F H _ k .refl (by rw [← e1]; exact rv')
      · exact q (upd F p (.tup (vs ++ ws))) _ (.ref p) (k.new hp) (.new k.le hp) (.tup upd_same ((r1.append r2).mono (le_new (f_none k.le hp))))
    · cases ef
  · cases ef
/-! ### == -/
mutual
def toPy : Dt → Option PyData
  | .non => some .none
  | .bl b => some (.bool b)
  | .int i => some (.int i)
  | .str x => some (.str x)
  | .lst xs => (toPys xs).map .list
  | .tup xs => (toPys xs).map .tuple
  | _ => none
def toPys : List Dt → Option (List PyData)
  | [] => some []
  | d :: ds => match toPy d, toPys ds with
    | some p, some ps => some (p :: ps)
    | _, _ => none
end
mutual
theorem dp_of (le : Le F H) : ∀ {d : Dt} {v : V} {p : PyData}, Rep T F v d → toPy d = some p → Dp T.K H v p
  | .non, _, _, r, e => by cases r; cases e; exact .non
  | .bl _, _, _, r, e => by cases r; cases e; exact .bl _
  | .int _, _, _, r, e => by cases r; cases e; exact .int _
  | .str _, _, _, r, e => by cases r; cases e; exact .str _
  | .ty _, _, _, r, e => by cases e
  | .scr _, _, _, r, e => by cases e
  | .dic _ _ _, _, _, r, e => by cases e
  | .ins _ _, _, _, r, e => by cases e
  | .lst xs, _, _, r, e => by
    cases r with
    | lst h rs =>
      unfold toPy at e
      cases q : toPys xs with
      | none => rw [q] at e; cases e
      | some ps => rw [q] at e; cases e; exact .lst (SqL.of (le _ _ h)) (dps_of le rs q)
  | .tup xs, _, _, r, e => by
    obtain ⟨a, vs, ev, h, rs⟩ := r.tup_inv
    subst ev
    unfold toPy at e
    cases q : toPys xs with
    | none => rw [q] at e; cases e
    | some ps => rw [q] at e; cases e; exact .tup (sqt_mono le h) (dps_of le rs q)
theorem dps_of (le : Le F H) : ∀ {ds : List Dt} {vs : List V} {ps : List PyData}, Reps T F vs ds → toPys ds = some ps → DpAll T.K H vs ps
  | [], _, _, r, e => by cases r; cases e; exact .nil
  | d :: ds, _, _, r, e => by
    cases r with
    | cons r rs =>
      unfold toPys at e
      cases q : toPy d with
      | none => rw [q] at e; cases e
      | some p =>
        cases q2 : toPys ds with
        | none => rw [q, q2] at e; cases e
        | some ps => rw [q, q2] at e; cases e; exact .cons (dp_of le r q) (dps_of le rs q2)
end
theorem dp_ofS (le : Le F H) {d : Dt} {v : V} {p : PyData} (r : RepS T F H v d) (e : toPy d = some p) : Dp T.K H v p := by
  rcases r with r | ⟨a, ev, ho⟩
  · exact dp_of le r e
  · subst ev
    cases d with
    | lst xs =>
      obtain ⟨vs, h, rs⟩ := ho
      unfold toPy at e
      cases q : toPys xs with
      | none => rw [q] at e; cases e
      | some ps => rw [q] at e; cases e; exact .lst (SqL.of h) (dps_of le rs q)
    | _ => first | exact ho.elim | cases e
def dEq (d e : Dt) : Option Bool := match toPy d, toPy e with
  | some p, some q => if SeqAt.shaped p && SeqAt.shaped q then some (PyData.eqv p q) else none
  | _, _ => none
def fEq (d e : Dt) : Option Dt := (dEq d e).map .bl
def fNe (d e : Dt) : Option Dt := (dEq d e).map fun b => .bl (!b)
theorem dEq_inv {d e : Dt} {b : Bool} (h : dEq d e = some b) : ∃ p q, toPy d = some p ∧ toPy e = some q ∧ SeqAt.shaped p = true ∧ SeqAt.shaped q = true ∧ PyData.eqv p q = b := by
  unfold dEq at h
  split at h
  · rename_i p q e1 e2
    split at h
    · rename_i hs
      cases h
      exact ⟨p, q, e1, e2, (Bool.and_eq_true_iff.mp hs).1, (Bool.and_eq_true_iff.mp hs).2, rfl⟩
    · cases h
  · cases h
theorem os_eq : OpS T (rEqD T.K) fEq := ops_pure fun F H v w d e z Q le rv rw ef q => by
  unfold fEq at ef
  cases h : dEq d e with
  | none => rw [h] at ef; cases ef
  | some b =>
    rw [h] at ef
    cases ef
    obtain ⟨p, p', h1, h2, h3, h4, h5⟩ := dEq_inv h
    subst h5
    exact ⟨p, p', dp_ofS le rv h1, dp_ofS le rw h2, h3, h4, q _ (.bl _)⟩
theorem os_ne : OpS T (rNeD T.K) fNe := ops_pure fun F H v w d e z Q le rv rw ef q => by
  unfold fNe at ef
  cases h : dEq d e with
  | none => rw [h] at ef; cases ef
  | some b =>
    rw [h] at ef
    cases ef
    obtain ⟨p, p', h1, h2, h3, h4, h5⟩ := dEq_inv h
    subst h5
    exact ⟨p, p', dp_ofS le rv h1, dp_ofS le rw h2, h3, h4, q _ (.bl _)⟩
/-- a < b < c -/
def mChain (f g : Dt → Dt → Option Dt) (ma mb mc : Mi Dt) : Mi Dt := mBind ma fun x => mBind mb fun y => mBind (mOpt (f x y)) fun z => match z with
  | .bl true => mBind mc fun w => mOpt (g y w)
  | .bl false => mPure (.bl false)
  | _ => mBad
/-! ### subscripts -/
theorem RepS.scr_inv {v : V} {ns : List Int} (r : RepS T F H v (.scr ns)) (le : Le F H) : ∃ a, v = .ref a ∧ SqL T.K H a (ns.map V.int) := by
  cases r.flat trivial with
  | scr h => exact ⟨_, rfl, sql_mono le h⟩
def fIx : Dt → Dt → Option Dt
  | .scr ns, .int i => (atI ns i).map .int
  | .lst xs, .int i => atI xs i
  | .tup xs, .int i => atI xs i
  | .str z, .int i => if z.length ≤ sizeLine then (atI z.cps.toList i).map fun c => .str ⟨#[c]⟩ else none
  | _, _ => none
theorem Reps.at {vs : List V} {ds : List Dt} {i : Int} {d : Dt} (r : Reps T F vs ds) (h : atI ds i = some d) : ∃ v, atI vs i = some v ∧ Rep T F v d := by
  unfold atI at h ⊢
  rw [r.length]
  cases q : ixN ds.length i with
  | none => rw [q] at h; cases h
  | some j =>
    rw [q] at h
    exact r.get h
theorem at_map {α β : Type} (f : α → β) (l : List α) (i : Int) : atI (l.map f) i = (atI l i).map f := by
  unfold atI
  rw [List.length_map]
  cases ixN l.length i with
  | none => rfl
  | some j => simp
theorem os_ix : OpS T (rIx T.K) fIx := ops_pure fun F H v w d e z Q le rv rw ef q => by
  unfold fIx at ef
  split at ef
  · rename_i ns i
    cases h : atI ns i with
    | none => rw [h] at ef; cases ef
    | some j =>
      rw [h] at ef
      cases ef
      obtain ⟨p, e1, hl⟩ := rv.scr_inv le
      exact .inl ⟨p, _, _, .int j, e1, rw.int_inv, hl, by rw [at_map, h]; rfl, q _ (.int _)⟩
  · obtain ⟨p, vs, e1, _, r, hl, _⟩ := rv.seq le (.inl rfl)
    obtain ⟨u, h1, h2⟩ := r.at ef
    exact .inl ⟨p, vs, _, u, e1, rw.int_inv, hl rfl, h1, q u h2⟩
  · obtain ⟨p, vs, e1, _, r, _, hl⟩ := rv.seq le (.inr rfl)
    obtain ⟨u, h1, h2⟩ := r.at ef
    exact .inr (.inl ⟨p, vs, _, u, e1, rw.int_inv, hl rfl, h1, q u h2⟩)
  · rename_i s i
    split at ef
    · rename_i hz
      cases h : atI s.cps.toList i with
      | none => rw [h] at ef; cases ef
      | some c =>
        rw [h] at ef
        cases ef
        exact .inr (.inr ⟨s, i, c, rv.str_inv, rw.int_inv, hz, h, q _ (.str _)⟩)
    · cases ef
  · cases ef
/-- o[i], o a name that may hold its own object: it is read behind i -/
def mIxV (i : Nat) (m : Mi Dt) : Mi Dt := mBind m fun y => mBind (mPeek i) fun x => mOpt (fIx x y)
theorem mPeek_inv {i : Nat} {P : Dt → En → Hp → Hp → Prop} (p : Post T π W σ A F H P (mPeek i ρ)) (k : Ok T π A F H σ ρ) : ∃ d v, σ[i]? = some (some v) ∧ RepS T F H v d ∧ P d ρ F H := by
  unfold mPeek at p
  split at p
  · rename_i d e
    obtain ⟨v, h1, h2⟩ := k.val i d e
    exact ⟨d, v, h1, h2.s, p F H k .refl⟩
  · rename_i io d e
    obtain ⟨a, h1, h2, h3, _⟩ := k.own i io d e
    exact ⟨d, .ref a, h1, .inr ⟨a, rfl, h3⟩, p F H k .refl⟩
  · exact p.elim
def hasSl (i : Nat) (m : Mi Dt) : Mi Dt := fun ρ => match ρ[i]? with
  | some (some _) => m ρ
  | _ => .bad
theorem de_ixV {i : Nat} (h : PE X e (tOp (rIx T.K) (tVar i) (TMe T π W m))) : PE X e (TMe T π W (hasSl i (mIxV i m))) := h.imp fun σ H Q ⟨A, F, ρ, k, p⟩ => by
  unfold hasSl at p
  split at p
  · rename_i s es
    have hv : ∃ v, σ[i]? = some (some v) := by
      cases s with
      | val d => obtain ⟨v, h1, _⟩ := k.val i d es; exact ⟨v, h1⟩
      | own io d => obtain ⟨a, h1, _⟩ := k.own i io d es; exact ⟨_, h1⟩
    obtain ⟨v, hv⟩ := hv
    refine ⟨v, hv, A, F, ρ, k, p.bind.imp fun y ρ1 F1 H1 k1 r1 p1 w rw => ?_⟩
    obtain ⟨d, v', h1, h2, p2⟩ := mPeek_inv p1.bind k1
    rw [hv] at h1
    cases h1
    obtain ⟨z, ez, p3⟩ := p2.opt
    exact os_ix π A F1 H1 σ ρ1 v w d y z Q k1 h2 rw.s ez fun F' H' u k' r' ru => p3 F' H' k' r' u ru
  · exact p.elim
/-! ### built-in functions of one argument -/
def CaS (T : Tx) (r : List V → Hp → VK → Prop) (f : Dt → Option Dt) : Prop := UnS T (fun v H Q => r [v] H Q) f
theorem de_call1 {r : List V → Hp → VK → Prop} {f : Dt → Option Dt} (h : PE X e (tCB r (tCons (TMp T π W m) tNil))) (hs : CaS T r f) : PE X e (TMe T π W (m1 f m)) := h.imp fun σ H Q ⟨A, F, ρ, k, p⟩ => ⟨A, F, ρ, k, p.bind.imp fun x ρ1 F1 H1 k1 r1 p1 v rv => by
  obtain ⟨z, ez, p3⟩ := p1.opt
  exact hs π A F1 H1 σ ρ1 v x z Q k1 rv ez fun F' H' u k' r' ru => p3 F' H' k' r' u ru⟩
/-- .. that make a new list -/
def CaN (T : Tx) (r : List V → Hp → VK → Prop) (f : Dt → Option (List Dt)) : Prop := ∀ (F H : Hp) (v : V) (d : Dt) (es : List Dt) (Q : VK), Le F H → RepS T F H v d → f d = some es → (∀ p vs, H p = none → Reps T F vs es → Q (.ref p) (upd H p (.lst vs))) → r [v] H Q
def m1N (f : Dt → Option (List Dt)) (m : Mi Dt) : Mi Dt := mBind m fun x => mOpt ((f x).map .lst)
theorem dn_call1 {r : List V → Hp → VK → Prop} {f : Dt → Option (List Dt)} (h : PE X e (tCB r (tCons (TMp T π W m) tNil))) (hs : CaN T r f) : PE X e (TMn T π W (m1N f m)) := h.imp fun σ H Q ⟨A, F, ρ, k, p⟩ => ⟨A, F, ρ, k, p.bind.imp fun x ρ1 F1 H1 k1 r1 p1 v rv => by
  obtain ⟨z, ez, p3⟩ := p1.opt
  cases q : f x with
  | none => rw [q] at ez; cases ez
  | some es =>
    rw [q] at ez
    cases ez
    exact hs F1 H1 v x es Q k1.le rv q fun x vs hx rs => p3 F1 (upd H1 x (.lst vs)) (k1.newO hx) (.newO hx) x (f_none k1.le hx) (k1.fresh_new hx) (r1.t x hx) ⟨vs, upd_same, rs⟩ (fun _ z => nomatch z)⟩
def fLen : Dt → Option Dt
  | .scr ns => some (.int ns.length)
  | .lst xs => some (.int xs.length)
  | .tup xs => some (.int xs.length)
  | .str z => if z.length ≤ sizeLine then some (.int z.length) else none
  | .dic false ks _ => some (.int ks.length)
  | _ => none
def rLenA (K : PySem.W.Frag) : List V → Hp → VK → Prop := fun xs H Q => (∃ p ys, xs = [.ref p] ∧ (SqL K H p ys ∨ SqT K H p ys) ∧ Q (.int ys.length) H) ∨ (∃ z, xs = [.str z] ∧ z.length ≤ sizeLine ∧ Q (.int z.length) H) ∨ (∃ a kvs, xs = [V.ref a] ∧ H a = some (.dK kvs) ∧ Q (.int kvs.length) H)
theorem cr_lenA : CallR X (.builtin "len") (rLenA X.K) := CallR.or call_len_seq (CallR.or call_len_str call_lenD)
theorem RepS.dicK_inv {v : V} {ks ds : List Dt} (r : RepS T F H v (.dic false ks ds)) (le : Le F H) : ∃ (a : Addr) (kk : List Key) (vs : List V), v = .ref a ∧ H a = some (.dK (kk.zip vs)) ∧ kk.length = vs.length ∧ ks = kk.map kD ∧ Reps T F vs ds := by
  rcases r with r | ⟨a, ev, kk, vs, h1, h2, h3, h4⟩
  · cases r with
    | dicK h l r => exact ⟨_, _, _, rfl, le _ _ h, l, rfl, r⟩
  · exact ⟨a, kk, vs, ev, h1, h2, h3, h4⟩
theorem cs_len : CaS T (rLenA T.K) fLen := uns_pure fun F H v d z Q le rv ef q => by
  unfold fLen at ef
  split at ef
  · cases ef
    obtain ⟨p, e1, hl⟩ := rv.scr_inv le
    exact .inl ⟨p, _, by rw [e1], .inl hl, q _ (by rw [List.length_map]; exact .int _)⟩
  · cases ef
    obtain ⟨p, vs, e1, h, r, _⟩ := rv.seq le (.inl rfl)
    exact .inl ⟨p, vs, by rw [e1], h, q _ (by rw [r.length]; exact .int _)⟩
  · cases ef
    obtain ⟨p, vs, e1, h, r, _⟩ := rv.seq le (.inr rfl)
    exact .inl ⟨p, vs, by rw [e1], h, q _ (by rw [r.length]; exact .int _)⟩
  · split at ef
    · cases ef
      exact .inr (.inl ⟨_, by rw [rv.str_inv], by assumption, q _ (.int _)⟩)
    · cases ef
  · cases ef
    obtain ⟨a, kk, vs, e1, h1, h2, h3, h4⟩ := rv.dicK_inv le
    refine .inr (.inr ⟨a, _, by rw [e1], h1, q _ ?_⟩)
    rw [List.length_zip, ← h2, Nat.min_self, h3, List.length_map]
    exact .int _
  · cases ef
/-- tuple(x) -/
def fTuple : Dt → Option Dt
  | .lst xs => some (.tup xs)
  | .tup xs => some (.tup xs)
  | _ => none
theorem cs_tuple : CaS T (fun xs H Q => ∃ p ys, xs = [V.ref p] ∧ ((SqL T.K H p ys ∧ ∀ l, H l = none → Q (.ref l) (upd H l (.tup ys))) ∨ (SqT T.K H p ys ∧ Q (.ref p) H))) fTuple := fun π A F H σ ρ v d z Q k rv ef q => by
  unfold fTuple at ef
  split at ef
  · cases ef
    obtain ⟨p, vs, e1, h, r, hl, _⟩ := rv.seq k.le (.inl rfl)
    refine ⟨p, vs, by rw [e1], .inl ⟨hl rfl, fun l hl => ?_⟩⟩
    exact q (upd F l (.tup vs)) (upd H l (.tup vs)) (.ref l) (k.new hl) (.new k.le hl) (.tup upd_same (r.mono (le_new (f_none k.le hl))))
  · cases ef
    have rv' := rv.flat trivial
    obtain ⟨p, vs, e1, h, r⟩ := rv'.tup_inv
    exact ⟨p, vs, by rw [e1], .inr ⟨sqt_mono k.le h, q F H (.ref p) k .refl (by rw [← e1]; exact rv')⟩⟩
  · cases ef
def fListN : Dt → Option (List Dt)
  | .lst xs => some xs
  | .tup xs => some xs
  | _ => none
theorem cn_list : CaN T (fun xs H Q => ∃ p ys, xs = [V.ref p] ∧ (SqL T.K H p ys ∨ SqT T.K H p ys) ∧ ∀ l, H l = none → Q (.ref l) (upd H l (.lst ys))) fListN := fun F H v d es Q le rv ef q => by
  unfold fListN at ef
  split at ef
  · cases ef
    obtain ⟨p, vs, e1, h, r, _⟩ := rv.seq le (.inl rfl)
    exact ⟨p, vs, by rw [e1], h, fun l hl => q l vs hl r⟩
  · cases ef
    obtain ⟨p, vs, e1, h, r, _⟩ := rv.seq le (.inr rfl)
    exact ⟨p, vs, by rw [e1], h, fun l hl => q l vs hl r⟩
  · cases ef
/-- lists of whole numbers -/
def intsOf : List Dt → Option (List Int)
  | [] => some []
  | .int i :: ds => (intsOf ds).map (i :: ·)
  | _ => none
theorem ints_inv : ∀ {ds : List Dt} {ns : List Int}, intsOf ds = some ns → ds = ns.map .int
  | [], ns, h => by cases h; rfl
  | .int i :: ds, ns, h => by
    unfold intsOf at h
    cases q : intsOf ds with
    | none => rw [q] at h; cases h
    | some r => rw [q] at h; cases h; rw [ints_inv q]; rfl
  | .non :: _, _, h => by cases h
  | .bl _ :: _, _, h => by cases h
  | .str _ :: _, _, h => by cases h
  | .ty _ :: _, _, h => by cases h
  | .scr _ :: _, _, h => by cases h
  | .lst _ :: _, _, h => by cases h
  | .tup _ :: _, _, h => by cases h
  | .dic _ _ _ :: _, _, h => by cases h
  | .ins _ _ :: _, _, h => by cases h
theorem reps_ints : ∀ {ns : List Int} {vs : List V}, Reps T F vs (ns.map .int) → vs = ns.map V.int
  | [], _, r => by cases r; rfl
  | i :: ns, _, r => by
    cases r with
    | cons h rs => rw [h.int_inv, reps_ints rs]; rfl
theorem ints_reps : ∀ (ns : List Int), Reps T F (ns.map V.int) (ns.map .int)
  | [] => .nil
  | i :: ns => .cons (.int i) (ints_reps ns)
def insI (x : Int) : List Int → List Int
  | [] => [x]
  | y :: r => if x ≤ y then x :: y :: r else y :: insI x r
def sortI : List Int → List Int
  | [] => []
  | x :: r => insI x (sortI r)
theorem insI_perm (x : Int) : ∀ l, (insI x l).Perm (x :: l)
  | [] => List.Perm.refl _
  | y :: r => by
    unfold insI
    split
    · exact List.Perm.refl _
    · exact ((insI_perm x r).cons y).trans (List.Perm.swap x y r)
theorem sortI_perm : ∀ l, (sortI l).Perm l
  | [] => List.Perm.refl _
  | x :: r => (insI_perm x (sortI r)).trans ((sortI_perm r).cons x)
theorem insI_sorted (x : Int) : ∀ {l : List Int}, l.Pairwise (· ≤ ·) → (insI x l).Pairwise (· ≤ ·)
  | [], _ => by simp [insI]
  | y :: r, h => by
    rw [List.pairwise_cons] at h
    unfold insI
    split
    · rename_i hxy
      rw [List.pairwise_cons, List.pairwise_cons]
      exact ⟨fun z hz => by
        cases hz with
        | head => exact hxy
        | tail _ hz => exact Int.le_trans hxy (h.1 z hz), h⟩
    · rename_i hxy
      rw [List.pairwise_cons]
      refine ⟨fun z hz => ?_, insI_sorted x h.2⟩
      have := (insI_perm x r).mem_iff.mp hz
      cases this with
      | head => omega
      | tail _ hz => exact h.1 z hz
theorem sortI_sorted : ∀ l : List Int, (sortI l).Pairwise (· ≤ ·)
  | [] => .nil
  | x :: r => insI_sorted x (sortI_sorted r)
theorem sorted_unique : ∀ {l m : List Int}, l.Perm m → l.Pairwise (· ≤ ·) → m.Pairwise (· ≤ ·) → l = m
  | [], m, p, _, _ => p.nil_eq
  | x :: r, [], p, _, _ => by have := p.length_eq; simp at this
  | x :: r, y :: s, p, h1, h2 => by
    rw [List.pairwise_cons] at h1 h2
    have e : x = y := by
      have hx : x ∈ y :: s := p.mem_iff.mp List.mem_cons_self
      have hy : y ∈ x :: r := p.mem_iff.mpr List.mem_cons_self
      have a : y ≤ x := by
        cases hx with
        | head => exact Int.le_refl _
        | tail _ hx => exact h2.1 x hx
      have b : x ≤ y := by
        cases hy with
        | head => exact Int.le_refl _
        | tail _ hy => exact h1.1 y hy
      omega
    subst e
    rw [sorted_unique (List.Perm.cons_inv p) h1.2 h2.2]
def fSorted : Dt → Option (List Dt)
  | .lst xs => (intsOf xs).map fun ns => (sortI ns).map .int
  | _ => none
theorem cn_sorted : CaN T (rSortedI T.K) fSorted := fun F H v d es Q le rv ef q => by
  cases d with
  | lst xs =>
    unfold fSorted at ef
    dsimp only at ef
    cases hq : intsOf xs with
    | none => rw [hq] at ef; cases ef
    | some ns =>
      rw [hq] at ef
      cases ef
      have ex := ints_inv hq
      subst ex
      obtain ⟨p, vs, e1, _, r, hl, _⟩ := rv.seq le (.inl rfl)
      have ev := reps_ints r
      subst ev
      refine ⟨p, ns, by rw [e1], hl rfl, fun ns' x hp hs hx => ?_⟩
      have e2 : ns' = sortI ns := sorted_unique (hp.trans (sortI_perm ns).symm) hs (sortI_sorted ns)
      subst e2
      exact q x _ hx (ints_reps _)
  | _ => cases ef
def blsOf : List Dt → Option (List Bool)
  | [] => some []
  | .bl i :: ds => (blsOf ds).map (i :: ·)
  | _ => none
theorem bls_inv : ∀ {ds : List Dt} {ns : List Bool}, blsOf ds = some ns → ds = ns.map .bl
  | [], ns, h => by cases h; rfl
  | .bl i :: ds, ns, h => by
    unfold blsOf at h
    cases q : blsOf ds with
    | none => rw [q] at h; cases h
    | some r => rw [q] at h; cases h; rw [bls_inv q]; rfl
  | .non :: _, _, h => by cases h
  | .int _ :: _, _, h => by cases h
  | .str _ :: _, _, h => by cases h
  | .ty _ :: _, _, h => by cases h
  | .scr _ :: _, _, h => by cases h
  | .lst _ :: _, _, h => by cases h
  | .tup _ :: _, _, h => by cases h
  | .dic _ _ _ :: _, _, h => by cases h
  | .ins _ _ :: _, _, h => by cases h
theorem reps_bls : ∀ {ns : List Bool} {vs : List V}, Reps T F vs (ns.map .bl) → vs = ns.map V.bl
  | [], _, r => by cases r; rfl
  | i :: ns, _, r => by
    cases r with
    | cons h rs => rw [h.bl_inv, reps_bls rs]; rfl
def fBls (g : List Bool → Bool) : Dt → Option Dt
  | .lst xs => (blsOf xs).map fun ns => .bl (g ns)
  | _ => none
theorem fBls_inv {g : List Bool → Bool} {d z : Dt} {v : V} (le : Le F H) (rv : RepS T F H v d) (h : fBls g d = some z) : ∃ p ns, v = .ref p ∧ SqL T.K H p (ns.map V.bl) ∧ z = .bl (g ns) := by
  cases d with
  | lst xs =>
    unfold fBls at h
    dsimp only at h
    cases hq : blsOf xs with
    | none => rw [hq] at h; cases h
    | some ns =>
      rw [hq] at h
      cases h
      have ex := bls_inv hq
      subst ex
      obtain ⟨p, vs, e1, _, r, hl, _⟩ := rv.seq le (.inl rfl)
      have ev := reps_bls r
      subst ev
      exact ⟨p, ns, e1, hl rfl, rfl⟩
  | _ => cases h
def fAll : Dt → Option Dt := fBls fun bs => bs.all id
theorem cs_all : CaS T (rAll T.K) fAll := uns_pure fun F H v d z Q le rv ef q => by
  obtain ⟨p, ns, e1, h1, e2⟩ := fBls_inv le rv ef
  subst e1 e2
  exact ⟨p, ns, rfl, h1, q _ (.bl _)⟩
def fInt : Dt → Option Dt
  | .int i => some (.int i)
  | .bl b => some (.int (if b then 1 else 0))
  | _ => none
theorem cs_int : CaS T (fun xs H Q => (∃ i, xs = [V.int i] ∧ Q (.int i) H) ∨ ∃ k, xs = [V.bl k] ∧ Q (.int (if k then 1 else 0)) H) fInt := uns_pure fun F H v d z Q le rv ef q => by
  unfold fInt at ef
  split at ef
  · cases ef; exact .inl ⟨_, by rw [rv.int_inv], q _ (.int _)⟩
  · cases ef; exact .inr ⟨_, by rw [rv.bl_inv], q _ (.int _)⟩
  · cases ef
def fAbs : Dt → Option Dt
  | .int i => some (.int (if i < 0 then -i else i))
  | _ => none
theorem cs_abs : CaS T (fun xs H Q => ∃ i, xs = [V.int i] ∧ Q (.int (if i < 0 then -i else i)) H) fAbs := uns_pure fun F H v d z Q le rv ef q => by
  unfold fAbs at ef
  split at ef
  · cases ef; exact ⟨_, by rw [rv.int_inv], q _ (.int _)⟩
  · cases ef
end
end Dl
namespace Dl
open PySem PySem.Spec PyProof.Rows L2
/-! ### enumerate of a tuple -/
section
variable {X : Cx} {T : Tx} {π : Nat → Option Pin} {W : WX} {a b c e o l : Expr} {es : List Expr} {pos p tpos : Pos} {m ma mb mc : Mi Dt} {ms : Mi (List Dt)} {A A' : Addr → Prop} {F H F' H' F0 H0 : Hp} {σ : L2.St} {ρ : En} {tg : Expr} {elts : List Expr} {kk : Nat}
/-- a list or a tuple, walked; the same in pairs with the number -/
def iSeq (K : PySem.W.Frag) (tl : TE) : TI := fun σ H R => tl σ H fun x H1 => ∃ a, x = .ref a ∧ (((∃ xs, SqL K H1 a xs) ∧ R (Itl K a) H1) ∨ ((∃ xs, SqT K H1 a xs) ∧ R (Itt K a) H1))
theorem pi_seq {tl : TE} (hl : PE X l tl) : PI X tg l (iSeq X.K tl) := ⟨fun pins s σ H R I h => by
  refine thn (hl.run pins s σ H _ I h) fun v s1 ⟨x, H1, I1, r1, a, e, q1⟩ => ?_
  subst e
  cases r1
  rcases q1 with ⟨⟨xs, hq⟩, q⟩ | ⟨⟨xs, hq⟩, q⟩
  · obtain ⟨its, rv, pl, hz⟩ := I1.list hq
    refine wpAny_pyIter_list pl.isList ⟨s1.heap.objs.size, [s1.heap.objs.size], _, _, H1, rfl, I1.kept (t' := s1.toks) fun b o e => Heap.get?_push_of_some _ e, turn_list a _, ⟨_, Heap.get?_push_size _ rfl, rfl, rfl⟩, fun b hb => ?_, q⟩
    obtain rfl : b = s1.heap.objs.size := by simpa using hb
    exact I1.fpOk (Nat.le_refl _) (I1.hok.fresh (Nat.le_refl _))
  · obtain ⟨its, rv, pl, hz⟩ := I1.tuple hq
    refine wpAny_pyIter_tuple (show s1.heap.IsTuple a its.toArray from pl) ⟨s1.heap.objs.size, [s1.heap.objs.size], _, _, H1, rfl, I1.kept (t' := s1.toks) fun b o e => Heap.get?_push_of_some _ e, turn_tuple a _, ⟨_, Heap.get?_push_size _ rfl, rfl, rfl⟩, fun b hb => ?_, q⟩
    obtain rfl : b = s1.heap.objs.size := by simpa using hb
    exact I1.fpOk (Nat.le_refl _) (I1.hok.fresh (Nat.le_refl _))⟩
end
end Dl
namespace Dl
open PySem PySem.Spec PyProof.Rows L2
section
variable {X : Cx} {T : Tx} {π : Nat → Option Pin} {W : WX} {a b c e o l : Expr} {es : List Expr} {pos p tpos : Pos} {m ma mb mc : Mi Dt} {ms : Mi (List Dt)} {A A' : Addr → Prop} {F H F' H' F0 H0 : Hp} {σ : L2.St} {ρ : En} {tg : Expr} {elts : List Expr} {kk : Nat}
/-! ### what is walked -/
theorem wk_list {a : Addr} {vs : List V} {ds : List Dt} (h : SqL T.K F a vs) (r : Reps T F vs ds) : Wk T (Itl T.K a) ds F where
  goes := fun i H hi le => ⟨vs, vs[i]'(by rw [r.length]; exact hi), sql_mono le h, by simp [r.length, hi]⟩
  stops := fun H le => ⟨vs, sql_mono le h, by rw [r.length]; exact Nat.le_refl _⟩
  yields := fun i H x H' d hd le y => by
    obtain ⟨e, y⟩ := y
    obtain ⟨v, h1, h2⟩ := r.get hd
    rw [y vs (sql_mono le h)] at h1
    cases h1
    exact .inl ⟨e, h2⟩
theorem wk_tup {a : Addr} {vs : List V} {ds : List Dt} (h : SqT T.K F a vs) (r : Reps T F vs ds) : Wk T (Itt T.K a) ds F where
  goes := fun i H hi le => ⟨vs, vs[i]'(by rw [r.length]; exact hi), sqt_mono le h, by simp [r.length, hi]⟩
  stops := fun H le => ⟨vs, sqt_mono le h, by rw [r.length]; exact Nat.le_refl _⟩
  yields := fun i H x H' d hd le y => by
    obtain ⟨e, y⟩ := y
    obtain ⟨v, h1, h2⟩ := r.get hd
    rw [y vs (sqt_mono le h)] at h1
    cases h1
    exact .inl ⟨e, h2⟩
def rngD (lo : Int) : Nat → List Dt
  | 0 => []
  | n + 1 => .int lo :: rngD (lo + 1) n
theorem rngD_len : ∀ (lo : Int) (n : Nat), (rngD lo n).length = n
  | _, 0 => rfl
  | lo, n + 1 => by unfold rngD; rw [List.length_cons, rngD_len]
theorem rngD_get : ∀ (lo : Int) (n i : Nat) (d : Dt), (rngD lo n)[i]? = some d → d = .int (lo + i)
  | _, 0, _, _, h => by simp [rngD] at h
  | lo, n + 1, 0, d, h => by simp [rngD] at h; rw [← h]; simp
  | lo, n + 1, i + 1, d, h => by
    have := rngD_get (lo + 1) n i d (by simpa [rngD] using h)
    rw [this, show lo + 1 + (i : Int) = lo + ((i + 1 : Nat) : Int) by omega]
theorem wk_rng (lo : Int) (n : Nat) : Wk T (Itr lo n) (rngD lo n) F where
  goes := fun i H hi le => by rw [rngD_len] at hi; exact hi
  stops := fun H le => by rw [rngD_len]; exact Nat.le_refl _
  yields := fun i H x H' d hd le y => by
    obtain ⟨e, y⟩ := y
    rw [rngD_get lo n i d hd, y]
    exact .inl ⟨e, .int _⟩
def mSeqI (m : Mi Dt) : Mi (List Dt) := mBind m fun d => match d with
  | .scr ns => mPure (ns.map .int)
  | .lst xs => mPure xs
  | .tup xs => mPure xs
  | _ => mBad
theorem di_seq (hK : X.K = T.K) (h : PE X l (TMe T π W m)) : PI X tg l (TMi T π W (mSeqI m)) := (pi_seq h).imp fun σ H R ⟨A, F, ρ, k, p⟩ => ⟨A, F, ρ, k, p.bind.imp fun d ρ1 F1 H1 k1 r1 p1 v rv => by
  rw [hK]
  cases d with
  | lst xs =>
    cases rv with
    | lst h r => exact ⟨_, rfl, .inl ⟨⟨_, SqL.of (k1.le _ _ h)⟩, p1.pure k1 _ (wk_list (SqL.of h) r)⟩⟩
  | scr ns =>
    cases rv with
    | scr h => exact ⟨_, rfl, .inl ⟨⟨_, sql_mono k1.le h⟩, p1.pure k1 _ (wk_list h (ints_reps ns))⟩⟩
  | tup xs =>
    obtain ⟨a, vs, e1, h, r⟩ := rv.tup_inv
    exact ⟨a, e1, .inr ⟨⟨_, sqt_mono k1.le h⟩, p1.pure k1 _ (wk_tup h r)⟩⟩
  | _ => exact p1.elim⟩
def mRng1 (ms : Mi (List Dt)) : Mi (List Dt) := mBind ms fun ds => match ds with
  | [.int j] => if -(2 ^ 62) ≤ j ∧ j < 2 ^ 62 then mPure (rngD 0 j.toNat) else mBad
  | _ => mBad
theorem di_rng1 (hg : Gl X "range") (hm : X.mg "range" = none) (h : PA X [a] (TMa T π W ms)) (hs : starEach [a] X.env = [(false, eval a X.env)] := by rfl) : PI X tg (.Call (.Name "range" p) [a] [] pos) (TMi T π W (mRng1 ms)) :=
  (pi_range1 hg hm h hs).imp fun σ H R ⟨A, F, ρ, k, p⟩ => ⟨A, F, ρ, k, p.bind.imp fun ds ρ1 F1 H1 k1 r1 p1 vs rvs => by
    split at p1
    · split at p1
      · rename_i hj
        cases rvs with
        | cons h r =>
          cases r
          exact ⟨_, by rw [h.int_inv], hj.1, hj.2, p1.pure k1 _ (wk_rng 0 _)⟩
      · exact p1.elim
    · exact p1.elim⟩
/-! ### isinstance against built-in classes -/
inductive Ty5 where
  | int | bool | str | list | tuple
def Ty5.nm : Ty5 → String
  | .int => "int" | .bool => "bool" | .str => "str" | .list => "list" | .tuple => "tuple"
def tyD : Dt → Option String
  | .non => some "NoneType" | .bl _ => some "bool" | .int _ => some "int" | .str _ => some "str" | .lst _ => some "list" | .scr _ => some "list" | .tup _ => some "tuple" | .dic _ _ _ => some "dict" | _ => none
def isD (n : Ty5) : Dt → Option Bool
  | .non => some false
  | .bl _ => some (match n with | .int => true | .bool => true | _ => false)
  | .int _ => some (match n with | .int => true | _ => false)
  | .str _ => some (match n with | .str => true | _ => false)
  | .lst _ => some (match n with | .list => true | _ => false)
  | .scr _ => some (match n with | .list => true | _ => false)
  | .tup _ => some (match n with | .tuple => true | _ => false)
  | .dic _ _ _ => some false
  | _ => none
theorem isD_kit (n : Ty5) (d : Dt) (t : String) (b : Bool) (h1 : tyD d = some t) (h2 : isD n d = some b) : kitB t n.nm = some b := by
  cases d <;> cases h1 <;> cases h2 <;> cases n <;> decide +kernel
theorem RepS.tyX {v : V} {d : Dt} {t : String} (le : Le F H) (r : RepS T F H v d) (h : tyD d = some t) : TyX T.K H v (.type t) := by
  have lst : ∀ {a : Addr} {vs : List V}, SqL T.K H a vs → TyX T.K H (.ref a) (.type "list") := fun q => by
    rcases q with (q | ⟨o, q⟩) | ⟨o, its, n, q, c, _⟩
    · exact .base (.lst q)
    · exact .base (.frz q)
    · exact .kList q c
  have tup : ∀ {a : Addr} {vs : List V}, SqT T.K H a vs → TyX T.K H (.ref a) (.type "tuple") := fun q => by
    rcases q with (q | ⟨o, q⟩) | ⟨o, its, n, q, c, _⟩
    · exact .base (.tup q)
    · exact .fTuple q
    · exact .kTuple q c
  rcases r with r | ⟨a, e, ho⟩
  · cases r <;> cases h
    · exact .base .non
    · exact .base (.bl _)
    · exact .base (.int _)
    · exact .base (.str _)
    · rename_i q; exact lst (sql_mono le q)
    · rename_i q _; exact .base (.lst (le _ _ q))
    · rename_i q _; exact .base (.tup (le _ _ q))
    · rename_i q; exact tup (sqt_mono le q)
    · rename_i q _ _; exact .base (.dK (le _ _ q))
    · rename_i q _ _; exact .base (.dT (le _ _ q))
  · subst e
    cases d with
    | lst ds => cases h; obtain ⟨vs, q, _⟩ := ho; exact .base (.lst q)
    | dic t ks ds =>
      cases h
      cases t with
      | false => obtain ⟨kk, vs, q, _⟩ := ho; exact .base (.dK q)
      | true => obtain ⟨kk, vs, q, _⟩ := ho; exact .base (.dT q)
    | ins c ds => cases h
    | deal cs bl => cases h
    | dcn ks ds => cases h
    | tbl q => cases h
    | _ => exact ho.elim
theorem isD_ty {n : Ty5} {d : Dt} {b : Bool} (h : isD n d = some b) : ∃ t, tyD d = some t := by
  cases d <;> first | exact ⟨_, rfl⟩ | cases h
def fIsi (n : Ty5) (d : Dt) : Option Dt := (isD n d).map .bl
def fIsi2 (n n' : Ty5) (d : Dt) : Option Dt := match isD n d, isD n' d with
  | some a, some b => some (.bl (a || b))
  | _, _ => none
theorem RepS.grow {v : V} {d : Dt} (r : RepS T F H v d) (hf : Le F F') (hh : ∀ a o, H a = some o → H' a = some o) : RepS T F' H' v d := by
  rcases r with r | ⟨a, e, ho⟩
  · exact .inl (r.mono hf)
  · exact .inr ⟨a, e, ho.mono hf fun x _ o q => hh x o q⟩
/-! ### dicts -/
def keyEq : Dt → Dt → Bool
  | .int i, .int j => i == j
  | .str x, .str y => x == y
  | _, _ => false
theorem keyEq_k (k k' : Key) : keyEq (kD k) (kD k') = decide (k = k') := by
  cases k with
  | inl i =>
    cases k' with
    | inl j => unfold kD keyEq; rw [key_ll]
    | inr y => rw [key_lr]; rfl
  | inr x =>
    cases k' with
    | inl j => rw [key_rl]; rfl
    | inr y =>
      unfold kD keyEq
      rw [key_rr]
      by_cases h : x = y
      · subst h; simp
      · simp [h]
def dRep (q : Dt → Dt → Bool) (x y : Dt) : List Dt → List Dt → List Dt
  | k :: ks, d :: ds => (if q k x then y else d) :: dRep q x y ks ds
  | _, _ => []
def dPut (q : Dt → Dt → Bool) (x y : Dt) (ks ds : List Dt) : List Dt × List Dt := if ks.any (fun k => q k x) then (ks, dRep q x y ks ds) else (ks ++ [x], ds ++ [y])
variable {κ : Type} [DecidableEq κ] {emb : κ → Dt} {q : Dt → Dt → Bool}
theorem zip_any (hq : ∀ k k', q (emb k) (emb k') = decide (k = k')) (x : κ) : ∀ {kk : List κ} {vs : List V}, kk.length = vs.length → ((kk.zip vs).any fun kv => decide (kv.1 = x)) = (kk.map emb).any fun k => q k (emb x)
  | [], [], _ => rfl
  | k :: kk, v :: vs, h => by
    rw [List.zip_cons_cons, List.any_cons, List.map_cons, List.any_cons, hq, zip_any hq x (by simpa using h)]
  | [], _ :: _, h => by cases h
  | _ :: _, [], h => by cases h
theorem zip_rep (hq : ∀ k k', q (emb k) (emb k') = decide (k = k')) (x : κ) {y : V} {dy : Dt} (ry : Rep T F y dy) : ∀ {kk : List κ} {vs : List V} {ds : List Dt}, kk.length = vs.length → Reps T F vs ds →
    ∃ vs' : List V, (kk.zip vs).map (fun kv => if kv.1 = x then (kv.1, y) else kv) = kk.zip vs' ∧ kk.length = vs'.length ∧ Reps T F vs' (dRep q (emb x) dy (kk.map emb) ds)
  | [], [], _, _, r => by cases r; exact ⟨[], rfl, rfl, .nil⟩
  | [], _ :: _, _, h, _ => by cases h
  | _ :: _, [], _, h, _ => by cases h
  | k :: kk, v :: vs, _, h, r => by
    cases r with
    | @cons _ _ d ds h1 h2 =>
      obtain ⟨vs', e1, e2, e3⟩ := zip_rep hq x ry (kk := kk) (by simpa using h) h2
      refine ⟨(if k = x then y else v) :: vs', ?_, by simpa using e2, ?_⟩
      · rw [List.zip_cons_cons, List.map_cons, e1, List.zip_cons_cons]
        by_cases e : k = x <;> simp [e]
      · show Reps T F _ ((if q (emb k) (emb x) then dy else d) :: _)
        rw [hq]
        by_cases e : k = x
        · rw [if_pos e, decide_eq_true e]; exact .cons ry e3
        · rw [if_neg e, decide_eq_false e]; exact .cons h1 e3
theorem put_ok (hq : ∀ k k', q (emb k) (emb k') = decide (k = k')) (x : κ) {y : V} {dy : Dt} (ry : Rep T F y dy) {kk : List κ} {vs : List V} {ds : List Dt} (hl : kk.length = vs.length) (r : Reps T F vs ds) :
    ∃ (kk' : List κ) (vs' : List V), putK (kk.zip vs) x y = kk'.zip vs' ∧ kk'.length = vs'.length ∧ (dPut q (emb x) dy (kk.map emb) ds).1 = kk'.map emb ∧ Reps T F vs' (dPut q (emb x) dy (kk.map emb) ds).2 := by
  unfold putK dPut
  rw [zip_any hq x hl]
  by_cases h : ((kk.map emb).any fun k => q k (emb x)) = true
  · rw [if_pos h, if_pos h]
    obtain ⟨vs', e1, e2, e3⟩ := zip_rep hq x ry hl r
    exact ⟨kk, vs', e1, e2, rfl, e3⟩
  · rw [if_neg h, if_neg h]
    refine ⟨kk ++ [x], vs ++ [y], ?_, by simp [hl], by simp, r.append (.cons ry .nil)⟩
    rw [List.zip_append hl]; rfl
/-- a dict by its kind: ints and texts, or tuples of them -/
def keyOf : Bool → Dt → Option Dt
  | false, .int i => some (.int i)
  | false, .str x => some (.str x)
  | true, .tup xs => if (xs.all fun d => match d with | .int _ => true | .str _ => true | _ => false) && !xs.isEmpty then some (.tup xs) else none
  | _, _ => none
end
end Dl
namespace Dl
open PySem PySem.Spec PyProof.Rows L2
section
variable {X : Cx} {T : Tx} {π : Nat → Option Pin} {W : WX} {a b c e o l : Expr} {es : List Expr} {pos p tpos : Pos} {m ma mb mc : Mi Dt} {ms : Mi (List Dt)} {A A' A0 : Addr → Prop} {F H F' H' F0 H0 : Hp} {σ : L2.St} {ρ : En} {tg : Expr} {elts : List Expr} {kk : Nat}
/-! ### several names at once -/
def slK : Bool → Dt → Sl
  | false, d => .val d
  | true, d => .own false d
def putSls : List Nat → List Bool → List Dt → En → Option En
  | i :: is, k :: ks, d :: ds, ρ => (setSl i (slK k d) ρ).bind (putSls is ks ds)
  | [], [], [], ρ => some ρ
  | _, _, _, _ => none
def setAll : List Nat → List V → L2.St → L2.St
  | i :: is, v :: vs, σ => setAll is vs (σ.set i (some v))
  | _, _, σ => σ
theorem own_set {i : Nat} {v : V} {s : Sl} {ρ' : En} {x : Addr} (k : Ok T π A F H σ ρ) (h : setSl i s ρ = some ρ') (w : IsOwn H (σ.set i (some v)) ρ' x) : IsOwn H σ ρ x ∨ (∃ a io d, v = .ref a ∧ s = .own io d ∧ (x = a ∨ x ∈ inH H a d)) := by
  obtain ⟨hi, rfl, _⟩ := setSl_inv h
  have hσ : i < σ.length := by rw [k.len]; exact hi
  obtain ⟨j, io, d, a, e1, e2, e3⟩ := w
  by_cases hj : i = j
  · subst hj
    rw [List.getElem?_set_self hi] at e1
    rw [List.getElem?_set_self hσ] at e2
    cases e1
    cases e2
    exact .inr ⟨_, _, _, rfl, rfl, e3⟩
  · rw [List.getElem?_set_ne hj] at e1 e2
    exact .inl ⟨j, io, d, a, e1, e2, e3⟩
theorem ok_puts {ks : List Bool} {vs : List V} {ds : List Dt} {as : List Addr} (g : Gk T F H A0 ks vs ds as) : ∀ {is : List Nat} {σ : L2.St} {ρ ρ' : En}, Ok T π A F H σ ρ → (∀ a ∈ as, ¬ IsOwn H σ ρ a ∧ A a) → putSls is ks ds ρ = some ρ' → Ok T π A F H (setAll is vs σ) ρ' := by
  induction g with
  | nil =>
    intro is σ ρ ρ' k _ h
    cases is with
    | nil => cases h; exact k
    | cons _ _ => cases h
  | @val v d ks vs ds as r g ih =>
    intro is σ ρ ρ' k ha h
    cases is with
    | nil => cases h
    | cons i is =>
      have h' : (setSl i (.val d) ρ).bind (putSls is ks ds) = some ρ' := h
      cases e : setSl i (.val d) ρ with
      | none => rw [e] at h'; cases h'
      | some ρ1 =>
        rw [e] at h'
        exact ih (k.set r e) (fun a z => ⟨fun w => (own_set k e w).elim (ha a z).1 (fun ⟨_, _, _, _, q, _⟩ => by cases q), (ha a z).2⟩) h'
  | @own p d ks vs ds as h1 h2 h3 h4 h5 g ih =>
    intro is σ ρ ρ' k ha h
    cases is with
    | nil => cases h
    | cons i is =>
      have h' : (setSl i (.own false d) ρ).bind (putSls is ks ds) = some ρ' := h
      cases e : setSl i (.own false d) ρ with
      | none => rw [e] at h'; cases h'
      | some ρ1 =>
        rw [e] at h'
        obtain ⟨n1, n2⟩ := ha p List.mem_cons_self
        have hin : ∀ x ∈ inH H p d, ¬ IsOwn H σ ρ x ∧ A x := fun x hx => ha x (List.mem_cons_of_mem _ (List.mem_append_left _ hx))
        have has : ∀ x ∈ as, ¬ IsOwn H σ ρ x ∧ A x := fun x hx => ha x (List.mem_cons_of_mem _ (List.mem_append_right _ hx))
        refine ih (k.setN h1 n1 n2 h3 (fun x hx => ⟨(h5 x hx).1, (hin x hx).1, (hin x hx).2⟩) e) (fun a z => ⟨fun w => (own_set k e w).elim (has a z).1 (fun ⟨a', io', d', q1, q2, q3⟩ => ?_), (has a z).2⟩) h'
        cases q1
        cases q2
        rcases q3 with q3 | q3
        · exact h4 (q3 ▸ z)
        · exact (h5 a q3).2.2 z
theorem Ok.there {x : Addr} (k : Ok T π A F H σ ρ) (w : IsOwn H σ ρ x) : H x ≠ none := fun e => by
  obtain ⟨_, _, o, q⟩ := k.ownH w
  rw [e] at q
  cases q
def sPars (is : List Nat) (ks : List Bool) (ms : Mi (List Dt)) : En → So := sBind ms fun ds ρ => match putSls is ks ds ρ with
  | some ρ' => .nx ρ'
  | none => .bad
theorem ds_pars {st : Stmt} {is : List Nat} {ks : List Bool} (h : PS X st (fun D σ H => TMk T π W ks ms σ H fun vs H1 => D.nx (setAll is vs σ) H1)) : PS X st (TMs T π W (sPars is ks ms)) := h.imp fun D σ H ⟨A, F0, H0, F, ρ, k, p⟩ =>
  ⟨IsOwn H σ ρ, F, ρ, k.ok.tight, fun a w => k.ok.there w, ((p.bind k).weak fun a w => k.ok.ownA w).imp fun ds ρ1 F1 H1 k1' r1 ⟨k1, p1⟩ vs as g ha => by
    cases e : putSls is ks ds ρ1 with
    | none => rw [e] at p1; exact p1.elim
    | some ρ' =>
      rw [e] at p1
      refine p1 _ F1 H1 ⟨ok_puts g k1.ok (fun a z => ⟨fun w => ?_, .inr (k.fr.t a (ha a z))⟩) e, k1.fr⟩
      exact k.ok.there (k1'.ownA w) (ha a z)⟩
theorem ds_par {st : Stmt} {i j : Nat} {k1 k2 : Bool} (h : PS X st (tPar i j (TMk T π W [k1, k2] ms))) : PS X st (TMs T π W (sPars [i, j] [k1, k2] ms)) := ds_pars (h.imp fun D σ H ⟨A, F, ρ, k, ht, p⟩ => ⟨A, F, ρ, k, ht, p.imp fun ds ρ' F' H' _ _ q vs as g ha => by
  cases g with
  | val _ g1 => cases g1 with
    | val _ g2 => cases g2; exact ⟨_, _, rfl, q _ _ (.val (by assumption) (.val (by assumption) .nil)) ha⟩
    | own h5 h6 h7 h8 h9 g2 => cases g2; exact ⟨_, _, rfl, q _ _ (.val (by assumption) (.own h5 h6 h7 h8 h9 .nil)) ha⟩
  | own h1 h2 h3 h4 i1 g1 => cases g1 with
    | val r g2 => cases g2; exact ⟨_, _, rfl, q _ _ (.own h1 h2 h3 h4 i1 (.val r .nil)) ha⟩
    | own h5 h6 h7 h8 i2 g2 => cases g2; exact ⟨_, _, rfl, q _ _ (.own h1 h2 h3 h4 i1 (.own h5 h6 h7 h8 i2 .nil)) ha⟩⟩)
end
end Dl
namespace Dl
open PySem PySem.Spec PyProof.Rows L2
section
variable {X : Cx} {T : Tx} {π : Nat → Option Pin} {W : WX} {a b c e o l : Expr} {es : List Expr} {pos p tpos : Pos} {m ma mb mc : Mi Dt} {ms : Mi (List Dt)} {A A' A0 : Addr → Prop} {F H F' H' F0 H0 : Hp} {σ : L2.St} {ρ : En} {tg : Expr} {elts : List Expr} {kk : Nat}
/-! ### xs[i] = y, xs a slot's own list -/
def putL (i : Nat) (x y : Dt) : Mi Dt := mMut i fun ds => match x with
  | .int k => (ixN ds.length k).map fun j => (.non, ds.set j y)
  | _ => none
def sLput (i : Nat) (mk mv : Mi Dt) : En → So := sBind mv fun y => sBind (hasSl i mk) fun x => sBind (putL i x y) fun _ ρ => .nx ρ
theorem ds_lput {st : Stmt} {i : Nat} {mk mv : Mi Dt} (h : PS X st (tAsg (TMe T π W mv) (gSub (tVar i) (TMe T π W mk) rSetL))) : PS X st (TMs T π W (sLput i mk mv)) := h.imp fun D σ H ⟨A, F0, H0, F, ρ, k, p⟩ => ⟨_, F, ρ, k.ok, (p.bind k).imp fun y ρ1 F1 H1 _ _ ⟨k1, p1⟩ vy ry => by
  have p1' := p1.bind k1
  unfold hasSl at p1'
  split at p1'
  · rename_i s es
    have hv : ∃ v, σ[i]? = some (some v) := by
      cases s with
      | val d => obtain ⟨v, h1, _⟩ := k1.ok.val i d es; exact ⟨v, h1⟩
      | own io d => obtain ⟨a, h1, _⟩ := k1.ok.own i io d es; exact ⟨_, h1⟩
    obtain ⟨v, hv⟩ := hv
    refine ⟨v, hv, _, F1, ρ1, k1.ok, p1'.imp fun x ρ2 F2 H2 _ r2 ⟨k2, p2⟩ vx rx => ?_⟩
    obtain ⟨io1, ds1, r, es1, a1, vs, e1, ef, s1, h3, h4, q⟩ := mMut_inv (p2.bind k2) k2.ok
    rw [hv] at s1
    cases s1
    cases x with
    | int kx =>
      dsimp only at ef
      cases hj : ixN ds1.length kx with
      | none => rw [hj] at ef; cases ef
      | some j =>
        rw [hj] at ef
        cases ef
        obtain ⟨k3, p3⟩ := q _ (h4.set (ry.mono r2.f) j)
        exact ⟨a1, vs, kx, j, rfl, rx.int_inv, h3, by rw [h4.length]; exact hj, p3 σ F2 _ k3⟩
    | _ => cases ef
  · exact p1'.elim⟩
/-! ### a def that changes its first argument -/
def mCallIo (n : Nat) (f : List Dt → Fo) (i : Nat) (ms : Mi (List Dt)) : Mi Dt := fun ρ => match ρ[i]? with
  | some (some (.own _ _)) => mBind ms (fun ds ρ1 => match ρ1[i]? with
    | some (some (.own io d)) => if ds.length + 1 = n then (match f (d :: ds) with
      | .ret r o => .ok r (ρ1.set i (some (.own io o)))
      | .exc x o => .exc x (ρ1.set i (some (.own io o)))
      | .bad => .bad) else .bad
    | _ => .bad) ρ
  | _ => .bad
theorem Ok.calledIo {i : Nat} {io : Bool} {d o : Dt} {a : Addr} (k : Ok T π A F H σ ρ) (e : ρ[i]? = some (some (.own io d))) (s : σ[i]? = some (some (.ref a))) (le : Le F' H') (r : Fr (pinA (some (a, inH H a d))) F H F' H') (io' : IoOk T F' H' (some (a, inH H a d)) o) :
    Ok T π A F' H' σ (ρ.set i (some (.own io o))) ∧ Fr A F H F' H' := by
  have hi : i < ρ.length := (List.getElem?_eq_some_iff.mp e).1
  obtain ⟨i1, i2, i3, i4⟩ := io' _ rfl
  dsimp only at i1 i2 i3 i4
  have hA : ∀ x, pinA (some (a, inH H a d)) x → A x := fun x ⟨q, hq, hx⟩ => by
    cases hq
    exact k.ownA ⟨i, io, d, a, e, s, hx⟩
  have ne : ∀ (j : Nat) jo dj b, i ≠ j → ρ[j]? = some (some (.own jo dj)) → σ[j]? = some (some (.ref b)) → ∀ x, (x = b ∨ x ∈ inH H b dj) → ¬ pinA (some (a, inH H a d)) x := fun j jo dj b hj ej sj x hx ⟨q, hq, hz⟩ => by
    cases hq
    exact hj (k.dis i j io jo d dj a b x e ej s sj hz hx)
  have smj : ∀ (j : Nat) jo dj b, i ≠ j → ρ[j]? = some (some (.own jo dj)) → σ[j]? = some (some (.ref b)) → inH H' b dj = inH H b dj := fun j jo dj b hj ej sj => by
    obtain ⟨b', q1, q2, q3, q4, q5⟩ := k.own j jo dj ej
    rw [sj] at q1
    cases q1
    exact q3.same fun o q => r.h b o (ne j jo dj b hj ej sj b (.inl rfl)) q
  refine ⟨⟨le, by simpa using k.len, fun j dj ej => ?_, fun j jo dj ej => ?_, fun j l jo lo dj dl b c x ej el sj sl xj xl => ?_⟩, r.weak hA⟩
  · by_cases hj : i = j
    · subst hj; rw [List.getElem?_set_self hi] at ej; cases ej
    · rw [List.getElem?_set_ne hj] at ej
      obtain ⟨v, h1, h2⟩ := k.val j dj ej
      exact ⟨v, h1, h2.mono r.f⟩
  · by_cases hj : i = j
    · subst hj
      rw [List.getElem?_set_self hi] at ej
      cases ej
      obtain ⟨b, h1, _, _, h4, h5⟩ := k.own i _ d e
      rw [s] at h1
      cases h1
      exact ⟨a, s, i1, i2, h4, by rw [i3]; exact h5.1, fun x hx => by rw [i3] at hx; exact ⟨i4 x hx, (h5.2 x hx).2⟩⟩
    · rw [List.getElem?_set_ne hj] at ej
      obtain ⟨b, q1, q2, q3, q4, q5, q6⟩ := k.own j jo dj ej
      have fe : ∀ x, (x = b ∨ x ∈ inH H b dj) → F' x = F x := fun x hx => by
        obtain ⟨ob, hob, ht⟩ := q3.hasI hx
        exact r.n x ob (ne j jo dj b hj ej q1 x hx) hob ht
      exact ⟨b, q1, by rw [fe b (.inl rfl)]; exact q2, q3.mono r.f fun x hx u q => r.h x u (ne j jo dj b hj ej q1 x hx) q, q4, by rw [smj j jo dj b hj ej q1]; exact q5, fun x hx => by
        rw [smj j jo dj b hj ej q1] at hx
        exact ⟨by rw [fe x (.inr hx)]; exact (q6 x hx).1, (q6 x hx).2⟩⟩
  · have back : ∀ (j : Nat) jo dj b, (ρ.set i (some (.own io o)))[j]? = some (some (.own jo dj)) → σ[j]? = some (some (.ref b)) → ∃ jo dk, ρ[j]? = some (some (.own jo dk)) ∧ inH H b dk = inH H' b dj := fun j jo dj b ej sj => by
      by_cases hj : i = j
      · subst hj; rw [List.getElem?_set_self hi] at ej; cases ej; rw [s] at sj; cases sj; exact ⟨io, d, e, i3.symm⟩
      · rw [List.getElem?_set_ne hj] at ej; exact ⟨jo, dj, ej, (smj j jo dj b hj ej sj).symm⟩
    obtain ⟨_, _, gj, ij⟩ := back j jo dj b ej sj
    obtain ⟨_, _, gl, il⟩ := back l lo dl c el sl
    exact k.dis j l _ _ _ _ b c x gj gl sj sl (by rw [ij]; exact xj) (by rw [il]; exact xl)
theorem sp_callIo {n i : Nat} {rn : Bool} {f : List Dt → Fo} {Q : VK} {vs : List V} {ds : List Dt} {a : Addr} {P : Dt → En → Hp → Hp → Prop} (k : Ok T π A F H σ ρ) (s : σ[i]? = some (some (.ref a))) (r : Reps T F vs ds)
    (p : Post T π W σ A F H P (match ρ[i]? with
      | some (some (.own io d)) => if ds.length + 1 = n then (match f (d :: ds) with
        | .ret r o => Ou.ok r (ρ.set i (some (.own io o)))
        | .exc x o => .exc x (ρ.set i (some (.own io o)))
        | .bad => .bad) else .bad
      | _ => .bad))
    (q : ∀ d ρ' F' H' v, Ok T π A F' H' σ ρ' → RetOk T H F' H' v d rn → P d ρ' F' H' → Q v H') : spM T n true rn f (.ref a :: vs) H Q (WE W σ) := by
  split at p
  · rename_i io d e
    by_cases hl : ds.length + 1 = n
    · rw [if_pos hl] at p
      obtain ⟨a', h1, h2, h3, h4, h5⟩ := k.own i io d e
      rw [s] at h1
      cases h1
      refine ⟨F, d :: ds, some (a, inH H a d), by rw [List.length_cons, r.length]; exact hl, k.le, ⟨a, vs, d, ds, rfl, rfl, h2, h3, r, rfl, fun x hx => (h5.2 x hx).1⟩, ?_⟩
      cases ef : f (d :: ds) with
      | ret rr oo =>
        rw [ef] at p
        exact fun F' H' v le fr io' rv => by
          obtain ⟨k', r'⟩ := k.calledIo e s le fr io'
          exact q rr _ F' H' v k' rv (p F' H' k' r')
      | exc x oo =>
        rw [ef] at p
        exact fun F' H' cc dd le fr io' rx => by
          obtain ⟨k', r'⟩ := k.calledIo e s le fr io'
          exact p F' H' cc dd k' r' rx
      | bad => rw [ef] at p; exact p.elim
    · rw [if_neg hl] at p; exact p.elim
  · exact p.elim
variable {k n i : Nat} {f : Addr} {fd : FuncData} {ps : List Str} {x : Str} {fm : List Dt → Fo}
theorem de_callIo {v : Str} {pv_ : Pos} (G : FnOk X.prog X.w X.K X.mg X.base (L2.CX X.prog X.w) k f fd ps (spM T n true false fm)) (hr : Room k X.A) (hg : Gl X x) (hm : X.mg x = some (.ref f)) (hk : PySem.W.keepIn X.K (.ref f) = true) (hb : Binds X.K fd ps []) (tk : Takes X W) (hv : PE X (.Name v pv_) (tVar i)) (ha : PA X es (TMa T π W ms))
    (hdb : (x == ("__debug__" : Str)) = false := by decide) (he : starEach (.Name v pv_ :: es) X.env = (false, eval (.Name v pv_) X.env) :: starEach es X.env := by rfl) (hpl : (backTo pos (starEach es X.env)).any (·.1) = false := by rfl) :
    PE X (.Call (.Name x p) (.Name v pv_ :: es) [] pos) (TMe T π W (mCallIo n fm i ms)) := (pe_callSD (E := WE W) G hr hg hm hk hb .nil (fun σ => passAt tk σ) (pa_cons hv ha he) hdb he hpl).imp fun σ H Q ⟨A, F, ρ, k, p⟩ => by
  unfold mCallIo at p
  split at p
  · rename_i io d e
    obtain ⟨a, h1, h2⟩ := k.own i io d e
    refine ⟨.ref a, h1, A, F, ρ, k, p.bind.imp fun ds ρ1 F1 H1 k1 r1 p1 vs rvs => ?_⟩
    show spM T n true false fm ((.ref a :: vs) ++ []) H1 Q (WE W σ)
    rw [List.append_nil]
    exact sp_callIo k1 h1 rvs p1 fun d ρ' F' H' v _ rv q => q v rv
  · exact p.elim
/-! ### instances -/
def AttrOk (T : Tx) (f : Str) (ix : Nat → Option Nat) : Prop := ∀ c j, ix c = some j → ∀ C ns, T.cl c = some (C, ns) → ns[j]? = some f ∧ ns.Nodup ∧ ns.length < 1000 ∧ Cls T.K C ∧ NoAttr T.K C f
theorem zip_lookup {f : Str} : ∀ {ns : List Str} {vs : List V} {j : Nat}, ns.Nodup → ns[j]? = some f → (ns.zip vs).lookup f = vs[j]?
  | [], _, _, _, h => by simp at h
  | n :: ns, [], j, _, h => by simp
  | n :: ns, v :: vs, 0, nd, h => by
    simp at h
    subst h
    simp [List.lookup]
  | n :: ns, v :: vs, j + 1, nd, h => by
    rw [List.nodup_cons] at nd
    have h' : ns[j]? = some f := by simpa using h
    have ne : f ≠ n := fun z => nd.1 (z ▸ (List.mem_of_getElem? h'))
    rw [List.zip_cons_cons, List.lookup_cons, show (f == n) = false by simpa using ne]
    simpa using zip_lookup (vs := vs) nd.2 h'
def fAttr (ix : Nat → Option Nat) : Dt → Option Dt
  | .ins c ds => (ix c).bind fun j => ds[j]?
  | _ => none
theorem RepS.ins_inv {v : V} {c : Nat} {ds : List Dt} (r : RepS T F H v (.ins c ds)) (le : Le F H) : ∃ (a C dx : Addr) (ns : List Str) (vs : List V), v = .ref a ∧ T.cl c = some (C, ns) ∧ H a = some (.ins C dx (ns.zip vs)) ∧ vs.length ≤ ns.length ∧ Reps T F vs ds := by
  rcases r with r | ⟨a, e, C, dx, ns, vs, h1, h2, h3, h4⟩
  · cases r with
    | ins h1 h2 h3 h4 => exact ⟨_, _, _, _, _, rfl, h1, le _ _ h2, h3, h4⟩
  · exact ⟨a, C, dx, ns, vs, e, h1, h2, h3, h4⟩
theorem de_attr {f : Str} {ix : Nat → Option Nat} (hK : X.K = T.K) (ho : AttrOk T f ix) (h : PE X o (TMp T π W m)) (hb : attributeBase o f X.env (eval o X.env) = eval o X.env) : PE X (.Attribute o f pos) (TMe T π W (m1 (fAttr ix) m)) := (pe_fld h hb).imp fun σ H Q ⟨A, F, ρ, k, p⟩ => ⟨A, F, ρ, k, p.bind.imp fun d ρ1 F1 H1 k1 r1 p1 v rv => by
  obtain ⟨z, ez, p2⟩ := p1.opt
  cases d with
  | ins c ds =>
    unfold fAttr at ez
    dsimp only at ez
    cases hj : ix c with
    | none => rw [hj] at ez; cases ez
    | some j =>
      rw [hj] at ez
      obtain ⟨a, C, dx, ns, vs, e1, q1, q2, q3, q4⟩ := rv.ins_inv k1.le
      obtain ⟨h2, h3, _, h4, h5⟩ := ho c j hj C ns q1
      obtain ⟨w, q5, q6⟩ := q4.get (show ds[j]? = some z from ez)
      rw [hK]
      exact ⟨a, C, dx, _, w, e1, q2, h4, h5, by rw [zip_lookup h3 h2]; exact q5, p2.pure k1 _ q6⟩
  | _ => cases ez⟩
/-- o.f = e, o a slot's own -/
def putFl (i : Nat) (ix : Nat → Option Nat) (y : Dt) : Mi Unit := fun ρ => match ρ[i]? with
  | some (some (.own io (.ins c ds))) => (match ix c with
    | some j => if j < ds.length then .ok () (ρ.set i (some (.own io (.ins c (ds.set j y))))) else if j = ds.length then .ok () (ρ.set i (some (.own io (.ins c (ds ++ [y]))))) else .bad
    | none => .bad)
  | _ => .bad
def sFput (i : Nat) (ix : Nat → Option Nat) (m : Mi Dt) : En → So := sBind m fun y => sBind (putFl i ix y) fun _ ρ => .nx ρ
theorem putF_at {f : Str} {y : V} : ∀ {ns : List Str} {vs : List V} {j : Nat}, ns.Nodup → ns[j]? = some f → j < vs.length → putF f y (ns.zip vs) = ns.zip (vs.set j y)
  | [], _, _, _, h, _ => by simp at h
  | n :: ns, [], j, _, h, hl => by simp at hl
  | n :: ns, v :: vs, 0, nd, h, _ => by
    simp at h
    subst h
    simp [putF]
  | n :: ns, v :: vs, j + 1, nd, h, hl => by
    rw [List.nodup_cons] at nd
    have h' : ns[j]? = some f := by simpa using h
    have ne : ¬ n = f := fun z => nd.1 (z ▸ (List.mem_of_getElem? h'))
    rw [List.zip_cons_cons]
    unfold putF
    rw [if_neg ne, putF_at nd.2 h' (by simpa using hl)]
    rfl
theorem putF_end {f : Str} {y : V} : ∀ {ns : List Str} {vs : List V}, ns.Nodup → ns[vs.length]? = some f → putF f y (ns.zip vs) = ns.zip (vs ++ [y])
  | [], _, _, h => by simp at h
  | n :: ns, [], _, h => by
    simp at h
    subst h
    simp [putF]
  | n :: ns, v :: vs, nd, h => by
    rw [List.nodup_cons] at nd
    have h' : ns[vs.length]? = some f := by simpa using h
    have ne : ¬ n = f := fun z => nd.1 (z ▸ (List.mem_of_getElem? h'))
    rw [List.zip_cons_cons]
    unfold putF
    rw [if_neg ne, putF_end nd.2 h']
    rfl
theorem ds_fput {st : Stmt} {f : Str} {ix : Nat → Option Nat} (hK : X.K = T.K) (ho : AttrOk T f ix) (h : PS X st (sFld X.K (tVar i) (TMe T π W m) f)) : PS X st (TMs T π W (sFput i ix m)) := h.imp fun D σ H ⟨A, F0, H0, F, ρ, k, p⟩ => ⟨_, F, ρ, k.ok, (p.bind k).imp fun y ρ1 F1 H1 _ _ ⟨k1, p1⟩ vy ry => by
  have p2 := p1.bind k1
  unfold putFl at p2
  split at p2
  · rename_i io c ds e
    obtain ⟨a, s1, s2, ⟨C, dx, ns, vs, q1, q2, q3, q4⟩, s4, s5⟩ := k1.ok.own i io _ e
    split at p2
    · rename_i j hj
      obtain ⟨h2, h3, h3', h4, h5⟩ := ho c j hj C ns q1
      rw [hK]
      have hlen : (ns.zip vs).length < 1000 := by rw [List.length_zip]; omega
      split at p2
      · rename_i hlt
        have hlt' : j < vs.length := by rw [q4.length]; exact hlt
        obtain ⟨k3, p3⟩ := p2 F1 _ (k1.ok.put (o := .ins C dx (ns.zip (vs.set j vy))) e s1 ⟨C, dx, ns, _, q1, upd_same, by simpa using q3, q4.set ry j⟩) (.put k1.ok e s1)
        exact ⟨.ref a, s1, a, C, dx, _, rfl, q2, h4, h5, hlen, by rw [putF_at h3 h2 hlt']; exact p3 σ F1 _ k3⟩
      · split at p2
        · rename_i _ heq
          have heq' : j = vs.length := by rw [q4.length]; exact heq
          subst heq'
          have hle : (vs ++ [vy]).length ≤ ns.length := by
            rw [List.length_append]
            exact (List.getElem?_eq_some_iff.mp h2).1
          obtain ⟨k3, p3⟩ := p2 F1 _ (k1.ok.put (o := .ins C dx (ns.zip (vs ++ [vy]))) e s1 ⟨C, dx, ns, _, q1, upd_same, hle, q4.append (.cons ry .nil)⟩) (.put k1.ok e s1)
          exact ⟨.ref a, s1, a, C, dx, _, rfl, q2, h4, h5, hlen, by rw [putF_end h3 h2]; exact p3 σ F1 _ k3⟩
        · exact p2.elim
    · exact p2.elim
  · exact p2.elim⟩
/-- C(..) -/
def mMake (c n : Nat) (f : List Dt → Fo) (ms : Mi (List Dt)) : Mi Dt := mBind ms fun ds ρ => if ds.length + 1 = n then (match f (.ins c [] :: ds) with
  | .ret .non o => .ok o ρ
  | .ret _ _ => .bad
  | .exc x _ => .exc x ρ
  | .bad => .bad) else .bad
theorem sp_make {c n : Nat} {f : List Dt → Fo} {Q : VK} {vs : List V} {ds : List Dt} {C : Addr} {ns : List Str} {P : Dt → En → Hp → Hp → Prop} {E : XK} (hc : T.cl c = some (C, ns)) (hE : ∀ cls d H, W cls d σ H → E cls d H) (k : Ok T π A F H σ ρ) (r : Reps T F vs ds)
    (p : Post T π W σ A F H P (if ds.length + 1 = n then (match f (.ins c [] :: ds) with | .ret .non o => Ou.ok o ρ | .ret _ _ => .bad | .exc x _ => .exc x ρ | .bad => .bad) else .bad))
    (q : ∀ o F' H' x, Ok T π A F' H' σ ρ → F' x = none → ¬ IsOwn H' σ ρ x → H x = none → OwnAt T F' H' x o → inH H' x o = [] → P o ρ F' H' → Q (.ref x) H') :
    ∀ x dx, H x = none → H dx = none → dx ≠ x → spM T n true false f (.ref x :: vs) (upd (upd H dx (.own x)) x (.ins C dx [])) (fun v H2 => v = .non ∧ Q (.ref x) H2) E := fun x dx hx hdx ne => by
  by_cases hl : ds.length + 1 = n
  · rw [if_pos hl] at p
    have hx2 : (upd H dx (.own x)) x = none := by rw [upd_ne (Ne.symm ne)]; exact hx
    have le2 : Le H (upd (upd H dx (.own x)) x (.ins C dx [])) := le_trans (le_new hdx) (le_new hx2)
    refine ⟨F, .ins c [] :: ds, some (x, []), by rw [List.length_cons, r.length]; exact hl, le_trans k.le le2, ⟨x, vs, _, ds, rfl, rfl, f_none k.le hx, ⟨C, dx, ns, [], hc, by rw [upd_same, List.zip_nil_right], Nat.zero_le _, .nil⟩, r, rfl, (fun _ z => nomatch z)⟩, ?_⟩
    have fr2 : ∀ {F' H' : Hp}, Le F' H' → Fr (pinA (some (x, []))) F (upd (upd H dx (.own x)) x (.ins C dx [])) F' H' → Ok T π A F' H' σ ρ ∧ Fr A F H F' H' := fun {F' H'} le fr => by
      have nx : ∀ {b : Addr} {o : HO}, H b = some o → ¬ pinA (some (x, [])) b := fun hb ⟨q, hq, hz⟩ => by
        cases hq
        rcases hz with hz | hz
        · rw [hz, hx] at hb; cases hb
        · cases hz
      refine ⟨k.grow fr.f le (fun b w => ?_) (fun b o w e => fr.h b o (nx e) (le2 b o e)), fr.f, fun b o _ e => fr.h b o (nx e) (le2 b o e), fun b o _ e t => fr.n b o (nx e) (le2 b o e) t, fun b e => ?_⟩
      · obtain ⟨_, h2, o, h3, h4⟩ := k.ownT w
        rw [fr.n b o (nx h3) (le2 b o h3) h4]; exact h2
      · exact up_none (up_none (fr.t b e))
    cases ef : f (.ins c [] :: ds) with
    | ret rr oo =>
      rw [ef] at p
      cases rr with
      | non =>
        refine fun F' H' v le fr io' rv => ?_
        obtain ⟨k', r'⟩ := fr2 le fr
        exact ⟨Rep.non_inv rv, q oo F' H' x k' (io' _ rfl).1 (fun w => k.fresh_own hx ((k.sameOwn fun b o _ e => fr.h b o (fun ⟨q, hq, hz⟩ => by
          cases hq
          rcases hz with hz | hz
          · rw [hz, hx] at e; cases e
          · cases hz) (le2 b o e)).mp w)) hx (io' _ rfl).2.1 (io' _ rfl).2.2.1 (p F' H' k' r')⟩
      | _ => exact p.elim
    | exc xx oo =>
      rw [ef] at p
      exact fun F' H' cc dd le fr io' rx => by
        obtain ⟨k', r'⟩ := fr2 le fr
        exact hE cc dd H' (p F' H' cc dd k' r' rx)
    | bad => rw [ef] at p; exact p.elim
  · rw [if_neg hl] at p; exact p.elim
theorem dn_make {c : Nat} {C : Addr} {ns : List Str} (M : Mk X.K C f) (G : FnOk X.prog X.w X.K X.mg X.base (L2.CX X.prog X.w) k f fd ps (spM T n true false fm)) (hr : Room (k + 1) X.A) (hg : Gl X x) (hm : X.mg x = some (.ref C)) (hb : Binds X.K fd ps []) (hc : T.cl c = some (C, ns)) (hE : ∀ cls d σ σ' H, W cls d σ H → W cls d σ' H) (tk : Takes X W) (ha : PA X (e :: es) (TMa T π W ms))
    (hdb : (x == ("__debug__" : Str)) = false := by decide) (he : starEach (e :: es) X.env = (false, eval e X.env) :: starEach es X.env := by rfl) (hpl : (backTo pos (starEach es X.env)).any (·.1) = false := by rfl) :
    PE X (.Call (.Name x p) (e :: es) [] pos) (TMn T π W (mMake c n fm ms)) := (pe_make (E := fun cls d H => ∃ σ, W cls d σ H) M G hr hg hm hb .nil (fun pins σ H s e s' I c => tk e s' (XE.of_call I (fun cls d H' ⟨σ', h⟩ => hE cls d σ' σ H' h) c)) ha hdb he hpl).imp fun σ H Q ⟨A, F, ρ, k, p⟩ => ⟨A, F, ρ, k, p.bind.imp fun ds ρ1 F1 H1 k1 r1 p1 vs rvs => by
  intro y dy hy hdy ne
  rw [List.append_nil]
  exact sp_make hc (fun cls d H h => ⟨σ, h⟩) k1 rvs p1 (fun o F' H' z k' h1 h2 h3 h4 h5 q => q z h1 h2 (r1.t z h3) h4 fun y hy => by rw [h5] at hy; cases hy) y dy hy hdy ne⟩
/-- o.m(..), o any value of the class (not changed) -/
def mMeth (c n : Nat) (f : List Dt → Fo) (m : Mi Dt) (ms : Mi (List Dt)) : Mi Dt := mBind m fun d => match d with
  | .ins c' vs => if c' = c then mBind ms fun ds ρ => if (Dt.ins c' vs :: ds).length = n then (match f (.ins c' vs :: ds) with
    | .ret d _ => .ok d ρ
    | .exc x _ => .exc x ρ
    | .bad => .bad) else .bad else mBad
  | _ => mBad
/-! ### texts -/
def fFmt : Dt → Option Dt
  | .str y => if y.length ≤ sizeLine then some (.str y) else none
  | .int i => if i.natAbs.log2 < 1920 then some (.str (toString i)) else none
  | _ => none
theorem de_fmt (h : PE X e (TMe T π W m)) : PE X (.FormattedValue e (-1) none pos) (TMe T π W (m1 fFmt m)) := (pe_fmt h).imp fun σ H Q ⟨A, F, ρ, k, p⟩ => ⟨A, F, ρ, k, p.bind.imp fun d ρ1 F1 H1 k1 r1 p1 v rv => by
  obtain ⟨z, ez, p2⟩ := p1.opt
  unfold fFmt at ez
  split at ez
  · split at ez
    · cases ez; exact .inl ⟨_, rv.str_inv, by assumption, p2.pure k1 _ (.str _)⟩
    · cases ez
  · split at ez
    · cases ez; exact .inr ⟨_, rv.int_inv, by assumption, p2.pure k1 _ (.str _)⟩
    · cases ez
  · cases ez⟩
def mJs : List (Mi Dt) → Str → Mi Str
  | [], acc => mPure acc
  | m :: r, acc => mBind m fun d => match d with
    | .str y => if (acc ++ y).length ≤ sizeLine then mJs r (acc ++ y) else mBad
    | _ => mBad
theorem tjs_of {Q : Str → Hp → Prop} : ∀ (ms : List (Mi Dt)) (acc : Str) {H F : Hp} {ρ : En}, Ok T π A F H σ ρ → Post T π W σ A F H (fun out _ _ H' => Q out H') (mJs ms acc ρ) → tJs (ms.map (TMe T π W)) acc σ H Q
  | [], acc, H, F, ρ, k, p => p.pure k
  | m :: r, acc, H, F, ρ, k, p => ⟨A, F, ρ, k, p.bind.imp fun d ρ1 F1 H1 k1 r1 p1 v rv => by
    cases d with
    | str y =>
      dsimp only at p1
      split at p1
      · rename_i hz
        exact ⟨y, rv.str_inv, hz, tjs_of r (acc ++ y) k1 p1⟩
      · exact p1.elim
    | _ => exact p1.elim⟩
def mJoined (ms : List (Mi Dt)) : Mi Dt := mBind (mJs ms Str.empty) fun s => mPure (.str s)
theorem de_joined {v1 v2 : Expr} {rest : List Expr} {mm : List (Mi Dt)} (h : PJ X (v1 :: v2 :: rest) (mm.map (TMe T π W))) : PE X (.JoinedStr (v1 :: v2 :: rest) pos) (TMe T π W (mJoined mm)) := (pe_joined h).imp fun σ H Q ⟨A, F, ρ, k, p⟩ =>
  tjs_of mm Str.empty k (p.bind.imp fun out ρ1 F1 H1 k1 r1 p1 => p1.pure k1 _ (.str _))
def strsOf : List Dt → Option (List Str)
  | [] => some []
  | .str i :: ds => (strsOf ds).map (i :: ·)
  | _ => none
theorem strs_inv : ∀ {ds : List Dt} {ns : List Str}, strsOf ds = some ns → ds = ns.map .str
  | [], ns, h => by cases h; rfl
  | d :: ds, ns, h => by
    cases d with
    | str i =>
      unfold strsOf at h
      cases q : strsOf ds with
      | none => rw [q] at h; cases h
      | some r => rw [q] at h; cases h; rw [strs_inv q]; rfl
    | _ => cases h
theorem reps_strs : ∀ {ns : List Str} {vs : List V}, Reps T F vs (ns.map .str) → vs = ns.map V.str
  | [], _, r => by cases r; rfl
  | i :: ns, _, r => by
    cases r with
    | cons h rs => rw [h.str_inv, reps_strs rs]; rfl
/-- sep.join(xs) -/
def fJoin : Dt → Dt → Option Dt
  | .str a, .lst xs => (strsOf xs).bind fun ys => if (ys.map (·.length)).sum + ys.length * a.length ≤ 16777216 then some (.str (Txt.join a ys)) else none
  | .str a, .tup xs => (strsOf xs).bind fun ys => if (ys.map (·.length)).sum + ys.length * a.length ≤ 16777216 then some (.str (Txt.join a ys)) else none
  | _, _ => none
def mJoin (ma mb : Mi Dt) : Mi Dt := mBind ma fun x => match x with
  | .str a => mBind mb fun y => mOpt (fJoin (.str a) y)
  | _ => mBad
def rJoinA (K : PySem.W.Frag) : V → List V → Hp → VK → Prop := fun x xs H Q => ∃ a p, ∃ ys : List Str, x = .str a ∧ xs = [.ref p] ∧ (SqL K H p (ys.map V.str) ∨ SqT K H p (ys.map V.str)) ∧
      (ys.map (·.length)).sum + ys.length * a.length ≤ 16777216 ∧ Q (.str (Txt.join a ys)) H
theorem de_join (h : PE X e (tM1 (rJoinA T.K) (TMe T π W ma) (TMp T π W mb))) : PE X e (TMe T π W (mJoin ma mb)) := h.imp fun σ H Q ⟨A, F, ρ, k, p⟩ => ⟨A, F, ρ, k, p.bind.imp fun d ρ1 F1 H1 k1 r1 p1 v rv => by
  cases d with
  | str a =>
    dsimp only at p1
    refine ⟨⟨a, rv.str_inv⟩, A, F1, ρ1, k1, p1.bind.imp fun d ρ2 F2 H2 k2 r2 p2 w rw => ?_⟩
    obtain ⟨z, ez, p3⟩ := p2.opt
    have go : ∀ xs, (d = .lst xs ∨ d = .tup xs) → ((strsOf xs).bind fun ys => if (ys.map (·.length)).sum + ys.length * a.length ≤ 16777216 then some (Dt.str (Txt.join a ys)) else none) = some z → rJoinA T.K v [w] H2 Q := fun xs hd ez => by
      obtain ⟨p, vs, e1, hq, r, _⟩ := rw.seq k2.le hd
      cases hs : strsOf xs with
      | none => rw [hs] at ez; cases ez
      | some ys =>
        rw [hs] at ez
        have ez' : (if (ys.map (·.length)).sum + ys.length * a.length ≤ 16777216 then some (Dt.str (Txt.join a ys)) else none) = some z := ez
        split at ez'
        · rename_i hz
          cases ez'
          have ex := strs_inv hs
          subst ex
          have ev := reps_strs r
          subst ev
          exact ⟨a, p, ys, rv.str_inv, by rw [e1], hq, hz, p3.pure k2 _ (.str _)⟩
        · cases ez'
    cases d with
    | lst xs => exact go xs (.inl rfl) ez
    | tup xs => exact go xs (.inr rfl) ez
    | _ => cases ez
  | _ => exact p1.elim⟩
def fStr : Dt → Option Dt
  | .int i => if i.natAbs.log2 < 1920 then some (.str (toString i)) else none
  | _ => none
theorem cs_str : CaS T (fun xs H Q => ∃ i, xs = [V.int i] ∧ i.natAbs.log2 < 1920 ∧ Q (.str (toString i)) H) fStr := uns_pure fun F H v d z Q le rv ef q => by
  unfold fStr at ef
  split at ef
  · split at ef
    · cases ef; exact ⟨_, by rw [rv.int_inv], by assumption, q _ (.str _)⟩
    · cases ef
  · cases ef
/-! ### x in a list or tuple of flat things -/
end
end Dl
namespace Dl
open PySem PySem.Spec PyProof.Rows L2
section
variable {X : Cx} {T : Tx} {π : Nat → Option Pin} {W : WX} {a b c e o l : Expr} {es : List Expr} {pos p tpos : Pos} {m ma mb mc : Mi Dt} {ms : Mi (List Dt)} {A A' A0 : Addr → Prop} {F H F' H' F0 H0 : Hp} {σ : L2.St} {ρ : En} {tg : Expr} {elts : List Expr} {kk : Nat}
/-! ### {k: v for ..}, keys whole numbers and texts -/
def dcGo (g : Dt → En → Option En) (t : Mi Bool) (mk mv : Mi Dt) (vs : List Nat) : List Dt → List Dt → List Dt → En → Ou (List Dt × List Dt)
  | [], ks, ds, ρ => .ok (ks, ds) ρ
  | d :: r, ks, ds, ρ => match g d ρ with
    | none => .bad
    | some ρ1 => match t ρ1 with
      | .ok true ρ2 => (match mk ρ2 with
        | .ok x ρ3 => (match mv ρ3 with
          | .ok y ρ4 => (match keyOf false x with
            | some kx => if ks.length < sizeLine then dcGo g t mk mv vs r (dPut keyEq kx y ks ds).1 (dPut keyEq kx y ks ds).2 (wipeE ρ4 vs) else .bad
            | none => .bad)
          | _ => .bad)
        | _ => .bad)
      | .ok false ρ2 => dcGo g t mk mv vs r ks ds (wipeE ρ2 vs)
      | _ => .bad
def mDc (mi : Mi (List Dt)) (g : Dt → En → Option En) (t : Mi Bool) (mk mv : Mi Dt) (vs : List Nat) : Mi Dt := mBind mi fun ds ρ =>
  if ownAny ρ vs then .bad else match dcGo g t mk mv vs ds [] [] (wipeE ρ vs) with
    | .ok (ks, es) ρ' => .ok (.dic false ks es) (restE ρ ρ' vs)
    | _ => .bad
theorem tdc_of {g : Dt → En → Option En} {sl vs : List Nat} {mt : Mi Bool} {mk mv : Mi Dt} {Q : VK} (hsl : ∀ i ∈ sl, i ∈ vs) (h : TMn T π W (mDc ms g mt mk mv vs) σ H Q) : tDc (TMi T π W ms) (TMg T π g sl) (TMt T π W0 mt) (TMe T π W0 mk) (TMe T π W0 mv) vs σ H Q := by
  obtain ⟨A0, F, ρ, k, p⟩ := h
  refine ⟨IsOwn H σ ρ, F, ρ, k.tight, ((p.weak (A' := IsOwn H σ ρ) fun a z => k.ownA z).bind).imp fun ds ρ1 F1 H1 k1 r1 p1 J w D hD => ?_⟩
  have nA : ¬ IsOwn H σ ρ D := k.fresh_own (r1.t D hD)
  by_cases hown : ownAny ρ1 vs = true
  · rw [if_pos hown] at p1; exact p1.elim
  rw [if_neg hown] at p1
  have hown : ownAny ρ1 vs = false := by simpa using hown
  cases el : dcGo g mt mk mv vs ds [] [] (wipeE ρ1 vs) with
  | exc x r => rw [el] at p1; exact p1.elim
  | bad => rw [el] at p1; exact p1.elim
  | ok acc ρF =>
    obtain ⟨ksF, dsF⟩ := acc
    rw [el] at p1
    let Pv : Nat → Hp → Prop := fun i Hc => ∃ (F : Hp) (ρ' : En) (kd dd : List Dt) (kk : List Key) (vv : List V), Ok T π (IsOwn H σ ρ) F Hc (wipe σ vs) ρ' ∧ Fr (IsOwn H σ ρ) F1 H1 F Hc ∧ F D = none ∧ Hc D = some (.dK (kk.zip vv)) ∧ kk.length = vv.length ∧ kd = kk.map kD ∧ Reps T F vv dd ∧ dcGo g mt mk mv vs (ds.drop i) kd dd ρ' = .ok (ksF, dsF) ρF
    refine ⟨fun i m Hc => m = ds.length - i ∧ i ≤ ds.length ∧ Pv i Hc, ⟨ds.length, by simp, Nat.zero_le _, F1, wipeE ρ1 vs, [], [], [], [], (k1.newO hD).wipe vs, .newO hD, f_none k1.le hD, upd_same, rfl, rfl, .nil, el⟩, ?_⟩
    rintro i m Hc ⟨rfl, hi, F2, ρ', kd, dd, kk, vv, k2, r2, fD, hDc, hlen, hkd, rs, eg⟩
    by_cases hlt : i < ds.length
    · refine .inr ⟨w.goes i Hc hlt (le_trans r2.f k2.le), Pv (i + 1), fun H' p' => ⟨ds.length - (i + 1), by omega, rfl, hlt, p'⟩, fun x H' y => ?_⟩
      have hd : ds[i]? = some ds[i] := List.getElem?_eq_getElem hlt
      obtain ⟨F3, k3, r3, rx, l3⟩ := w.turn hd k2 r2.f y
      rw [List.drop_eq_getElem_cons hlt] at eg
      unfold dcGo at eg
      cases e1 : g ds[i] ρ' with
      | none => rw [e1] at eg; cases eg
      | some ρ2 =>
        rw [e1] at eg
        dsimp only at eg
        refine ⟨_, F3, ρ', ds[i], ρ2, k3, rx, e1, fun σ2 k4 l4 s4 => ?_⟩
        have ew : wipe σ2 vs = wipe σ vs := by
          rw [wipe_ext (σ := wipe σ vs) (σ' := σ2) l4 fun i hi => s4 i fun z => hi (hsl i z), wipe_wipe]
        refine ⟨ew, _, F3, ρ2, k4, ?_⟩
        have keep : ∀ {F5 H5 : Hp} {ρ5 : En}, Ok T π (IsOwn H σ ρ) F5 H5 σ2 ρ5 → Fr (IsOwn H σ ρ) F3 H' F5 H5 → H5 D = some (.dK (kk.zip vv)) ∧ F5 D = none ∧ Reps T F5 vv dd ∧ Fr (IsOwn H σ ρ) F1 H1 F5 H5 ∧ Ok T π (IsOwn H σ ρ) F5 H5 (wipe σ vs) (wipeE ρ5 vs) := fun {F5 H5 ρ5} k5 r5 => by
          have rr := r3.trans r5
          refine ⟨rr.h D _ nA hDc, ?_, rs.mono rr.f, r2.trans rr, by rw [← ew]; exact k5.wipe vs⟩
          rw [rr.n D _ nA hDc (fun _ z => nomatch z)]; exact fD
        cases e2 : mt ρ2 with
        | exc x r => rw [e2] at eg; cases eg
        | bad => rw [e2] at eg; cases eg
        | ok b ρ3 =>
          rw [e2] at eg
          intro F5 H5 k5 r5
          cases b with
          | false =>
            obtain ⟨q1, q2, q3, q4, q5⟩ := keep k5 r5
            exact iteF ⟨F5, _, kd, dd, kk, vv, q5, q4, q2, q1, hlen, hkd, q3, eg⟩
          | true =>
            dsimp only at eg
            refine iteT ⟨_, F5, ρ3, k5, ?_⟩
            cases e3 : mk ρ3 with
            | exc x r => rw [e3] at eg; cases eg
            | bad => rw [e3] at eg; cases eg
            | ok xk ρ4 =>
              rw [e3] at eg
              dsimp only at eg
              intro F6 H6 k6 r6 vk rvk
              refine ⟨_, F6, ρ4, k6, ?_⟩
              cases e4 : mv ρ4 with
              | exc x r => rw [e4] at eg; cases eg
              | bad => rw [e4] at eg; cases eg
              | ok yv ρ5 =>
                rw [e4] at eg
                dsimp only at eg
                intro F7 H7 k7 r7 vv' rvv
                obtain ⟨q1, q2, q3, q4, q5⟩ := keep k7 (r5.trans (r6.trans r7))
                cases hk : keyOf false xk with
                | none => rw [hk] at eg; cases eg
                | some kx =>
                  rw [hk] at eg
                  dsimp only at eg
                  by_cases hz : kd.length < sizeLine
                  · rw [if_pos hz] at eg
                    have go : ∀ kc : Key, kx = kD kc → vk = kV kc → ∃ kvs k, vk = kV k ∧ H7 D = some (.dK kvs) ∧ kvs.length < sizeLine ∧ Pv (i + 1) (upd H7 D (.dK (putK kvs k vv'))) := fun kc ek ev => by
                      subst ek
                      subst hkd
                      obtain ⟨kk', vs', w1, w2, w3, w4⟩ := put_ok (q := keyEq) (emb := kD) keyEq_k kc rvv hlen q3
                      refine ⟨_, kc, ev, q1, by rw [List.length_zip, ← hlen, Nat.min_self]; simpa using hz, F7, _, _, _, kk', vs', q5.upd_other q2 nA, ?_, q2, by rw [upd_same, w1], w2, w3, w4, eg⟩
                      exact ⟨q4.f, fun a o n e => by
                        rw [upd_ne fun z => by rw [z, hD] at e; cases e]; exact q4.h a o n e, q4.n, fun a e => q4.t a (up_none e)⟩
                    cases xk with
                    | int j => cases hk; exact go (.inl j) rfl rvk.int_inv
                    | str z => cases hk; exact go (.inr z) rfl rvk.str_inv
                    | _ => cases hk
                  · rw [if_neg hz] at eg; cases eg
    · have ei : i = ds.length := by omega
      subst ei
      rw [show ds.drop ds.length = [] from List.drop_length] at eg
      unfold dcGo at eg
      cases eg
      have k5 := k1.rest hown r2.f k2
      exact .inl ⟨w.stops Hc (le_trans r2.f k2.le), p1 F2 Hc k5 r2 D fD (fun z => nA (k5.ownA z)) (r1.t D hD) ⟨kk, vv, hDc, hlen, hkd, rs⟩ (fun _ z => nomatch z)⟩
theorem dn_dc {kx vx tg iter : Expr} {ifs : List Expr} {scope : Scope} {own : List (Str × Nat)} {g : Dt → En → Option En} {sl : List Nat} {mt : Mi Bool} {mk mv : Mi Dt} (h : PE X (.DictComp kx vx [⟨tg, iter, ifs, 0⟩] scope pos) (tDc (TMi T π W ms) (TMg T π g sl) (TMt T π W0 mt) (TMe T π W0 mk) (TMe T π W0 mv) (own.map (·.2)))) (hsl : ∀ i ∈ sl, i ∈ own.map (·.2)) :
    PE X (.DictComp kx vx [⟨tg, iter, ifs, 0⟩] scope pos) (TMn T π W (mDc ms g mt mk mv (own.map (·.2)))) := h.imp fun σ H Q q => tdc_of hsl q
/-! ### max, min of two whole numbers -/
def fMax2 : Dt → Dt → Option Dt := fI fun i j => some (.int (if j > i then j else i))
def fMin2 : Dt → Dt → Option Dt := fI fun i j => some (.int (if j < i then j else i))
theorem de_mm2 {g : Int → Int → Int} (h : PE X e (tCB (fun xs H Q => ∃ i j, xs = [V.int i, V.int j] ∧ Q (.int (g i j)) H) (tCons (TMe T π W ma) (tCons (TMe T π W mb) tNil)))) : PE X e (TMe T π W (m2 (fI fun i j => some (.int (g i j))) ma mb)) := h.imp fun σ H Q ⟨A, F, ρ, k, p⟩ =>
  ⟨A, F, ρ, k, p.bind.imp fun x ρ1 F1 H1 k1 r1 p1 v rv => ⟨A, F1, ρ1, k1, p1.bind.imp fun y ρ2 F2 H2 k2 r2 p2 w rw => by
    obtain ⟨z, ez, p3⟩ := p2.opt
    obtain ⟨i, j, e1, e2, e3⟩ := fI_inv ez
    subst e1 e2
    cases e3
    exact ⟨i, j, by rw [rv.int_inv, rw.int_inv], p3.pure k2 _ (.int _)⟩⟩⟩
end
end Dl
namespace Dl
open PySem PySem.Spec PyProof.Rows L2
/-! ### {k: v for ..}, keys of either kind -/
section
variable {X : Cx} {T : Tx} {π : Nat → Option Pin} {W : WX} {a b c e o l : Expr} {es : List Expr} {pos p tpos : Pos} {m ma mb mc : Mi Dt} {ms : Mi (List Dt)} {A A' A0 : Addr → Prop} {F H F' H' F0 H0 : Hp} {σ : L2.St} {ρ : En} {tg : Expr}
/-! ### x in a list or tuple of data -/
def itemsD : Dt → Option (List Dt)
  | .lst xs => some xs
  | .tup xs => some xs
  | _ => none
def dIn (x d : Dt) : Option Bool := match toPy x, (itemsD d).bind toPys with
  | some p, some ps => if SeqAt.shaped p && decide (p.depth ≤ 60) && SeqAt.shaped (.list ps) then some (ps.any fun z => PyData.eqv z p) else none
  | _, _ => none
def fInA (x d : Dt) : Option Dt := (dIn x d).map .bl
/-! ### pop -/
theorem de_popAt {i : Nat} (hK : X.K = T.K) (h : PE X o (tBM X.K "list" rPopAt (tVar i) (tCons (TMe T π W m) tNil))) : PE X o (TMe T π W (ownLst i (mPopAt i m))) := h.imp fun σ H Q ⟨A, F, ρ, k, p⟩ => by
  unfold ownLst at p
  split at p
  · rename_i io ds e
    obtain ⟨a, h1, h2⟩ := own_first hK k e
    refine ⟨.ref a, h1, h2, A, F, ρ, k, p.bind.imp fun y ρ1 F1 H1 k1 r1 p1 v rv => ?_⟩
    obtain ⟨io1, ds1, r, es, a1, vs, e1, ef, s1, h3, h4, q⟩ := mMut_inv p1 k1
    rw [h1] at s1
    cases s1
    cases y with
    | int j =>
      dsimp only at ef
      by_cases hj : -(2 ^ 63) ≤ j ∧ j < 2 ^ 63
      · rw [if_pos hj] at ef
        cases hx : ixN ds1.length j with
        | none => rw [hx] at ef; cases ef
        | some kx =>
          rw [hx] at ef
          cases hy : ds1[kx]? with
          | none => rw [show ((some kx).bind fun q => (ds1[q]?).map fun y => (y, ds1.eraseIdx q)) = (ds1[kx]?).map fun y => (y, ds1.eraseIdx kx) from rfl, hy] at ef; cases ef
          | some d =>
            rw [show ((some kx).bind fun q => (ds1[q]?).map fun y => (y, ds1.eraseIdx q)) = (ds1[kx]?).map fun y => (y, ds1.eraseIdx kx) from rfl, hy] at ef
            cases ef
            obtain ⟨vy, e5, r5⟩ := h4.get hy
            refine ⟨a, vs, j, kx, vy, rfl, by rw [rv.int_inv], h3, hj.1, hj.2, by rw [h4.length]; exact (L2.ixN_seq hx).1, e5, q _ ?_ _ r5⟩
            have er : ∀ {vs : List V} {ds : List Dt} (n : Nat), Reps T F1 vs ds → Reps T F1 (vs.eraseIdx n) (ds.eraseIdx n) := by
              intro vs ds n rr
              rw [List.eraseIdx_eq_take_drop_succ, List.eraseIdx_eq_take_drop_succ]
              exact (rr.take n).append (rr.drop (n + 1))
            exact er kx h4
      · rw [if_neg hj] at ef; cases ef
    | _ => cases ef
  · exact p.elim
end
end Dl
namespace Dl
open PySem PySem.Spec PyProof.Rows L2
section
variable {X : Cx} {T : Tx} {π : Nat → Option Pin} {W : WX} {a b c e tg : Expr} {es : List Expr} {pos p p2 : Pos} {m ma mb mc : Mi Dt} {ms : Mi (List Dt)} {A A' : Addr → Prop} {F H F' H' F0 H0 : Hp} {σ : L2.St} {ρ : En} {i : Nat}
/-! ### slices -/
theorem _root_.L2.PO.imp {e : Option Expr} {t t' : TO} (h : PO X e t) (f : ∀ σ H Q, t' σ H Q → t σ H Q) : PO X e t' := ⟨fun pins s σ H Q I q => h.run pins s σ H Q I (f σ H Q q)⟩
/-! ### list(range(..)) -/
def rgD (a b : Int) : List Dt := (List.range (b - a).toNat).map fun i => Dt.int (a + (i : Nat))
theorem rg_reps (a b : Int) : Reps T F (rgV a b) (rgD a b) := by
  unfold rgV rgD
  generalize List.range (b - a).toNat = l
  induction l with
  | nil => exact .nil
  | cons x l ih => exact .cons (.int _) ih
instance (a b : Int) : Decidable (RgOk a b) := by unfold RgOk; exact inferInstance
def mLstRg (m : Mi Dt) : Mi Dt := mBind m fun d => match d with
  | .int n => if RgOk 0 n then mPure (.lst (rgD 0 n)) else mBad
  | _ => mBad
theorem dn_listRg (h : PE X e (tLstRg (tRg1 (TMe T π W m)))) : PE X e (TMn T π W (mLstRg m)) := h.imp fun σ H Q ⟨A, F, ρ, k, p⟩ => ⟨A, F, ρ, k, p.bind.imp fun d ρ1 F1 H1 k1 r1 p1 v rv => by
  cases d with
  | int n =>
    dsimp only at p1
    split at p1
    · rename_i hn
      exact ⟨n, rv.int_inv, hn, fun q hq => p1 F1 _ (k1.newO hq) (.newO hq) q (f_none k1.le hq) (k1.fresh_new hq) (r1.t q hq) ⟨_, upd_same, rg_reps _ _⟩ (fun _ z => nomatch z)⟩
    · exact p1.elim
  | _ => exact p1.elim⟩
/-! ### range(a, b, c) walked -/
/-! ### a < b < c as a value -/
/-! ### three names at once -/
theorem Gk.length {ks : List Bool} {vs : List V} {ds : List Dt} {as : List Addr} (g : Gk T F H A ks vs ds as) : vs.length = ks.length := by
  induction g with
  | nil => rfl
  | val _ _ ih => rw [List.length_cons, List.length_cons, ih]
  | own _ _ _ _ _ _ ih => rw [List.length_cons, List.length_cons, ih]
theorem Gk.mono {ks : List Bool} {vs : List V} {ds : List Dt} {as : List Addr} (g : Gk T F H A ks vs ds as) (hh : ∀ a o, H a = some o → H' a = some o) : Gk T F H' A ks vs ds as := by
  induction g with
  | nil => exact .nil
  | val r _ ih => exact .val r ih
  | own h1 h2 h3 h4 h5 _ ih =>
    have sm := h3.same fun o q => hh _ o q
    rw [← sm] at h5 ⊢
    exact .own h1 h2 (h3.mono (le_refl _) fun x _ o q => hh x o q) h4 h5 ih
/-! ### xs * n -/
theorem Reps.flat {vs : List V} {ds : List Dt} (r : Reps T F vs ds) : ∀ n, Reps T F (List.replicate n vs).flatten (List.replicate n ds).flatten
  | 0 => .nil
  | n + 1 => by
    rw [List.replicate_succ, List.replicate_succ, List.flatten_cons, List.flatten_cons]
    exact r.append (Reps.flat r n)
end
end Dl
namespace Dl
open PySem PySem.Spec PyProof.Rows L2
def ix_places : Nat → Option Nat
  | 0 => some 0
  | _ => none
def ix_rows : Nat → Option Nat
  | 0 => some 1
  | _ => none
def ix_text : Nat → Option Nat
  | 0 => some 2
  | _ => none
-- k02
def b_is_integer : En → So :=
  (sRet (mAndV (m1 (fIsi .int) (mPeek 0)) (mNotV (m1 (fIsi .bool) (mPeek 0)))))
def m_is_integer : List Dt → Fo := runF 1 false false b_is_integer
-- k02
def b_is_from : En → So :=
  (sRet (mAndV (mCall 1 m_is_integer (mCons (mVar 0) (mPure []))) (m2 fGe (mVar 0) (mPeek 1))))
def m_is_from : List Dt → Fo := runF 2 false false b_is_from
-- k02
def b_is_below : En → So :=
  (sRet (mAndV (mCall 2 m_is_from (mCons (mVar 0) (mCons (mPure (.int 0)) (mPure [])))) (m2 fLt (mVar 0) (mPeek 1))))
def m_is_below : List Dt → Fo := runF 2 false false b_is_below
-- k02
def b_is_sequence : En → So :=
  (sRet (m1 (fIsi2 .list .tuple) (mPeek 0)))
def m_is_sequence : List Dt → Fo := runF 1 false false b_is_sequence
-- k02
def b_is_unlike : En → So :=
  (sSeq (sIf (mOr (mNot (mB (mCall 1 m_is_sequence (mCons (mVar 0) (mPure []))))) (mNot (mB (m1 fAll (mLc (mSeqI (mVar 0)) (gV 2) (mPure true) (mCall 2 m_is_below (mCons (mVar 2) (mCons (mVar 1) (mPure [])))) [2]))))) (sRet (mPure (.bl false))) (fun ρ => .nx ρ))
  (sRet (m2 fEq (m1 fLen (mDc (mSeqI (mVar 0)) (gV 2) (mPure true) (mVar 2) (mPure (.bl true)) [2])) (m1 fLen (mPeek 0)))))
def m_is_unlike : List Dt → Fo := runF 3 false false b_is_unlike
-- k02
def b_is_row : En → So :=
  (sSeq (sIf (mOr (mNot (mB (m1 (fIsi .tuple) (mPeek 0)))) (mOr (mB (m2 fNe (m1 fLen (mPeek 0)) (mPure (.int 2)))) (mNot (mB (mCall 2 m_is_unlike (mCons (hasSl 0 (mIxV 0 (mPure (.int 0)))) (mCons (mVar 1) (mPure [])))))))) (sRet (mPure (.bl false))) (fun ρ => .nx ρ))
  (sRet (mAndV (mCall 2 m_is_unlike (mCons (hasSl 0 (mIxV 0 (mPure (.int 1)))) (mCons (mVar 1) (mPure [])))) (m2 fEq (m1 fLen (hasSl 0 (mIxV 0 (mPure (.int 1))))) (mPeek 1)))))
def m_is_row : List Dt → Fo := runF 2 false false b_is_row
-- k02
def b_text_of_rota : En → So :=
  (sSeq (sSet 2 (mJoined [(mPure (.str "places ")), (m1 fFmt (mVar 0))]))
  (sSeq (sFor (mSeqI (mVar 1)) (gT (gsC (gV 3) (gsC (gV 4) gsN)) 2) (sSeq (sSet 5 (mIfE (mB (m2 fGt (m1 fLen (mPeek 3)) (mPure (.int 0)))) (mJoin (mPure (.str " ")) (mLc (mSeqI (mVar 3)) (gV 7) (mPure true) (m1 fStr (mPeek 7)) [7])) (mPure (.str "none"))))
  (sSeq (sSet 6 (mJoin (mPure (.str " ")) (mLc (mSeqI (mVar 4)) (gV 7) (mPure true) (m1 fStr (mPeek 7)) [7])))
  (sSet 2 (mJoined [(m1 fFmt (mVar 2)), (mPure (.str "\nturn ")), (m1 fFmt (mVar 5)), (mPure (.str " move ")), (m1 fFmt (mVar 6))])))))
  (sRet (mVar 2))))
def m_text_of_rota : List Dt → Fo := runF 8 false false b_text_of_rota
-- k02
def b_Rota_init : En → So :=
  (sSeq (sIf (mNot (mB (mCall 2 m_is_from (mCons (mVar 1) (mCons (mPure (.int 1)) (mPure [])))))) (fun _ => .bad) (fun ρ => .nx ρ))
  (sSeq (sIf (mOr (mNot (mB (mCall 1 m_is_sequence (mCons (mVar 2) (mPure []))))) (mOr (mB (m2 fEq (m1 fLen (mPeek 2)) (mPure (.int 0)))) (mNot (mB (m1 fAll (mLc (mSeqI (mVar 2)) (gV 3) (mPure true) (mCall 2 m_is_row (mCons (mVar 3) (mCons (mVar 1) (mPure [])))) [3])))))) (fun _ => .bad) (fun ρ => .nx ρ))
  (sSeq (sFput 0 ix_places (mVar 1))
  (sSeq (sFput 0 ix_rows (m1 fTuple (mLc (mSeqI (mVar 2)) (gT (gsC (gV 4) (gsC (gV 5) gsN)) 2) (mPure true) (mTup (mCons (m1 fTuple (m1N fSorted (mLc (mSeqI (mVar 4)) (gV 6) (mPure true) (m1 fInt (mPeek 6)) [6]))) (mCons (m1 fTuple (mPeek 5)) (mPure [])))) [4, 5])))
  (sFput 0 ix_text (mCall 2 m_text_of_rota (mCons (m1 (fAttr ix_places) (mPeek 0)) (mCons (m1 (fAttr ix_rows) (mPeek 0)) (mPure [])))))))))
def m_Rota_init : List Dt → Fo := runF 7 true false b_Rota_init
-- k06
-- k06
-- k06
-- k06
-- k06
-- k08
-- k08
-- k08
-- k08
-- k12
-- k12
-- k12
-- k12
-- k12
-- k12
-- k12
-- k12
-- k12
-- k12
-- k12
-- k12
-- k12
-- k12
-- k28
-- k29
-- k29
-- k35
-- k35
-- k35
-- k40
-- k40
-- k51
-- k51
-- k51
-- k51
-- k52
-- k52
-- k52
-- k52
-- k52
-- k53
-- k56
-- k56
-- k56
-- k56
-- k56
-- k56
-- k57
-- k57
-- k57
-- k57
-- k59
-- k59
-- k59
-- k60
-- k60
-- k60
-- k60
-- k60
-- k60
-- k60
-- k60
-- k63
-- k63
-- k63
-- k66
-- k66
-- k66
-- k66
-- k66
-- k66
end Dl
namespace Dl
open PySem PySem.Spec PyProof.Rows L2
-- k01
def b_law_box : En → So :=
  (sSeq (sSet 3 (m2 fAdd (m2 fAdd (m2 fMulI (mPure (.int 7727)) (mPeek 1)) (m2 fMulI (mPure (.int 104729)) (mPeek 2))) (mPure (.int 43))))
  (sSeq (sIf (mB (m2 fLt (mVar 1) (m1 fLen (mPeek 0)))) (sSet 3 (m1 fAbs (hasSl 0 (mIxV 0 (mVar 1))))) (sIf (mB (m2 fGt (m1 fLen (mPeek 0)) (mPure (.int 0)))) (sSet 3 (m2 fAdd (mVar 3) (m2 fMulI (m2 fMod (m1 fInt (m1 fAbs (hasSl 0 (mIxV 0 (m2 fMod (m1 fInt (mPeek 1)) (m1 fLen (mPeek 0))))))) (mPure (.int 2147483629))) (mPure (.int 69623))))) (fun ρ => .nx ρ)))
  (sSeq (sSet 4 (m2 fAdd (m2 fMod (m1 fInt (m2 fAdd (m2 fMulI (m2 fMod (m1 fInt (mPeek 3)) (mPure (.int 2147483629))) (mPure (.int 48271))) (m2 fMulI (mPure (.int 40692)) (m2 fAdd (mVar 1) (m2 fMulI (mPure (.int 11)) (mPeek 2)))))) (mPure (.int 2147483629))) (mPure (.int 1))))
  (sRetN (mLst (mCons (m2 fIx (mLst (mCons (mPure (.int 0)) (mCons (mVar 3) (mPure [])))) (m1 fInt (m2 fGe (mVar 3) (m2 fPow (mPure (.int 10)) (mPure (.int 18)))))) (mCons (mVar 4) (mCons (mPure (.int 0)) (mPure [])))))))))
def m_law_box : List Dt → Fo := runF 5 false true b_law_box
-- k01
def b_law_take : En → So :=
  (sSeq (sIf (mB (m2 fGt (hasSl 0 (mIxV 0 (mPure (.int 0)))) (mPure (.int 0)))) (sSeq (sSet 2 (m2 fMod (m1 fInt (hasSl 0 (mIxV 0 (mPure (.int 0))))) (mPeek 1)))
  (sSeq (sLput 0 (mPure (.int 0)) (m2 fDiv (hasSl 0 (mIxV 0 (mPure (.int 0)))) (mPeek 1)))
  (sRet (mVar 2)))) (fun ρ => .nx ρ))
  (sSeq (sLput 0 (mPure (.int 2)) (m2 fAdd (hasSl 0 (mIxV 0 (mPure (.int 2)))) (mPure (.int 1))))
  (sSeq (sSet 3 (m2 fMod (m1 fInt (m2 fMulI (m2 fAdd (hasSl 0 (mIxV 0 (mPure (.int 1)))) (m2 fMulI (mPure (.int 104729)) (hasSl 0 (mIxV 0 (mPure (.int 2)))))) (mPure (.int 69623)))) (mPure (.int 2147483647))))
  (sSeq (sLput 0 (mPure (.int 1)) (m2 fAdd (m2 fMod (m1 fInt (m2 fAdd (m2 fMulI (mVar 3) (mPure (.int 48271))) (mPure (.int 30103)))) (mPure (.int 2147483629))) (mPure (.int 1))))
  (sSeq (sIf (mB (m2 fLt (mVar 1) (m2 fPow (mPure (.int 2)) (mPure (.int 40))))) (sRet (m2 fMod (m1 fInt (m2 fDiv (m2 fAdd (m2 fMulI (mVar 3) (mPure (.int 2147483647))) (hasSl 0 (mIxV 0 (mPure (.int 1))))) (mPure (.int 8191)))) (mPeek 1))) (fun ρ => .nx ρ))
  (sSeq (sSet 4 (m2 fMulI (m2 fAdd (m2 fMulI (mVar 3) (mPure (.int 2147483647))) (hasSl 0 (mIxV 0 (mPure (.int 1))))) (m2 fPow (mPure (.int 2147483629)) (mPure (.int 3)))))
  (sRet (m2 fMod (m1 fInt (m2 fAdd (m2 fAdd (mVar 4) (m2 fMulI (m2 fPow (hasSl 0 (mIxV 0 (mPure (.int 1)))) (mPure (.int 3))) (mPure (.int 8191)))) (mPeek 3))) (mPeek 1)))))))))
def m_law_take : List Dt → Fo := runF 5 true false b_law_take
-- k01
-- k01
-- k02
-- k02
def b_law_mixed : En → So :=
  (sSeq (sPars [2, 3] [true, true] (mCons (m1N fListN (mPeek 1)) (mCons (mLst (mPure [])) (mPure []))))
  (sSeq (sFor (mRng1 (mCons (m1 fLen (mPeek 2)) (mPure []))) (gV 4) (sDrop (ownLst 3 (mAppend 3 (ownLst 2 (mPopAt 2 (mCallIo 2 m_law_take 0 (mCons (m1 fLen (mPeek 2)) (mPure [])))))))))
  (sRet (mVar 3))))
def m_law_mixed : List Dt → Fo := runF 5 true false b_law_mixed
-- k02
def b_law_rota : En → So :=
  (sSeq (sPars [3, 4] [false, true] (mCons (m2 fAdd (mPure (.int 1)) (mCallIo 2 m_law_take 0 (mCons (mVar 1) (mPure [])))) (mCons (mLst (mPure [])) (mPure []))))
  (sSeq (sFor (mRng1 (mCons (m2 fAdd (mPure (.int 1)) (mCallIo 2 m_law_take 0 (mCons (mVar 2) (mPure [])))) (mPure []))) (gV 5) (sSeq (sSet 6 (mLstRg (mVar 3)))
  (sSeq (sSet 7 (mLc (mSeqI (mVar 6)) (gV 9) (mB (m2 fLt (mCallIo 2 m_law_take 0 (mCons (mPure (.int 5)) (mPure []))) (mPure (.int 2)))) (mVar 9) [9]))
  (sSeq (sSet 8 (mIfE (mB (m2 fGt (mCallIo 2 m_law_take 0 (mCons (mPure (.int 3)) (mPure []))) (mPure (.int 0)))) (mCallIo 2 m_law_mixed 0 (mCons (mVar 6) (mPure []))) (mVar 6)))
  (sDrop (ownLst 4 (mAppend 4 (mTup (mCons (mCallIo 2 m_law_mixed 0 (mCons (mVar 7) (mPure []))) (mCons (mVar 8) (mPure [])))))))))))
  (sRet (mTup (mCons (mVar 3) (mCons (mVar 4) (mPure [])))))))
def m_law_rota : List Dt → Fo := runF 10 true false b_law_rota
-- k02
def b_law_made : En → So :=
  (sRet (mMake 0 3 m_Rota_init (mCons (hasSl 0 (mIxV 0 (mPure (.int 0)))) (mCons (mLc (mSeqI (hasSl 0 (mIxV 0 (mPure (.int 1))))) (gT (gsC (gV 1) (gsC (gV 2) gsN)) 2) (mPure true) (mTup (mCons (m1 fTuple (mPeek 1)) (mCons (m1 fTuple (mPeek 2)) (mPure [])))) [1, 2]) (mPure [])))))
def m_law_made : List Dt → Fo := runF 3 false false b_law_made
-- k02
def b_law_text : En → So :=
  (sSeq (sSetN 1 (mLst (mCons (m2 fAdd (mPure (.str "places ")) (m1 fStr (hasSl 0 (mIxV 0 (mPure (.int 0)))))) (mPure []))))
  (sSeq (sFor (mSeqI (hasSl 0 (mIxV 0 (mPure (.int 1))))) (gT (gsC (gV 2) (gsC (gV 3) gsN)) 2) (sSeq (sSet 4 (mLc (mSeqI (m1N fSorted (mLc (mSeqI (mVar 2)) (gV 6) (mPure true) (m1 fInt (mPeek 6)) [6]))) (gV 6) (mPure true) (m1 fStr (mPeek 6)) [6]))
  (sSeq (sSet 5 (m2 fAdd (m2 fAdd (mLst (mCons (mPure (.str "turn")) (mPure []))) (mIfE (mB (m2 fNe (mVar 4) (mLst (mPure [])))) (mVar 4) (mLst (mCons (mPure (.str "none")) (mPure []))))) (mLst (mCons (mPure (.str "move")) (mPure [])))))
  (sDrop (ownLst 1 (mAppend 1 (mJoin (mPure (.str " ")) (m2 fAdd (mVar 5) (mLc (mSeqI (mVar 3)) (gV 6) (mPure true) (m1 fStr (mPeek 6)) [6])))))))))
  (sRet (mJoin (mPure (.str "\n")) (mPeek 1)))))
-- k06
-- k15
-- k15
-- k18
-- k67
-- k67
-- k67
-- k67
-- k67
end Dl
namespace Dl
open PySem PySem.Spec PyProof.Rows L2
section
variable {X : Cx} {T : Tx} {π : Nat → Option Pin} {W : WX} {a b c e tg : Expr} {es : List Expr} {pos p p2 : Pos} {m ma mb mc : Mi Dt} {ms : Mi (List Dt)} {A A' : Addr → Prop} {F H F' H' F0 H0 : Hp} {σ : L2.St} {ρ : En} {i : Nat}
/-! ### specials of own classes -/
abbrev noX : XK := fun _ _ _ => False
/-- a def that raises nothing, called somewhere below -/
theorem run_sub {n : Nat} {f : Addr} {fd : FuncData} {ps : List Str} {sp : Sp} {A1 : Around} {pins : List (Addr × Obj)} {s : Shared} {Q : VK} {us : List Value} {vs : List V} (G : FnOk X.prog X.w X.K X.mg X.base (L2.CX X.prog X.w) n f fd ps sp) (hb : Binds X.K fd ps []) (sb : Sub X n A1)
    (I : Inv X pins σ H s) (r : Vals vs us) (h : sp vs H Q noX) : wpAny (model X.prog X.w) A1 (call (.ref f) us) (EP X pins σ Q) X.xe s := by
  have hl : us.length = ps.length := by rw [← r.length]; exact G.len _ _ _ _ h
  have b := hb s us I.kIn (by rw [List.append_nil]; exact hl)
  rw [List.append_nil] at b
  have e0 : Env0 X.prog X.w X.K X.mg X.base A1 X.stack s H := by
    have e := I.env0
    exact ⟨by rw [sb.fr]; exact e.frames, e.mod, e.bs, e.bsz, e.funs, e.frf, e.hok, e.bare⟩
  refine wpAny_call (codeAny_mono (G.run A1 X.stack s H ⟨us, []⟩ us vs Q noX sb.room e0 b r h) fun r s' hq => ?_)
  cases r with
  | error e =>
    obtain ⟨_, _, _, _, _, _, _, _, _, _, _, _, z⟩ := hq
    exact z.elim
  | ok fl =>
    cases fl with
    | ret u => exact I.after hq
    | next => exact False.elim hq
    | brk => exact False.elim hq
    | cont => exact False.elim hq
/-- what an own special of one argument gives -/
def fOwn1 (c : Nat) (fm : List Dt → Fo) (ok : Dt → Bool) (d : Dt) : Option Dt := match d with
  | .ins c' _ => if c' = c then (match fm [d] with | .ret z _ => if ok z = true then some z else none | _ => none) else none
  | _ => none
def rOwn (C : Addr) (sp : Sp) (ok : V → Prop) : List V → Hp → VK → Prop := fun xs H Q => ∃ a dx fs, xs = [.ref a] ∧ H a = some (.ins C dx fs) ∧ sp [.ref a] H (fun v H' => ok v ∧ Q v H') noX
def okLen : Dt → Bool
  | .int n => decide (0 ≤ n) && decide (n < 4611686018427387904)
  | _ => false
def vLen (v : V) : Prop := ∃ n : Int, v = .int n ∧ 0 ≤ n ∧ n < 4611686018427387904
def okTxt : Dt → Bool
  | .str y => true
  | _ => false
def vTxt (v : V) : Prop := ∃ y, v = .str y
variable {n : Nat} {f C : Addr} {fd : FuncData} {ps : List Str} {sp : Sp}
theorem ins_at {pins : List (Addr × Obj)} {s : Shared} {a dx : Addr} {fs : List (Str × V)} (I : Inv X pins σ H s) (h : H a = some (.ins C dx fs)) : ∃ ox od, PySem.W.InstAt s.heap a ox C od := by
  obtain ⟨mA, J, _⟩ := ins_get I.hok h
  obtain ⟨od, J, _⟩ := J.look
  exact ⟨_, _, J⟩
theorem cr_lenO (G : FnOk X.prog X.w X.K X.mg X.base (L2.CX X.prog X.w) n f fd ps sp) (hb : Binds X.K fd ps []) (M : Meth X.K C "__len__" f) (hr : Room (n + 1) X.A) : CallR X (.builtin "len") (rOwn C sp vLen) := by
  intro pins s σ H xs us Q I r h
  obtain ⟨a, dx, fs, rfl, ha, hs⟩ := h
  obtain ⟨u, rfl, rx⟩ := vals1 r
  cases rx
  obtain ⟨ox, od, J⟩ := ins_at I ha
  obtain ⟨mm, hF⟩ := I.fr
  refine PySem.W.len_K hF I.ok.mod.kin J M.at_ M.fn (wpAny_mono (run_sub (vs := [.ref a]) G hb (Sub.in1 ⟨hr, rfl⟩) I (.cons rfl .nil) hs) (fun u s' q => ?_) fun _ _ x => x)
  obtain ⟨v, H', I', rv, ⟨k, rfl, h0, h1⟩, q⟩ := q
  obtain ⟨t, rfl⟩ := rv
  exact ⟨⟨h0, Int.lt_trans h1 (by decide)⟩, .int k, H', I'.tok _, ⟨_, rfl⟩, q⟩
theorem str_newIn {prog : Program} {w : World} {A : Around} {E : Value → Shared → Prop} {s : Shared} {v : Value} {Q : Value → Shared → Prop} (h : wpAny (model prog w) A.in1.in1 (Builtin.Str.strOf v) (fun r s' => s'.TypeIs r "str" ∧ Q r s') E s) : wpAny (model prog w) A (call (.type "str") [v]) Q E s :=
  callType_newIn PySem.F.called_str (by decide) (PySem.F.typeCall_str_1 _) (PySem.F.newCall_str_1 _) (fun obj => PySem.F.args_object_init_2 obj _) PySem.F.entry_str_new
    (S := fun A R s => wpAny (model prog w) A.in1 (Builtin.Str.strOf v) (fun r s' => R (.ok (.ret r)) s') (fun e s' => R (.error e) s') s)
    (.of_wp fun A R s h => by
      rw [str_new_tree v]
      refine wpAny_bind (wpAny_pure ?_)
      refine wpAny_bind (wpAny_of_eq isSubtype_str_str ?_)
      exact wpAny_bind (wpAny_mono h (fun r s' h' => wpAny_pure ⟨_, rfl, h'⟩) fun _ _ e => e)) h
theorem strOf_K {prog : Program} {w : World} {A : Around} {E : Value → Shared → Prop} {s : Shared} {K : PySem.W.Frag} {x C L f : Addr} {h₀ : Heap} {m : Str → Option Value} {ox : Obj} {od : Option Obj} {Q : Value → Shared → Prop} (hu : A.units < cLine) (F : PyProof.Rows.Fr h₀ L s.heap m) (X₀ : K.In h₀) (I : PySem.W.InstAt s.heap x ox C od) (hs : PySem.W.findIn K (.ref C) "__str__" = some (some (.ref f))) (hf : PySem.W.isFn K (.ref f) = true)
    (h : wpAny (model prog w) A (call (.ref f) [.ref x]) (PySem.W.StrBack Q) E s) : wpAny (model prog w) A (Builtin.Str.strOf (.ref x)) Q E s := by
  unfold Builtin.Str.strOf
  refine wpAny_bind (wpAny_cRoomFor hu ?_)
  refine wpAny_bind (m := callSpecial? (.ref x) (Str.ofString "__str__")) (PySem.W.special_fn (X₀.keeps F.keep) I hs (beq_iff_eq.mp hf) (wpAny_mono h (fun r s' hr => ?_) fun _ _ y => y))
  cases r <;> first | exact hr.elim | skip
  exact wpAny_pure hr
theorem cr_strO (G : FnOk X.prog X.w X.K X.mg X.base (L2.CX X.prog X.w) n f fd ps sp) (hb : Binds X.K fd ps []) (M : Meth X.K C "__str__" f) (hr : Room (n + 2) X.A) : CallR X (.type "str") (rOwn C sp vTxt) := by
  intro pins s σ H xs us Q I r h
  obtain ⟨a, dx, fs, rfl, ha, hs⟩ := h
  obtain ⟨u, rfl, rx⟩ := vals1 r
  cases rx
  obtain ⟨ox, od, J⟩ := ins_at I ha
  obtain ⟨mm, hF⟩ := I.fr
  have sb : Sub X n X.A.in1.in1 := Sub.in1 (Sub.in1 ⟨hr, rfl⟩)
  refine str_newIn (strOf_K sb.room.units0 hF I.ok.mod.kin J M.at_ M.fn (wpAny_mono (run_sub (vs := [.ref a]) G hb sb I (.cons rfl .nil) hs) (fun u s' q => ?_) fun _ _ x => x))
  obtain ⟨v, H', I', rv, ⟨k, rfl⟩, q⟩ := q
  obtain ⟨t, rfl⟩ := rv
  exact ⟨typeIs_str _ _ _, .str k, H', I', ⟨_, rfl⟩, q⟩
/-- one argument, kept -/
theorem de_own1 {c : Nat} {ns : List Str} {fm : List Dt → Fo} {ok : Dt → Bool} {vk : V → Prop} (h : PE X e (tCB (rOwn C (spM T 1 false false fm) vk) (tCons (TMe T π W m) tNil))) (hc : T.cl c = some (C, ns)) (hv : ∀ d v F, ok d = true → Rep T F v d → vk v) : PE X e (TMe T π W (m1 (fOwn1 c fm ok) m)) := h.imp fun σ H Q ⟨A, F, ρ, k, p⟩ => ⟨A, F, ρ, k, p.bind.imp fun d ρ1 F1 H1 k1 r1 p1 v rv => by
  obtain ⟨z, ez, p3⟩ := p1.opt
  unfold fOwn1 at ez
  split at ez
  · rename_i c' dv
    split at ez
    · rename_i hcc
      subst hcc
      split at ez
      · rename_i z' o' ef
        split at ez
        · rename_i ho
          cases ez
          obtain ⟨a, C', dx, ns', vs, e1, q1, q2, q3, q4⟩ := rv.s.ins_inv k1.le
          rw [hc] at q1
          cases q1
          subst e1
          refine ⟨a, dx, _, rfl, q2, F1, [.ins _ dv], none, rfl, k1.le, ⟨.cons rv .nil, rfl⟩, ?_⟩
          rw [ef]
          exact fun F' H' v' le fr _ rv' => ⟨hv _ _ _ ho rv', p3 F' H' (k1.called le fr) (fr.weak fun a ⟨_, z, _⟩ => nomatch z) v' rv'⟩
        · cases ez
      · cases ez
    · cases ez
  · cases ez⟩
theorem len_v (d : Dt) (v : V) (F : Hp) (h : okLen d = true) (r : Rep T F v d) : vLen v := by
  cases d <;> first | exact Bool.noConfusion h | skip
  unfold okLen at h
  rw [Bool.and_eq_true, decide_eq_true_iff, decide_eq_true_iff] at h
  exact ⟨_, r.int_inv, h.1, h.2⟩
theorem txt_v (d : Dt) (v : V) (F : Hp) (h : okTxt d = true) (r : Rep T F v d) : vTxt v := by
  cases d <;> first | exact Bool.noConfusion h | skip
  exact ⟨_, r.str_inv⟩
end
end Dl
namespace Dl
open PySem PySem.Spec PyProof.Rows L2
/-! ### sorted() of pairs of numbers -/
def PLe (a b : Int × Int) : Prop := a.1 < b.1 ∨ (a.1 = b.1 ∧ a.2 ≤ b.2)
instance (a b : Int × Int) : Decidable (PLe a b) := by unfold PLe; infer_instance
theorem PLe.refl (a : Int × Int) : PLe a a := .inr ⟨rfl, Int.le_refl _⟩
theorem PLe.trans {a b c : Int × Int} (h : PLe a b) (k : PLe b c) : PLe a c := by unfold PLe at *; omega
theorem PLe.anti {a b : Int × Int} (h : PLe a b) (k : PLe b a) : a = b := by
  obtain ⟨a1, a2⟩ := a
  obtain ⟨b1, b2⟩ := b
  unfold PLe at *
  dsimp only at *
  have e1 : a1 = b1 := by omega
  have e2 : a2 = b2 := by omega
  rw [e1, e2]
end Dl
namespace Dl
open PySem PySem.Spec PyProof.Rows L2
/-! ### return of what a slot holds alone -/
section
variable {X : Cx} {T : Tx} {π : Nat → Option Pin} {W : WX} {e : Expr} {m : Mi Dt} {A A' : Addr → Prop} {F H F1 H1 : Hp} {σ : L2.St} {ρ : En} {pos : Pos} {α : Type}
theorem Ok.drop (k : Ok T π A F H σ ρ) (i : Nat) : Ok T π A F H σ (ρ.set i none) := by
  have old : ∀ {j : Nat} {s : Sl}, (ρ.set i none)[j]? = some (some s) → ρ[j]? = some (some s) ∧ j ≠ i := fun {j s} h => by
    by_cases hj : i = j
    · subst hj
      rw [List.getElem?_set_self'] at h
      cases hq : ρ[i]? with
      | none => rw [hq] at h; cases h
      | some z => rw [hq] at h; cases h
    · rw [List.getElem?_set_ne hj] at h; exact ⟨h, fun z => hj z.symm⟩
  exact ⟨k.le, by rw [List.length_set]; exact k.len, fun j d h => k.val j d (old h).1, fun j io d h => k.own j io d (old h).1, fun j l io jo d e a b x h1 h2 => k.dis j l io jo d e a b x (old h1).1 (old h2).1⟩
theorem Post.base {P : α → En → Hp → Hp → Prop} {o : Ou α} (p : Post T π W σ A F H P o) (r : Fr A F H F1 H1) (h : ∀ a, A' a → A a) : Post T π W σ A' F1 H1 P o := by
  cases o with
  | ok a ρ' => exact fun F' H' k r' => p F' H' (k.weak h) (r.trans (r'.weak h))
  | exc x ρ' => exact fun F' H' c d k r' => p F' H' c d (k.weak h) (r.trans (r'.weak h))
  | bad => exact p
end
/-! ### {k: v}, the key a tuple -/
/-! ### sum of a tuple of ints -/
end Dl
namespace PySem
end PySem
namespace PySem
end PySem
namespace Dl
open PySem PySem.Spec PyProof.Rows L2
/-! ### pairs of small numbers have unlike hashes -/
def hP (i j : Int) : Int := reduceHash (Builtin.Tuple.tupleHashOf [hashInt i, hashInt j])
def hN (n : Nat) : Int := hP ((n / 8 : Nat) : Int) ((n % 8 : Nat) : Int)
end Dl
namespace PySem
open PyProof.Rows L2 PySem.W
end PySem
namespace Dl
open PySem PySem.Spec PyProof.Rows L2
section
variable {X : Cx} {T : Tx} {π : Nat → Option Pin} {W : WX} {e o : Expr} {m ma mk mv md : Mi Dt} {A : Addr → Prop} {F H : Hp} {σ : L2.St} {ρ : En} {i : Nat}
/-! ### x != [], x == [], x only looked at -/
theorem dt_nil {r : R2} {f : Dt → Dt → Option Dt} (h : PT X e (tTest (tOp r (TMp T π W ma) (tLst tNil)))) (hs : OpS T r f) : PT X e (TMt T π W (mB (m1 (fun d => f d (.lst [])) ma))) := h.imp fun σ H Q ⟨A, F, ρ, k, p⟩ => by
  have p' := p.bind
  refine ⟨A, F, ρ, k, p'.bind.imp fun x ρ1 F1 H1 k1 r1 p1 v rv => ⟨by decide, fun q hq => ?_⟩⟩
  obtain ⟨z, ez, p3⟩ := p1.opt
  have k2 := k1.newO (o := .lst []) hq
  have rv2 : RepS T F1 (upd H1 q (.lst [])) v x := rv.grow (le_refl _) fun a o e => le_new hq a o e
  have rq : RepS T F1 (upd H1 q (.lst [])) (.ref q) (.lst []) := .inr ⟨q, rfl, [], upd_same, .nil⟩
  refine hs π A F1 (upd H1 q (.lst [])) σ ρ1 v (.ref q) x (.lst []) z _ k2 rv2 rq ez fun F' H' u k' r' ru => ?_
  have p4 := p3 F' H' k' ((Fr.newO hq).trans r')
  cases z with
  | bl b => exact ⟨b, ru.bl_inv, p4 F' H' k' .refl⟩
  | _ => exact p4.elim
/-! ### xs.pop() -/
/-! ### d[k] -/
/-! ### {"a": x, ..} -/
end
end Dl
namespace Dl
open PySem PySem.Spec PyProof.Rows L2
-- k02
def b_Rota_len : En → So :=
  (sRet (m1 fLen (m1 (fAttr ix_rows) (mPeek 0))))
def m_Rota_len : List Dt → Fo := runF 1 false false b_Rota_len
-- k02
def b_Rota_str : En → So :=
  (sRet (m1 fFmt (m1 (fAttr ix_text) (mPeek 0))))
def m_Rota_str : List Dt → Fo := runF 1 false false b_Rota_str
-- k25
-- k25
-- k25
-- k26
-- k26
-- k26
-- k26
-- k26
-- k26
-- k26
-- k27
-- k27
-- k27
-- k27
-- k28
-- k28
-- k28
-- k29
-- k29
-- k29
-- k29
-- k29
-- k29
-- k29
-- k31
-- k32
-- k35
-- k35
-- k35
-- k35
-- k35
-- k35
-- k40
-- k40
-- k40
-- k40
-- k40
-- k40
-- k40
-- k40
-- k40
-- k66
-- k66
-- k66
-- k66
-- k66
-- k66
-- k66
-- k66
-- k66
-- k66
-- k66
-- k66
-- k66
end Dl
namespace Dl
open PySem PySem.Spec PyProof.Rows L2
-- k25
-- k25
-- k25
-- k25
-- k25
-- k25
def b_law_due : En → So :=
  (sSeq (sAsg (mVar 0) (gT (gsC (gV 2) (gsC (gV 3) gsN)) 2))
  (sSeq (sPars [4, 5] [false, true] (mCons (mLstRg (mVar 2)) (mCons (mLst (mPure [])) (mPure []))))
  (sSeq (sFor (mRng1 (mCons (mVar 1) (mPure []))) (gV 6) (sSeq (sAsg (hasSl 3 (mIxV 3 (m2 fMod (m1 fInt (mPeek 6)) (m1 fLen (mPeek 3))))) (gT (gsC (gV 7) (gsC (gV 8) gsN)) 2))
  (sSeq (sDrop (ownLst 5 (mExtend 5 (mLc (mRng1 (mCons (mVar 2) (mPure []))) (gV 9) (mB (m2 fInA (hasSl 4 (mIxV 4 (mVar 9))) (mPeek 7))) (mTup (mCons (mVar 6) (mCons (mVar 9) (mPure [])))) [9]))))
  (sSet 4 (mLc (mSeqI (mVar 4)) (gV 10) (mPure true) (hasSl 8 (mIxV 8 (mVar 10))) [10])))))
  (sRet (mVar 5)))))
def m_law_due : List Dt → Fo := runF 11 false false b_law_due
-- k25
-- k25
-- k25
-- k25
-- k25
-- k26
-- k26
-- k27
-- k43
-- k90
-- k90
-- k90
end Dl
namespace Dl
open PySem PySem.Spec PyProof.Rows L2
-- k02
def b_law_text_v2 : En → So :=
  (sSeq (sSetN 1 (mLst (mCons (m2 fAdd (mPure (.str "places ")) (m1 fStr (hasSl 0 (mIxV 0 (mPure (.int 0)))))) (mPure []))))
  (sSeq (sFor (mSeqI (hasSl 0 (mIxV 0 (mPure (.int 1))))) (gT (gsC (gV 2) (gsC (gV 3) gsN)) 2) (sSeq (sSet 4 (mLc (mSeqI (m1N fSorted (mLc (mSeqI (mVar 2)) (gV 6) (mPure true) (m1 fInt (mPeek 6)) [6]))) (gV 6) (mPure true) (m1 fStr (mPeek 6)) [6]))
  (sSeq (sSet 5 (m2 fAdd (m2 fAdd (mLst (mCons (mPure (.str "turn")) (mPure []))) (mIfE (mB (m1 (fun d => fNe d (.lst [])) (mPeek 4))) (mVar 4) (mLst (mCons (mPure (.str "none")) (mPure []))))) (mLst (mCons (mPure (.str "move")) (mPure [])))))
  (sDrop (ownLst 1 (mAppend 1 (mJoin (mPure (.str " ")) (m2 fAdd (mVar 5) (mLc (mSeqI (mVar 3)) (gV 6) (mPure true) (m1 fStr (mPeek 6)) [6])))))))))
  (sRet (mJoin (mPure (.str "\n")) (mPeek 1)))))
def m_law_text_v2 : List Dt → Fo := runF 7 false false b_law_text_v2
-- k51
-- k60
end Dl
namespace HNe
open PySem PySem.Spec PyProof.Rows PySem.SeqAt
section
variable {M : Model} {prog : Program} {w : World} {A : Around} {E : Value → Shared → Prop} {s : Shared} {K : PySem.W.Frag} {x C f L : Addr} {ox : Obj} {od : Option Obj} {b tb : Value} {h₀ : Heap} {m : Str → Option Value}
/-! ### != of own objects that have an __eq__ -/
def NotB (Q : Value → Shared → Prop) (v : Value) (s' : Shared) : Prop := ∃ r, v = .bool r ∧ Q (.bool (!r)) s'
theorem objNe_K {Q : Fin → Shared → Prop} (hu : A.units < cLine) (X : K.In s.heap) (I : PySem.W.InstAt s.heap x ox C od) (hs : PySem.W.findIn K (.ref C) "__eq__" = some (some (.ref f))) (hf : PySem.W.isFn K (.ref f) = true)
    (h : wpAny (model prog w) A (call (.ref f) [.ref x, b]) (fun v s' => ∃ r, v = .bool r ∧ Q (.done (.ret (.bool (!r)))) s') E s) :
    wpAny (model prog w) A (Builtin.«object.__ne__» ⟨[.ref x, b], []⟩) Q E s := by
  unfold Builtin.«object.__ne__»
  repeat (first
    | with_reducible refine wpAny_cRoomFor hu ?_
    | (refine wpAny_bind (m := callSpecialIfBound? (.ref x) (Str.ofString "__eq__") [b])
        (PySem.W.ifBound_K X I hs hf (wpAny_mono h (fun r s' hr => by
          obtain ⟨z, rfl, hq⟩ := hr
          repeat (first | exact hq | exact wpAny_pure hq | exact wpAny_truthy_bool hq | (refine wpAny_bind (m := truthy (.bool _)) (wpAny_truthy_bool ?_)) | wp_step)) fun _ _ e => e)))
    | wp_step)
theorem call_objNe {Q : Value → Shared → Prop} (hu : A.units + 1 < cLine) (X : K.In s.heap) (I : PySem.W.InstAt s.heap x ox C od) (hm : PySem.W.mroIn K C (.type "object") = some true) (hs : PySem.W.findIn K (.ref C) "__eq__" = some (some (.ref f))) (hf : PySem.W.isFn K (.ref f) = true)
    (h : wpAny (model prog w) A.in1 (call (.ref f) [.ref x, b]) (NotB Q) E s) :
    wpAny (model prog w) A (call (.builtin "object.__ne__") [.ref x, b]) Q E s :=
  wpAny_call (codeAny_call_builtin F.cmp_object.ne.plain F.cmpEntry_ne (PySem.W.check_slot F.cmpKind_ne F.cmpSplit_ne (I.type.andThen (PySem.W.looks_mroIn X hm)) (F.cmpArgs_ne _ _)
    (objNe_K (A := A.in1) hu X I hs hf (wpAny_mono h (fun v s' hv => hv) fun _ _ e => e))))
theorem ifBound_objNe {args : List Value} {Q : Option Value → Shared → Prop} (X : K.In s.heap) (I : PySem.W.InstAt s.heap x ox C od) (hs : PySem.W.findIn K (.ref C) "__ne__" = some (some (.builtin "object.__ne__")))
    (h : wpAny M A (call (.builtin "object.__ne__") (.ref x :: args)) (fun v => Q (some v)) E s) : wpAny M A (callSpecialIfBound? (.ref x) "__ne__" args) Q E s := by
  simp only [callSpecialIfBound?, bindSpecialIfBound?]
  refine wpAny_holding (wpAny_bind (wpAny_bind (wpAny_bind (I.type.here ((PySem.W.looks_findIn X hs).here ?_)))))
  refine wpAny_bind (wpAny_askSetting (wpAny_ite ?_))
  have fin : wpAny M A (call (.builtin "object.__ne__") ([.ref x] ++ args) >>= fun v => pure (some v)) Q E s := wpAny_bind (wpAny_mono h (fun v s' h' => wpAny_pure h') fun _ _ h' => h')
  split
  · exact wpAny_bind (wpAny_of_eq (F.cmp_object.ne.bind _) (wpAny_pure (by exact fin)))
  · exact wpAny_tryCatch (wpAny_bind (wpAny_of_eq (F.cmp_object.ne.bind _) (wpAny_pure (by exact fin))))
theorem ne_K {Q : Value → Shared → Prop} (hu : A.units + 1 < cLine) (F : Fr h₀ L s.heap m) (X₀ : K.In h₀) (I : PySem.W.InstAt s.heap x ox C od) (hb : PySem.W.Looks (model prog w) s.heap (typeOf b) tb) (hn : PySem.W.notFirst K C tb = true)
    (hm : PySem.W.mroIn K C (.type "object") = some true) (h1 : PySem.W.findIn K (.ref C) "__ne__" = some (some (.builtin "object.__ne__"))) (hs : PySem.W.findIn K (.ref C) "__eq__" = some (some (.ref f))) (hf : PySem.W.isFn K (.ref f) = true)
    (h : wpAny (model prog w) A.in1 (call (.ref f) [.ref x, b]) (NotB Q) E s) : wpAny (model prog w) A (richCompare .NotEq (.ref x) b) Q E s := by
  have X := X₀.keeps F.keep
  have one : wpAny (model prog w) A (tryCompare (.ref x) "__ne__" b) (fun r s' => ∃ v, r = some v ∧ Q v s') E s := by
    unfold tryCompare
    refine wpAny_bind (ifBound_objNe X I h1 (call_objNe hu X I hm hs hf (wpAny_mono h (fun v s' hv => ?_) fun _ _ e => e)))
    obtain ⟨r, rfl, hq⟩ := hv
    exact ⟨r, rfl, wpAny_pure ⟨_, rfl, hq⟩⟩
  unfold richCompare
  simp only [oneThing_ref, cmpInfo_NotEq]
  refine wpAny_holding (wpAny_bind (wpAny_cRoomFor (by omega) ?_))
  refine wpAny_bind (I.type.here (wpAny_bind (hb.here ?_)))
  split
  · rename_i q
    have e : PySem.W.subIn K tb (.ref C) = some false := by
      rcases Bool.or_eq_true_iff.mp hn with e | e
      · rw [beq_iff_eq.mp e] at q; simp at q
      · exact beq_iff_eq.mp e
    refine wpAny_bind ((PySem.W.looks_subIn X e).here ?_)
    simp only [Bool.false_eq_true, if_false]
    refine wpAny_bind (wpAny_mono one (fun r s' z => ?_) fun _ _ e => e)
    obtain ⟨v, rfl, hq⟩ := z
    exact wpAny_pure hq
  · refine wpAny_bind (wpAny_pure ?_)
    simp only [Bool.false_eq_true, if_false]
    refine wpAny_bind (wpAny_mono one (fun r s' z => ?_) fun _ _ e => e)
    obtain ⟨v, rfl, hq⟩ := z
    exact wpAny_pure hq
end
end HNe
namespace Dl
open PySem PySem.Spec PyProof.Rows L2
/-- x == y, x != y by an own __eq__ -/
def rOwnC (C : Addr) (sp : Sp) (neg : Bool) : R2 := fun x y H Q => ∃ a b dx dy fs gs, x = .ref a ∧ y = .ref b ∧ H a = some (.ins C dx fs) ∧ H b = some (.ins C dy gs) ∧ sp [x, y] H (fun v H' => ∃ r, v = .bl r ∧ Q (.bl (r != neg)) H') (fun _ _ _ => False)
section
variable {X : Cx} {T : Tx} {k : Nat} {C f : Addr} {fd : FuncData} {ps : List Str} {sp : Sp}
theorem own_call (G : FnOk X.prog X.w X.K X.mg X.base (L2.CX X.prog X.w) k f fd ps sp) (hb : Binds X.K fd ps []) {A : Around} (hr : Room k A) (hfr : A.frames = X.A.frames) {pins : List (Addr × Obj)} {s : Shared} {σ : L2.St} {H : Hp} {a b : Addr} {P : Bool → Hp → Prop} {R : Value → Shared → Prop} (I : Inv X pins σ H s) (hsp : sp [.ref a, .ref b] H (fun v H' => ∃ r, v = .bl r ∧ P r H') (fun _ _ _ => False))
    (hR : ∀ r s' H', Inv X pins σ H' s' → P r H' → R (.bool r) s') : wpAny (model X.prog X.w) A (call (.ref f) [.ref a, .ref b]) R X.xe s := by
  have e0 : Env0 X.prog X.w X.K X.mg X.base A X.stack s H := by
    have e := I.env0
    exact ⟨by rw [hfr]; exact e.frames, e.mod, e.bs, e.bsz, e.funs, e.frf, e.hok, e.bare⟩
  have hl := G.len _ _ _ _ hsp
  have r2 : Vals [V.ref a, V.ref b] [Value.ref a, Value.ref b] := .cons rfl (.cons rfl .nil)
  refine wpAny_call (codeAny_mono (G.run A X.stack s H ⟨[.ref a, .ref b], []⟩ [.ref a, .ref b] [.ref a, .ref b] _ _ hr e0 (by
    have := hb s [.ref a, .ref b] I.kIn (by simpa using hl)
    simpa using this) r2 hsp) fun r s' hq => ?_)
  cases r with
  | error e =>
    obtain ⟨_, _, _, _, _, _, _, _, _, _, _, _, z⟩ := hq
    exact z.elim
  | ok fl =>
    cases fl with
    | ret w =>
      obtain ⟨z, H', I', rz, r, rfl, q⟩ := I.after hq
      cases rz
      exact hR r s' H' I' q
    | next => exact False.elim hq
    | brk => exact False.elim hq
    | cont => exact False.elim hq
theorem op_ownEq (G : FnOk X.prog X.w X.K X.mg X.base (L2.CX X.prog X.w) k f fd ps sp) (hb : Binds X.K fd ps []) (hr : Room k X.A) (hs : PySem.W.findIn X.K (.ref C) "__eq__" = some (some (.ref f))) (hf : PySem.W.isFn X.K (.ref f) = true) : OpR X (compareOp .Eq) (rOwnC C sp false) := by
  intro pins s σ H x y v u Q I rx ry h
  obtain ⟨a, b, dx, dy, fs, gs, rfl, rfl, ha, hb', hsp⟩ := h
  cases rx
  cases ry
  obtain ⟨mA, J, _⟩ := ins_get I.hok ha
  obtain ⟨mB, J', _⟩ := ins_get I.hok hb'
  obtain ⟨od, J, _⟩ := J.look
  obtain ⟨od', J', _⟩ := J'.look
  obtain ⟨m, hF⟩ := I.fr
  refine PySem.W.cmp_K (op := .Eq) (tb := .ref C) hr.units0 hF I.ok.mod.kin J J'.type (by simp [PySem.W.notFirst]) hs hf ?_
  refine own_call (P := fun r H' => Q (.bl (r != false)) H') G hb hr rfl I hsp fun r s' H' I' q => ?_
  exact ⟨.bl r, H', I', rfl, by cases r <;> exact q⟩
theorem op_ownNe (G : FnOk X.prog X.w X.K X.mg X.base (L2.CX X.prog X.w) k f fd ps sp) (hb : Binds X.K fd ps []) (hr : Room (k + 1) X.A) (hm : PySem.W.mroIn X.K C (.type "object") = some true) (h1 : PySem.W.findIn X.K (.ref C) "__ne__" = some (some (.builtin "object.__ne__"))) (hs : PySem.W.findIn X.K (.ref C) "__eq__" = some (some (.ref f))) (hf : PySem.W.isFn X.K (.ref f) = true) : OpR X (compareOp .NotEq) (rOwnC C sp true) := by
  intro pins s σ H x y v u Q I rx ry h
  obtain ⟨a, b, dx, dy, fs, gs, rfl, rfl, ha, hb', hsp⟩ := h
  cases rx
  cases ry
  obtain ⟨mA, J, _⟩ := ins_get I.hok ha
  obtain ⟨mB, J', _⟩ := ins_get I.hok hb'
  obtain ⟨od, J, _⟩ := J.look
  obtain ⟨od', J', _⟩ := J'.look
  obtain ⟨m, hF⟩ := I.fr
  refine HNe.ne_K (tb := .ref C) (by have := hr.un; omega) hF I.ok.mod.kin J J'.type (by simp [PySem.W.notFirst]) hm h1 hs hf ?_
  refine own_call (P := fun r H' => Q (.bl (r != true)) H') G hb hr.in1 rfl I hsp fun r s' H' I' q => ?_
  exact ⟨r, rfl, .bl (!r), H', I', rfl, by cases r <;> exact q⟩
/-- what an own __eq__ gives -/
def fOwnC (c : Nat) (fm : List Dt → Fo) (neg : Bool) : Dt → Dt → Option Dt
  | .ins c1 x, .ins c2 y => if c1 = c ∧ c2 = c then (match fm [.ins c1 x, .ins c2 y] with | .ret (.bl r) _ => some (.bl (r != neg)) | _ => none) else none
  | _, _ => none
def OpK (T : Tx) (r : R2) (f : Dt → Dt → Option Dt) : Prop := ∀ (π : Nat → Option Pin) (A : Addr → Prop) (F H : Hp) (σ : L2.St) (ρ : En) (v w : V) (d e z : Dt) (Q : VK), Ok T π A F H σ ρ → Rep T F v d → Rep T F w e → f d e = some z →
  (∀ F' H' u, Ok T π A F' H' σ ρ → Fr A F H F' H' → Rep T F' u z → Q u H') → r v w H Q
theorem os_own {c : Nat} {ns : List Str} {fm : List Dt → Fo} (neg : Bool) (hc : T.cl c = some (C, ns)) : OpK T (rOwnC C (spM T 2 false false fm) neg) (fOwnC c fm neg) := fun π A F H σ ρ v w d e z Q k rv rw' ez q => by
  unfold fOwnC at ez
  split at ez
  · rename_i c1 x c2 y
    split at ez
    · rename_i hcc
      obtain ⟨rfl, rfl⟩ := hcc
      split at ez
      · rename_i r o hfm
        cases ez
        obtain ⟨a, C1, dx, ns1, vs, e1, q1, q2, q3, q4⟩ := rv.s.ins_inv k.le
        obtain ⟨b, C2, dy, ns2, ws, e2, p1, p2, p3, p4⟩ := rw'.s.ins_inv k.le
        rw [hc] at q1 p1
        cases q1
        cases p1
        refine ⟨a, b, dx, dy, _, _, e1, e2, q2, p2, F, _, none, rfl, k.le, ⟨.cons rv (.cons rw' .nil), rfl⟩, ?_⟩
        rw [hfm]
        exact fun F' H' u le fr _ ru => ⟨r, Rep.bl_inv ru, q F' H' _ (k.called le fr) (fr.weak fun a ⟨_, z, _⟩ => nomatch z) (.bl _)⟩
      · cases ez
    · cases ez
  · cases ez
theorem de_cmpO {W : WX} {π : Nat → Option Pin} {a b : Expr} {pos : Pos} {ma mb : Mi Dt} {op : CmpOp} {r : R2} {g : Dt → Dt → Option Dt} (ho : OpR X (compareOp op) r) (hs : OpK T r g) (ha : PE X a (TMe T π W ma)) (hb : PE X b (TMe T π W mb)) (hm : behindInMarks op b = false) : PE X (.Compare a [op] [b] pos) (TMe T π W (m2 g ma mb)) :=
  (pe_cmpR ho ha hb hm).imp fun σ H Q ⟨A, F, ρ, k, p⟩ =>
  ⟨A, F, ρ, k, p.bind.imp fun x ρ1 F1 H1 k1 r1 p1 v rv => ⟨A, F1, ρ1, k1, p1.bind.imp fun y ρ2 F2 H2 k2 r2 p2 w rw => by
    obtain ⟨z, e, p3⟩ := p2.opt
    exact hs π A F2 H2 σ ρ2 v w x y z Q k2 (rv.mono r2.f) rw e fun F' H' u k' r' ru => p3 F' H' k' r' u ru⟩⟩
theorem dt_cmpO {W : WX} {π : Nat → Option Pin} {a b : Expr} {pos : Pos} {ma mb : Mi Dt} {op : CmpOp} {r : R2} {g : Dt → Dt → Option Dt} (ho : OpR X (compareOp op) r) (hs : OpK T r g) (ha : PE X a (TMe T π W ma)) (hb : PE X b (TMe T π W mb)) (hm : behindInMarks op b = false) : PT X (.Compare a [op] [b] pos) (TMt T π W (mB (m2 g ma mb))) :=
  (pt_cmpR ho ha hb hm).imp fun σ H Q ⟨A, F, ρ, k, p⟩ =>
  ⟨A, F, ρ, k, p.bind.bind.imp fun x ρ1 F1 H1 k1 r1 p1 v rv => ⟨A, F1, ρ1, k1, p1.bind.imp fun y ρ2 F2 H2 k2 r2 p2 w rw => by
    obtain ⟨z, e, p3⟩ := p2.opt
    refine hs π A F2 H2 σ ρ2 v w x y z _ k2 (rv.mono r2.f) rw e fun F' H' u k' r' ru => ?_
    have p4 := p3 F' H' k' r'
    cases z with
    | bl b => exact ⟨b, ru.bl_inv, p4 F' H' k' .refl⟩
    | _ => exact p4.elim⟩⟩
/-- isinstance(x, C) of an object of C -/
def fIsC (c : Nat) : Dt → Option Dt
  | .ins c' _ => if c' = c then some (.bl true) else none
  | _ => none
end
end Dl
namespace Dl
open PySem PySem.Spec PyProof.Rows L2
-- k88
def b_Rota_eq : En → So :=
  (sRet (mAndV (m1 (fIsC 0) (mPeek 1)) (m2 fEq (m1 (fAttr ix_text) (mPeek 0)) (m1 (fAttr ix_text) (mPeek 1)))))
def m_Rota_eq : List Dt → Fo := runF 2 false false b_Rota_eq
-- k88
end Dl
namespace Dl
open PySem PySem.Spec PyProof.Rows L2
/-! ### a def that is entered where no repr is under way -/
structure FnG (P : Program) (w : World) (K : PySem.W.Frag) (mg : Str → Option Value) (base : Heap) (C : CXT) (k : Nat) (f : Addr) (fd : FuncData) (ps : List Str) (sp : Sp) : Prop where
  ln : ∀ xs H R E, sp xs H R E → xs.length = ps.length
  go : ∀ (A : Around) (st : List Env) (s : Shared) (H : Hp) (ar : Args) (us : List Value) (xs : List V) (R : VK) (E : XK), Room k A → A.guards = some [] → Env0 P w K mg base A st s H → BindsTo s fd ar (ps.zip us) → Vals xs us → sp xs H R E → codeAny (model P w) A (.call (.ref f) ar) (CR C st P w H s R E) s
theorem FnG.imp {P : Program} {w : World} {K : PySem.W.Frag} {mg : Str → Option Value} {base : Heap} {C : CXT} {k : Nat} {f : Addr} {fd : FuncData} {ps : List Str} {sp sq : Sp} (G : FnG P w K mg base C k f fd ps sp)
    (h : ∀ xs H R E, sq xs H R E → sp xs H R E) : FnG P w K mg base C k f fd ps sq :=
  ⟨fun xs H R E q => G.ln xs H R E (h _ _ _ _ q), fun A st s H ar us xs R E hr hg he hb hv hs => G.go A st s H ar us xs R E hr hg he hb hv (h _ _ _ _ hs)⟩
theorem fnG_of {C : CXT} {P : Program} {w : World} {K : PySem.W.Frag} {mg : Str → Option Value} {base : Heap} {k : Nat} {f : Addr} {nm qu : Str} {pa : Arguments} {bo : List Stmt} {sc : Scope} {dV kV doc pm cdv ct oc : Value} {an od : Option Addr} {osl : Array (Option Value)} {N ps : List Str} {sp : Sp}
    (lk : K.lookup f = some ⟨oc, od, .func (PySem.W.fnOf nm qu pa bo sc dV kV doc pm an cdv ct), osl⟩) (hcd : PySem.W.codeIn K cdv qu = true) (S : FnScope N ps sc) (ln : ∀ xs H R E, sp xs H R E → xs.length = ps.length)
    (hbo : ∀ (A : Around) (st : List Env) (s : Shared) (H : Hp) (xs : List V) (R : VK) (E : XK), Room k (A.deeper (envOfC qu sc s.heap.objs.size f cdv)) → (A.deeper (envOfC qu sc s.heap.objs.size f cdv)).guards = some [] → sp xs H R E →
      ∃ t, PSs (cxOf C P w K mg base N qu sc f cdv A st s H E) bo t ∧ t { nx := fun _ H' => R .non H', rt := R } (start N xs) H) : FnG P w K mg base C (k + 1) f (PySem.W.fnOf nm qu pa bo sc dV kV doc pm an cdv ct) ps sp := by
  refine ⟨ln, fun A st s H ar us xs R E hr hg e0 hb r hs => ?_⟩
  have hl := ln _ _ _ _ hs
  have KX : K.In s.heap := e0.mod.kin.keeps (fun b o e => (e0.bs b o e).1)
  have lim : s.heap.NoLimit := e0.mod.nolimit.keeps (fun b o e => (e0.bs b o e).1)
  have kinds : ∀ y ∈ ps.zip us, sc.names.lookup y.1 = some .local ∨ (sc.names.lookup y.1 = some .cell ∧ ((cellsFrom (s.heap.objs.size + 1) sc.names []).lookup y.1).isSome = true) := by
    rintro ⟨n, v⟩ hy
    rcases S.par n (List.of_mem_zip hy).1 with q | q
    · exact .inl q
    · exact .inr ⟨q, PySem.W.cellsFrom_some _ _ _ (.inl q)⟩
  refine codeAny_call_function hr.depth (KX _ _ lk) rfl S.co S.gen rfl (PySem.W.codeRec_of KX hcd) (hb _ _ _ _ (wpAny_newFunctionEnv_cells S.kind kinds fun env he s1 x => ?_))
  subst he
  refine ⟨lim.keeps x.toInCall.keep, codeAny_func ?_⟩
  obtain ⟨t, ht, hq⟩ := hbo A st s H xs R E (hr.deeper _) hg hs
  have I : Inv (cxOf C P w K mg base N qu sc f cdv A st s H E) [] (start N xs) H s1 := inv_start S hr.hd e0 hl r x
  refine wpAny_mono (ht.run [] s1 (start N xs) H _ I hq) (fun fl s' z => ?_) fun _ _ z => z
  have fin : ∀ {σ' : L2.St} {H' : Hp} {v : V} {u : Value}, Inv (cxOf C P w K mg base N qu sc f cdv A st s H E) [] σ' H' s' → RelV v u → R v H' → CE st P w H s R u s' :=
    fun {σ' H' v u} J rv q => ⟨v, H', J.os, J.bare, J.base, J.hok, rv, q⟩
  cases fl with
  | ret u => exact let ⟨v, σ', H', J, rv, q⟩ := z; fin J rv q
  | next => exact let ⟨σ', H', J, q⟩ := z; fin (v := V.non) (u := Value.none) J rfl q
  | brk => exact let ⟨_, _, _, q⟩ := z; q.elim
  | cont => exact let ⟨_, _, _, q⟩ := z; q.elim
theorem FunG.okX {P : Program} {w : World} {K : PySem.W.Frag} {mg : Str → Option Value} {base : Heap} {x qual : Str} {st : Stmt} {f : Addr} {fd : FuncData} {N ps : List Str} {k : Nat} {sp : Sp} (F : Fun K x qual st f fd) (S : FnScope N ps (defScope st)) (ln : ∀ vs H Q E, sp vs H Q E → vs.length = ps.length)
    (hbo : ∀ (cdv : Value) (A : Around) (out : List Env) (s : Shared) (H : Hp) (xs : List V) (R : VK) (E : XK), Room k (A.deeper (envOfC qual (defScope st) s.heap.objs.size f cdv)) → (A.deeper (envOfC qual (defScope st) s.heap.objs.size f cdv)).guards = some [] → sp xs H R E →
      ∃ t, PSs (cxOf (L2.CX P w) P w K mg base N qual (defScope st) f cdv A out s H E) (defBody st) t ∧ t { nx := fun _ H' => R .non H', rt := R } (start N xs) H) : FnG P w K mg base (L2.CX P w) (k + 1) f fd ps sp := by
  obtain ⟨oc, od, kV, doc, pm, an, cdv, ct, osl, rfl, lk, hcd⟩ := F.ex
  exact fnG_of lk hcd S ln fun A out s H xs R E hr hg hs => hbo cdv A out s H xs R E hr hg hs
section
variable {P : Program} {w : World} {K : PySem.W.Frag} {mg : Str → Option Value} {base : Heap}
/-- as fun_ok2 -/
theorem fun_okG {x qual : Str} {st : Stmt} {f : Addr} {fd : FuncData} {N ps : List Str} {k n : Nat} {cl : Nat → Option (Addr × List Str)} {io rn : Bool} {body : En → So} {fm : List Dt → Fo} (F : Fun K x qual st f fd) (S : FnScope N ps (defScope st)) (hN : ps.length ≤ N.length) (hn : n = ps.length) (hm : fm = runF N.length io rn body)
    (hb : ∀ (cdv : Value) (A : Around) (outer : List Env) (s : Shared) (H : Hp) (E : XK) (π : Nat → Option Pin), Room k (A.deeper (envOfC qual (defScope st) s.heap.objs.size f cdv)) → (A.deeper (envOfC qual (defScope st) s.heap.objs.size f cdv)).guards = some [] →
      PSs (cxOf (L2.CX P w) P w K mg base N qual (defScope st) f cdv A outer s H E) (defBody st) (TMs ⟨K, cl⟩ π (fun cls d _ H => E cls d H) body)) :
    FnG P w K mg base (L2.CX P w) (k + 1) f fd ps (spM ⟨K, cl⟩ n io rn fm) := by
  subst hn hm
  refine FunG.okX F S (fun vs H Q E h => ?_) (fun cdv A outer s H vs Q E hr hg h => ?_)
  · obtain ⟨F, ds, π0, hl, _⟩ := h
    exact hl
  · obtain ⟨F0, ds, π0, hl, le, ha, q⟩ := h
    refine ⟨_, hb cdv A outer s H E (pi0 π0) hr hg, _, F0, H, F0, _, ok_start (by rw [hl]; exact hN) le ha, ?_⟩
    unfold runF at q
    cases eb : body (argE io ds ++ List.replicate (N.length - ds.length) none) with
    | nx ρ =>
      rw [eb] at q
      dsimp only at q
      cases eo : ioOut io ρ with
      | none => rw [eo] at q; exact q.elim
      | some o =>
        rw [eo] at q
        cases rn with
        | true => exact q.elim
        | false => exact fun σ' F' H' k' => q F' H' .non k'.ok.le k'.fr (io_end ha k' eo) .non
    | rt d ρ =>
      rw [eb] at q
      dsimp only at q
      cases eo : ioOut io ρ with
      | none => rw [eo] at q; exact q.elim
      | some o =>
        rw [eo] at q
        cases rn with
        | true => exact q.elim
        | false => exact fun σ' F' H' v k' rv => q F' H' v k'.ok.le k'.fr (io_end ha k' eo) rv
    | rtN d ρ =>
      rw [eb] at q
      dsimp only at q
      cases eo : ioOut io ρ with
      | none => rw [eo] at q; exact q.elim
      | some o =>
        rw [eo] at q
        cases rn with
        | false => exact q.elim
        | true => exact fun σ' F' H' p k' h1 h2 h3 h4 h5 => q F' H' (.ref p) k'.ok.le k'.fr (io_end ha k' eo) ⟨p, rfl, h1, rtn_new ha k' eo h2 h3, h4, fun y hy => ⟨(h5 y hy).1, rtn_new ha k' eo (h5 y hy).2.1 (h5 y hy).2.2⟩⟩
    | exc x ρ =>
      rw [eb] at q
      dsimp only at q
      cases eo : ioOut io ρ with
      | none => rw [eo] at q; exact q.elim
      | some o =>
        rw [eo] at q
        exact fun σ' F' H' c d k' rx => q F' H' c d k'.ok.le k'.fr (io_end ha k' eo) rx
    | bk ρ => rw [eb] at q; exact q.elim
    | ct ρ => rw [eb] at q; exact q.elim
    | bad => rw [eb] at q; exact q.elim
end
/-! ### repr() of data -/
section
variable {X : Cx} {T : Tx} {F H : Hp}
/-- what can be shown -/
def shOk (p : PyData) : Bool := p.showable && (!p.hasDict && (decide (p.depth ≤ 40) && decide (p.shown.length ≤ sizeLine)))
def rReprP (K : PySem.W.Frag) : List V → Hp → VK → Prop := fun xs H Q => ∃ x p, xs = [x] ∧ Dp K H x p ∧ shOk p = true ∧ Q (.str p.shown) H
theorem cr_reprP (hg : X.A.guards = some []) {k : Nat} (hr : Room k X.A) : CallR X (.builtin "repr") (rReprP X.K) := by
  intro pins s σ H xs us Q I r h
  obtain ⟨x, p, rfl, hd, hp, q⟩ := h
  obtain ⟨u, rfl, rx⟩ := vals1 r
  unfold shOk at hp
  simp only [Bool.and_eq_true, Bool.not_eq_true', decide_eq_true_eq] at hp
  obtain ⟨h1, h2, h3, h4⟩ := hp
  have hu := hr.un
  obtain ⟨as, hR⟩ := Dp.reads I p x u hd rx
  cases hR with
  | none => exact PySem.P.repr_of_none ⟨.str _, H, I.tok _, ⟨_, rfl⟩, by simp only [PyData.shown] at q; exact q⟩
  | bool b => exact PySem.P.repr_of_bool ⟨.str _, H, I.tok _, ⟨_, rfl⟩, by simp only [PyData.shown] at q; exact q⟩
  | int i t => exact SkE.call_repr_int (X := X) pins s σ H [.int i] _ Q I (.cons ⟨t, rfl⟩ .nil) ⟨i, rfl, by simpa [PyData.showable] using h1, by simp only [PyData.shown] at q; exact q⟩
  | str y t => exact PySem.P.repr_of_str ⟨.str _, H, I.tok _, ⟨_, rfl⟩, by simp only [PyData.shown] at q; exact q⟩ (by simpa only [PyData.shown] using h4)
  | list a1 a2 a3 a4 => exact repr_of_reads' (.list a1 a2 a3 a4) h1 (PyData.noDict_hsm h2) hg (by omega) (fun _ _ e => e) (fun h' u tk hk => ⟨.str _, H, I.kept hk, ⟨_, rfl⟩, q⟩) h4
  | tuple a1 a2 a3 a4 => exact repr_of_reads' (.tuple a1 a2 a3 a4) h1 (PyData.noDict_hsm h2) hg (by omega) (fun _ _ e => e) (fun h' u tk hk => ⟨.str _, H, I.kept hk, ⟨_, rfl⟩, q⟩) h4
  | dict a1 a2 a3 a4 a5 => exact absurd h2 (by simp [PyData.hasDict])
def fReprD (d : Dt) : Option Dt := match toPy d with
  | some p => if shOk p = true then some (.str p.shown) else none
  | none => none
theorem cs_reprD : CaS T (rReprP T.K) fReprD := uns_pure fun F H v d z Q le rv ef q => by
  unfold fReprD at ef
  split at ef
  · rename_i p e
    split at ef
    · rename_i hp
      cases ef
      exact ⟨v, p, rfl, dp_ofS le rv e, hp, q _ (.str _)⟩
    · cases ef
  · cases ef
end
/-! ### the law is called -/
theorem callG {P : Program} {w : World} {K : PySem.W.Frag} {mg mb : Str → Option Value} {C : CXT} {k : Nat} {f a : Addr} {fd : FuncData} {x : Str} {sp : Sp} {t : Shared} {its : List Value} {ns : List Int}
    (KX : K.In t.heap) (hns : t.heap.Ns mainGlobals mg) (hb : t.heap.Ns builtinsNs mb) (hbb : ∀ x : Str, x ≠ "__name__" → mb x = bootBuiltins x) (hlim : t.heap.NoLimit) (hg : t.gens = #[]) (ha : t.heap.get? a = some { cls := .type "list", data := .seq its.toArray }) (hi : IntsAre its ns) (hl : ns.length ≤ sizeLine) (hr : Room k callerA)
    (G : ∀ base : Heap, K.In base → base.Ns mainGlobals mg → FnG P w K mg base C k f fd [x] sp) (hbind : ∀ (s : Shared) (u : Value), BindsTo s fd ⟨[u], []⟩ [(x, u)])
    (hsp : ∀ H : Hp, Only H → SqL K H a (ns.map V.int) → sp [.ref a] H (fun v _ => v = .bl true) fun _ _ _ => False) (hC : ∀ H e s', C [] H t (fun _ _ _ => False) e s' → False) :
    codeAny (model P w) callerA (.call (.ref f) ⟨[.ref a], []⟩) (fun r s' => r = .ok (.ret (.bool true)) ∧ OldK t.heap s'.heap ∧ s'.os = t.os ∧ AllBare s'.gens) t := by
  have rv := vals_ints hi
  have hlen := hi.length
  have main : ∀ H : Hp, Only H → SqL K H a (ns.map V.int) → HOk P w H t.heap → (∀ b, H b ≠ none → b = a) → (H a ≠ none → K.lookup a = none) → codeAny (model P w) callerA (.call (.ref f) ⟨[.ref a], []⟩) (fun r s' => r = .ok (.ret (.bool true)) ∧ OldK t.heap s'.heap ∧ s'.os = t.os ∧ AllBare s'.gens) t := by
    intro H hO hS hok hA hK
    have at_a : ∀ {b : Addr} {u : HO}, H b = some u → b = a := fun {b u} q => hA b (by rw [q]; exact fun z => nomatch z)
    have low : ∀ {b : Addr} {o : Obj}, t.heap.get? b = some o → H b = none → (hidT t.heap H).get? b = some o := fun e n => hidT_get e n
    have nod : ∀ {b : Addr} {o : Obj} {es : Array DictEntry} {ep : Nat}, t.heap.get? b = some o → o.data = .dict es ep → H b = none := by
      intro b o es ep e d
      cases q : H b with
      | none => rfl
      | some u =>
        cases at_a q
        rw [ha] at e
        cases e
        cases (show Data.seq its.toArray _ = Data.dict es ep from d)
    have ns' : ∀ {b : Addr} {m : Str → Option Value}, t.heap.Ns b m → (hidT t.heap H).Ns b m := by
      rintro b m ⟨o, es, ep, e, d, r⟩
      exact ⟨o, es, ep, low e (nod e d), d, r⟩
    have kin : K.In (hidT t.heap H) := by
      intro b o e
      refine low (KX b o e) ?_
      cases q : H b with
      | none => rfl
      | some u =>
        cases at_a q
        rw [hK (by rw [q]; exact fun z => nomatch z)] at e
        cases e
    obtain ⟨mc, c1, c2⟩ := hlim
    have hM : Mod K mg (hidT t.heap H) := ⟨kin, ns' hns, ⟨mb, ns' hb, hbb⟩, ⟨mc, ns' c1, c2⟩⟩
    have e0 : Env0 P w K mg (hidT t.heap H) callerA [] t H := ⟨rfl, hM, fun b o e => of_hidT e, Nat.le_of_eq (hidT_size _ _), trivial, (fun b z => nomatch (show b ∈ ([] : List Addr) from z)), hok, .of_eq hg⟩
    refine codeAny_mono ((G _ kin (ns' hns)).go callerA [] t H ⟨[.ref a], []⟩ [.ref a] [.ref a] _ _ hr rfl e0 (hbind t (.ref a)) (.cons rfl .nil) (hsp H hO hS)) fun r s' h => ?_
    match r, h with
    | .error e, h => exact (hC H e s' h).elim
    | .ok .next, h => exact False.elim h
    | .ok .brk, h => exact False.elim h
    | .ok .cont, h => exact False.elim h
    | .ok (.ret u), h =>
      obtain ⟨v, H', os, bare, un, hok', r', q⟩ := h
      cases (show v = .bl true from q)
      cases (show u = Value.bool true from r')
      refine ⟨rfl, OldK.of_keep (fun b o e => ?_), os, bare⟩
      cases q : H b with
      | none => exact un.keep b o e q (fun z => nomatch (show b ∈ ([] : List Addr) from z)) (fun z => nomatch z)
      | some u =>
        rcases hO b with z | ⟨ob, xs, z⟩
        · rw [q] at z; cases z
        · obtain ⟨e1, _⟩ := hok b _ z
          obtain ⟨e2, _⟩ := hok' b _ (un.frzs b ob _ z)
          rw [e] at e1
          cases e1
          exact e2
  cases hk : K.lookup a with
  | some o =>
    have e := KX a o hk
    rw [ha] at e
    cases e
    exact main (fun _ => none) (fun _ => .inl rfl) (.inr ⟨_, its.toArray, _, hk, rfl, rfl, rfl, by rw [List.size_toArray, hlen]; exact hl, by simpa using rv⟩) (fun b u z => by cases (show (none : Option HO) = some u from z)) (fun b z => absurd rfl z) (fun z => absurd rfl z)
  | none =>
    refine main (fun b => if b = a then some (.frz { cls := .type "list", data := .seq its.toArray } (.lst (ns.map V.int))) else none) (fun b => ?_) (.inl (.inr ⟨{ cls := .type "list", data := .seq its.toArray }, if_pos rfl⟩)) (fun b u z => ?_) (fun b z => ?_) (fun _ => hk)
    · by_cases e : b = a
      · exact .inr ⟨_, _, if_pos e⟩
      · exact .inl (if_neg e)
    · by_cases e : b = a
      · cases (if_pos e).symm.trans z
        cases e
        exact ⟨ha, by rw [List.length_map]; exact hl, its, _, rv, ha⟩
      · cases (if_neg e).symm.trans z
    · by_cases e : b = a
      · exact e
      · exact absurd (if_neg e) z
theorem walkG {l : PySem.W.OpenLaw} {n k : Nat} {q : Program} {loose : List Str} {XP : (Str → Option Value) → Heap → Prop} {YP : World → Heap → Prop} {d : DefRec} {K : Params → PySem.W.Frag} {CX : World → CXT} {sp : World → Sp} {x : Str} (hn : l.most = some n) (hn2 : n ≤ sizeLine) (hdf : d.params.defaults = []) (hr : Room k callerA) (hY : ∀ (w : World) (h : Heap), YP w h → (K w.params).In h)
    (G : ∀ (w : World) (mg : Str → Option Value) (fa : Addr) (h : Heap), (K w.params).In h → h.Ns mainGlobals mg → mg d.name = some (.ref fa) → ∃ fd : FuncData, (∀ (s : Shared) (u : Value), BindsTo s fd ⟨[u], []⟩ [(x, u)]) ∧ ∀ base : Heap, (K w.params).In base → base.Ns mainGlobals mg → FnG l.prog w (K w.params) mg base (CX w) k fa fd [x] (sp w))
    (hsp : ∀ (w : World) (H : Hp) (a : Addr) (ns : List Int), ns.length ≤ n → Only H → SqL (K w.params) H a (ns.map V.int) → sp w [.ref a] H (fun v _ => v = .bl true) fun _ _ _ => False) (hC : ∀ (w : World) (H : Hp) (s : Shared) (e : Value) (s' : Shared), CX w [] H s (fun _ _ _ => False) e s' → False) :
    PySem.W.WalkO q loose XP YP l.row.toRowW d [] (fun f vs => PySem.call f vs) := by
  refine Att.attach_call hn hdf (fun w s₀ s₁ mg mb fa o pm cd doc a vs ns J Y ho hd hcd hmg hobj hints hlen hg => ?_)
  have KX := hY w _ Y
  obtain ⟨fd, hb, hF⟩ := G w mg fa _ KX J.T.g hmg
  exact callG KX J.T.g J.T.b J.T.builtins J.T.nolimit hg hobj hints (Nat.le_trans hlen hn2) hr hF hb (fun H hO hS => hsp w H a ns hlen hO hS) (fun H e s' => hC w H s₁ e s')
end Dl
namespace Dl
open PySem PySem.Spec PyProof.Rows L2
/-! ### within an except suite: the caught error is known -/
section
variable {T : Tx} {π : Nat → Option Pin} {A : Addr → Prop} {F H F' H' : Hp} {σ : L2.St} {ρ : En} {i : Nat} {a : Addr} {cls : Value} {d : Option Addr}
/-- slot i has the caught error at a; x tells what it is; its dict is not A's to change -/
structure Got (T : Tx) (A : Addr → Prop) (F H : Hp) (σ : L2.St) (i : Nat) (a : Addr) (cls : Value) (d : Option Addr) (x : Ex) : Prop where
  sl : σ[i]? = some (some (.ref a))
  rep : RepX T F H cls d x
  no : ∀ dx, d = some dx → ¬ A dx
theorem Got.go {x : Ex} (g : Got T A F H σ i a cls d x) (r : Fr A F H F' H') : Got T A F' H' σ i a cls d x := by
  obtain ⟨s, ⟨C, dx, ns, vs, h1, h2, h3, h4, h5⟩, n⟩ := g
  refine ⟨s, ⟨C, dx, ns, vs, h1, h2, h3, h4.mono r.f, ?_⟩, n⟩
  rcases h5 with h5 | ⟨e, h5⟩
  · exact .inl h5
  · exact .inr ⟨e, r.h dx _ (n dx e) h5⟩
variable {X : Cx} {e ea eb ec : Expr} {es rest : List Expr} {pos : Pos} {m : Mi Dt} {k ka kb : Ex → Mi Dt} {kt kt' : Ex → Mi Bool} {ks : Ex → Mi (List Dt)}
/-! ### e.f -/
/-! ### isinstance(e, C) -/
end
end Dl
namespace Dl
open PySem PySem.Spec PyProof.Rows L2
/-! ### the package's errors: made by the def __init__, which calls TurnError.__init__ -/
/-! ### raise C(e) -/
section
variable {X : Cx} {T : Tx} {π : Nat → Option Pin} {W : WX} {e : Expr} {m : Mi Dt} {x f z : Str} {C fI : Addr} {fd : FuncData} {p pos pos' : Pos} {c : Nat}
def sRaise (c : Nat) (m : Mi Dt) : En → So := sBind m fun y ρ => .exc ⟨c, [y]⟩ ρ
end
end Dl
namespace Dl
open PySem PySem.Spec PyProof.Rows L2
/-- a class that is named in except clauses and in isinstance -/
structure Kls (K : PySem.W.Frag) (mg : Str → Option Value) (x : Str) (C : Addr) : Prop where
  g : mg x = some (.ref C)
  hd : PySem.W.hasDictIn K C = true
  ty : PySem.W.typeIn K (.ref C) = some (.type "type")
  sf : PySem.W.subIn K (.ref C) (.ref C) = some true
section
variable {K : PySem.W.Frag} {mg : Str → Option Value} {x : Str} {C D : Addr} {b : Bool}
theorem Kls.kit (h : Kls K mg x C) (s : PySem.W.subIn K (.ref D) (.ref C) = some b) : PySem.W.kitOne K (.ref D) (.ref C) = some b := by
  by_cases e : D = C
  · subst e
    rw [h.sf] at s
    cases s
    unfold PySem.W.kitOne
    rw [if_pos (beq_self_eq_true _)]
  · obtain ⟨cd, hc, _⟩ := PySem.W.any_some h.hd
    have z : (Value.ref D == Value.ref C) = false := Bool.eq_false_iff.mpr fun q => e (Value.ref.inj (beq_iff_eq.mp q))
    unfold PySem.W.kitOne
    rw [z, if_neg Bool.false_ne_true]
    show (if ((PySem.W.clsIn K C).isSome && PySem.W.typeIn K (.ref C) == some (.type "type")) = true then PySem.W.subIn K (.ref D) (.ref C) else none) = some b
    rw [if_pos (by rw [hc, h.ty]; rfl)]
    exact s
end
end Dl
namespace Dl
open PySem PySem.Spec PyProof.Rows L2
/-! ### several named clauses: an error that came, clause by clause -/
section
variable {X : Cx} {pn : List (Addr × Obj)} {σ : L2.St} {H : Hp} {a : Addr} {cls : Value} {d : Option Addr} {t : Shared}
/-- the error a flies over t; what stands without it is as σ and H say -/
structure Came (X : Cx) (pn : List (Addr × Obj)) (σ : L2.St) (H : Hp) (a : Addr) (cls : Value) (d : Option Addr) (t : Shared) : Prop where
  fly : ∃ (G : Heap) (bare : Shared), Inv X pn σ H bare ∧ (∀ x o, bare.heap.get? x = some o → x ∉ frs X.stack → G.get? x = some o) ∧ HandSPX.FlyingZ G X.stack a (Zc cls d) t.heap ∧ bare.heap.UpToSlots t.heap ∧ t.os = bare.os
  free : H a = none
  gens : AllBare t.gens
theorem Came.at_ {h : Heap} {G : Heap} {bare : Shared} (i : Inv X pn σ H bare) (g : ∀ x o, bare.heap.get? x = some o → x ∉ frs X.stack → G.get? x = some o) (f : HandSPX.FlyingZ G X.stack a (Zc cls d) h) (u : bare.heap.UpToSlots h) (o : t.os = bare.os) (free : H a = none) (gens : AllBare t.gens) : Came X pn σ H a cls d { t with heap := h } := ⟨⟨G, bare, i, g, f, u, o⟩, free, gens⟩
/-- the error's object, apart from all frames -/
theorem Came.obj (c : Came X pn σ H a cls d t) (hs : X.stack = X.env :: X.outer) (hf : X.env.frame = some X.env.locals) : ∃ ob vs, t.heap.get? a = some ob ∧ Zc cls d ob ∧ ob.data = .fields vs ∧ a ≠ X.env.locals ∧ a ∉ X.fs := by
  obtain ⟨G, bare, _, _, f, _, _⟩ := c.fly
  obtain ⟨ob, vs, h1, h2, h3⟩ := f.there
  have apart : a ∉ frs X.stack := fun m => by
    obtain ⟨_, o2, h4, h5⟩ := f.2.2.1.mem m
    rw [h1] at h4
    injection h4 with h4
    rw [← h4] at h5
    exact h5 _ h3
  refine ⟨ob, vs, h1, h2, h3, fun z => apart ?_, fun m => apart ?_⟩
  · rw [hs, z]
    exact List.mem_filterMap.mpr ⟨X.env, .head _, hf⟩
  · rw [hs]
    obtain ⟨e, m1, m2⟩ := List.mem_filterMap.mp m
    exact List.mem_filterMap.mpr ⟨e, .tail _ m1, m2⟩
variable {W : WX}
variable {x n : Str} {cv : Value} {i : Nat} {b₀ : Stmt} {suite : List Stmt} {np p1 : Pos} {s : Addr → Value → Option Addr → TS} {w : Ends → WX} {hds : List ExceptHandler}
variable {body : List Stmt} {h₀ : ExceptHandler} {pos : Pos} {tb : WX → TS}
end
/-! ### over data -/
end Dl
namespace Dl
open PySem PySem.Spec PyProof.Rows L2
/-! ### isinstance of values among which own objects may be -/
/-- an own class that is of no built-in sort -/
structure IcB (K : PySem.W.Frag) (C : Addr) : Prop where
  ic : C8.InsC K C
  no : ∀ n : Ty5, PySem.W.subIn K (.ref C) (.type n.nm) = some false
theorem IcB.kit {K : PySem.W.Frag} {C : Addr} (h : IcB K C) (n : Ty5) : PySem.W.kitOne K (.ref C) (.type n.nm) = some false := by
  unfold PySem.W.kitOne
  have z : (Value.ref C == Value.type n.nm) = false := Bool.eq_false_iff.mpr fun q => nomatch beq_iff_eq.mp q
  rw [z, if_neg Bool.false_ne_true]
  show (if PySem.W.kitMeta n.nm = true then PySem.W.subIn K (.ref C) (.type n.nm) else none) = some false
  rw [if_pos (by cases n <;> decide +kernel)]
  exact h.no n
/-- the classes 0 and 1 (rotas and seasons) are such, where the text has them -/
def AllB (T : Tx) : Prop := ∀ c C ns, (c = 0 ∨ c = 1) → T.cl c = some (C, ns) → IcB T.K C
def isDO (n : Ty5) : Dt → Option Bool
  | .ins 0 _ => some false
  | .ins 1 _ => some false
  | d => isD n d
theorem isDO_of {n : Ty5} {d : Dt} {b : Bool} (h : isD n d = some b) : isDO n d = some b := by
  cases d with
  | ins c vs => cases h
  | _ => exact h
theorem isDO_cases {n : Ty5} {d : Dt} {b : Bool} (h : isDO n d = some b) : isD n d = some b ∨ (∃ c vs, (c = 0 ∨ c = 1) ∧ d = .ins c vs ∧ b = false) := by
  cases d with
  | ins c vs =>
    match c, h with
    | 0, h => exact .inr ⟨0, vs, .inl rfl, rfl, (Option.some.inj h).symm⟩
    | 1, h => exact .inr ⟨1, vs, .inr rfl, rfl, (Option.some.inj h).symm⟩
    | c + 2, h => exact .inl h
  | _ => exact .inl h
def fIsiO (n : Ty5) (d : Dt) : Option Dt := (isDO n d).map .bl
def fIsi2O (n n' : Ty5) (d : Dt) : Option Dt := match isDO n d, isDO n' d with
  | some a, some b => some (.bl (a || b))
  | _, _ => none
section
variable {X : Cx} {T : Tx} {π : Nat → Option Pin} {W : WX} {e : Expr} {m : Mi Dt} {F H : Hp}
theorem InsC_ty {a C dx : Addr} {fs : List (Str × V)} (h : C8.InsC T.K C) (e : H a = some (.ins C dx fs)) : TyX T.K H (.ref a) (.ref C) := .base (.ins e h.cl h.ha h.hn h.htk h.hm)
/-- a value's class, and what isinstance says of it -/
theorem isDO_ty (hA : AllB T) {v : V} {d : Dt} (le : Le F H) (r : RepS T F H v d) {ns : List Ty5} (h : ∀ n ∈ ns, ∃ b, isDO n d = some b) (hne : ns ≠ []) :
    ∃ t, TyX T.K H v t ∧ ∀ n ∈ ns, ∀ b, isDO n d = some b → PySem.W.kitOne T.K t (.type n.nm) = some b := by
  cases d with
  | ins c vs =>
    obtain ⟨n0, hn0⟩ := List.exists_mem_of_ne_nil _ hne
    obtain ⟨b0, hb0⟩ := h n0 hn0
    rcases isDO_cases hb0 with q | ⟨c', vs', hc, e, _⟩
    · cases q
    · cases e
      obtain ⟨a, C1, dx, ns1, us, e1, q1, q2, _⟩ := r.ins_inv le
      subst e1
      have B := hA _ _ _ hc q1
      refine ⟨.ref C1, InsC_ty B.ic q2, fun n _ b hb => ?_⟩
      rcases isDO_cases hb with q | ⟨_, _, _, _, rfl⟩
      · cases q
      · exact B.kit n
  | _ =>
    obtain ⟨n0, hn0⟩ := List.exists_mem_of_ne_nil _ hne
    obtain ⟨b0, hb0⟩ := h n0 hn0
    have hb1 : isD n0 _ = some b0 := (isDO_cases hb0).elim id fun ⟨_, _, _, e, _⟩ => nomatch e
    obtain ⟨t, ht⟩ := isD_ty hb1
    refine ⟨.type t, r.tyX le ht, fun n _ b hb => ?_⟩
    have hb2 : isD n _ = some b := (isDO_cases hb).elim id fun ⟨_, _, _, e, _⟩ => nomatch e
    exact kit_ty (isD_kit n _ t b ht hb2)
theorem de_isiO (hA : AllB T) (hK : X.K = T.K) (n : Ty5) (h : PE X e (tCB (rIsi X.K) (tCons (TMp T π W m) (tCons (tC (.ty n.nm)) tNil)))) : PE X e (TMe T π W (m1 (fIsiO n) m)) := h.imp fun σ H Q ⟨A, F, ρ, k, p⟩ => ⟨A, F, ρ, k, p.bind.imp fun d ρ1 F1 H1 k1 r1 p1 v rv => by
  obtain ⟨z, ez, p2⟩ := p1.opt
  unfold fIsiO at ez
  cases hb : isDO n d with
  | none => rw [hb] at ez; cases ez
  | some b =>
    rw [hb] at ez
    cases ez
    obtain ⟨t, ty, kk⟩ := isDO_ty hA k1.le rv (ns := [n]) (fun x hx => by rw [List.mem_singleton.mp hx]; exact ⟨b, hb⟩) (by simp)
    exact ⟨v, .ty n.nm, t, .type n.nm, b, rfl, .ty _, by rw [hK]; exact ty, by rw [hK]; exact kk n (by simp) b hb, p2.pure k1 _ (.bl _)⟩⟩
theorem de_isi2O (hA : AllB T) (hK : X.K = T.K) (n n' : Ty5) (h : PE X e (tCB (rIsiT X.K) (tCons (TMp T π W m) (tCons (tTup (tCons (tC (.ty n.nm)) (tCons (tC (.ty n'.nm)) tNil))) tNil)))) : PE X e (TMe T π W (m1 (fIsi2O n n') m)) := h.imp fun σ H Q ⟨A, F, ρ, k, p⟩ => ⟨A, F, ρ, k, p.bind.imp fun d ρ1 F1 H1 k1 r1 p1 v rv => by
  obtain ⟨z, ez, p2⟩ := p1.opt
  unfold fIsi2O at ez
  cases hb : isDO n d with
  | none => rw [hb] at ez; cases ez
  | some b =>
    cases hb2 : isDO n' d with
    | none => rw [hb, hb2] at ez; cases ez
    | some b2 =>
      rw [hb, hb2] at ez
      cases ez
      have h2 : 2 ≤ sizeLine := by decide
      refine ⟨h2, fun q hq => ?_⟩
      have rv2 : RepS T F1 (upd H1 q (.tup [.ty n.nm, .ty n'.nm])) v d := rv.grow (le_refl F1) (le_new hq)
      obtain ⟨t, ty, kk⟩ := isDO_ty hA (le_trans k1.le (le_new hq)) rv2 (ns := [n, n']) (fun x hx => by
        rcases List.mem_cons.mp hx with rfl | hx
        · exact ⟨b, hb⟩
        · rw [List.mem_singleton.mp hx]; exact ⟨b2, hb2⟩) (by simp)
      refine ⟨v, q, _, t, [.type n.nm, .type n'.nm], b || b2, rfl, upd_same, .cons (.ty _) (.cons (.ty _) .nil), by rw [hK]; exact ty, ?_, p2 F1 _ (k1.newO hq) (.newO hq) _ (.bl _)⟩
      rw [hK]
      refine kitAny_cons (kk n (by simp) b hb) (fun z => ?_) (fun z => by rw [z]; rfl)
      refine kitAny_cons (kk n' (by simp) b2 hb2) (fun z2 => ?_) (fun z2 => by rw [z, z2]; rfl)
      rw [z, z2]
      exact kitAny_nil⟩
/-! ### isinstance against an own class, of any value -/
def tys8 : List String := ["NoneType", "bool", "int", "str", "list", "tuple", "dict"]
theorem tyD_in {d : Dt} {t : String} (h : tyD d = some t) : t ∈ tys8 := by
  cases d <;> cases h <;> simp [tys8]
/-- what isinstance(.., C) asks of the other classes -/
structure IsA (T : Tx) (c : Nat) (C : Addr) : Prop where
  hd : PySem.W.hasDictIn T.K C = true
  ty : PySem.W.typeIn T.K (.ref C) = some (.type "type")
  bt : ∀ t ∈ tys8, PySem.W.subIn T.K (.type t) (.ref C) = some false
  ot : ∀ c' C' ns, (c' = 0 ∨ c' = 1) → T.cl c' = some (C', ns) → C8.InsC T.K C' ∧ (C' ≠ C → PySem.W.subIn T.K (.ref C') (.ref C) = some false) ∧ (C' = C ↔ c' = c)
theorem IsA.cls {c : Nat} {C : Addr} (h : IsA T c C) {t : Value} {b : Bool} (ne : t ≠ .ref C) (s : PySem.W.subIn T.K t (.ref C) = some b) : PySem.W.kitOne T.K t (.ref C) = some b := by
  obtain ⟨cd, hc, _⟩ := PySem.W.any_some h.hd
  unfold PySem.W.kitOne
  have z : (t == Value.ref C) = false := Bool.eq_false_iff.mpr fun q => ne (beq_iff_eq.mp q)
  rw [z, if_neg Bool.false_ne_true]
  show (if ((PySem.W.clsIn T.K C).isSome && PySem.W.typeIn T.K (.ref C) == some (.type "type")) = true then PySem.W.subIn T.K t (.ref C) else none) = some b
  rw [if_pos (by rw [hc, h.ty]; rfl)]
  exact s
def isCO (c : Nat) : Dt → Option Bool
  | .ins 0 _ => some (decide (0 = c))
  | .ins 1 _ => some (decide (1 = c))
  | .ins _ _ => none
  | d => (tyD d).map fun _ => false
def fIsCO (c : Nat) (d : Dt) : Option Dt := (isCO c d).map .bl
theorem isCO_ty {c : Nat} {d : Dt} {b : Bool} (h : isCO c d = some b) : (∃ t, tyD d = some t ∧ b = false) ∨ ∃ c' vs, d = .ins c' vs := by
  cases d with
  | ins c' vs => exact .inr ⟨c', vs, rfl⟩
  | ty n => cases h
  | deal cs bl => cases h
  | cls c => cases h
  | obj a c vs => cases h
  | dcn ks vs => cases h
  | tbl q => cases h
  | lam _ _ _ _ _ _ => cases h
  | _ => exact .inl ⟨_, rfl, (Option.some.inj h).symm⟩
theorem de_isCO {c : Nat} {C : Addr} (hI : IsA T c C) (hK : X.K = T.K) (h : PE X e (tCB (rIsi X.K) (tCons (TMp T π W m) (tCons (tC (.ref C)) tNil)))) : PE X e (TMe T π W (m1 (fIsCO c) m)) := h.imp fun σ H Q ⟨A, F, ρ, k, p⟩ => ⟨A, F, ρ, k, p.bind.imp fun d ρ1 F1 H1 k1 r1 p1 v rv => by
  obtain ⟨z, ez, p2⟩ := p1.opt
  unfold fIsCO at ez
  cases hb : isCO c d with
  | none => rw [hb] at ez; cases ez
  | some b =>
    rw [hb] at ez
    cases ez
    have go : ∃ t, TyX T.K H1 v t ∧ PySem.W.kitOne T.K t (.ref C) = some b := by
      cases d with
      | ins c' vs =>
        have hc : c' = 0 ∨ c' = 1 := by
          match c', hb with
          | 0, _ => exact .inl rfl
          | 1, _ => exact .inr rfl
          | c' + 2, hb => cases hb
        have hb2 : b = decide (c' = c) := by
          rcases hc with rfl | rfl <;> exact (Option.some.inj hb).symm
        obtain ⟨a, C1, dx, ns1, us, e1, q1, q2, _⟩ := rv.ins_inv k1.le
        subst e1
        obtain ⟨i1, i2, i3⟩ := hI.ot _ _ _ hc q1
        refine ⟨.ref C1, InsC_ty i1 q2, ?_⟩
        by_cases e : C1 = C
        · subst e
          rw [hb2, decide_eq_true (i3.mp rfl)]
          exact i1.me
        · rw [hb2, decide_eq_false fun z => e (i3.mpr z)]
          exact hI.cls (fun z => e (Value.ref.inj z)) (i2 e)
      | _ =>
        rcases isCO_ty hb with ⟨t, ht, rfl⟩ | ⟨_, _, e⟩
        · exact ⟨.type t, rv.tyX k1.le ht, hI.cls (fun z => nomatch z) (hI.bt t (tyD_in ht))⟩
        · cases e
    obtain ⟨t, ty, kk⟩ := go
    exact ⟨v, .ref C, t, .ref C, b, rfl, .own _, by rw [hK]; exact ty, by rw [hK]; exact kk, p2.pure k1 _ (.bl _)⟩⟩
end
end Dl
namespace Dl
open PySem PySem.Spec PyProof.Rows L2
/-! ### C(..) and o.m(..) in the body of a try -/
section
variable {X : Cx} {k : Nat} {f C : Addr} {fd : FuncData} {ps : List Str} {sp : Sp} {E : L2.St → XK} {x : Str} {p pos : Pos} {e o : Expr} {es : List Expr} {t ta : TA}
/-- a new object, what its __init__ raises is wished for at the slots -/
theorem made_at {pn : List (Addr × Obj)} {σ : L2.St} {H : Hp} {s : Shared} {Q : VK} {us : List Value} {vs : List V} (M : Mk X.K C f) (F : FnOk X.prog X.w X.K X.mg X.base (L2.CX X.prog X.w) k f fd ps sp) (room : Room (k + 1) X.A) (bi : Binds X.K fd ps []) (pa : PassesAt (L2.CX X.prog X.w) X σ (E σ))
    (I : Inv X pn σ H s) (rel : Vals vs us) (h : ∀ y dy, H y = none → H dy = none → dy ≠ y → sp (.ref y :: vs) (upd (upd H dy (.own y)) y (.ins C dy [])) (fun v H2 => v = .non ∧ Q (.ref y) H2) (E σ)) :
    wpAny (model X.prog X.w) X.A (call (.ref C) us) (EP X pn σ Q) X.xe s := by
  let n := s.heap.objs.size
  have new := Inv.made (C := C) I
  have in_ := h (n + 1) n (I.hok.fresh (Nat.le_succ _)) (I.hok.fresh (Nat.le_refl _)) (Nat.ne_of_lt (Nat.lt_succ_self _))
  have rel2 : Vals (V.ref (n + 1) :: vs) (Value.ref (n + 1) :: us) := .cons rfl rel
  have len : (Value.ref (n + 1) :: us ++ []).length = ps.length := by
    rw [List.append_nil, ← rel2.length]
    exact F.len _ _ _ _ in_
  have bd := bi _ (Value.ref (n + 1) :: us) new.kIn len
  rw [List.append_nil] at bd
  apply wpAny_call
  apply make_map (f := f) I.kIn M.makes M.init (beq_iff_eq.mp M.fn)
  refine codeAny_mono (F.run _ X.stack _ _ ⟨Value.ref (n + 1) :: us, []⟩ (Value.ref (n + 1) :: us) _ _ (E σ) (room.make C us []) (new.env0.make C us []) bd rel2 in_) fun r s2 z => ?_
  match r, z with
  | .error er, z => exact pa pn _ _ er s2 new z
  | .ok (.ret u), z =>
    obtain ⟨v, H2, I2, rv, ev, q⟩ := new.after z
    subst ev
    exact ⟨rv, V.ref (n + 1), H2, I2, rfl, q⟩
  | .ok .next, z => exact z.elim
  | .ok .brk, z => exact z.elim
  | .ok .cont, z => exact z.elim
theorem pe_makeAt (M : Mk X.K C f) (F : FnOk X.prog X.w X.K X.mg X.base (L2.CX X.prog X.w) k f fd ps sp) (room : Room (k + 1) X.A) (gl : Gl X x) (hm : X.mg x = some (.ref C)) (bi : Binds X.K fd ps []) (pa : ∀ σ, PassesAt (L2.CX X.prog X.w) X σ (E σ)) (ha : PA X (e :: es) t)
    (hdb : (x == ("__debug__" : Str)) = false := by decide) (he : starEach (e :: es) X.env = (false, eval e X.env) :: starEach es X.env := by rfl) (hpl : (backTo pos (starEach es X.env)).any (·.1) = false := by rfl) :
    PE X (.Call (.Name x p) (e :: es) [] pos) (fun σ H Q => t σ H fun vs H1 => ∀ y dy, H1 y = none → H1 dy = none → dy ≠ y → sp (.ref y :: vs) (upd (upd H1 dy (.own y)) y (.ins C dy [])) (fun v H2 => v = .non ∧ Q (.ref y) H2) (E σ)) :=
  ⟨fun pn s σ H Q I h => wpAny_Call_Name_kw (ld_glob I gl hm (PySem.W.callWith_K (h₀ := X.base) I.ok.mod.kin M.kp (thn (ha.run pos pn s σ H _ I h) fun us s1 ⟨vs, H1, I1, r, q⟩ => ⟨I1.kIn, made_at M F room bi (pa σ) I1 r q⟩) he hpl) hdb)⟩
end
end Dl
namespace Dl
open PySem PySem.Spec PyProof.Rows L2
/-! ### x == y, x != y: x an own object, y any value -/
section
variable {X : Cx} {T : Tx} {k : Nat} {C f : Addr} {fd : FuncData} {ps : List Str} {sp : Sp}
def rOwnX (K : PySem.W.Frag) (C : Addr) (sp : Sp) (neg : Bool) : R2 := fun x y H Q => ∃ a dx fs tb, x = .ref a ∧ H a = some (.ins C dx fs) ∧ TyX K H y tb ∧ PySem.W.notFirst K C tb = true ∧ sp [x, y] H (fun v H' => ∃ r, v = .bl r ∧ Q (.bl (r != neg)) H') (fun _ _ _ => False)
theorem own_callX (G : FnOk X.prog X.w X.K X.mg X.base (L2.CX X.prog X.w) k f fd ps sp) (hb : Binds X.K fd ps []) {A : Around} (hr : Room k A) (hfr : A.frames = X.A.frames) {pins : List (Addr × Obj)} {s : Shared} {σ : L2.St} {H : Hp} {a : Addr} {y : V} {u : Value} {P : Bool → Hp → Prop} {R : Value → Shared → Prop} (I : Inv X pins σ H s) (ry : RelV y u) (hsp : sp [.ref a, y] H (fun v H' => ∃ r, v = .bl r ∧ P r H') (fun _ _ _ => False))
    (hR : ∀ r s' H', Inv X pins σ H' s' → P r H' → R (.bool r) s') : wpAny (model X.prog X.w) A (call (.ref f) [.ref a, u]) R X.xe s := by
  have e0 : Env0 X.prog X.w X.K X.mg X.base A X.stack s H := by
    have e := I.env0
    exact ⟨by rw [hfr]; exact e.frames, e.mod, e.bs, e.bsz, e.funs, e.frf, e.hok, e.bare⟩
  have hl := G.len _ _ _ _ hsp
  have r2 : Vals [V.ref a, y] [Value.ref a, u] := .cons rfl (.cons ry .nil)
  refine wpAny_call (codeAny_mono (G.run A X.stack s H ⟨[.ref a, u], []⟩ [.ref a, u] [.ref a, y] _ _ hr e0 (by
    have := hb s [.ref a, u] I.kIn (by simpa using hl)
    simpa using this) r2 hsp) fun r s' hq => ?_)
  cases r with
  | error e =>
    obtain ⟨_, _, _, _, _, _, _, _, _, _, _, _, z⟩ := hq
    exact z.elim
  | ok fl =>
    cases fl with
    | ret w =>
      obtain ⟨z, H', I', rz, r, rfl, q⟩ := I.after hq
      cases rz
      exact hR r s' H' I' q
    | next => exact False.elim hq
    | brk => exact False.elim hq
    | cont => exact False.elim hq
theorem op_ownEqX (G : FnOk X.prog X.w X.K X.mg X.base (L2.CX X.prog X.w) k f fd ps sp) (hb : Binds X.K fd ps []) (hr : Room k X.A) (hs : PySem.W.findIn X.K (.ref C) "__eq__" = some (some (.ref f))) (hf : PySem.W.isFn X.K (.ref f) = true) : OpR X (compareOp .Eq) (rOwnX X.K C sp false) := by
  intro pins s σ H x y v u Q I rx ry h
  obtain ⟨a, dx, fs, tb, rfl, ha, ty, nf, hsp⟩ := h
  cases rx
  obtain ⟨mA, J, _⟩ := ins_get I.hok ha
  obtain ⟨od, J, _⟩ := J.look
  obtain ⟨P, Z, p, _⟩ := kit_of I ry ty
  obtain ⟨m, hF⟩ := I.fr
  refine PySem.W.cmp_K (op := .Eq) (tb := tb) hr.units0 hF I.ok.mod.kin J (Z.ty _ _ I.kIn p) nf hs hf ?_
  refine own_callX (P := fun r H' => Q (.bl (r != false)) H') G hb hr rfl I ry hsp fun r s' H' I' q => ?_
  exact ⟨.bl r, H', I', rfl, by cases r <;> exact q⟩
def fOwnX (c : Nat) (fm : List Dt → Fo) (neg : Bool) : Dt → Dt → Option Dt
  | .ins c1 x, y => if c1 = c ∧ (isCO c y).isSome = true then (match fm [.ins c1 x, y] with | .ret (.bl r) _ => some (.bl (r != neg)) | _ => none) else none
  | _, _ => none
/-- any value's class, and that it does not go first -/
theorem isCO_ty2 {c : Nat} (hI : IsA T c C) {F H : Hp} {v : V} {d : Dt} (le : Le F H) (r : Rep T F v d) (h : (isCO c d).isSome = true) : ∃ tb, TyX T.K H v tb ∧ PySem.W.notFirst T.K C tb = true := by
  cases hb : isCO c d with
  | none => rw [hb] at h; cases h
  | some b =>
    rcases isCO_ty hb with ⟨t, ht, rfl⟩ | ⟨c', vs, rfl⟩
    · refine ⟨.type t, r.s.tyX le ht, ?_⟩
      unfold PySem.W.notFirst
      rw [hI.bt t (tyD_in ht)]
      simp
    · have hc : c' = 0 ∨ c' = 1 := by
        match c', hb with
        | 0, _ => exact .inl rfl
        | 1, _ => exact .inr rfl
        | c' + 2, hb => cases hb
      obtain ⟨a, C1, dx, ns1, us, e1, q1, q2, _⟩ := r.s.ins_inv le
      subst e1
      obtain ⟨i1, i2, i3⟩ := hI.ot _ _ _ hc q1
      refine ⟨.ref C1, InsC_ty i1 q2, ?_⟩
      unfold PySem.W.notFirst
      by_cases e : C1 = C
      · subst e; simp
      · rw [i2 e]; simp
theorem os_ownX {c : Nat} {ns : List Str} {fm : List Dt → Fo} (neg : Bool) (hI : IsA T c C) (hK : X.K = T.K) (hc : T.cl c = some (C, ns)) : OpK T (rOwnX X.K C (spM T 2 false false fm) neg) (fOwnX c fm neg) := fun π A F H σ ρ v w d e z Q k rv rw' ez q => by
  unfold fOwnX at ez
  split at ez
  · rename_i c1 x y
    split at ez
    · rename_i hcc
      obtain ⟨rfl, hy⟩ := hcc
      split at ez
      · rename_i r o hfm
        cases ez
        obtain ⟨a, C1, dx, ns1, vs, e1, q1, q2, q3, q4⟩ := rv.s.ins_inv k.le
        rw [hc] at q1
        cases q1
        obtain ⟨tb, t1, t2⟩ := isCO_ty2 hI k.le rw' hy
        rw [hK]
        refine ⟨a, dx, _, tb, e1, q2, t1, t2, F, _, none, rfl, k.le, ⟨.cons rv (.cons rw' .nil), rfl⟩, ?_⟩
        rw [hfm]
        exact fun F' H' u le fr _ ru => ⟨r, Rep.bl_inv ru, q F' H' _ (k.called le fr) (fr.weak fun a ⟨_, z, _⟩ => nomatch z) (.bl _)⟩
      · cases ez
    · cases ez
  · cases ez
end
/-! ### C(.., xs): xs a list that is held alone, and is so still behind it -/
mutual
def noL : Dt → Bool
  | .scr _ => false
  | .lst _ => false
  | .deal _ _ => false
  | .dcn _ _ => false
  | .tbl _ => false
  | .lam _ _ _ _ _ _ => false
  | .tup ds => noLs ds
  | .dic _ _ vs => noLs vs
  | .ins _ vs => noLs vs
  | .obj _ _ vs => noLs vs
  | _ => true
def noLs : List Dt → Bool
  | [] => true
  | d :: ds => noL d && noLs ds
end
section
variable {T : Tx} {F : Hp} {a : Addr} {vs0 : List V}
mutual
theorem rep_del (h : F a = some (.lst vs0)) : ∀ {v : V} {d : Dt}, Rep T F v d → noL d = true → Rep T (del F a) v d
  | _, _, .non, _ => .non
  | _, _, .bl b, _ => .bl b
  | _, _, .int i, _ => .int i
  | _, _, .str x, _ => .str x
  | _, _, .ty n, _ => .ty n
  | _, _, .scr _, e => by cases e
  | _, _, .lst _ _, e => by cases e
  | _, _, .tup (a := b) q r, e => .tup (by rw [del_ne fun z => by rw [z, h] at q; cases q]; exact q) (reps_del h r (by unfold noL at e; exact e))
  | _, _, .tup0 (a := b) q, _ => .tup0 (by
      rcases q with (q | ⟨o, q⟩) | q
      · exact .inl (.inl (by rw [del_ne fun z => by rw [z, h] at q; cases q]; exact q))
      · exact .inl (.inr ⟨o, by rw [del_ne fun z => by rw [z, h] at q; cases q]; exact q⟩)
      · exact .inr q)
  | _, _, .dicK (a := b) q l r, e => .dicK (by rw [del_ne fun z => by rw [z, h] at q; cases q]; exact q) l (reps_del h r (by unfold noL at e; exact e))
  | _, _, .dicT (a := b) q l r, e => .dicT (by rw [del_ne fun z => by rw [z, h] at q; cases q]; exact q) l (reps_del h r (by unfold noL at e; exact e))
  | _, _, .ins (a := b) c q l r, e => .ins c (by rw [del_ne fun z => by rw [z, h] at q; cases q]; exact q) l (reps_del h r (by unfold noL at e; exact e))
  | _, _, .deal _ _, e => by cases e
  | _, _, .dcn _ _ _, e => by cases e
  | _, _, .tbl _, e => by cases e
  | _, _, .lam _ _ _ _, e => by cases e
  | _, _, .cls c, _ => .cls c
  | _, _, .obj (a := b) c q l r, e => .obj c (by rw [del_ne fun z => by rw [z, h] at q; cases q]; exact q) l (reps_del h r (by unfold noL at e; exact e))
theorem reps_del (h : F a = some (.lst vs0)) : ∀ {vs : List V} {ds : List Dt}, Reps T F vs ds → noLs ds = true → Reps T (del F a) vs ds
  | _, _, .nil, _ => .nil
  | _, _, .cons q r, e => by
    unfold noLs at e
    rw [Bool.and_eq_true] at e
    exact .cons (rep_del h q e.1) (reps_del h r e.2)
end
end
section
variable {X : Cx} {T : Tx} {π : Nat → Option Pin} {W : WX} {e : Expr} {es : List Expr} {pos p : Pos} {m : Mi Dt} {pre ms : Mi (List Dt)} {k n c i : Nat} {f C : Addr} {fd : FuncData} {ps : List Str} {x : Str} {fm : List Dt → Fo} {ns : List Str} {A : Addr → Prop} {F H : Hp} {σ : L2.St} {ρ : En}
/-- arguments, the last one by its slot -/
def TMaB (T : Tx) (π : Nat → Option Pin) (W : WX) (pre : Mi (List Dt)) (i : Nat) : TA := fun σ H Q => ∃ A F ρ, Ok T π A F H σ ρ ∧ Post T π W σ A F H (fun ds ρ' F' H' => (∃ io xs, ρ'[i]? = some (some (.own io (.lst xs)))) ∧ ∀ vs a, Reps T F' vs ds → σ[i]? = some (some (.ref a)) → Q (vs ++ [.ref a]) H') (pre ρ)
theorem dab_last {nm : Str} {np : Pos} (h : PE X (.Name nm np) (tVar i)) : PA X [.Name nm np] (TMaB T π W (mPure []) i) := (pa_cons h pa_nil).imp fun σ H Q ⟨A, F, ρ, k, p⟩ => by
  obtain ⟨⟨io, xs, ho⟩, q⟩ := p.pure k
  obtain ⟨a, h1, _⟩ := k.own i io _ ho
  exact ⟨.ref a, h1, q [] a .nil h1⟩
theorem dab_cons (he : PE X e (TMe T π W m)) (hr : PA X es (TMaB T π W pre i)) (hs : starEach (e :: es) X.env = (false, eval e X.env) :: starEach es X.env := by rfl) : PA X (e :: es) (TMaB T π W (mCons m pre) i) :=
  (pa_cons he hr hs).imp fun σ H Q ⟨A, F, ρ, k, p⟩ => ⟨A, F, ρ, k, p.bind.imp fun d ρ1 F1 H1 k1 r1 p1 v rv => ⟨A, F1, ρ1, k1, p1.bind.imp2 fun ds ρ2 p2 F2 H2 k2 r2 => by
    have p3 := p2 F2 H2 k2 r2
    obtain ⟨ho, q⟩ := p3.pure k2
    exact ⟨ho, fun vs a rvs hi => q (v :: vs) a (.cons (rv.mono r2.f) rvs) hi⟩⟩⟩
/-- a new object is made; all that stood is kept -/
theorem sp_makeK {f : List Dt → Fo} {Q : VK} {vs : List V} {ds : List Dt} {o : Dt} {oo : Dt} {E : XK} (hc : T.cl c = some (C, ns)) (le0 : Le F H) (r : Reps T F vs ds) (hl : ds.length + 1 = n) (ef : f (.ins c [] :: ds) = .ret .non oo)
    (q : ∀ F' H' x, Le F' H' → Le F F' → (∀ b u, H b = some u → H' b = some u) → (∀ b u, H b = some u → (∀ t, u ≠ .tup t) → F' b = F b) → (∀ b, H' b = none → H b = none) → F' x = none → H x = none → OwnAt T F' H' x oo → inH H' x oo = [] → Q (.ref x) H') :
    ∀ x dx, H x = none → H dx = none → dx ≠ x → spM T n true false f (.ref x :: vs) (upd (upd H dx (.own x)) x (.ins C dx [])) (fun v H2 => v = .non ∧ Q (.ref x) H2) E := fun x dx hx hdx ne => by
  have hx2 : (upd H dx (.own x)) x = none := by rw [upd_ne (Ne.symm ne)]; exact hx
  have le2 : Le H (upd (upd H dx (.own x)) x (.ins C dx [])) := le_trans (le_new hdx) (le_new hx2)
  refine ⟨F, .ins c [] :: ds, some (x, []), by rw [List.length_cons, r.length]; exact hl, le_trans le0 le2, ⟨x, vs, _, ds, rfl, rfl, f_none le0 hx, ⟨C, dx, ns, [], hc, by rw [upd_same, List.zip_nil_right], Nat.zero_le _, .nil⟩, r, rfl, (fun _ z => nomatch z)⟩, ?_⟩
  rw [ef]
  refine fun F' H' v le fr io' rv => ?_
  have nx : ∀ {b : Addr} {u : HO}, H b = some u → ¬ pinA (some (x, [])) b := fun hb ⟨q, hq, hz⟩ => by
    cases hq
    rcases hz with hz | hz
    · rw [hz, hx] at hb; cases hb
    · cases hz
  exact ⟨Rep.non_inv rv, q F' H' x le fr.f (fun b u e => fr.h b u (nx e) (le2 b u e)) (fun b u e t => fr.n b u (nx e) (le2 b u e) t) (fun b e => up_none (up_none (fr.t b e))) (io' _ rfl).1 hx (io' _ rfl).2.1 (io' _ rfl).2.2.1⟩
def mMakeB (c n : Nat) (f : List Dt → Fo) (pre : Mi (List Dt)) (i : Nat) : Mi Dt := mBind pre fun ds ρ => match ρ[i]? with
  | some (some (.own _ (.lst xs))) => if ds.length + 2 = n then (match f (.ins c [] :: (ds ++ [.lst xs])) with
    | .ret .non o => if noL o = true then .ok o ρ else .bad
    | _ => .bad) else .bad
  | _ => .bad
theorem dn_makeB (M : Mk X.K C f) (G : FnOk X.prog X.w X.K X.mg X.base (L2.CX X.prog X.w) k f fd ps (spM T n true false fm)) (hr : Room (k + 1) X.A) (hg : Gl X x) (hm : X.mg x = some (.ref C)) (hb : Binds X.K fd ps []) (hc : T.cl c = some (C, ns)) (tk : Takes X W) (ha : PA X (e :: es) (TMaB T π W pre i))
    (hdb : (x == ("__debug__" : Str)) = false := by decide) (he : starEach (e :: es) X.env = (false, eval e X.env) :: starEach es X.env := by rfl) (hpl : (backTo pos (starEach es X.env)).any (·.1) = false := by rfl) :
    PE X (.Call (.Name x p) (e :: es) [] pos) (TMn T π W (mMakeB c n fm pre i)) := (pe_makeAt (E := WE W) M G hr hg hm hb (fun σ => passAt tk σ) ha hdb he hpl).imp fun σ H Q ⟨A, F, ρ, k, p⟩ => ⟨A, F, ρ, k, p.bind.imp fun ds ρ1 F1 H1 k1 r1 p1 => by
  cases ho : ρ1[i]? with
  | none => rw [ho] at p1; exact p1.elim
  | some s =>
    cases s with
    | none => rw [ho] at p1; exact p1.elim
    | some s =>
      cases s with
      | val d => rw [ho] at p1; exact p1.elim
      | own io d =>
        cases d with
        | lst xs =>
          rw [ho] at p1
          refine ⟨⟨io, xs, rfl⟩, fun vs a rvs hi y dy hy hdy ne => ?_⟩
          dsimp only at p1
          split at p1
          · rename_i hl
            split at p1
            · rename_i o hf
              split at p1
              · rename_i hno
                obtain ⟨a', h1, hFa, ⟨us, hHa, rus⟩, hA, hπ, _⟩ := k1.own i io _ ho
                rw [hi] at h1
                cases h1
                have f12 : Le F1 (upd F1 a (.lst us)) := le_new hFa
                have le2 : Le (upd F1 a (.lst us)) H1 := fun b u e => by
                  by_cases nb : b = a
                  · rw [nb, upd_same] at e; cases e; rw [nb]; exact hHa
                  · rw [upd_ne nb] at e; exact k1.le _ _ e
                have rall : Reps T (upd F1 a (.lst us)) (vs ++ [V.ref a]) (ds ++ [.lst xs]) := (rvs.mono f12).append (.cons (.lst upd_same (rus.mono f12)) .nil)
                refine sp_makeK (o := o) (ns := ns) hc le2 rall (by rw [List.length_append, List.length_singleton]; omega) hf (fun F' H' z le lF keep nn tt hz hz1 own hin => ?_) y dy hy hdy ne
                have F'a : F' a = some (.lst us) := lF _ _ upd_same
                obtain ⟨F3, hF3⟩ : ∃ F3, F3 = del F' a := ⟨_, rfl⟩
                have F3s : F3 a = none := by rw [hF3]; exact del_same
                have F3e : ∀ {b}, b ≠ a → F3 b = F' b := fun nb => by rw [hF3]; exact del_ne nb
                have F13 : Le F1 F3 := fun b u e => by
                  have nb : b ≠ a := fun z => by rw [z, hFa] at e; cases e
                  exact (F3e nb).trans (lF _ _ (f12 _ _ e))
                have F3' : Le F3 F' := fun b u e => by
                  by_cases nb : b = a
                  · rw [nb, F3s] at e; cases e
                  · rw [F3e nb] at e; exact e
                have F3n : ∀ b, F' b = none → F3 b = none := fun b e => by
                  by_cases nb : b = a
                  · rw [nb]; exact F3s
                  · rw [F3e nb]; exact e
                have sm : ∀ {b : Addr} {d : Dt} {Fz : Hp}, OwnAt T Fz H1 b d → inH H' b d = inH H1 b d := fun {b d Fz} o => o.same fun u e => keep b u e
                have k3 : Ok T π A F3 H' σ ρ1 := by
                  refine ⟨le_trans F3' le, k1.len, fun j d e => ?_, fun j io d e => ?_, fun j l jo lo d1 d2 b1 b2 w e1 e2 s1 s2 x1 x2 => ?_⟩
                  · obtain ⟨v, q1, q2⟩ := k1.val j d e
                    exact ⟨v, q1, q2.mono F13⟩
                  · obtain ⟨b, q1, q2, q3, q4, q5, q6⟩ := k1.own j io d e
                    have nt : ∀ w, (w = b ∨ w ∈ inH H1 b d) → F1 w = none → F3 w = none := fun w hw z => by
                      by_cases nb : w = a
                      · rw [nb]; exact F3s
                      · obtain ⟨u, e1, e2⟩ := q3.hasI hw
                        rw [F3e nb, nn w u e1 e2, upd_ne nb]
                        exact z
                    refine ⟨b, q1, nt b (.inl rfl) q2, q3.mono F13 fun w _ u e => keep w u e, q4, fun hio => ?_, fun w hw => ?_⟩
                    · rw [sm q3]; exact q5 hio
                    · rw [sm q3] at hw
                      exact ⟨nt w (.inr hw) (q6 w hw).1, (q6 w hw).2⟩
                  · obtain ⟨c1, q1, _, q3, _⟩ := k1.own j jo d1 e1
                    obtain ⟨c2, t1, _, t3, _⟩ := k1.own l lo d2 e2
                    rw [s1] at q1; cases q1
                    rw [s2] at t1; cases t1
                    exact k1.dis j l jo lo d1 d2 b1 b2 w e1 e2 s1 s2 (by rw [← sm q3]; exact x1) (by rw [← sm t3]; exact x2)
                have fr3 : Fr A F1 H1 F3 H' := ⟨F13, fun b u _ e => keep b u e, fun b u nA e t => by
                  have nb : b ≠ a := fun z => nA (z ▸ hA)
                  rw [F3e nb, nn b u e t, upd_ne nb], tt⟩
                have own3 : OwnAt T F3 H' z o := by
                  rw [hF3]
                  cases o with
                  | ins c1 ws =>
                    obtain ⟨C1, dx, ns1, us1, g1, g2, g3, g4⟩ := own
                    exact ⟨C1, dx, ns1, us1, g1, g2, g3, reps_del F'a g4 (by unfold noL at hno; exact hno)⟩
                  | dic t ks ws =>
                    have hw : noLs ws = true := by unfold noL at hno; exact hno
                    cases t with
                    | false => obtain ⟨kk, us1, g1, g2, g3, g4⟩ := own; exact ⟨kk, us1, g1, g2, g3, reps_del F'a g4 hw⟩
                    | true => obtain ⟨kk, us1, g1, g2, g3, g4⟩ := own; exact ⟨kk, us1, g1, g2, g3, reps_del F'a g4 hw⟩
                  | lst _ => cases hno
                  | deal _ _ => cases hno
                  | dcn _ _ => cases hno
                  | tbl _ => cases hno
                  | _ => exact own.elim
                refine p1 F3 H' k3 fr3 z (F3n z hz) (fun w => ?_) (r1.t z hz1) own3 fun w hw => ?_
                · exact k1.fresh_own hz1 ((k1.sameOwn fun b u _ e => keep b u e).mp w)
                · rw [hin] at hw; cases hw
              · exact p1.elim
            · exact p1.elim
          · exact p1.elim
        | _ => rw [ho] at p1; exact p1.elim⟩
end
end Dl
namespace L2
open PySem PySem.Spec PyProof.Rows
end L2
namespace L2
open PySem PySem.Spec PyProof.Rows
/-! ### list.count, flat items -/
end L2
namespace L2
open PySem PySem.Spec PyProof.Rows
section
variable {X : Cx} {CX : CXT} {k : Nat} {f : Addr} {fd : FuncData} {ps ks : List Str} {sp : Sp} {E : XK} {x : Str} {p pos : Pos} {kws : List Keyword} {tk : TA} {g : List Value → List Value → List Value} {gV : List V → List V → List V}
theorem PK.imp {t u : TA} (h : PK X kws t) (i : ∀ σ H Q, u σ H Q → t σ H Q) : PK X kws u := ⟨fun pos pins s σ H Q I q => h.run pos pins s σ H Q I (i σ H Q q)⟩
variable {ES : St → XK}
end
end L2
namespace Dl
open PySem PySem.Spec PyProof.Rows L2
/-! ### sorted() of lots of pairs, any number of them, the first one empty -/
def flP : List (Int × Int) → List Int
  | [] => []
  | x :: r => x.1 :: x.2 :: flP r
theorem flP_inj : ∀ {xs ys : List (Int × Int)}, flP xs = flP ys → xs = ys
  | [], [], _ => rfl
  | [], _ :: _, h => by cases h
  | _ :: _, [], h => by cases h
  | (a, b) :: xs, (c, d) :: ys, h => by
    have h' : a :: b :: flP xs = c :: d :: flP ys := h
    injection h' with h1 h2
    injection h2 with h2 h3
    rw [h1, h2, flP_inj h3]
theorem lex_anti : ∀ {xs ys : List Int}, HT.lexLt xs ys = false → HT.lexLt ys xs = false → xs = ys
  | [], [], _, _ => rfl
  | [], y :: ys, h, _ => by rw [HT.lexLt_nil_cons] at h; cases h
  | x :: xs, [], _, h => by rw [HT.lexLt_nil_cons] at h; cases h
  | x :: xs, y :: ys, h1, h2 => by
    rw [HT.lexLt_cons] at h1 h2
    by_cases e : x = y
    · subst e
      rw [if_pos rfl] at h1 h2
      rw [lex_anti h1 h2]
    · rw [if_neg e] at h1
      rw [if_neg (Ne.symm e)] at h2
      have a := of_decide_eq_false h1
      have b := of_decide_eq_false h2
      omega
end Dl
namespace Dl
open PySem PySem.Spec PyProof.Rows L2
/-! ### lots in order -/
def LLe (a b : List (Int × Int)) : Prop := HT.lexLt (flP b) (flP a) = false
instance (a b : List (Int × Int)) : Decidable (LLe a b) := by unfold LLe; infer_instance
theorem LLe.anti {a b : List (Int × Int)} (h : LLe a b) (k : LLe b a) : a = b := flP_inj (lex_anti k h)
theorem LLe.refl (a : List (Int × Int)) : LLe a a := by
  unfold LLe
  cases e : HT.lexLt (flP a) (flP a) with
  | false => rfl
  | true => have := NtL.lex_asym _ _ e; rw [e] at this; cases this
theorem LLe.trans {a b c : List (Int × Int)} (h : LLe a b) (k : LLe b c) : LLe a c := NtL.lex_tr _ _ _ h k
/-! ### as a rule -/
end Dl
namespace HNt
open PySem PySem.SeqAt PySem.Spec PyProof.Rows L2
open AutoSeq1 (wpAny_loadPart')
open MeetsSeq MeetsSeq2 MeetsSeq3 SeqRoads2
/-! ### tuple != tuple, whose things are equal pair by pair, own objects among them -/
end HNt
namespace HNl
open PySem PySem.SeqAt PySem.Spec PyProof.Rows L2
/-! ### xs != [], whatever stands in the list -/
end HNl
namespace Dl
open PySem PySem.Spec PyProof.Rows L2
/-! ### a slot's own list, lent to some statements, and held alone again behind them -/
section
variable {X : Cx} {T : Tx} {π : Nat → Option Pin} {W : WX} {c e : Expr} {pos : Pos} {m : Mi Dt} {mc : Mi Bool} {A : Addr → Prop} {F H F0 H0 : Hp} {σ : L2.St} {ρ : En} {s t : En → So} {st : Stmt} {rest : List Stmt} {ws : List Nat} {i : Nat}
def Keeps (ws : List Nat) (σ0 σ : L2.St) : Prop := σ.length = σ0.length ∧ ∀ j, j ∉ ws → σ[j]? = σ0[j]?
/-- as PostS, but of all names outside ws it is known that they stay -/
def PostF (T : Tx) (π : Nat → Option Pin) (W : WX) (A : Addr → Prop) (F0 H0 : Hp) (ws : List Nat) (σ0 : L2.St) (D : Ends) : So → Prop
  | .nx ρ' => ∀ σ' F' H', Keeps ws σ0 σ' → StOk T π A F0 H0 F' H' σ' ρ' → D.nx σ' H'
  | .rt d ρ' => ∀ σ' F' H' v, StOk T π A F0 H0 F' H' σ' ρ' → Rep T F' v d → D.rt v H'
  | .exc x ρ' => ∀ σ' F' H' cls d, StOk T π A F0 H0 F' H' σ' ρ' → RepX T F' H' cls d x → W cls d σ' H'
  | _ => False
def TMf (T : Tx) (π : Nat → Option Pin) (W : WX) (ws : List Nat) (s : En → So) : TS := fun D σ H => ∃ A F0 H0 F ρ σ0, Keeps ws σ0 σ ∧ StOk T π A F0 H0 F H σ ρ ∧ PostF T π W A F0 H0 ws σ0 D (s ρ)
theorem PostF.bind {α : Type} {D : Ends} {σ0 : L2.St} {m : Mi α} {k : α → En → So} (p : PostF T π W A F0 H0 ws σ0 D (sBind m k ρ)) (s : StOk T π A F0 H0 F H σ ρ) :
    Post T π W σ (fun a => A a ∨ H0 a = none) F H (fun a ρ1 F1 H1 => StOk T π A F0 H0 F1 H1 σ ρ1 ∧ PostF T π W A F0 H0 ws σ0 D (k a ρ1)) (m ρ) := by
  unfold sBind at p
  cases e : m ρ with
  | ok x ρ1 =>
    rw [e] at p
    exact fun F1 H1 k1 r1 => ⟨s.step k1 r1, p⟩
  | exc x ρ1 =>
    rw [e] at p
    exact fun F1 H1 c d k1 r1 x => p σ F1 H1 c d (s.step k1 r1) x
  | bad => rw [e] at p; exact p.elim
theorem dsf_asg (hi : i ∈ ws) (h : PS X st (tAsg (TMe T π W m) (gName i))) : PS X st (TMf T π W ws (sSet i m)) := h.imp fun D σ H ⟨A, F0, H0, F, ρ, σ0, fr, k, p⟩ => ⟨_, F, ρ, k.ok, (p.bind k).imp fun d ρ1 F1 H1 _ _ ⟨k1, p1⟩ v rv => by
  unfold sPut at p1
  cases e : setSl i (.val d) ρ1 with
  | none => rw [e] at p1; exact p1.elim
  | some ρ' =>
    rw [e] at p1
    exact p1 _ F1 H1 ⟨by rw [List.length_set]; exact fr.1, fun j hj => (List.getElem?_set_ne (fun z : i = j => hj (z ▸ hi))).trans (fr.2 j hj)⟩ ⟨k1.ok.set rv e, k1.fr⟩⟩
/-- a branch that only returns, or raises -/
def noNx : So → So
  | .rt d ρ => .rt d ρ
  | .exc x ρ => .exc x ρ
  | _ => .bad
theorem dsf_if {x : List Stmt} (hc : PT X c (TMt T π W mc)) (ha : PSs X x (TMs T π W s)) : PS X (.If c x [] pos) (TMf T π W ws (sIf mc (fun ρ => noNx (s ρ)) (fun ρ => .nx ρ))) :=
  (ps_if hc ha pss_nil).imp fun D σ H ⟨A, F0, H0, F, ρ, σ0, fr, k, p⟩ => ⟨_, F, ρ, k.ok, (p.bind k).imp fun b ρ1 F1 H1 _ _ ⟨k1, p1⟩ => by
    cases b with
    | true =>
      refine iteT ⟨A, F0, H0, F1, ρ1, k1, ?_⟩
      dsimp only at p1
      cases e : s ρ1 with
      | rt d ρ2 => rw [e] at p1; exact p1
      | exc d ρ2 => rw [e] at p1; exact p1
      | _ => rw [e] at p1; exact p1.elim
    | false => exact iteF (p1 σ F1 H1 fr k1)⟩
/-- what is held alone, and holds no lists -/
def ownNo : Dt → Bool
  | .lst xs => noLs xs
  | .ins _ vs => noLs vs
  | _ => false
theorem join_some {ρ : En} {j : Nat} {z : Sl} (h : ρ[j]?.join = some z) : ρ[j]? = some (some z) := by
  cases e : ρ[j]? with
  | none => rw [e] at h; cases h
  | some o => rw [e] at h; cases o with
    | none => cases h
    | some y => cases h; rfl
theorem own_del {F H : Hp} {a b : Addr} {us : List V} {d : Dt} (h : F a = some (.lst us)) (o : OwnAt T F H b d) (hn : ownNo d = true) : OwnAt T (del F a) H b d := by
  cases d with
  | lst xs =>
    obtain ⟨vs, h1, r⟩ := o
    exact ⟨vs, h1, reps_del h r hn⟩
  | ins c vs =>
    obtain ⟨C, dx, ns, ws, g1, g2, g3, g4⟩ := o
    exact ⟨C, dx, ns, ws, g1, g2, g3, reps_del h g4 hn⟩
  | _ => cases hn
end
end Dl
namespace NK
open PySem PySem.Spec PyProof.Rows L2
/-! ### d[k], k in d, d[k] = v, {}, for k in d: keys an int and a tuple of ints -/
/-! ### the walk -/
theorem Held.size {X : Cx} {s : Shared} {a : Addr} {ob : Obj} {kvs : List NE} {us : List Value} {es : Array DictEntry} {ep : Nat} (h : Held X s a ob kvs us es ep) : es.size = kvs.length := by
  have := congrArg List.length h.ent
  rw [Array.length_toList, List.length_zipWith] at this
  have l : us.length = kvs.length := by
    have := h.vs.length
    rw [List.length_map] at this
    omega
  omega
end NK
namespace Dl
open PySem PySem.Spec PyProof.Rows L2
/-! ### a slot's own thing, lent to some statements; what they name anew is kept where it holds no lists and no such dicts -/
section
variable {X : Cx} {T : Tx} {π : Nat → Option Pin} {W : WX} {c e : Expr} {pos : Pos} {m : Mi Dt} {mc : Mi Bool} {A : Addr → Prop} {F H F0 H0 : Hp} {σ : L2.St} {ρ : En} {s t : En → So} {st : Stmt} {rest : List Stmt} {ws : List Nat} {i : Nat}
theorem setAll_keep {j : Nat} : ∀ {is : List Nat} {vs : List V} {σ : L2.St}, j ∉ is → (setAll is vs σ)[j]? = σ[j]?
  | [], _, _, _ => rfl
  | _ :: _, [], _, _ => rfl
  | i :: is, v :: vs, σ, h => by
    show (setAll is vs (σ.set i (some v)))[j]? = _
    rw [setAll_keep (fun z => h (List.mem_cons_of_mem _ z)), List.getElem?_set_ne fun z : i = j => h (by rw [z]; exact List.mem_cons_self)]
theorem setAll_len : ∀ {is : List Nat} {vs : List V} {σ : L2.St}, (setAll is vs σ).length = σ.length
  | [], _, _ => rfl
  | _ :: _, [], _ => rfl
  | i :: is, v :: vs, σ => by
    show (setAll is vs (σ.set i (some v))).length = _
    rw [setAll_len, List.length_set]
theorem dsf_pars {is : List Nat} {ks : List Bool} {ms : Mi (List Dt)} (hi : ∀ i ∈ is, i ∈ ws) (h : PS X st (fun D σ H => TMk T π W ks ms σ H fun vs H1 => D.nx (setAll is vs σ) H1)) : PS X st (TMf T π W ws (sPars is ks ms)) := h.imp fun D σ H ⟨A, F0, H0, F, ρ, σ0, fr, k, p⟩ =>
  ⟨IsOwn H σ ρ, F, ρ, k.ok.tight, fun a w => k.ok.there w, ((p.bind k).weak fun a w => k.ok.ownA w).imp fun ds ρ1 F1 H1 k1' r1 ⟨k1, p1⟩ vs as g ha => by
    cases e : putSls is ks ds ρ1 with
    | none => rw [e] at p1; exact p1.elim
    | some ρ' =>
      rw [e] at p1
      refine p1 _ F1 H1 ⟨setAll_len.trans fr.1, fun j hj => (setAll_keep fun z => hj (hi j z)).trans (fr.2 j hj)⟩ ⟨ok_puts g k1.ok (fun a z => ⟨fun w => ?_, .inr (k.fr.t a (ha a z))⟩) e, k1.fr⟩
      exact k.ok.there (k1'.ownA w) (ha a z)⟩
end
end Dl
namespace Dl
open PySem PySem.Spec PyProof.Rows L2
/-! ### rows of two new lists each, that are changed behind some statements -/
/-- a tuple of two lists that are new since H0 -/
def Nw (H0 F : Hp) (v : V) : Prop := ∃ t b1 b2 us1 us2, v = .ref t ∧ F t = some (.tup [.ref b1, .ref b2]) ∧ F b1 = some (.lst us1) ∧ F b2 = some (.lst us2) ∧ H0 b1 = none ∧ H0 b2 = none ∧ b1 ≠ b2
theorem Nw.mono {H0 F F' : Hp} {v : V} (l : Le F F') (h : Nw H0 F v) : Nw H0 F' v := by
  obtain ⟨t, b1, b2, us1, us2, h1, h2, h3, h4, h5⟩ := h
  exact ⟨t, b1, b2, us1, us2, h1, l _ _ h2, l _ _ h3, l _ _ h4, h5⟩
theorem Nw.anti {H0 H1 F : Hp} {v : V} (l : ∀ a, H1 a = none → H0 a = none) (h : Nw H1 F v) : Nw H0 F v := by
  obtain ⟨t, b1, b2, us1, us2, h1, h2, h3, h4, h5, h6, h7⟩ := h
  exact ⟨t, b1, b2, us1, us2, h1, h2, h3, h4, l _ h5, l _ h6, h7⟩
section
variable {X : Cx} {T : Tx} {π : Nat → Option Pin} {W : WX} {c e : Expr} {es : List Expr} {pos : Pos} {m m1 m2 : Mi Dt} {mc : Mi Bool} {ms : Mi (List Dt)} {A : Addr → Prop} {F H F0 H0 : Hp} {σ : L2.St} {ρ : En} {s t : En → So} {st : Stmt} {rest tail : List Stmt} {ws : List Nat} {i : Nat}
/-- a list, new and kept -/
def TMl (T : Tx) (π : Nat → Option Pin) (W : WX) (m : Mi Dt) : TE := fun σ H Q => ∃ A F ρ, Ok T π A F H σ ρ ∧ Post T π W σ A F H (fun d _ F' H' => ∀ x us, Rep T F' (.ref x) d → F' x = some (.lst us) → H x = none → Q (.ref x) H') (m ρ)
/-- a row of two new lists -/
def TMwR (T : Tx) (π : Nat → Option Pin) (W : WX) (m : Mi Dt) : TE := fun σ H Q => ∃ A F ρ, Ok T π A F H σ ρ ∧ Post T π W σ A F H (fun d _ F' H' => ∀ v, Rep T F' v d → Nw H F' v → Q v H') (m ρ)
def mLs (m : Mi Dt) : Mi Dt := mBind m fun d => match d with
  | .lst xs => mPure (.lst xs)
  | _ => mBad
theorem _root_.L2.PE.keepL (h : PE X e (TMn T π W m)) : PE X e (TMl T π W (mLs m)) := h.imp fun σ H Q ⟨A, F, ρ, k, p⟩ => ⟨A, F, ρ, k, by
  unfold mLs mBind at p
  cases e : m ρ with
  | bad => rw [e] at p; exact p.elim
  | exc x ρ1 => rw [e] at p; exact p
  | ok d ρ1 =>
    rw [e] at p
    dsimp only at p
    cases d with
    | lst xs =>
      intro F' H' k' r' x hx nx hp ho hi
      obtain ⟨us, hus, rus⟩ := ho
      have k2 : Ok T π A (upd F' x (.lst us)) H' σ ρ1 := k'.grow (le_new hx) (fun b u z => by
        by_cases nb : b = x
        · rw [nb, upd_same] at z; cases z; rw [nb]; exact hus
        · rw [upd_ne nb] at z; exact k'.le _ _ z) (fun b w => by rw [upd_ne fun z => nx (by rw [← z]; exact w)]; exact (k'.ownH w).2.1) fun b u w z => z
      have r2 : Fr A F H (upd F' x (.lst us)) H' := ⟨le_trans r'.f (le_new hx), r'.h, fun b o hb z t => by
        rw [upd_ne fun nb => by rw [nb, hp] at z; cases z]
        exact r'.n b o hb z t, r'.t⟩
      exact p _ _ k2 r2 x us (.lst upd_same (rus.mono (le_new hx))) upd_same hp
    | _ => exact p.elim⟩
theorem de_tupW {e1 e2 : Expr} {x1} (h1 : PE X e1 (TMl T π W m1)) (h2 : PE X e2 (TMl T π W m2)) (hs1 : starEach (e1 :: [e2]) X.env = (false, eval e1 X.env) :: starEach [e2] X.env := by rfl) (hs2 : starEach (e2 :: []) X.env = (false, eval e2 X.env) :: starEach [] X.env := by rfl) :
    PE X (.Tuple [e1, e2] x1 pos) (TMwR T π W (mTup (mCons m1 (mCons m2 (mPure []))))) := (pe_tup (pa_cons h1 (pa_cons h2 pa_nil hs2) hs1)).imp fun σ H Q ⟨A, F, ρ, k, p⟩ => ⟨A, F, ρ, k, p.bind.bind.imp fun d1 ρ1 F1 H1 k1 r1 p1 b1 us1 rb1 hb1 n1 => ⟨A, F1, ρ1, k1, p1.bind.bind.imp fun d2 ρ2 F2 H2 k2 r2 p2 b2 us2 rb2 hb2 n2 => by
    have p3 := ((p2.pure k2).pure k2)
    split at p3
    · rename_i hl
      refine ⟨by show [V.ref b1, V.ref b2].length ≤ sizeLine; simpa using hl, fun t ht => ?_⟩
      have ft := f_none k2.le ht
      have k4 := k2.new (o := .tup [V.ref b1, V.ref b2]) ht
      refine p3 _ _ k4 (.new k2.le ht) (.ref t) (.tup upd_same ((Reps.cons (rb1.mono r2.f) (.cons rb2 .nil)).mono (le_new ft))) ⟨t, b1, b2, us1, us2, rfl, upd_same, le_new ft _ _ (r2.f _ _ hb1), le_new ft _ _ hb2, n1, r1.t _ n2, fun z => ?_⟩
      rw [← z, k1.le _ _ hb1] at n2
      cases n2
    · exact p3.elim⟩⟩
/-- a list of such rows -/
def TMr (T : Tx) (π : Nat → Option Pin) (W : WX) (m : Mi Dt) : TE := fun σ H Q => ∃ A F ρ, Ok T π A F H σ ρ ∧ Post T π W σ A F H (fun d _ F' H' => ∀ p us, F' p = some (.lst us) → Rep T F' (.ref p) d → (∀ v ∈ us, Nw H F' v) → Q (.ref p) H') (m ρ)
theorem tlcW_of {g : Dt → En → Option En} {sl vs : List Nat} {mt : Mi Bool} {me : Mi Dt} {Q : VK} (hsl : ∀ i ∈ sl, i ∈ vs) (h : TMr T π W (mLc ms g mt me vs) σ H Q) : tLc (TMi T π W ms) (TMg T π g sl) (TMt T π W0 mt) (TMwR T π W0 me) vs σ H Q := by
  obtain ⟨A0, F, ρ, k, p⟩ := h
  refine ⟨IsOwn H σ ρ, F, ρ, k.tight, ((p.weak (A' := IsOwn H σ ρ) fun a z => k.ownA z).bind).imp fun ds ρ1 F1 H1 k1 r1 p1 J w D hD => ?_⟩
  have nA : ¬ IsOwn H σ ρ D := k.fresh_own (r1.t D hD)
  by_cases hown : ownAny ρ1 vs = true
  · rw [if_pos hown] at p1; exact p1.elim
  · rw [if_neg hown] at p1
    have hown : ownAny ρ1 vs = false := by simpa using hown
    cases el : lcGo g mt me vs ds [] (wipeE ρ1 vs) with
    | exc x r => rw [el] at p1; exact p1.elim
    | bad => rw [el] at p1; exact p1.elim
    | ok accF ρF =>
      rw [el] at p1
      refine lc_it (walk_of_wk w) (fun i Hc => ∃ F ρ' acc vacc, Ok T π (IsOwn H σ ρ) F Hc (wipe σ vs) ρ' ∧ Fr (IsOwn H σ ρ) F1 H1 F Hc ∧ F D = none ∧ Hc D = some (.lst vacc) ∧ Reps T F vacc acc ∧ (∀ v ∈ vacc, Nw H1 F v) ∧ lcGo g mt me vs (ds.drop i) acc ρ' = .ok accF ρF)
        ⟨F1, wipeE ρ1 vs, [], [], (k1.newO hD).wipe vs, .newO hD, f_none k1.le hD, upd_same, .nil, (fun _ z => nomatch z), el⟩ (fun i Hc _ ⟨F, _, _, _, k, r, _⟩ => le_trans r.f k.le) (fun i x Hc H' hi ⟨F2, ρ', acc, vacc, k2, r2, fD, hDc, rs, nw, eg⟩ y => ?_) (fun Hc ⟨F2, ρ', acc, vacc, k2, r2, fD, hDc, rs, nw, eg⟩ => ?_)
      · have hd : ds[i]? = some ds[i] := List.getElem?_eq_getElem hi
        obtain ⟨F3, k3, r3, rx, l3⟩ := w.turn hd k2 r2.f y
        rw [List.drop_eq_getElem_cons hi] at eg
        unfold lcGo at eg
        cases e1 : g ds[i] ρ' with
        | none => rw [e1] at eg; cases eg
        | some ρ2 =>
          rw [e1] at eg
          dsimp only at eg
          refine ⟨_, F3, ρ', ds[i], ρ2, k3, rx, e1, fun σ2 k4 l4 s4 => ?_⟩
          have ew : wipe σ2 vs = wipe σ vs := by
            rw [wipe_ext (σ := wipe σ vs) (σ' := σ2) l4 fun i hi => s4 i fun z => hi (hsl i z), wipe_wipe]
          refine ⟨ew, _, F3, ρ2, k4, ?_⟩
          have keep : ∀ {F5 H5 : Hp} {ρ5 : En}, Ok T π (IsOwn H σ ρ) F5 H5 σ2 ρ5 → Fr (IsOwn H σ ρ) F3 H' F5 H5 → H5 D = some (.lst vacc) ∧ F5 D = none ∧ Reps T F5 vacc acc ∧ Fr (IsOwn H σ ρ) F1 H1 F5 H5 ∧ Ok T π (IsOwn H σ ρ) F5 H5 (wipe σ vs) (wipeE ρ5 vs) ∧ (∀ v ∈ vacc, Nw H1 F5 v) := fun {F5 H5 ρ5} k5 r5 => by
            have rr := r3.trans r5
            refine ⟨rr.h D _ nA hDc, ?_, rs.mono rr.f, r2.trans rr, by rw [← ew]; exact k5.wipe vs, fun v hv => (nw v hv).mono rr.f⟩
            rw [rr.n D _ nA hDc (fun _ z => nomatch z)]; exact fD
          cases e2 : mt ρ2 with
          | exc x r => rw [e2] at eg; cases eg
          | bad => rw [e2] at eg; cases eg
          | ok b ρ3 =>
            rw [e2] at eg
            intro F5 H5 k5 r5
            cases b with
            | false =>
              obtain ⟨q1, q2, q3, q4, q5, q6⟩ := keep k5 r5
              exact iteF ⟨F5, _, acc, vacc, q5, q4, q2, q1, q3, q6, eg⟩
            | true =>
              dsimp only at eg
              refine iteT ⟨_, F5, ρ3, k5, ?_⟩
              cases e3 : me ρ3 with
              | exc x r => rw [e3] at eg; cases eg
              | bad => rw [e3] at eg; cases eg
              | ok yv ρ4 =>
                rw [e3] at eg
                dsimp only at eg
                intro F6 H6 k6 r6 v rv nv
                obtain ⟨q1, q2, q3, q4, q5, q6⟩ := keep k6 (r5.trans r6)
                obtain ⟨_, _, _, s4, _, _⟩ := keep k5 r5
                by_cases hz : acc.length < sizeLine
                · rw [if_pos hz] at eg
                  refine ⟨vacc, q1, by rw [rs.length]; exact hz, F6, _, acc ++ [yv], vacc ++ [v], q5.upd_other q2 nA, ?_, q2, upd_same, q3.append (.cons rv .nil), fun z hz => ?_, eg⟩
                  · exact ⟨q4.f, fun a o n e => by
                      rw [upd_ne fun z => by rw [z, hD] at e; cases e]; exact q4.h a o n e, q4.n, fun a e => q4.t a (up_none e)⟩
                  · rcases List.mem_append.mp hz with hz | hz
                    · exact q6 z hz
                    · rw [List.mem_singleton.mp hz]; exact nv.anti s4.t
                · rw [if_neg hz] at eg; cases eg
      · have e : ds.drop ds.length = [] := List.drop_length
        rw [e] at eg
        unfold lcGo at eg
        cases eg
        have k5 := k1.rest hown r2.f k2
        have le5 : Le F2 (upd F2 D (.lst vacc)) := le_new fD
        have k6 : Ok T π (IsOwn H σ ρ) (upd F2 D (.lst vacc)) Hc σ (restE ρ1 ρF vs) := k5.grow le5 (fun b u z => by
          by_cases nb : b = D
          · rw [nb, upd_same] at z; cases z; rw [nb]; exact hDc
          · rw [upd_ne nb] at z; exact k5.le _ _ z) (fun b w => by rw [upd_ne fun z => nA (by rw [← z]; exact k5.ownA w)]; exact (k5.ownH w).2.1) fun b u w z => z
        have r6 : Fr (IsOwn H σ ρ) F1 H1 (upd F2 D (.lst vacc)) Hc := ⟨le_trans r2.f le5, r2.h, fun b o hb z t => by
          rw [upd_ne fun nb => by rw [nb, hD] at z; cases z]
          exact r2.n b o hb z t, r2.t⟩
        exact p1 _ Hc k6 r6 D vacc upd_same (.lst upd_same (rs.mono le5)) fun v hv => ((nw v hv).mono le5).anti r1.t
/-! ### in a frame on names -/
theorem dsf_expr (he : PE X e (TMe T π W m)) (hs : swapsWith e none pos.line X.env = pure false := by rfl) : PS X (.Expr e pos) (TMf T π W ws (sDrop m)) := (ps_expr he hs).imp fun D σ H ⟨A, F0, H0, F, ρ, σ0, fr, k, p⟩ => ⟨_, F, ρ, k.ok, (p.bind k).imp fun d ρ1 F1 H1 _ _ ⟨k1, p1⟩ v rv => p1 σ F1 H1 fr k1⟩
theorem dsf_par {i j : Nat} {k1 k2 : Bool} (hi : ∀ x ∈ [i, j], x ∈ ws) (h : PS X st (tPar i j (TMk T π W [k1, k2] ms))) : PS X st (TMf T π W ws (sPars [i, j] [k1, k2] ms)) := dsf_pars hi (h.imp fun D σ H ⟨A, F, ρ, k, ht, p⟩ => ⟨A, F, ρ, k, ht, p.imp fun ds ρ' F' H' _ _ q vs as g ha => by
  have hl := g.length
  match vs, hl, g with
  | [u, v], _, g => exact ⟨u, v, rfl, q _ _ g ha⟩⟩)
theorem dsf_last {u : TS} (h1 : PS X st (TMf T π W ws s)) (h2 : PSs X tail u) : PSs X (st :: tail) (fun D σ H => TMf T π W ws s { D with nx := u D } σ H) := pss_cons h1 h2
theorem dsf_into {u : TS} (h1 : PS X st (TMf T π W ws s)) (h2 : PSs X tail (fun D σ H => TMf T π W ws t { D with nx := u D } σ H)) : PSs X (st :: tail) (fun D σ H => TMf T π W ws (sSeq s t) { D with nx := u D } σ H) :=
  (pss_cons h1 h2).imp fun D σ H ⟨A, F0, H0, F, ρ, σ0, fr, k, p⟩ => ⟨A, F0, H0, F, ρ, σ0, fr, k, by
    unfold sSeq at p
    cases e : s ρ with
    | nx ρ' => rw [e] at p; exact fun σ' F' H' fr' k' => ⟨A, F0, H0, F', ρ', σ0, fr', k', p⟩
    | rt d ρ' => rw [e] at p; exact p
    | exc d ρ' => rw [e] at p; exact p
    | _ => rw [e] at p; exact p.elim⟩
/-! ### the block -/
def bkF (ws : List Nat) (i j : Nat) (o o' : Option Sl) : Option Sl := if j = i then none else match o' with
  | some (.own io d) => if ownNo d = true then some (.own io d) else none
  | some (.val d) => if noL d = true then some (.val d) else if j ∈ ws then none else (match o with | some (.val d0) => some (.val d0) | _ => none)
  | none => none
def bkFE (ws : List Nat) (i : Nat) (ρ ρ' : En) : En := (List.range ρ.length).map fun j => bkF ws i j (ρ[j]?.join) (ρ'[j]?.join)
def rowOf : Dt → Option (List Int × List Int)
  | .lst (.tup [.lst xs, .lst ys] :: _) => (match intsOf xs, intsOf ys with
    | some a, some b => some (a, b)
    | _, _ => none)
  | _ => none
/-- rows of new lists; some statements; then to the two lists of the first row 0 is put -/
def sFresh (i : Nat) (ws : List Nat) (m : Mi Dt) (s t : En → So) : En → So := fun ρ => match m ρ with
  | .ok d ρ1 => (match rowOf d, setSl i (.val d) ρ1 with
    | some (n1, n2), some ρ2 => (match s ρ2 with
      | .nx ρ' => if i ∉ ws ∧ n1.length < sizeLine ∧ n2.length < sizeLine then t (bkFE ws i ρ ρ') else .bad
      | .rt d ρ' => .rt d ρ'
      | .exc x ρ' => .exc x ρ'
      | _ => .bad)
    | _, _ => .bad)
  | .exc x ρ1 => .exc x ρ1
  | .bad => .bad
theorem bkF_get {ρ ρ' : En} {j : Nat} {z : Sl} (h : (bkFE ws i ρ ρ')[j]? = some (some z)) : j < ρ.length ∧ bkF ws i j (ρ[j]?.join) (ρ'[j]?.join) = some z := by
  have hj : j < ρ.length := by
    rcases Nat.lt_or_ge j ρ.length with q | q
    · exact q
    · rw [List.getElem?_eq_none (by unfold bkFE; rw [List.length_map, List.length_range]; exact q)] at h; cases h
  unfold bkFE at h
  rw [List.getElem?_map, List.getElem?_range hj] at h
  exact ⟨hj, Option.some.inj h⟩
theorem bkF_val {ρ ρ' : En} {j : Nat} {d : Dt} (h : (bkFE ws i ρ ρ')[j]? = some (some (.val d))) : j ≠ i ∧ ((ρ'[j]? = some (some (.val d)) ∧ noL d = true) ∨ (j ∉ ws ∧ ρ[j]? = some (some (.val d)))) := by
  obtain ⟨hj, h⟩ := bkF_get h
  unfold bkF at h
  split at h
  · cases h
  · rename_i hji
    refine ⟨hji, ?_⟩
    split at h
    · split at h <;> cases h
    · rename_i d1 e1
      split at h
      · rename_i hn
        cases h
        exact .inl ⟨join_some e1, hn⟩
      · split at h
        · cases h
        · rename_i hw
          split at h
          · rename_i d2 e2
            cases h
            exact .inr ⟨hw, join_some e2⟩
          · cases h
    · cases h
theorem bkF_own {ρ ρ' : En} {j : Nat} {io : Bool} {d : Dt} (h : (bkFE ws i ρ ρ')[j]? = some (some (.own io d))) : j ≠ i ∧ ρ'[j]? = some (some (.own io d)) ∧ ownNo d = true := by
  obtain ⟨hj, h⟩ := bkF_get h
  unfold bkF at h
  split at h
  · cases h
  · rename_i hji
    split at h
    · rename_i io1 d1 e1
      split at h
      · rename_i hn
        cases h
        exact ⟨hji, join_some e1, hn⟩
      · cases h
    · split at h
      · cases h
      · split at h
        · cases h
        · split at h <;> cases h
    · cases h
theorem rowOf_inv {d : Dt} {n1 n2 : List Int} (h : rowOf d = some (n1, n2)) : ∃ zs, d = .lst (.tup [.lst (n1.map .int), .lst (n2.map .int)] :: zs) := by
  unfold rowOf at h
  split at h
  · rename_i xs ys zs
    split at h
    · rename_i a b ea eb
      cases h
      rw [ints_inv ea, ints_inv eb]
      exact ⟨zs, rfl⟩
    · cases h
  · cases h
theorem inH_no {d : Dt} {a : Addr} (h : ownNo d = true) : inH H a d = [] := by
  cases d with
  | lst _ => rfl
  | ins _ _ => rfl
  | _ => cases h
theorem own_no {H' : Hp} {b : Addr} {d : Dt} (hn : ownNo d = true) (hb : ∀ o, H b = some o → H' b = some o) (o : OwnAt T F H b d) : OwnAt T F H' b d :=
  o.mono (le_refl F) fun x hx u e => by
    rw [inH_no hn] at hx
    rcases hx with hx | hx
    · rw [hx] at e ⊢; exact hb u e
    · cases hx
theorem ixL0 {K : PySem.W.Frag} {a : Addr} {v : V} {us : List V} {Q : VK} (h : H a = some (.lst (v :: us))) (q : Q v H) : rIx K (.ref a) (.int 0) H Q := .inl ⟨a, _, 0, v, rfl, rfl, SqL.of h, by
  show (ixN (us.length + 1) 0).bind _ = _
  unfold ixN
  rw [if_pos (Int.le_refl 0), if_pos (by omega)]
  rfl, q⟩
theorem ixT0 {K : PySem.W.Frag} {a : Addr} {v w : V} {Q : VK} (h : H a = some (.tup [v, w])) (q : Q v H) : rIx K (.ref a) (.int 0) H Q := .inr (.inl ⟨a, _, 0, v, rfl, rfl, SqT.of h, rfl, q⟩)
theorem ixT1 {K : PySem.W.Frag} {a : Addr} {v w : V} {Q : VK} (h : H a = some (.tup [v, w])) (q : Q w H) : rIx K (.ref a) (.int 1) H Q := .inr (.inl ⟨a, _, 1, w, rfl, rfl, SqT.of h, rfl, q⟩)
def tApp (K : PySem.W.Frag) (i : Nat) (z : Int) : TE := tBM K "list" rAppend (tOp (rIx K) (tOp (rIx K) (tVar i) (tC (.int 0))) (tC (.int z))) (tCons (tC (.int 0)) tNil)
theorem dss_fresh {st0 : Stmt} {g : Dt → En → Option En} {sl vs : List Nat} {mt : Mi Bool} {me : Mi Dt} (hsl : ∀ i ∈ sl, i ∈ vs) (h0 : PS X st0 (tAsg (tLc (TMi T π W ms) (TMg T π g sl) (TMt T π W0 mt) (TMwR T π W0 me) vs) (gName i)))
    (hm : PSs X tail (fun D σ H => TMf T π W ws s { D with nx := (tSeq (tDrop (tApp X.K i 0)) (tSeq (tDrop (tApp X.K i 1)) (TMs T π W t))) D } σ H)) : PSs X (st0 :: tail) (TMs T π W (sFresh i ws (mLc ms g mt me vs) s t)) := (pss_cons h0 hm).imp fun D σ H ⟨A, F0, H0, F, ρ, k, p⟩ => by
  show tLc _ _ _ _ vs σ H (fun x H1 => TMf T π W ws s { D with nx := (tSeq (tDrop (tApp X.K i 0)) (tSeq (tDrop (tApp X.K i 1)) (TMs T π W t))) D } (σ.set i (some x)) H1)
  refine tlcW_of (W := W) hsl ⟨_, F, ρ, k.ok, ?_⟩
  unfold sFresh at p
  cases e : mLc ms g mt me vs ρ with
  | bad => rw [e] at p; exact p.elim
  | exc x ρ1 =>
    rw [e] at p
    exact fun F1 H1 c d k1 r1 x => p σ F1 H1 c d (k.step k1 r1) x
  | ok d ρ1 =>
    rw [e] at p
    dsimp only at p
    intro F1 H1 k1 r1 a us ha ra nw
    cases er : rowOf d with
    | none => rw [er] at p; exact p.elim
    | some nn =>
      obtain ⟨n1, n2⟩ := nn
      cases es : setSl i (.val d) ρ1 with
      | none => rw [er, es] at p; exact p.elim
      | some ρ2 =>
        rw [er, es] at p
        dsimp only at p
        have ks := k.step k1 r1
        have k2 := k1.set ra es
        have hil : i < σ.length := by
          rw [k1.len]; exact (setSl_inv es).1
        refine ⟨_, F1, H1, F1, ρ2, σ.set i (some (.ref a)), ⟨rfl, fun _ _ => rfl⟩, ⟨k2.weak fun _ z => .inl z, .refl⟩, ?_⟩
        cases em : s ρ2 with
        | rt d' ρ' =>
          rw [em] at p
          exact fun σ' F' H' v k' rv => p σ' F' H' v (ks.rebase k') rv
        | exc x ρ' =>
          rw [em] at p
          exact fun σ' F' H' c d' k' rx => p σ' F' H' c d' (ks.rebase k') rx
        | nx ρ' =>
          rw [em] at p
          dsimp only at p
          split at p
          · rename_i hc
            obtain ⟨hi, hn1, hn2⟩ := hc
            intro σ' F' H' fr k'
            obtain ⟨zs, ed⟩ := rowOf_inv er
            subst ed
            cases ra with
            | lst q r =>
              rw [ha] at q
              cases q
              cases r with
              | @cons v0 us0 _ _ rv0 rus0 =>
                obtain ⟨tt, b1, b2, us1, us2, ev, htt, hb1, hb2, new1, new2, nb⟩ := nw v0 List.mem_cons_self
                subst ev
                cases rv0 with
                | tup q r =>
                  rw [htt] at q
                  cases q
                  cases r with
                  | cons rb1 r => cases r with
                    | cons rb2 r =>
                      cases rb1 with
                      | lst q1 i1 =>
                        rw [hb1] at q1
                        cases q1
                        cases rb2 with
                        | lst q2 i2 =>
                          rw [hb2] at q2
                          cases q2
                          have e1 := reps_ints i1
                          have e2 := reps_ints i2
                          subst e1 e2
                          obtain ⟨frl, fr⟩ := fr
                          have f1 := k'.fr.f
                          have ga := k'.ok.le _ _ (f1 _ _ ha)
                          have gt := k'.ok.le _ _ (f1 _ _ htt)
                          have g1 := k'.ok.le _ _ (f1 _ _ hb1)
                          have g2 := k'.ok.le _ _ (f1 _ _ hb2)
                          have si : σ'[i]? = some (some (.ref a)) := (fr i hi).trans (List.getElem?_set_self hil)
                          have na1 : a ≠ b1 := fun z => by
                            rw [z, hb1] at ha
                            cases n1 with
                            | nil => cases ha
                            | cons _ _ => cases ha
                          have na2 : a ≠ b2 := fun z => by
                            rw [z, hb2] at ha
                            cases n2 with
                            | nil => cases ha
                            | cons _ _ => cases ha
                          have nt1 : tt ≠ b1 := fun z => by rw [z, hb1] at htt; cases htt
                          have F1b1 := f1 _ _ hb1
                          have F1b2 := f1 _ _ hb2
                          obtain ⟨H5, eH5⟩ : ∃ H5, H5 = upd H' b1 (.lst (n1.map V.int ++ [.int 0])) := ⟨_, rfl⟩
                          obtain ⟨H6, eH6⟩ : ∃ H6, H6 = upd H5 b2 (.lst (n2.map V.int ++ [.int 0])) := ⟨_, rfl⟩
                          have H5e : ∀ {b}, b ≠ b1 → H5 b = H' b := fun z => by rw [eH5]; exact upd_ne z
                          have H6e : ∀ {b}, b ≠ b1 → b ≠ b2 → H6 b = H' b := fun z y => by rw [eH6]; exact (upd_ne y).trans (H5e z)
                          have H6n : ∀ {b}, H6 b = none → H' b = none := fun z => by rw [eH6] at z; have := up_none z; rw [eH5] at this; exact up_none this
                          obtain ⟨F3, hF3⟩ : ∃ F3, F3 = del (del F' b1) b2 := ⟨_, rfl⟩
                          have F3e : ∀ {b}, b ≠ b1 → b ≠ b2 → F3 b = F' b := fun z y => by rw [hF3]; exact (del_ne y).trans (del_ne z)
                          have F31 : F3 b1 = none := by rw [hF3]; exact (del_ne nb).trans del_same
                          have F32 : F3 b2 = none := by rw [hF3]; exact del_same
                          have F3' : Le F3 F' := fun b u e => by
                            by_cases z1 : b = b1
                            · rw [z1, F31] at e; cases e
                            · by_cases z2 : b = b2
                              · rw [z2, F32] at e; cases e
                              · rw [F3e z1 z2] at e; exact e
                          have F3n : ∀ b, F' b = none → F3 b = none := fun b e => by
                            cases q : F3 b with
                            | none => rfl
                            | some u => rw [F3' _ _ q] at e; cases e
                          have Fn1 := f_none k.ok.le new1
                          have Fn2 := f_none k.ok.le new2
                          have F03 : Le F F3 := fun b u e => by
                            rw [F3e (fun z => by rw [z, Fn1] at e; cases e) (fun z => by rw [z, Fn2] at e; cases e)]
                            exact f1 _ _ (r1.f _ _ e)
                          have db2 : (del F' b1) b2 = some (.lst (n2.map V.int)) := (del_ne (fun z => nb z.symm)).trans F1b2
                          have own3 : ∀ {b : Addr} {d : Dt}, F' b = none → OwnAt T F' H' b d → ownNo d = true → OwnAt T F3 H6 b d := fun {b d} hb o hn => by
                            rw [hF3]
                            refine own_no hn (fun u e => ?_) (own_del db2 (own_del F1b1 o hn) hn)
                            rw [H6e (fun z => by rw [z, F1b1] at hb; cases hb) (fun z => by rw [z, F1b2] at hb; cases hb)]
                            exact e
                          have k3 : Ok T π (fun a => A a ∨ H0 a = none) F3 H6 σ' (bkFE ws i ρ ρ') := by
                            refine ⟨fun b u e => ?_, ?_, fun j d e => ?_, fun j io d e => ?_, fun j l jo lo d1 d2 c1 c2 w e1 e2 s2 s3 x1 x2 => ?_⟩
                            · rw [H6e (fun z => by rw [z, F31] at e; cases e) (fun z => by rw [z, F32] at e; cases e)]
                              exact k'.ok.le _ _ (F3' _ _ e)
                            · unfold bkFE
                              rw [List.length_map, List.length_range, frl, List.length_set]
                              exact k.ok.len
                            · obtain ⟨hji, hv⟩ := bkF_val e
                              rcases hv with ⟨hv, hn⟩ | ⟨hw, hv⟩
                              · obtain ⟨v, q1, q2⟩ := k'.ok.val j d hv
                                refine ⟨v, q1, ?_⟩
                                rw [hF3]
                                exact rep_del db2 (rep_del F1b1 q2 hn) hn
                              · obtain ⟨v, q1, q2⟩ := k.ok.val j d hv
                                exact ⟨v, (fr j hw).trans ((List.getElem?_set_ne (Ne.symm hji)).trans q1), q2.mono F03⟩
                            · obtain ⟨hji, e', hn⟩ := bkF_own e
                              obtain ⟨b, q1, q2, q3, q4, q5, q6⟩ := k'.ok.own j io d e'
                              refine ⟨b, q1, F3n b q2, own3 q2 q3 hn, q4.elim id fun z => .inr (k.fr.t b (r1.t b z)), fun z => ?_, fun x hx => ?_⟩
                              · rw [inH_no hn]
                                have := q5 z
                                rw [inH_no hn] at this
                                exact this
                              · rw [inH_no hn] at hx; cases hx
                            · obtain ⟨_, e1', hn1'⟩ := bkF_own e1
                              obtain ⟨_, e2', hn2'⟩ := bkF_own e2
                              refine k'.ok.dis j l jo lo d1 d2 c1 c2 w e1' e2' s2 s3 (x1.imp id fun z => ?_) (x2.imp id fun z => ?_)
                              · rw [inH_no hn1'] at z; cases z
                              · rw [inH_no hn2'] at z; cases z
                          have fr3 : Fr (fun b => A b ∨ H0 b = none) F H F3 H6 := ⟨F03, fun b u nA e => by
                              rw [H6e (fun z => by rw [z, new1] at e; cases e) (fun z => by rw [z, new2] at e; cases e)]
                              exact k'.fr.h b u nA (r1.h b u nA e), fun b u nA e ht => by
                              rw [F3e (fun z => by rw [z, new1] at e; cases e) (fun z => by rw [z, new2] at e; cases e), k'.fr.n b u nA (r1.h b u nA e) ht, r1.n b u nA e ht], fun b e => r1.t b (k'.fr.t b (H6n e))⟩
                          refine ⟨.ref a, si, ixL0 ga (ixT0 gt ⟨.inl ⟨rfl, _, SqL.of g1⟩, b1, _, .int 0, rfl, rfl, g1, by rw [List.length_map]; exact hn1, ?_⟩)⟩
                          rw [← eH5]
                          have ga5 := (H5e na1).trans ga
                          have gt5 := (H5e nt1).trans gt
                          have g25 := (H5e fun z => nb z.symm).trans g2
                          refine ⟨.ref a, si, ixL0 ga5 (ixT1 gt5 ⟨.inl ⟨rfl, _, SqL.of g25⟩, b2, _, .int 0, rfl, rfl, g25, by rw [List.length_map]; exact hn2, ?_⟩)⟩
                          rw [← eH6]
                          exact ⟨A, F0, H0, F3, _, k.step k3 fr3, p⟩
          · exact p.elim
        | _ => rw [em] at p; exact p.elim
end
end Dl
namespace Dl
open PySem PySem.Spec PyProof.Rows L2
/-! ### the mirrors -/
def b_is_integer_k02 : En → So :=
  (sRet (mAndV (m1 (fIsiO .int) (mPeek 0)) (mNotV (m1 (fIsiO .bool) (mPeek 0)))))
def m_is_integer_k02 : List Dt → Fo := runF 1 false false b_is_integer_k02
def b_is_sequence_k02 : En → So :=
  (sRet (m1 (fIsi2O .list .tuple) (mPeek 0)))
def m_is_sequence_k02 : List Dt → Fo := runF 1 false false b_is_sequence_k02
def b_Rota_eq_k02 : En → So :=
  (sRet (mAndV (m1 (fIsCO 0) (mPeek 1)) (m2 fEq (m1 (fAttr ix_text) (mPeek 0)) (m1 (fAttr ix_text) (mPeek 1)))))
def m_Rota_eq_k02 : List Dt → Fo := runF 2 false false b_Rota_eq_k02
def b_is_from_k02 : En → So :=
  (sRet (mAndV (mCall 1 m_is_integer_k02 (mCons (mVar 0) (mPure []))) (m2 fGe (mVar 0) (mPeek 1))))
def m_is_from_k02 : List Dt → Fo := runF 2 false false b_is_from_k02
def b_is_below_k02 : En → So :=
  (sRet (mAndV (mCall 2 m_is_from_k02 (mCons (mVar 0) (mCons (mPure (.int 0)) (mPure [])))) (m2 fLt (mVar 0) (mPeek 1))))
def m_is_below_k02 : List Dt → Fo := runF 2 false false b_is_below_k02
def b_is_unlike_k02 : En → So :=
  (sSeq (sIf (mOr (mNot (mB (mCall 1 m_is_sequence_k02 (mCons (mVar 0) (mPure []))))) (mNot (mB (m1 fAll (mLc (mSeqI (mVar 0)) (gV 2) (mPure true) (mCall 2 m_is_below_k02 (mCons (mVar 2) (mCons (mVar 1) (mPure [])))) [2]))))) (sRet (mPure (.bl false))) (fun ρ => .nx ρ))
  (sRet (m2 fEq (m1 fLen (mDc (mSeqI (mVar 0)) (gV 2) (mPure true) (mVar 2) (mPure (.bl true)) [2])) (m1 fLen (mPeek 0)))))
def m_is_unlike_k02 : List Dt → Fo := runF 3 false false b_is_unlike_k02
def b_is_row_k02 : En → So :=
  (sSeq (sIf (mOr (mNot (mB (m1 (fIsiO .tuple) (mPeek 0)))) (mOr (mB (m2 fNe (m1 fLen (mPeek 0)) (mPure (.int 2)))) (mNot (mB (mCall 2 m_is_unlike_k02 (mCons (hasSl 0 (mIxV 0 (mPure (.int 0)))) (mCons (mVar 1) (mPure [])))))))) (sRet (mPure (.bl false))) (fun ρ => .nx ρ))
  (sRet (mAndV (mCall 2 m_is_unlike_k02 (mCons (hasSl 0 (mIxV 0 (mPure (.int 1)))) (mCons (mVar 1) (mPure [])))) (m2 fEq (m1 fLen (hasSl 0 (mIxV 0 (mPure (.int 1))))) (mPeek 1)))))
def m_is_row_k02 : List Dt → Fo := runF 2 false false b_is_row_k02
def b_Rota_init_k02 : En → So :=
  (sSeq (sIf (mNot (mB (mCall 2 m_is_from_k02 (mCons (mVar 1) (mCons (mPure (.int 1)) (mPure [])))))) (fun _ => .bad) (fun ρ => .nx ρ))
  (sSeq (sIf (mOr (mNot (mB (mCall 1 m_is_sequence_k02 (mCons (mVar 2) (mPure []))))) (mOr (mB (m2 fEq (m1 fLen (mPeek 2)) (mPure (.int 0)))) (mNot (mB (m1 fAll (mLc (mSeqI (mVar 2)) (gV 3) (mPure true) (mCall 2 m_is_row_k02 (mCons (mVar 3) (mCons (mVar 1) (mPure [])))) [3])))))) (fun _ => .bad) (fun ρ => .nx ρ))
  (sSeq (sFput 0 ix_places (mVar 1))
  (sSeq (sFput 0 ix_rows (m1 fTuple (mLc (mSeqI (mVar 2)) (gT (gsC (gV 4) (gsC (gV 5) gsN)) 2) (mPure true) (mTup (mCons (m1 fTuple (m1N fSorted (mLc (mSeqI (mVar 4)) (gV 6) (mPure true) (m1 fInt (mPeek 6)) [6]))) (mCons (m1 fTuple (mPeek 5)) (mPure [])))) [4, 5])))
  (sFput 0 ix_text (mCall 2 m_text_of_rota (mCons (m1 (fAttr ix_places) (mPeek 0)) (mCons (m1 (fAttr ix_rows) (mPeek 0)) (mPure [])))))))))
def m_Rota_init_k02 : List Dt → Fo := runF 7 true false b_Rota_init_k02
def b_law_made_k02 : En → So :=
  (sRet (mMake 0 3 m_Rota_init_k02 (mCons (hasSl 0 (mIxV 0 (mPure (.int 0)))) (mCons (mLc (mSeqI (hasSl 0 (mIxV 0 (mPure (.int 1))))) (gT (gsC (gV 1) (gsC (gV 2) gsN)) 2) (mPure true) (mTup (mCons (m1 fTuple (mPeek 1)) (mCons (m1 fTuple (mPeek 2)) (mPure [])))) [1, 2]) (mPure [])))))
def m_law_made_k02 : List Dt → Fo := runF 3 false false b_law_made_k02
def lp_law_0 : En → So :=
  (sSeq (sSet 5 (mCallIo 3 m_law_rota 2 (mCons (mPure (.int 6)) (mCons (mPure (.int 7)) (mPure [])))))
  (sFresh 6 [7, 8, 9] (mLc (mSeqI (hasSl 5 (mIxV 5 (mPure (.int 1))))) (gT (gsC (gV 11) (gsC (gV 12) gsN)) 2) (mPure true) (mTup (mCons (mLs (m1N fListN (mPeek 11))) (mCons (mLs (m1N fListN (mPeek 12))) (mPure [])))) [11, 12])
  (sSeq (sPars [7, 8] [true, false] (mCons (m1N fListN (mPeek 6)) (mCons (m1 fReprD (mPeek 6)) (mPure []))))
  (sSeq (sSet 9 (mMakeB 0 3 m_Rota_init_k02 (mCons (hasSl 5 (mIxV 5 (mPure (.int 0)))) (mPure [])) 7))
  (sSeq (sIf (mB (m2 fNe (m1 fReprD (mPeek 7)) (mPeek 8))) (fun ρ => noNx ((sRet (mPure (.bl false))) ρ)) (fun ρ => .nx ρ))
  (sDrop (ownLst 7 (mAppend 7 (mTup (mCons (mLst (mCons (mPure (.int 0)) (mPure []))) (mCons (mLst (mCons (mPure (.int 0)) (mPure []))) (mPure []))))))))))
  (sSeq (sSet 10 (m1 fTuple (mLc (mSeqI (hasSl 5 (mIxV 5 (mPure (.int 1))))) (gT (gsC (gV 11) (gsC (gV 12) gsN)) 2) (mPure true) (mTup (mCons (m1 fTuple (m1N fSorted (mLc (mSeqI (mVar 11)) (gV 13) (mPure true) (m1 fInt (mPeek 13)) [13]))) (mCons (m1 fTuple (mPeek 12)) (mPure [])))) [11, 12])))
  (sSeq (sIf (mOr (mB (m2 fNe (m1 (fAttr ix_rows) (mPeek 9)) (mPeek 10))) (mOr (mB (m2 fNe (m1 (fAttr ix_places) (mPeek 9)) (hasSl 5 (mIxV 5 (mPure (.int 0)))))) (mOr (mB (m2 fNe (m1 (fOwn1 0 m_Rota_len okLen) (mVar 9)) (m1 fLen (mPeek 10)))) (mB (m2 fNe (m1 (fOwn1 0 m_Rota_str okTxt) (mVar 9)) (mCall 1 m_law_text_v2 (mCons (mVar 5) (mPure [])))))))) (sRet (mPure (.bl false))) (fun ρ => .nx ρ))
  (sSeq (sIf (mOr (mB (m2 (fOwnC 0 m_Rota_eq_k02 true) (mCall 1 m_law_made_k02 (mCons (mVar 5) (mPure []))) (mVar 9))) (mOr (mB (m2 (fOwnX 0 m_Rota_eq_k02 false) (mVar 9) (m1 (fOwn1 0 m_Rota_str okTxt) (mVar 9)))) (mB (m2 (fOwnX 0 m_Rota_eq_k02 false) (mVar 9) (mVar 10))))) (sRet (mPure (.bl false))) (fun ρ => .nx ρ))
  (sSeq (sIf (mOr (mB (m2 fNe (m2 (fOwnC 0 m_Rota_eq_k02 false) (mVar 3) (mVar 9)) (m2 fEq (m1 (fOwn1 0 m_Rota_str okTxt) (mVar 3)) (m1 (fOwn1 0 m_Rota_str okTxt) (mVar 9))))) (mB (m2 fNe (m2 (fOwnC 0 m_Rota_eq_k02 true) (mVar 3) (mVar 9)) (m2 fNe (m1 (fOwn1 0 m_Rota_str okTxt) (mVar 3)) (m1 (fOwn1 0 m_Rota_str okTxt) (mVar 9)))))) (sRet (mPure (.bl false))) (fun ρ => .nx ρ))
  (sSet 3 (mVar 9))))))))
def lp_law_1 : En → So :=
  (sSeq (sPars [2, 3] [true, false] (mCons (mCall 3 m_law_box (mCons (mVar 0) (mCons (mVar 1) (mCons (mPure (.int 2)) (mPure []))))) (mCons (mMake 0 3 m_Rota_init_k02 (mCons (mPure (.int 1)) (mCons (mLst (mCons (mTup (mCons (mTup (mPure [])) (mCons (mTup (mCons (mPure (.int 0)) (mPure []))) (mPure [])))) (mPure []))) (mPure [])))) (mPure []))))
  (sFor (mRng1 (mCons (mPure (.int 6)) (mPure []))) (gV 4) lp_law_0))
def st_law_0 : En → So :=
  (sFor (mRng1 (mCons (m2 fMax2 (mPure (.int 1)) (m2 fMin2 (mPure (.int 3)) (m1 fLen (mPeek 0)))) (mPure []))) (gV 1) lp_law_1)
def st_law_1 : En → So :=
  (sRet (m2 fEq (m1 (fOwn1 0 m_Rota_str okTxt) (mMake 0 3 m_Rota_init_k02 (mCons (mPure (.int 2)) (mCons (mLst (mCons (mTup (mCons (mLst (mCons (mPure (.int 1)) (mCons (mPure (.int 0)) (mPure [])))) (mCons (mLst (mCons (mPure (.int 1)) (mCons (mPure (.int 0)) (mPure [])))) (mPure [])))) (mPure []))) (mPure []))))) (mPure (.str "places 2\nturn 0 1 move 1 0"))))
def b_law : En → So :=
  (sSeq st_law_0 st_law_1)
def m_law : List Dt → Fo := runF 14 false false b_law
end Dl
namespace Dl
open PySem PySem.Spec PyProof.Rows L2
/-! ### the text -/
def topS (i : Nat) : Stmt := PySem.Challenge.pw_turnrota_k02_rotas_made.main.body.getD i (.Pass ⟨0, 0, 0, 0⟩)
abbrev s_is_integer : Stmt := topS 5
theorem sc_is_integer : FnScope ["value"] ["value"] (defScope s_is_integer) := ⟨rfl, rfl, rfl, by decide +kernel, rfl, by decide +kernel, by decide +kernel⟩
abbrev s_is_sequence : Stmt := topS 8
theorem sc_is_sequence : FnScope ["value"] ["value"] (defScope s_is_sequence) := ⟨rfl, rfl, rfl, by decide +kernel, rfl, by decide +kernel, by decide +kernel⟩
abbrev s_Rota_len : Stmt := inClass (topS 16) 2
theorem sc_Rota_len : FnScope ["self"] ["self"] (defScope s_Rota_len) := ⟨rfl, rfl, rfl, by decide +kernel, rfl, by decide +kernel, by decide +kernel⟩
abbrev s_Rota_eq : Stmt := inClass (topS 16) 3
theorem sc_Rota_eq : FnScope ["self", "other"] ["self", "other"] (defScope s_Rota_eq) := ⟨rfl, rfl, rfl, by decide +kernel, rfl, by decide +kernel, by decide +kernel⟩
abbrev s_Rota_str : Stmt := inClass (topS 16) 4
theorem sc_Rota_str : FnScope ["self"] ["self"] (defScope s_Rota_str) := ⟨rfl, rfl, rfl, by decide +kernel, rfl, by decide +kernel, by decide +kernel⟩
abbrev s_text_of_rota : Stmt := topS 17
theorem sc_text_of_rota : FnScope ["places", "rows", "found", "turned", "moves", "spots", "where", "one"] ["places", "rows"] (defScope s_text_of_rota) := ⟨rfl, rfl, rfl, by decide +kernel, rfl, by decide +kernel, by decide +kernel⟩
abbrev s_law_box : Stmt := topS 21
theorem sc_law_box : FnScope ["_law_script", "_law_k", "_law_own", "_law_cell", "_law_seed"] ["_law_script", "_law_k", "_law_own"] (defScope s_law_box) := ⟨rfl, rfl, rfl, by decide +kernel, rfl, by decide +kernel, by decide +kernel⟩
abbrev s_law_take : Stmt := topS 22
theorem sc_law_take : FnScope ["_law_box_here", "_law_bound", "_law_digit", "_law_raw", "_law_wide"] ["_law_box_here", "_law_bound"] (defScope s_law_take) := ⟨rfl, rfl, rfl, by decide +kernel, rfl, by decide +kernel, by decide +kernel⟩
abbrev s_law_text : Stmt := topS 26
theorem sc_law_text : FnScope ["_law_told", "_law_lines", "_law_turned", "_law_moves", "_law_spots", "_law_words", "_law_one"] ["_law_told"] (defScope s_law_text) := ⟨rfl, rfl, rfl, by decide +kernel, rfl, by decide +kernel, by decide +kernel⟩
abbrev s_is_from : Stmt := topS 6
theorem sc_is_from : FnScope ["value", "least"] ["value", "least"] (defScope s_is_from) := ⟨rfl, rfl, rfl, by decide +kernel, rfl, by decide +kernel, by decide +kernel⟩
abbrev s_law_mixed : Stmt := topS 23
theorem sc_law_mixed : FnScope ["_law_box_here", "_law_items", "_law_left", "_law_found", "_law_turn"] ["_law_box_here", "_law_items"] (defScope s_law_mixed) := ⟨rfl, rfl, rfl, by decide +kernel, rfl, by decide +kernel, by decide +kernel⟩
abbrev s_is_below : Stmt := topS 7
theorem sc_is_below : FnScope ["value", "bound"] ["value", "bound"] (defScope s_is_below) := ⟨rfl, rfl, rfl, by decide +kernel, rfl, by decide +kernel, by decide +kernel⟩
abbrev s_law_rota : Stmt := topS 24
theorem sc_law_rota : FnScope ["_law_box_here", "_law_most", "_law_rows", "_law_places", "_law_found", "_law_turn", "_law_spots", "_law_turned", "_law_moves", "_law_spot"] ["_law_box_here", "_law_most", "_law_rows"] (defScope s_law_rota) := ⟨rfl, rfl, rfl, by decide +kernel, rfl, by decide +kernel, by decide +kernel⟩
abbrev s_is_unlike : Stmt := topS 14
theorem sc_is_unlike : FnScope ["value", "bound", "one"] ["value", "bound"] (defScope s_is_unlike) := ⟨rfl, rfl, rfl, by decide +kernel, rfl, by decide +kernel, by decide +kernel⟩
abbrev s_is_row : Stmt := topS 15
theorem sc_is_row : FnScope ["value", "places"] ["value", "places"] (defScope s_is_row) := ⟨rfl, rfl, rfl, by decide +kernel, rfl, by decide +kernel, by decide +kernel⟩
abbrev s_Rota_init : Stmt := inClass (topS 16) 0
theorem sc_Rota_init : FnScope ["self", "places", "rows", "row", "turned", "moves", "one"] ["self", "places", "rows"] (defScope s_Rota_init) := ⟨rfl, rfl, rfl, by decide +kernel, rfl, by decide +kernel, by decide +kernel⟩
abbrev s_law_made : Stmt := topS 25
theorem sc_law_made : FnScope ["_law_told", "_law_turned", "_law_moves"] ["_law_told"] (defScope s_law_made) := ⟨rfl, rfl, rfl, by decide +kernel, rfl, by decide +kernel, by decide +kernel⟩
abbrev s_law : Stmt := topS 27
theorem sc_law : FnScope ["_law_script", "_law_k", "_law_box_here", "_law_before", "_law_turn", "_law_told", "_law_rows", "_law_handed", "_law_kept", "_law_made_here", "_law_due", "_law_turned", "_law_moves", "_law_one"] ["_law_script"] (defScope s_law) := ⟨rfl, rfl, rfl, by decide +kernel, rfl, by decide +kernel, by decide +kernel⟩
/-! ### where they stand -/
set_option genInjectivity false in
set_option genSizeOfSpec false in
set_option genSizeOf false in
structure Dfs (K : PySem.W.Frag) (mg : Str → Option Value) where
  f_is_integer : Addr
  fd_is_integer : FuncData
  F_is_integer : Fun K "is_integer" "is_integer" s_is_integer f_is_integer fd_is_integer
  g_is_integer : mg "is_integer" = some (.ref f_is_integer)
  b_is_integer : Binds K fd_is_integer ["value"] []
  f_is_sequence : Addr
  fd_is_sequence : FuncData
  F_is_sequence : Fun K "is_sequence" "is_sequence" s_is_sequence f_is_sequence fd_is_sequence
  g_is_sequence : mg "is_sequence" = some (.ref f_is_sequence)
  b_is_sequence : Binds K fd_is_sequence ["value"] []
  f_Rota_len : Addr
  fd_Rota_len : FuncData
  F_Rota_len : Fun K "__len__" "Rota.__len__" s_Rota_len f_Rota_len fd_Rota_len
  b_Rota_len : Binds K fd_Rota_len ["self"] []
  f_Rota_eq : Addr
  fd_Rota_eq : FuncData
  F_Rota_eq : Fun K "__eq__" "Rota.__eq__" s_Rota_eq f_Rota_eq fd_Rota_eq
  b_Rota_eq : Binds K fd_Rota_eq ["self", "other"] []
  f_Rota_str : Addr
  fd_Rota_str : FuncData
  F_Rota_str : Fun K "__str__" "Rota.__str__" s_Rota_str f_Rota_str fd_Rota_str
  b_Rota_str : Binds K fd_Rota_str ["self"] []
  f_text_of_rota : Addr
  fd_text_of_rota : FuncData
  F_text_of_rota : Fun K "text_of_rota" "text_of_rota" s_text_of_rota f_text_of_rota fd_text_of_rota
  g_text_of_rota : mg "text_of_rota" = some (.ref f_text_of_rota)
  b_text_of_rota : Binds K fd_text_of_rota ["places", "rows"] []
  f_law_box : Addr
  fd_law_box : FuncData
  F_law_box : Fun K "_law_box" "_law_box" s_law_box f_law_box fd_law_box
  g_law_box : mg "_law_box" = some (.ref f_law_box)
  b_law_box : Binds K fd_law_box ["_law_script", "_law_k", "_law_own"] []
  f_law_take : Addr
  fd_law_take : FuncData
  F_law_take : Fun K "_law_take" "_law_take" s_law_take f_law_take fd_law_take
  g_law_take : mg "_law_take" = some (.ref f_law_take)
  b_law_take : Binds K fd_law_take ["_law_box_here", "_law_bound"] []
  f_law_text : Addr
  fd_law_text : FuncData
  F_law_text : Fun K "_law_text" "_law_text" s_law_text f_law_text fd_law_text
  g_law_text : mg "_law_text" = some (.ref f_law_text)
  b_law_text : Binds K fd_law_text ["_law_told"] []
  f_is_from : Addr
  fd_is_from : FuncData
  F_is_from : Fun K "is_from" "is_from" s_is_from f_is_from fd_is_from
  g_is_from : mg "is_from" = some (.ref f_is_from)
  b_is_from : Binds K fd_is_from ["value", "least"] []
  f_law_mixed : Addr
  fd_law_mixed : FuncData
  F_law_mixed : Fun K "_law_mixed" "_law_mixed" s_law_mixed f_law_mixed fd_law_mixed
  g_law_mixed : mg "_law_mixed" = some (.ref f_law_mixed)
  b_law_mixed : Binds K fd_law_mixed ["_law_box_here", "_law_items"] []
  f_is_below : Addr
  fd_is_below : FuncData
  F_is_below : Fun K "is_below" "is_below" s_is_below f_is_below fd_is_below
  g_is_below : mg "is_below" = some (.ref f_is_below)
  b_is_below : Binds K fd_is_below ["value", "bound"] []
  f_law_rota : Addr
  fd_law_rota : FuncData
  F_law_rota : Fun K "_law_rota" "_law_rota" s_law_rota f_law_rota fd_law_rota
  g_law_rota : mg "_law_rota" = some (.ref f_law_rota)
  b_law_rota : Binds K fd_law_rota ["_law_box_here", "_law_most", "_law_rows"] []
  f_is_unlike : Addr
  fd_is_unlike : FuncData
  F_is_unlike : Fun K "is_unlike" "is_unlike" s_is_unlike f_is_unlike fd_is_unlike
  g_is_unlike : mg "is_unlike" = some (.ref f_is_unlike)
  b_is_unlike : Binds K fd_is_unlike ["value", "bound"] []
  f_is_row : Addr
  fd_is_row : FuncData
  F_is_row : Fun K "is_row" "is_row" s_is_row f_is_row fd_is_row
  g_is_row : mg "is_row" = some (.ref f_is_row)
  b_is_row : Binds K fd_is_row ["value", "places"] []
  f_Rota_init : Addr
  fd_Rota_init : FuncData
  F_Rota_init : Fun K "__init__" "Rota.__init__" s_Rota_init f_Rota_init fd_Rota_init
  b_Rota_init : Binds K fd_Rota_init ["self", "places", "rows"] []
  f_law_made : Addr
  fd_law_made : FuncData
  F_law_made : Fun K "_law_made" "_law_made" s_law_made f_law_made fd_law_made
  g_law_made : mg "_law_made" = some (.ref f_law_made)
  b_law_made : Binds K fd_law_made ["_law_told"] []
  f_law : Addr
  fd_law : FuncData
  F_law : Fun K "law" "law" s_law f_law fd_law
  g_law : mg "law" = some (.ref f_law)
  b_law : Binds K fd_law ["_law_script"] []
  z_abs : mg "abs" = none
  z_all : mg "all" = none
  z_bool : mg "bool" = none
  z_int : mg "int" = none
  z_isinstance : mg "isinstance" = none
  z_len : mg "len" = none
  z_list : mg "list" = none
  z_max : mg "max" = none
  z_min : mg "min" = none
  z_range : mg "range" = none
  z_repr : mg "repr" = none
  z_sorted : mg "sorted" = none
  z_str : mg "str" = none
  z_tuple : mg "tuple" = none
  v_PAIR : Value
  c_PAIR : mg "PAIR" = some v_PAIR
  r_PAIR : RelV (.int 2) v_PAIR
  C_Rota : Addr
  gC_Rota : mg "Rota" = some (.ref C_Rota)
  cls_Rota : Cls K C_Rota
  mk_Rota : Mk K C_Rota f_Rota_init
  na_Rota_places : NoAttr K C_Rota "places"
  na_Rota_rows : NoAttr K C_Rota "rows"
  na_Rota_text : NoAttr K C_Rota "text"
  nb_Rota : IcB K C_Rota
  hdx_Rota : PySem.W.hasDictIn K C_Rota = true
  tyx_Rota : PySem.W.typeIn K (.ref C_Rota) = some (.type "type")
  bt_NoneType_Rota : PySem.W.subIn K (.type "NoneType") (.ref C_Rota) = some false
  bt_bool_Rota : PySem.W.subIn K (.type "bool") (.ref C_Rota) = some false
  bt_int_Rota : PySem.W.subIn K (.type "int") (.ref C_Rota) = some false
  bt_str_Rota : PySem.W.subIn K (.type "str") (.ref C_Rota) = some false
  bt_list_Rota : PySem.W.subIn K (.type "list") (.ref C_Rota) = some false
  bt_tuple_Rota : PySem.W.subIn K (.type "tuple") (.ref C_Rota) = some false
  bt_dict_Rota : PySem.W.subIn K (.type "dict") (.ref C_Rota) = some false
  ne_Rota : PySem.W.findIn K (.ref C_Rota) "__ne__" = some (some (.builtin "object.__ne__"))
  ic_Rota : C8.InsC K C_Rota
  me_Rota_eq : Meth K C_Rota "__eq__" f_Rota_eq
  me_Rota_len : Meth K C_Rota "__len__" f_Rota_len
  me_Rota_str : Meth K C_Rota "__str__" f_Rota_str
def Dfs.cl {K : PySem.W.Frag} {mg : Str → Option Value} (D : Dfs K mg) : Nat → Option (Addr × List Str)
  | 0 => some (D.C_Rota, ["places", "rows", "text"])
  | _ => none
theorem allB {K : PySem.W.Frag} {mg : Str → Option Value} (D : Dfs K mg) : AllB ⟨K, D.cl⟩ := fun c C ns hc h => by
  rcases hc with rfl | rfl
  · cases h; exact D.nb_Rota
  · cases h
theorem isa_Rota {K : PySem.W.Frag} {mg : Str → Option Value} (D : Dfs K mg) : IsA ⟨K, D.cl⟩ 0 D.C_Rota := by
  refine ⟨D.hdx_Rota, D.tyx_Rota, fun t ht => ?_, fun c2 C2 ns hc h => ?_⟩
  · simp only [tys8, List.mem_cons, List.not_mem_nil, or_false] at ht
    rcases ht with rfl | rfl | rfl | rfl | rfl | rfl | rfl
    · exact D.bt_NoneType_Rota
    · exact D.bt_bool_Rota
    · exact D.bt_int_Rota
    · exact D.bt_str_Rota
    · exact D.bt_list_Rota
    · exact D.bt_tuple_Rota
    · exact D.bt_dict_Rota
  · rcases hc with rfl | rfl
    · cases h; exact ⟨D.nb_Rota.ic, fun z => absurd rfl z, by simp⟩
    · cases h
section
variable {P : Program} {w : World} {K : PySem.W.Frag} {mg : Str → Option Value} {base : Heap}
theorem at_places (D : Dfs K mg) : AttrOk ⟨K, D.cl⟩ "places" ix_places := by
  intro c j h
  unfold ix_places at h
  split at h
  · cases h; intro C ns e; cases e; exact ⟨rfl, by decide +kernel, by decide, D.cls_Rota, D.na_Rota_places⟩
  · cases h
theorem at_rows (D : Dfs K mg) : AttrOk ⟨K, D.cl⟩ "rows" ix_rows := by
  intro c j h
  unfold ix_rows at h
  split at h
  · cases h; intro C ns e; cases e; exact ⟨rfl, by decide +kernel, by decide, D.cls_Rota, D.na_Rota_rows⟩
  · cases h
theorem at_text (D : Dfs K mg) : AttrOk ⟨K, D.cl⟩ "text" ix_text := by
  intro c j h
  unfold ix_text at h
  split at h
  · cases h; intro C ns e; cases e; exact ⟨rfl, by decide +kernel, by decide, D.cls_Rota, D.na_Rota_text⟩
  · cases h
theorem bd_is_integer (D : Dfs K mg) (cdv : Value) (A : Around) (outer : List Env) (s : Shared) (H : Hp) (E : XK) (π : Nat → Option Pin) (hr : Room 0 (A.deeper (envOfC "is_integer" (defScope s_is_integer) s.heap.objs.size D.f_is_integer cdv))) : PSs (cxOf (L2.CX P w) P w K mg base ["value"] "is_integer" (defScope s_is_integer) D.f_is_integer cdv A outer s H E) (defBody s_is_integer) (TMs ⟨K, D.cl⟩ π (fun cls d _ H => E cls d H) b_is_integer_k02) := by
  have nd := sc_is_integer.nd
  have tk : Takes (cxOf (L2.CX P w) P w K mg base ["value"] "is_integer" (defScope s_is_integer) D.f_is_integer cdv A outer s H E) (fun cls d _ H => E cls d H) := takes_of rfl rfl rfl rfl
  have hp : PassesOwn (model P w) (cxOf (L2.CX P w) P w K mg base ["value"] "is_integer" (defScope s_is_integer) D.f_is_integer cdv A outer s H E).A (cxOf (L2.CX P w) P w K mg base ["value"] "is_integer" (defScope s_is_integer) D.f_is_integer cdv A outer s H E).env (cxOf (L2.CX P w) P w K mg base ["value"] "is_integer" (defScope s_is_integer) D.f_is_integer cdv A outer s H E).xe := passes_of rfl
  unfold b_is_integer_k02
  exact (dss_one (ds_ret (de_and (de_isiO (allB D) rfl .int (pe_callB call_isi (by rfl) D.z_isinstance (by decide +kernel) (pa_cons (dp_var (pv 0)) (pa_cons (pe_bltn (v := .ty "int") (by rfl) D.z_int (by decide +kernel) rfl) pa_nil)))) (de_one (de_not (de_isiO (allB D) rfl .bool (pe_callB call_isi (by rfl) D.z_isinstance (by decide +kernel) (pa_cons (dp_var (pv 0)) (pa_cons (pe_bltn (v := .ty "bool") (by rfl) D.z_bool (by decide +kernel) rfl) pa_nil)))))))))
theorem ok_is_integer (D : Dfs K mg) : FnOk P w K mg base (L2.CX P w) 1 D.f_is_integer D.fd_is_integer ["value"] (spM ⟨K, D.cl⟩ 1 false false m_is_integer_k02) :=
  fun_ok2 (cl := D.cl) (n := 1) (fm := m_is_integer_k02) D.F_is_integer sc_is_integer (by decide) (by rfl) (by unfold m_is_integer_k02; rfl) (bd_is_integer D)
theorem bd_is_sequence (D : Dfs K mg) (cdv : Value) (A : Around) (outer : List Env) (s : Shared) (H : Hp) (E : XK) (π : Nat → Option Pin) (hr : Room 0 (A.deeper (envOfC "is_sequence" (defScope s_is_sequence) s.heap.objs.size D.f_is_sequence cdv))) : PSs (cxOf (L2.CX P w) P w K mg base ["value"] "is_sequence" (defScope s_is_sequence) D.f_is_sequence cdv A outer s H E) (defBody s_is_sequence) (TMs ⟨K, D.cl⟩ π (fun cls d _ H => E cls d H) b_is_sequence_k02) := by
  have nd := sc_is_sequence.nd
  have tk : Takes (cxOf (L2.CX P w) P w K mg base ["value"] "is_sequence" (defScope s_is_sequence) D.f_is_sequence cdv A outer s H E) (fun cls d _ H => E cls d H) := takes_of rfl rfl rfl rfl
  have hp : PassesOwn (model P w) (cxOf (L2.CX P w) P w K mg base ["value"] "is_sequence" (defScope s_is_sequence) D.f_is_sequence cdv A outer s H E).A (cxOf (L2.CX P w) P w K mg base ["value"] "is_sequence" (defScope s_is_sequence) D.f_is_sequence cdv A outer s H E).env (cxOf (L2.CX P w) P w K mg base ["value"] "is_sequence" (defScope s_is_sequence) D.f_is_sequence cdv A outer s H E).xe := passes_of rfl
  unfold b_is_sequence_k02
  exact (dss_one (ds_ret (de_isi2O (allB D) rfl .list .tuple (pe_callB call_isiT (by rfl) D.z_isinstance (by decide +kernel) (pa_cons (dp_var (pv 0)) (pa_cons (pe_tup (pa_cons (pe_bltn (v := .ty "list") (by rfl) D.z_list (by decide +kernel) rfl) (pa_cons (pe_bltn (v := .ty "tuple") (by rfl) D.z_tuple (by decide +kernel) rfl) pa_nil))) pa_nil))))))
theorem ok_is_sequence (D : Dfs K mg) : FnOk P w K mg base (L2.CX P w) 1 D.f_is_sequence D.fd_is_sequence ["value"] (spM ⟨K, D.cl⟩ 1 false false m_is_sequence_k02) :=
  fun_ok2 (cl := D.cl) (n := 1) (fm := m_is_sequence_k02) D.F_is_sequence sc_is_sequence (by decide) (by rfl) (by unfold m_is_sequence_k02; rfl) (bd_is_sequence D)
theorem bd_Rota_len (D : Dfs K mg) (cdv : Value) (A : Around) (outer : List Env) (s : Shared) (H : Hp) (E : XK) (π : Nat → Option Pin) (hr : Room 0 (A.deeper (envOfC "Rota.__len__" (defScope s_Rota_len) s.heap.objs.size D.f_Rota_len cdv))) : PSs (cxOf (L2.CX P w) P w K mg base ["self"] "Rota.__len__" (defScope s_Rota_len) D.f_Rota_len cdv A outer s H E) (defBody s_Rota_len) (TMs ⟨K, D.cl⟩ π (fun cls d _ H => E cls d H) b_Rota_len) := by
  have nd := sc_Rota_len.nd
  have tk : Takes (cxOf (L2.CX P w) P w K mg base ["self"] "Rota.__len__" (defScope s_Rota_len) D.f_Rota_len cdv A outer s H E) (fun cls d _ H => E cls d H) := takes_of rfl rfl rfl rfl
  have hp : PassesOwn (model P w) (cxOf (L2.CX P w) P w K mg base ["self"] "Rota.__len__" (defScope s_Rota_len) D.f_Rota_len cdv A outer s H E).A (cxOf (L2.CX P w) P w K mg base ["self"] "Rota.__len__" (defScope s_Rota_len) D.f_Rota_len cdv A outer s H E).env (cxOf (L2.CX P w) P w K mg base ["self"] "Rota.__len__" (defScope s_Rota_len) D.f_Rota_len cdv A outer s H E).xe := passes_of rfl
  unfold b_Rota_len
  exact (dss_one (ds_ret (de_call1 (pe_callB cr_lenA (by rfl) D.z_len (by decide +kernel) (pa_cons (de_attr rfl (at_rows D) (dp_var (pv 0)) (by rfl)).peek pa_nil)) cs_len)))
theorem ok_Rota_len (D : Dfs K mg) : FnOk P w K mg base (L2.CX P w) 1 D.f_Rota_len D.fd_Rota_len ["self"] (spM ⟨K, D.cl⟩ 1 false false m_Rota_len) :=
  fun_ok2 (cl := D.cl) (n := 1) (fm := m_Rota_len) D.F_Rota_len sc_Rota_len (by decide) (by rfl) (by unfold m_Rota_len; rfl) (bd_Rota_len D)
theorem bd_Rota_eq (D : Dfs K mg) (cdv : Value) (A : Around) (outer : List Env) (s : Shared) (H : Hp) (E : XK) (π : Nat → Option Pin) (hr : Room 0 (A.deeper (envOfC "Rota.__eq__" (defScope s_Rota_eq) s.heap.objs.size D.f_Rota_eq cdv))) : PSs (cxOf (L2.CX P w) P w K mg base ["self", "other"] "Rota.__eq__" (defScope s_Rota_eq) D.f_Rota_eq cdv A outer s H E) (defBody s_Rota_eq) (TMs ⟨K, D.cl⟩ π (fun cls d _ H => E cls d H) b_Rota_eq_k02) := by
  have nd := sc_Rota_eq.nd
  have tk : Takes (cxOf (L2.CX P w) P w K mg base ["self", "other"] "Rota.__eq__" (defScope s_Rota_eq) D.f_Rota_eq cdv A outer s H E) (fun cls d _ H => E cls d H) := takes_of rfl rfl rfl rfl
  have hp : PassesOwn (model P w) (cxOf (L2.CX P w) P w K mg base ["self", "other"] "Rota.__eq__" (defScope s_Rota_eq) D.f_Rota_eq cdv A outer s H E).A (cxOf (L2.CX P w) P w K mg base ["self", "other"] "Rota.__eq__" (defScope s_Rota_eq) D.f_Rota_eq cdv A outer s H E).env (cxOf (L2.CX P w) P w K mg base ["self", "other"] "Rota.__eq__" (defScope s_Rota_eq) D.f_Rota_eq cdv A outer s H E).xe := passes_of rfl
  unfold b_Rota_eq_k02
  exact (dss_one (ds_ret (de_and (de_isCO (isa_Rota D) rfl (pe_callB call_isi (by rfl) D.z_isinstance (by decide +kernel) (pa_cons (dp_var (pv 1)) (pa_cons (pe_glob (by rfl) D.gC_Rota rfl) pa_nil)))) (de_one (de_cmp (op_eqD hr.units) os_eq (de_attr rfl (at_text D) (dp_var (pv 0)) (by rfl)) (de_attr rfl (at_text D) (dp_var (pv 1)) (by rfl)).peek (nomark _))))))
theorem ok_Rota_eq (D : Dfs K mg) : FnOk P w K mg base (L2.CX P w) 1 D.f_Rota_eq D.fd_Rota_eq ["self", "other"] (spM ⟨K, D.cl⟩ 2 false false m_Rota_eq_k02) :=
  fun_ok2 (cl := D.cl) (n := 2) (fm := m_Rota_eq_k02) D.F_Rota_eq sc_Rota_eq (by decide) (by rfl) (by unfold m_Rota_eq_k02; rfl) (bd_Rota_eq D)
theorem bd_Rota_str (D : Dfs K mg) (cdv : Value) (A : Around) (outer : List Env) (s : Shared) (H : Hp) (E : XK) (π : Nat → Option Pin) (hr : Room 0 (A.deeper (envOfC "Rota.__str__" (defScope s_Rota_str) s.heap.objs.size D.f_Rota_str cdv))) : PSs (cxOf (L2.CX P w) P w K mg base ["self"] "Rota.__str__" (defScope s_Rota_str) D.f_Rota_str cdv A outer s H E) (defBody s_Rota_str) (TMs ⟨K, D.cl⟩ π (fun cls d _ H => E cls d H) b_Rota_str) := by
  have nd := sc_Rota_str.nd
  have tk : Takes (cxOf (L2.CX P w) P w K mg base ["self"] "Rota.__str__" (defScope s_Rota_str) D.f_Rota_str cdv A outer s H E) (fun cls d _ H => E cls d H) := takes_of rfl rfl rfl rfl
  have hp : PassesOwn (model P w) (cxOf (L2.CX P w) P w K mg base ["self"] "Rota.__str__" (defScope s_Rota_str) D.f_Rota_str cdv A outer s H E).A (cxOf (L2.CX P w) P w K mg base ["self"] "Rota.__str__" (defScope s_Rota_str) D.f_Rota_str cdv A outer s H E).env (cxOf (L2.CX P w) P w K mg base ["self"] "Rota.__str__" (defScope s_Rota_str) D.f_Rota_str cdv A outer s H E).xe := passes_of rfl
  unfold b_Rota_str
  exact (dss_one (ds_ret (pe_joined1 (de_fmt (de_attr rfl (at_text D) (dp_var (pv 0)) (by rfl))))))
theorem ok_Rota_str (D : Dfs K mg) : FnOk P w K mg base (L2.CX P w) 1 D.f_Rota_str D.fd_Rota_str ["self"] (spM ⟨K, D.cl⟩ 1 false false m_Rota_str) :=
  fun_ok2 (cl := D.cl) (n := 1) (fm := m_Rota_str) D.F_Rota_str sc_Rota_str (by decide) (by rfl) (by unfold m_Rota_str; rfl) (bd_Rota_str D)
theorem bd_text_of_rota (D : Dfs K mg) (cdv : Value) (A : Around) (outer : List Env) (s : Shared) (H : Hp) (E : XK) (π : Nat → Option Pin) (hr : Room 0 (A.deeper (envOfC "text_of_rota" (defScope s_text_of_rota) s.heap.objs.size D.f_text_of_rota cdv))) : PSs (cxOf (L2.CX P w) P w K mg base ["places", "rows", "found", "turned", "moves", "spots", "where", "one"] "text_of_rota" (defScope s_text_of_rota) D.f_text_of_rota cdv A outer s H E) (defBody s_text_of_rota) (TMs ⟨K, D.cl⟩ π (fun cls d _ H => E cls d H) b_text_of_rota) := by
  have nd := sc_text_of_rota.nd
  have tk : Takes (cxOf (L2.CX P w) P w K mg base ["places", "rows", "found", "turned", "moves", "spots", "where", "one"] "text_of_rota" (defScope s_text_of_rota) D.f_text_of_rota cdv A outer s H E) (fun cls d _ H => E cls d H) := takes_of rfl rfl rfl rfl
  have hp : PassesOwn (model P w) (cxOf (L2.CX P w) P w K mg base ["places", "rows", "found", "turned", "moves", "spots", "where", "one"] "text_of_rota" (defScope s_text_of_rota) D.f_text_of_rota cdv A outer s H E).A (cxOf (L2.CX P w) P w K mg base ["places", "rows", "found", "turned", "moves", "spots", "where", "one"] "text_of_rota" (defScope s_text_of_rota) D.f_text_of_rota cdv A outer s H E).env (cxOf (L2.CX P w) P w K mg base ["places", "rows", "found", "turned", "moves", "spots", "where", "one"] "text_of_rota" (defScope s_text_of_rota) D.f_text_of_rota cdv A outer s H E).xe := passes_of rfl
  unfold b_text_of_rota
  exact (dss_cons (ds_asgV (ps_set (i := 2) nd rfl (by first | exact Or.inl rfl | exact Or.inr rfl) (de_joined (mm := [(mPure (.str "places ")), (m1 fFmt (mVar 0))]) (PJ.cons de_str (PJ.cons (de_fmt (de_var (pv 0))) PJ.nil)))))
    (dss_cons (ds_for hp rfl (di_seq rfl (de_var (pv 1))) (dg_tup rfl rfl (dgs_cons (dg_name (pg_name (i := 3) nd rfl (by first | exact Or.inl rfl | exact Or.inr rfl))) (dgs_cons (dg_name (pg_name (i := 4) nd rfl (by first | exact Or.inl rfl | exact Or.inr rfl))) dgs_nil))) (dss_cons (ds_asgV (ps_set (i := 5) nd rfl (by first | exact Or.inl rfl | exact Or.inr rfl) (de_ifExp (dt_cmp op_gt os_gt (de_call1 (pe_callB cr_lenA (by rfl) D.z_len (by decide +kernel) (pa_cons (dp_var (pv 3)) pa_nil)) cs_len) (de_int).peek (nomark _)) (de_join (pe_join de_str ((dn_lc (pe_lc (own := [("one", 7)]) rfl nd (di_seq rfl (de_var (pv 3))) (blkOk_by (own := [("one", 7)]) (N := ["places", "rows", "found", "turned", "moves", "spots", "where", "one"]) (sc := defScope s_text_of_rota) (by decide +kernel)) (fun _ _ _ _ _ => (dg_name (pg_name (i := 7) nd rfl (by first | exact Or.inl rfl | exact Or.inr rfl)))) (fun _ _ _ _ _ => dts_nil) (fun _ _ _ _ _ => (de_call1 (pe_callTy call_str_int (by rfl) D.z_str (by decide +kernel) (pa_cons (dp_var (pv 7)) pa_nil)) cs_str))) (by decide))).keep.peek)) de_str)))
    (dss_cons (ds_asgV (ps_set (i := 6) nd rfl (by first | exact Or.inl rfl | exact Or.inr rfl) (de_join (pe_join de_str ((dn_lc (pe_lc (own := [("one", 7)]) rfl nd (di_seq rfl (de_var (pv 4))) (blkOk_by (own := [("one", 7)]) (N := ["places", "rows", "found", "turned", "moves", "spots", "where", "one"]) (sc := defScope s_text_of_rota) (by decide +kernel)) (fun _ _ _ _ _ => (dg_name (pg_name (i := 7) nd rfl (by first | exact Or.inl rfl | exact Or.inr rfl)))) (fun _ _ _ _ _ => dts_nil) (fun _ _ _ _ _ => (de_call1 (pe_callTy call_str_int (by rfl) D.z_str (by decide +kernel) (pa_cons (dp_var (pv 7)) pa_nil)) cs_str))) (by decide))).keep.peek))))
    (dss_one (ds_asgV (ps_set (i := 2) nd rfl (by first | exact Or.inl rfl | exact Or.inr rfl) (de_joined (mm := [(m1 fFmt (mVar 2)), (mPure (.str "\nturn ")), (m1 fFmt (mVar 5)), (mPure (.str " move ")), (m1 fFmt (mVar 6))]) (PJ.cons (de_fmt (de_var (pv 2))) (PJ.cons de_str (PJ.cons (de_fmt (de_var (pv 5))) (PJ.cons de_str (PJ.cons (de_fmt (de_var (pv 6))) PJ.nil))))))))))))
    (dss_one (ds_ret (de_var (pv 2))))))
theorem ok_text_of_rota (D : Dfs K mg) : FnOk P w K mg base (L2.CX P w) 1 D.f_text_of_rota D.fd_text_of_rota ["places", "rows"] (spM ⟨K, D.cl⟩ 2 false false m_text_of_rota) :=
  fun_ok2 (cl := D.cl) (n := 2) (fm := m_text_of_rota) D.F_text_of_rota sc_text_of_rota (by decide) (by rfl) (by unfold m_text_of_rota; rfl) (bd_text_of_rota D)
theorem bd_law_box (D : Dfs K mg) (cdv : Value) (A : Around) (outer : List Env) (s : Shared) (H : Hp) (E : XK) (π : Nat → Option Pin) (hr : Room 0 (A.deeper (envOfC "_law_box" (defScope s_law_box) s.heap.objs.size D.f_law_box cdv))) : PSs (cxOf (L2.CX P w) P w K mg base ["_law_script", "_law_k", "_law_own", "_law_cell", "_law_seed"] "_law_box" (defScope s_law_box) D.f_law_box cdv A outer s H E) (defBody s_law_box) (TMs ⟨K, D.cl⟩ π (fun cls d _ H => E cls d H) b_law_box) := by
  have nd := sc_law_box.nd
  have tk : Takes (cxOf (L2.CX P w) P w K mg base ["_law_script", "_law_k", "_law_own", "_law_cell", "_law_seed"] "_law_box" (defScope s_law_box) D.f_law_box cdv A outer s H E) (fun cls d _ H => E cls d H) := takes_of rfl rfl rfl rfl
  have hp : PassesOwn (model P w) (cxOf (L2.CX P w) P w K mg base ["_law_script", "_law_k", "_law_own", "_law_cell", "_law_seed"] "_law_box" (defScope s_law_box) D.f_law_box cdv A outer s H E).A (cxOf (L2.CX P w) P w K mg base ["_law_script", "_law_k", "_law_own", "_law_cell", "_law_seed"] "_law_box" (defScope s_law_box) D.f_law_box cdv A outer s H E).env (cxOf (L2.CX P w) P w K mg base ["_law_script", "_law_k", "_law_own", "_law_cell", "_law_seed"] "_law_box" (defScope s_law_box) D.f_law_box cdv A outer s H E).xe := passes_of rfl
  unfold b_law_box
  exact (dss_cons (ds_asgV (ps_set (i := 3) nd rfl (by first | exact Or.inl rfl | exact Or.inr rfl) (de_bin op_addA os_add (de_bin op_addA os_add (de_bin op_mul os_mulI de_int (dp_var (pv 1))) (de_bin op_mul os_mulI de_int (dp_var (pv 2))).peek) (de_int).peek)))
    (dss_cons (ds_if (dt_cmp op_lt os_lt (de_var (pv 1)) (de_call1 (pe_callB cr_lenA (by rfl) D.z_len (by decide +kernel) (pa_cons (dp_var (pv 0)) pa_nil)) cs_len).peek (nomark _)) (dss_one (ds_asgV (ps_set (i := 3) nd rfl (by first | exact Or.inl rfl | exact Or.inr rfl) (de_call1 (pe_callB call_abs (by rfl) D.z_abs (by decide +kernel) (pa_cons (de_ixV (pe_ix ix_seq (pv 0) (de_var (pv 1)) (fun _ _ => rfl))).peek pa_nil)) cs_abs)))) (dss_one (ds_if (dt_cmp op_gt os_gt (de_call1 (pe_callB cr_lenA (by rfl) D.z_len (by decide +kernel) (pa_cons (dp_var (pv 0)) pa_nil)) cs_len) (de_int).peek (nomark _)) (dss_one (ds_asgV (ps_set (i := 3) nd rfl (by first | exact Or.inl rfl | exact Or.inr rfl) (de_bin op_addA os_add (de_var (pv 3)) (de_bin op_mul os_mulI (de_bin op_mod os_mod (de_call1 (pe_callTy call_int1 (by rfl) D.z_int (by decide +kernel) (pa_cons (de_call1 (pe_callB call_abs (by rfl) D.z_abs (by decide +kernel) (pa_cons (de_ixV (pe_ix ix_seq (pv 0) (de_bin op_mod os_mod (de_call1 (pe_callTy call_int1 (by rfl) D.z_int (by decide +kernel) (pa_cons (dp_var (pv 1)) pa_nil)) cs_int) (de_call1 (pe_callB cr_lenA (by rfl) D.z_len (by decide +kernel) (pa_cons (dp_var (pv 0)) pa_nil)) cs_len).peek) (fun _ _ => rfl))).peek pa_nil)) cs_abs).peek pa_nil)) cs_int) (de_int).peek) (de_int).peek).peek)))) dss_nil)))
    (dss_cons (ds_asgV (ps_set (i := 4) nd rfl (by first | exact Or.inl rfl | exact Or.inr rfl) (de_bin op_addA os_add (de_bin op_mod os_mod (de_call1 (pe_callTy call_int1 (by rfl) D.z_int (by decide +kernel) (pa_cons (de_bin op_addA os_add (de_bin op_mul os_mulI (de_bin op_mod os_mod (de_call1 (pe_callTy call_int1 (by rfl) D.z_int (by decide +kernel) (pa_cons (dp_var (pv 3)) pa_nil)) cs_int) (de_int).peek) (de_int).peek) (de_bin op_mul os_mulI de_int (de_bin op_addA os_add (de_var (pv 1)) (de_bin op_mul os_mulI de_int (dp_var (pv 2))).peek).peek).peek).peek pa_nil)) cs_int) (de_int).peek) (de_int).peek)))
    (dss_one (ds_retN (dn_lst (da_cons (de_tOp (pe_ix ix_seq ((dn_lst (da_cons de_int (da_cons (de_var (pv 3)) da_nil)))).keep (de_call1 (pe_callTy call_int1 (by rfl) D.z_int (by decide +kernel) (pa_cons (de_cmp op_ge os_ge (de_var (pv 3)) (de_bin op_pow os_pow de_int (de_int).peek).peek (nomark _)).peek pa_nil)) cs_int).peek (fun _ _ => rfl)) os_ix) (da_cons (de_var (pv 4)) (da_cons de_int da_nil)))))))))
theorem ok_law_box (D : Dfs K mg) : FnOk P w K mg base (L2.CX P w) 1 D.f_law_box D.fd_law_box ["_law_script", "_law_k", "_law_own"] (spM ⟨K, D.cl⟩ 3 false true m_law_box) :=
  fun_ok2 (cl := D.cl) (n := 3) (fm := m_law_box) D.F_law_box sc_law_box (by decide) (by rfl) (by unfold m_law_box; rfl) (bd_law_box D)
theorem bd_law_take (D : Dfs K mg) (cdv : Value) (A : Around) (outer : List Env) (s : Shared) (H : Hp) (E : XK) (π : Nat → Option Pin) (hr : Room 0 (A.deeper (envOfC "_law_take" (defScope s_law_take) s.heap.objs.size D.f_law_take cdv))) : PSs (cxOf (L2.CX P w) P w K mg base ["_law_box_here", "_law_bound", "_law_digit", "_law_raw", "_law_wide"] "_law_take" (defScope s_law_take) D.f_law_take cdv A outer s H E) (defBody s_law_take) (TMs ⟨K, D.cl⟩ π (fun cls d _ H => E cls d H) b_law_take) := by
  have nd := sc_law_take.nd
  have tk : Takes (cxOf (L2.CX P w) P w K mg base ["_law_box_here", "_law_bound", "_law_digit", "_law_raw", "_law_wide"] "_law_take" (defScope s_law_take) D.f_law_take cdv A outer s H E) (fun cls d _ H => E cls d H) := takes_of rfl rfl rfl rfl
  have hp : PassesOwn (model P w) (cxOf (L2.CX P w) P w K mg base ["_law_box_here", "_law_bound", "_law_digit", "_law_raw", "_law_wide"] "_law_take" (defScope s_law_take) D.f_law_take cdv A outer s H E).A (cxOf (L2.CX P w) P w K mg base ["_law_box_here", "_law_bound", "_law_digit", "_law_raw", "_law_wide"] "_law_take" (defScope s_law_take) D.f_law_take cdv A outer s H E).env (cxOf (L2.CX P w) P w K mg base ["_law_box_here", "_law_bound", "_law_digit", "_law_raw", "_law_wide"] "_law_take" (defScope s_law_take) D.f_law_take cdv A outer s H E).xe := passes_of rfl
  unfold b_law_take
  exact (dss_cons (ds_if (dt_cmp op_gt os_gt (de_ixV (pe_ix ix_seq (pv 0) de_int (fun _ _ => rfl))) (de_int).peek (nomark _)) (dss_cons (ds_asgV (ps_set (i := 2) nd rfl (by first | exact Or.inl rfl | exact Or.inr rfl) (de_bin op_mod os_mod (de_call1 (pe_callTy call_int1 (by rfl) D.z_int (by decide +kernel) (pa_cons (de_ixV (pe_ix ix_seq (pv 0) de_int (fun _ _ => rfl))).peek pa_nil)) cs_int) (dp_var (pv 1)))))
    (dss_cons (ds_lput (ps_asg (de_bin op_fdivW os_div (de_ixV (pe_ix ix_seq (pv 0) de_int (fun _ _ => rfl))) (dp_var (pv 1))) (pg_sub (pv 0) de_int set_list)))
    (dss_one (ds_ret (de_var (pv 2)))))) dss_nil)
    (dss_cons (ds_lput (ps_asg (de_bin op_addA os_add (de_ixV (pe_ix ix_seq (pv 0) de_int (fun _ _ => rfl))) (de_int).peek) (pg_sub (pv 0) de_int set_list)))
    (dss_cons (ds_asgV (ps_set (i := 3) nd rfl (by first | exact Or.inl rfl | exact Or.inr rfl) (de_bin op_mod os_mod (de_call1 (pe_callTy call_int1 (by rfl) D.z_int (by decide +kernel) (pa_cons (de_bin op_mul os_mulI (de_bin op_addA os_add (de_ixV (pe_ix ix_seq (pv 0) de_int (fun _ _ => rfl))) (de_bin op_mul os_mulI de_int (de_ixV (pe_ix ix_seq (pv 0) de_int (fun _ _ => rfl))).peek).peek) (de_int).peek).peek pa_nil)) cs_int) (de_int).peek)))
    (dss_cons (ds_lput (ps_asg (de_bin op_addA os_add (de_bin op_mod os_mod (de_call1 (pe_callTy call_int1 (by rfl) D.z_int (by decide +kernel) (pa_cons (de_bin op_addA os_add (de_bin op_mul os_mulI (de_var (pv 3)) (de_int).peek) (de_int).peek).peek pa_nil)) cs_int) (de_int).peek) (de_int).peek) (pg_sub (pv 0) de_int set_list)))
    (dss_cons (ds_if (dt_cmp op_lt os_lt (de_var (pv 1)) (de_bin op_pow os_pow de_int (de_int).peek).peek (nomark _)) (dss_one (ds_ret (de_bin op_mod os_mod (de_call1 (pe_callTy call_int1 (by rfl) D.z_int (by decide +kernel) (pa_cons (de_bin op_fdivW os_div (de_bin op_addA os_add (de_bin op_mul os_mulI (de_var (pv 3)) (de_int).peek) (de_ixV (pe_ix ix_seq (pv 0) de_int (fun _ _ => rfl))).peek) (de_int).peek).peek pa_nil)) cs_int) (dp_var (pv 1))))) dss_nil)
    (dss_cons (ds_asgV (ps_set (i := 4) nd rfl (by first | exact Or.inl rfl | exact Or.inr rfl) (de_bin op_mul os_mulI (de_bin op_addA os_add (de_bin op_mul os_mulI (de_var (pv 3)) (de_int).peek) (de_ixV (pe_ix ix_seq (pv 0) de_int (fun _ _ => rfl))).peek) (de_bin op_pow os_pow de_int (de_int).peek).peek)))
    (dss_one (ds_ret (de_bin op_mod os_mod (de_call1 (pe_callTy call_int1 (by rfl) D.z_int (by decide +kernel) (pa_cons (de_bin op_addA os_add (de_bin op_addA os_add (de_var (pv 4)) (de_bin op_mul os_mulI (de_bin op_pow os_pow (de_ixV (pe_ix ix_seq (pv 0) de_int (fun _ _ => rfl))) (de_int).peek) (de_int).peek).peek) (dp_var (pv 3))).peek pa_nil)) cs_int) (dp_var (pv 1)))))))))))
theorem ok_law_take (D : Dfs K mg) : FnOk P w K mg base (L2.CX P w) 1 D.f_law_take D.fd_law_take ["_law_box_here", "_law_bound"] (spM ⟨K, D.cl⟩ 2 true false m_law_take) :=
  fun_ok2 (cl := D.cl) (n := 2) (fm := m_law_take) D.F_law_take sc_law_take (by decide) (by rfl) (by unfold m_law_take; rfl) (bd_law_take D)
theorem bd_law_text (D : Dfs K mg) (cdv : Value) (A : Around) (outer : List Env) (s : Shared) (H : Hp) (E : XK) (π : Nat → Option Pin) (hr : Room 0 (A.deeper (envOfC "_law_text" (defScope s_law_text) s.heap.objs.size D.f_law_text cdv))) : PSs (cxOf (L2.CX P w) P w K mg base ["_law_told", "_law_lines", "_law_turned", "_law_moves", "_law_spots", "_law_words", "_law_one"] "_law_text" (defScope s_law_text) D.f_law_text cdv A outer s H E) (defBody s_law_text) (TMs ⟨K, D.cl⟩ π (fun cls d _ H => E cls d H) b_law_text_v2) := by
  have nd := sc_law_text.nd
  have tk : Takes (cxOf (L2.CX P w) P w K mg base ["_law_told", "_law_lines", "_law_turned", "_law_moves", "_law_spots", "_law_words", "_law_one"] "_law_text" (defScope s_law_text) D.f_law_text cdv A outer s H E) (fun cls d _ H => E cls d H) := takes_of rfl rfl rfl rfl
  have hp : PassesOwn (model P w) (cxOf (L2.CX P w) P w K mg base ["_law_told", "_law_lines", "_law_turned", "_law_moves", "_law_spots", "_law_words", "_law_one"] "_law_text" (defScope s_law_text) D.f_law_text cdv A outer s H E).A (cxOf (L2.CX P w) P w K mg base ["_law_told", "_law_lines", "_law_turned", "_law_moves", "_law_spots", "_law_words", "_law_one"] "_law_text" (defScope s_law_text) D.f_law_text cdv A outer s H E).env (cxOf (L2.CX P w) P w K mg base ["_law_told", "_law_lines", "_law_turned", "_law_moves", "_law_spots", "_law_words", "_law_one"] "_law_text" (defScope s_law_text) D.f_law_text cdv A outer s H E).xe := passes_of rfl
  unfold b_law_text_v2
  exact (dss_cons (ds_asgN (ps_set (i := 1) nd rfl (by first | exact Or.inl rfl | exact Or.inr rfl) (dn_lst (da_cons (de_bin op_addA os_add de_str (de_call1 (pe_callTy call_str_int (by rfl) D.z_str (by decide +kernel) (pa_cons (de_ixV (pe_ix ix_seq (pv 0) de_int (fun _ _ => rfl))).peek pa_nil)) cs_str).peek) da_nil))))
    (dss_cons (ds_for hp rfl (di_seq rfl (de_ixV (pe_ix ix_seq (pv 0) de_int (fun _ _ => rfl)))) (dg_tup rfl rfl (dgs_cons (dg_name (pg_name (i := 2) nd rfl (by first | exact Or.inl rfl | exact Or.inr rfl))) (dgs_cons (dg_name (pg_name (i := 3) nd rfl (by first | exact Or.inl rfl | exact Or.inr rfl))) dgs_nil))) (dss_cons (ds_setLcV (ps_setLc (own := [("_law_one", 6)]) (i := 4) rfl nd rfl rfl (sw_true rfl rfl rfl (by decide +kernel)) (di_seq rfl ((dn_call1 (pe_callB cr_sortedI (by rfl) D.z_sorted (by decide +kernel) (pa_cons ((dn_lc (pe_lc (own := [("_law_one", 6)]) rfl nd (di_seq rfl (de_var (pv 2))) (blkOk_by (own := [("_law_one", 6)]) (N := ["_law_told", "_law_lines", "_law_turned", "_law_moves", "_law_spots", "_law_words", "_law_one"]) (sc := defScope s_law_text) (by decide +kernel)) (fun _ _ _ _ _ => (dg_name (pg_name (i := 6) nd rfl (by first | exact Or.inl rfl | exact Or.inr rfl)))) (fun _ _ _ _ _ => dts_nil) (fun _ _ _ _ _ => (de_call1 (pe_callTy call_int1 (by rfl) D.z_int (by decide +kernel) (pa_cons (dp_var (pv 6)) pa_nil)) cs_int))) (by decide))).keep.peek pa_nil)) cn_sorted)).keep) (blkOk_by (own := [("_law_one", 6)]) (N := ["_law_told", "_law_lines", "_law_turned", "_law_moves", "_law_spots", "_law_words", "_law_one"]) (sc := defScope s_law_text) (by decide +kernel)) (fun _ _ _ _ _ => (dg_name (pg_name (i := 6) nd rfl (by first | exact Or.inl rfl | exact Or.inr rfl)))) (fun _ _ _ _ _ => dts_nil) (fun _ _ _ _ _ => (de_call1 (pe_callTy call_str_int (by rfl) D.z_str (by decide +kernel) (pa_cons (dp_var (pv 6)) pa_nil)) cs_str))) (by decide))
    (dss_cons (ds_asgV (ps_set (i := 5) nd rfl (by first | exact Or.inl rfl | exact Or.inr rfl) (de_bin op_addA os_add (de_bin op_addA os_add ((dn_lst (da_cons de_str da_nil))).keep (de_ifExp (dt_nil (pt_cmpR (op_neD hr.units) (dp_var (pv 4)) (pe_lst pa_nil) (nomark _)) os_ne) (de_var (pv 4)) ((dn_lst (da_cons de_str da_nil))).keep).peek) ((dn_lst (da_cons de_str da_nil))).keep.peek)))
    (dss_one (ds_expr (de_append rfl (pe_bm PySem.F.plainAttrs_list PySem.F.slot_list_append PySem.F.type_list_append mt_append (pv 1) (pa_cons (de_join (pe_join de_str (de_bin op_addA os_add (de_var (pv 5)) ((dn_lc (pe_lc (own := [("_law_one", 6)]) rfl nd (di_seq rfl (de_var (pv 3))) (blkOk_by (own := [("_law_one", 6)]) (N := ["_law_told", "_law_lines", "_law_turned", "_law_moves", "_law_spots", "_law_words", "_law_one"]) (sc := defScope s_law_text) (by decide +kernel)) (fun _ _ _ _ _ => (dg_name (pg_name (i := 6) nd rfl (by first | exact Or.inl rfl | exact Or.inr rfl)))) (fun _ _ _ _ _ => dts_nil) (fun _ _ _ _ _ => (de_call1 (pe_callTy call_str_int (by rfl) D.z_str (by decide +kernel) (pa_cons (dp_var (pv 6)) pa_nil)) cs_str))) (by decide))).keep.peek).peek)) pa_nil))))))))
    (dss_one (ds_ret (de_join (pe_join de_str (dp_var (pv 1))))))))
theorem ok_law_text (D : Dfs K mg) : FnOk P w K mg base (L2.CX P w) 1 D.f_law_text D.fd_law_text ["_law_told"] (spM ⟨K, D.cl⟩ 1 false false m_law_text_v2) :=
  fun_ok2 (cl := D.cl) (n := 1) (fm := m_law_text_v2) D.F_law_text sc_law_text (by decide) (by rfl) (by unfold m_law_text_v2; rfl) (bd_law_text D)
theorem bd_is_from (D : Dfs K mg) (cdv : Value) (A : Around) (outer : List Env) (s : Shared) (H : Hp) (E : XK) (π : Nat → Option Pin) (hr : Room 1 (A.deeper (envOfC "is_from" (defScope s_is_from) s.heap.objs.size D.f_is_from cdv))) : PSs (cxOf (L2.CX P w) P w K mg base ["value", "least"] "is_from" (defScope s_is_from) D.f_is_from cdv A outer s H E) (defBody s_is_from) (TMs ⟨K, D.cl⟩ π (fun cls d _ H => E cls d H) b_is_from_k02) := by
  have nd := sc_is_from.nd
  have tk : Takes (cxOf (L2.CX P w) P w K mg base ["value", "least"] "is_from" (defScope s_is_from) D.f_is_from cdv A outer s H E) (fun cls d _ H => E cls d H) := takes_of rfl rfl rfl rfl
  have hp : PassesOwn (model P w) (cxOf (L2.CX P w) P w K mg base ["value", "least"] "is_from" (defScope s_is_from) D.f_is_from cdv A outer s H E).A (cxOf (L2.CX P w) P w K mg base ["value", "least"] "is_from" (defScope s_is_from) D.f_is_from cdv A outer s H E).env (cxOf (L2.CX P w) P w K mg base ["value", "least"] "is_from" (defScope s_is_from) D.f_is_from cdv A outer s H E).xe := passes_of rfl
  unfold b_is_from_k02
  exact (dss_one (ds_ret (de_and (de_call (ok_is_integer D) (hr.mono (by decide)) (by rfl) D.g_is_integer D.F_is_integer.kp D.b_is_integer tk (da_cons (de_var (pv 0)) da_nil)) (de_one (de_cmp op_ge os_ge (de_var (pv 0)) (dp_var (pv 1)) (nomark _))))))
theorem ok_is_from (D : Dfs K mg) : FnOk P w K mg base (L2.CX P w) 2 D.f_is_from D.fd_is_from ["value", "least"] (spM ⟨K, D.cl⟩ 2 false false m_is_from_k02) :=
  fun_ok2 (cl := D.cl) (n := 2) (fm := m_is_from_k02) D.F_is_from sc_is_from (by decide) (by rfl) (by unfold m_is_from_k02; rfl) (bd_is_from D)
theorem bd_law_mixed (D : Dfs K mg) (cdv : Value) (A : Around) (outer : List Env) (s : Shared) (H : Hp) (E : XK) (π : Nat → Option Pin) (hr : Room 1 (A.deeper (envOfC "_law_mixed" (defScope s_law_mixed) s.heap.objs.size D.f_law_mixed cdv))) : PSs (cxOf (L2.CX P w) P w K mg base ["_law_box_here", "_law_items", "_law_left", "_law_found", "_law_turn"] "_law_mixed" (defScope s_law_mixed) D.f_law_mixed cdv A outer s H E) (defBody s_law_mixed) (TMs ⟨K, D.cl⟩ π (fun cls d _ H => E cls d H) b_law_mixed) := by
  have nd := sc_law_mixed.nd
  have tk : Takes (cxOf (L2.CX P w) P w K mg base ["_law_box_here", "_law_items", "_law_left", "_law_found", "_law_turn"] "_law_mixed" (defScope s_law_mixed) D.f_law_mixed cdv A outer s H E) (fun cls d _ H => E cls d H) := takes_of rfl rfl rfl rfl
  have hp : PassesOwn (model P w) (cxOf (L2.CX P w) P w K mg base ["_law_box_here", "_law_items", "_law_left", "_law_found", "_law_turn"] "_law_mixed" (defScope s_law_mixed) D.f_law_mixed cdv A outer s H E).A (cxOf (L2.CX P w) P w K mg base ["_law_box_here", "_law_items", "_law_left", "_law_found", "_law_turn"] "_law_mixed" (defScope s_law_mixed) D.f_law_mixed cdv A outer s H E).env (cxOf (L2.CX P w) P w K mg base ["_law_box_here", "_law_items", "_law_left", "_law_found", "_law_turn"] "_law_mixed" (defScope s_law_mixed) D.f_law_mixed cdv A outer s H E).xe := passes_of rfl
  unfold b_law_mixed
  exact (dss_cons (ds_par (ps_par (i := 2) (j := 3) (by rfl) nd rfl rfl (by decide) rfl rfl (dk_own (dn_call1 (pe_callTy call_list_of (by rfl) D.z_list (by decide +kernel) (pa_cons (dp_var (pv 1)) pa_nil)) cn_list) (dk_own (dn_lst da_nil) dk_nil)) (by rfl)))
    (dss_cons (ds_for hp rfl (di_rng1 (by rfl) D.z_range (da_cons (de_call1 (pe_callB cr_lenA (by rfl) D.z_len (by decide +kernel) (pa_cons (dp_var (pv 2)) pa_nil)) cs_len) da_nil)) (dg_name (pg_name (i := 4) nd rfl (by first | exact Or.inl rfl | exact Or.inr rfl))) (dss_one (ds_expr (de_append rfl (pe_bm PySem.F.plainAttrs_list PySem.F.slot_list_append PySem.F.type_list_append mt_append (pv 3) (pa_cons (de_popAt rfl (pe_bm PySem.F.plainAttrs_list PySem.F.slot_list_pop PySem.F.type_list_pop mt_popAt (pv 2) (pa_cons (de_callIo (ok_law_take D) (hr.mono (by decide)) (by rfl) D.g_law_take D.F_law_take.kp D.b_law_take tk (pv 0) (da_cons (de_call1 (pe_callB cr_lenA (by rfl) D.z_len (by decide +kernel) (pa_cons (dp_var (pv 2)) pa_nil)) cs_len) da_nil)) pa_nil))) pa_nil))))))
    (dss_one (ds_ret (de_var (pv 3))))))
theorem ok_law_mixed (D : Dfs K mg) : FnOk P w K mg base (L2.CX P w) 2 D.f_law_mixed D.fd_law_mixed ["_law_box_here", "_law_items"] (spM ⟨K, D.cl⟩ 2 true false m_law_mixed) :=
  fun_ok2 (cl := D.cl) (n := 2) (fm := m_law_mixed) D.F_law_mixed sc_law_mixed (by decide) (by rfl) (by unfold m_law_mixed; rfl) (bd_law_mixed D)
theorem bd_is_below (D : Dfs K mg) (cdv : Value) (A : Around) (outer : List Env) (s : Shared) (H : Hp) (E : XK) (π : Nat → Option Pin) (hr : Room 2 (A.deeper (envOfC "is_below" (defScope s_is_below) s.heap.objs.size D.f_is_below cdv))) : PSs (cxOf (L2.CX P w) P w K mg base ["value", "bound"] "is_below" (defScope s_is_below) D.f_is_below cdv A outer s H E) (defBody s_is_below) (TMs ⟨K, D.cl⟩ π (fun cls d _ H => E cls d H) b_is_below_k02) := by
  have nd := sc_is_below.nd
  have tk : Takes (cxOf (L2.CX P w) P w K mg base ["value", "bound"] "is_below" (defScope s_is_below) D.f_is_below cdv A outer s H E) (fun cls d _ H => E cls d H) := takes_of rfl rfl rfl rfl
  have hp : PassesOwn (model P w) (cxOf (L2.CX P w) P w K mg base ["value", "bound"] "is_below" (defScope s_is_below) D.f_is_below cdv A outer s H E).A (cxOf (L2.CX P w) P w K mg base ["value", "bound"] "is_below" (defScope s_is_below) D.f_is_below cdv A outer s H E).env (cxOf (L2.CX P w) P w K mg base ["value", "bound"] "is_below" (defScope s_is_below) D.f_is_below cdv A outer s H E).xe := passes_of rfl
  unfold b_is_below_k02
  exact (dss_one (ds_ret (de_and (de_call (ok_is_from D) (hr.mono (by decide)) (by rfl) D.g_is_from D.F_is_from.kp D.b_is_from tk (da_cons (de_var (pv 0)) (da_cons de_int da_nil))) (de_one (de_cmp op_lt os_lt (de_var (pv 0)) (dp_var (pv 1)) (nomark _))))))
theorem ok_is_below (D : Dfs K mg) : FnOk P w K mg base (L2.CX P w) 3 D.f_is_below D.fd_is_below ["value", "bound"] (spM ⟨K, D.cl⟩ 2 false false m_is_below_k02) :=
  fun_ok2 (cl := D.cl) (n := 2) (fm := m_is_below_k02) D.F_is_below sc_is_below (by decide) (by rfl) (by unfold m_is_below_k02; rfl) (bd_is_below D)
theorem bd_law_rota (D : Dfs K mg) (cdv : Value) (A : Around) (outer : List Env) (s : Shared) (H : Hp) (E : XK) (π : Nat → Option Pin) (hr : Room 2 (A.deeper (envOfC "_law_rota" (defScope s_law_rota) s.heap.objs.size D.f_law_rota cdv))) : PSs (cxOf (L2.CX P w) P w K mg base ["_law_box_here", "_law_most", "_law_rows", "_law_places", "_law_found", "_law_turn", "_law_spots", "_law_turned", "_law_moves", "_law_spot"] "_law_rota" (defScope s_law_rota) D.f_law_rota cdv A outer s H E) (defBody s_law_rota) (TMs ⟨K, D.cl⟩ π (fun cls d _ H => E cls d H) b_law_rota) := by
  have nd := sc_law_rota.nd
  have tk : Takes (cxOf (L2.CX P w) P w K mg base ["_law_box_here", "_law_most", "_law_rows", "_law_places", "_law_found", "_law_turn", "_law_spots", "_law_turned", "_law_moves", "_law_spot"] "_law_rota" (defScope s_law_rota) D.f_law_rota cdv A outer s H E) (fun cls d _ H => E cls d H) := takes_of rfl rfl rfl rfl
  have hp : PassesOwn (model P w) (cxOf (L2.CX P w) P w K mg base ["_law_box_here", "_law_most", "_law_rows", "_law_places", "_law_found", "_law_turn", "_law_spots", "_law_turned", "_law_moves", "_law_spot"] "_law_rota" (defScope s_law_rota) D.f_law_rota cdv A outer s H E).A (cxOf (L2.CX P w) P w K mg base ["_law_box_here", "_law_most", "_law_rows", "_law_places", "_law_found", "_law_turn", "_law_spots", "_law_turned", "_law_moves", "_law_spot"] "_law_rota" (defScope s_law_rota) D.f_law_rota cdv A outer s H E).env (cxOf (L2.CX P w) P w K mg base ["_law_box_here", "_law_most", "_law_rows", "_law_places", "_law_found", "_law_turn", "_law_spots", "_law_turned", "_law_moves", "_law_spot"] "_law_rota" (defScope s_law_rota) D.f_law_rota cdv A outer s H E).xe := passes_of rfl
  unfold b_law_rota
  exact (dss_cons (ds_par (ps_par (i := 3) (j := 4) (by rfl) nd rfl rfl (by decide) rfl rfl (dk_val (de_bin op_addA os_add de_int (de_callIo (ok_law_take D) (hr.mono (by decide)) (by rfl) D.g_law_take D.F_law_take.kp D.b_law_take tk (pv 0) (da_cons (de_var (pv 1)) da_nil)).peek) (dk_own (dn_lst da_nil) dk_nil)) (by rfl)))
    (dss_cons (ds_for hp rfl (di_rng1 (by rfl) D.z_range (da_cons (de_bin op_addA os_add de_int (de_callIo (ok_law_take D) (hr.mono (by decide)) (by rfl) D.g_law_take D.F_law_take.kp D.b_law_take tk (pv 0) (da_cons (de_var (pv 2)) da_nil)).peek) da_nil)) (dg_name (pg_name (i := 5) nd rfl (by first | exact Or.inl rfl | exact Or.inr rfl))) (dss_cons (ds_asgV (ps_set (i := 6) nd rfl (by first | exact Or.inl rfl | exact Or.inr rfl) ((dn_listRg (pe_listRg rfl (by rfl) D.z_list (prg_1 (by rfl) D.z_range (de_var (pv 3)))))).keep))
    (dss_cons (ds_setLcV (ps_setLc (own := [("_law_spot", 9)]) (i := 7) rfl nd rfl rfl (sw_true rfl rfl rfl (by decide +kernel)) (di_seq rfl (de_var (pv 6))) (blkOk_by (own := [("_law_spot", 9)]) (N := ["_law_box_here", "_law_most", "_law_rows", "_law_places", "_law_found", "_law_turn", "_law_spots", "_law_turned", "_law_moves", "_law_spot"]) (sc := defScope s_law_rota) (by decide +kernel)) (fun _ _ _ _ _ => (dg_name (pg_name (i := 9) nd rfl (by first | exact Or.inl rfl | exact Or.inr rfl)))) (fun _ _ _ _ _ => (dts_one (dt_cmp op_lt os_lt (de_callIo (ok_law_take D) (hr.mono (by decide)) (by rfl) D.g_law_take D.F_law_take.kp D.b_law_take takes0 (pv 0) (da_cons de_int da_nil)) (de_int).peek (nomark _)))) (fun _ _ _ _ _ => (de_var (pv 9)))) (by decide))
    (dss_cons (ds_asgV (ps_set (i := 8) nd rfl (by first | exact Or.inl rfl | exact Or.inr rfl) (de_ifExp (dt_cmp op_gt os_gt (de_callIo (ok_law_take D) (hr.mono (by decide)) (by rfl) D.g_law_take D.F_law_take.kp D.b_law_take tk (pv 0) (da_cons de_int da_nil)) (de_int).peek (nomark _)) (de_callIo (ok_law_mixed D) (hr.mono (by decide)) (by rfl) D.g_law_mixed D.F_law_mixed.kp D.b_law_mixed tk (pv 0) (da_cons (de_var (pv 6)) da_nil)) (de_var (pv 6)))))
    (dss_one (ds_expr (de_append rfl (pe_bm PySem.F.plainAttrs_list PySem.F.slot_list_append PySem.F.type_list_append mt_append (pv 4) (pa_cons (de_tup (da_cons (de_callIo (ok_law_mixed D) (hr.mono (by decide)) (by rfl) D.g_law_mixed D.F_law_mixed.kp D.b_law_mixed tk (pv 0) (da_cons (de_var (pv 7)) da_nil)) (da_cons (de_var (pv 8)) da_nil))) pa_nil)))))))))
    (dss_one (ds_ret (de_tup (da_cons (de_var (pv 3)) (da_cons (de_var (pv 4)) da_nil)))))))
theorem ok_law_rota (D : Dfs K mg) : FnOk P w K mg base (L2.CX P w) 3 D.f_law_rota D.fd_law_rota ["_law_box_here", "_law_most", "_law_rows"] (spM ⟨K, D.cl⟩ 3 true false m_law_rota) :=
  fun_ok2 (cl := D.cl) (n := 3) (fm := m_law_rota) D.F_law_rota sc_law_rota (by decide) (by rfl) (by unfold m_law_rota; rfl) (bd_law_rota D)
theorem bd_is_unlike (D : Dfs K mg) (cdv : Value) (A : Around) (outer : List Env) (s : Shared) (H : Hp) (E : XK) (π : Nat → Option Pin) (hr : Room 3 (A.deeper (envOfC "is_unlike" (defScope s_is_unlike) s.heap.objs.size D.f_is_unlike cdv))) : PSs (cxOf (L2.CX P w) P w K mg base ["value", "bound", "one"] "is_unlike" (defScope s_is_unlike) D.f_is_unlike cdv A outer s H E) (defBody s_is_unlike) (TMs ⟨K, D.cl⟩ π (fun cls d _ H => E cls d H) b_is_unlike_k02) := by
  have nd := sc_is_unlike.nd
  have tk : Takes (cxOf (L2.CX P w) P w K mg base ["value", "bound", "one"] "is_unlike" (defScope s_is_unlike) D.f_is_unlike cdv A outer s H E) (fun cls d _ H => E cls d H) := takes_of rfl rfl rfl rfl
  have hp : PassesOwn (model P w) (cxOf (L2.CX P w) P w K mg base ["value", "bound", "one"] "is_unlike" (defScope s_is_unlike) D.f_is_unlike cdv A outer s H E).A (cxOf (L2.CX P w) P w K mg base ["value", "bound", "one"] "is_unlike" (defScope s_is_unlike) D.f_is_unlike cdv A outer s H E).env (cxOf (L2.CX P w) P w K mg base ["value", "bound", "one"] "is_unlike" (defScope s_is_unlike) D.f_is_unlike cdv A outer s H E).xe := passes_of rfl
  unfold b_is_unlike_k02
  exact (dss_cons (ds_if (PW.pt (dw_or (dt_not (dt_val (de_call (ok_is_sequence D) (hr.mono (by decide)) (by rfl) D.g_is_sequence D.F_is_sequence.kp D.b_is_sequence tk (da_cons (de_var (pv 0)) da_nil)))) (dw_or1 (dt_not (dt_val (de_call1 (pe_callB (cr_all rfl) (by rfl) D.z_all (by decide +kernel) (pa_cons ((dn_lc (pe_lc (own := [("one", 2)]) rfl nd (di_seq rfl (de_var (pv 0))) (blkOk_by (own := [("one", 2)]) (N := ["value", "bound", "one"]) (sc := defScope s_is_unlike) (by decide +kernel)) (fun _ _ _ _ _ => (dg_name (pg_name (i := 2) nd rfl (by first | exact Or.inl rfl | exact Or.inr rfl)))) (fun _ _ _ _ _ => dts_nil) (fun _ _ _ _ _ => (de_call (ok_is_below D) (hr.mono (by decide)) (by rfl) D.g_is_below D.F_is_below.kp D.b_is_below takes0 (da_cons (de_var (pv 2)) (da_cons (de_var (pv 1)) da_nil))))) (by decide))).keep.peek pa_nil)) cs_all)))))) (dss_one (ds_ret de_bl)) dss_nil)
    (dss_one (ds_ret (de_cmp (op_eqD hr.units) os_eq (de_call1 (pe_callB cr_lenA (by rfl) D.z_len (by decide +kernel) (pa_cons ((dn_dc (pe_dc (own := [("one", 2)]) rfl nd (di_seq rfl (de_var (pv 0))) (blkOk_by (own := [("one", 2)]) (N := ["value", "bound", "one"]) (sc := defScope s_is_unlike) (by decide +kernel)) (fun _ _ _ _ _ => (dg_name (pg_name (i := 2) nd rfl (by first | exact Or.inl rfl | exact Or.inr rfl)))) (fun _ _ _ _ _ => dts_nil) (fun _ _ _ _ _ => (de_var (pv 2))) (fun _ _ _ _ _ => de_bl)) (by decide))).keep.peek pa_nil)) cs_len) (de_call1 (pe_callB cr_lenA (by rfl) D.z_len (by decide +kernel) (pa_cons (dp_var (pv 0)) pa_nil)) cs_len).peek (nomark _)))))
theorem ok_is_unlike (D : Dfs K mg) : FnOk P w K mg base (L2.CX P w) 4 D.f_is_unlike D.fd_is_unlike ["value", "bound"] (spM ⟨K, D.cl⟩ 2 false false m_is_unlike_k02) :=
  fun_ok2 (cl := D.cl) (n := 2) (fm := m_is_unlike_k02) D.F_is_unlike sc_is_unlike (by decide) (by rfl) (by unfold m_is_unlike_k02; rfl) (bd_is_unlike D)
theorem bd_is_row (D : Dfs K mg) (cdv : Value) (A : Around) (outer : List Env) (s : Shared) (H : Hp) (E : XK) (π : Nat → Option Pin) (hr : Room 4 (A.deeper (envOfC "is_row" (defScope s_is_row) s.heap.objs.size D.f_is_row cdv))) : PSs (cxOf (L2.CX P w) P w K mg base ["value", "places"] "is_row" (defScope s_is_row) D.f_is_row cdv A outer s H E) (defBody s_is_row) (TMs ⟨K, D.cl⟩ π (fun cls d _ H => E cls d H) b_is_row_k02) := by
  have nd := sc_is_row.nd
  have tk : Takes (cxOf (L2.CX P w) P w K mg base ["value", "places"] "is_row" (defScope s_is_row) D.f_is_row cdv A outer s H E) (fun cls d _ H => E cls d H) := takes_of rfl rfl rfl rfl
  have hp : PassesOwn (model P w) (cxOf (L2.CX P w) P w K mg base ["value", "places"] "is_row" (defScope s_is_row) D.f_is_row cdv A outer s H E).A (cxOf (L2.CX P w) P w K mg base ["value", "places"] "is_row" (defScope s_is_row) D.f_is_row cdv A outer s H E).env (cxOf (L2.CX P w) P w K mg base ["value", "places"] "is_row" (defScope s_is_row) D.f_is_row cdv A outer s H E).xe := passes_of rfl
  unfold b_is_row_k02
  exact (dss_cons (ds_if (PW.pt (dw_or (dt_not (dt_val (de_isiO (allB D) rfl .tuple (pe_callB call_isi (by rfl) D.z_isinstance (by decide +kernel) (pa_cons (dp_var (pv 0)) (pa_cons (pe_bltn (v := .ty "tuple") (by rfl) D.z_tuple (by decide +kernel) rfl) pa_nil)))))) (dw_or (dt_cmp (op_neD hr.units) os_ne (de_call1 (pe_callB cr_lenA (by rfl) D.z_len (by decide +kernel) (pa_cons (dp_var (pv 0)) pa_nil)) cs_len) (de_c (pe_glob (by rfl) D.c_PAIR (D.r_PAIR)) fun _ => .int _).peek (nomark _)) (dw_or1 (dt_not (dt_val (de_call (ok_is_unlike D) (hr.mono (by decide)) (by rfl) D.g_is_unlike D.F_is_unlike.kp D.b_is_unlike tk (da_cons (de_ixV (pe_ix ix_seq (pv 0) de_int (fun _ _ => rfl))) (da_cons (de_var (pv 1)) da_nil))))))))) (dss_one (ds_ret de_bl)) dss_nil)
    (dss_one (ds_ret (de_and (de_call (ok_is_unlike D) (hr.mono (by decide)) (by rfl) D.g_is_unlike D.F_is_unlike.kp D.b_is_unlike tk (da_cons (de_ixV (pe_ix ix_seq (pv 0) de_int (fun _ _ => rfl))) (da_cons (de_var (pv 1)) da_nil))) (de_one (de_cmp (op_eqD hr.units) os_eq (de_call1 (pe_callB cr_lenA (by rfl) D.z_len (by decide +kernel) (pa_cons (de_ixV (pe_ix ix_seq (pv 0) de_int (fun _ _ => rfl))).peek pa_nil)) cs_len) (dp_var (pv 1)) (nomark _)))))))
theorem ok_is_row (D : Dfs K mg) : FnOk P w K mg base (L2.CX P w) 5 D.f_is_row D.fd_is_row ["value", "places"] (spM ⟨K, D.cl⟩ 2 false false m_is_row_k02) :=
  fun_ok2 (cl := D.cl) (n := 2) (fm := m_is_row_k02) D.F_is_row sc_is_row (by decide) (by rfl) (by unfold m_is_row_k02; rfl) (bd_is_row D)
theorem bd_Rota_init (D : Dfs K mg) (cdv : Value) (A : Around) (outer : List Env) (s : Shared) (H : Hp) (E : XK) (π : Nat → Option Pin) (hr : Room 5 (A.deeper (envOfC "Rota.__init__" (defScope s_Rota_init) s.heap.objs.size D.f_Rota_init cdv))) : PSs (cxOf (L2.CX P w) P w K mg base ["self", "places", "rows", "row", "turned", "moves", "one"] "Rota.__init__" (defScope s_Rota_init) D.f_Rota_init cdv A outer s H E) (defBody s_Rota_init) (TMs ⟨K, D.cl⟩ π (fun cls d _ H => E cls d H) b_Rota_init_k02) := by
  have nd := sc_Rota_init.nd
  have tk : Takes (cxOf (L2.CX P w) P w K mg base ["self", "places", "rows", "row", "turned", "moves", "one"] "Rota.__init__" (defScope s_Rota_init) D.f_Rota_init cdv A outer s H E) (fun cls d _ H => E cls d H) := takes_of rfl rfl rfl rfl
  have hp : PassesOwn (model P w) (cxOf (L2.CX P w) P w K mg base ["self", "places", "rows", "row", "turned", "moves", "one"] "Rota.__init__" (defScope s_Rota_init) D.f_Rota_init cdv A outer s H E).A (cxOf (L2.CX P w) P w K mg base ["self", "places", "rows", "row", "turned", "moves", "one"] "Rota.__init__" (defScope s_Rota_init) D.f_Rota_init cdv A outer s H E).env (cxOf (L2.CX P w) P w K mg base ["self", "places", "rows", "row", "turned", "moves", "one"] "Rota.__init__" (defScope s_Rota_init) D.f_Rota_init cdv A outer s H E).xe := passes_of rfl
  unfold b_Rota_init_k02
  exact (dss_cons (ds_if (dt_not (dt_val (de_call (ok_is_from D) (hr.mono (by decide)) (by rfl) D.g_is_from D.F_is_from.kp D.b_is_from tk (da_cons (de_var (pv 1)) (da_cons de_int da_nil))))) (dss_one ds_never) dss_nil)
    (dss_cons (ds_if (PW.pt (dw_or (dt_not (dt_val (de_call (ok_is_sequence D) (hr.mono (by decide)) (by rfl) D.g_is_sequence D.F_is_sequence.kp D.b_is_sequence tk (da_cons (de_var (pv 2)) da_nil)))) (dw_or (dt_cmp (op_eqD hr.units) os_eq (de_call1 (pe_callB cr_lenA (by rfl) D.z_len (by decide +kernel) (pa_cons (dp_var (pv 2)) pa_nil)) cs_len) (de_int).peek (nomark _)) (dw_or1 (dt_not (dt_val (de_call1 (pe_callB (cr_all rfl) (by rfl) D.z_all (by decide +kernel) (pa_cons ((dn_lc (pe_lc (own := [("row", 3)]) rfl nd (di_seq rfl (de_var (pv 2))) (blkOk_by (own := [("row", 3)]) (N := ["self", "places", "rows", "row", "turned", "moves", "one"]) (sc := defScope s_Rota_init) (by decide +kernel)) (fun _ _ _ _ _ => (dg_name (pg_name (i := 3) nd rfl (by first | exact Or.inl rfl | exact Or.inr rfl)))) (fun _ _ _ _ _ => dts_nil) (fun _ _ _ _ _ => (de_call (ok_is_row D) (hr.mono (by decide)) (by rfl) D.g_is_row D.F_is_row.kp D.b_is_row takes0 (da_cons (de_var (pv 3)) (da_cons (de_var (pv 1)) da_nil))))) (by decide))).keep.peek pa_nil)) cs_all))))))) (dss_one ds_never) dss_nil)
    (dss_cons (ds_fput rfl (at_places D) (ps_fld (pv 0) (de_var (pv 1)) rfl))
    (dss_cons (ds_fput rfl (at_rows D) (ps_fld (pv 0) (de_call1 (pe_callTy call_tuple_of (by rfl) D.z_tuple (by decide +kernel) (pa_cons ((dn_lc (pe_lc (own := [("turned", 4), ("moves", 5)]) rfl nd (di_seq rfl (de_var (pv 2))) (blkOk_by (own := [("turned", 4), ("moves", 5)]) (N := ["self", "places", "rows", "row", "turned", "moves", "one"]) (sc := defScope s_Rota_init) (by decide +kernel)) (fun _ _ _ _ _ => (dg_tup rfl rfl (dgs_cons (dg_name (pg_name (i := 4) nd rfl (by first | exact Or.inl rfl | exact Or.inr rfl))) (dgs_cons (dg_name (pg_name (i := 5) nd rfl (by first | exact Or.inl rfl | exact Or.inr rfl))) dgs_nil)))) (fun _ _ _ _ _ => dts_nil) (fun _ _ _ _ _ => (de_tup (da_cons (de_call1 (pe_callTy call_tuple_of (by rfl) D.z_tuple (by decide +kernel) (pa_cons ((dn_call1 (pe_callB cr_sortedI (by rfl) D.z_sorted (by decide +kernel) (pa_cons ((dn_lc (pe_lc (own := [("one", 6)]) rfl nd (di_seq rfl (de_var (pv 4))) (blkOk_by (own := [("one", 6)]) (by kernel_rfl)) (fun _ _ _ _ _ => (dg_name (pg_name (i := 6) nd rfl (by first | exact Or.inl rfl | exact Or.inr rfl)))) (fun _ _ _ _ _ => dts_nil) (fun _ _ _ _ _ => (de_call1 (pe_callTy call_int1 (by rfl) D.z_int (by decide +kernel) (pa_cons (dp_var (pv 6)) pa_nil)) cs_int))) (by decide))).keep.peek pa_nil)) cn_sorted)).keep.peek pa_nil)) cs_tuple) (da_cons (de_call1 (pe_callTy call_tuple_of (by rfl) D.z_tuple (by decide +kernel) (pa_cons (dp_var (pv 5)) pa_nil)) cs_tuple) da_nil))))) (by decide))).keep.peek pa_nil)) cs_tuple) rfl))
    (dss_one (ds_fput rfl (at_text D) (ps_fld (pv 0) (de_call (ok_text_of_rota D) (hr.mono (by decide)) (by rfl) D.g_text_of_rota D.F_text_of_rota.kp D.b_text_of_rota tk (da_cons (de_attr rfl (at_places D) (dp_var (pv 0)) (by rfl)) (da_cons (de_attr rfl (at_rows D) (dp_var (pv 0)) (by rfl)) da_nil))) rfl)))))))
theorem ok_Rota_init (D : Dfs K mg) : FnOk P w K mg base (L2.CX P w) 6 D.f_Rota_init D.fd_Rota_init ["self", "places", "rows"] (spM ⟨K, D.cl⟩ 3 true false m_Rota_init_k02) :=
  fun_ok2 (cl := D.cl) (n := 3) (fm := m_Rota_init_k02) D.F_Rota_init sc_Rota_init (by decide) (by rfl) (by unfold m_Rota_init_k02; rfl) (bd_Rota_init D)
theorem bd_law_made (D : Dfs K mg) (cdv : Value) (A : Around) (outer : List Env) (s : Shared) (H : Hp) (E : XK) (π : Nat → Option Pin) (hr : Room 7 (A.deeper (envOfC "_law_made" (defScope s_law_made) s.heap.objs.size D.f_law_made cdv))) : PSs (cxOf (L2.CX P w) P w K mg base ["_law_told", "_law_turned", "_law_moves"] "_law_made" (defScope s_law_made) D.f_law_made cdv A outer s H E) (defBody s_law_made) (TMs ⟨K, D.cl⟩ π (fun cls d _ H => E cls d H) b_law_made_k02) := by
  have nd := sc_law_made.nd
  have tk : Takes (cxOf (L2.CX P w) P w K mg base ["_law_told", "_law_turned", "_law_moves"] "_law_made" (defScope s_law_made) D.f_law_made cdv A outer s H E) (fun cls d _ H => E cls d H) := takes_of rfl rfl rfl rfl
  have hp : PassesOwn (model P w) (cxOf (L2.CX P w) P w K mg base ["_law_told", "_law_turned", "_law_moves"] "_law_made" (defScope s_law_made) D.f_law_made cdv A outer s H E).A (cxOf (L2.CX P w) P w K mg base ["_law_told", "_law_turned", "_law_moves"] "_law_made" (defScope s_law_made) D.f_law_made cdv A outer s H E).env (cxOf (L2.CX P w) P w K mg base ["_law_told", "_law_turned", "_law_moves"] "_law_made" (defScope s_law_made) D.f_law_made cdv A outer s H E).xe := passes_of rfl
  unfold b_law_made_k02
  exact (dss_one (ds_ret ((dn_make D.mk_Rota (ok_Rota_init D) (hr.mono (by decide)) (by rfl) D.gC_Rota D.b_Rota_init rfl (fun _ _ _ _ _ h => h) tk (da_cons (de_ixV (pe_ix ix_seq (pv 0) de_int (fun _ _ => rfl))) (da_cons ((dn_lc (pe_lc (own := [("_law_turned", 1), ("_law_moves", 2)]) rfl nd (di_seq rfl (de_ixV (pe_ix ix_seq (pv 0) de_int (fun _ _ => rfl)))) (blkOk_by (own := [("_law_turned", 1), ("_law_moves", 2)]) (N := ["_law_told", "_law_turned", "_law_moves"]) (sc := defScope s_law_made) (by decide +kernel)) (fun _ _ _ _ _ => (dg_tup rfl rfl (dgs_cons (dg_name (pg_name (i := 1) nd rfl (by first | exact Or.inl rfl | exact Or.inr rfl))) (dgs_cons (dg_name (pg_name (i := 2) nd rfl (by first | exact Or.inl rfl | exact Or.inr rfl))) dgs_nil)))) (fun _ _ _ _ _ => dts_nil) (fun _ _ _ _ _ => (de_tup (da_cons (de_call1 (pe_callTy call_tuple_of (by rfl) D.z_tuple (by decide +kernel) (pa_cons (dp_var (pv 1)) pa_nil)) cs_tuple) (da_cons (de_call1 (pe_callTy call_tuple_of (by rfl) D.z_tuple (by decide +kernel) (pa_cons (dp_var (pv 2)) pa_nil)) cs_tuple) da_nil))))) (by decide))).keep da_nil)))).keep))
theorem ok_law_made (D : Dfs K mg) : FnOk P w K mg base (L2.CX P w) 8 D.f_law_made D.fd_law_made ["_law_told"] (spM ⟨K, D.cl⟩ 1 false false m_law_made_k02) :=
  fun_ok2 (cl := D.cl) (n := 1) (fm := m_law_made_k02) D.F_law_made sc_law_made (by decide) (by rfl) (by unfold m_law_made_k02; rfl) (bd_law_made D)
theorem bd_law (D : Dfs K mg) (cdv : Value) (A : Around) (outer : List Env) (s : Shared) (H : Hp) (E : XK) (π : Nat → Option Pin) (hr : Room 8 (A.deeper (envOfC "law" (defScope s_law) s.heap.objs.size D.f_law cdv))) (hg : (A.deeper (envOfC "law" (defScope s_law) s.heap.objs.size D.f_law cdv)).guards = some []) : PSs (cxOf (L2.CX P w) P w K mg base ["_law_script", "_law_k", "_law_box_here", "_law_before", "_law_turn", "_law_told", "_law_rows", "_law_handed", "_law_kept", "_law_made_here", "_law_due", "_law_turned", "_law_moves", "_law_one"] "law" (defScope s_law) D.f_law cdv A outer s H E) (defBody s_law) (TMs ⟨K, D.cl⟩ π (fun cls d _ H => E cls d H) b_law) := by
  have nd := sc_law.nd
  have tk : Takes (cxOf (L2.CX P w) P w K mg base ["_law_script", "_law_k", "_law_box_here", "_law_before", "_law_turn", "_law_told", "_law_rows", "_law_handed", "_law_kept", "_law_made_here", "_law_due", "_law_turned", "_law_moves", "_law_one"] "law" (defScope s_law) D.f_law cdv A outer s H E) (fun cls d _ H => E cls d H) := takes_of rfl rfl rfl rfl
  have hp : PassesOwn (model P w) (cxOf (L2.CX P w) P w K mg base ["_law_script", "_law_k", "_law_box_here", "_law_before", "_law_turn", "_law_told", "_law_rows", "_law_handed", "_law_kept", "_law_made_here", "_law_due", "_law_turned", "_law_moves", "_law_one"] "law" (defScope s_law) D.f_law cdv A outer s H E).A (cxOf (L2.CX P w) P w K mg base ["_law_script", "_law_k", "_law_box_here", "_law_before", "_law_turn", "_law_told", "_law_rows", "_law_handed", "_law_kept", "_law_made_here", "_law_due", "_law_turned", "_law_moves", "_law_one"] "law" (defScope s_law) D.f_law cdv A outer s H E).env (cxOf (L2.CX P w) P w K mg base ["_law_script", "_law_k", "_law_box_here", "_law_before", "_law_turn", "_law_told", "_law_rows", "_law_handed", "_law_kept", "_law_made_here", "_law_due", "_law_turned", "_law_moves", "_law_one"] "law" (defScope s_law) D.f_law cdv A outer s H E).xe := passes_of rfl
  unfold b_law st_law_0 st_law_1 lp_law_1 lp_law_0
  exact (dss_cons (ds_for hp rfl (di_rng1 (by rfl) D.z_range (da_cons (de_mm2 (pe_callB (call_max2 rfl) (by rfl) D.z_max (by decide +kernel) (pa_cons de_int (pa_cons (de_mm2 (pe_callB (call_min2 rfl) (by rfl) D.z_min (by decide +kernel) (pa_cons de_int (pa_cons (de_call1 (pe_callB cr_lenA (by rfl) D.z_len (by decide +kernel) (pa_cons (dp_var (pv 0)) pa_nil)) cs_len) pa_nil)))) pa_nil)))) da_nil)) (dg_name (pg_name (i := 1) nd rfl (by first | exact Or.inl rfl | exact Or.inr rfl))) (dss_cons (ds_par (ps_par (i := 2) (j := 3) (by rfl) nd rfl rfl (by decide) rfl rfl (dk_own (dn_call (ok_law_box D) (hr.mono (by decide)) (by rfl) D.g_law_box D.F_law_box.kp D.b_law_box tk (da_cons (de_var (pv 0)) (da_cons (de_var (pv 1)) (da_cons de_int da_nil)))) (dk_val ((dn_make D.mk_Rota (ok_Rota_init D) (hr.mono (by decide)) (by rfl) D.gC_Rota D.b_Rota_init rfl (fun _ _ _ _ _ h => h) tk (da_cons de_int (da_cons ((dn_lst (da_cons (de_tup (da_cons (de_tup da_nil) (da_cons (de_tup (da_cons de_int da_nil)) da_nil))) da_nil))).keep da_nil)))).keep dk_nil)) (by rfl)))
    (dss_one (ds_for hp rfl (di_rng1 (by rfl) D.z_range (da_cons de_int da_nil)) (dg_name (pg_name (i := 4) nd rfl (by first | exact Or.inl rfl | exact Or.inr rfl))) (dss_cons (ds_asgV (ps_set (i := 5) nd rfl (by first | exact Or.inl rfl | exact Or.inr rfl) (de_callIo (ok_law_rota D) (hr.mono (by decide)) (by rfl) D.g_law_rota D.F_law_rota.kp D.b_law_rota tk (pv 2) (da_cons de_int (da_cons de_int da_nil)))))
    (dss_fresh (i := 6) (ws := [7, 8, 9]) (by decide) (ps_setLc (own := [("_law_turned", 11), ("_law_moves", 12)]) (i := 6) rfl nd rfl rfl (sw_true rfl rfl rfl (by decide +kernel)) (di_seq rfl (de_ixV (pe_ix ix_seq (pv 5) de_int (fun _ _ => rfl)))) (blkOk_by (own := [("_law_turned", 11), ("_law_moves", 12)]) (N := ["_law_script", "_law_k", "_law_box_here", "_law_before", "_law_turn", "_law_told", "_law_rows", "_law_handed", "_law_kept", "_law_made_here", "_law_due", "_law_turned", "_law_moves", "_law_one"]) (sc := defScope s_law) (by decide +kernel)) (fun _ _ _ _ _ => (dg_tup rfl rfl (dgs_cons (dg_name (pg_name (i := 11) nd rfl (by first | exact Or.inl rfl | exact Or.inr rfl))) (dgs_cons (dg_name (pg_name (i := 12) nd rfl (by first | exact Or.inl rfl | exact Or.inr rfl))) dgs_nil)))) (fun _ _ _ _ _ => dts_nil) (fun _ _ _ _ _ => (de_tupW ((dn_call1 (pe_callTy call_list_of (by rfl) D.z_list (by decide +kernel) (pa_cons (dp_var (pv 11)) pa_nil)) cn_list)).keepL ((dn_call1 (pe_callTy call_list_of (by rfl) D.z_list (by decide +kernel) (pa_cons (dp_var (pv 12)) pa_nil)) cn_list)).keepL)))
    (dsf_into (dsf_par (by decide) (ps_par (i := 7) (j := 8) (by rfl) nd rfl rfl (by decide) rfl rfl (dk_own (dn_call1 (pe_callTy call_list_of (by rfl) D.z_list (by decide +kernel) (pa_cons (dp_var (pv 6)) pa_nil)) cn_list) (dk_val (de_call1 (pe_callB (cr_reprP hg hr) (by rfl) D.z_repr (by decide +kernel) (pa_cons (dp_var (pv 6)) pa_nil)) cs_reprD) dk_nil)) (by rfl)))
    (dsf_into (dsf_asg (by decide) (ps_set (i := 9) nd rfl (by first | exact Or.inl rfl | exact Or.inr rfl) ((dn_makeB D.mk_Rota (ok_Rota_init D) (hr.mono (by decide)) (by rfl) D.gC_Rota D.b_Rota_init rfl tk (dab_cons (de_ixV (pe_ix ix_seq (pv 5) de_int (fun _ _ => rfl))) (dab_last (pv 7))))).keep))
    (dsf_into (dsf_if (dt_cmp (op_neD hr.units) os_ne (de_call1 (pe_callB (cr_reprP hg hr) (by rfl) D.z_repr (by decide +kernel) (pa_cons (dp_var (pv 7)) pa_nil)) cs_reprD) (dp_var (pv 8)) (nomark _)) (dss_one (ds_ret de_bl)))
    (dsf_last (dsf_expr (de_append rfl (pe_bm PySem.F.plainAttrs_list PySem.F.slot_list_append PySem.F.type_list_append mt_append (pv 7) (pa_cons (de_tup (da_cons ((dn_lst (da_cons de_int da_nil))).keep (da_cons ((dn_lst (da_cons de_int da_nil))).keep da_nil))) pa_nil)))) (pss_cons (ps_expr (pe_bm PySem.F.plainAttrs_list PySem.F.slot_list_append PySem.F.type_list_append mt_append (pe_ix ix_seq (pe_ix ix_seq (pv 6) pe_int (fun _ _ => rfl)) pe_int (fun _ _ => rfl)) (pa_cons pe_int pa_nil))) (pss_cons (ps_expr (pe_bm PySem.F.plainAttrs_list PySem.F.slot_list_append PySem.F.type_list_append mt_append (pe_ix ix_seq (pe_ix ix_seq (pv 6) pe_int (fun _ _ => rfl)) pe_int (fun _ _ => rfl)) (pa_cons pe_int pa_nil))) (dss_cons (ds_asgV (ps_set (i := 10) nd rfl (by first | exact Or.inl rfl | exact Or.inr rfl) (de_call1 (pe_callTy call_tuple_of (by rfl) D.z_tuple (by decide +kernel) (pa_cons ((dn_lc (pe_lc (own := [("_law_turned", 11), ("_law_moves", 12)]) rfl nd (di_seq rfl (de_ixV (pe_ix ix_seq (pv 5) de_int (fun _ _ => rfl)))) (blkOk_by (own := [("_law_turned", 11), ("_law_moves", 12)]) (N := ["_law_script", "_law_k", "_law_box_here", "_law_before", "_law_turn", "_law_told", "_law_rows", "_law_handed", "_law_kept", "_law_made_here", "_law_due", "_law_turned", "_law_moves", "_law_one"]) (sc := defScope s_law) (by decide +kernel)) (fun _ _ _ _ _ => (dg_tup rfl rfl (dgs_cons (dg_name (pg_name (i := 11) nd rfl (by first | exact Or.inl rfl | exact Or.inr rfl))) (dgs_cons (dg_name (pg_name (i := 12) nd rfl (by first | exact Or.inl rfl | exact Or.inr rfl))) dgs_nil)))) (fun _ _ _ _ _ => dts_nil) (fun _ _ _ _ _ => (de_tup (da_cons (de_call1 (pe_callTy call_tuple_of (by rfl) D.z_tuple (by decide +kernel) (pa_cons ((dn_call1 (pe_callB cr_sortedI (by rfl) D.z_sorted (by decide +kernel) (pa_cons ((dn_lc (pe_lc (own := [("_law_one", 13)]) rfl nd (di_seq rfl (de_var (pv 11))) (blkOk_by (own := [("_law_one", 13)]) (by kernel_rfl)) (fun _ _ _ _ _ => (dg_name (pg_name (i := 13) nd rfl (by first | exact Or.inl rfl | exact Or.inr rfl)))) (fun _ _ _ _ _ => dts_nil) (fun _ _ _ _ _ => (de_call1 (pe_callTy call_int1 (by rfl) D.z_int (by decide +kernel) (pa_cons (dp_var (pv 13)) pa_nil)) cs_int))) (by decide))).keep.peek pa_nil)) cn_sorted)).keep.peek pa_nil)) cs_tuple) (da_cons (de_call1 (pe_callTy call_tuple_of (by rfl) D.z_tuple (by decide +kernel) (pa_cons (dp_var (pv 12)) pa_nil)) cs_tuple) da_nil))))) (by decide))).keep.peek pa_nil)) cs_tuple)))
    (dss_cons (ds_if (PW.pt (dw_or (dt_cmp (op_neD hr.units) os_ne (de_attr rfl (at_rows D) (dp_var (pv 9)) (by rfl)) (dp_var (pv 10)) (nomark _)) (dw_or (dt_cmp (op_neD hr.units) os_ne (de_attr rfl (at_places D) (dp_var (pv 9)) (by rfl)) (de_ixV (pe_ix ix_seq (pv 5) de_int (fun _ _ => rfl))).peek (nomark _)) (dw_or (dt_cmp (op_neD hr.units) os_ne (de_own1 (ok := okLen) (pe_callB (cr_lenO (ok_Rota_len D) D.b_Rota_len D.me_Rota_len (hr.mono (by decide))) (by rfl) D.z_len (by decide +kernel) (pa_cons (de_var (pv 9)) pa_nil)) rfl len_v) (de_call1 (pe_callB cr_lenA (by rfl) D.z_len (by decide +kernel) (pa_cons (dp_var (pv 10)) pa_nil)) cs_len).peek (nomark _)) (dw_or1 (dt_cmp (op_neD hr.units) os_ne (de_own1 (ok := okTxt) (pe_callTy (cr_strO (ok_Rota_str D) D.b_Rota_str D.me_Rota_str (hr.mono (by decide))) (by rfl) D.z_str (by decide +kernel) (pa_cons (de_var (pv 9)) pa_nil)) rfl txt_v) (de_call (ok_law_text D) (hr.mono (by decide)) (by rfl) D.g_law_text D.F_law_text.kp D.b_law_text tk (da_cons (de_var (pv 5)) da_nil)).peek (nomark _))))))) (dss_one (ds_ret de_bl)) dss_nil)
    (dss_cons (ds_if (PW.pt (dw_or (dt_cmpO (op_ownNe (ok_Rota_eq D) D.b_Rota_eq (hr.mono (by decide)) (mro_obj D.mk_Rota.makes) D.ne_Rota D.me_Rota_eq.at_ D.me_Rota_eq.fn) (os_own true rfl) (de_call (ok_law_made D) (hr.mono (by decide)) (by rfl) D.g_law_made D.F_law_made.kp D.b_law_made tk (da_cons (de_var (pv 5)) da_nil)) (de_var (pv 9)) (nomark _)) (dw_or (dt_cmpO (op_ownEqX (ok_Rota_eq D) D.b_Rota_eq (hr.mono (by decide)) D.me_Rota_eq.at_ D.me_Rota_eq.fn) (os_ownX false (isa_Rota D) rfl rfl) (de_var (pv 9)) (de_own1 (ok := okTxt) (pe_callTy (cr_strO (ok_Rota_str D) D.b_Rota_str D.me_Rota_str (hr.mono (by decide))) (by rfl) D.z_str (by decide +kernel) (pa_cons (de_var (pv 9)) pa_nil)) rfl txt_v) (nomark _)) (dw_or1 (dt_cmpO (op_ownEqX (ok_Rota_eq D) D.b_Rota_eq (hr.mono (by decide)) D.me_Rota_eq.at_ D.me_Rota_eq.fn) (os_ownX false (isa_Rota D) rfl rfl) (de_var (pv 9)) (de_var (pv 10)) (nomark _)))))) (dss_one (ds_ret de_bl)) dss_nil)
    (dss_cons (ds_if (PW.pt (dw_or (dt_cmp (op_neD hr.units) os_ne (de_cmpO (op_ownEq (ok_Rota_eq D) D.b_Rota_eq (hr.mono (by decide)) D.me_Rota_eq.at_ D.me_Rota_eq.fn) (os_own false rfl) (de_var (pv 3)) (de_var (pv 9)) (nomark _)) (de_cmp (op_eqD hr.units) os_eq (de_own1 (ok := okTxt) (pe_callTy (cr_strO (ok_Rota_str D) D.b_Rota_str D.me_Rota_str (hr.mono (by decide))) (by rfl) D.z_str (by decide +kernel) (pa_cons (de_var (pv 3)) pa_nil)) rfl txt_v) (de_own1 (ok := okTxt) (pe_callTy (cr_strO (ok_Rota_str D) D.b_Rota_str D.me_Rota_str (hr.mono (by decide))) (by rfl) D.z_str (by decide +kernel) (pa_cons (de_var (pv 9)) pa_nil)) rfl txt_v).peek (nomark _)).peek (nomark _)) (dw_or1 (dt_cmp (op_neD hr.units) os_ne (de_cmpO (op_ownNe (ok_Rota_eq D) D.b_Rota_eq (hr.mono (by decide)) (mro_obj D.mk_Rota.makes) D.ne_Rota D.me_Rota_eq.at_ D.me_Rota_eq.fn) (os_own true rfl) (de_var (pv 3)) (de_var (pv 9)) (nomark _)) (de_cmp (op_neD hr.units) os_ne (de_own1 (ok := okTxt) (pe_callTy (cr_strO (ok_Rota_str D) D.b_Rota_str D.me_Rota_str (hr.mono (by decide))) (by rfl) D.z_str (by decide +kernel) (pa_cons (de_var (pv 3)) pa_nil)) rfl txt_v) (de_own1 (ok := okTxt) (pe_callTy (cr_strO (ok_Rota_str D) D.b_Rota_str D.me_Rota_str (hr.mono (by decide))) (by rfl) D.z_str (by decide +kernel) (pa_cons (de_var (pv 9)) pa_nil)) rfl txt_v).peek (nomark _)).peek (nomark _))))) (dss_one (ds_ret de_bl)) dss_nil)
    (dss_one (ds_asgV (ps_set (i := 3) nd rfl (by first | exact Or.inl rfl | exact Or.inr rfl) (de_var (pv 9)))))))))))))))))))))
    (dss_one (ds_ret (de_cmp (op_eqD hr.units) os_eq (de_own1 (ok := okTxt) (pe_callTy (cr_strO (ok_Rota_str D) D.b_Rota_str D.me_Rota_str (hr.mono (by decide))) (by rfl) D.z_str (by decide +kernel) (pa_cons ((dn_make D.mk_Rota (ok_Rota_init D) (hr.mono (by decide)) (by rfl) D.gC_Rota D.b_Rota_init rfl (fun _ _ _ _ _ h => h) tk (da_cons de_int (da_cons ((dn_lst (da_cons (de_tup (da_cons ((dn_lst (da_cons de_int (da_cons de_int da_nil)))).keep (da_cons ((dn_lst (da_cons de_int (da_cons de_int da_nil)))).keep da_nil))) da_nil))).keep da_nil)))).keep pa_nil)) rfl txt_v) (de_str).peek (nomark _)))))
theorem ok_law (D : Dfs K mg) : FnG P w K mg base (L2.CX P w) 9 D.f_law D.fd_law ["_law_script"] (spM ⟨K, D.cl⟩ 1 false false m_law) :=
  fun_okG (cl := D.cl) (n := 1) (fm := m_law) D.F_law sc_law (by decide) (by rfl) (by unfold m_law; rfl) (bd_law D)
end
end Dl
namespace Dl
open PySem PySem.Spec PyProof.Rows L2
/-! ### steps of a mirror -/
abbrev vl (d : Dt) : Option Sl := some (.val d)
abbrev ow (d : Dt) : Option Sl := some (.own false d)
abbrev io (d : Dt) : Option Sl := some (.own true d)
abbrev nD (n : Nat) : Dt := .int (n : Int)
section
variable {α β : Type} {ρ ρ' ρ1 ρ2 ρ3 : En} {s t : En → So} {o : So} {m ma mb : Mi Dt} {ms : Mi (List Dt)} {d d1 d2 x y z : Dt} {ds es : List Dt} {i j n k : Nat} {f : List Dt → Fo} {c c' : Mi Bool} {b : Bool} {Q : So → Prop}
theorem seq_nx (h : s ρ = .nx ρ') (k : t ρ' = o) : sSeq s t ρ = o := by unfold sSeq; rw [h]; exact k
theorem set_ok (h : m ρ = .ok d ρ1) (k : setSl i (.val d) ρ1 = some ρ2) : sSet i m ρ = .nx ρ2 := by unfold sSet sBind; rw [h]; dsimp only; unfold sPut; rw [k]
theorem setN_ok (h : m ρ = .ok d ρ1) (k : setSl i (.own false d) ρ1 = some ρ2) : sSetN i m ρ = .nx ρ2 := by unfold sSetN sBind; rw [h]; dsimp only; unfold sPut; rw [k]
theorem ret_ok (h : m ρ = .ok d ρ1) : sRet m ρ = .rt d ρ1 := by unfold sRet sBind; rw [h]
theorem drop_ok (h : m ρ = .ok d ρ1) : sDrop m ρ = .nx ρ1 := by unfold sDrop sBind; rw [h]
theorem if_f (h : c ρ = .ok false ρ1) (k : t ρ1 = o) : sIf c s t ρ = o := by unfold sIf sBind; rw [h]; exact k
theorem pars_ok {is : List Nat} {ks : List Bool} (h : ms ρ = .ok ds ρ1) (k : putSls is ks ds ρ1 = some ρ2) : sPars is ks ms ρ = .nx ρ2 := by unfold sPars sBind; rw [h]; dsimp only; rw [k]
theorem for_ok {mi : Mi (List Dt)} {g : Dt → En → Option En} {bd : En → So} (h : mi ρ = .ok ds ρ1) (k : forGo g bd ds ρ1 = o) : sFor mi g bd ρ = o := by unfold sFor sBind; rw [h]; exact k
theorem bind_ok {a : α} {mm : Mi α} {k : α → Mi β} {r : Ou β} (h : mm ρ = .ok a ρ1) (q : k a ρ1 = r) : mBind mm k ρ = r := by unfold mBind; rw [h]; exact q
theorem m2_ok {f : Dt → Dt → Option Dt} (ha : ma ρ = .ok x ρ1) (hb : mb ρ1 = .ok y ρ2) (hf : f x y = some z) : m2 f ma mb ρ = .ok z ρ2 := by unfold m2 mBind; rw [ha]; dsimp only; rw [hb]; dsimp only; rw [hf]; rfl
theorem m1_ok {f : Dt → Option Dt} (ha : ma ρ = .ok x ρ1) (hf : f x = some z) : m1 f ma ρ = .ok z ρ1 := by unfold m1 mBind; rw [ha]; dsimp only; rw [hf]; rfl
theorem m1N_ok {f : Dt → Option (List Dt)} (ha : ma ρ = .ok x ρ1) (hf : f x = some es) : m1N f ma ρ = .ok (.lst es) ρ1 := by unfold m1N mBind; rw [ha]; dsimp only; rw [hf]; rfl
theorem cons_ok (h : m ρ = .ok d ρ1) (k : ms ρ1 = .ok ds ρ2) : mCons m ms ρ = .ok (d :: ds) ρ2 := by unfold mCons mBind; rw [h]; dsimp only; rw [k]; rfl
theorem tup_ok (h : ms ρ = .ok ds ρ1) (hl : ds.length ≤ sizeLine) : mTup ms ρ = .ok (.tup ds) ρ1 := by unfold mTup mBind; rw [h]; dsimp only; rw [if_pos hl]; rfl
theorem lst_ok (h : ms ρ = .ok ds ρ1) (hl : ds.length ≤ sizeLine) : mLst ms ρ = .ok (.lst ds) ρ1 := by unfold mLst mBind; rw [h]; dsimp only; rw [if_pos hl]; rfl
theorem tb_ok (h : m ρ = .ok (.bl b) ρ1) : mB m ρ = .ok b ρ1 := by unfold mB mBind; rw [h]; rfl
theorem not_ok (h : c ρ = .ok b ρ1) : mNot c ρ = .ok (!b) ρ1 := by unfold mNot mBind; rw [h]; rfl
theorem and_t (h : c ρ = .ok true ρ1) (k : c' ρ1 = .ok b ρ2) : mAnd c c' ρ = .ok b ρ2 := by unfold mAnd mBind; rw [h]; exact k
theorem and_f (h : c ρ = .ok false ρ1) : mAnd c c' ρ = .ok false ρ1 := by unfold mAnd mBind; rw [h]; rfl
theorem or_t (h : c ρ = .ok true ρ1) : mOr c c' ρ = .ok true ρ1 := by unfold mOr mBind; rw [h]; rfl
theorem or_f (h : c ρ = .ok false ρ1) (k : c' ρ1 = .ok b ρ2) : mOr c c' ρ = .ok b ρ2 := by unfold mOr mBind; rw [h]; exact k
theorem ife_t (h : c ρ = .ok true ρ1) (k : ma ρ1 = .ok d ρ2) : mIfE c ma mb ρ = .ok d ρ2 := by unfold mIfE mBind; rw [h]; exact k
theorem ife_f (h : c ρ = .ok false ρ1) (k : mb ρ1 = .ok d ρ2) : mIfE c ma mb ρ = .ok d ρ2 := by unfold mIfE mBind; rw [h]; exact k
theorem andV_t (h : ma ρ = .ok (.bl true) ρ1) (k : mb ρ1 = .ok d ρ2) : mAndV ma mb ρ = .ok d ρ2 := by unfold mAndV mBind; rw [h]; exact k
theorem andV_f (h : ma ρ = .ok (.bl false) ρ1) : mAndV ma mb ρ = .ok (.bl false) ρ1 := by unfold mAndV mBind; rw [h]; rfl
theorem call_ok {r : Dt} (h : ms ρ = .ok ds ρ1) (hn : ds.length = n) (hf : f ds = .ret d r) : mCall n f ms ρ = .ok d ρ1 := by unfold mCall mBind; rw [h]; dsimp only; rw [if_pos hn, hf]
theorem callIo_ok {io0 io : Bool} {d0 d1 r : Dt} (h0 : ρ[i]? = some (some (.own io0 d0))) (h : ms ρ = .ok ds ρ1) (h1 : ρ1[i]? = some (some (.own io d1))) (hn : ds.length + 1 = n) (hf : f (d1 :: ds) = .ret d r) (hr : ρ1.set i (some (.own io r)) = ρ2) : mCallIo n f i ms ρ = .ok d ρ2 := by
  subst hr
  unfold mCallIo mBind
  rw [h0]; dsimp only; rw [h]; dsimp only; rw [h1]; dsimp only; rw [if_pos hn, hf]
theorem mut_ok {io0 : Bool} {r : Dt} {f : List Dt → Option (Dt × List Dt)} (h : ρ[i]? = some (some (.own io0 (.lst ds)))) (hf : f ds = some (r, es)) (hr : ρ.set i (some (.own io0 (.lst es))) = ρ1) : mMut i f ρ = .ok r ρ1 := by subst hr; unfold mMut; rw [h]; dsimp only; rw [hf]
theorem append_ok {io0 : Bool} (h : ρ[i]? = some (some (.own io0 (.lst es)))) (hm : m ρ = .ok d ρ1) (h1 : ρ1[i]? = some (some (.own io0 (.lst ds)))) (hl : ds.length < 1000000) (hr : ρ1.set i (some (.own io0 (.lst (ds ++ [d])))) = ρ2) : ownLst i (mAppend i m) ρ = .ok .non ρ2 := by
  unfold ownLst; rw [h]; dsimp only
  refine bind_ok hm (mut_ok h1 ?_ hr)
  rw [if_pos (Nat.lt_of_lt_of_le hl (by decide))]
theorem popAt_ok {io0 : Bool} {q : Nat} (h : ρ[i]? = some (some (.own io0 (.lst es)))) (hm : m ρ = .ok (nD q) ρ1) (h1 : ρ1[i]? = some (some (.own io0 (.lst ds)))) (hl : ds.length < 1000000) (hq : q < ds.length) (hr : ρ1.set i (some (.own io0 (.lst (ds.eraseIdx q)))) = ρ2) : ownLst i (mPopAt i m) ρ = .ok ds[q] ρ2 := by
  unfold ownLst; rw [h]; dsimp only
  refine bind_ok hm (mut_ok h1 ?_ hr)
  dsimp only
  rw [if_pos ⟨by omega, by omega⟩, show ixN ds.length (q : Int) = some q by simp [ixN, hq]]
  simp [List.getElem?_eq_getElem hq]
theorem make_ok {cc : Nat} {r : Dt} (h : ms ρ = .ok ds ρ1) (hn : ds.length + 1 = n) (hf : f (.ins cc [] :: ds) = .ret .non r) : mMake cc n f ms ρ = .ok r ρ1 := by unfold mMake mBind; rw [h]; dsimp only; rw [if_pos hn, hf]
theorem runF_rt {io0 : Bool} {bd : En → So} {r : Dt} (h : bd (argE io0 ds ++ List.replicate (k - ds.length) none) = .rt d ρ) (ho : ioOut io0 ρ = some r) : runF k io0 false bd ds = .ret d r := by unfold runF; rw [h]; dsimp only; rw [ho]
theorem runF_nx {io0 : Bool} {bd : En → So} {r : Dt} (h : bd (argE io0 ds ++ List.replicate (k - ds.length) none) = .nx ρ) (ho : ioOut io0 ρ = some r) : runF k io0 false bd ds = .ret .non r := by unfold runF; rw [h]; dsimp only; rw [ho]
theorem rng1_ok {N : Int} (h : ms ρ = .ok [.int N] ρ1) (l0 : -(2 ^ 62) ≤ N) (l1 : N < 2 ^ 62) : mRng1 ms ρ = .ok (rngD 0 N.toNat) ρ1 := by
  unfold mRng1 mBind
  rw [h]
  simp only
  rw [if_pos ⟨l0, l1⟩]
  rfl
theorem rngD_map : ∀ (lo : Int) (n : Nat), rngD lo n = (List.range n).map fun (i : Nat) => Dt.int (lo + (i : Int))
  | lo, 0 => rfl
  | lo, n + 1 => by
    rw [List.range_succ_eq_map, List.map_cons, List.map_map]
    show Dt.int lo :: rngD (lo + 1) n = _
    rw [rngD_map (lo + 1) n]
    congr 1
    · simp
    · apply List.map_congr_left
      intro i _
      show Dt.int (lo + 1 + (i : Int)) = Dt.int (lo + ((i + 1 : Nat) : Int))
      congr 1
      omega
theorem rngD0 (n : Nat) : rngD 0 n = (List.range n).map nD := by
  rw [rngD_map]; apply List.map_congr_left; intro i _; simp
theorem rngN_ok {N : Nat} (h : ms ρ = .ok [nD N] ρ1) (l : N < 1000000) : mRng1 ms ρ = .ok ((List.range N).map nD) ρ1 := by
  rw [rng1_ok h (by omega) (by omega)]; rw [show ((N : Int)).toNat = N by omega, rngD0]
end
/-! ### loops -/
section
variable {α σ : Type} {g : Dt → En → Option En} {bd : En → So}
/-- a loop that runs through: what it leaves is a fold -/
theorem forGo_fold (f : α → Dt) (E : σ → En) (stp : σ → α → σ) : ∀ (xs : List α) (st : σ), (∀ (pre : List α) (x : α) (post : List α), xs = pre ++ x :: post → ∃ ρ1, g (f x) (E (pre.foldl stp st)) = some ρ1 ∧ bd ρ1 = .nx (E ((pre ++ [x]).foldl stp st))) →
    forGo g bd (xs.map f) (E st) = .nx (E (xs.foldl stp st))
  | [], _, _ => rfl
  | x :: xs, st, h => by
    obtain ⟨ρ1, h1, h2⟩ := h [] x xs rfl
    have h1' : g (f x) (E st) = some ρ1 := h1
    have h2' : bd ρ1 = .nx (E (stp st x)) := h2
    show forGo g bd (f x :: xs.map f) (E st) = _
    unfold forGo
    rw [h1']; dsimp only; rw [h2']; dsimp only
    exact forGo_fold f E stp xs (stp st x) fun pre y post e => h (x :: pre) y post (by rw [e]; rfl)
/-- a loop that runs through, by what holds between two turns -/
theorem forGo_inv (f : α → Dt) (I : List α → En → Prop) : ∀ (xs pre : List α) (ρ : En), I pre ρ → (∀ (p : List α) (x : α) (q : List α) (ρ : En), pre ++ xs = p ++ x :: q → I p ρ → ∃ ρ1, g (f x) ρ = some ρ1 ∧ ∃ ρ2, (bd ρ1 = .nx ρ2 ∨ bd ρ1 = .ct ρ2) ∧ I (p ++ [x]) ρ2) →
    ∃ ρ', forGo g bd (xs.map f) ρ = .nx ρ' ∧ I (pre ++ xs) ρ'
  | [], pre, ρ, h0, _ => ⟨ρ, rfl, by rw [List.append_nil]; exact h0⟩
  | x :: xs, pre, ρ, h0, h => by
    obtain ⟨ρ1, h1, ρ2, h2, h3⟩ := h pre x xs ρ rfl h0
    obtain ⟨ρ', h4, h5⟩ := forGo_inv f I xs (pre ++ [x]) ρ2 h3 fun p y q r e => h p y q r (by rw [← e, List.append_assoc]; rfl)
    refine ⟨ρ', ?_, by rw [List.append_assoc] at h5; exact h5⟩
    show forGo g bd (f x :: xs.map f) ρ = _
    unfold forGo
    rw [h1]; dsimp only
    rcases h2 with h2 | h2 <;> rw [h2] <;> exact h4
/-- the same where what holds does not hang on the turn -/
theorem forGo_all (f : α → Dt) (I : En → Prop) (xs : List α) (ρ : En) (h0 : I ρ) (h : ∀ x ∈ xs, ∀ ρ, I ρ → ∃ ρ1, g (f x) ρ = some ρ1 ∧ ∃ ρ2, (bd ρ1 = .nx ρ2 ∨ bd ρ1 = .ct ρ2) ∧ I ρ2) :
    ∃ ρ', forGo g bd (xs.map f) ρ = .nx ρ' ∧ I ρ' :=
  forGo_inv f (fun _ => I) xs [] ρ h0 fun p x q r e k => h x (by rw [List.nil_append] at e; rw [e]; simp) r k
end
/-! ### comprehensions -/
section
variable {α : Type} {g : Dt → En → Option En} {t : Mi Bool} {e : Mi Dt} {vs : List Nat}
theorem lcGo_pure (f : α → Dt) (tf : α → Bool) (ef : α → Dt) {ρ : En} : ∀ (xs : List α) (acc : List Dt), (∀ x ∈ xs, ∃ ρ1, g (f x) ρ = some ρ1 ∧ ∃ ρ2, t ρ1 = .ok (tf x) ρ2 ∧ (tf x = false → wipeE ρ2 vs = ρ) ∧ (tf x = true → ∃ ρ3, e ρ2 = .ok (ef x) ρ3 ∧ wipeE ρ3 vs = ρ)) → acc.length + xs.length ≤ 1000000 →
    lcGo g t e vs (xs.map f) acc ρ = .ok (acc ++ (xs.filter tf).map ef) ρ
  | [], acc, _, _ => by simp [lcGo]
  | x :: xs, acc, h, hl => by
    obtain ⟨ρ1, h1, ρ2, h2, h3, h4⟩ := h x (by simp)
    rw [List.length_cons] at hl
    show lcGo g t e vs (f x :: xs.map f) acc ρ = _
    unfold lcGo
    rw [h1]; dsimp only; rw [h2]
    cases hb : tf x with
    | false =>
      dsimp only
      rw [h3 hb, lcGo_pure f tf ef xs acc (fun y hy => h y (by simp [hy])) (by omega), List.filter_cons_of_neg (by rw [hb]; decide)]
    | true =>
      obtain ⟨ρ3, h5, h6⟩ := h4 hb
      dsimp only
      rw [h5]; dsimp only
      rw [if_pos (Nat.lt_of_lt_of_le (show acc.length < 1000000 by omega) (by decide)), h6, lcGo_pure f tf ef xs (acc ++ [ef x]) (fun y hy => h y (by simp [hy])) (by rw [List.length_append]; simp; omega), List.filter_cons_of_pos hb, List.map_cons, List.append_assoc]
      rfl
theorem rest_wipe (ρ : En) : ∀ (vs : List Nat), restE ρ (wipeE ρ vs) vs = ρ := fun vs => by
  apply List.ext_getElem?
  intro i
  by_cases hi : i ∈ vs
  · by_cases hl : i < ρ.length
    · have key : ∀ us : List Nat, i ∈ us → (restE ρ (wipeE ρ vs) us)[i]? = ρ[i]? := fun us => by
        induction us with
        | nil => intro h; cases h
        | cons u us ih =>
          intro h
          unfold restE
          by_cases hu : u = i
          · subst hu
            rw [List.getElem?_set_self (by rw [restE_len, wipeE_len]; exact hl), List.getElem?_eq_getElem hl]
            rfl
          · rw [List.getElem?_set_ne hu]
            cases h with
            | head => exact absurd rfl hu
            | tail _ h => exact ih h
      exact key vs hi
    · rw [List.getElem?_eq_none (by rw [restE_len, wipeE_len]; omega), List.getElem?_eq_none (by omega)]
  · rw [restE_out hi]
    have key : ∀ us : List Nat, i ∉ us → (wipeE ρ us)[i]? = ρ[i]? := fun us => by
      induction us with
      | nil => intro _; rfl
      | cons u us ih =>
        intro h
        simp only [List.mem_cons, not_or] at h
        unfold wipeE
        rw [List.getElem?_set_ne fun z => h.1 z.symm, ih h.2]
    exact key vs hi
theorem lc_ok {mi : Mi (List Dt)} {ρ ρ0 : En} (xs : List α) (f : α → Dt) (tf : α → Bool) (ef : α → Dt) (hi : mi ρ = .ok (xs.map f) ρ0) (ho : ownAny ρ0 vs = false)
    (h : ∀ x ∈ xs, ∃ ρ1, g (f x) (wipeE ρ0 vs) = some ρ1 ∧ ∃ ρ2, t ρ1 = .ok (tf x) ρ2 ∧ (tf x = false → wipeE ρ2 vs = wipeE ρ0 vs) ∧ (tf x = true → ∃ ρ3, e ρ2 = .ok (ef x) ρ3 ∧ wipeE ρ3 vs = wipeE ρ0 vs)) (hl : xs.length ≤ 1000000) :
    mLc mi g t e vs ρ = .ok (.lst ((xs.filter tf).map ef)) ρ0 := by
  unfold mLc mBind
  rw [hi]; dsimp only
  rw [if_neg (by rw [ho]; decide), lcGo_pure f tf ef xs [] h (by simpa using hl)]
  dsimp only
  rw [rest_wipe, List.nil_append]
/-- without an if -/
theorem lc_map {mi : Mi (List Dt)} {ρ ρ0 : En} (xs : List α) (f : α → Dt) (ef : α → Dt) (hi : mi ρ = .ok (xs.map f) ρ0) (ho : ownAny ρ0 vs = false)
    (h : ∀ x ∈ xs, ∃ ρ1, g (f x) (wipeE ρ0 vs) = some ρ1 ∧ ∃ ρ3, e ρ1 = .ok (ef x) ρ3 ∧ wipeE ρ3 vs = wipeE ρ0 vs) (hl : xs.length ≤ 1000000) :
    mLc mi g (mPure true) e vs ρ = .ok (.lst (xs.map ef)) ρ0 := by
  rw [lc_ok xs f (fun _ => true) ef hi ho (fun x hx => by
    obtain ⟨ρ1, h1, ρ3, h2, h3⟩ := h x hx
    exact ⟨ρ1, h1, ρ1, rfl, (fun z => by cases z), fun _ => ⟨ρ3, h2, h3⟩⟩) hl]
  rw [List.filter_eq_self.mpr fun _ _ => rfl]
/-- what a comprehension with draws leaves: by what holds between two turns -/
theorem lcGo_inv (f : α → Dt) (I : List α → List Dt → En → Prop) : ∀ (xs pre : List α) (acc : List Dt) (ρ : En), I pre acc ρ → acc.length + xs.length ≤ 1000000 → (∀ (p : List α) (x : α) (q : List α) (acc : List Dt) (ρ : En), pre ++ xs = p ++ x :: q → I p acc ρ → ∃ ρ1, g (f x) ρ = some ρ1 ∧ ∃ b ρ2, t ρ1 = .ok b ρ2 ∧ (b = false → I (p ++ [x]) acc (wipeE ρ2 vs)) ∧ (b = true → ∃ y ρ3, e ρ2 = .ok y ρ3 ∧ I (p ++ [x]) (acc ++ [y]) (wipeE ρ3 vs))) →
    ∃ acc' ρ', lcGo g t e vs (xs.map f) acc ρ = .ok acc' ρ' ∧ I (pre ++ xs) acc' ρ'
  | [], pre, acc, ρ, h0, _, _ => ⟨acc, ρ, by simp [lcGo], by rw [List.append_nil]; exact h0⟩
  | x :: xs, pre, acc, ρ, h0, hl, h => by
    obtain ⟨ρ1, h1, b, ρ2, h2, h3, h4⟩ := h pre x xs acc ρ rfl h0
    rw [List.length_cons] at hl
    have step : ∀ p y q acc ρ, (pre ++ [x]) ++ xs = p ++ y :: q → I p acc ρ → ∃ ρ1, g (f y) ρ = some ρ1 ∧ ∃ b ρ2, t ρ1 = .ok b ρ2 ∧ (b = false → I (p ++ [y]) acc (wipeE ρ2 vs)) ∧ (b = true → ∃ y' ρ3, e ρ2 = .ok y' ρ3 ∧ I (p ++ [y]) (acc ++ [y']) (wipeE ρ3 vs)) := fun p y q acc ρ ee => h p y q acc ρ (by rw [← ee, List.append_assoc]; rfl)
    cases b with
    | false =>
      obtain ⟨a', ρ', h5, h6⟩ := lcGo_inv f I xs (pre ++ [x]) acc _ (h3 rfl) (by omega) step
      refine ⟨a', ρ', ?_, by rw [List.append_assoc] at h6; exact h6⟩
      show lcGo g t e vs (f x :: xs.map f) acc ρ = _
      unfold lcGo
      rw [h1]; dsimp only; rw [h2]; exact h5
    | true =>
      obtain ⟨y, ρ3, h7, h8⟩ := h4 rfl
      obtain ⟨a', ρ', h5, h6⟩ := lcGo_inv f I xs (pre ++ [x]) (acc ++ [y]) _ h8 (by rw [List.length_append]; simp; omega) step
      refine ⟨a', ρ', ?_, by rw [List.append_assoc] at h6; exact h6⟩
      show lcGo g t e vs (f x :: xs.map f) acc ρ = _
      unfold lcGo
      rw [h1]; dsimp only; rw [h2]; dsimp only; rw [h7]; dsimp only
      rw [if_pos (Nat.lt_of_lt_of_le (show acc.length < 1000000 by omega) (by decide))]; exact h5
end
/-! ### small facts -/
theorem sl_le {n : Nat} (h : n ≤ 1000000) : n ≤ sizeLine := Nat.le_trans h (by decide)
theorem sl_lt {n : Nat} (h : n < 1000000) : n < sizeLine := Nat.lt_of_lt_of_le h (by decide)
/-- a slot that a loop's variable left -/
def lv : Option Dt → Option Sl
  | none => none
  | some d => some (.val d)
theorem feq_int (a b : Int) : fEq (.int a) (.int b) = some (.bl (decide (a = b))) := by
  by_cases h : a = b
  · subst h; simp [fEq, dEq, toPy, SeqAt.shaped, PyData.canLay0, PyData.depth, PyData.eqv]
  · simp [fEq, dEq, toPy, SeqAt.shaped, PyData.canLay0, PyData.depth, PyData.eqv, h]
theorem fne_int (a b : Int) : fNe (.int a) (.int b) = some (.bl (!decide (a = b))) := by
  have h := feq_int a b
  unfold fEq at h
  unfold fNe
  cases q : dEq (.int a) (.int b) with
  | none => rw [q] at h; cases h
  | some v => rw [q] at h; simp at h; rw [h]; rfl
end Dl
namespace Dl
open PySem PySem.Spec PyProof.Rows L2
/-! ### draws (the first sort of law) -/
theorem atI0 {α : Type} (x : α) (l : List α) : atI (x :: l) 0 = some x := by
  simp [atI, ixN]
theorem atI_nn {α : Type} (l : List α) {i : Int} (h0 : 0 ≤ i) (h1 : i < l.length) : atI l i = l[i.toNat]? := by
  simp [atI, ixN, h0, h1]
theorem atI1 {α : Type} (x y : α) (l : List α) : atI (x :: y :: l) 1 = some y := by
  rw [atI_nn _ (by decide) (by simp; omega)]; rfl
theorem atI2 {α : Type} (x y z : α) (l : List α) : atI (x :: y :: z :: l) 2 = some z := by
  rw [atI_nn _ (by decide) (by simp; omega)]; rfl
/-- a box of draws -/
def bxD (b : Int × Int × Int) : Dt := .lst [.int b.1, .int b.2.1, .int b.2.2]
theorem take_pos {c s t b : Int} (hc : 0 < c) (hb : 0 < b) (hb2 : b < 1267650600228229401496703205376) :
    m_law_take [bxD (c, s, t), .int b] = .ret (.int (c % b)) (bxD (c / b, s, t)) := by
  simp [bxD, m_law_take, runF, b_law_take, sSeq, sIf, sBind, mB, m2, m1, mBind, mOpt, mPure, hasSl, mIxV, mPeek, mVar, fI, fIx, fGt, argE, atI0, hc, sSet, sPut, setSl, fMod, hb, fInt, fDiv, CDivX, hb2, sLput, putL, mMut, sRet, ioOut, ixN]
def tRaw (s t : Int) : Int := ((s + 104729 * (t + 1)) * 69623) % 2147483647
def tSeed (s t : Int) : Int := (tRaw s t * 48271 + 30103) % 2147483629 + 1
theorem take_zero {c s t b : Int} (hc : ¬ 0 < c) (hb : 0 < b) (hb2 : b < 1099511627776) :
    m_law_take [bxD (c, s, t), .int b] = .ret (.int ((tRaw s t * 2147483647 + tSeed s t) / 8191 % b)) (bxD (c, tSeed s t, t + 1)) := by
  simp [bxD, m_law_take, runF, b_law_take, sSeq, sIf, sBind, mB, m2, m1, mBind, mOpt, mPure, hasSl, mIxV, mPeek, mVar, fI, fIx, fGt, argE, atI0, atI1, atI2, hc, sSet, sPut, setSl, fMod, hb, fInt, fDiv, CDivX, hb2, sLput, putL, mMut, sRet, ioOut, ixN, fMulI, CMul, fAdd, fPow, CPow, fLt, tRaw, tSeed]
theorem take_wide {c s t b : Int} (hc : ¬ 0 < c) (hb : 0 < b) (hb2 : ¬ b < 1099511627776) :
    m_law_take [bxD (c, s, t), .int b] = .ret (.int (((tRaw s t * 2147483647 + tSeed s t) * 2147483629 ^ 3 + tSeed s t ^ 3 * 8191 + tRaw s t) % b)) (bxD (c, tSeed s t, t + 1)) := by
  have r0 : 0 ≤ tRaw s t := Int.emod_nonneg _ (by decide)
  have r1 : tRaw s t < 2147483647 := Int.emod_lt_of_pos _ (by decide)
  have s0 : 0 ≤ tSeed s t := by
    have := Int.emod_nonneg (tRaw s t * 48271 + 30103) (show (2147483629 : Int) ≠ 0 by decide)
    unfold tSeed; omega
  have s1 : tSeed s t ≤ 2147483629 := by
    have := Int.emod_lt_of_pos (tRaw s t * 48271 + 30103) (show (0 : Int) < 2147483629 by decide)
    unfold tSeed; omega
  have q1 : (tSeed s t).natAbs < 18446744073709551616 := by omega
  have q2 : -18446744073709551616 < tRaw s t * 2147483647 + tSeed s t := by omega
  have q3 : tRaw s t * 2147483647 + tSeed s t < 18446744073709551616 := by omega
  have eR : (s + 104729 * (t + 1)) * 69623 % 2147483647 = tRaw s t := rfl
  have eS : (tRaw s t * 48271 + 30103) % 2147483629 + 1 = tSeed s t := rfl
  generalize hR : tRaw s t = R at *
  generalize hS : tSeed s t = S at *
  simp [bxD, m_law_take, runF, b_law_take, sSeq, sIf, sBind, mB, m2, m1, mBind, mOpt, mPure, hasSl, mIxV, mPeek, mVar, fI, fIx, fGt, argE, atI0, atI1, atI2, hc, sSet, sPut, setSl, fMod, hb, fInt, fDiv, CDivX, hb2, sLput, putL, mMut, sRet, ioOut, ixN, fMulI, CMul, fAdd, fPow, CPow, fLt, eR, eS, q1, q2, q3]
theorem take_any (q : Int × Int × Int) (b : Int) (hb : 0 < b) (hb2 : b < 1267650600228229401496703205376) : ∃ d q', 0 ≤ d ∧ d < b ∧ m_law_take [bxD q, .int b] = .ret (.int d) (bxD q') := by
  obtain ⟨c, s, t⟩ := q
  by_cases hc : 0 < c
  · exact ⟨_, _, Int.emod_nonneg _ (by omega), Int.emod_lt_of_pos _ hb, take_pos hc hb hb2⟩
  · by_cases h : b < 1099511627776
    · exact ⟨_, _, Int.emod_nonneg _ (by omega), Int.emod_lt_of_pos _ hb, take_zero hc hb h⟩
    · exact ⟨_, _, Int.emod_nonneg _ (by omega), Int.emod_lt_of_pos _ hb, take_wide hc hb h⟩
/-- a natural number is drawn -/
theorem take_nat (q : Int × Int × Int) (b : Nat) (hb : 0 < b) (hb2 : b < 1267650600228229401496703205376) : ∃ (d : Nat) (q' : Int × Int × Int), d < b ∧ m_law_take [bxD q, nD b] = .ret (nD d) (bxD q') := by
  obtain ⟨d, q', h1, h2, h3⟩ := take_any q b (by omega) (by omega)
  obtain ⟨n, rfl⟩ : ∃ n : Nat, d = n := ⟨d.toNat, by omega⟩
  exact ⟨n, q', by omega, h3⟩
theorem sl2 : 2 ≤ sizeLine := by decide
theorem sl3 : 3 ≤ sizeLine := by decide
theorem box_any (ns : List Int) (k o : Int) (hk : 0 ≤ k) : ∃ q, m_law_box [.scr ns, .int k, .int o] = .ret (bxD q) .non := by
  have go : (∃ c s, m_law_box [.scr ns, .int k, .int o] = .ret (.lst [.int c, .int s, .int 0]) .non) → ∃ q, m_law_box [.scr ns, .int k, .int o] = .ret (bxD q) .non := fun ⟨c, s, h⟩ => ⟨(c, s, 0), h⟩
  refine go ?_
  by_cases h1 : k < ns.length
  · have hk2 : k.toNat < ns.length := by omega
    by_cases h3 : 1000000000000000000 ≤ (if ns[k.toNat] < 0 then -ns[k.toNat] else ns[k.toNat])
    · simp [m_law_box, runF, b_law_box, sSeq, sIf, sBind, mB, m2, m1, mBind, mOpt, mPure, hasSl, mIxV, mPeek, mVar, fI, fIx, fGt, fGe, argE, sSet, sPut, setSl, fMod, fInt, sRetN, ioOut, fMulI, CMul, fAdd, fPow, CPow, fLt, fLen, mLst, mCons, fAbs, atI0, atI1, sl2, sl3, atI_nn _ hk h1, h1, hk2, h3]
    · simp [m_law_box, runF, b_law_box, sSeq, sIf, sBind, mB, m2, m1, mBind, mOpt, mPure, hasSl, mIxV, mPeek, mVar, fI, fIx, fGt, fGe, argE, sSet, sPut, setSl, fMod, fInt, sRetN, ioOut, fMulI, CMul, fAdd, fPow, CPow, fLt, fLen, mLst, mCons, fAbs, atI0, atI1, sl2, sl3, atI_nn _ hk h1, h1, hk2, h3]
  · by_cases h2 : 0 < ns.length
    · have q1 : 0 ≤ k % (ns.length : Int) := Int.emod_nonneg _ (by omega)
      have q2 : k % (ns.length : Int) < ns.length := Int.emod_lt_of_pos _ (by omega)
      have hk2 : (k % (ns.length : Int)).toNat < ns.length := by omega
      by_cases h3 : 1000000000000000000 ≤ 7727 * k + 104729 * o + 43 + (if ns[(k % (ns.length : Int)).toNat] < 0 then -ns[(k % (ns.length : Int)).toNat] else ns[(k % (ns.length : Int)).toNat]) % 2147483629 * 69623
      · simp [m_law_box, runF, b_law_box, sSeq, sIf, sBind, mB, m2, m1, mBind, mOpt, mPure, hasSl, mIxV, mPeek, mVar, fI, fIx, fGt, fGe, argE, sSet, sPut, setSl, fMod, fInt, sRetN, ioOut, fMulI, CMul, fAdd, fPow, CPow, fLt, fLen, mLst, mCons, fAbs, atI0, atI1, sl2, sl3, h1, h2, atI_nn _ q1 q2, List.getElem?_eq_getElem hk2, h3]
      · simp [m_law_box, runF, b_law_box, sSeq, sIf, sBind, mB, m2, m1, mBind, mOpt, mPure, hasSl, mIxV, mPeek, mVar, fI, fIx, fGt, fGe, argE, sSet, sPut, setSl, fMod, fInt, sRetN, ioOut, fMulI, CMul, fAdd, fPow, CPow, fLt, fLen, mLst, mCons, fAbs, atI0, atI1, sl2, sl3, h1, h2, atI_nn _ q1 q2, List.getElem?_eq_getElem hk2, h3]
    · by_cases h3 : 1000000000000000000 ≤ 7727 * k + 104729 * o + 43
      · simp [m_law_box, runF, b_law_box, sSeq, sIf, sBind, mB, m2, m1, mBind, mOpt, mPure, hasSl, mIxV, mPeek, mVar, fI, fIx, fGt, fGe, argE, sSet, sPut, setSl, fMod, fInt, sRetN, ioOut, fMulI, CMul, fAdd, fPow, CPow, fLt, fLen, mLst, mCons, fAbs, atI0, atI1, sl2, sl3, h1, h2, h3]
      · simp [m_law_box, runF, b_law_box, sSeq, sIf, sBind, mB, m2, m1, mBind, mOpt, mPure, hasSl, mIxV, mPeek, mVar, fI, fIx, fGt, fGe, argE, sSet, sPut, setSl, fMod, fInt, sRetN, ioOut, fMulI, CMul, fAdd, fPow, CPow, fLt, fLen, mLst, mCons, fAbs, atI0, atI1, sl2, sl3, h1, h2, h3]
/-! ### a list in another order -/
def mixS : En → So := sDrop (ownLst 3 (mAppend 3 (ownLst 2 (mPopAt 2 (mCallIo 2 m_law_take 0 (mCons (m1 fLen (mPeek 2)) (mPure [])))))))
theorem mix_step (b : Int × Int × Int) (it : Dt) (L Fd : List Dt) (s4 : Option Sl) (h0 : 0 < L.length) (h1 : L.length < 1000000) (h2 : Fd.length < 1000000) : ∃ (d : Nat) (b' : Int × Int × Int) (hd : d < L.length),
    mixS [io (bxD b), vl it, ow (.lst L), ow (.lst Fd), s4] = .nx [io (bxD b'), vl it, ow (.lst (L.eraseIdx d)), ow (.lst (Fd ++ [L[d]])), s4] := by
  obtain ⟨d, b', q1, q3⟩ := take_nat b L.length h0 (by omega)
  have hz : Fd.length < sizeLine := sl_lt h2
  refine ⟨d, b', q1, ?_⟩
  refine drop_ok (d := .non) ?_
  have e0 : mCallIo 2 m_law_take 0 (mCons (m1 fLen (mPeek 2)) (mPure [])) [io (bxD b), vl it, ow (.lst L), ow (.lst Fd), s4] = .ok (nD d) [io (bxD b'), vl it, ow (.lst L), ow (.lst Fd), s4] :=
    callIo_ok (d0 := bxD b) (io0 := true) (io := true) (d1 := bxD b) rfl (cons_ok (m1_ok rfl rfl) rfl) rfl rfl q3 rfl
  have e1 : ownLst 2 (mPopAt 2 (mCallIo 2 m_law_take 0 (mCons (m1 fLen (mPeek 2)) (mPure [])))) [io (bxD b), vl it, ow (.lst L), ow (.lst Fd), s4] = .ok L[d] [io (bxD b'), vl it, ow (.lst (L.eraseIdx d)), ow (.lst Fd), s4] :=
    popAt_ok (es := L) (ρ1 := [io (bxD b'), vl it, ow (.lst L), ow (.lst Fd), s4]) rfl e0 rfl h1 q1 rfl
  exact append_ok (es := Fd) rfl e1 rfl h2 rfl
theorem perm_erase {α : Type} : ∀ (L : List α) (d : Nat) (hd : d < L.length), (L[d] :: L.eraseIdx d).Perm L
  | x :: L, 0, _ => .refl _
  | x :: L, d + 1, hd => (List.Perm.swap x (L[d]'(by simpa using hd)) (L.eraseIdx d)).trans (.cons x (perm_erase L d (by simpa using hd)))
theorem mixed_any (b : Int × Int × Int) (xs : List Dt) (h : xs.length < 100000) : ∃ (ys : List Dt) (b' : Int × Int × Int), ys.Perm xs ∧ m_law_mixed [bxD b, .lst xs] = .ret (.lst ys) (bxD b') := by
  have loop : ∃ ρ', forGo (gV 4) mixS ((List.range xs.length).map nD) [io (bxD b), vl (.lst xs), ow (.lst xs), ow (.lst []), none] = .nx ρ' ∧ ∃ b' L Fd s4, ρ' = [io (bxD b'), vl (.lst xs), ow (.lst L), ow (.lst Fd), lv s4] ∧ L.length + (List.range xs.length).length = xs.length ∧ (Fd ++ L).Perm xs := by
    refine forGo_inv (g := gV 4) (bd := mixS) nD (fun pre ρ => ∃ b' L Fd s4, ρ = [io (bxD b'), vl (.lst xs), ow (.lst L), ow (.lst Fd), lv s4] ∧ L.length + pre.length = xs.length ∧ (Fd ++ L).Perm xs) (List.range xs.length) [] _ ⟨b, xs, [], none, rfl, rfl, .refl _⟩ ?_
    rintro p x r ρ e ⟨b', L, Fd, s4, rfl, hl, hp⟩
    have hlen : p.length + (r.length + 1) = xs.length := by
      have := congrArg List.length e
      simpa using this.symm
    have hlp := hp.length_eq
    rw [List.length_append] at hlp
    obtain ⟨d, b2, hd, e2⟩ := mix_step b' (.lst xs) L Fd (vl (nD x)) (by omega) (by omega) (by omega)
    refine ⟨[io (bxD b'), vl (.lst xs), ow (.lst L), ow (.lst Fd), vl (nD x)], by cases s4 <;> rfl, _, .inl e2, b2, _, _, some (nD x), rfl, by rw [List.length_eraseIdx_of_lt hd, List.length_append]; simp; omega, ?_⟩
    rw [List.append_assoc]
    exact (List.Perm.append_left Fd (perm_erase L d hd)).trans hp
  obtain ⟨ρ', h1, b', L, Fd, s4, rfl, hl, hp⟩ := loop
  have hL : L = [] := List.length_eq_zero_iff.mp (by rw [List.length_range] at hl; omega)
  subst hL
  rw [List.append_nil] at hp
  refine ⟨Fd, b', hp, runF_rt (ρ := [io (bxD b'), vl (.lst xs), ow (.lst []), vl (.lst Fd), lv s4]) ?_ rfl⟩
  unfold b_law_mixed
  refine seq_nx (ρ' := [io (bxD b), vl (.lst xs), ow (.lst xs), ow (.lst []), none]) (pars_ok (ds := [.lst xs, .lst []]) (ρ1 := [io (bxD b), vl (.lst xs), none, none, none]) ?_ rfl) ?_
  · exact cons_ok (m1N_ok rfl rfl) rfl
  · refine seq_nx (for_ok (rngN_ok (N := xs.length) (ρ1 := [io (bxD b), vl (.lst xs), ow (.lst xs), ow (.lst []), none]) (cons_ok (m1_ok rfl rfl) rfl) (by omega)) h1) ?_
    rfl
end Dl
namespace Dl
open PySem PySem.Spec PyProof.Rows L2
/-! ### lists of numbers -/
theorem perm_map_inv {α β : Type} (f : α → β) {ys zs : List β} (h : ys.Perm zs) : ∀ xs : List α, zs = xs.map f → ∃ ws : List α, ws.Perm xs ∧ ys = ws.map f := by
  induction h with
  | nil =>
    intro xs e
    cases xs with
    | nil => exact ⟨[], .refl _, rfl⟩
    | cons _ _ => cases e
  | @cons x l1 l2 _ ih =>
    intro xs e
    cases xs with
    | nil => cases e
    | cons a as =>
      rw [List.map_cons] at e
      cases e
      obtain ⟨ws, p, e2⟩ := ih as rfl
      exact ⟨a :: ws, .cons a p, by rw [List.map_cons, e2]⟩
  | @swap x y l =>
    intro xs e
    match xs, e with
    | a :: b :: as, e =>
      rw [List.map_cons, List.map_cons] at e
      cases e
      exact ⟨b :: a :: as, .swap a b as, rfl⟩
  | @trans l1 l2 l3 _ _ ih1 ih2 =>
    intro xs e
    obtain ⟨ws, p, e2⟩ := ih2 xs e
    obtain ⟨vs, p2, e3⟩ := ih1 ws e2
    exact ⟨vs, p2.trans p, e3⟩
theorem mixed_map {α : Type} (f : α → Dt) (b : Int × Int × Int) (xs : List α) (h : xs.length < 100000) : ∃ (ys : List α) (b' : Int × Int × Int), ys.Perm xs ∧ m_law_mixed [bxD b, .lst (xs.map f)] = .ret (.lst (ys.map f)) (bxD b') := by
  obtain ⟨ys, b', p, e⟩ := mixed_any b (xs.map f) (by rw [List.length_map]; exact h)
  obtain ⟨ws, p2, rfl⟩ := perm_map_inv f p xs rfl
  exact ⟨ws, b', p2, e⟩
def insN (x : Nat) : List Nat → List Nat
  | [] => [x]
  | y :: r => if x ≤ y then x :: y :: r else y :: insN x r
def sortN : List Nat → List Nat
  | [] => []
  | x :: r => insN x (sortN r)
theorem insN_int (x : Nat) : ∀ l : List Nat, insI (x : Int) (l.map fun (n : Nat) => (n : Int)) = (insN x l).map fun (n : Nat) => (n : Int)
  | [] => rfl
  | y :: r => by
    show (if (x : Int) ≤ (y : Int) then _ else _) = (if x ≤ y then _ else _ : List Nat).map _
    by_cases h : x ≤ y
    · rw [if_pos (by omega), if_pos h]; rfl
    · rw [if_neg (by omega), if_neg h, insN_int x r]; rfl
theorem sortN_int : ∀ l : List Nat, sortI (l.map fun (n : Nat) => (n : Int)) = (sortN l).map fun (n : Nat) => (n : Int)
  | [] => rfl
  | x :: r => by
    show insI (x : Int) (sortI (r.map _)) = _
    rw [sortN_int r, insN_int]; rfl
theorem insN_perm (x : Nat) : ∀ l, (insN x l).Perm (x :: l)
  | [] => .refl _
  | y :: r => by
    unfold insN
    split
    · exact .refl _
    · exact (List.Perm.cons y (insN_perm x r)).trans (.swap x y r)
theorem sortN_perm : ∀ l, (sortN l).Perm l
  | [] => .refl _
  | x :: r => (insN_perm x (sortN r)).trans (.cons x (sortN_perm r))
theorem intsOf_nat : ∀ l : List Nat, intsOf (l.map nD) = some (l.map fun (n : Nat) => (n : Int))
  | [] => rfl
  | x :: r => by
    show (intsOf (r.map nD)).map ((x : Int) :: ·) = _
    rw [intsOf_nat r]; rfl
theorem sorted_nat (l : List Nat) : fSorted (.lst (l.map nD)) = some ((sortN l).map nD) := by
  show (intsOf (l.map nD)).map (fun ns => (sortI ns).map Dt.int) = _
  rw [intsOf_nat, Option.map_some, sortN_int, List.map_map]; rfl
/-! ### rows -/
def rowD (r : List Nat × List Nat) : Dt := .tup [.tup (r.1.map nD), .tup (r.2.map nD)]
def trowD (r : List Nat × List Nat) : Dt := .tup [.lst (r.1.map nD), .lst (r.2.map nD)]
def toldD (p : Nat) (rs : List (List Nat × List Nat)) : Dt := .tup [nD p, .lst (rs.map trowD)]
structure GoodRow (p : Nat) (r : List Nat × List Nat) : Prop where
  nd : r.1.Nodup
  lt : ∀ x ∈ r.1, x < p
  pm : r.2.Perm (List.range p)
theorem nodup_le : ∀ (p : Nat) (l : List Nat), l.Nodup → (∀ x ∈ l, x < p) → l.length ≤ p
  | 0, [], _, _ => Nat.le_refl _
  | 0, x :: l, _, h => absurd (h x (by simp)) (by omega)
  | p + 1, l, nd, h => by
    by_cases hp : p ∈ l
    · have h1 := nodup_le p (l.erase p) (nd.erase p) fun x hx => by
        have h2 : x ∈ l := List.mem_of_mem_erase hx
        have h3 : x ≠ p := fun z => by rw [z] at hx; exact (List.Nodup.not_mem_erase nd) hx
        have := h x h2
        omega
      rw [List.length_erase_of_mem hp] at h1
      omega
    · have h1 := nodup_le p l nd fun x hx => by
        have := h x hx
        have h3 : x ≠ p := fun z => hp (z ▸ hx)
        omega
      omega
theorem GoodRow.le {p : Nat} {r : List Nat × List Nat} (h : GoodRow p r) : r.1.length ≤ p := nodup_le p r.1 h.nd h.lt
theorem GoodRow.len {p : Nat} {r : List Nat × List Nat} (h : GoodRow p r) : r.2.length = p := by rw [h.pm.length_eq, List.length_range]
theorem rgD0 (n : Nat) : rgD 0 (n : Int) = (List.range n).map nD := by
  unfold rgD
  rw [show ((n : Int) - 0).toNat = n by omega]
  apply List.map_congr_left
  intro i _
  simp
theorem lstRg_ok {m : Mi Dt} {ρ ρ1 : En} {n : Nat} (h : m ρ = .ok (nD n) ρ1) (hn : n < 1000000) : mLstRg m ρ = .ok (.lst ((List.range n).map nD)) ρ1 := by
  refine bind_ok h ?_
  dsimp only
  rw [if_pos (show RgOk 0 (n : Int) from RgOk.of_le (by omega) (by omega) (by omega) (by omega)), rgD0]
  rfl
section
variable {α : Type} {g : Dt → En → Option En} {t : Mi Bool} {e : Mi Dt} {vs : List Nat}
theorem lc_inv {mi : Mi (List Dt)} {ρ ρ0 : En} (xs : List α) (f : α → Dt) (I : List α → List Dt → En → Prop) (hi : mi ρ = .ok (xs.map f) ρ0) (ho : ownAny ρ0 vs = false) (h0 : I [] [] (wipeE ρ0 vs)) (hl : xs.length ≤ 1000000)
    (h : ∀ (p : List α) (x : α) (q : List α) (acc : List Dt) (ρ : En), xs = p ++ x :: q → I p acc ρ → ∃ ρ1, g (f x) ρ = some ρ1 ∧ ∃ b ρ2, t ρ1 = .ok b ρ2 ∧ (b = false → I (p ++ [x]) acc (wipeE ρ2 vs)) ∧ (b = true → ∃ y ρ3, e ρ2 = .ok y ρ3 ∧ I (p ++ [x]) (acc ++ [y]) (wipeE ρ3 vs))) :
    ∃ acc ρ', mLc mi g t e vs ρ = .ok (.lst acc) (restE ρ0 ρ' vs) ∧ I xs acc ρ' := by
  obtain ⟨acc, ρ', h1, h2⟩ := lcGo_inv (g := g) (t := t) (e := e) (vs := vs) f I xs [] [] (wipeE ρ0 vs) h0 (by simpa using hl) fun p x q acc ρ ee => h p x q acc ρ (by simpa using ee)
  refine ⟨acc, ρ', ?_, h2⟩
  unfold mLc mBind
  rw [hi]; dsimp only
  rw [if_neg (by rw [ho]; decide), h1]
end
/-! ### a drawn rota -/
def rotaB : En → So := (sSeq (sSet 6 (mLstRg (mVar 3)))
  (sSeq (sSet 7 (mLc (mSeqI (mVar 6)) (gV 9) (mB (m2 fLt (mCallIo 2 m_law_take 0 (mCons (mPure (.int 5)) (mPure []))) (mPure (.int 2)))) (mVar 9) [9]))
  (sSeq (sSet 8 (mIfE (mB (m2 fGt (mCallIo 2 m_law_take 0 (mCons (mPure (.int 3)) (mPure []))) (mPure (.int 0)))) (mCallIo 2 m_law_mixed 0 (mCons (mVar 6) (mPure []))) (mVar 6)))
  (sDrop (ownLst 4 (mAppend 4 (mTup (mCons (mCallIo 2 m_law_mixed 0 (mCons (mVar 7) (mPure []))) (mCons (mVar 8) (mPure []))))))))))
theorem rota_turn (q : Int × Int × Int) (m r : Dt) (p : Nat) (hp : p < 1000) (Fd : List Dt) (hF : Fd.length < 1000) (s5 s6 s7 s8 : Option Dt) : ∃ q' row s6' s7' s8', GoodRow p row ∧
    rotaB [io (bxD q), vl m, vl r, vl (nD p), ow (.lst Fd), lv s5, lv s6, lv s7, lv s8, none] = .nx [io (bxD q'), vl m, vl r, vl (nD p), ow (.lst (Fd ++ [trowD row])), lv s5, lv s6', lv s7', lv s8', none] := by
  have lc : ∃ acc ρ', mLc (mSeqI (mVar 6)) (gV 9) (mB (m2 fLt (mCallIo 2 m_law_take 0 (mCons (mPure (.int 5)) (mPure []))) (mPure (.int 2)))) (mVar 9) [9] [io (bxD q), vl m, vl r, vl (nD p), ow (.lst Fd), lv s5, vl (.lst ((List.range p).map nD)), lv s7, lv s8, none] = .ok (.lst acc) (restE [io (bxD q), vl m, vl r, vl (nD p), ow (.lst Fd), lv s5, vl (.lst ((List.range p).map nD)), lv s7, lv s8, none] ρ' [9]) ∧
      ∃ (q' : Int × Int × Int) (ys : List Nat), acc = ys.map nD ∧ ys.Sublist (List.range p) ∧ ρ' = [io (bxD q'), vl m, vl r, vl (nD p), ow (.lst Fd), lv s5, vl (.lst ((List.range p).map nD)), lv s7, lv s8, none] := by
    refine lc_inv (List.range p) nD (fun pre acc ρ => ∃ (q' : Int × Int × Int) (ys : List Nat), acc = ys.map nD ∧ ys.Sublist pre ∧ ρ = [io (bxD q'), vl m, vl r, vl (nD p), ow (.lst Fd), lv s5, vl (.lst ((List.range p).map nD)), lv s7, lv s8, none]) rfl rfl ⟨q, [], rfl, .slnil, rfl⟩ (by rw [List.length_range]; omega) ?_
    rintro pre x post acc ρ e ⟨q1, ys, rfl, hs, rfl⟩
    obtain ⟨d, q2, h1, h2⟩ := take_any q1 5 (by decide) (by decide)
    refine ⟨_, rfl, decide (d < 2), [io (bxD q2), vl m, vl r, vl (nD p), ow (.lst Fd), lv s5, vl (.lst ((List.range p).map nD)), lv s7, lv s8, vl (nD x)], ?_, fun _ => ?_, fun _ => ?_⟩
    · exact tb_ok (m2_ok (callIo_ok (d0 := bxD q1) (io0 := true) (io := true) (d1 := bxD q1) rfl rfl rfl rfl h2.2 rfl) rfl rfl)
    · exact ⟨q2, ys, rfl, hs.trans (List.sublist_append_left _ _), rfl⟩
    · refine ⟨nD x, _, rfl, q2, ys ++ [x], ?_, List.Sublist.append hs (.refl _), rfl⟩
      rw [List.map_append]; rfl
  obtain ⟨acc, ρ', e1, q1, ys, rfl, hsub, rfl⟩ := lc
  have hnd : ys.Nodup := hsub.nodup List.nodup_range
  have hlt : ∀ x ∈ ys, x < p := fun x hx => List.mem_range.mp (hsub.subset hx)
  have hyl : ys.length ≤ p := by have := hsub.length_le; rwa [List.length_range] at this
  obtain ⟨d, q2, g1, g2, g3⟩ := take_any q1 3 (by decide) (by decide)
  have mv : ∃ (mvs : List Nat) (q3 : Int × Int × Int), mvs.Perm (List.range p) ∧ mIfE (mB (m2 fGt (mCallIo 2 m_law_take 0 (mCons (mPure (.int 3)) (mPure []))) (mPure (.int 0)))) (mCallIo 2 m_law_mixed 0 (mCons (mVar 6) (mPure []))) (mVar 6) [io (bxD q1), vl m, vl r, vl (nD p), ow (.lst Fd), lv s5, vl (.lst ((List.range p).map nD)), vl (.lst (ys.map nD)), lv s8, none] =
      .ok (.lst (mvs.map nD)) [io (bxD q3), vl m, vl r, vl (nD p), ow (.lst Fd), lv s5, vl (.lst ((List.range p).map nD)), vl (.lst (ys.map nD)), lv s8, none] := by
    have et : mB (m2 fGt (mCallIo 2 m_law_take 0 (mCons (mPure (.int 3)) (mPure []))) (mPure (.int 0))) [io (bxD q1), vl m, vl r, vl (nD p), ow (.lst Fd), lv s5, vl (.lst ((List.range p).map nD)), vl (.lst (ys.map nD)), lv s8, none] = .ok (decide (0 < d)) [io (bxD q2), vl m, vl r, vl (nD p), ow (.lst Fd), lv s5, vl (.lst ((List.range p).map nD)), vl (.lst (ys.map nD)), lv s8, none] :=
      tb_ok (m2_ok (callIo_ok (d0 := bxD q1) (io0 := true) (io := true) (d1 := bxD q1) rfl rfl rfl rfl g3 rfl) rfl rfl)
    by_cases hd : 0 < d
    · obtain ⟨ws, q3, h4, h5⟩ := mixed_map nD q2 (List.range p) (by rw [List.length_range]; omega)
      rw [decide_eq_true hd] at et
      exact ⟨ws, q3, h4, ife_t et (callIo_ok (d0 := bxD q2) (io0 := true) (io := true) (d1 := bxD q2) rfl rfl rfl rfl h5 rfl)⟩
    · rw [decide_eq_false hd] at et
      exact ⟨List.range p, q2, .refl _, ife_f et rfl⟩
  obtain ⟨mvs, q3, hpm, e3⟩ := mv
  obtain ⟨ts, q4, h6, h7⟩ := mixed_map nD q3 ys (by omega)
  refine ⟨q4, (ts, mvs), some (.lst ((List.range p).map nD)), some (.lst (ys.map nD)), some (.lst (mvs.map nD)), ⟨h6.nodup_iff.mpr hnd, fun x hx => hlt x (h6.mem_iff.mp hx), hpm⟩, ?_⟩
  unfold rotaB
  refine seq_nx (ρ' := [io (bxD q), vl m, vl r, vl (nD p), ow (.lst Fd), lv s5, vl (.lst ((List.range p).map nD)), lv s7, lv s8, none]) (set_ok (lstRg_ok rfl (by omega)) (by cases s6 <;> rfl)) ?_
  refine seq_nx (ρ' := [io (bxD q1), vl m, vl r, vl (nD p), ow (.lst Fd), lv s5, vl (.lst ((List.range p).map nD)), vl (.lst (ys.map nD)), lv s8, none]) (set_ok e1 (by cases s7 <;> rfl)) ?_
  refine seq_nx (ρ' := [io (bxD q3), vl m, vl r, vl (nD p), ow (.lst Fd), lv s5, vl (.lst ((List.range p).map nD)), vl (.lst (ys.map nD)), vl (.lst (mvs.map nD)), none]) (set_ok e3 (by cases s8 <;> rfl)) ?_
  refine drop_ok (append_ok (es := Fd) (ds := Fd) (d := trowD (ts, mvs)) (ρ1 := [io (bxD q4), vl m, vl r, vl (nD p), ow (.lst Fd), lv s5, vl (.lst ((List.range p).map nD)), vl (.lst (ys.map nD)), vl (.lst (mvs.map nD)), none]) rfl ?_ rfl (by omega) rfl)
  exact tup_ok (cons_ok (callIo_ok (d0 := bxD q3) (io0 := true) (io := true) (d1 := bxD q3) rfl rfl rfl rfl h7 rfl) rfl) (sl_le (by simp))
theorem rota_any (q : Int × Int × Int) (most rows : Nat) (h1 : 0 < most) (h2 : most < 100) (h3 : 0 < rows) (h4 : rows < 100) : ∃ p rs q', 0 < p ∧ p ≤ most ∧ 0 < rs.length ∧ rs.length ≤ rows ∧ (∀ r ∈ rs, GoodRow p r) ∧
    m_law_rota [bxD q, nD most, nD rows] = .ret (toldD p rs) (bxD q') := by
  obtain ⟨d, q1, e1, e2⟩ := take_nat q most h1 (by omega)
  obtain ⟨n, q2, e3, e4⟩ := take_nat q1 rows h3 (by omega)
  have loop := forGo_inv (g := gV 5) (bd := rotaB) nD (fun pre ρ => ∃ (q' : Int × Int × Int) (rs : List (List Nat × List Nat)) (s5 s6 s7 s8 : Option Dt), rs.length = pre.length ∧ (∀ r ∈ rs, GoodRow (1 + d) r) ∧ ρ = [io (bxD q'), vl (nD most), vl (nD rows), vl (nD (1 + d)), ow (.lst (rs.map trowD)), lv s5, lv s6, lv s7, lv s8, none]) (List.range (1 + n)) []
    [io (bxD q2), vl (nD most), vl (nD rows), vl (nD (1 + d)), ow (.lst []), none, none, none, none, none] ⟨q2, [], none, none, none, none, rfl, (fun _ h => nomatch h), rfl⟩ (by
      rintro pre x post ρ e ⟨q', rs, s5, s6, s7, s8, hl, hg, rfl⟩
      have hlen : pre.length + (post.length + 1) = 1 + n := by
        have := congrArg List.length e
        simpa using this.symm
      obtain ⟨q5, row, t6, t7, t8, hr, er⟩ := rota_turn q' (nD most) (nD rows) (1 + d) (by omega) (rs.map trowD) (by rw [List.length_map]; omega) (some (nD x)) s6 s7 s8
      refine ⟨_, by cases s5 <;> rfl, _, .inl er, q5, rs ++ [row], some (nD x), t6, t7, t8, by simp [hl], fun r hr' => ?_, by rw [List.map_append]; rfl⟩
      rcases List.mem_append.mp hr' with h | h
      · exact hg r h
      · rw [List.mem_singleton.mp h]; exact hr)
  obtain ⟨ρ', e5, q3, rs, s5, s6, s7, s8, hl, hg, rfl⟩ := loop
  refine ⟨1 + d, rs, q3, by omega, by omega, by rw [hl]; simp; omega, by rw [hl]; simp; omega, hg, runF_rt (ρ := [io (bxD q3), vl (nD most), vl (nD rows), vl (nD (1 + d)), vl (.lst (rs.map trowD)), lv s5, lv s6, lv s7, lv s8, none]) ?_ rfl⟩
  unfold b_law_rota
  have c1 : (1 : Int) + (d : Int) = ((1 + d : Nat) : Int) := by omega
  have c2 : (1 : Int) + (n : Int) = ((1 + n : Nat) : Int) := by omega
  refine seq_nx (ρ' := [io (bxD q1), vl (nD most), vl (nD rows), vl (nD (1 + d)), ow (.lst []), none, none, none, none, none]) (pars_ok (ds := [nD (1 + d), .lst []]) (ρ1 := [io (bxD q1), vl (nD most), vl (nD rows), none, none, none, none, none, none, none]) ?_ rfl) ?_
  · refine cons_ok (m2_ok rfl (callIo_ok (d0 := bxD q) (io0 := true) (io := true) (d1 := bxD q) rfl rfl rfl rfl e2 rfl) ?_) rfl
    show some (Dt.int (1 + (d : Int))) = _
    rw [c1]
  · refine seq_nx (for_ok (rngN_ok (N := 1 + n) (ρ1 := [io (bxD q2), vl (nD most), vl (nD rows), vl (nD (1 + d)), ow (.lst []), none, none, none, none, none]) (cons_ok (m2_ok rfl (callIo_ok (d0 := bxD q1) (io0 := true) (io := true) (d1 := bxD q1) rfl rfl rfl rfl e4 rfl) ?_) rfl) (by omega)) e5) ?_
    · show some (Dt.int (1 + (n : Int))) = _
      rw [c2]
    · rfl
end Dl
namespace Dl
open PySem PySem.Spec PyProof.Rows L2
/-! ### the small tests -/
theorem is_from_int (x l : Int) : m_is_from [.int x, .int l] = .ret (.bl (decide (l ≤ x))) .non := rfl
theorem is_below_int {x b : Int} (h0 : 0 ≤ x) : m_is_below [.int x, .int b] = .ret (.bl (decide (x < b))) .non := by
  refine runF_rt (ρ := [vl (.int x), vl (.int b)]) (ret_ok (andV_t (ρ1 := [vl (.int x), vl (.int b)]) ?_ rfl)) rfl
  refine call_ok (ds := [.int x, .int 0]) (r := .non) rfl rfl ?_
  rw [is_from_int, decide_eq_true h0]
theorem is_below_nat (x b : Nat) : m_is_below [nD x, nD b] = .ret (.bl (decide (x < b))) .non := by
  rw [is_below_int (by omega)]
  congr 2
  exact decide_eq_decide.mpr (by omega)
theorem blsOf_map : ∀ l : List Bool, blsOf (l.map .bl) = some l
  | [] => rfl
  | b :: r => by
    show (blsOf (r.map .bl)).map (b :: ·) = _
    rw [blsOf_map r]; rfl
theorem all_ok {m : Mi Dt} {ρ ρ1 : En} {α : Type} {xs : List α} {f : α → Bool} (h : m ρ = .ok (.lst (xs.map fun x => .bl (f x))) ρ1) : m1 fAll m ρ = .ok (.bl (xs.all f)) ρ1 := by
  refine m1_ok h ?_
  show (blsOf (xs.map fun x => .bl (f x))).map (fun bs => Dt.bl (bs.all id)) = _
  have e : (xs.map fun x => Dt.bl (f x)) = (xs.map f).map .bl := by rw [List.map_map]; rfl
  rw [e, blsOf_map, Option.map_some, List.all_map]; rfl
/-- items of a list or a tuple -/
def sqD : Bool → List Dt → Dt
  | true, xs => .tup xs
  | false, xs => .lst xs
theorem keyEq_nat (a b : Nat) : keyEq (nD a) (nD b) = decide (a = b) := by
  show decide ((a : Int) = (b : Int)) = _
  exact decide_eq_decide.mpr (by omega)
theorem dc_nat {g : Dt → En → Option En} {mk : Mi Dt} {vs : List Nat} {ρ : En} (h : ∀ x : Nat, ∃ ρ1, g (nD x) ρ = some ρ1 ∧ mk ρ1 = .ok (nD x) ρ1 ∧ wipeE ρ1 vs = ρ) : ∀ (xs pre : List Nat) (ds : List Dt), (pre ++ xs).Nodup → (pre ++ xs).length ≤ 1000000 →
    dcGo g (mPure true) mk (mPure (.bl true)) vs (xs.map nD) (pre.map nD) ds ρ = .ok ((pre ++ xs).map nD, ds ++ List.replicate xs.length (.bl true)) ρ
  | [], pre, ds, _, _ => by simp [dcGo]
  | x :: xs, pre, ds, nd, hl => by
    obtain ⟨ρ1, h1, h2, h3⟩ := h x
    have hx : x ∉ pre := fun hx => by
      rw [List.nodup_append] at nd
      exact nd.2.2 x hx x (by simp) rfl
    rw [List.length_append, List.length_cons] at hl
    show dcGo g (mPure true) mk (mPure (.bl true)) vs (nD x :: xs.map nD) (pre.map nD) ds ρ = _
    unfold dcGo
    rw [h1]; dsimp only
    show (match mk ρ1 with | .ok x ρ3 => _ | _ => _) = _
    rw [h2]; dsimp only
    show (if (pre.map nD).length < sizeLine then _ else _) = _
    rw [if_pos (by rw [List.length_map]; exact sl_lt (by omega)), h3]
    have e : dPut keyEq (nD x) (.bl true) (pre.map nD) ds = ((pre ++ [x]).map nD, ds ++ [.bl true]) := by
      unfold dPut
      rw [if_neg, List.map_append]; rfl
      rw [List.any_map]
      simp only [Function.comp, Bool.not_eq_true, List.any_eq_false]
      intro y hy
      rw [keyEq_nat]
      simp
      intro z; exact hx (z ▸ hy)
    rw [e]
    dsimp only
    rw [dc_nat h xs (pre ++ [x]) (ds ++ [Dt.bl true]) (by rw [List.append_assoc]; exact nd) (by rw [List.append_assoc, List.length_append]; simp; omega)]
    rw [List.append_assoc, List.append_assoc, List.length_cons, List.replicate_succ]
    rfl
theorem is_unlike_ok (b : Bool) (xs : List Nat) (p : Nat) (nd : xs.Nodup) (lt : ∀ x ∈ xs, x < p) (hl : xs.length < 1000000) : m_is_unlike [sqD b (xs.map nD), nD p] = .ret (.bl true) .non := by
  refine runF_rt (ρ := [vl (sqD b (xs.map nD)), vl (nD p), none]) ?_ rfl
  unfold b_is_unlike
  refine seq_nx (ρ' := [vl (sqD b (xs.map nD)), vl (nD p), none]) (if_f (ρ1 := [vl (sqD b (xs.map nD)), vl (nD p), none]) (or_f (ρ1 := [vl (sqD b (xs.map nD)), vl (nD p), none]) (not_ok (b := true) (tb_ok (call_ok (ds := [sqD b (xs.map nD)]) (r := .non) rfl rfl (by cases b <;> rfl)))) (not_ok (b := true) (tb_ok ?_))) rfl) ?_
  · have e : mLc (mSeqI (mVar 0)) (gV 2) (mPure true) (mCall 2 m_is_below (mCons (mVar 2) (mCons (mVar 1) (mPure [])))) [2] [vl (sqD b (xs.map nD)), vl (nD p), none] = .ok (.lst (xs.map fun x => .bl (decide (x < p)))) [vl (sqD b (xs.map nD)), vl (nD p), none] :=
      lc_map xs nD _ (by cases b <;> rfl) rfl (fun x _ => ⟨_, rfl, _, call_ok (ds := [nD x, nD p]) (r := .non) rfl rfl (is_below_nat x p), rfl⟩) (by omega)
    have e2 := all_ok (f := fun x => decide (x < p)) e
    rw [List.all_eq_true.mpr fun x hx => decide_eq_true (lt x hx)] at e2
    exact e2
  · refine ret_ok (m2_ok (x := nD xs.length) (y := nD xs.length) (ρ1 := [vl (sqD b (xs.map nD)), vl (nD p), none]) (m1_ok (x := .dic false (xs.map nD) ([] ++ List.replicate xs.length (.bl true))) ?_ ?_) (m1_ok (x := sqD b (xs.map nD)) rfl ?_) (by rw [feq_int]; simp))
    · refine bind_ok (a := xs.map nD) (ρ1 := [vl (sqD b (xs.map nD)), vl (nD p), none]) (by cases b <;> rfl) ?_
      show (if ownAny [vl (sqD b (xs.map nD)), vl (nD p), none] [2] = true then _ else _) = _
      rw [if_neg (by simp [ownAny])]
      have e := dc_nat (g := gV 2) (mk := mVar 2) (vs := [2]) (ρ := [vl (sqD b (xs.map nD)), vl (nD p), none]) (fun x => ⟨_, rfl, rfl, rfl⟩) xs [] [] nd (by simpa using Nat.le_of_lt hl)
      rw [show wipeE [vl (sqD b (xs.map nD)), vl (nD p), none] [2] = [vl (sqD b (xs.map nD)), vl (nD p), none] from rfl]
      have e' : dcGo (gV 2) (mPure true) (mVar 2) (mPure (.bl true)) [2] (xs.map nD) [] [] [vl (sqD b (xs.map nD)), vl (nD p), none] = _ := e
      rw [e']
      rfl
    · show some (Dt.int ((xs.map nD).length : Int)) = _
      rw [List.length_map]
    · cases b
      · show some (Dt.int ((xs.map nD).length : Int)) = _
        rw [List.length_map]
      · show some (Dt.int ((xs.map nD).length : Int)) = _
        rw [List.length_map]
/-- a row as it is handed in: the turned places and the moves, each a list or a tuple -/
def rowG (b c : Bool) (r : List Nat × List Nat) : Dt := .tup [sqD b (r.1.map nD), sqD c (r.2.map nD)]
theorem is_row_ok (b c : Bool) (r : List Nat × List Nat) (p : Nat) (h : GoodRow p r) (hp : p < 1000) : m_is_row [rowG b c r, nD p] = .ret (.bl true) .non := by
  have h1 := is_unlike_ok b r.1 p h.nd h.lt (Nat.lt_of_le_of_lt h.le (by omega))
  have h2 := is_unlike_ok c r.2 p (h.pm.nodup_iff.mpr List.nodup_range) (fun x hx => List.mem_range.mp (h.pm.mem_iff.mp hx)) (by rw [h.len]; omega)
  refine runF_rt (ρ := [vl (rowG b c r), vl (nD p)]) ?_ rfl
  unfold b_is_row
  refine seq_nx (ρ' := [vl (rowG b c r), vl (nD p)]) (if_f (ρ1 := [vl (rowG b c r), vl (nD p)]) (or_f (ρ1 := [vl (rowG b c r), vl (nD p)]) (not_ok (b := true) rfl) (or_f (ρ1 := [vl (rowG b c r), vl (nD p)]) (tb_ok (m2_ok (x := .int 2) (y := .int 2) (ρ1 := [vl (rowG b c r), vl (nD p)]) rfl rfl (by rw [fne_int]; rfl))) (not_ok (b := true) (tb_ok (call_ok (ds := [sqD b (r.1.map nD), nD p]) (r := .non) rfl rfl h1))))) rfl) ?_
  refine ret_ok (andV_t (ρ1 := [vl (rowG b c r), vl (nD p)]) (call_ok (ds := [sqD c (r.2.map nD), nD p]) (r := .non) rfl rfl h2) (m2_ok (x := nD p) (y := nD p) (ρ1 := [vl (rowG b c r), vl (nD p)]) (m1_ok (x := sqD c (r.2.map nD)) rfl ?_) rfl (by rw [feq_int]; simp)))
  cases c
  · show some (Dt.int ((r.2.map nD).length : Int)) = _
    rw [List.length_map, h.len]
  · show some (Dt.int ((r.2.map nD).length : Int)) = _
    rw [List.length_map, h.len]
/-! ### texts -/
def nS (n : Nat) : Str := (toString (n : Int) : String)
theorem nS_len {n : Nat} (h : n < 10) : (nS n).length ≤ 1 := by
  match n, h with
  | 0, _ => decide
  | 1, _ => decide
  | 2, _ => decide
  | 3, _ => decide
  | 4, _ => decide
  | 5, _ => decide
  | 6, _ => decide
  | 7, _ => decide
  | 8, _ => decide
  | 9, _ => decide
theorem join_len (sep : Str) : ∀ ys : List Str, (Str.join sep ys).length ≤ (ys.map (·.length)).sum + ys.length * sep.length
  | [] => Nat.zero_le _
  | [x] => by
    show x.length ≤ _
    simp only [List.map_cons, List.sum_cons]
    omega
  | x :: y :: r => by
    show (x ++ sep ++ Str.join sep (y :: r)).length ≤ _
    have h := join_len sep (y :: r)
    rw [Str.length_append, Str.length_append, List.map_cons, List.sum_cons, List.length_cons, Nat.succ_mul]
    omega
def wordsS (l : List Nat) : Str := Txt.join (" " : Str) (l.map nS)
theorem sum_le (l : List Nat) (h : ∀ x ∈ l, x < 10) : ((l.map nS).map (·.length)).sum ≤ l.length := by
  induction l with
  | nil => exact Nat.le_refl _
  | cons x r ih =>
    have h1 := nS_len (h x (by simp))
    have h2 := ih fun y hy => h y (by simp [hy])
    simp only [List.map_cons, List.sum_cons, List.length_cons]
    omega
theorem sep_len : ((" " : Str)).length = 1 := by decide
theorem wordsS_len (l : List Nat) (h : ∀ x ∈ l, x < 10) : (wordsS l).length ≤ 2 * l.length := by
  unfold wordsS
  rw [TL.join_eq]
  have h1 := join_len (" " : Str) (l.map nS)
  have h2 := sum_le l h
  rw [List.length_map, sep_len] at h1
  omega
theorem fStr_nat {n : Nat} (h : n < 10) : fStr (nD n) = some (.str (nS n)) := by
  show (if ((n : Int)).natAbs.log2 < 1920 then some (Dt.str _) else none) = _
  rw [if_pos]; rfl
  have : ((n : Int)).natAbs < 10 := by omega
  generalize ((n : Int)).natAbs = k at this
  match k, this with
  | 0, _ => decide
  | 1, _ => decide
  | 2, _ => decide
  | 3, _ => decide
  | 4, _ => decide
  | 5, _ => decide
  | 6, _ => decide
  | 7, _ => decide
  | 8, _ => decide
  | 9, _ => decide
theorem strsOf_map : ∀ l : List Str, strsOf (l.map .str) = some l
  | [] => rfl
  | b :: r => by
    show (strsOf (r.map .str)).map (b :: ·) = _
    rw [strsOf_map r]; rfl
theorem join_ok {m : Mi Dt} {ρ ρ1 : En} {l : List Nat} (h : m ρ = .ok (.lst (l.map fun n => .str (nS n))) ρ1) (hl : ∀ x ∈ l, x < 10) (hz : l.length < 1000) : mJoin (mPure (.str " ")) m ρ = .ok (.str (wordsS l)) ρ1 := by
  refine bind_ok (a := .str (" " : Str)) (ρ1 := ρ) rfl ?_
  dsimp only
  refine bind_ok h ?_
  show mOpt ((strsOf (l.map fun n => Dt.str (nS n))).bind _) _ = _
  have e : (l.map fun n => Dt.str (nS n)) = (l.map nS).map .str := by rw [List.map_map]; rfl
  have h2 := sum_le l hl
  rw [e, strsOf_map, Option.bind_some, if_pos]; rfl
  rw [List.length_map, sep_len]
  omega
theorem js_ok {ρ : En} {s0 s1 : Str} {m : Mi Dt} {r : List (Mi Dt)} {o : Ou Str} (h : m ρ = .ok (.str s1) ρ) (hl : (s0 ++ s1).length ≤ 1000000) (k : mJs r (s0 ++ s1) ρ = o) : mJs (m :: r) s0 ρ = o := by
  refine bind_ok h ?_
  dsimp only
  rw [if_pos (sl_le hl)]
  exact k
theorem joined_ok {ρ ρ1 : En} {s : Str} {ms : List (Mi Dt)} (h : mJs ms Str.empty ρ = .ok s ρ1) : mJoined ms ρ = .ok (.str s) ρ1 := bind_ok h rfl
theorem fmt_str {s : Str} (h : s.length ≤ 1000000) : fFmt (.str s) = some (.str s) := by
  show (if s.length ≤ sizeLine then _ else _) = _
  rw [if_pos (sl_le h)]
theorem fmt_nat {n : Nat} (h : n < 10) : fFmt (nD n) = some (.str (nS n)) := fStr_nat h
def spotS (l : List Nat) : Str := if 0 < l.length then wordsS l else ("none" : Str)
theorem spotS_len (l : List Nat) (h : ∀ x ∈ l, x < 10) : (spotS l).length ≤ 2 * l.length + 4 := by
  unfold spotS
  split
  · have := wordsS_len l h; omega
  · show (("none" : Str)).length ≤ _
    have : (("none" : Str)).length = 4 := by decide
    omega
def lineS (acc : Str) (r : List Nat × List Nat) : Str := ((((Str.empty ++ acc) ++ ("\nturn " : Str)) ++ spotS r.1) ++ (" move " : Str)) ++ wordsS r.2
def txtS (p : Nat) (rs : List (List Nat × List Nat)) : Str := rs.foldl lineS ((Str.empty ++ ("places " : Str)) ++ nS p)
theorem lineS_len (acc : Str) (r : List Nat × List Nat) (h1 : ∀ x ∈ r.1, x < 10) (h2 : ∀ x ∈ r.2, x < 10) (l1 : r.1.length ≤ 10) (l2 : r.2.length ≤ 10) : (lineS acc r).length ≤ acc.length + 60 := by
  unfold lineS
  have e1 : (Str.empty).length = 0 := by decide
  have e2 : (("\nturn " : Str)).length = 6 := by decide
  have e3 : ((" move " : Str)).length = 6 := by decide
  have e4 := spotS_len r.1 h1
  have e5 := wordsS_len r.2 h2
  rw [Str.length_append, Str.length_append, Str.length_append, Str.length_append, Str.length_append]
  omega
structure SmallRow (r : List Nat × List Nat) : Prop where
  a1 : ∀ x ∈ r.1, x < 10
  a2 : ∀ x ∈ r.2, x < 10
  l1 : r.1.length ≤ 10
  l2 : r.2.length ≤ 10
theorem txt_len (p : Nat) (hp : p < 10) : ∀ (rs : List (List Nat × List Nat)), (∀ r ∈ rs, SmallRow r) → ∀ acc : Str, (rs.foldl lineS acc).length ≤ acc.length + 60 * rs.length
  | [], _, acc => Nat.le_refl _
  | r :: rs, h, acc => by
    have h1 := h r (by simp)
    have h2 := lineS_len acc r h1.a1 h1.a2 h1.l1 h1.l2
    have h3 := txt_len p hp rs (fun x hx => h x (by simp [hx])) (lineS acc r)
    rw [List.foldl_cons, List.length_cons]
    omega
theorem text_ok (p : Nat) (hp : p < 10) (rs : List (List Nat × List Nat)) (h : ∀ r ∈ rs, SmallRow r) (hl : rs.length < 100) : m_text_of_rota [nD p, .tup (rs.map rowD)] = .ret (.str (txtS p rs)) .non := by
  have e0 : ((Str.empty ++ ("places " : Str)) ++ nS p).length ≤ 8 := by
    have e1 : (Str.empty).length = 0 := by decide
    have e2 : (("places " : Str)).length = 7 := by decide
    have e3 := nS_len hp
    rw [Str.length_append, Str.length_append]; omega
  have loop := forGo_fold (g := gT (gsC (gV 3) (gsC (gV 4) gsN)) 2) (bd := (sSeq (sSet 5 (mIfE (mB (m2 fGt (m1 fLen (mPeek 3)) (mPure (.int 0)))) (mJoin (mPure (.str " ")) (mLc (mSeqI (mVar 3)) (gV 7) (mPure true) (m1 fStr (mPeek 7)) [7])) (mPure (.str "none"))))
  (sSeq (sSet 6 (mJoin (mPure (.str " ")) (mLc (mSeqI (mVar 4)) (gV 7) (mPure true) (m1 fStr (mPeek 7)) [7])))
  (sSet 2 (mJoined [(m1 fFmt (mVar 2)), (mPure (.str "\nturn ")), (m1 fFmt (mVar 5)), (mPure (.str " move ")), (m1 fFmt (mVar 6))])))))
    rowD (fun (st : Str × (Option Dt × Option Dt × Option Dt × Option Dt)) => [vl (nD p), vl (.tup (rs.map rowD)), vl (.str st.1), lv st.2.1, lv st.2.2.1, lv st.2.2.2.1, lv st.2.2.2.2, none])
    (fun st r => (lineS st.1 r, some (.tup (r.1.map nD)), some (.tup (r.2.map nD)), some (.str (spotS r.1)), some (.str (wordsS r.2)))) rs ((Str.empty ++ ("places " : Str)) ++ nS p, none, none, none, none) (by
      intro pre r post e
      have hr := h r (by rw [e]; simp)
      have hfst : ∀ (l : List (List Nat × List Nat)) (st : Str × (Option Dt × Option Dt × Option Dt × Option Dt)), (l.foldl (fun st r => (lineS st.1 r, some (Dt.tup (r.1.map nD)), some (Dt.tup (r.2.map nD)), some (Dt.str (spotS r.1)), some (Dt.str (wordsS r.2)))) st).1 = l.foldl lineS st.1 := fun l => by
        induction l with
        | nil => intro st; rfl
        | cons x l ih => intro st; rw [List.foldl_cons, ih]; rfl
      have hlen := txt_len p hp pre (fun x hx => h x (by rw [e]; simp [hx])) ((Str.empty ++ ("places " : Str)) ++ nS p)
      have hpl : pre.length < 100 := by
        have := congrArg List.length e
        rw [List.length_append, List.length_cons] at this
        omega
      rw [List.foldl_append, List.foldl_cons, List.foldl_nil]
      have hA := hfst pre ((Str.empty ++ ("places " : Str)) ++ nS p, none, none, none, none)
      generalize pre.foldl _ _ = st at hA ⊢
      obtain ⟨acc, s3, s4, s5, s6⟩ := st
      dsimp only at hA ⊢
      subst hA
      generalize hacc : pre.foldl lineS ((Str.empty ++ ("places " : Str)) ++ nS p) = acc at hlen ⊢
      have hal : acc.length ≤ 10000 := by omega
      refine ⟨[vl (nD p), vl (.tup (rs.map rowD)), vl (.str acc), vl (.tup (r.1.map nD)), vl (.tup (r.2.map nD)), lv s5, lv s6, none], by cases s3 <;> cases s4 <;> rfl, ?_⟩
      have lcw : ∀ (i : Nat) (l : List Nat) (ρ : En), ρ[i]? = some (vl (.tup (l.map nD))) → ρ.length = 8 → ρ[7]? = some none → i ≠ 7 → (∀ x ∈ l, x < 10) → l.length ≤ 10 → mJoin (mPure (.str " ")) (mLc (mSeqI (mVar i)) (gV 7) (mPure true) (m1 fStr (mPeek 7)) [7]) ρ = .ok (.str (wordsS l)) ρ := fun i l ρ e1 e2 e3 e4 e5 e6 => by
        have ew : wipeE ρ [7] = ρ := by
          show ρ.set 7 none = ρ
          apply List.ext_getElem?
          intro j
          by_cases hj : 7 = j
          · subst hj; rw [List.getElem?_set_self (by omega), e3]
          · rw [List.getElem?_set_ne hj]
        refine join_ok ?_ e5 (by omega)
        refine lc_map l nD _ ?_ ?_ (fun x hx => ?_) (by omega)
        · refine bind_ok (a := .tup (l.map nD)) (ρ1 := ρ) ?_ rfl
          unfold mVar; rw [e1]
        · unfold ownAny; rw [e3]; rfl
        · rw [ew]
          refine ⟨ρ.set 7 (vl (nD x)), ?_, ρ.set 7 (vl (nD x)), m1_ok (x := nD x) ?_ (fStr_nat (e5 x hx)), ?_⟩
          · show setSl 7 _ ρ = _
            unfold setSl; rw [e3]
          · unfold mPeek; rw [List.getElem?_set_self (by omega)]
          · show (ρ.set 7 _).set 7 none = ρ
            rw [List.set_set]; exact ew
      refine seq_nx (ρ' := [vl (nD p), vl (.tup (rs.map rowD)), vl (.str acc), vl (.tup (r.1.map nD)), vl (.tup (r.2.map nD)), vl (.str (spotS r.1)), lv s6, none]) (set_ok (d := .str (spotS r.1)) (ρ1 := [vl (nD p), vl (.tup (rs.map rowD)), vl (.str acc), vl (.tup (r.1.map nD)), vl (.tup (r.2.map nD)), lv s5, lv s6, none]) ?_ (by cases s5 <;> rfl)) ?_
      · have et : mB (m2 fGt (m1 fLen (mPeek 3)) (mPure (.int 0))) [vl (nD p), vl (.tup (rs.map rowD)), vl (.str acc), vl (.tup (r.1.map nD)), vl (.tup (r.2.map nD)), lv s5, lv s6, none] = .ok (decide (0 < r.1.length)) [vl (nD p), vl (.tup (rs.map rowD)), vl (.str acc), vl (.tup (r.1.map nD)), vl (.tup (r.2.map nD)), lv s5, lv s6, none] := by
          refine tb_ok (m2_ok (x := nD r.1.length) (y := .int 0) (ρ1 := [vl (nD p), vl (.tup (rs.map rowD)), vl (.str acc), vl (.tup (r.1.map nD)), vl (.tup (r.2.map nD)), lv s5, lv s6, none]) (m1_ok (x := .tup (r.1.map nD)) rfl ?_) rfl ?_)
          · show some (Dt.int ((r.1.map nD).length : Int)) = _
            rw [List.length_map]
          · show some (Dt.bl (decide ((0 : Int) < (r.1.length : Int)))) = _
            rw [show (decide ((0 : Int) < (r.1.length : Int))) = decide (0 < r.1.length) from decide_eq_decide.mpr (by omega)]
        unfold spotS
        by_cases hz : 0 < r.1.length
        · rw [decide_eq_true hz] at et
          rw [if_pos hz]
          exact ife_t et (lcw 3 r.1 _ rfl rfl rfl (by decide) hr.a1 hr.l1)
        · rw [decide_eq_false hz] at et
          rw [if_neg hz]
          exact ife_f et rfl
      · refine seq_nx (ρ' := [vl (nD p), vl (.tup (rs.map rowD)), vl (.str acc), vl (.tup (r.1.map nD)), vl (.tup (r.2.map nD)), vl (.str (spotS r.1)), vl (.str (wordsS r.2)), none]) (set_ok (lcw 4 r.2 _ rfl rfl rfl (by decide) hr.a2 hr.l2) (by cases s6 <;> rfl)) ?_
        have e1 : (Str.empty).length = 0 := by decide
        have e2 : (("\nturn " : Str)).length = 6 := by decide
        have e3 : ((" move " : Str)).length = 6 := by decide
        have e4 := spotS_len r.1 hr.a1
        have e5 := wordsS_len r.2 hr.a2
        have l1 := hr.l1
        have l2 := hr.l2
        refine set_ok (d := .str (lineS acc r)) (joined_ok (js_ok (s1 := acc) (m1_ok rfl (fmt_str (by omega))) ?_ (js_ok (s1 := ("\nturn " : Str)) rfl ?_ (js_ok (s1 := spotS r.1) (m1_ok rfl (fmt_str (by omega))) ?_ (js_ok (s1 := (" move " : Str)) rfl ?_ (js_ok (s1 := wordsS r.2) (m1_ok rfl (fmt_str (by omega))) ?_ rfl)))))) rfl
        all_goals (simp only [Str.length_append]; omega))
  have hfst : ∀ (l : List (List Nat × List Nat)) (st : Str × (Option Dt × Option Dt × Option Dt × Option Dt)), (l.foldl (fun st r => (lineS st.1 r, some (Dt.tup (r.1.map nD)), some (Dt.tup (r.2.map nD)), some (Dt.str (spotS r.1)), some (Dt.str (wordsS r.2)))) st).1 = l.foldl lineS st.1 := fun l => by
    induction l with
    | nil => intro st; rfl
    | cons x l ih => intro st; rw [List.foldl_cons, ih]; rfl
  have hA := hfst rs ((Str.empty ++ ("places " : Str)) ++ nS p, none, none, none, none)
  generalize rs.foldl (fun (st : Str × (Option Dt × Option Dt × Option Dt × Option Dt)) r => (lineS st.1 r, some (Dt.tup (r.1.map nD)), some (Dt.tup (r.2.map nD)), some (Dt.str (spotS r.1)), some (Dt.str (wordsS r.2)))) ((Str.empty ++ ("places " : Str)) ++ nS p, none, none, none, none) = st at hA loop
  obtain ⟨acc, s3, s4, s5, s6⟩ := st
  dsimp only at hA loop
  subst hA
  refine runF_rt (ρ := [vl (nD p), vl (.tup (rs.map rowD)), vl (.str (txtS p rs)), lv s3, lv s4, lv s5, lv s6, none]) ?_ rfl
  unfold b_text_of_rota
  refine seq_nx (ρ' := [vl (nD p), vl (.tup (rs.map rowD)), vl (.str ((Str.empty ++ ("places " : Str)) ++ nS p)), none, none, none, none, none]) (set_ok (joined_ok (js_ok (s1 := ("places " : Str)) rfl ?_ (js_ok (s1 := nS p) (m1_ok rfl (fmt_nat hp)) ?_ rfl))) rfl) ?_
  · rw [Str.length_append] at e0; omega
  · omega
  · refine seq_nx (for_ok (ds := rs.map rowD) rfl loop) ?_
    rfl
end Dl
namespace Dl
open PySem PySem.Spec PyProof.Rows L2
/-! ### a rota is made -/
def srt (rs : List (List Nat × List Nat)) : List (List Nat × List Nat) := rs.map fun r => (sortN r.1, r.2)
def rotaD (p : Nat) (rs : List (List Nat × List Nat)) : Dt := .ins 0 [nD p, .tup (rs.map rowD), .str (txtS p rs)]
theorem GoodRow.small {p : Nat} {r : List Nat × List Nat} (h : GoodRow p r) (hp : p < 10) : SmallRow r := by
  refine ⟨fun x hx => ?_, fun x hx => ?_, ?_, ?_⟩
  · have := h.lt x hx; omega
  · have := List.mem_range.mp (h.pm.mem_iff.mp hx); omega
  · have := h.le; omega
  · have := h.len; omega
theorem GoodRow.srt {p : Nat} {r : List Nat × List Nat} (h : GoodRow p r) : GoodRow p (sortN r.1, r.2) :=
  ⟨(sortN_perm r.1).nodup_iff.mpr h.nd, fun x hx => h.lt x ((sortN_perm r.1).mem_iff.mp hx), h.pm⟩
theorem fput_new {i : Nat} {ix : Nat → Option Nat} {m : Mi Dt} {ρ ρ1 ρ2 : En} {d : Dt} {io0 : Bool} {c : Nat} {ds : List Dt} (h : m ρ = .ok d ρ1) (h1 : ρ1[i]? = some (some (.own io0 (.ins c ds)))) (hx : ix c = some ds.length) (hr : ρ1.set i (some (.own io0 (.ins c (ds ++ [d])))) = ρ2) : sFput i ix m ρ = .nx ρ2 := by
  subst hr
  unfold sFput sBind
  rw [h]; dsimp only
  unfold putFl
  rw [h1]; dsimp only
  rw [hx]; dsimp only
  rw [if_neg (by omega), if_pos rfl]
theorem ints_ok {m : Mi Dt} {ρ : En} {i j : Nat} {l : List Nat} {b : Bool} (h : ρ[i]? = some (vl (sqD b (l.map nD)))) (hj : ρ[j]? = some none) (hl : l.length ≤ 1000) : mLc (mSeqI (mVar i)) (gV j) (mPure true) (m1 fInt (mPeek j)) [j] ρ = .ok (.lst (l.map nD)) ρ := by
  have hlt : j < ρ.length := (List.getElem?_eq_some_iff.mp hj).1
  have ew : wipeE ρ [j] = ρ := by
    show ρ.set j none = ρ
    apply List.ext_getElem?
    intro k
    by_cases hk : j = k
    · subst hk; rw [List.getElem?_set_self hlt, hj]
    · rw [List.getElem?_set_ne hk]
  refine lc_map l nD _ ?_ ?_ (fun x hx => ?_) (by omega)
  · refine bind_ok (a := sqD b (l.map nD)) (ρ1 := ρ) ?_ (by cases b <;> rfl)
    unfold mVar; rw [h]
  · unfold ownAny; rw [hj]; rfl
  · rw [ew]
    refine ⟨ρ.set j (vl (nD x)), ?_, ρ.set j (vl (nD x)), m1_ok (x := nD x) ?_ rfl, ?_⟩
    · show setSl j _ ρ = _
      unfold setSl; rw [hj]
    · unfold mPeek; rw [List.getElem?_set_self hlt]
    · show (ρ.set j _).set j none = ρ
      rw [List.set_set]; exact ew
theorem rota_init (b c : Bool) (p : Nat) (rs : List (List Nat × List Nat)) (h0 : 0 < p) (hp : p < 10) (h1 : 0 < rs.length) (h2 : rs.length < 100) (hg : ∀ r ∈ rs, GoodRow p r) :
    m_Rota_init [.ins 0 [], nD p, .lst (rs.map (rowG b c))] = .ret .non (rotaD p (srt rs)) := by
  have ht := text_ok p hp (srt rs) (fun r hr => by
    obtain ⟨q, hq, rfl⟩ := List.mem_map.mp hr
    exact (hg q hq).srt.small hp) (by unfold srt; rw [List.length_map]; exact h2)
  generalize hR : Dt.lst (rs.map (rowG b c)) = R
  refine runF_nx (ρ := [io (rotaD p (srt rs)), vl (nD p), vl R, none, none, none, none]) ?_ rfl
  unfold b_Rota_init
  refine seq_nx (ρ' := [io (.ins 0 []), vl (nD p), vl R, none, none, none, none]) (if_f (ρ1 := [io (.ins 0 []), vl (nD p), vl R, none, none, none, none]) (not_ok (b := true) (tb_ok (call_ok (ds := [nD p, .int 1]) (r := .non) rfl rfl (by rw [is_from_int, decide_eq_true (by omega)])))) rfl) ?_
  refine seq_nx (ρ' := [io (.ins 0 []), vl (nD p), vl R, none, none, none, none]) (if_f (ρ1 := [io (.ins 0 []), vl (nD p), vl R, none, none, none, none]) (or_f (ρ1 := [io (.ins 0 []), vl (nD p), vl R, none, none, none, none]) (not_ok (b := true) (tb_ok (call_ok (ds := [R]) (r := .non) rfl rfl (by rw [← hR]; rfl)))) (or_f (ρ1 := [io (.ins 0 []), vl (nD p), vl R, none, none, none, none]) (tb_ok (m2_ok (x := nD rs.length) (y := .int 0) (ρ1 := [io (.ins 0 []), vl (nD p), vl R, none, none, none, none]) (m1_ok (x := R) rfl ?_) rfl ?_)) (not_ok (b := true) (tb_ok ?_)))) rfl) ?_
  · rw [← hR]
    show some (Dt.int ((rs.map (rowG b c)).length : Int)) = _
    rw [List.length_map]
  · rw [feq_int, decide_eq_false (by omega)]
  · have e : mLc (mSeqI (mVar 2)) (gV 3) (mPure true) (mCall 2 m_is_row (mCons (mVar 3) (mCons (mVar 1) (mPure [])))) [3] [io (.ins 0 []), vl (nD p), vl R, none, none, none, none] = .ok (.lst (rs.map fun r => .bl true)) [io (.ins 0 []), vl (nD p), vl R, none, none, none, none] :=
      lc_map rs (rowG b c) _ (by rw [← hR]; rfl) rfl (fun r hr => ⟨_, rfl, _, call_ok (ds := [rowG b c r, nD p]) (r := .non) rfl rfl (is_row_ok b c r p (hg r hr) (by omega)), rfl⟩) (by omega)
    have e2 := all_ok (f := fun _ => true) e
    rw [List.all_eq_true.mpr fun x hx => rfl] at e2
    exact e2
  · refine seq_nx (ρ' := [io (.ins 0 [nD p]), vl (nD p), vl R, none, none, none, none]) (fput_new (d := nD p) (c := 0) (ds := []) rfl rfl rfl rfl) ?_
    refine seq_nx (ρ' := [io (.ins 0 [nD p, .tup ((srt rs).map rowD)]), vl (nD p), vl R, none, none, none, none]) (fput_new (d := .tup ((srt rs).map rowD)) (c := 0) (ds := [nD p]) (ρ1 := [io (.ins 0 [nD p]), vl (nD p), vl R, none, none, none, none]) (m1_ok (x := .lst ((srt rs).map rowD)) ?_ rfl) rfl rfl rfl) ?_
    · have e := lc_map (g := gT (gsC (gV 4) (gsC (gV 5) gsN)) 2) (e := (mTup (mCons (m1 fTuple (m1N fSorted (mLc (mSeqI (mVar 4)) (gV 6) (mPure true) (m1 fInt (mPeek 6)) [6]))) (mCons (m1 fTuple (mPeek 5)) (mPure []))))) (vs := [4, 5]) (mi := mSeqI (mVar 2)) (ρ := [io (.ins 0 [nD p]), vl (nD p), vl R, none, none, none, none]) (ρ0 := [io (.ins 0 [nD p]), vl (nD p), vl R, none, none, none, none]) rs (rowG b c) (fun r => rowD (sortN r.1, r.2)) (by rw [← hR]; rfl) rfl (fun r hr => by
        refine ⟨[io (.ins 0 [nD p]), vl (nD p), vl R, none, vl (sqD b (r.1.map nD)), vl (sqD c (r.2.map nD)), none], rfl, _, tup_ok (cons_ok (ρ1 := [io (.ins 0 [nD p]), vl (nD p), vl R, none, vl (sqD b (r.1.map nD)), vl (sqD c (r.2.map nD)), none]) (m1_ok (x := .lst ((sortN r.1).map nD)) (m1N_ok (x := .lst (r.1.map nD)) (ints_ok (m := mPure .non) (b := b) rfl rfl (by have := (hg r hr).le; omega)) (sorted_nat r.1)) rfl) (cons_ok (m1_ok (x := sqD c (r.2.map nD)) (z := .tup (r.2.map nD)) rfl (by cases c <;> rfl)) rfl)) (sl_le (by simp)), rfl⟩) (by omega)
      have e3 : (srt rs).map rowD = rs.map fun r => rowD (sortN r.1, r.2) := by unfold srt; rw [List.map_map]; rfl
      rw [e3]
      exact e
    · exact fput_new (d := .str (txtS p (srt rs))) (c := 0) (ds := [nD p, .tup ((srt rs).map rowD)]) (ρ1 := [io (.ins 0 [nD p, .tup ((srt rs).map rowD)]), vl (nD p), vl R, none, none, none, none]) (call_ok (ds := [nD p, .tup ((srt rs).map rowD)]) (r := .non) rfl rfl ht) rfl rfl rfl
theorem made_ok (p : Nat) (rs : List (List Nat × List Nat)) (h0 : 0 < p) (hp : p < 10) (h1 : 0 < rs.length) (h2 : rs.length < 100) (hg : ∀ r ∈ rs, GoodRow p r) : m_law_made [toldD p rs] = .ret (rotaD p (srt rs)) .non := by
  refine runF_rt (ρ := [vl (toldD p rs), none, none]) (ret_ok (make_ok (ds := [nD p, .lst (rs.map (rowG true true))]) (cons_ok rfl (cons_ok ?_ rfl)) rfl (rota_init true true p rs h0 hp h1 h2 hg))) rfl
  exact lc_map rs trowD _ rfl rfl (fun r hr => ⟨[vl (toldD p rs), vl (.lst (r.1.map nD)), vl (.lst (r.2.map nD))], rfl, _, tup_ok (cons_ok (m1_ok rfl rfl) (cons_ok (m1_ok rfl rfl) rfl)) (sl_le (by simp)), rfl⟩) (by omega)
end Dl
namespace Dl
open PySem PySem.Spec PyProof.Rows L2
/-! ### the ways of wheels, as mathematics -/
abbrev Rw := List Nat × List Nat
def mvR (r : Rw) (s : Nat) : Nat := r.2.getD s 0
def rowAt (rs : List Rw) (d : Nat) : Rw := rs.getD (d % rs.length) ([], [])
def pos (rs : List Rw) (w : Nat) : Nat → Nat
  | 0 => w
  | d + 1 => mvR (rowAt rs d) (pos rs w d)
structure Good (p : Nat) (rs : List Rw) : Prop where
  n0 : 0 < rs.length
  row : ∀ r ∈ rs, GoodRow p r
variable {p : Nat} {rs : List Rw}
theorem Good.at (h : Good p rs) (d : Nat) : GoodRow p (rowAt rs d) := by
  unfold rowAt
  have hd : d % rs.length < rs.length := Nat.mod_lt _ h.n0
  rw [List.getD_eq_getElem?_getD, List.getElem?_eq_getElem hd]
  exact h.row _ (List.getElem_mem hd)
theorem mvR_lt {r : Rw} (h : GoodRow p r) {s : Nat} (hs : s < p) : mvR r s < p ∧ r.2[s]? = some (mvR r s) := by
  have hl : s < r.2.length := by rw [h.len]; exact hs
  unfold mvR
  rw [List.getD_eq_getElem?_getD, List.getElem?_eq_getElem hl]
  exact ⟨List.mem_range.mp (h.pm.mem_iff.mp (List.getElem_mem hl)), rfl⟩
theorem mvR_inj {r : Rw} (h : GoodRow p r) {a b : Nat} (ha : a < p) (hb : b < p) (e : mvR r a = mvR r b) : a = b := by
  have h1 := (mvR_lt h ha).2
  have h2 := (mvR_lt h hb).2
  have nd : r.2.Nodup := h.pm.nodup_iff.mpr List.nodup_range
  have la : a < r.2.length := by rw [h.len]; exact ha
  have lb : b < r.2.length := by rw [h.len]; exact hb
  rw [List.getElem?_eq_getElem la] at h1
  rw [List.getElem?_eq_getElem lb] at h2
  have e3 : r.2[a] = r.2[b] := by rw [Option.some.inj h1, Option.some.inj h2]; exact e
  exact (List.getElem_inj nd).mp e3
theorem pos_lt (h : Good p rs) {w : Nat} (hw : w < p) : ∀ d, pos rs w d < p
  | 0 => hw
  | d + 1 => (mvR_lt (h.at d) (pos_lt h hw d)).1
theorem pos_inj (h : Good p rs) {a b : Nat} (ha : a < p) (hb : b < p) : ∀ d, pos rs a d = pos rs b d → a = b
  | 0, e => e
  | d + 1, e => pos_inj h ha hb d (mvR_inj (h.at d) (pos_lt h ha d) (pos_lt h hb d) e)
theorem pos_shift (w k : Nat) : ∀ d, pos rs (pos rs w (rs.length * k)) d = pos rs w (rs.length * k + d)
  | 0 => rfl
  | d + 1 => by
    show mvR (rowAt rs d) (pos rs (pos rs w (rs.length * k)) d) = mvR (rowAt rs (rs.length * k + d)) (pos rs w (rs.length * k + d))
    rw [pos_shift w k d]
    unfold rowAt
    rw [Nat.mul_add_mod]
theorem pigeon (f : Nat → Nat) (p : Nat) (h : ∀ i, i ≤ p → f i < p) : ∃ i j, i < j ∧ j ≤ p ∧ f i = f j := by
  apply Classical.byContradiction
  intro hn
  have hd : ∀ i j, i < j → j ≤ p → f i ≠ f j := fun i j h1 h2 e => hn ⟨i, j, h1, h2, e⟩
  have nd : ((List.range (p + 1)).map f).Nodup := by
    rw [List.nodup_iff_pairwise_ne, List.pairwise_map]
    refine List.Pairwise.imp_of_mem (fun {a b} ha hb hab => ?_) (List.pairwise_lt_range (n := p + 1))
    have := List.mem_range.mp hb
    exact hd a b hab (by omega)
  have := nodup_le p _ nd fun x hx => by
    obtain ⟨i, hi, rfl⟩ := List.mem_map.mp hx
    have := List.mem_range.mp hi
    exact h i (by omega)
  rw [List.length_map, List.length_range] at this
  omega
theorem back (h : Good p rs) {w : Nat} (hw : w < p) : ∃ j, j < p ∧ pos rs w (rs.length * (j + 1)) = w := by
  obtain ⟨i, j, h1, h2, e⟩ := pigeon (fun k => pos rs w (rs.length * k)) p fun k _ => pos_lt h hw _
  have e2 : pos rs (pos rs w (rs.length * (j - i))) (rs.length * i) = pos rs w (rs.length * i) := by
    rw [pos_shift, ← Nat.mul_add, show j - i + i = j by omega]; exact e.symm
  have e3 := pos_inj h (pos_lt h hw _) hw _ e2
  exact ⟨j - i - 1, by omega, by rw [show j - i - 1 + 1 = j - i by omega]; exact e3⟩
/-! ### due days -/
def isDue (rs : List Rw) (w d : Nat) : Bool := decide (pos rs w d ∈ (rowAt rs d).1)
end Dl
namespace Dl
open PySem PySem.Spec PyProof.Rows L2
variable {p : Nat} {rs : List Rw}
theorem find_one {p : Nat} {f : Nat → Nat} (hf : ∀ a b, a < p → b < p → f a = f b → a = b) {w : Nat} (hw : w < p) : (List.range p).filter (fun v => decide (f v = f w)) = [w] := by
  have h1 : ∀ n, n ≤ p → (List.range n).filter (fun v => decide (f v = f w)) = if w < n then [w] else [] := fun n => by
    induction n with
    | zero => intro _; rfl
    | succ n ih =>
      intro hn
      rw [List.range_succ, List.filter_append, ih (by omega)]
      by_cases e : n = w
      · subst e
        rw [if_neg (by omega), if_pos (by omega)]
        simp
      · have ne : f n ≠ f w := fun z => e (hf n w (by omega) hw z)
        rw [List.filter_cons_of_neg (by simpa using ne)]
        by_cases hlt : w < n
        · rw [if_pos hlt, if_pos (by omega)]; rfl
        · rw [if_neg hlt, if_neg (by omega)]; rfl
  rw [h1 p (Nat.le_refl _), if_pos hw]
end Dl
namespace Dl
open PySem PySem.Spec PyProof.Rows L2
/-! ### data that are compared -/
inductive Flt : Nat → Dt → Prop
  | non {k : Nat} : Flt k .non
  | bl {k : Nat} (b : Bool) : Flt k (.bl b)
  | int {k : Nat} (i : Int) : Flt k (.int i)
  | str {k : Nat} {x : Str} (h : PyData.canLay0 (.str x) = true) : Flt k (.str x)
  | lst {k : Nat} {xs : List Dt} (h : ∀ x ∈ xs, Flt k x) : Flt (k + 1) (.lst xs)
  | tup {k : Nat} {xs : List Dt} (h : ∀ x ∈ xs, Flt k x) : Flt (k + 1) (.tup xs)
structure PyOk (k : Nat) (d : Dt) (p : PyData) : Prop where
  e : toPy d = some p
  lay : p.canLay0 = true
  dep : p.depth ≤ k
  refl : PyData.eqv p p = true
theorem pys_of {k : Nat} : ∀ {xs : List Dt}, (∀ x ∈ xs, ∃ p, PyOk k x p) → ∃ ps, toPys xs = some ps ∧ PyData.canLayAll0 ps = true ∧ PyData.depthAll ps ≤ k ∧ PyData.eqvAll ps ps = true
  | [], _ => ⟨[], rfl, by simp [PyData.canLayAll0], by simp [PyData.depthAll], by simp [PyData.eqvAll]⟩
  | x :: xs, h => by
    obtain ⟨p, h1⟩ := h x (by simp)
    obtain ⟨ps, h2, h3, h4, h5⟩ := pys_of (xs := xs) fun y hy => h y (by simp [hy])
    refine ⟨p :: ps, ?_, ?_, ?_, ?_⟩
    · unfold toPys; rw [h1.e, h2]
    · simp [PyData.canLayAll0, h1.lay, h3]
    · simp only [PyData.depthAll]; have := h1.dep; omega
    · simp [PyData.eqvAll, h1.refl, h5]
theorem Flt.py {k : Nat} {d : Dt} (h : Flt k d) : ∃ p, PyOk k d p := by
  induction h with
  | non => exact ⟨.none, rfl, by simp [PyData.canLay0], by simp [PyData.depth], by simp [PyData.eqv]⟩
  | bl b => exact ⟨.bool b, rfl, by simp [PyData.canLay0], by simp [PyData.depth], by simp [PyData.eqv]⟩
  | int i => exact ⟨.int i, rfl, by simp [PyData.canLay0], by simp [PyData.depth], by simp [PyData.eqv]⟩
  | @str k x h => exact ⟨.str x, rfl, h, by simp [PyData.depth], by simp [PyData.eqv]⟩
  | @lst k xs h ih =>
    obtain ⟨ps, h1, h2, h3, h4⟩ := pys_of ih
    exact ⟨.list ps, by unfold toPy; rw [h1]; rfl, by simpa [PyData.canLay0] using h2, by simp only [PyData.depth]; omega, by simpa [PyData.eqv] using h4⟩
  | @tup k xs h ih =>
    obtain ⟨ps, h1, h2, h3, h4⟩ := pys_of ih
    exact ⟨.tuple ps, by unfold toPy; rw [h1]; rfl, by simpa [PyData.canLay0] using h2, by simp only [PyData.depth]; omega, by simpa [PyData.eqv] using h4⟩
theorem PyOk.shaped {k : Nat} {d : Dt} {p : PyData} (h : PyOk k d p) (hk : k ≤ 60) : SeqAt.shaped p = true := by
  unfold SeqAt.shaped
  rw [h.lay, decide_eq_true (by have := h.dep; omega)]; rfl
theorem dEq_self {k : Nat} {d : Dt} (h : Flt k d) (hk : k ≤ 60) : dEq d d = some true := by
  obtain ⟨p, hp⟩ := h.py
  unfold dEq
  rw [hp.e]; dsimp only
  rw [hp.shaped hk, Bool.and_self, if_pos rfl, hp.refl]
theorem feq_self {k : Nat} {d : Dt} (h : Flt k d) (hk : k ≤ 60) : fEq d d = some (.bl true) := by unfold fEq; rw [dEq_self h hk]; rfl
theorem fne_self {k : Nat} {d : Dt} (h : Flt k d) (hk : k ≤ 60) : fNe d d = some (.bl false) := by unfold fNe; rw [dEq_self h hk]; rfl
theorem flt_nats {k : Nat} (l : List Nat) : ∀ x ∈ l.map nD, Flt k x := fun x hx => by
  obtain ⟨n, _, rfl⟩ := List.mem_map.mp hx
  exact .int _
/-! ### the law's own going -/
variable {p : Nat} {rs : List Rw}
theorem rowAt_srt (h : 0 < rs.length) (d : Nat) : rowAt (srt rs) d = (sortN (rowAt rs d).1, (rowAt rs d).2) := by
  unfold rowAt srt
  rw [List.length_map, List.getD_eq_getElem?_getD, List.getD_eq_getElem?_getD, List.getElem?_map, List.getElem?_eq_getElem (Nat.mod_lt _ h)]
  rfl
theorem pos_srt (h : 0 < rs.length) (w : Nat) : ∀ d, pos (srt rs) w d = pos rs w d
  | 0 => rfl
  | d + 1 => by
    show mvR (rowAt (srt rs) d) (pos (srt rs) w d) = mvR (rowAt rs d) (pos rs w d)
    rw [pos_srt h w d, rowAt_srt h]; rfl
theorem due_srt (h : 0 < rs.length) (w d : Nat) : isDue (srt rs) w d = isDue rs w d := by
  unfold isDue
  rw [pos_srt h, rowAt_srt h]
  exact decide_eq_decide.mpr (sortN_perm _).mem_iff
theorem Good.srt (h : Good p rs) : Good p (srt rs) := ⟨by unfold Dl.srt; rw [List.length_map]; exact h.n0, fun r hr => by
  obtain ⟨q, hq, rfl⟩ := List.mem_map.mp hr
  exact (h.row q hq).srt⟩
theorem srt_len (rs : List Rw) : (srt rs).length = rs.length := by unfold srt; rw [List.length_map]
def prD (q : Nat × Nat) : Dt := .tup [nD q.1, nD q.2]
def dueAt (p : Nat) (rs : List Rw) (d : Nat) : List (Nat × Nat) := ((List.range p).filter fun w => isDue rs w d).map fun w => (d, w)
def dueP (p : Nat) (rs : List Rw) (D : Nat) : List (Nat × Nat) := (List.range D).flatMap (dueAt p rs)
theorem dueP_succ (D : Nat) : dueP p rs (D + 1) = dueP p rs D ++ dueAt p rs D := by
  unfold dueP; rw [List.range_succ, List.flatMap_append]; simp
theorem dueAt_len (d : Nat) : (dueAt p rs d).length ≤ p := by
  unfold dueAt
  rw [List.length_map]
  have := List.length_filter_le (fun w => isDue rs w d) (List.range p)
  rwa [List.length_range] at this
theorem dueP_len : ∀ D, (dueP p rs D).length ≤ D * p
  | 0 => by simp [dueP]
  | D + 1 => by
    have h1 := dueP_len D
    have h2 := dueAt_len (p := p) (rs := rs) D
    rw [dueP_succ, List.length_append, Nat.succ_mul]
    omega
end Dl
namespace Dl
open PySem PySem.Spec PyProof.Rows L2
/-! ### the cells of a script -/
def cellN (ns : List Int) : Nat := max 1 (min 3 ns.length)
theorem cells_ok {ns : List Int} {ρ : En} (h : ρ[0]? = some (vl (.scr ns))) : mRng1 (mCons (m2 fMax2 (mPure (.int 1)) (m2 fMin2 (mPure (.int 3)) (m1 fLen (mPeek 0)))) (mPure [])) ρ = .ok ((List.range (cellN ns)).map nD) ρ := by
  refine rngN_ok (cons_ok (m2_ok rfl (m2_ok rfl (m1_ok (x := .scr ns) (z := nD ns.length) ?_ rfl) rfl) ?_) rfl) (by unfold cellN; omega)
  · unfold mPeek; rw [h]
  · show some (Dt.int _) = some (Dt.int _)
    congr 2
    unfold cellN
    show (if (if (ns.length : Int) < 3 then (ns.length : Int) else 3) > 1 then (if (ns.length : Int) < 3 then (ns.length : Int) else 3) else 1) = _
    split <;> split <;> omega
/-- a slot with a box, or with none yet -/
def bo : Option (Int × Int × Int) → Option Sl
  | none => none
  | some q => ow (bxD q)
theorem fSub_nat {a b : Nat} (h : b ≤ a) : fSub (nD a) (nD b) = some (nD (a - b)) := by
  show some (Dt.int _) = some (Dt.int _)
  congr 2; omega
theorem ge_nat (a b : Nat) : fGe (nD a) (nD b) = some (.bl (decide (b ≤ a))) := by
  show some (Dt.bl _) = some (Dt.bl _)
  congr 2
  exact decide_eq_decide.mpr (by omega)
end Dl
namespace Dl
open PySem PySem.Spec PyProof.Rows L2
variable {p : Nat} {rs : List Rw}
/-! ### due days, as mathematics -/
/-! ### the mirrors -/
theorem lt64 {n : Nat} (h : n < 1000000000000000000) : (n : Int) < 2 ^ 64 := Int.lt_trans (Int.ofNat_lt.mpr h) (by decide)
theorem ge64 (n : Nat) : -(2 ^ 64) < (n : Int) := Int.lt_of_lt_of_le (by decide) (Int.natCast_nonneg n)
theorem fMul_of {i j k : Int} (hc : CMul i j) (e : i * j = k) : fMulI (.int i) (.int j) = some (.int k) := by
  subst e
  have e1 : fMulI (.int i) (.int j) = if CMul i j then some (.int (i * j)) else none := rfl
  rw [e1, if_pos hc]
theorem fMul_nat (a b : Nat) (hb : b < 1000000000000000000 ∨ a < 1000000000000000000) : fMulI (nD a) (nD b) = some (nD (a * b)) := by
  have hc : CMul (a : Int) (b : Int) := by
    rcases hb with hb | hb
    · exact .inr ⟨ge64 b, lt64 hb⟩
    · exact .inl ⟨ge64 a, lt64 hb⟩
  exact fMul_of hc (Int.natCast_mul a b).symm
theorem fAdd_nat (a b : Nat) : fAdd (nD a) (nD b) = some (nD (a + b)) := rfl
theorem fLt_nat (a b : Nat) : fLt (nD a) (nD b) = some (.bl (decide (a < b))) := by
  show some (Dt.bl _) = some (Dt.bl _)
  congr 2
  exact decide_eq_decide.mpr (by omega)
theorem len_lst {α : Type} (f : α → Dt) (l : List α) : fLen (.lst (l.map f)) = some (nD l.length) := by
  show some (Dt.int ((l.map f).length : Int)) = _
  rw [List.length_map]
theorem len_tup {α : Type} (f : α → Dt) (l : List α) : fLen (.tup (l.map f)) = some (nD l.length) := by
  show some (Dt.int ((l.map f).length : Int)) = _
  rw [List.length_map]
end Dl
namespace Dl
open PySem PySem.Spec PyProof.Rows L2
/-! ### days on a ring, as mathematics -/
/-- the day with a number, round and round -/
def dd (D : List Nat) (R a : Nat) : Nat := a / D.length * R + D.getD (a % D.length) 0
variable {D : List Nat} {R : Nat}
/-! ### the mirrors -/
end Dl
namespace Dl
open PySem PySem.Spec PyProof.Rows L2
/-! ### texts that are compared -/
theorem strOk_of (s : String) : PyData.canLay0 (.str (Str.ofString s)) = true := by
  have key : ∀ c : Char, c.toNat < 1114112 := fun c => by
    have h1 := c.valid
    rcases h1 with h1 | h1
    · have : c.toNat < 55296 := h1
      omega
    · exact h1.2
  rw [Str.ofString_eq_toList]
  simp only [PyData.canLay0, PyData.strOk]
  rw [List.all_toArray, List.all_map, List.all_eq_true]
  intro c _
  exact decide_eq_true (key c)
theorem flt_str {k : Nat} (s : String) : Flt k (.str (Str.ofString s)) := .str (strOk_of s)
/-! ### drawn days of a ring -/
/-! ### the law's own gap -/
variable {D : List Nat} {R : Nat}
end Dl
namespace Dl
open PySem PySem.Spec PyProof.Rows L2
variable {p : Nat} {rs : List Rw}
theorem pick_w (D w : Nat) (hw : w < p) : ((dueP p rs D).filter fun q => decide (q.2 = w)).map (·.1) = (List.range D).filter (isDue rs w) := by
  induction D with
  | zero => simp [dueP]
  | succ D ih =>
    rw [dueP_succ, List.filter_append, List.map_append, ih, List.range_succ, List.filter_append]
    congr 1
    unfold dueAt
    rw [List.filter_map, List.map_map, List.filter_filter]
    have e3 : (List.range p).filter (fun a => ((fun q : Nat × Nat => decide (q.2 = w)) ∘ fun w => (D, w)) a && isDue rs a D) = ((List.range p).filter fun a => decide (a = w)).filter fun _ => isDue rs w D := by
      rw [List.filter_filter]
      apply List.filter_congr
      intro a _
      by_cases ha : a = w
      · subst ha; simp
      · simp [ha]
    have e4 := find_one (f := fun v => v) (p := p) (fun a b _ _ z => z) hw
    rw [e3, e4]
    cases hd : isDue rs w D <;> simp [hd]
end Dl
namespace Dl
open PySem PySem.Spec PyProof.Rows L2
variable {p : Nat} {rs : List Rw}
/-! ### pairs and triples among others -/
theorem pr_flt {k : Nat} (q : Nat × Nat) : Flt (k + 1) (prD q) := .tup fun x hx => by
  simp only [List.mem_cons, List.not_mem_nil, or_false] at hx
  rcases hx with rfl | rfl <;> exact .int _
/-- a look -/
abbrev Lk := Nat × Nat × Nat
/-! ### dicts with pairs as keys -/
theorem mem_dueP {D : Nat} {q : Nat × Nat} : q ∈ dueP p rs D ↔ q.1 < D ∧ q.2 < p ∧ isDue rs q.2 q.1 = true := by
  unfold dueP dueAt
  rw [List.mem_flatMap]
  constructor
  · rintro ⟨d, hd, h⟩
    obtain ⟨w, hw, rfl⟩ := List.mem_map.mp h
    rw [List.mem_filter, List.mem_range] at hw
    exact ⟨List.mem_range.mp hd, hw.1, hw.2⟩
  · rintro ⟨h1, h2, h3⟩
    exact ⟨q.1, List.mem_range.mpr h1, List.mem_map.mpr ⟨q.2, List.mem_filter.mpr ⟨List.mem_range.mpr h2, h3⟩, rfl⟩⟩
theorem dueP_nodup (D : Nat) : (dueP p rs D).Nodup := by
  unfold dueP
  rw [List.nodup_iff_pairwise_ne, List.pairwise_flatMap]
  refine ⟨fun d _ => ?_, ?_⟩
  · unfold dueAt
    rw [List.pairwise_map]
    exact (List.nodup_iff_pairwise_ne.mp (List.nodup_range.filter _)).imp fun h e => h (by injection e)
  · refine (List.nodup_iff_pairwise_ne.mp List.nodup_range).imp fun h x hx y hy e => h ?_
    unfold dueAt at hx hy
    obtain ⟨a, _, rfl⟩ := List.mem_map.mp hx
    obtain ⟨b, _, e2⟩ := List.mem_map.mp hy
    rw [← e2] at e
    injection e
/-! ### all due turnings -/
end Dl
namespace Dl
open PySem PySem.Spec PyProof.Rows L2
variable {p : Nat} {rs : List Rw}
/-! ### nested comprehensions -/
/-- all looks that can be -/
def allLk (p D : Nat) : List Lk := (List.range (D + 1)).flatMap fun d => (List.range p).flatMap fun w => (List.range 2).flatMap fun s => [(d, w, s)]
theorem mem_allLk {p D : Nat} {q : Lk} : q ∈ allLk p D ↔ q.1 ≤ D ∧ q.2.1 < p ∧ q.2.2 < 2 := by
  obtain ⟨d, w, s⟩ := q
  unfold allLk
  simp only [List.mem_flatMap, List.mem_range, List.mem_cons, List.not_mem_nil, or_false, Prod.mk.injEq]
  constructor
  · rintro ⟨a, ha, b, hb, c, hc, rfl, rfl, rfl⟩
    exact ⟨by omega, hb, hc⟩
  · rintro ⟨h1, h2, h3⟩
    exact ⟨d, by omega, w, h2, s, h3, rfl, rfl, rfl⟩
/-! ### a season is made -/
structure GoodLk (p D : Nat) (q : Lk) : Prop where
  d : q.1 ≤ D
  w : q.2.1 < p
  s : q.2.2 < 2
/-- the looks of a season, ascending -/
def lksOf (p D : Nat) (L : List Lk) : List Lk := (allLk p D).filter fun q => decide (q ∈ L)
end Dl
namespace Dl
open PySem PySem.Spec PyProof.Rows L2
variable {p : Nat} {rs : List Rw} {D b : Nat} {L : List Lk}
/-! ### misses -/
structure Miss (p : Nat) (rs : List Rw) (D : Nat) (M : List (Nat × Nat)) : Prop where
  nd : M.Nodup
  mem : ∀ q ∈ M, q ∈ dueP p rs D
theorem Miss.len {M : List (Nat × Nat)} (h : Miss p rs D M) : M.length ≤ D * p := by
  have h1 : M.length ≤ (dueP p rs D).length := List.Nodup.length_le_of_subset h.nd fun q hq => h.mem q hq
  have h2 := dueP_len (p := p) (rs := rs) D
  omega
/-! ### what was turned -/
/-- the days ahead of one on which a wheel was turned -/
def madeL (rs : List Rw) (D : Nat) (M : List (Nat × Nat)) (w day : Nat) : List Nat := ((List.range D).filter (isDue rs w)).filter fun d => decide (d < day) && !decide ((d, w) ∈ M)
def sideN (rs : List Rw) (D : Nat) (M : List (Nat × Nat)) (day w : Nat) : Nat := (madeL rs D M w day).length % 2
/-! ### looks that break -/
theorem fne_nat (a b : Nat) : fNe (nD a) (nD b) = some (.bl (!decide (a = b))) := by
  rw [fne_int]
  congr 3
  exact decide_eq_decide.mpr (by omega)
theorem fLe_nat (a b : Nat) : fLe (nD a) (nD b) = some (.bl (decide (a ≤ b))) := by
  show some (Dt.bl _) = some (Dt.bl _)
  congr 2
  exact decide_eq_decide.mpr (by omega)
end Dl
namespace Dl
open PySem PySem.Spec PyProof.Rows L2
variable {p : Nat} {rs : List Rw} {D b : Nat} {L : List Lk}
/-! ### a season of the told rota -/
theorem dueP_srt (h : 0 < rs.length) (D : Nat) : dueP p (srt rs) D = dueP p rs D := by
  unfold dueP dueAt
  congr 1
  funext d
  congr 1
  apply List.filter_congr
  intro w _
  exact due_srt h w d
theorem Miss.srt {M : List (Nat × Nat)} (h0 : 0 < rs.length) (h : Miss p rs D M) : Miss p (srt rs) D M := ⟨h.nd, fun q hq => by rw [dueP_srt h0]; exact h.mem q hq⟩
theorem Miss.nil : Miss p rs D [] := ⟨List.nodup_nil, fun q hq => nomatch hq⟩
theorem flt_prs {k : Nat} (M : List (Nat × Nat)) : ∀ x ∈ M.map prD, Flt (k + 1) x := fun x hx => by
  obtain ⟨q, _, rfl⟩ := List.mem_map.mp hx
  exact pr_flt q
end Dl
namespace Dl
open PySem PySem.Spec PyProof.Rows L2
variable {p : Nat} {rs : List Rw} {D : Nat} {M : List (Nat × Nat)}
/-! ### what was turned ahead of a day, by the days themselves -/
/-! ### small steps -/
theorem gt_nat (a b : Nat) : fGt (nD a) (nD b) = some (.bl (decide (b < a))) := by
  show some (Dt.bl _) = some (Dt.bl _)
  congr 2
  exact decide_eq_decide.mpr (by omega)
end Dl
namespace Dl
open PySem PySem.Spec PyProof.Rows L2
variable {p : Nat} {rs : List Rw} {D b : Nat} {M : List (Nat × Nat)} {L K : List Lk}
theorem lks_good (K : List Lk) : ∀ q ∈ lksOf p D K, GoodLk p D q := fun q hq => by
  have := mem_allLk.mp (List.mem_filter.mp hq).1
  exact ⟨this.1, this.2.1, this.2.2⟩
theorem lks_mem {K : List Lk} {q : Lk} (h : q ∈ lksOf p D K) : q ∈ K := of_decide_eq_true (List.mem_filter.mp h).2
theorem mem_lks {K : List Lk} {q : Lk} (h : q ∈ K) (hg : GoodLk p D q) : q ∈ lksOf p D K := List.mem_filter.mpr ⟨mem_allLk.mpr ⟨hg.d, hg.w, hg.s⟩, decide_eq_true h⟩
/-! ### how many looks break -/
theorem filter_eq_one {α : Type} [DecidableEq α] {z : α} : ∀ {l : List α}, l.Nodup → z ∈ l → (l.filter fun x => decide (x = z)).length = 1
  | [], _, h => by cases h
  | x :: l, nd, h => by
    rw [List.nodup_cons] at nd
    by_cases e : x = z
    · subst e
      rw [List.filter_cons_of_pos (by simp), List.length_cons]
      have : l.filter (fun y => decide (y = x)) = [] := by
        rw [List.filter_eq_nil_iff]
        intro y hy
        simp
        intro e2; exact nd.1 (e2 ▸ hy)
      rw [this]; rfl
    · rw [List.filter_cons_of_neg (by simpa using e)]
      exact filter_eq_one nd.2 (by simpa [Ne.symm e] using h)
/-! ### the first miss is made up for -/
theorem meth_ok {c n : Nat} {f : List Dt → Fo} {m : Mi Dt} {ms : Mi (List Dt)} {ρ ρ1 ρ2 : En} {vs ds : List Dt} {d r : Dt} (hm : m ρ = .ok (.ins c vs) ρ1) (h : ms ρ1 = .ok ds ρ2) (hn : ds.length + 1 = n) (hf : f (.ins c vs :: ds) = .ret d r) : mMeth c n f m ms ρ = .ok d ρ2 := by
  unfold mMeth
  refine bind_ok hm ?_
  dsimp only
  rw [if_pos rfl]
  refine bind_ok h ?_
  rw [if_pos (by rw [List.length_cons]; exact hn), hf]
end Dl
namespace Dl
open PySem PySem.Spec PyProof.Rows L2
variable {p : Nat} {rs : List Rw} {D b : Nat} {M : List (Nat × Nat)} {K : List Lk}
/-! ### places by other numbers -/
/-- an order of the places -/
structure Ord (p : Nat) (o : List Nat) : Prop where
  pm : o.Perm (List.range p)
theorem Ord.len {o : List Nat} (h : Ord p o) : o.length = p := by rw [h.pm.length_eq, List.length_range]
theorem Ord.nd {o : List Nat} (h : Ord p o) : o.Nodup := h.pm.nodup_iff.mpr List.nodup_range
def oat (o : List Nat) (w : Nat) : Nat := o.getD w 0
theorem Ord.get {o : List Nat} (h : Ord p o) {w : Nat} (hw : w < p) : o[w]? = some (oat o w) := by
  unfold oat
  rw [List.getD_eq_getElem?_getD, List.getElem?_eq_getElem (by rw [h.len]; exact hw)]; rfl
theorem Ord.lt {o : List Nat} (h : Ord p o) {w : Nat} (hw : w < p) : oat o w < p := List.mem_range.mp (h.pm.mem_iff.mp (List.mem_of_getElem? (h.get hw)))
theorem Ord.inj {o : List Nat} (h : Ord p o) {a b : Nat} (ha : a < p) (hb : b < p) (e : oat o a = oat o b) : a = b := by
  have h1 := h.get ha
  have h2 := h.get hb
  rw [e] at h1
  have la : a < o.length := by rw [h.len]; exact ha
  have lb : b < o.length := by rw [h.len]; exact hb
  rw [List.getElem?_eq_getElem la] at h1
  rw [List.getElem?_eq_getElem lb] at h2
  exact (List.getElem_inj h.nd).mp ((Option.some.inj h1).trans (Option.some.inj h2).symm)
end Dl
namespace Dl
/-! ### lots: all sublists, ascending as tuples -/
section
variable {α : Type}
def lotT : List α → List (List α)
  | [] => []
  | x :: xs => ([] :: lotT xs).map (x :: ·) ++ lotT xs
def lots (xs : List α) : List (List α) := [] :: lotT xs
theorem cnt_cons (p : List α → Bool) (x : α) (xs : List α) : (lots (x :: xs)).countP p = (lots xs).countP (fun L => p (x :: L)) + (lots xs).countP p := by
  unfold lots
  rw [lotT, List.countP_cons, List.countP_append, List.countP_map, List.countP_cons]
  rw [List.countP_cons, List.countP_cons (l := lotT xs) (p := p)]
  simp only [Function.comp_def]
  omega
theorem cnt_nil (p : List α → Bool) : (lots ([] : List α)).countP p = if p [] = true then 1 else 0 := by
  unfold lots lotT; rw [List.countP_cons, List.countP_nil, Nat.zero_add]
theorem mem_lots {L : List α} : ∀ {xs : List α}, L ∈ lots xs ↔ L.Sublist xs
  | [] => by unfold lots lotT; simp
  | x :: xs => by
    have ih := @mem_lots L xs
    have ih2 := fun (M : List α) => @mem_lots M xs
    unfold lots at ih ih2 ⊢
    rw [lotT, List.mem_cons, List.mem_append, List.mem_map]
    constructor
    · rintro (h | ⟨M, h1, h2⟩ | h)
      · subst h; exact List.nil_sublist _
      · subst h2; exact ((ih2 M).mp h1).cons_cons x
      · exact (ih.mp (List.mem_cons_of_mem _ h)).cons x
    · intro h
      cases h with
      | cons _ h =>
        rcases List.mem_cons.mp (ih.mpr h) with e | e
        · exact .inl e
        · exact .inr (.inr e)
      | cons_cons _ h => exact .inr (.inl ⟨_, (ih2 _).mpr h, rfl⟩)
/-- a lot is parted by a test -/
theorem cnt_split (q : α → Bool) : ∀ (xs : List α) (P : List α → List α → Bool),
    (lots xs).countP (fun L => P (L.filter q) (L.filter fun x => !q x)) = ((lots (xs.filter q)).map fun A => (lots (xs.filter fun x => !q x)).countP (P A)).sum
  | [], P => by
    rw [cnt_nil]; simp only [List.filter_nil]
    show _ = ((lots ([] : List α)).map _).sum
    unfold lots lotT
    by_cases h : P [] [] = true
    · simp [List.countP_cons, h]
    · simp [List.countP_cons, h]
  | x :: xs, P => by
    rw [cnt_cons]
    by_cases hx : q x = true
    · have e1 := cnt_split q xs (fun A B => P (x :: A) B)
      have e2 := cnt_split q xs P
      rw [List.filter_cons_of_pos hx, List.filter_cons_of_neg (by simp [hx])]
      simp only [List.filter_cons_of_pos hx, List.filter_cons_of_neg (p := fun x => !q x) (a := x) (by simp [hx])]
      rw [e1, e2]
      have key : ∀ (f : List α → Nat), ((lots (x :: xs.filter q)).map f).sum = ((lots (xs.filter q)).map fun A => f (x :: A)).sum + ((lots (xs.filter q)).map f).sum := by
        intro f
        unfold lots
        rw [lotT]
        simp only [List.map_cons, List.map_append, List.sum_cons, List.sum_append, List.map_map, Function.comp_def]
        omega
      rw [key]
    · have hx' : q x = false := by simpa using hx
      have e1 := cnt_split q xs (fun A B => P A (x :: B))
      have e2 := cnt_split q xs P
      rw [List.filter_cons_of_neg hx, List.filter_cons_of_pos (p := fun x => !q x) (by simp [hx'])]
      simp only [List.filter_cons_of_neg hx, List.filter_cons_of_pos (p := fun x => !q x) (a := x) (by simp [hx'])]
      rw [e1, e2]
      have key : ∀ (l : List (List α)) (f g : List α → Nat), (l.map f).sum + (l.map g).sum = (l.map fun A => f A + g A).sum := by
        intro l f g
        induction l with
        | nil => rfl
        | cons a l ih => simp only [List.map_cons, List.sum_cons]; omega
      rw [key]
      congr 1
      apply List.map_congr_left
      intro A _
      rw [cnt_cons]
end
/-! ### sums by sizes -/
def conv (f g : Nat → Nat) (j : Nat) : Nat := ((List.range (j + 1)).map fun i => f i * g (j - i)).sum
theorem sum_zero {α : Type} {l : List α} {f : α → Nat} (h : ∀ x ∈ l, f x = 0) : (l.map f).sum = 0 := by
  induction l with
  | nil => rfl
  | cons a l ih => rw [List.map_cons, List.sum_cons, h a (by simp), ih fun x hx => h x (List.mem_cons_of_mem _ hx)]
theorem sum_pos {α : Type} {l : List α} {f : α → Nat} {x : α} (hx : x ∈ l) (h : 0 < f x) : 0 < (l.map f).sum := by
  induction l with
  | nil => cases hx
  | cons a l ih =>
    rw [List.map_cons, List.sum_cons]
    rcases List.mem_cons.mp hx with e | e
    · subst e; omega
    · have := ih e; omega
theorem sum_add {α : Type} (l : List α) (f g : α → Nat) : (l.map f).sum + (l.map g).sum = (l.map fun A => f A + g A).sum := by
  induction l with
  | nil => rfl
  | cons a l ih => simp only [List.map_cons, List.sum_cons]; omega
theorem sum_congr {α : Type} {l : List α} {f g : α → Nat} (h : ∀ x ∈ l, f x = g x) : (l.map f).sum = (l.map g).sum := by
  rw [List.map_congr_left h]
/-- a sum over things by their sizes -/
theorem sum_by_size {α : Type} (sz : α → Nat) (ok : α → Bool) (g : Nat → Nat) (j : Nat) : ∀ l : List α,
    (l.map fun A => if ok A = true ∧ sz A ≤ j then g (j - sz A) else 0).sum = conv (fun i => l.countP fun A => ok A && decide (sz A = i)) g j
  | [] => by
    unfold conv
    rw [List.map_nil]
    exact (sum_zero fun i _ => by simp).symm
  | a :: l => by
    rw [List.map_cons, List.sum_cons, sum_by_size sz ok g j l]
    unfold conv
    have e : ((List.range (j + 1)).map fun i => (if (ok a && decide (sz a = i)) = true then 1 else 0) * g (j - i)).sum = if ok a = true ∧ sz a ≤ j then g (j - sz a) else 0 := by
      by_cases ha : ok a = true
      · by_cases hs : sz a ≤ j
        · rw [if_pos ⟨ha, hs⟩]
          have : ∀ n, ((List.range n).map fun i => (if (ok a && decide (sz a = i)) = true then 1 else 0) * g (j - i)).sum = if sz a < n then g (j - sz a) else 0 := by
            intro n
            induction n with
            | zero => rfl
            | succ n ih =>
              rw [List.range_succ, List.map_append, List.sum_append, ih]
              simp only [List.map_cons, List.map_nil, List.sum_cons, List.sum_nil, ha, Bool.true_and, decide_eq_true_eq]
              by_cases h1 : sz a = n
              · subst h1
                simp
              · rw [if_neg h1]
                by_cases h2 : sz a < n
                · rw [if_pos h2, if_pos (by omega)]; omega
                · rw [if_neg h2, if_neg (by omega)]; omega
          rw [this, if_pos (by omega)]
        · rw [if_neg (fun z => hs z.2)]
          exact sum_zero fun i hi => by
            have := List.mem_range.mp hi
            have hne : sz a ≠ i := by omega
            simp [hne]
      · rw [if_neg (fun z => ha z.1)]
        exact sum_zero fun i hi => by simp [ha]
    rw [← e, sum_add]
    apply sum_congr
    intro i _
    dsimp only
    rw [List.countP_cons, Nat.add_mul, Nat.add_comm]
/-- the first size that there is -/
def Lead (f : Nat → Nat) (k : Nat) : Prop := 0 < f k ∧ ∀ i, i < k → f i = 0
theorem conv_lead {f g : Nat → Nat} {a b : Nat} (h1 : Lead f a) (h2 : Lead g b) : Lead (conv f g) (a + b) := by
  constructor
  · unfold conv
    refine sum_pos (x := a) (List.mem_range.mpr (by omega)) ?_
    rw [show a + b - a = b by omega]
    exact Nat.mul_pos h1.1 h2.1
  · intro i hi
    unfold conv
    refine sum_zero fun x hx => ?_
    have hx := List.mem_range.mp hx
    by_cases hxa : x < a
    · rw [h1.2 x hxa, Nat.zero_mul]
    · rw [h2.2 (i - x) (by omega), Nat.mul_zero]
theorem conv_none {f g : Nat → Nat} (h : (∀ i, f i = 0) ∨ ∀ i, g i = 0) (j : Nat) : conv f g j = 0 := by
  unfold conv
  refine sum_zero fun x _ => ?_
  rcases h with h | h
  · rw [h, Nat.zero_mul]
  · rw [h, Nat.mul_zero]
/-! ### Pascal's numbers -/
def ch : Nat → Nat → Nat
  | _, 0 => 1
  | 0, _ + 1 => 0
  | n + 1, k + 1 => ch n k + ch n (k + 1)
theorem ch_zero (n : Nat) : ch n 0 = 1 := by cases n <;> rfl
theorem ch_over : ∀ (n k : Nat), n < k → ch n k = 0
  | _, 0, h => by omega
  | 0, k + 1, _ => rfl
  | n + 1, k + 1, h => by
    show ch n k + ch n (k + 1) = 0
    rw [ch_over n k (by omega), ch_over n (k + 1) (by omega)]
theorem ch_one : ∀ n, ch n 1 = n
  | 0 => rfl
  | n + 1 => by show ch n 0 + ch n 1 = n + 1; rw [ch_zero, ch_one n]; omega
/-- what is wanted of a lot: some are missed, some are made -/
def okMN {α : Type} [DecidableEq α] (M N : List α) (ps L : List α) : Bool := ps.all fun x => (!decide (x ∈ M) || decide (x ∈ L)) && (!decide (x ∈ N) || !decide (x ∈ L))
theorem okMN_iff {α : Type} [DecidableEq α] {M N ps L : List α} : okMN M N ps L = true ↔ ∀ x ∈ ps, (x ∈ M → x ∈ L) ∧ (x ∈ N → x ∉ L) := by
  unfold okMN
  rw [List.all_eq_true]
  constructor
  · intro h x hx
    have := h x hx
    simp only [Bool.and_eq_true, Bool.or_eq_true, Bool.not_eq_true', decide_eq_true_eq, decide_eq_false_iff_not] at this
    exact ⟨fun m => this.1.resolve_left (fun z => z m), fun n => this.2.resolve_left (fun z => z n)⟩
  · intro h x hx
    have := h x hx
    simp only [Bool.and_eq_true, Bool.or_eq_true, Bool.not_eq_true', decide_eq_true_eq, decide_eq_false_iff_not]
    exact ⟨(Decidable.em (x ∈ M)).symm.imp_right this.1, (Decidable.em (x ∈ N)).symm.imp_right this.2⟩
def goneN {α : Type} [DecidableEq α] (M : List α) (ps : List α) : Nat := ps.countP fun x => decide (x ∈ M)
def freeN {α : Type} [DecidableEq α] (M N : List α) (ps : List α) : Nat := ps.countP fun x => !decide (x ∈ M) && !decide (x ∈ N)
theorem cnt_size {α : Type} [DecidableEq α] {M N : List α} (hMN : ∀ x ∈ M, x ∉ N) : ∀ {ps : List α} (_ : ps.Nodup) (j : Nat),
    (lots ps).countP (fun A => okMN M N ps A && decide (A.length = j)) = if goneN M ps ≤ j then ch (freeN M N ps) (j - goneN M ps) else 0
  | [], _, j => by
    rw [cnt_nil]
    unfold okMN goneN freeN
    simp only [List.all_nil, List.length_nil, Bool.true_and, List.countP_nil, Nat.zero_le, if_true, Nat.sub_zero, decide_eq_true_eq]
    cases j with
    | zero => rfl
    | succ j => simp [ch]
  | x :: xs, nd, j => by
    have nd' := (List.nodup_cons.mp nd).2
    have hx := (List.nodup_cons.mp nd).1
    rw [cnt_cons]
    have sub : ∀ L ∈ lots xs, x ∉ L := fun L hL z => hx ((mem_lots.mp hL).subset z)
    have e1 : (lots xs).countP (fun L => okMN M N (x :: xs) (x :: L) && decide ((x :: L).length = j)) = if x ∈ N then 0 else if 0 < j then (lots xs).countP (fun A => okMN M N xs A && decide (A.length = j - 1)) else 0 := by
      have cg : ∀ L ∈ lots xs, (okMN M N (x :: xs) (x :: L) && decide ((x :: L).length = j)) = (if x ∈ N then false else if 0 < j then (okMN M N xs L && decide (L.length = j - 1)) else false) := by
        intro L hL
        have e : okMN M N (x :: xs) (x :: L) = (!decide (x ∈ N) && okMN M N xs L) := by
          unfold okMN
          rw [List.all_cons]
          simp only [List.mem_cons, true_or, decide_true, Bool.or_true, Bool.true_and, Bool.not_true, Bool.or_false]
          congr 1
          rw [Bool.eq_iff_iff, List.all_eq_true, List.all_eq_true]
          constructor
          · intro h y hy
            have hne : y ≠ x := fun z => hx (z ▸ hy)
            have := h y hy
            simpa [hne] using this
          · intro h y hy
            have hne : y ≠ x := fun z => hx (z ▸ hy)
            have := h y hy
            simpa [hne] using this
        rw [e, List.length_cons]
        by_cases hN : x ∈ N
        · simp [hN]
        · rw [if_neg hN]
          by_cases hj : 0 < j
          · rw [if_pos hj]
            have : decide (L.length + 1 = j) = decide (L.length = j - 1) := by
              apply decide_eq_decide.mpr; omega
            rw [this]; simp [hN]
          · rw [if_neg hj]
            have : decide (L.length + 1 = j) = false := by simp; omega
            rw [this, Bool.and_false]
      rw [List.countP_congr fun L hL => by rw [cg L hL]]
      by_cases hN : x ∈ N
      · simp [hN]
      · by_cases hj : 0 < j
        · simp [hN, hj]
        · simp [hN, hj]
    have e2 : (lots xs).countP (fun L => okMN M N (x :: xs) L && decide (L.length = j)) = if x ∈ M then 0 else (lots xs).countP (fun A => okMN M N xs A && decide (A.length = j)) := by
      have cg : ∀ L ∈ lots xs, (okMN M N (x :: xs) L && decide (L.length = j)) = (if x ∈ M then false else (okMN M N xs L && decide (L.length = j))) := by
        intro L hL
        have hxL := sub L hL
        unfold okMN
        rw [List.all_cons]
        by_cases hM : x ∈ M
        · simp [hM, hxL]
        · simp [hM, hxL]
      rw [List.countP_congr fun L hL => by rw [cg L hL]]
      by_cases hM : x ∈ M
      · simp [hM]
      · simp [hM]
    rw [e1, e2, cnt_size hMN nd', cnt_size hMN nd']
    unfold goneN freeN
    rw [List.countP_cons, List.countP_cons]
    by_cases hM : x ∈ M
    · have hN := hMN x hM
      simp only [hM, hN, if_true, if_false, decide_true, Bool.not_true, Bool.false_and, Bool.false_eq_true, Nat.add_zero]
      by_cases hj : 0 < j
      · rw [if_pos hj]
        by_cases h2 : xs.countP (fun x => decide (x ∈ M)) ≤ j - 1
        · rw [if_pos h2, if_pos (by omega)]
          congr 1; omega
        · rw [if_neg h2, if_neg (by omega)]
      · rw [if_neg hj, if_neg (by omega)]
    · by_cases hN : x ∈ N
      · simp [hM, hN]
      · simp only [hM, hN, if_false, decide_false, Bool.not_false, Bool.true_and, if_true, Bool.false_eq_true, Nat.add_zero]
        generalize hg : xs.countP (fun x => decide (x ∈ M)) = g
        generalize hf : xs.countP (fun x => !decide (x ∈ M) && !decide (x ∈ N)) = f
        by_cases hj : 0 < j
        · rw [if_pos hj]
          by_cases h2 : g ≤ j - 1
          · rw [if_pos h2, if_pos (by omega), if_pos (by omega)]
            have : j - g = (j - 1 - g) + 1 := by omega
            rw [this]; rfl
          · rw [if_neg h2, Nat.zero_add]
            by_cases h3 : g ≤ j
            · rw [if_pos h3, if_pos h3]
              have : j - g = 0 := by omega
              rw [this, ch_zero, ch_zero]
            · rw [if_neg h3, if_neg h3]
        · rw [if_neg hj, Nat.zero_add]
          by_cases h3 : g ≤ j
          · rw [if_pos h3, if_pos h3]
            have : j - g = 0 := by omega
            rw [this, ch_zero, ch_zero]
          · rw [if_neg h3, if_neg h3]
end Dl
namespace Dl
/-! ### parts: tests and what is asked of the number of the missed ones -/
section
variable {α : Type} [DecidableEq α]
abbrev Pt (α : Type) := (α → Bool) × (Nat → Bool)
def inAny (pre : List (Pt α)) (x : α) : Bool := pre.any fun t => t.1 x
def cntP (M N xs : List α) (pre : List (Pt α)) (j : Nat) : Nat :=
  (lots (xs.filter (inAny pre))).countP fun L => (okMN M N (xs.filter (inAny pre)) L && pre.all fun t => t.2 (L.countP t.1)) && decide (L.length = j)
def partP (M N xs : List α) (t : Pt α) (i : Nat) : Nat := (lots (xs.filter t.1)).countP fun A => (okMN M N (xs.filter t.1) A && t.2 A.length) && decide (A.length = i)
theorem inAny_app (pre : List (Pt α)) (t : Pt α) (x : α) : inAny (pre ++ [t]) x = (inAny pre x || t.1 x) := by
  unfold inAny; rw [List.any_append, List.any_cons, List.any_nil, Bool.or_false]
theorem cntP_nil (M N xs : List α) (j : Nat) : cntP M N xs [] j = if j = 0 then 1 else 0 := by
  unfold cntP
  have e : xs.filter (inAny ([] : List (Pt α))) = [] := by
    apply List.filter_eq_nil_iff.mpr
    intro x _; simp [inAny]
  rw [e, cnt_nil]
  simp only [okMN, List.all_nil, Bool.true_and, List.length_nil, decide_eq_true_eq]
  by_cases h : j = 0
  · simp [h]
  · rw [if_neg (fun z => h z.symm), if_neg h]
theorem cntP_snoc {M N xs : List α} {pre : List (Pt α)} {t : Pt α} (hd : ∀ x ∈ xs, inAny pre x = true → t.1 x = false) (j : Nat) : cntP M N xs (pre ++ [t]) j = conv (cntP M N xs pre) (partP M N xs t) j := by
  let U := xs.filter (inAny (pre ++ [t]))
  have hU : ∀ x, x ∈ U ↔ x ∈ xs ∧ (inAny pre x = true ∨ t.1 x = true) := fun x => by
    show x ∈ List.filter _ _ ↔ _
    rw [List.mem_filter, inAny_app, Bool.or_eq_true]
  have f1 : U.filter (fun x => !t.1 x) = xs.filter (inAny pre) := by
    show (xs.filter _).filter _ = _
    rw [List.filter_filter]
    apply List.filter_congr
    intro x hx
    rw [inAny_app]
    cases h1 : inAny pre x with
    | true => rw [hd x hx h1]; rfl
    | false => cases t.1 x <;> rfl
  have f2 : U.filter (fun x => !!t.1 x) = xs.filter t.1 := by
    show (xs.filter _).filter _ = _
    rw [List.filter_filter]
    apply List.filter_congr
    intro x hx
    rw [inAny_app]
    cases t.1 x with
    | true => simp
    | false => simp
  let P : List α → List α → Bool := fun B A => (okMN M N (xs.filter (inAny pre)) B && pre.all fun s => s.2 (B.countP s.1)) && ((okMN M N (xs.filter t.1) A && t.2 A.length) && decide (B.length + A.length = j))
  have e0 : cntP M N xs (pre ++ [t]) j = (lots U).countP fun L => P (L.filter fun x => !t.1 x) (L.filter fun x => !!t.1 x) := by
    show (lots U).countP _ = _
    apply List.countP_congr
    intro L hL
    have hLU : ∀ x ∈ L, x ∈ U := fun x hx => (mem_lots.mp hL).subset hx
    have e1 : okMN M N U L = (okMN M N (xs.filter (inAny pre)) (L.filter fun x => !t.1 x) && okMN M N (xs.filter t.1) (L.filter fun x => !!t.1 x)) := by
      rw [Bool.eq_iff_iff, Bool.and_eq_true, okMN_iff, okMN_iff, okMN_iff]
      constructor
      · intro h
        refine ⟨fun x hx => ?_, fun x hx => ?_⟩
        · obtain ⟨h1, h2⟩ := List.mem_filter.mp hx
          have h3 := hd x h1 h2
          have := h x ((hU x).mpr ⟨h1, .inl h2⟩)
          rw [List.mem_filter, h3]
          simpa using this
        · obtain ⟨h1, h2⟩ := List.mem_filter.mp hx
          have := h x ((hU x).mpr ⟨h1, .inr h2⟩)
          rw [List.mem_filter, h2]
          simpa using this
      · rintro ⟨ha, hb⟩ x hx
        obtain ⟨h1, h2 | h2⟩ := (hU x).mp hx
        · have := ha x (List.mem_filter.mpr ⟨h1, h2⟩)
          rw [List.mem_filter, hd x h1 h2] at this
          simpa using this
        · have := hb x (List.mem_filter.mpr ⟨h1, h2⟩)
          rw [List.mem_filter, h2] at this
          simpa using this
    have e2 : ((pre ++ [t]).all fun s => s.2 (L.countP s.1)) = ((pre.all fun s => s.2 ((L.filter fun x => !t.1 x).countP s.1)) && t.2 (L.filter fun x => !!t.1 x).length) := by
      rw [List.all_append, List.all_cons, List.all_nil, Bool.and_true]
      congr 1
      · rw [Bool.eq_iff_iff, List.all_eq_true, List.all_eq_true]
        have : ∀ s ∈ pre, (L.filter fun x => !t.1 x).countP s.1 = L.countP s.1 := by
          intro s hs
          rw [List.countP_filter]
          apply List.countP_congr
          intro x hx
          constructor
          · intro h; exact (Bool.and_eq_true _ _ ▸ h).1
          · intro h
            have : inAny pre x = true := List.any_eq_true.mpr ⟨s, hs, h⟩
            rw [h, hd x ((hU x).mp (hLU x hx)).1 this]; rfl
        exact ⟨fun h s hs => by rw [this s hs]; exact h s hs, fun h s hs => by rw [← this s hs]; exact h s hs⟩
      · rw [List.countP_eq_length_filter]
        congr 2
        simp
    have e3 : L.length = (L.filter fun x => !t.1 x).length + (L.filter fun x => !!t.1 x).length := by
      have h1 := List.length_eq_countP_add_countP (fun x => !t.1 x) (l := L)
      rw [List.countP_eq_length_filter, List.countP_eq_length_filter] at h1
      rw [h1]
      congr 3
      funext x; cases t.1 x <;> rfl
    show ((okMN M N U L && _) && decide (L.length = j)) = true ↔ P _ _ = true
    rw [e1, e2, e3]
    show _ ↔ ((_ && _) && ((_ && _) && _)) = true
    simp only [Bool.and_eq_true]
    constructor
    · rintro ⟨⟨⟨a, b⟩, c, d⟩, e⟩; exact ⟨⟨a, c⟩, ⟨b, d⟩, e⟩
    · rintro ⟨⟨a, c⟩, ⟨b, d⟩, e⟩; exact ⟨⟨⟨a, b⟩, c, d⟩, e⟩
  rw [e0, cnt_split, f1, f2]
  rw [show conv (cntP M N xs pre) (partP M N xs t) j = _ from (sum_by_size (fun B : List α => B.length) (fun B => okMN M N (xs.filter (inAny pre)) B && pre.all fun s => s.2 (B.countP s.1)) (partP M N xs t) j (lots (xs.filter (inAny pre)))).symm]
  apply sum_congr
  intro B _
  by_cases hB : (okMN M N (xs.filter (inAny pre)) B && pre.all fun s => s.2 (B.countP s.1)) = true
  · by_cases hj : B.length ≤ j
    · rw [if_pos ⟨hB, hj⟩]
      unfold partP
      apply List.countP_congr
      intro A _
      show (_ && _) = true ↔ _
      rw [hB, Bool.true_and]
      have : decide (B.length + A.length = j) = decide (A.length = j - B.length) := by
        apply decide_eq_decide.mpr; omega
      rw [this]
    · rw [if_neg (fun z => hj z.2)]
      apply List.countP_eq_zero.mpr
      intro A _
      show ¬ (_ && _) = true
      have : decide (B.length + A.length = j) = false := by simp; omega
      rw [this]; simp
  · rw [if_neg (fun z => hB z.1)]
    apply List.countP_eq_zero.mpr
    intro A _
    show ¬ (_ && _) = true
    rw [Bool.eq_false_iff.mpr hB]; simp
/-- a part by its numbers -/
def parO : Option Bool → Nat → Bool
  | none, _ => true
  | some o, n => decide (n % 2 = 1) == o
def pp (gone free : Nat) (odd : Option Bool) (i : Nat) : Nat := if parO odd i = true then (if gone ≤ i then ch free (i - gone) else 0) else 0
theorem partP_eq {M N xs : List α} (nd : xs.Nodup) (hMN : ∀ x ∈ M, x ∉ N) (q : α → Bool) (odd : Option Bool) (i : Nat) :
    partP M N xs (q, parO odd) i = pp (goneN M (xs.filter q)) (freeN M N (xs.filter q)) odd i := by
  unfold partP pp
  rw [← cnt_size hMN (nd.filter q)]
  by_cases h : parO odd i = true
  · rw [if_pos h]
    apply List.countP_congr
    intro A _
    constructor
    · intro z
      simp only [Bool.and_eq_true, decide_eq_true_eq] at z ⊢
      exact ⟨z.1.1, z.2⟩
    · intro z
      simp only [Bool.and_eq_true, decide_eq_true_eq] at z ⊢
      exact ⟨⟨z.1, by rw [z.2]; exact h⟩, z.2⟩
  · rw [if_neg h]
    apply List.countP_eq_zero.mpr
    intro A _ z
    simp only [Bool.and_eq_true, decide_eq_true_eq] at z
    exact h (z.2 ▸ z.1.2)
end
/-- the first number of misses of a part -/
def leadP (gone free : Nat) (odd : Option Bool) : Option Nat :=
  if odd = none ∨ odd = some (decide (gone % 2 = 1)) then some gone else if free = 0 then none else some (gone + 1)
theorem leadP_ok {gone free : Nat} {odd : Option Bool} : (∀ k, leadP gone free odd = some k → Lead (pp gone free odd) k) ∧ (leadP gone free odd = none → ∀ i, pp gone free odd i = 0) := by
  unfold leadP
  by_cases h : odd = none ∨ odd = some (decide (gone % 2 = 1))
  · rw [if_pos h]
    refine ⟨fun k hk => ?_, fun z => nomatch z⟩
    cases hk
    have hp : parO odd gone = true := by
      rcases h with h | h
      · subst h; rfl
      · subst h; simp [parO]
    refine ⟨?_, fun i hi => ?_⟩
    · unfold pp
      rw [if_pos hp, if_pos (Nat.le_refl _), Nat.sub_self, ch_zero]; decide
    · unfold pp
      rw [if_neg (show ¬ gone ≤ i by omega)]
      split <;> rfl
  · rw [if_neg h]
    have hno : odd = some (!decide (gone % 2 = 1)) := by
      cases odd with
      | none => exact absurd (.inl rfl) h
      | some o =>
        have : o ≠ decide (gone % 2 = 1) := fun z => h (.inr (by rw [z]))
        cases o <;> cases hd : decide (gone % 2 = 1) <;> simp_all
    have p0 : parO odd gone = false := by subst hno; cases hd : decide (gone % 2 = 1) <;> simp_all [parO]
    by_cases hf : free = 0
    · rw [if_pos hf]
      refine ⟨fun k hk => (nomatch hk), fun _ i => ?_⟩
      unfold pp
      by_cases hi : i = gone
      · subst hi; rw [p0]; rfl
      · subst hf
        by_cases h2 : gone ≤ i
        · rw [if_pos h2, ch_over 0 (i - gone) (by omega)]; split <;> rfl
        · rw [if_neg h2]; split <;> rfl
    · rw [if_neg hf]
      refine ⟨fun k hk => ?_, fun z => nomatch z⟩
      cases hk
      have p1 : parO odd (gone + 1) = true := by
        subst hno
        show (decide ((gone + 1) % 2 = 1) == !decide (gone % 2 = 1)) = true
        by_cases h2 : gone % 2 = 1
        · have : ¬ (gone + 1) % 2 = 1 := by omega
          simp [h2, this]
        · have : (gone + 1) % 2 = 1 := by omega
          simp [h2, this]
      refine ⟨?_, fun i hi => ?_⟩
      · unfold pp
        rw [if_pos p1, if_pos (by omega), show gone + 1 - gone = 1 by omega, ch_one]; omega
      · unfold pp
        by_cases hi2 : i = gone
        · subst hi2; rw [p0]; rfl
        · rw [if_neg (show ¬ gone ≤ i by omega)]; split <;> rfl
end Dl
namespace Dl
/-! ### stretches of one wheel: from what was seen -/
abbrev Str3 := Nat × Nat × Option Bool
def sttL (sz : Nat → Nat → Nat) (D : Nat) : List (Nat × List Nat) → Nat → Nat → List Str3
  | [], first, _ => [(first, D, none)]
  | (day, seen) :: g, first, up => (first, day, some (decide ((sz first day + up + seen.headD 0) % 2 = 1))) :: ((if 1 < seen.length then [(day, day, some true)] else []) ++ sttL sz D g day (seen.getLastD 0))
structure SeenOk (D : Nat) (g : List (Nat × List Nat)) : Prop where
  asc : g.Pairwise fun a b => a.1 < b.1
  le : ∀ x ∈ g, x.1 ≤ D
  ne : ∀ x ∈ g, x.2 ≠ []
  lt : ∀ x ∈ g, ∀ s ∈ x.2, s < 2
  two : ∀ x ∈ g, 1 < x.2.length → x.2 = [0, 1]
theorem SeenOk.tail {D : Nat} {x : Nat × List Nat} {g : List (Nat × List Nat)} (h : SeenOk D (x :: g)) : SeenOk D g :=
  ⟨(List.pairwise_cons.mp h.asc).2, fun y hy => h.le y (List.mem_cons_of_mem _ hy), fun y hy => h.ne y (List.mem_cons_of_mem _ hy), fun y hy => h.lt y (List.mem_cons_of_mem _ hy), fun y hy => h.two y (List.mem_cons_of_mem _ hy)⟩
structure Cnt2 (cd cl : Nat → Nat → Nat) : Prop where
  dd : ∀ a b e, a ≤ b → b ≤ e → cd a b + cd b e = cd a e
  ll : ∀ a b e, a ≤ b → b ≤ e → cl a b + cl b e = cl a e
  le : ∀ a b, cl a b ≤ cd a b
  z : ∀ a, cl a a = 0
theorem strs_ok {cd cl : Nat → Nat → Nat} (C : Cnt2 cd cl) {D : Nat} : ∀ (g : List (Nat × List Nat)) (first up : Nat), SeenOk D g → (∀ x ∈ g, first ≤ x.1) → up < 2 → (cd 0 first - cl 0 first) % 2 = up →
    ((∀ x ∈ g, ∀ s ∈ x.2, (cd 0 x.1 - cl 0 x.1) % 2 = s) ↔ ∀ t ∈ sttL cd D g first up, parO t.2.2 (cl t.1 t.2.1) = true)
  | [], first, up, _, _, _, _ => by
    unfold sttL
    constructor
    · intro _ t ht
      rw [List.mem_singleton.mp ht]; rfl
    · intro _ x hx; cases hx
  | (day, seen) :: g, first, up, h, hf, hu, hs => by
    have hday : first ≤ day := hf (day, seen) (by simp)
    have hne : seen ≠ [] := h.ne (day, seen) (by simp)
    have hlt : ∀ s ∈ seen, s < 2 := h.lt (day, seen) (by simp)
    have e1 := C.dd 0 first day (Nat.zero_le _) hday
    have e2 := C.ll 0 first day (Nat.zero_le _) hday
    have l1 := C.le first day
    have l2 := C.le 0 first
    have hhead : seen.headD 0 ∈ seen := by
      cases seen with
      | nil => exact absurd rfl hne
      | cons a l => simp
    have hh := hlt _ hhead
    have key : (cd 0 day - cl 0 day) % 2 = seen.headD 0 ↔ parO (some (decide ((cd first day + up + seen.headD 0) % 2 = 1))) (cl first day) = true := by
      show _ ↔ (decide (cl first day % 2 = 1) == decide ((cd first day + up + seen.headD 0) % 2 = 1)) = true
      rw [beq_iff_eq, decide_eq_decide]
      omega
    unfold sttL
    by_cases h1 : 1 < seen.length
    · have e := h.two (day, seen) (by simp) h1
      dsimp only at e
      subst e
      rw [if_pos h1]
      constructor
      · intro z
        have z0 := z (day, [0, 1]) (by simp) 0 (by simp)
        have z1 := z (day, [0, 1]) (by simp) 1 (by simp)
        dsimp only at z0 z1
        omega
      · intro z
        have := z (day, day, some true) (by simp)
        dsimp only at this
        rw [C.z] at this
        exact absurd this (by decide)
    · rw [if_neg h1]
      obtain ⟨s, rfl⟩ : ∃ s, seen = [s] := by
        cases seen with
        | nil => exact absurd rfl hne
        | cons a l => cases l with
          | nil => exact ⟨a, rfl⟩
          | cons b l => simp at h1
      have hg : ∀ x ∈ g, day ≤ x.1 := fun x hx => Nat.le_of_lt ((List.pairwise_cons.mp h.asc).1 x hx)
      rw [List.nil_append]
      show _ ↔ ∀ t ∈ (first, day, some (decide ((cd first day + up + s) % 2 = 1))) :: sttL cd D g day s, _
      have key' : (cd 0 day - cl 0 day) % 2 = s ↔ parO (some (decide ((cd first day + up + s) % 2 = 1))) (cl first day) = true := key
      constructor
      · intro z
        have z0 := z (day, [s]) (by simp) s (by simp)
        dsimp only at z0
        have ih := strs_ok C g day s h.tail hg hh z0
        intro t ht
        rcases List.mem_cons.mp ht with e | e
        · subst e; exact key'.mp z0
        · exact ih.mp (fun x hx => z x (List.mem_cons_of_mem _ hx)) t e
      · intro z
        have z0 := key'.mpr (z (first, day, some (decide ((cd first day + up + s) % 2 = 1))) (by simp))
        have ih := strs_ok C g day s h.tail hg hh z0
        intro x hx
        rcases List.mem_cons.mp hx with e | e
        · subst e
          intro u hu
          rw [List.mem_singleton.mp hu]; exact z0
        · exact ih.mpr (fun t ht => z t (List.mem_cons_of_mem _ ht)) x e
/-- each day of a wheel is in just one stretch -/
theorem strs_cover {cd : Nat → Nat → Nat} {D : Nat} : ∀ (g : List (Nat × List Nat)) (first up : Nat), SeenOk D g → (∀ x ∈ g, first ≤ x.1) → ∀ d, first ≤ d → d < D → ∃ t ∈ sttL cd D g first up, t.1 ≤ d ∧ d < t.2.1
  | [], first, up, _, _, d, h1, h2 => ⟨(first, D, none), by unfold sttL; simp, h1, h2⟩
  | (day, seen) :: g, first, up, h, hf, d, h1, h2 => by
    by_cases hd : d < day
    · exact ⟨(first, day, _), by unfold sttL; exact List.mem_cons_self .., h1, hd⟩
    · obtain ⟨t, ht, h3⟩ := strs_cover (cd := cd) g day (seen.getLastD 0) h.tail (fun x hx => Nat.le_of_lt ((List.pairwise_cons.mp h.asc).1 x hx)) d (by omega) h2
      exact ⟨t, by unfold sttL; exact List.mem_cons_of_mem _ (List.mem_append_right _ ht), h3⟩
theorem strs_from {cd : Nat → Nat → Nat} {D : Nat} : ∀ (g : List (Nat × List Nat)) (first up : Nat), SeenOk D g → (∀ x ∈ g, first ≤ x.1) → ∀ t ∈ sttL cd D g first up, first ≤ t.1
  | [], first, up, _, _, t, ht => by unfold sttL at ht; rw [List.mem_singleton.mp ht]; exact Nat.le_refl _
  | (day, seen) :: g, first, up, h, hf, t, ht => by
    have hday : first ≤ day := hf (day, seen) (by simp)
    unfold sttL at ht
    rcases List.mem_cons.mp ht with e | e
    · rw [e]; exact Nat.le_refl _
    · rcases List.mem_append.mp e with e | e
      · split at e
        · rw [List.mem_singleton.mp e]; exact hday
        · cases e
      · have := strs_from (cd := cd) g day (seen.getLastD 0) h.tail (fun x hx => Nat.le_of_lt ((List.pairwise_cons.mp h.asc).1 x hx)) t e
        omega
theorem strs_apart {cd : Nat → Nat → Nat} {D : Nat} : ∀ (g : List (Nat × List Nat)) (first up : Nat), SeenOk D g → (∀ x ∈ g, first ≤ x.1) → (sttL cd D g first up).Pairwise fun a b => ∀ d, ¬ ((a.1 ≤ d ∧ d < a.2.1) ∧ b.1 ≤ d ∧ d < b.2.1)
  | [], first, up, _, _ => by unfold sttL; exact List.pairwise_singleton _ _
  | (day, seen) :: g, first, up, h, hf => by
    have hg : ∀ x ∈ g, day ≤ x.1 := fun x hx => Nat.le_of_lt ((List.pairwise_cons.mp h.asc).1 x hx)
    have ih := strs_apart (cd := cd) g day (seen.getLastD 0) h.tail hg
    have fr := strs_from (cd := cd) g day (seen.getLastD 0) h.tail hg
    unfold sttL
    refine List.pairwise_cons.mpr ⟨fun t ht d hd => ?_, List.pairwise_append.mpr ⟨?_, ih, fun a ha b hb d hd => ?_⟩⟩
    · rcases List.mem_append.mp ht with e | e
      · split at e
        · rw [List.mem_singleton.mp e] at hd; dsimp only at hd; omega
        · cases e
      · have := fr t e; dsimp only at hd; omega
    · split
      · exact List.pairwise_singleton _ _
      · exact List.Pairwise.nil
    · split at ha
      · rw [List.mem_singleton.mp ha] at hd; dsimp only at hd; omega
      · cases ha
end Dl
namespace Dl
/-! ### what was seen, day by day -/
def putG (d s : Nat) : List (Nat × List Nat) → List (Nat × List Nat)
  | [] => [(d, [s])]
  | (e, l) :: g => if e = d then (e, l ++ [s]) :: g else (e, l) :: putG d s g
def flatG (g : List (Nat × List Nat)) : List (Nat × Nat) := g.flatMap fun x => x.2.map fun s => (x.1, s)
structure GInv (g : List (Nat × List Nat)) : Prop where
  asc : g.Pairwise fun a b => a.1 < b.1
  ne : ∀ x ∈ g, x.2 ≠ []
  up : ∀ x ∈ g, x.2.Pairwise (· < ·)
theorem putG_keys {d s : Nat} : ∀ {g : List (Nat × List Nat)} {x : Nat × List Nat}, x ∈ putG d s g → x.1 = d ∨ ∃ y ∈ g, y.1 = x.1
  | [], x, h => by rw [putG, List.mem_singleton] at h; rw [h]; exact .inl rfl
  | (e, l) :: g, x, h => by
    rw [putG] at h
    split at h
    · rcases List.mem_cons.mp h with z | z
      · rw [z]; exact .inr ⟨(e, l), by simp, rfl⟩
      · exact .inr ⟨x, List.mem_cons_of_mem _ z, rfl⟩
    · rcases List.mem_cons.mp h with z | z
      · rw [z]; exact .inr ⟨(e, l), by simp, rfl⟩
      · rcases putG_keys z with q | ⟨y, hy, q⟩
        · exact .inl q
        · exact .inr ⟨y, List.mem_cons_of_mem _ hy, q⟩
theorem putG_ok {d s : Nat} : ∀ {g : List (Nat × List Nat)}, GInv g → (∀ x ∈ g, x.1 < d ∨ (x.1 = d ∧ ∀ u ∈ x.2, u < s)) → GInv (putG d s g) ∧ flatG (putG d s g) = flatG g ++ [(d, s)]
  | [], _, _ => ⟨⟨List.pairwise_singleton _ _, fun x hx => by rw [putG, List.mem_singleton] at hx; rw [hx]; simp, fun x hx => by rw [putG, List.mem_singleton] at hx; rw [hx]; exact List.pairwise_singleton _ _⟩, rfl⟩
  | (e, l) :: g, h, hk => by
    have h1 := (List.pairwise_cons.mp h.asc).1
    have hg : GInv g := ⟨(List.pairwise_cons.mp h.asc).2, fun x hx => h.ne x (List.mem_cons_of_mem _ hx), fun x hx => h.up x (List.mem_cons_of_mem _ hx)⟩
    rw [putG]
    by_cases he : e = d
    · rw [if_pos he]
      have gn : g = [] := by
        cases g with
        | nil => rfl
        | cons y g =>
          have a1 := h1 y (by simp)
          have a2 := hk y (by simp)
          dsimp only at a1
          omega
      subst gn
      have hl : ∀ u ∈ l, u < s := by
        rcases hk (e, l) (by simp) with z | z
        · dsimp only at z; omega
        · exact z.2
      refine ⟨⟨List.pairwise_singleton _ _, fun x hx => ?_, fun x hx => ?_⟩, ?_⟩
      · rw [List.mem_singleton.mp hx]; simp
      · rw [List.mem_singleton.mp hx]
        exact List.pairwise_append.mpr ⟨h.up (e, l) (by simp), List.pairwise_singleton _ _, fun a ha b hb => by rw [List.mem_singleton.mp hb]; exact hl a ha⟩
      · unfold flatG; simp [he]
    · rw [if_neg he]
      have hed : e < d := by
        rcases hk (e, l) (by simp) with z | z
        · exact z
        · exact absurd z.1 he
      obtain ⟨i1, i2⟩ := putG_ok (d := d) (s := s) hg fun x hx => hk x (List.mem_cons_of_mem _ hx)
      refine ⟨⟨List.pairwise_cons.mpr ⟨fun x hx => ?_, i1.asc⟩, fun x hx => ?_, fun x hx => ?_⟩, ?_⟩
      · dsimp only
        rcases putG_keys hx with z | ⟨y, hy, z⟩
        · omega
        · have := h1 y hy; dsimp only at this; omega
      · rcases List.mem_cons.mp hx with z | z
        · rw [z]; exact h.ne (e, l) (by simp)
        · exact i1.ne x z
      · rcases List.mem_cons.mp hx with z | z
        · rw [z]; exact h.up (e, l) (by simp)
        · exact i1.up x z
      · show ((l.map fun s => (e, s)) ++ flatG (putG d s g)) = _
        rw [i2]; show _ = ((l.map fun s => (e, s)) ++ flatG g) ++ _
        rw [List.append_assoc]
def grpG (P : List (Nat × Nat)) : List (Nat × List Nat) := P.foldl (fun g q => putG q.1 q.2 g) []
def ltP (a b : Nat × Nat) : Prop := a.1 < b.1 ∨ (a.1 = b.1 ∧ a.2 < b.2)
theorem mem_flat {g : List (Nat × List Nat)} {d s : Nat} : (d, s) ∈ flatG g ↔ ∃ x ∈ g, x.1 = d ∧ s ∈ x.2 := by
  unfold flatG
  rw [List.mem_flatMap]
  constructor
  · rintro ⟨x, hx, h⟩
    obtain ⟨u, hu, e⟩ := List.mem_map.mp h
    cases e
    exact ⟨x, hx, rfl, hu⟩
  · rintro ⟨x, hx, rfl, h⟩
    exact ⟨x, hx, List.mem_map.mpr ⟨s, h, rfl⟩⟩
theorem grp_go : ∀ (P : List (Nat × Nat)) (g : List (Nat × List Nat)), GInv g → (flatG g ++ P).Pairwise ltP → GInv (P.foldl (fun g q => putG q.1 q.2 g) g) ∧ flatG (P.foldl (fun g q => putG q.1 q.2 g) g) = flatG g ++ P
  | [], g, h, _ => ⟨h, by simp⟩
  | (d, s) :: P, g, h, hp => by
    have hk : ∀ x ∈ g, x.1 < d ∨ (x.1 = d ∧ ∀ u ∈ x.2, u < s) := fun x hx => by
      have hlt : ∀ u ∈ x.2, ltP (x.1, u) (d, s) := fun u hu => (List.pairwise_append.mp hp).2.2 (x.1, u) (mem_flat.mpr ⟨x, hx, rfl, hu⟩) (d, s) (by simp)
      by_cases hxd : x.1 < d
      · exact .inl hxd
      · refine .inr ⟨?_, fun u hu => ?_⟩
        · cases hx2 : x.2 with
          | nil => exact absurd hx2 (h.ne x hx)
          | cons u l =>
            have := hlt u (by rw [hx2]; simp)
            unfold ltP at this; dsimp only at this; omega
        · have := hlt u hu
          unfold ltP at this; dsimp only at this; omega
    obtain ⟨i1, i2⟩ := putG_ok h hk
    have := grp_go P (putG d s g) i1 (by rw [i2, List.append_assoc]; exact hp)
    rw [i2, List.append_assoc] at this
    exact this
theorem grp_ok {P : List (Nat × Nat)} (h : P.Pairwise ltP) : GInv (grpG P) ∧ flatG (grpG P) = P := by
  have := grp_go P [] ⟨.nil, fun x hx => (nomatch hx), fun x hx => (nomatch hx)⟩ (by simpa [flatG] using h)
  rw [show flatG ([] : List (Nat × List Nat)) ++ P = P from rfl] at this
  exact this
theorem grp_seen {D : Nat} {P : List (Nat × Nat)} (h : P.Pairwise ltP) (h1 : ∀ q ∈ P, q.1 ≤ D) (h2 : ∀ q ∈ P, q.2 < 2) : SeenOk D (grpG P) := by
  obtain ⟨i1, i2⟩ := grp_ok h
  have mem : ∀ x ∈ grpG P, ∀ s ∈ x.2, (x.1, s) ∈ P := fun x hx s hs => by rw [← i2]; exact mem_flat.mpr ⟨x, hx, rfl, hs⟩
  refine ⟨i1.asc, fun x hx => ?_, i1.ne, fun x hx s hs => h2 _ (mem x hx s hs), fun x hx hl => ?_⟩
  · cases hx2 : x.2 with
    | nil => exact absurd hx2 (i1.ne x hx)
    | cons u l => exact h1 _ (mem x hx u (by rw [hx2]; simp))
  · have hu := i1.up x hx
    have hlt : ∀ s ∈ x.2, s < 2 := fun s hs => h2 _ (mem x hx s hs)
    generalize x.2 = l at hl hu hlt
    match l, hl, hu, hlt with
    | a :: b :: r, _, hu, hlt =>
      have h3 := (List.pairwise_cons.mp hu).1
      have h4 := h3 b (by simp)
      have h5 := hlt a (by simp)
      have h6 := hlt b (by simp)
      have : r = [] := by
        cases r with
        | nil => rfl
        | cons c r =>
          have h7 := (List.pairwise_cons.mp (List.pairwise_cons.mp hu).2).1 c (by simp)
          have h8 := hlt c (by simp)
          omega
      subst this
      rw [show a = 0 by omega, show b = 1 by omega]
/-! ### a season's turnings, looks and parts -/
abbrev Lk3 := Nat × Nat × Nat
def cnW (w a b : Nat) (L : List (Nat × Nat)) : Nat := L.countP fun x => decide (x.2 = w) && (decide (a ≤ x.1) && decide (x.1 < b))
def sdU (U L : List (Nat × Nat)) (w d : Nat) : Nat := (U.countP fun x => decide (x.2 = w) && (decide (x.1 < d) && !decide (x ∈ L))) % 2
def unb (U : List (Nat × Nat)) (K : List Lk3) (L : List (Nat × Nat)) : Bool := K.all fun q => decide (sdU U L q.2.1 q.1 = q.2.2)
def lkW (K : List Lk3) (w : Nat) : List (Nat × Nat) := (K.filter fun q => decide (q.2.1 = w)).map fun q => (q.1, q.2.2)
def stW (U : List (Nat × Nat)) (D : Nat) (K : List Lk3) (w : Nat) : List Str3 := sttL (fun a b => cnW w a b U) D (grpG (lkW K w)) 0 0
def prts (U : List (Nat × Nat)) (p D : Nat) (K : List Lk3) : List (Nat × Str3) := (List.range p).flatMap fun w => (stW U D K w).map fun t => (w, t)
def qOf (x : Nat × Str3) (y : Nat × Nat) : Bool := decide (y.2 = x.1) && (decide (x.2.1 ≤ y.1) && decide (y.1 < x.2.2.1))
def ptOf (x : Nat × Str3) : Pt (Nat × Nat) := (qOf x, parO x.2.2.2)
/-- looks as a season holds them -/
structure LooksOk (p D : Nat) (K : List Lk3) : Prop where
  asc : ∀ w, (lkW K w).Pairwise ltP
  d : ∀ q ∈ K, q.1 ≤ D
  w : ∀ q ∈ K, q.2.1 < p
  s : ∀ q ∈ K, q.2.2 < 2
structure DueOk (p D : Nat) (U : List (Nat × Nat)) : Prop where
  nd : U.Nodup
  d : ∀ x ∈ U, x.1 < D
  w : ∀ x ∈ U, x.2 < p
section
variable {p D : Nat} {U L : List (Nat × Nat)} {K : List Lk3}
theorem mem_lkW {w d s : Nat} : (d, s) ∈ lkW K w ↔ (d, w, s) ∈ K := by
  unfold lkW
  rw [List.mem_map]
  constructor
  · rintro ⟨⟨a, b, c⟩, h, e⟩
    obtain ⟨h1, h2⟩ := List.mem_filter.mp h
    have h3 : b = w := of_decide_eq_true h2
    dsimp only at e
    cases e; subst h3
    exact h1
  · intro h
    exact ⟨(d, w, s), List.mem_filter.mpr ⟨h, by simp⟩, rfl⟩
theorem LooksOk.seen (h : LooksOk p D K) (w : Nat) : SeenOk D (grpG (lkW K w)) := grp_seen (h.asc w) (fun q hq => h.d _ (mem_lkW.mp (show (q.1, q.2) ∈ _ from hq))) fun q hq => h.s _ (mem_lkW.mp (show (q.1, q.2) ∈ _ from hq))
theorem cnW_zero (w a : Nat) (L : List (Nat × Nat)) : cnW w a a L = 0 := by
  unfold cnW
  apply List.countP_eq_zero.mpr
  intro x _ h
  simp only [Bool.and_eq_true, decide_eq_true_eq] at h
  omega
theorem cnW_add (w : Nat) {a b e : Nat} (h1 : a ≤ b) (h2 : b ≤ e) (L : List (Nat × Nat)) : cnW w a b L + cnW w b e L = cnW w a e L := by
  unfold cnW
  induction L with
  | nil => rfl
  | cons x L ih =>
    rw [List.countP_cons, List.countP_cons, List.countP_cons, ← ih]
    by_cases hw : x.2 = w
    · simp only [hw, decide_true, Bool.true_and, Bool.and_eq_true, decide_eq_true_eq]
      by_cases c1 : a ≤ x.1 <;> by_cases c2 : x.1 < b <;> by_cases c3 : x.1 < e <;> by_cases c4 : b ≤ x.1 <;> simp only [c1, c2, c3, c4, and_true, and_false, if_true, if_false, true_and, false_and] <;> omega
    · simp [hw]
theorem cnW_le (w a b : Nat) (h : L.Sublist U) : cnW w a b L ≤ cnW w a b U := h.countP_le
theorem cnt2 (w : Nat) (h : L.Sublist U) : Cnt2 (fun a b => cnW w a b U) (fun a b => cnW w a b L) :=
  ⟨fun a b e h1 h2 => cnW_add w h1 h2 U, fun a b e h1 h2 => cnW_add w h1 h2 L, fun a b => cnW_le w a b h, fun a => cnW_zero w a L⟩
theorem made_cnt (nd : U.Nodup) (h : L.Sublist U) (w d : Nat) : (U.countP fun x => decide (x.2 = w) && (decide (x.1 < d) && !decide (x ∈ L))) = cnW w 0 d U - cnW w 0 d L := by
  have : (U.countP fun x => decide (x.2 = w) && (decide (x.1 < d) && !decide (x ∈ L))) + cnW w 0 d L = cnW w 0 d U := by
    induction h with
    | slnil => rfl
    | @cons l₁ l₂ a h ih =>
      have na := (List.nodup_cons.mp nd).1
      have ih := ih (List.nodup_cons.mp nd).2
      have ha : a ∉ l₁ := fun z => na (h.subset z)
      unfold cnW at ih ⊢
      rw [List.countP_cons, List.countP_cons]
      simp only [ha, not_false_eq_true, decide_false, Bool.not_false, Bool.and_true, Nat.zero_le, decide_true, Bool.true_and] at ih ⊢
      omega
    | @cons_cons l₁ l₂ a h ih =>
      have na := (List.nodup_cons.mp nd).1
      have ih := ih (List.nodup_cons.mp nd).2
      unfold cnW at ih ⊢
      rw [List.countP_cons, List.countP_cons, List.countP_cons]
      have e : l₂.countP (fun x => decide (x.2 = w) && (decide (x.1 < d) && !decide (x ∈ a :: l₁))) = l₂.countP (fun x => decide (x.2 = w) && (decide (x.1 < d) && !decide (x ∈ l₁))) := by
        apply List.countP_congr
        intro x hx
        have : x ≠ a := fun z => na (z ▸ hx)
        simp [this]
      rw [e]
      simp only [List.mem_cons, true_or, decide_true, Bool.not_true, Bool.and_false, Bool.false_eq_true, if_false, Nat.add_zero, Nat.zero_le, Bool.true_and] at ih ⊢
      omega
  omega
theorem sdU_eq (nd : U.Nodup) (h : L.Sublist U) (w d : Nat) : sdU U L w d = (cnW w 0 d U - cnW w 0 d L) % 2 := by
  unfold sdU; rw [made_cnt nd h]
/-- a lot breaks no look just if it fills each part as it is asked -/
theorem unb_parts (hU : DueOk p D U) (hK : LooksOk p D K) (h : L.Sublist U) : unb U K L = (prts U p D K).all fun x => (ptOf x).2 (L.countP (ptOf x).1) := by
  rw [Bool.eq_iff_iff]
  unfold unb
  rw [List.all_eq_true, List.all_eq_true]
  have one : ∀ w, (∀ x ∈ grpG (lkW K w), ∀ s ∈ x.2, (cnW w 0 x.1 U - cnW w 0 x.1 L) % 2 = s) ↔ ∀ t ∈ stW U D K w, parO t.2.2 (cnW w t.1 t.2.1 L) = true := fun w =>
    strs_ok (cnt2 w h) _ 0 0 (hK.seen w) (fun _ _ => Nat.zero_le _) (by decide) (by
      show (cnW w 0 0 U - cnW w 0 0 L) % 2 = 0
      rw [cnW_zero, cnW_zero])
  have flat : ∀ w, (∀ x ∈ grpG (lkW K w), ∀ s ∈ x.2, (cnW w 0 x.1 U - cnW w 0 x.1 L) % 2 = s) ↔ ∀ d s, (d, w, s) ∈ K → sdU U L w d = s := fun w => by
    constructor
    · intro z d s hs
      have : (d, s) ∈ flatG (grpG (lkW K w)) := by rw [(grp_ok (hK.asc w)).2]; exact mem_lkW.mpr hs
      obtain ⟨x, hx, e, hs'⟩ := mem_flat.mp this
      have := z x hx s hs'
      rw [e] at this
      rw [sdU_eq hU.nd h]; exact this
    · intro z x hx s hs
      have : (x.1, s) ∈ flatG (grpG (lkW K w)) := mem_flat.mpr ⟨x, hx, rfl, hs⟩
      rw [(grp_ok (hK.asc w)).2] at this
      have := z x.1 s (mem_lkW.mp this)
      rw [sdU_eq hU.nd h] at this; exact this
  constructor
  · intro z x hx
    unfold prts at hx
    obtain ⟨w, hw, hx⟩ := List.mem_flatMap.mp hx
    obtain ⟨t, ht, e⟩ := List.mem_map.mp hx
    subst e
    exact (one w).mp ((flat w).mpr fun d s hs => of_decide_eq_true (z (d, w, s) hs)) t ht
  · rintro z ⟨d, w, s⟩ hq
    have := (flat w).mp ((one w).mpr fun t ht => z (w, t) (List.mem_flatMap.mpr ⟨w, List.mem_range.mpr (hK.w _ hq), List.mem_map.mpr ⟨t, ht, rfl⟩⟩)) d s hq
    exact decide_eq_true this
theorem prts_cover (hU : DueOk p D U) (hK : LooksOk p D K) {x : Nat × Nat} (hx : x ∈ U) : inAny ((prts U p D K).map ptOf) x = true := by
  obtain ⟨t, ht, h1, h2⟩ := strs_cover (cd := fun a b => cnW x.2 a b U) _ 0 0 (hK.seen x.2) (fun _ _ => Nat.zero_le _) x.1 (Nat.zero_le _) (hU.d x hx)
  refine List.any_eq_true.mpr ⟨ptOf (x.2, t), List.mem_map.mpr ⟨(x.2, t), List.mem_flatMap.mpr ⟨x.2, List.mem_range.mpr (hU.w x hx), List.mem_map.mpr ⟨t, ht, rfl⟩⟩, rfl⟩, ?_⟩
  show (decide (x.2 = x.2) && (decide (t.1 ≤ x.1) && decide (x.1 < t.2.1))) = true
  simp [h1, h2]
theorem prts_apart (hK : LooksOk p D K) : (prts U p D K).Pairwise fun a b => ∀ x, ¬ (qOf a x = true ∧ qOf b x = true) := by
  unfold prts
  have go : ∀ ws : List Nat, ws.Nodup → (ws.flatMap fun w => (stW U D K w).map fun t => (w, t)).Pairwise fun a b => ∀ x, ¬ (qOf a x = true ∧ qOf b x = true) := by
    intro ws
    induction ws with
    | nil => intro _; exact .nil
    | cons w ws ih =>
      intro nd
      rw [List.flatMap_cons]
      refine List.pairwise_append.mpr ⟨?_, ih (List.nodup_cons.mp nd).2, fun a ha b hb x hx => ?_⟩
      · rw [List.pairwise_map]
        refine (strs_apart (cd := fun a b => cnW w a b U) _ 0 0 (hK.seen w) (fun _ _ => Nat.zero_le _)).imp fun {a b} h x hx => ?_
        unfold qOf at hx
        simp only [Bool.and_eq_true, decide_eq_true_eq] at hx
        exact h x.1 ⟨hx.1.2, hx.2.2⟩
      · obtain ⟨t, _, e⟩ := List.mem_map.mp ha
        obtain ⟨v, hv, hb⟩ := List.mem_flatMap.mp hb
        obtain ⟨u, _, e2⟩ := List.mem_map.mp hb
        subst e e2
        unfold qOf at hx
        simp only [Bool.and_eq_true, decide_eq_true_eq] at hx
        have : w = v := by rw [← hx.1.1, ← hx.2.1]
        exact (List.nodup_cons.mp nd).1 (this ▸ hv)
  exact go _ List.nodup_range
/-! ### all parts together -/
def numsOf (U : List (Nat × Nat)) (p D : Nat) (K : List Lk3) (M N : List (Nat × Nat)) : List (Nat × Nat × Option Bool) := (prts U p D K).map fun x => (goneN M (U.filter (qOf x)), freeN M N (U.filter (qOf x)), x.2.2.2)
def polyL (l : List (Nat × Nat × Option Bool)) : Nat → Nat := l.foldl (fun f t => conv f (pp t.1 t.2.1 t.2.2)) (fun j => if j = 0 then 1 else 0)
def costL : List (Nat × Nat × Option Bool) → Option Nat
  | [] => some 0
  | t :: l => match leadP t.1 t.2.1 t.2.2 with
    | none => none
    | some k => (costL l).map (k + ·)
def cntMN (U : List (Nat × Nat)) (K : List Lk3) (M N : List (Nat × Nat)) (j : Nat) : Nat := (lots U).countP fun L => (okMN M N U L && unb U K L) && decide (L.length = j)
theorem cnt_all (hU : DueOk p D U) (hK : LooksOk p D K) {M N : List (Nat × Nat)} (hMN : ∀ x ∈ M, x ∉ N) : cntMN U K M N = polyL (numsOf U p D K M N) := by
  have go : ∀ (l : List (Nat × Str3)) (pre : List (Nat × Str3)), (pre ++ l).Pairwise (fun a b => ∀ x, ¬ (qOf a x = true ∧ qOf b x = true)) →
      cntP M N U ((pre ++ l).map ptOf) = (l.map fun x => (goneN M (U.filter (qOf x)), freeN M N (U.filter (qOf x)), x.2.2.2)).foldl (fun f t => conv f (pp t.1 t.2.1 t.2.2)) (cntP M N U (pre.map ptOf)) := by
    intro l
    induction l with
    | nil => intro pre _; rw [List.append_nil]; rfl
    | cons x l ih =>
      intro pre hp
      have e := ih (pre ++ [x]) (by rw [List.append_assoc]; exact hp)
      rw [List.append_assoc] at e
      rw [show pre ++ x :: l = pre ++ ([x] ++ l) from rfl, e]
      rw [List.map_cons, List.foldl_cons]
      congr 1
      funext j
      rw [List.map_append, List.map_singleton, cntP_snoc]
      · congr 1
        funext i
        exact partP_eq hU.nd hMN (qOf x) x.2.2.2 i
      · intro y hy h
        obtain ⟨t, ht, hty⟩ := List.any_eq_true.mp h
        obtain ⟨z, hz, rfl⟩ := List.mem_map.mp ht
        have := (List.pairwise_append.mp hp).2.2 z hz x (by simp) y
        cases hq : (ptOf x).1 y with
        | false => rfl
        | true => exact absurd ⟨hty, hq⟩ this
  have e := go (prts U p D K) [] (by simpa using prts_apart hK)
  rw [List.nil_append] at e
  unfold polyL numsOf
  have e0 : cntP M N U (([] : List (Nat × Str3)).map ptOf) = fun j => if j = 0 then 1 else 0 := funext fun j => cntP_nil M N U j
  rw [e0] at e
  rw [← e]
  funext j
  unfold cntMN cntP
  have ef : U.filter (inAny ((prts U p D K).map ptOf)) = U := List.filter_eq_self.mpr fun x hx => prts_cover hU hK hx
  rw [ef]
  apply List.countP_congr
  intro L hL
  rw [unb_parts hU hK (mem_lots.mp hL), List.all_map]
  rfl
theorem lead_go : ∀ (l : List (Nat × Nat × Option Bool)) (f : Nat → Nat) (c : Nat), Lead f c →
    (∀ k, costL l = some k → Lead (l.foldl (fun f t => conv f (pp t.1 t.2.1 t.2.2)) f) (c + k)) ∧ (costL l = none → ∀ j, l.foldl (fun f t => conv f (pp t.1 t.2.1 t.2.2)) f j = 0)
  | [], f, c, h => ⟨fun k hk => by cases hk; exact h, fun z => nomatch z⟩
  | t :: l, f, c, h => by
    rw [List.foldl_cons]
    unfold costL
    cases ht : leadP t.1 t.2.1 t.2.2 with
    | none =>
      dsimp only
      refine ⟨fun k hk => (nomatch hk), fun _ => ?_⟩
      have z : ∀ j, conv f (pp t.1 t.2.1 t.2.2) j = 0 := fun j => conv_none (.inr (leadP_ok.2 ht)) j
      have stay : ∀ (l : List (Nat × Nat × Option Bool)) (g : Nat → Nat), (∀ j, g j = 0) → ∀ j, l.foldl (fun f t => conv f (pp t.1 t.2.1 t.2.2)) g j = 0 := by
        intro l
        induction l with
        | nil => intro g hg; exact hg
        | cons t l ih => intro g hg; exact ih _ fun j => conv_none (.inl hg) j
      exact stay l _ z
    | some a =>
      dsimp only
      have := lead_go l _ (c + a) (conv_lead h (leadP_ok.1 a ht))
      refine ⟨fun k hk => ?_, fun hn => ?_⟩
      · cases hc : costL l with
        | none => rw [hc] at hk; cases hk
        | some b =>
          rw [hc] at hk
          cases hk
          have := this.1 b hc
          rw [Nat.add_assoc] at this
          exact this
      · cases hc : costL l with
        | none => exact this.2 hc
        | some b => rw [hc] at hn; cases hn
theorem cost_lead (l : List (Nat × Nat × Option Bool)) : (∀ k, costL l = some k → Lead (polyL l) k) ∧ (costL l = none → ∀ j, polyL l j = 0) := by
  have := lead_go l (fun j => if j = 0 then 1 else 0) 0 ⟨by simp, fun i hi => by omega⟩
  refine ⟨fun k hk => ?_, this.2⟩
  have := this.1 k hk
  rw [Nat.zero_add] at this
  exact this
end
end Dl
namespace Dl
open PySem PySem.Spec PyProof.Rows L2
variable {p : Nat} {rs : List Rw} {D b : Nat} {L : List Lk}
theorem chain_nat {ma mb mc : Mi Dt} {ρ : En} {x y z : Nat} (ha : ma ρ = .ok (nD x) ρ) (hb : mb ρ = .ok (nD y) ρ) (hc : mc ρ = .ok (nD z) ρ) : mB (mChain fLe fLt ma mb mc) ρ = .ok (decide (x ≤ y) && decide (y < z)) ρ := by
  refine tb_ok ?_
  refine bind_ok ha (bind_ok hb ?_)
  rw [fLe_nat]
  by_cases h : x ≤ y
  · rw [decide_eq_true h]
    refine bind_ok (a := .bl true) (ρ1 := ρ) rfl ?_
    rw [Bool.true_and]
    refine bind_ok hc ?_
    rw [fLt_nat]; rfl
  · rw [decide_eq_false h]
    exact bind_ok (a := .bl false) (ρ1 := ρ) rfl rfl
def dayL (rs : List Rw) (D w : Nat) : List Nat := (List.range D).filter (isDue rs w)
theorem ixv {ρ : En} {i : Nat} {m : Mi Dt} {s : Sl} {d y z : Dt} (h1 : ρ[i]? = some (some s)) (h2 : m ρ = .ok y ρ) (h3 : mPeek i ρ = .ok d ρ) (h4 : fIx d y = some z) : hasSl i (mIxV i m) ρ = .ok z ρ := by
  unfold hasSl
  rw [h1]
  exact bind_ok h2 (bind_ok h3 (by rw [h4]; rfl))
end Dl
namespace Dl
open PySem PySem.Spec PyProof.Rows L2
variable {p : Nat} {rs : List Rw} {D b : Nat} {L : List Lk}
theorem due_w {w : Nat} (hw : w < p) : ((dueP p rs D).filter fun q => decide (q.2 = w)) = (dayL rs D w).map fun d => (d, w) := by
  unfold dayL
  rw [← pick_w D w hw, List.map_map]
  have : ∀ l : List (Nat × Nat), (∀ q ∈ l, q.2 = w) → l = l.map ((fun d => (d, w)) ∘ (·.1)) := fun l h => by
    induction l with
    | nil => rfl
    | cons q l ih =>
      rw [List.map_cons, ← ih fun x hx => h x (List.mem_cons_of_mem _ hx)]
      congr 1
      have := h q (by simp)
      show q = (q.1, w)
      rw [← this]
  exact this _ fun q hq => of_decide_eq_true (List.mem_filter.mp hq).2
end Dl
namespace Dl
open PySem PySem.Spec PyProof.Rows L2
variable {p : Nat} {rs : List Rw} {D b : Nat} {L : List Lk}
def nO : Option Nat → Dt
  | none => .non
  | some k => nD k
def isE (g : Nat) (o : Option Bool) : Bool := match o with
  | none => true
  | some o => decide (g % 2 = 1) == o
theorem leadP_isE (g f : Nat) (o : Option Bool) : leadP g f o = if isE g o = true then some g else if f = 0 then none else some (g + 1) := by
  unfold leadP isE
  cases o with
  | none => simp
  | some o =>
    by_cases h : o = decide (g % 2 = 1)
    · rw [if_pos (.inr (by rw [h])), if_pos (by rw [h]; simp)]
    · have h2 : (decide (g % 2 = 1) == o) = false := by
        cases hb : (decide (g % 2 = 1) == o) with
        | false => rfl
        | true => exact absurd (beq_iff_eq.mp hb).symm h
      rw [if_neg (fun z => z.elim (fun z => nomatch z) fun z => h (Option.some.inj z))]
      exact (if_neg (show ¬ (decide (g % 2 = 1) == o) = true by rw [h2]; simp)).symm
def canB (c : Option Nat) (b : Nat) : Bool := match c with
  | none => false
  | some k => decide (k ≤ b)
end Dl
namespace Dl
open PySem PySem.Spec PyProof.Rows L2
variable {p : Nat} {rs : List Rw} {D b : Nat} {K L : List Lk}
/-! ### turnings and looks as a season holds them -/
theorem due_ok : DueOk p D (dueP p rs D) := ⟨dueP_nodup D, fun x hx => (mem_dueP.mp hx).1, fun x hx => (mem_dueP.mp hx).2.1⟩
def lt3 (a c : Lk) : Prop := a.1 < c.1 ∨ (a.1 = c.1 ∧ (a.2.1 < c.2.1 ∨ (a.2.1 = c.2.1 ∧ a.2.2 < c.2.2)))
theorem allLk_asc (p D : Nat) : (allLk p D).Pairwise lt3 := by
  unfold allLk
  rw [List.pairwise_flatMap]
  refine ⟨fun d _ => ?_, List.pairwise_lt_range.imp fun {a c} h x hx y hy => ?_⟩
  · rw [List.pairwise_flatMap]
    refine ⟨fun w _ => ?_, List.pairwise_lt_range.imp fun {a c} h x hx y hy => ?_⟩
    · rw [List.pairwise_flatMap]
      refine ⟨fun s _ => List.pairwise_singleton _ _, List.pairwise_lt_range.imp fun {a c} h x hx y hy => ?_⟩
      rw [List.mem_singleton.mp hx, List.mem_singleton.mp hy]
      exact .inr ⟨rfl, .inr ⟨rfl, h⟩⟩
    · obtain ⟨s, _, hx⟩ := List.mem_flatMap.mp hx
      obtain ⟨t, _, hy⟩ := List.mem_flatMap.mp hy
      rw [List.mem_singleton.mp hx, List.mem_singleton.mp hy]
      exact .inr ⟨rfl, .inl h⟩
  · obtain ⟨u, _, hx⟩ := List.mem_flatMap.mp hx
    obtain ⟨s, _, hx⟩ := List.mem_flatMap.mp hx
    obtain ⟨v, _, hy⟩ := List.mem_flatMap.mp hy
    obtain ⟨t, _, hy⟩ := List.mem_flatMap.mp hy
    rw [List.mem_singleton.mp hx, List.mem_singleton.mp hy]
    exact .inl h
theorem lks_ok (K : List Lk) : LooksOk p D (lksOf p D K) := by
  refine ⟨fun w => ?_, fun q hq => ?_, fun q hq => ?_, fun q hq => ?_⟩
  · unfold lkW
    rw [List.pairwise_map]
    have h1 : (lksOf p D K).Pairwise lt3 := (allLk_asc p D).filter _
    refine (h1.filter _).imp_of_mem fun {a c} ha hc h => ?_
    have e1 : a.2.1 = w := of_decide_eq_true (List.mem_filter.mp ha).2
    have e2 : c.2.1 = w := of_decide_eq_true (List.mem_filter.mp hc).2
    unfold lt3 at h
    unfold ltP
    dsimp only
    omega
  · exact (mem_allLk.mp (List.mem_filter.mp hq).1).1
  · exact (mem_allLk.mp (List.mem_filter.mp hq).1).2.1
  · exact (mem_allLk.mp (List.mem_filter.mp hq).1).2.2
/-! ### what fits -/
abbrev Pr := Nat × Nat
theorem side_sd (M : List Pr) {w : Nat} (hw : w < p) (d : Nat) : sdU (dueP p rs D) M w d = sideN rs D M d w := by
  unfold sdU sideN madeL
  rw [← List.countP_eq_length_filter]
  congr 1
  rw [show ((List.range D).filter (isDue rs w)) = dayL rs D w from rfl]
  have h := due_w (p := p) (rs := rs) (D := D) hw
  have e : (dueP p rs D).countP (fun x => decide (x.2 = w) && (decide (x.1 < d) && !decide (x ∈ M))) = ((dueP p rs D).filter fun q => decide (q.2 = w)).countP fun x => decide (x.1 < d) && !decide (x ∈ M) := by
    rw [List.countP_filter]
    apply List.countP_congr
    intro x _
    simp only [Bool.and_eq_true]
    exact ⟨fun z => ⟨z.2, z.1⟩, fun z => ⟨z.2, z.1⟩⟩
  rw [e, h, List.countP_map]
  rfl
def unK (rs : List Rw) (D : Nat) (K : List Lk) (M : List Pr) : Bool := K.all fun q => decide (sideN rs D M q.1 q.2.1 = q.2.2)
theorem unb_un (hK : ∀ q ∈ K, q.2.1 < p) (M : List Pr) : unb (dueP p rs D) K M = unK rs D K M := by
  unfold unb unK
  rw [Bool.eq_iff_iff, List.all_eq_true, List.all_eq_true]
  exact ⟨fun h q hq => by rw [← side_sd M (hK q hq)]; exact h q hq, fun h q hq => by rw [side_sd M (hK q hq)]; exact h q hq⟩
theorem unK_lks (hK : ∀ q ∈ K, GoodLk p D q) (M : List Pr) : unK rs D (lksOf p D K) M = unK rs D K M := by
  unfold unK
  rw [Bool.eq_iff_iff, List.all_eq_true, List.all_eq_true]
  exact ⟨fun h q hq => h q (mem_lks hq (hK q hq)), fun h q hq => h q (lks_mem hq)⟩
/-- all lots that fit, ascending -/
def fitL (p : Nat) (rs : List Rw) (D b : Nat) (K : List Lk) : List (List Pr) := (lots (dueP p rs D)).filter fun M => unK rs D K M && decide (M.length ≤ b)
theorem mem_fitL {M : List Pr} : M ∈ fitL p rs D b K ↔ M.Sublist (dueP p rs D) ∧ unK rs D K M = true ∧ M.length ≤ b := by
  unfold fitL
  rw [List.mem_filter, mem_lots, Bool.and_eq_true, decide_eq_true_eq]
/-- a season whose looks come of K -/
structure Sn (p : Nat) (rs : List Rw) (D b : Nat) (K : List Lk) : Prop where
  good : Good p rs
  rl : rs.length < 1000
  hp : p < 100
  D0 : 0 < D
  hD : D ≤ 60
  hb : b < 1000
  hK : ∀ q ∈ K, GoodLk p D q
  kl : K.length < 900
theorem Sn.un (h : Sn p rs D b K) (M : List Pr) : unb (dueP p rs D) (lksOf p D K) M = unK rs D K M := by
  rw [unb_un (fun q hq => (lks_good K q hq).w), unK_lks h.hK]
/-- the lots that fit, with some missed and some made -/
def wMN (p : Nat) (rs : List Rw) (D b : Nat) (K : List Lk) (M N : List Pr) : Nat := (fitL p rs D b K).countP (okMN M N (dueP p rs D))
theorem poly_cnt (h : Sn p rs D b K) {M N : List Pr} (hMN : ∀ x ∈ M, x ∉ N) (j : Nat) : polyL (numsOf (dueP p rs D) p D (lksOf p D K) M N) j = (lots (dueP p rs D)).countP fun x => (okMN M N (dueP p rs D) x && unK rs D K x) && decide (x.length = j) := by
  rw [← cnt_all due_ok (lks_ok K) hMN]
  unfold cntMN
  apply List.countP_congr
  intro x _
  rw [h.un]
theorem cost_min (h : Sn p rs D b K) {M N : List Pr} (hMN : ∀ x ∈ M, x ∉ N) :
    (∀ k, costL (numsOf (dueP p rs D) p D (lksOf p D K) M N) = some k → (∃ x, x.Sublist (dueP p rs D) ∧ okMN M N (dueP p rs D) x = true ∧ unK rs D K x = true ∧ x.length = k) ∧ ∀ x, x.Sublist (dueP p rs D) → okMN M N (dueP p rs D) x = true → unK rs D K x = true → k ≤ x.length) ∧
    (costL (numsOf (dueP p rs D) p D (lksOf p D K) M N) = none → ∀ x, x.Sublist (dueP p rs D) → okMN M N (dueP p rs D) x = true → unK rs D K x = false) := by
  obtain ⟨c1, c2⟩ := cost_lead (numsOf (dueP p rs D) p D (lksOf p D K) M N)
  refine ⟨fun k hk => ?_, fun hn x hx ho => ?_⟩
  · obtain ⟨h1, h2⟩ := c1 k hk
    rw [poly_cnt h hMN] at h1
    obtain ⟨x, hx, hP⟩ := List.countP_pos_iff.mp h1
    simp only [Bool.and_eq_true, decide_eq_true_eq] at hP
    refine ⟨⟨x, mem_lots.mp hx, hP.1.1, hP.1.2, hP.2⟩, fun y hy ho hu => ?_⟩
    rcases Nat.lt_or_ge y.length k with hlt | hge
    · have := h2 y.length hlt
      rw [poly_cnt h hMN, List.countP_eq_zero] at this
      exact absurd (show ((okMN M N (dueP p rs D) y && unK rs D K y) && decide (y.length = y.length)) = true by rw [ho, hu]; simp) (this y (mem_lots.mpr hy))
    · exact hge
  · have := c2 hn x.length
    rw [poly_cnt h hMN, List.countP_eq_zero] at this
    have := this x (mem_lots.mpr hx)
    rw [ho] at this
    simpa using this
theorem can_w (h : Sn p rs D b K) {M N : List Pr} (hMN : ∀ x ∈ M, x ∉ N) : canB (costL (numsOf (dueP p rs D) p D (lksOf p D K) M N)) b = decide (0 < wMN p rs D b K M N) := by
  obtain ⟨c1, c2⟩ := cost_min h hMN
  rw [Bool.eq_iff_iff, decide_eq_true_eq]
  unfold wMN
  rw [List.countP_pos_iff]
  cases hc : costL (numsOf (dueP p rs D) p D (lksOf p D K) M N) with
  | none =>
    refine ⟨fun z => (by cases z), fun ⟨x, hx, ho⟩ => ?_⟩
    obtain ⟨h1, h2, h3⟩ := mem_fitL.mp hx
    rw [c2 hc x h1 ho] at h2
    cases h2
  | some k =>
    obtain ⟨⟨x, x1, x2, x3, x4⟩, hmin⟩ := c1 k hc
    show decide (k ≤ b) = true ↔ _
    rw [decide_eq_true_eq]
    refine ⟨fun hk => ⟨x, mem_fitL.mpr ⟨x1, x3, by omega⟩, x2⟩, fun ⟨y, hy, ho⟩ => ?_⟩
    obtain ⟨h1, h2, h3⟩ := mem_fitL.mp hy
    have := hmin y h1 ho h2
    omega
end Dl
namespace Dl
open PySem PySem.Spec PyProof.Rows L2
variable {p : Nat} {rs : List Rw} {D b : Nat} {K L : List Lk}
def sideO (l : List Nat) : Dt := match l with
  | [s] => nD s
  | _ => .non
end Dl
namespace Dl
open PySem PySem.Spec PyProof.Rows L2
/-! ### == [] and != [] -/
/-! ### draws of a deal -/
def dlD (q : List Int × Int) : Dt := .deal q.1 q.2
abbrev Dq := { q : List Int × Int // q.1.length < 900 }
end Dl
namespace Dl
open PySem PySem.Spec PyProof.Rows L2
variable {p : Nat} {rs : List Rw} {D b : Nat} {K : List Lk}
theorem feq_nat (a b : Nat) : fEq (nD a) (nD b) = some (.bl (decide (a = b))) := (feq_int _ _).trans (by congr 2; exact decide_eq_decide.mpr (by omega))
/-! ### the side by the law -/
/-! ### drawn looks -/
/-! ### a season told -/
structure Told (most p : Nat) (rs : List Rw) (D b : Nat) (K : List Lk) : Prop where
  good : Good p rs
  p0 : 0 < p
  p3 : p ≤ 3
  l3 : rs.length ≤ 3
  D0 : 0 < D
  D6 : D ≤ 6
  b9 : b ≤ 18
  hK : ∀ x ∈ K, GoodLk p D x
  k5 : K.length ≤ 4
  due : (dueP p rs D).length ≤ max 3 most
def tC : Mi Bool := mAnd (mB (m2 fGt (m1 fLen (mCall 2 m_law_due (mCons (mVar 2) (mCons (mVar 3) (mPure []))))) (mPeek 1))) (mB (m2 fGt (mVar 3) (mPure (.int 1))))
end Dl
namespace Dl
open PySem PySem.Spec PyProof.Rows L2
variable {p : Nat} {rs : List Rw} {D b : Nat} {K : List Lk} {most : Nat}
theorem Told.n0 (h : Told most p rs D b K) : 0 < rs.length := h.good.n0
abbrev cstO (p : Nat) (rs : List Rw) (D : Nat) (K : List Lk) : Option Nat := costL (numsOf (dueP p rs D) p D (lksOf p D K) [] [])
def oDq : Option Dq → Option Sl
  | none => none
  | some q => ow (dlD q.1)
theorem no_flt {k : Nat} (o : Option Nat) : Flt k (nO o) := by cases o with
  | none => exact .non
  | some n => exact .int _
end Dl
namespace Dl
open PySem PySem.Spec PyProof.Rows L2
variable {p : Nat} {rs : List Rw} {D b : Nat} {K : List Lk} {most : Nat}
/-! ### whether a turning was missed -/
def anM (F : List (List Pr)) (x : Pr) : Bool := F.any fun M => decide (x ∈ M)
def anN (F : List (List Pr)) (x : Pr) : Bool := F.any fun M => !decide (x ∈ M)
theorem ok_m {U : List Pr} {x : Pr} (hx : x ∈ U) (M : List Pr) : okMN [x] [] U M = decide (x ∈ M) := by
  rw [Bool.eq_iff_iff, okMN_iff, decide_eq_true_eq]
  exact ⟨fun h => (h x hx).1 (by simp), fun h y _ => ⟨fun z => by rw [List.mem_singleton.mp z]; exact h, fun z => by cases z⟩⟩
theorem ok_n {U : List Pr} {x : Pr} (hx : x ∈ U) (M : List Pr) : okMN [] [x] U M = !decide (x ∈ M) := by
  rw [Bool.eq_iff_iff, okMN_iff]
  simp only [Bool.not_eq_true', decide_eq_false_iff_not]
  exact ⟨fun h => (h x hx).2 (by simp), fun h y _ => ⟨(fun z => by cases z), (fun z => by rw [List.mem_singleton.mp z]; exact h)⟩⟩
theorem pos_any {F : List (List Pr)} {f : List Pr → Bool} : decide (0 < F.countP f) = F.any f := by
  rw [Bool.eq_iff_iff, decide_eq_true_eq, List.countP_pos_iff, List.any_eq_true]
/-! ### sides shown -/
end Dl
namespace Dl
open PySem PySem.Spec PyProof.Rows L2
/-! ### steps that leave the slots as they are -/
section
variable {ρ ρ1 ρ2 : En} {i j n : Nat} {m ma mb : Mi Dt} {ms : Mi (List Dt)} {d r x y z : Dt} {ds : List Dt} {f : List Dt → Fo} {s : Option Dt} {t : Sl} {io0 : Bool}
theorem sl_lv (h : ρ[i]? = some (lv s)) : setSl i t ρ = some (ρ.set i (some t)) := by unfold setSl; rw [h]; cases s <;> rfl
theorem sl_vl (h : ρ[i]? = some (some (.val d))) : setSl i t ρ = some (ρ.set i (some t)) := by unfold setSl; rw [h]
theorem sl_ow (h : ρ[i]? = some (some (.own false d))) : setSl i t ρ = some (ρ.set i (some t)) := by unfold setSl; rw [h]
theorem sl_no (h : ρ[i]? = some none) : setSl i t ρ = some (ρ.set i (some t)) := by unfold setSl; rw [h]
end
end Dl
namespace Dl
open PySem PySem.Spec PyProof.Rows L2
/-! ### what the step words lean on -/
section
variable {α : Type} {ρ ρ1 ρ2 ρ3 : En} {i j n : Nat} {m ma mb : Mi Dt} {ms : Mi (List Dt)} {d r x y z : Dt} {ds : List Dt} {f : List Dt → Fo} {s : Option Dt} {t : Sl} {io0 : Bool} {c : Mi Bool} {a b : Nat}
theorem var_ok (h : ρ[i]? = some (some (.val d))) : mVar i ρ = .ok d ρ := by unfold mVar; rw [h]
theorem peek_ok (h : ρ[i]? = some (some (.val d))) : mPeek i ρ = .ok d ρ := by unfold mPeek; rw [h]
theorem peek_ow (h : ρ[i]? = some (some (.own io0 d))) : mPeek i ρ = .ok d ρ := by unfold mPeek; rw [h]
theorem pure_ok {a : α} : mPure a ρ = .ok a ρ := rfl
theorem lit_ok {k : Nat} : mPure (Dt.int (OfNat.ofNat k : Int)) ρ = .ok (nD (OfNat.ofNat k)) ρ := rfl
theorem chain_ge {ma mb mc : Mi Dt} {ρ : En} {x y z : Nat} (ha : ma ρ = .ok (nD x) ρ) (hb : mb ρ = .ok (nD y) ρ) (hc : mc ρ = .ok (nD z) ρ) : mB (mChain fGe fGe ma mb mc) ρ = .ok (decide (y ≤ x) && decide (z ≤ y)) ρ := by
  refine tb_ok ?_
  refine bind_ok ha (bind_ok hb ?_)
  rw [ge_nat]
  by_cases h : y ≤ x
  · rw [decide_eq_true h]
    refine bind_ok (a := .bl true) (ρ1 := ρ) rfl ?_
    rw [Bool.true_and]
    refine bind_ok hc ?_
    rw [ge_nat]; rfl
  · rw [decide_eq_false h]
    exact bind_ok (a := .bl false) (ρ1 := ρ) rfl rfl
theorem chain_ge_t {ma mb mc : Mi Dt} {x y z : Nat} (ha : ma ρ = .ok (nD x) ρ) (hb : mb ρ = .ok (nD y) ρ) (hc : mc ρ = .ok (nD z) ρ) (h1 : y ≤ x) (h2 : z ≤ y) : mB (mChain fGe fGe ma mb mc) ρ = .ok true ρ := by
  rw [chain_ge ha hb hc, decide_eq_true h1, decide_eq_true h2]; rfl
theorem chainT {ma mb mc : Mi Dt} {x y z : Nat} (ha : ma ρ = .ok (nD x) ρ) (hb : mb ρ = .ok (nD y) ρ) (hc : mc ρ = .ok (nD z) ρ) (h1 : x ≤ y) (h2 : y < z) : mB (mChain fLe fLt ma mb mc) ρ = .ok true ρ := by
  rw [chain_nat ha hb hc, decide_eq_true h1, decide_eq_true h2]; rfl
theorem callQ' (h : ms ρ = .ok ds ρ1) (hn : ds.length = n) (hf : f ds = .ret d r) : mCall n f ms ρ = .ok d ρ1 := call_ok h hn hf
theorem methQ {c : Nat} {S : Dt} (hm : m ρ = .ok S ρ1) (h : ms ρ1 = .ok ds ρ2) (hn : ds.length + 1 = n) (hf : f (S :: ds) = .ret d r) (hS : ∃ vs, S = .ins c vs) : mMeth c n f m ms ρ = .ok d ρ2 := by
  obtain ⟨vs, rfl⟩ := hS
  exact meth_ok hm h hn hf
theorem callJ {io1 : Bool} (h0 : ρ[i]? = some (some (.own io0 x))) (h : ms ρ = .ok ds ρ1) (h1 : ρ1[i]? = some (some (.own io1 y))) (hn : ds.length + 1 = n) (hf : f (y :: ds) = .ret d r) : mCallIo n f i ms ρ = .ok d (ρ1.set i (some (.own io1 r))) := callIo_ok h0 h h1 hn hf rfl
theorem not_f (h : c ρ = .ok true ρ1) : mNot c ρ = .ok false ρ1 := not_ok h
theorem not_t (h : c ρ = .ok false ρ1) : mNot c ρ = .ok true ρ1 := not_ok h
theorem ixv' {s : Sl} (h1 : ρ[i]? = some (some s)) (h2 : m ρ = .ok y ρ) (h3 : mPeek i ρ = .ok d ρ) (h4 : fIx d y = some z) : hasSl i (mIxV i m) ρ = .ok z ρ := ixv h1 h2 h3 h4
theorem pars2_ok (h : ms ρ = .ok [x, y] ρ1) (k1 : setSl i (.val x) ρ1 = some ρ2) (k2 : setSl j (.val y) ρ2 = some ρ3) : sPars [i, j] [false, false] ms ρ = .nx ρ3 := pars_ok h (by show (setSl i (.val x) ρ1).bind _ = _; rw [k1]; show (setSl j (.val y) ρ2).bind _ = _; rw [k2]; rfl)
theorem lt_f (h : ¬ a < b) : fLt (nD a) (nD b) = some (.bl false) := by rw [fLt_nat, decide_eq_false h]
theorem lt_t (h : a < b) : fLt (nD a) (nD b) = some (.bl true) := by rw [fLt_nat, decide_eq_true h]
theorem le_f (h : ¬ a ≤ b) : fLe (nD a) (nD b) = some (.bl false) := by rw [fLe_nat, decide_eq_false h]
theorem le_t (h : a ≤ b) : fLe (nD a) (nD b) = some (.bl true) := by rw [fLe_nat, decide_eq_true h]
theorem gt_f (h : ¬ b < a) : fGt (nD a) (nD b) = some (.bl false) := by rw [gt_nat, decide_eq_false h]
theorem gt_t (h : b < a) : fGt (nD a) (nD b) = some (.bl true) := by rw [gt_nat, decide_eq_true h]
theorem ge_f (h : ¬ b ≤ a) : fGe (nD a) (nD b) = some (.bl false) := by rw [ge_nat, decide_eq_false h]
theorem ge_t (h : b ≤ a) : fGe (nD a) (nD b) = some (.bl true) := by rw [ge_nat, decide_eq_true h]
theorem eq_f (h : ¬ a = b) : fEq (nD a) (nD b) = some (.bl false) := by rw [feq_nat, decide_eq_false h]
theorem eq_t (h : a = b) : fEq (nD a) (nD b) = some (.bl true) := by rw [feq_nat, decide_eq_true h]
theorem ne_f (h : a = b) : fNe (nD a) (nD b) = some (.bl false) := by rw [fne_nat, decide_eq_true h]; rfl
theorem ne_t (h : ¬ a = b) : fNe (nD a) (nD b) = some (.bl true) := by rw [fne_nat, decide_eq_false h]; rfl
theorem flt_tup_nats {k : Nat} (l : List Nat) : Flt (k + 1) (.tup (l.map nD)) := .tup (flt_nats l)
theorem flt_lst_nats {k : Nat} (l : List Nat) : Flt (k + 1) (.lst (l.map nD)) := .lst (flt_nats l)
theorem flt_side {k : Nat} (l : List Nat) : Flt k (sideO l) := by
  unfold sideO
  split
  · exact .int _
  · exact .non
theorem sl_dq {ρ : En} {i : Nat} {q : Option Dq} {t : Sl} (h : ρ[i]? = some (oDq q)) : setSl i t ρ = some (ρ.set i (some t)) := by unfold setSl; rw [h]; cases q <;> rfl
end
end Dl
namespace Dl
open PySem PySem.Spec PyProof.Rows L2
/-! ### one mirror says what another one says, where that one comes through -/
def RM {α : Type} (m m' : Mi α) : Prop := ∀ ρ, m ρ ≠ .bad → m' ρ = m ρ
def RS (s s' : En → So) : Prop := ∀ ρ, s ρ ≠ .bad → s' ρ = s ρ
def RF (f f' : List Dt → Fo) : Prop := ∀ ds, f ds ≠ .bad → f' ds = f ds
theorem RF.ret {f f' : List Dt → Fo} (h : RF f f') {ds : List Dt} {d r : Dt} (e : f ds = .ret d r) : f' ds = .ret d r := by rw [h ds (by rw [e]; exact fun z => nomatch z)]; exact e
theorem RF.exc {f f' : List Dt → Fo} (h : RF f f') {ds : List Dt} {x : Ex} {r : Dt} (e : f ds = .exc x r) : f' ds = .exc x r := by rw [h ds (by rw [e]; exact fun z => nomatch z)]; exact e
section
variable {α β : Type} {m m' ma ma' mb mb' mc mc' : Mi Dt} {ms ms' : Mi (List Dt)} {t t' u u' : Mi Bool} {s s' v v' : En → So} {f f' : List Dt → Fo} {i n c : Nat}
theorem rm_refl (m : Mi α) : RM m m := fun _ _ => rfl
theorem rs_refl (s : En → So) : RS s s := fun _ _ => rfl
theorem rf_refl (f : List Dt → Fo) : RF f f := fun _ _ => rfl
theorem rm_bind {k k' : α → Mi β} {x x' : Mi α} (h : RM x x') (hk : ∀ a, RM (k a) (k' a)) : RM (mBind x k) (mBind x' k') := fun ρ e => by
  unfold mBind at e ⊢
  cases q : x ρ with
  | ok a ρ1 => rw [q] at e; rw [h ρ (by rw [q]; exact fun z => nomatch z), q]; exact hk a ρ1 e
  | exc y ρ1 => rw [h ρ (by rw [q]; exact fun z => nomatch z), q]
  | bad => rw [q] at e; exact absurd rfl e
theorem rm_m1 {g : Dt → Option Dt} (h : RM m m') : RM (m1 g m) (m1 g m') := rm_bind h fun _ => rm_refl _
theorem rm_m1g {g g' : Dt → Option Dt} (hg : ∀ d z, g d = some z → g' d = some z) (h : RM m m') : RM (m1 g m) (m1 g' m') := rm_bind h fun d ρ e => by
  cases q : g d with
  | none => rw [q] at e; exact absurd rfl e
  | some z => rw [hg d z q]
theorem fisi_o {n : Ty5} (d z : Dt) (h : fIsi n d = some z) : fIsiO n d = some z := by
  unfold fIsi at h
  cases q : isD n d with
  | none => rw [q] at h; cases h
  | some b => rw [q] at h; unfold fIsiO; rw [isDO_of q]; exact h
theorem fisi2_o {n n' : Ty5} (d z : Dt) (h : fIsi2 n n' d = some z) : fIsi2O n n' d = some z := by
  unfold fIsi2 at h
  cases q : isD n d with
  | none => rw [q] at h; cases h
  | some b =>
    cases q2 : isD n' d with
    | none => rw [q, q2] at h; cases h
    | some b2 => rw [q, q2] at h; unfold fIsi2O; rw [isDO_of q, isDO_of q2]; exact h
theorem rm_isi {k : Ty5} (h : RM m m') : RM (m1 (fIsi k) m) (m1 (fIsiO k) m') := rm_m1g fisi_o h
theorem rm_isi2 {k l : Ty5} (h : RM m m') : RM (m1 (fIsi2 k l) m) (m1 (fIsi2O k l) m') := rm_m1g fisi2_o h
theorem rm_m2 {g : Dt → Dt → Option Dt} (h : RM ma ma') (k : RM mb mb') : RM (m2 g ma mb) (m2 g ma' mb') := rm_bind h fun _ => rm_bind k fun _ => rm_refl _
theorem rm_B (h : RM m m') : RM (mB m) (mB m') := rm_bind h fun _ => rm_refl _
theorem rm_not (h : RM t t') : RM (mNot t) (mNot t') := rm_bind h fun _ => rm_refl _
theorem rm_and (h : RM t t') (k : RM u u') : RM (mAnd t u) (mAnd t' u') := rm_bind h fun b => match b with | true => k | false => rm_refl _
theorem rm_or (h : RM t t') (k : RM u u') : RM (mOr t u) (mOr t' u') := rm_bind h fun b => match b with | true => rm_refl _ | false => k
theorem rm_andV (h : RM ma ma') (k : RM mb mb') : RM (mAndV ma mb) (mAndV ma' mb') := rm_bind h fun d => by
  cases d with
  | bl b => cases b with | true => exact k | false => exact rm_refl _
  | _ => exact rm_refl _
theorem rm_orV (h : RM ma ma') (k : RM mb mb') : RM (mOrV ma mb) (mOrV ma' mb') := rm_bind h fun d => by
  cases d with
  | bl b => cases b with | false => exact k | true => exact rm_refl _
  | _ => exact rm_refl _
theorem rm_notV (h : RM m m') : RM (mNotV m) (mNotV m') := rm_bind h fun _ => rm_refl _
theorem rm_ifE (h : RM t t') (k : RM ma ma') (l : RM mb mb') : RM (mIfE t ma mb) (mIfE t' ma' mb') := rm_bind h fun b => match b with | true => k | false => l
theorem rm_cons (h : RM m m') (k : RM ms ms') : RM (mCons m ms) (mCons m' ms') := rm_bind h fun _ => rm_bind k fun _ => rm_refl _
theorem rm_star (h : RM m m') (k : RM ms ms') : RM (mStar m ms) (mStar m' ms') := rm_bind h fun d => by
  cases d with
  | lst xs => exact rm_bind k fun _ => rm_refl _
  | tup xs => exact rm_bind k fun _ => rm_refl _
  | _ => exact rm_refl _
theorem rm_tup (h : RM ms ms') : RM (mTup ms) (mTup ms') := rm_bind h fun _ => rm_refl _
theorem rm_lst (h : RM ms ms') : RM (mLst ms) (mLst ms') := rm_bind h fun _ => rm_refl _
theorem rm_call (hf : RF f f') (h : RM ms ms') : RM (mCall n f ms) (mCall n f' ms') := rm_bind h fun ds ρ e => by
  try dsimp only at e ⊢
  split at e
  · rename_i hl
    rw [if_pos hl, if_pos hl]
    cases q : f ds with
    | bad => rw [q] at e; exact absurd rfl e
    | _ => rw [hf ds (by rw [q]; exact fun z => nomatch z), q]
  · exact absurd rfl e
theorem rm_make (hf : RF f f') (h : RM ms ms') : RM (mMake c n f ms) (mMake c n f' ms') := rm_bind h fun ds ρ e => by
  try dsimp only at e ⊢
  split at e
  · rename_i hl
    rw [if_pos hl, if_pos hl]
    cases q : f (.ins c [] :: ds) with
    | bad => rw [q] at e; exact absurd rfl e
    | _ => rw [hf _ (by rw [q]; exact fun z => nomatch z), q]
  · exact absurd rfl e
theorem rm_meth (hf : RF f f') (h : RM m m') (k : RM ms ms') : RM (mMeth c n f m ms) (mMeth c n f' m' ms') := rm_bind h fun d => by
  cases d with
  | ins c' vs =>
    dsimp only
    split
    · refine rm_bind k fun ds ρ e => ?_
      try dsimp only at e ⊢
      split at e
      · rename_i hl
        rw [if_pos hl, if_pos hl]
        cases q : f (.ins c' vs :: ds) with
        | bad => rw [q] at e; exact absurd rfl e
        | _ => rw [hf _ (by rw [q]; exact fun z => nomatch z), q]
      · exact absurd rfl e
    · exact rm_refl _
  | _ => exact rm_refl _
theorem lcGo_ok {g : Dt → En → Option En} {vs : List Nat} (ht : RM t t') (he : RM m m') : ∀ (ds acc : List Dt) (ρ : En), lcGo g t m vs ds acc ρ ≠ .bad → lcGo g t' m' vs ds acc ρ = lcGo g t m vs ds acc ρ
  | [], _, _, _ => rfl
  | d :: ds, acc, ρ, e => by
    unfold lcGo at e ⊢
    cases q : g d ρ with
    | none => rfl
    | some ρ2 =>
      rw [q] at e
      dsimp only at e ⊢
      cases w : t ρ2 with
      | bad => rw [w] at e; exact absurd rfl e
      | exc x y => rw [w] at e; exact absurd rfl e
      | ok b ρ3 =>
        rw [w] at e
        rw [ht _ (by rw [w]; exact fun z => nomatch z), w]
        cases b with
        | false => exact lcGo_ok ht he ds acc _ e
        | true =>
          dsimp only at e ⊢
          cases z : m ρ3 with
          | bad => rw [z] at e; exact absurd rfl e
          | exc x y => rw [z] at e; exact absurd rfl e
          | ok y ρ4 =>
            rw [z] at e
            rw [he _ (by rw [z]; exact fun z => nomatch z), z]
            dsimp only at e ⊢
            split at e
            · rename_i hl
              rw [if_pos hl, if_pos hl]
              exact lcGo_ok ht he ds _ _ e
            · exact absurd rfl e
theorem rm_lc {g : Dt → En → Option En} {vs : List Nat} (h : RM ms ms') (ht : RM t t') (he : RM m m') : RM (mLc ms g t m vs) (mLc ms' g t' m' vs) := rm_bind h fun ds ρ e => by
  try dsimp only at e ⊢
  split at e
  · exact absurd rfl e
  · rename_i hn
    rw [if_neg hn, if_neg hn]
    cases q : lcGo g t m vs ds [] (wipeE ρ vs) with
    | bad => rw [q] at e; exact absurd rfl e
    | _ => rw [lcGo_ok ht he _ _ _ (by rw [q]; exact fun z => nomatch z), q]
theorem rm_seqI (h : RM m m') : RM (mSeqI m) (mSeqI m') := rm_bind h fun _ => rm_refl _
theorem rm_ix (h : RM m m') : RM (hasSl i (mIxV i m)) (hasSl i (mIxV i m')) := fun ρ e => by
  unfold hasSl at e ⊢
  split at e
  · exact rm_bind h (fun _ => rm_refl _) ρ e
  · exact absurd rfl e
theorem rm_own (h : RM m m') : RM (ownLst i m) (ownLst i m') := fun ρ e => by
  unfold ownLst at e ⊢
  split at e
  · exact h ρ e
  · exact absurd rfl e
theorem rm_append (h : RM m m') : RM (mAppend i m) (mAppend i m') := rm_bind h fun _ => rm_refl _
theorem rm_extend (h : RM m m') : RM (mExtend i m) (mExtend i m') := rm_bind h fun _ => rm_refl _
theorem sbind_ok {k k' : α → En → So} {x x' : Mi α} (h : RM x x') (hk : ∀ a, RS (k a) (k' a)) : RS (sBind x k) (sBind x' k') := fun ρ e => by
  unfold sBind at e ⊢
  cases q : x ρ with
  | ok a ρ1 => rw [q] at e; rw [h ρ (by rw [q]; exact fun z => nomatch z), q]; exact hk a ρ1 e
  | exc y ρ1 => rw [h ρ (by rw [q]; exact fun z => nomatch z), q]
  | bad => rw [q] at e; exact absurd rfl e
theorem rs_seq (h : RS s s') (k : RS v v') : RS (sSeq s v) (sSeq s' v') := fun ρ e => by
  unfold sSeq at e ⊢
  cases q : s ρ with
  | nx ρ1 =>
    rw [q] at e
    rw [h ρ (by rw [q]; exact fun z => nomatch z), q]
    exact k ρ1 e
  | bad => rw [q] at e; exact absurd rfl e
  | _ => rw [h ρ (by rw [q]; exact fun z => nomatch z), q]
theorem rs_bad (s : En → So) : RS (fun _ => .bad) s := fun _ e => absurd rfl e
theorem rs_if (h : RM t t') (k : RS s s') (l : RS v v') : RS (sIf t s v) (sIf t' s' v') := sbind_ok h fun b => match b with | true => k | false => l
theorem rs_raise (h : RM m m') : RS (sRaise n m) (sRaise n m') := sbind_ok h fun _ => rs_refl _
theorem rs_ret (h : RM m m') : RS (sRet m) (sRet m') := sbind_ok h fun _ => rs_refl _
theorem rs_retN (h : RM m m') : RS (sRetN m) (sRetN m') := sbind_ok h fun _ => rs_refl _
theorem rs_drop (h : RM m m') : RS (sDrop m) (sDrop m') := sbind_ok h fun _ => rs_refl _
theorem rs_set (h : RM m m') : RS (sSet i m) (sSet i m') := sbind_ok h fun _ => rs_refl _
theorem rs_setN (h : RM m m') : RS (sSetN i m) (sSetN i m') := sbind_ok h fun _ => rs_refl _
theorem rs_pars {is : List Nat} {ks : List Bool} (h : RM ms ms') : RS (sPars is ks ms) (sPars is ks ms') := sbind_ok h fun _ => rs_refl _
theorem rs_asg {g : Dt → En → Option En} (h : RM m m') : RS (sAsg m g) (sAsg m' g) := sbind_ok h fun _ => rs_refl _
theorem rs_fput {ix : Nat → Option Nat} (h : RM m m') : RS (sFput i ix m) (sFput i ix m') := sbind_ok h fun _ => rs_refl _
theorem rs_go {g : Dt → En → Option En} (h : RS s s') : ∀ ds, RS (forGo g s ds) (forGo g s' ds)
  | [] => rs_refl _
  | d :: ds => fun ρ e => by
    unfold forGo at e ⊢
    cases q : g d ρ with
    | none => rfl
    | some ρ1 =>
      rw [q] at e
      dsimp only at e ⊢
      cases w : s ρ1 with
      | nx ρ2 => rw [w] at e; rw [h ρ1 (by rw [w]; exact fun z => nomatch z), w]; exact rs_go h ds ρ2 e
      | ct ρ2 => rw [w] at e; rw [h ρ1 (by rw [w]; exact fun z => nomatch z), w]; exact rs_go h ds ρ2 e
      | bad => rw [w] at e; exact absurd rfl e
      | _ => rw [h ρ1 (by rw [w]; exact fun z => nomatch z), w]
theorem rs_for {g : Dt → En → Option En} (h : RM ms ms') (k : RS s s') : RS (sFor ms g s) (sFor ms' g s') := sbind_ok h fun ds => rs_go k ds
theorem rf_run {k : Nat} {io rn : Bool} (h : RS s s') : RF (runF k io rn s) (runF k io rn s') := fun ds e => by
  unfold runF at e ⊢
  cases q : s (argE io ds ++ List.replicate (k - ds.length) none) with
  | bad => rw [q] at e; exact absurd rfl e
  | _ => rw [h _ (by rw [q]; exact fun z => nomatch z), q]
end
local macro_rules | `(tactic| array_get_dec) => `(tactic| repeat (with_reducible first
  | exact rm_refl _ | exact rs_refl _ | exact rf_refl _ | assumption | exact rs_bad _
  | apply rs_seq | apply rs_if | apply rs_raise | apply rs_ret | apply rs_retN | apply rs_drop | apply rs_setN | apply rs_set | apply rs_pars | apply rs_asg | apply rs_fput | apply rs_for
  | apply rm_isi2 | apply rm_isi | apply rm_m1 | apply rm_m2 | apply rm_B | apply rm_not | apply rm_and | apply rm_or | apply rm_andV | apply rm_orV | apply rm_notV | apply rm_ifE | apply rm_cons | apply rm_star | apply rm_tup | apply rm_lst
  | apply rm_call | apply rm_make | apply rm_meth | apply rm_lc | apply rm_seqI | apply rm_ix | apply rm_own | apply rm_append | apply rm_extend))
end Dl
namespace Dl
open PySem PySem.Spec PyProof.Rows L2
section
variable {m m' ma ma' mb mb' : Mi Dt} {f f' : List Dt → Fo} {c : Nat} {neg : Bool}
theorem rm_m2g {g g' : Dt → Dt → Option Dt} (hg : ∀ x y z, g x y = some z → g' x y = some z) (h : RM ma ma') (k : RM mb mb') : RM (m2 g ma mb) (m2 g' ma' mb') := rm_bind h fun x => rm_bind k fun y ρ e => by
  cases q : g x y with
  | none => rw [q] at e; exact absurd rfl e
  | some z => rw [hg x y z q]
theorem rm_isC0 (h : RM m m') : RM (m1 (fIsC 0) m) (m1 (fIsCO 0) m') := rm_m1g (fun d z e => by
  unfold fIsC at e
  split at e
  · split at e
    · rename_i hc; subst hc; exact e
    · cases e
  · cases e) h
theorem rm_isC1 (h : RM m m') : RM (m1 (fIsC 1) m) (m1 (fIsCO 1) m') := rm_m1g (fun d z e => by
  unfold fIsC at e
  split at e
  · split at e
    · rename_i hc; subst hc; exact e
    · cases e
  · cases e) h
theorem rm_ownC (hf : RF f f') (h : RM ma ma') (k : RM mb mb') : RM (m2 (fOwnC c f neg) ma mb) (m2 (fOwnC c f' neg) ma' mb') := rm_m2g (fun x y z e => by
  unfold fOwnC at e ⊢
  split at e
  · split at e
    · rename_i hc
      simp only [if_pos hc]
      split at e
      · rename_i r o hr
        rw [hf.ret hr]; exact e
      · cases e
    · cases e
  · cases e) h k
theorem fownC_ok (hf : RF f f') {x y z : Dt} (e : fOwnC c f neg x y = some z) : fOwnC c f' neg x y = some z := by
  unfold fOwnC at e ⊢
  split at e
  · split at e
    · rename_i hc
      simp only [if_pos hc]
      split at e
      · rename_i r o hr
        rw [hf.ret hr]; exact e
      · cases e
    · cases e
  · cases e
end
end Dl
namespace Dl
open PySem PySem.Spec PyProof.Rows L2
local macro_rules | `(tactic| array_get_dec) => `(tactic| repeat (with_reducible first
  | exact rm_refl _ | exact rs_refl _ | exact rf_refl _ | assumption | exact rs_bad _
  | apply rs_seq | apply rs_if | apply rs_raise | apply rs_ret | apply rs_retN | apply rs_drop | apply rs_setN | apply rs_set | apply rs_pars | apply rs_asg | apply rs_fput | apply rs_for
  | apply rm_isC0 | apply rm_isC1 | apply rm_isi2 | apply rm_isi | apply rm_m1 | apply rm_ownC | apply rm_m2 | apply rm_B | apply rm_not | apply rm_and | apply rm_or | apply rm_andV | apply rm_orV | apply rm_notV | apply rm_ifE | apply rm_cons | apply rm_star | apply rm_tup | apply rm_lst
  | apply rm_call | apply rm_make | apply rm_meth | apply rm_lc | apply rm_seqI | apply rm_ix | apply rm_own | apply rm_append | apply rm_extend))
theorem rf_is_integer_k02_of_is_integer : RF m_is_integer m_is_integer_k02 := by
  unfold m_is_integer m_is_integer_k02; refine rf_run ?_; unfold b_is_integer b_is_integer_k02; array_get_dec
theorem rf_is_sequence_k02_of_is_sequence : RF m_is_sequence m_is_sequence_k02 := by
  unfold m_is_sequence m_is_sequence_k02; refine rf_run ?_; unfold b_is_sequence b_is_sequence_k02; array_get_dec
theorem rf_Rota_eq_k02_of_Rota_eq : RF m_Rota_eq m_Rota_eq_k02 := by
  unfold m_Rota_eq m_Rota_eq_k02; refine rf_run ?_; unfold b_Rota_eq b_Rota_eq_k02; array_get_dec
theorem rf_is_from_k02_of_is_from : RF m_is_from m_is_from_k02 := by
  have := rf_is_integer_k02_of_is_integer
  unfold m_is_from m_is_from_k02; refine rf_run ?_; unfold b_is_from b_is_from_k02; array_get_dec
theorem rf_is_below_k02_of_is_below : RF m_is_below m_is_below_k02 := by
  have := rf_is_from_k02_of_is_from
  unfold m_is_below m_is_below_k02; refine rf_run ?_; unfold b_is_below b_is_below_k02; array_get_dec
theorem rf_is_unlike_k02_of_is_unlike : RF m_is_unlike m_is_unlike_k02 := by
  have := rf_is_sequence_k02_of_is_sequence
  have := rf_is_below_k02_of_is_below
  unfold m_is_unlike m_is_unlike_k02; refine rf_run ?_; unfold b_is_unlike b_is_unlike_k02; array_get_dec
theorem rf_is_row_k02_of_is_row : RF m_is_row m_is_row_k02 := by
  have := rf_is_unlike_k02_of_is_unlike
  unfold m_is_row m_is_row_k02; refine rf_run ?_; unfold b_is_row b_is_row_k02; array_get_dec
theorem rf_Rota_init_k02_of_Rota_init : RF m_Rota_init m_Rota_init_k02 := by
  have := rf_is_sequence_k02_of_is_sequence
  have := rf_is_from_k02_of_is_from
  have := rf_is_row_k02_of_is_row
  unfold m_Rota_init m_Rota_init_k02; refine rf_run ?_; unfold b_Rota_init b_Rota_init_k02; array_get_dec
theorem rf_law_made_k02_of_law_made : RF m_law_made m_law_made_k02 := by
  have := rf_Rota_init_k02_of_Rota_init
  unfold m_law_made m_law_made_k02; refine rf_run ?_; unfold b_law_made b_law_made_k02; array_get_dec
end Dl
namespace Dl
open PySem PySem.Spec PyProof.Rows L2
variable {p : Nat} {rs : List Rw} {D b : Nat} {K : List Lk} {most : Nat}
local macro_rules | `(tactic| array_mem_dec) => `(tactic| first
  | with_reducible assumption
  | with_reducible exact fAdd_nat _ _
  | with_reducible exact fMul_nat _ _ (by omega)
  | with_reducible exact fSub_nat (by first | assumption | omega)
  | with_reducible exact lt_f (by first | assumption | omega)
  | with_reducible exact lt_t (by first | assumption | omega)
  | with_reducible exact le_f (by first | assumption | omega)
  | with_reducible exact le_t (by first | assumption | omega)
  | with_reducible exact gt_f (by first | assumption | omega)
  | with_reducible exact gt_t (by first | assumption | omega)
  | with_reducible exact ge_f (by first | assumption | omega)
  | with_reducible exact ge_t (by first | assumption | omega)
  | with_reducible exact eq_f (by first | assumption | omega)
  | with_reducible exact eq_t (by first | assumption | omega)
  | with_reducible exact ne_f (by first | assumption | omega)
  | with_reducible exact ne_t (by first | assumption | omega)
  | with_reducible exact feq_nat _ _
  | with_reducible exact fne_nat _ _
  | with_reducible exact fLt_nat _ _
  | with_reducible exact fLe_nat _ _
  | with_reducible exact gt_nat _ _
  | with_reducible exact ge_nat _ _
  | with_reducible exact len_lst _ _
  | with_reducible exact len_tup _ _
  | with_reducible exact fne_self (k := 2) (by first | assumption | exact .int _ | exact .bl _ | exact .non | exact flt_tup_nats _ | exact flt_lst_nats _ | exact flt_side _ | exact flt_str _) (by decide)
  | with_reducible exact feq_self (k := 2) (by first | assumption | exact .int _ | exact .bl _ | exact .non | exact flt_tup_nats _ | exact flt_lst_nats _ | exact flt_side _ | exact flt_str _) (by decide)
  | rfl)
local macro_rules | `(tactic| array_get_dec) => `(tactic| first
  | ((with_reducible apply var_ok); rfl)
  | ((with_reducible apply peek_ok); rfl)
  | ((with_reducible apply peek_ow); rfl)
  | with_reducible exact lit_ok
  | with_reducible exact pure_ok
  | ((with_reducible apply cons_ok); array_get_dec; array_get_dec)
  | ((with_reducible apply callQ'); array_get_dec; rfl; with_reducible assumption)
  | ((with_reducible apply methQ); array_get_dec; array_get_dec; rfl; (with_reducible assumption); exact ⟨_, rfl⟩)
  | ((with_reducible apply callJ); rfl; array_get_dec; rfl; rfl; with_reducible assumption)
  | ((with_reducible apply m2_ok); array_get_dec; array_get_dec; array_mem_dec)
  | ((with_reducible apply m1_ok); array_get_dec; array_mem_dec)
  | ((with_reducible apply m1N_ok); array_get_dec; array_mem_dec)
  | ((with_reducible apply tup_ok); array_get_dec; exact sl_le (by simp))
  | ((with_reducible apply lst_ok); array_get_dec; exact sl_le (by simp))
  | ((with_reducible apply chain_ge_t); array_get_dec; array_get_dec; array_get_dec; omega; omega)
  | ((with_reducible apply chainT); array_get_dec; array_get_dec; array_get_dec; omega; omega)
  | ((with_reducible apply tb_ok); array_get_dec)
  | ((with_reducible apply not_f); array_get_dec)
  | ((with_reducible apply not_t); array_get_dec)
  | ((with_reducible apply not_ok); array_get_dec)
  | ((with_reducible apply and_t); array_get_dec; array_get_dec)
  | ((with_reducible apply and_f); array_get_dec)
  | ((with_reducible apply or_f); array_get_dec; array_get_dec)
  | ((with_reducible apply or_t); array_get_dec)
  | ((with_reducible apply ixv'); rfl; array_get_dec; rfl; array_mem_dec)
  | with_reducible assumption)
local macro_rules | `(tactic| decreasing_trivial) => `(tactic| first
  | ((with_reducible apply sl_lv); rfl)
  | ((with_reducible apply sl_vl); rfl)
  | ((with_reducible apply sl_no); rfl)
  | ((with_reducible apply sl_ow); rfl)
  | ((with_reducible apply sl_dq); rfl))
local macro_rules | `(tactic| get_elem_tactic_extensible) => `(tactic| first
  | ((with_reducible apply set_ok); array_get_dec; decreasing_trivial)
  | ((with_reducible apply setN_ok); array_get_dec; decreasing_trivial)
  | ((with_reducible apply pars2_ok); array_get_dec; decreasing_trivial; decreasing_trivial)
  | ((with_reducible apply drop_ok); array_get_dec)
  | ((with_reducible apply if_f (t := fun ρ => So.nx ρ)); array_get_dec; rfl)
  | ((with_reducible apply if_f); array_get_dec; rfl))
/-! ### dicts of pairs by a comprehension -/
/-! ### how long a wheel lay: all cases -/
end Dl
namespace Dl
open PySem PySem.Spec PyProof.Rows L2
variable {p : Nat} {rs : List Rw} {D b : Nat} {K : List Lk} {most : Nat}
local macro_rules | `(tactic| array_mem_dec) => `(tactic| first
  | with_reducible assumption
  | with_reducible exact fAdd_nat _ _
  | with_reducible exact fMul_nat _ _ (by omega)
  | with_reducible exact fSub_nat (by first | assumption | omega)
  | with_reducible exact lt_f (by first | assumption | omega)
  | with_reducible exact lt_t (by first | assumption | omega)
  | with_reducible exact le_f (by first | assumption | omega)
  | with_reducible exact le_t (by first | assumption | omega)
  | with_reducible exact gt_f (by first | assumption | omega)
  | with_reducible exact gt_t (by first | assumption | omega)
  | with_reducible exact ge_f (by first | assumption | omega)
  | with_reducible exact ge_t (by first | assumption | omega)
  | with_reducible exact eq_f (by first | assumption | omega)
  | with_reducible exact eq_t (by first | assumption | omega)
  | with_reducible exact ne_f (by first | assumption | omega)
  | with_reducible exact ne_t (by first | assumption | omega)
  | with_reducible exact feq_nat _ _
  | with_reducible exact fne_nat _ _
  | with_reducible exact fLt_nat _ _
  | with_reducible exact fLe_nat _ _
  | with_reducible exact gt_nat _ _
  | with_reducible exact ge_nat _ _
  | with_reducible exact len_lst _ _
  | with_reducible exact len_tup _ _
  | with_reducible exact fne_self (k := 2) (by first | assumption | exact .int _ | exact .bl _ | exact .non | exact flt_tup_nats _ | exact flt_lst_nats _ | exact flt_side _ | exact flt_str _) (by decide)
  | with_reducible exact feq_self (k := 2) (by first | assumption | exact .int _ | exact .bl _ | exact .non | exact flt_tup_nats _ | exact flt_lst_nats _ | exact flt_side _ | exact flt_str _) (by decide)
  | rfl)
local macro_rules | `(tactic| array_get_dec) => `(tactic| first
  | ((with_reducible apply var_ok); rfl)
  | ((with_reducible apply peek_ok); rfl)
  | ((with_reducible apply peek_ow); rfl)
  | with_reducible exact lit_ok
  | with_reducible exact pure_ok
  | ((with_reducible apply cons_ok); array_get_dec; array_get_dec)
  | ((with_reducible apply callQ'); array_get_dec; rfl; with_reducible assumption)
  | ((with_reducible apply methQ); array_get_dec; array_get_dec; rfl; (with_reducible assumption); exact ⟨_, rfl⟩)
  | ((with_reducible apply callJ); rfl; array_get_dec; rfl; rfl; with_reducible assumption)
  | ((with_reducible apply m2_ok); array_get_dec; array_get_dec; array_mem_dec)
  | ((with_reducible apply m1_ok); array_get_dec; array_mem_dec)
  | ((with_reducible apply m1N_ok); array_get_dec; array_mem_dec)
  | ((with_reducible apply tup_ok); array_get_dec; exact sl_le (by simp))
  | ((with_reducible apply lst_ok); array_get_dec; exact sl_le (by simp))
  | ((with_reducible apply chain_ge_t); array_get_dec; array_get_dec; array_get_dec; omega; omega)
  | ((with_reducible apply chainT); array_get_dec; array_get_dec; array_get_dec; omega; omega)
  | ((with_reducible apply tb_ok); array_get_dec)
  | ((with_reducible apply not_f); array_get_dec)
  | ((with_reducible apply not_t); array_get_dec)
  | ((with_reducible apply not_ok); array_get_dec)
  | ((with_reducible apply and_t); array_get_dec; array_get_dec)
  | ((with_reducible apply and_f); array_get_dec)
  | ((with_reducible apply or_f); array_get_dec; array_get_dec)
  | ((with_reducible apply or_t); array_get_dec)
  | ((with_reducible apply ixv'); rfl; array_get_dec; rfl; array_mem_dec)
  | with_reducible assumption)
local macro_rules | `(tactic| decreasing_trivial) => `(tactic| first
  | ((with_reducible apply sl_lv); rfl)
  | ((with_reducible apply sl_vl); rfl)
  | ((with_reducible apply sl_no); rfl)
  | ((with_reducible apply sl_ow); rfl)
  | ((with_reducible apply sl_dq); rfl))
local macro_rules | `(tactic| get_elem_tactic_extensible) => `(tactic| first
  | ((with_reducible apply set_ok); array_get_dec; decreasing_trivial)
  | ((with_reducible apply setN_ok); array_get_dec; decreasing_trivial)
  | ((with_reducible apply pars2_ok); array_get_dec; decreasing_trivial; decreasing_trivial)
  | ((with_reducible apply drop_ok); array_get_dec)
  | ((with_reducible apply if_f (t := fun ρ => So.nx ρ)); array_get_dec; rfl)
  | ((with_reducible apply if_f); array_get_dec; rfl))
/-! ### the longest case -/
end Dl
namespace Dl
open PySem PySem.Spec PyProof.Rows L2
variable {p : Nat} {rs : List Rw} {D b : Nat} {K : List Lk} {most : Nat}
local macro_rules | `(tactic| array_mem_dec) => `(tactic| first
  | with_reducible assumption
  | with_reducible exact fAdd_nat _ _
  | with_reducible exact fMul_nat _ _ (by omega)
  | with_reducible exact fSub_nat (by first | assumption | omega)
  | with_reducible exact lt_f (by first | assumption | omega)
  | with_reducible exact lt_t (by first | assumption | omega)
  | with_reducible exact le_f (by first | assumption | omega)
  | with_reducible exact le_t (by first | assumption | omega)
  | with_reducible exact gt_f (by first | assumption | omega)
  | with_reducible exact gt_t (by first | assumption | omega)
  | with_reducible exact ge_f (by first | assumption | omega)
  | with_reducible exact ge_t (by first | assumption | omega)
  | with_reducible exact eq_f (by first | assumption | omega)
  | with_reducible exact eq_t (by first | assumption | omega)
  | with_reducible exact ne_f (by first | assumption | omega)
  | with_reducible exact ne_t (by first | assumption | omega)
  | with_reducible exact feq_nat _ _
  | with_reducible exact fne_nat _ _
  | with_reducible exact fLt_nat _ _
  | with_reducible exact fLe_nat _ _
  | with_reducible exact gt_nat _ _
  | with_reducible exact ge_nat _ _
  | with_reducible exact len_lst _ _
  | with_reducible exact len_tup _ _
  | with_reducible exact fne_self (k := 2) (by first | assumption | exact .int _ | exact .bl _ | exact .non | exact flt_tup_nats _ | exact flt_lst_nats _ | exact flt_side _ | exact flt_str _) (by decide)
  | with_reducible exact feq_self (k := 2) (by first | assumption | exact .int _ | exact .bl _ | exact .non | exact flt_tup_nats _ | exact flt_lst_nats _ | exact flt_side _ | exact flt_str _) (by decide)
  | rfl)
local macro_rules | `(tactic| array_get_dec) => `(tactic| first
  | ((with_reducible apply var_ok); rfl)
  | ((with_reducible apply peek_ok); rfl)
  | ((with_reducible apply peek_ow); rfl)
  | with_reducible exact lit_ok
  | with_reducible exact pure_ok
  | ((with_reducible apply cons_ok); array_get_dec; array_get_dec)
  | ((with_reducible apply callQ'); array_get_dec; rfl; with_reducible assumption)
  | ((with_reducible apply methQ); array_get_dec; array_get_dec; rfl; (with_reducible assumption); exact ⟨_, rfl⟩)
  | ((with_reducible apply callJ); rfl; array_get_dec; rfl; rfl; with_reducible assumption)
  | ((with_reducible apply m2_ok); array_get_dec; array_get_dec; array_mem_dec)
  | ((with_reducible apply m1_ok); array_get_dec; array_mem_dec)
  | ((with_reducible apply m1N_ok); array_get_dec; array_mem_dec)
  | ((with_reducible apply tup_ok); array_get_dec; exact sl_le (by simp))
  | ((with_reducible apply lst_ok); array_get_dec; exact sl_le (by simp))
  | ((with_reducible apply chain_ge_t); array_get_dec; array_get_dec; array_get_dec; omega; omega)
  | ((with_reducible apply chainT); array_get_dec; array_get_dec; array_get_dec; omega; omega)
  | ((with_reducible apply tb_ok); array_get_dec)
  | ((with_reducible apply not_f); array_get_dec)
  | ((with_reducible apply not_t); array_get_dec)
  | ((with_reducible apply not_ok); array_get_dec)
  | ((with_reducible apply and_t); array_get_dec; array_get_dec)
  | ((with_reducible apply and_f); array_get_dec)
  | ((with_reducible apply or_f); array_get_dec; array_get_dec)
  | ((with_reducible apply or_t); array_get_dec)
  | ((with_reducible apply ixv'); rfl; array_get_dec; rfl; array_mem_dec)
  | with_reducible assumption)
local macro_rules | `(tactic| decreasing_trivial) => `(tactic| first
  | ((with_reducible apply sl_lv); rfl)
  | ((with_reducible apply sl_vl); rfl)
  | ((with_reducible apply sl_no); rfl)
  | ((with_reducible apply sl_ow); rfl)
  | ((with_reducible apply sl_dq); rfl))
local macro_rules | `(tactic| get_elem_tactic_extensible) => `(tactic| first
  | ((with_reducible apply set_ok); array_get_dec; decreasing_trivial)
  | ((with_reducible apply setN_ok); array_get_dec; decreasing_trivial)
  | ((with_reducible apply pars2_ok); array_get_dec; decreasing_trivial; decreasing_trivial)
  | ((with_reducible apply drop_ok); array_get_dec)
  | ((with_reducible apply if_f (t := fun ρ => So.nx ρ)); array_get_dec; rfl)
  | ((with_reducible apply if_f); array_get_dec; rfl))
end Dl
namespace Dl
open PySem PySem.Spec PyProof.Rows L2
variable {p : Nat} {rs : List Rw} {D b : Nat} {K : List Lk} {most : Nat}
local macro_rules | `(tactic| array_mem_dec) => `(tactic| first
  | with_reducible assumption
  | with_reducible exact fAdd_nat _ _
  | with_reducible exact fMul_nat _ _ (by omega)
  | with_reducible exact fSub_nat (by first | assumption | omega)
  | with_reducible exact lt_f (by first | assumption | omega)
  | with_reducible exact lt_t (by first | assumption | omega)
  | with_reducible exact le_f (by first | assumption | omega)
  | with_reducible exact le_t (by first | assumption | omega)
  | with_reducible exact gt_f (by first | assumption | omega)
  | with_reducible exact gt_t (by first | assumption | omega)
  | with_reducible exact ge_f (by first | assumption | omega)
  | with_reducible exact ge_t (by first | assumption | omega)
  | with_reducible exact eq_f (by first | assumption | omega)
  | with_reducible exact eq_t (by first | assumption | omega)
  | with_reducible exact ne_f (by first | assumption | omega)
  | with_reducible exact ne_t (by first | assumption | omega)
  | with_reducible exact feq_nat _ _
  | with_reducible exact fne_nat _ _
  | with_reducible exact fLt_nat _ _
  | with_reducible exact fLe_nat _ _
  | with_reducible exact gt_nat _ _
  | with_reducible exact ge_nat _ _
  | with_reducible exact len_lst _ _
  | with_reducible exact len_tup _ _
  | ((with_reducible apply fne_self (k := 2)); (first | with_reducible assumption | exact .int _ | exact .bl _ | exact .non | exact flt_tup_nats _ | exact flt_lst_nats _ | exact flt_side _ | exact flt_str _ | exact no_flt _ | exact .tup (flt_prs _) | exact .lst (flt_prs _)); decide)
  | ((with_reducible apply feq_self (k := 2)); (first | with_reducible assumption | exact .int _ | exact .bl _ | exact .non | exact flt_tup_nats _ | exact flt_lst_nats _ | exact flt_side _ | exact flt_str _ | exact no_flt _ | exact .tup (flt_prs _) | exact .lst (flt_prs _)); decide)
  | rfl)
local macro_rules | `(tactic| array_get_dec) => `(tactic| first
  | ((with_reducible apply var_ok); rfl)
  | ((with_reducible apply peek_ok); rfl)
  | ((with_reducible apply peek_ow); rfl)
  | with_reducible exact lit_ok
  | with_reducible exact pure_ok
  | ((with_reducible apply cons_ok); array_get_dec; array_get_dec)
  | ((with_reducible apply callQ'); array_get_dec; rfl; with_reducible assumption)
  | ((with_reducible apply methQ); array_get_dec; array_get_dec; rfl; (with_reducible assumption); exact ⟨_, rfl⟩)
  | ((with_reducible apply callJ); rfl; array_get_dec; rfl; rfl; with_reducible assumption)
  | ((with_reducible apply m2_ok); array_get_dec; array_get_dec; array_mem_dec)
  | ((with_reducible apply m1_ok); array_get_dec; array_mem_dec)
  | ((with_reducible apply m1N_ok); array_get_dec; array_mem_dec)
  | ((with_reducible apply tup_ok); array_get_dec; exact sl_le (by simp))
  | ((with_reducible apply lst_ok); array_get_dec; exact sl_le (by simp))
  | ((with_reducible apply chain_ge_t); array_get_dec; array_get_dec; array_get_dec; omega; omega)
  | ((with_reducible apply chainT); array_get_dec; array_get_dec; array_get_dec; omega; omega)
  | ((with_reducible apply tb_ok); array_get_dec)
  | ((with_reducible apply not_f); array_get_dec)
  | ((with_reducible apply not_t); array_get_dec)
  | ((with_reducible apply not_ok); array_get_dec)
  | ((with_reducible apply and_t); array_get_dec; array_get_dec)
  | ((with_reducible apply and_f); array_get_dec)
  | ((with_reducible apply or_f); array_get_dec; array_get_dec)
  | ((with_reducible apply or_t); array_get_dec)
  | ((with_reducible apply ixv'); rfl; array_get_dec; rfl; array_mem_dec)
  | with_reducible assumption)
local macro_rules | `(tactic| decreasing_trivial) => `(tactic| first
  | ((with_reducible apply sl_lv); rfl)
  | ((with_reducible apply sl_vl); rfl)
  | ((with_reducible apply sl_no); rfl)
  | ((with_reducible apply sl_ow); rfl)
  | ((with_reducible apply sl_dq); rfl))
local macro_rules | `(tactic| get_elem_tactic_extensible) => `(tactic| first
  | ((with_reducible apply set_ok); array_get_dec; decreasing_trivial)
  | ((with_reducible apply setN_ok); array_get_dec; decreasing_trivial)
  | ((with_reducible apply pars2_ok); array_get_dec; decreasing_trivial; decreasing_trivial)
  | ((with_reducible apply drop_ok); array_get_dec)
  | ((with_reducible apply if_f (t := fun ρ => So.nx ρ)); array_get_dec; rfl)
  | ((with_reducible apply if_f); array_get_dec; rfl))
/-! ### the fewest misses with some missed and some made -/
end Dl
namespace Dl
open PySem PySem.Spec PyProof.Rows L2
variable {p : Nat} {rs : List Rw} {D b : Nat} {K L : List Lk} {most : Nat}
local macro_rules | `(tactic| array_mem_dec) => `(tactic| first
  | with_reducible assumption
  | with_reducible exact fAdd_nat _ _
  | with_reducible exact fMul_nat _ _ (by omega)
  | with_reducible exact fSub_nat (by first | assumption | omega)
  | with_reducible exact lt_f (by first | assumption | omega)
  | with_reducible exact lt_t (by first | assumption | omega)
  | with_reducible exact le_f (by first | assumption | omega)
  | with_reducible exact le_t (by first | assumption | omega)
  | with_reducible exact gt_f (by first | assumption | omega)
  | with_reducible exact gt_t (by first | assumption | omega)
  | with_reducible exact ge_f (by first | assumption | omega)
  | with_reducible exact ge_t (by first | assumption | omega)
  | with_reducible exact eq_f (by first | assumption | omega)
  | with_reducible exact eq_t (by first | assumption | omega)
  | with_reducible exact ne_f (by first | assumption | omega)
  | with_reducible exact ne_t (by first | assumption | omega)
  | with_reducible exact feq_nat _ _
  | with_reducible exact fne_nat _ _
  | with_reducible exact fLt_nat _ _
  | with_reducible exact fLe_nat _ _
  | with_reducible exact gt_nat _ _
  | with_reducible exact ge_nat _ _
  | with_reducible exact len_lst _ _
  | with_reducible exact len_tup _ _
  | ((with_reducible apply fne_self (k := 2)); (first | with_reducible assumption | exact .int _ | exact .bl _ | exact .non | exact flt_tup_nats _ | exact flt_lst_nats _ | exact flt_side _ | exact flt_str _ | exact no_flt _ | exact .tup (flt_prs _) | exact .lst (flt_prs _)); decide)
  | ((with_reducible apply feq_self (k := 2)); (first | with_reducible assumption | exact .int _ | exact .bl _ | exact .non | exact flt_tup_nats _ | exact flt_lst_nats _ | exact flt_side _ | exact flt_str _ | exact no_flt _ | exact .tup (flt_prs _) | exact .lst (flt_prs _)); decide)
  | rfl)
local macro_rules | `(tactic| array_get_dec) => `(tactic| first
  | ((with_reducible apply var_ok); rfl)
  | ((with_reducible apply peek_ok); rfl)
  | ((with_reducible apply peek_ow); rfl)
  | with_reducible exact lit_ok
  | with_reducible exact pure_ok
  | ((with_reducible apply cons_ok); array_get_dec; array_get_dec)
  | ((with_reducible apply callQ'); array_get_dec; rfl; with_reducible assumption)
  | ((with_reducible apply methQ); array_get_dec; array_get_dec; rfl; (with_reducible assumption); exact ⟨_, rfl⟩)
  | ((with_reducible apply callJ); rfl; array_get_dec; rfl; rfl; with_reducible assumption)
  | ((with_reducible apply m2_ok); array_get_dec; array_get_dec; array_mem_dec)
  | ((with_reducible apply m1_ok); array_get_dec; array_mem_dec)
  | ((with_reducible apply m1N_ok); array_get_dec; array_mem_dec)
  | ((with_reducible apply tup_ok); array_get_dec; exact sl_le (by simp))
  | ((with_reducible apply lst_ok); array_get_dec; exact sl_le (by simp))
  | ((with_reducible apply chain_ge_t); array_get_dec; array_get_dec; array_get_dec; omega; omega)
  | ((with_reducible apply chainT); array_get_dec; array_get_dec; array_get_dec; omega; omega)
  | ((with_reducible apply tb_ok); array_get_dec)
  | ((with_reducible apply not_f); array_get_dec)
  | ((with_reducible apply not_t); array_get_dec)
  | ((with_reducible apply not_ok); array_get_dec)
  | ((with_reducible apply and_t); array_get_dec; array_get_dec)
  | ((with_reducible apply and_f); array_get_dec)
  | ((with_reducible apply or_f); array_get_dec; array_get_dec)
  | ((with_reducible apply or_t); array_get_dec)
  | ((with_reducible apply ixv'); rfl; array_get_dec; rfl; array_mem_dec)
  | with_reducible assumption)
local macro_rules | `(tactic| decreasing_trivial) => `(tactic| first
  | ((with_reducible apply sl_lv); rfl)
  | ((with_reducible apply sl_vl); rfl)
  | ((with_reducible apply sl_no); rfl)
  | ((with_reducible apply sl_ow); rfl)
  | ((with_reducible apply sl_dq); rfl))
local macro_rules | `(tactic| get_elem_tactic_extensible) => `(tactic| first
  | ((with_reducible apply set_ok); array_get_dec; decreasing_trivial)
  | ((with_reducible apply setN_ok); array_get_dec; decreasing_trivial)
  | ((with_reducible apply pars2_ok); array_get_dec; decreasing_trivial; decreasing_trivial)
  | ((with_reducible apply drop_ok); array_get_dec)
  | ((with_reducible apply if_f (t := fun ρ => So.nx ρ)); array_get_dec; rfl)
  | ((with_reducible apply if_f); array_get_dec; rfl))
end Dl
namespace Dl
open PySem PySem.Spec PyProof.Rows L2
variable {p : Nat} {rs : List Rw} {D b : Nat} {K L : List Lk} {most : Nat}
/-! ### lots among others -/
/-! ### chains -/
theorem chain_le {ma mb mc : Mi Dt} {ρ : En} {x y z : Nat} (ha : ma ρ = .ok (nD x) ρ) (hb : mb ρ = .ok (nD y) ρ) (hc : mc ρ = .ok (nD z) ρ) (h1 : x ≤ y) (h2 : y ≤ z) : mB (mChain fLe fLe ma mb mc) ρ = .ok true ρ := by
  refine tb_ok ?_
  refine bind_ok ha (bind_ok hb ?_)
  rw [fLe_nat, decide_eq_true h1]
  refine bind_ok (a := .bl true) (ρ1 := ρ) rfl ?_
  refine bind_ok hc ?_
  rw [fLe_nat, decide_eq_true h2]; rfl
/-! ### the greatest one of some numbers, step by step -/
end Dl
namespace Dl
open PySem PySem.Spec PyProof.Rows L2
variable {p : Nat} {rs : List Rw} {D b : Nat} {K L : List Lk} {most : Nat}
local macro_rules | `(tactic| array_mem_dec) => `(tactic| first
  | with_reducible assumption
  | with_reducible exact fAdd_nat _ _
  | with_reducible exact fMul_nat _ _ (by omega)
  | with_reducible exact fSub_nat (by first | assumption | omega)
  | with_reducible exact lt_f (by first | assumption | omega)
  | with_reducible exact lt_t (by first | assumption | omega)
  | with_reducible exact le_f (by first | assumption | omega)
  | with_reducible exact le_t (by first | assumption | omega)
  | with_reducible exact gt_f (by first | assumption | omega)
  | with_reducible exact gt_t (by first | assumption | omega)
  | with_reducible exact ge_f (by first | assumption | omega)
  | with_reducible exact ge_t (by first | assumption | omega)
  | with_reducible exact eq_f (by first | assumption | omega)
  | with_reducible exact eq_t (by first | assumption | omega)
  | with_reducible exact ne_f (by first | assumption | omega)
  | with_reducible exact ne_t (by first | assumption | omega)
  | with_reducible exact feq_nat _ _
  | with_reducible exact fne_nat _ _
  | with_reducible exact fLt_nat _ _
  | with_reducible exact fLe_nat _ _
  | with_reducible exact gt_nat _ _
  | with_reducible exact ge_nat _ _
  | with_reducible exact len_lst _ _
  | with_reducible exact len_tup _ _
  | ((with_reducible apply fne_self (k := 2)); (first | with_reducible assumption | exact .int _ | exact .bl _ | exact .non | exact flt_tup_nats _ | exact flt_lst_nats _ | exact flt_side _ | exact flt_str _ | exact no_flt _ | exact .tup (flt_prs _) | exact .lst (flt_prs _)); decide)
  | ((with_reducible apply feq_self (k := 2)); (first | with_reducible assumption | exact .int _ | exact .bl _ | exact .non | exact flt_tup_nats _ | exact flt_lst_nats _ | exact flt_side _ | exact flt_str _ | exact no_flt _ | exact .tup (flt_prs _) | exact .lst (flt_prs _)); decide)
  | rfl)
local macro_rules | `(tactic| array_get_dec) => `(tactic| first
  | ((with_reducible apply var_ok); rfl)
  | ((with_reducible apply peek_ok); rfl)
  | ((with_reducible apply peek_ow); rfl)
  | with_reducible exact lit_ok
  | with_reducible exact pure_ok
  | ((with_reducible apply cons_ok); array_get_dec; array_get_dec)
  | ((with_reducible apply callQ'); array_get_dec; rfl; with_reducible assumption)
  | ((with_reducible apply methQ); array_get_dec; array_get_dec; rfl; (with_reducible assumption); exact ⟨_, rfl⟩)
  | ((with_reducible apply callJ); rfl; array_get_dec; rfl; rfl; with_reducible assumption)
  | ((with_reducible apply m2_ok); array_get_dec; array_get_dec; array_mem_dec)
  | ((with_reducible apply m1_ok); array_get_dec; array_mem_dec)
  | ((with_reducible apply m1N_ok); array_get_dec; array_mem_dec)
  | ((with_reducible apply tup_ok); array_get_dec; exact sl_le (by simp))
  | ((with_reducible apply lst_ok); array_get_dec; exact sl_le (by simp))
  | ((with_reducible apply chain_ge_t); array_get_dec; array_get_dec; array_get_dec; omega; omega)
  | ((with_reducible apply chain_le); array_get_dec; array_get_dec; array_get_dec; omega; omega)
  | ((with_reducible apply chainT); array_get_dec; array_get_dec; array_get_dec; omega; omega)
  | ((with_reducible apply tb_ok); array_get_dec)
  | ((with_reducible apply not_f); array_get_dec)
  | ((with_reducible apply not_t); array_get_dec)
  | ((with_reducible apply not_ok); array_get_dec)
  | ((with_reducible apply and_t); array_get_dec; array_get_dec)
  | ((with_reducible apply and_f); array_get_dec)
  | ((with_reducible apply or_f); array_get_dec; array_get_dec)
  | ((with_reducible apply or_t); array_get_dec)
  | ((with_reducible apply ixv'); rfl; array_get_dec; rfl; array_mem_dec)
  | with_reducible assumption)
local macro_rules | `(tactic| decreasing_trivial) => `(tactic| first
  | ((with_reducible apply sl_lv); rfl)
  | ((with_reducible apply sl_vl); rfl)
  | ((with_reducible apply sl_no); rfl)
  | ((with_reducible apply sl_ow); rfl)
  | ((with_reducible apply sl_dq); rfl))
local macro_rules | `(tactic| get_elem_tactic_extensible) => `(tactic| first
  | ((with_reducible apply set_ok); array_get_dec; decreasing_trivial)
  | ((with_reducible apply setN_ok); array_get_dec; decreasing_trivial)
  | ((with_reducible apply pars2_ok); array_get_dec; decreasing_trivial; decreasing_trivial)
  | ((with_reducible apply drop_ok); array_get_dec)
  | ((with_reducible apply if_f (t := fun ρ => So.nx ρ)); array_get_dec; rfl)
  | ((with_reducible apply if_f); array_get_dec; rfl))
/-! ### lots by their numbers -/
/-! ### the walk -/
end Dl
namespace Dl
open PySem PySem.Spec PyProof.Rows L2
variable {p : Nat} {rs : List Rw} {D b : Nat} {K L : List Lk} {most : Nat}
local macro_rules | `(tactic| array_mem_dec) => `(tactic| first
  | with_reducible assumption
  | with_reducible exact fAdd_nat _ _
  | with_reducible exact fMul_nat _ _ (by omega)
  | with_reducible exact fSub_nat (by first | assumption | omega)
  | with_reducible exact lt_f (by first | assumption | omega)
  | with_reducible exact lt_t (by first | assumption | omega)
  | with_reducible exact le_f (by first | assumption | omega)
  | with_reducible exact le_t (by first | assumption | omega)
  | with_reducible exact gt_f (by first | assumption | omega)
  | with_reducible exact gt_t (by first | assumption | omega)
  | with_reducible exact ge_f (by first | assumption | omega)
  | with_reducible exact ge_t (by first | assumption | omega)
  | with_reducible exact eq_f (by first | assumption | omega)
  | with_reducible exact eq_t (by first | assumption | omega)
  | with_reducible exact ne_f (by first | assumption | omega)
  | with_reducible exact ne_t (by first | assumption | omega)
  | with_reducible exact feq_nat _ _
  | with_reducible exact fne_nat _ _
  | with_reducible exact fLt_nat _ _
  | with_reducible exact fLe_nat _ _
  | with_reducible exact gt_nat _ _
  | with_reducible exact ge_nat _ _
  | with_reducible exact len_lst _ _
  | with_reducible exact len_tup _ _
  | ((with_reducible apply fne_self (k := 2)); (first | with_reducible assumption | exact .int _ | exact .bl _ | exact .non | exact flt_tup_nats _ | exact flt_lst_nats _ | exact flt_side _ | exact flt_str _ | exact no_flt _ | exact .tup (flt_prs _) | exact .lst (flt_prs _)); decide)
  | ((with_reducible apply feq_self (k := 2)); (first | with_reducible assumption | exact .int _ | exact .bl _ | exact .non | exact flt_tup_nats _ | exact flt_lst_nats _ | exact flt_side _ | exact flt_str _ | exact no_flt _ | exact .tup (flt_prs _) | exact .lst (flt_prs _)); decide)
  | rfl)
local macro_rules | `(tactic| array_get_dec) => `(tactic| first
  | ((with_reducible apply var_ok); rfl)
  | ((with_reducible apply peek_ok); rfl)
  | ((with_reducible apply peek_ow); rfl)
  | with_reducible exact lit_ok
  | with_reducible exact pure_ok
  | ((with_reducible apply cons_ok); array_get_dec; array_get_dec)
  | ((with_reducible apply callQ'); array_get_dec; rfl; with_reducible assumption)
  | ((with_reducible apply methQ); array_get_dec; array_get_dec; rfl; (with_reducible assumption); exact ⟨_, rfl⟩)
  | ((with_reducible apply callJ); rfl; array_get_dec; rfl; rfl; with_reducible assumption)
  | ((with_reducible apply m2_ok); array_get_dec; array_get_dec; array_mem_dec)
  | ((with_reducible apply m1_ok); array_get_dec; array_mem_dec)
  | ((with_reducible apply m1N_ok); array_get_dec; array_mem_dec)
  | ((with_reducible apply tup_ok); array_get_dec; exact sl_le (by simp))
  | ((with_reducible apply lst_ok); array_get_dec; exact sl_le (by simp))
  | ((with_reducible apply chain_ge_t); array_get_dec; array_get_dec; array_get_dec; omega; omega)
  | ((with_reducible apply chain_le); array_get_dec; array_get_dec; array_get_dec; omega; omega)
  | ((with_reducible apply chainT); array_get_dec; array_get_dec; array_get_dec; omega; omega)
  | ((with_reducible apply tb_ok); array_get_dec)
  | ((with_reducible apply not_f); array_get_dec)
  | ((with_reducible apply not_t); array_get_dec)
  | ((with_reducible apply not_ok); array_get_dec)
  | ((with_reducible apply and_t); array_get_dec; array_get_dec)
  | ((with_reducible apply and_f); array_get_dec)
  | ((with_reducible apply or_f); array_get_dec; array_get_dec)
  | ((with_reducible apply or_t); array_get_dec)
  | ((with_reducible apply ixv'); rfl; array_get_dec; rfl; array_mem_dec)
  | with_reducible assumption)
local macro_rules | `(tactic| decreasing_trivial) => `(tactic| first
  | ((with_reducible apply sl_lv); rfl)
  | ((with_reducible apply sl_vl); rfl)
  | ((with_reducible apply sl_no); rfl)
  | ((with_reducible apply sl_ow); rfl)
  | ((with_reducible apply sl_dq); rfl))
local macro_rules | `(tactic| get_elem_tactic_extensible) => `(tactic| first
  | ((with_reducible apply set_ok); array_get_dec; decreasing_trivial)
  | ((with_reducible apply setN_ok); array_get_dec; decreasing_trivial)
  | ((with_reducible apply pars2_ok); array_get_dec; decreasing_trivial; decreasing_trivial)
  | ((with_reducible apply drop_ok); array_get_dec)
  | ((with_reducible apply if_f (t := fun ρ => So.nx ρ)); array_get_dec; rfl)
  | ((with_reducible apply if_f); array_get_dec; rfl))
end Dl
namespace Dl
open PySem PySem.Spec PyProof.Rows L2
variable {p : Nat} {rs : List Rw} {D b : Nat} {K L : List Lk} {most : Nat}
local macro_rules | `(tactic| array_mem_dec) => `(tactic| first
  | with_reducible assumption
  | with_reducible exact fAdd_nat _ _
  | with_reducible exact fMul_nat _ _ (by omega)
  | with_reducible exact fSub_nat (by first | assumption | omega)
  | with_reducible exact lt_f (by first | assumption | omega)
  | with_reducible exact lt_t (by first | assumption | omega)
  | with_reducible exact le_f (by first | assumption | omega)
  | with_reducible exact le_t (by first | assumption | omega)
  | with_reducible exact gt_f (by first | assumption | omega)
  | with_reducible exact gt_t (by first | assumption | omega)
  | with_reducible exact ge_f (by first | assumption | omega)
  | with_reducible exact ge_t (by first | assumption | omega)
  | with_reducible exact eq_f (by first | assumption | omega)
  | with_reducible exact eq_t (by first | assumption | omega)
  | with_reducible exact ne_f (by first | assumption | omega)
  | with_reducible exact ne_t (by first | assumption | omega)
  | with_reducible exact feq_nat _ _
  | with_reducible exact fne_nat _ _
  | with_reducible exact fLt_nat _ _
  | with_reducible exact fLe_nat _ _
  | with_reducible exact gt_nat _ _
  | with_reducible exact ge_nat _ _
  | with_reducible exact len_lst _ _
  | with_reducible exact len_tup _ _
  | ((with_reducible apply fne_self (k := 2)); (first | with_reducible assumption | exact .int _ | exact .bl _ | exact .non | exact flt_tup_nats _ | exact flt_lst_nats _ | exact flt_side _ | exact flt_str _ | exact no_flt _ | exact .tup (flt_prs _) | exact .lst (flt_prs _)); decide)
  | ((with_reducible apply feq_self (k := 2)); (first | with_reducible assumption | exact .int _ | exact .bl _ | exact .non | exact flt_tup_nats _ | exact flt_lst_nats _ | exact flt_side _ | exact flt_str _ | exact no_flt _ | exact .tup (flt_prs _) | exact .lst (flt_prs _)); decide)
  | rfl)
local macro_rules | `(tactic| array_get_dec) => `(tactic| first
  | ((with_reducible apply var_ok); rfl)
  | ((with_reducible apply peek_ok); rfl)
  | ((with_reducible apply peek_ow); rfl)
  | with_reducible exact lit_ok
  | with_reducible exact pure_ok
  | ((with_reducible apply cons_ok); array_get_dec; array_get_dec)
  | ((with_reducible apply callQ'); array_get_dec; rfl; with_reducible assumption)
  | ((with_reducible apply methQ); array_get_dec; array_get_dec; rfl; (with_reducible assumption); exact ⟨_, rfl⟩)
  | ((with_reducible apply callJ); rfl; array_get_dec; rfl; rfl; with_reducible assumption)
  | ((with_reducible apply m2_ok); array_get_dec; array_get_dec; array_mem_dec)
  | ((with_reducible apply m1_ok); array_get_dec; array_mem_dec)
  | ((with_reducible apply m1N_ok); array_get_dec; array_mem_dec)
  | ((with_reducible apply tup_ok); array_get_dec; exact sl_le (by simp))
  | ((with_reducible apply lst_ok); array_get_dec; exact sl_le (by simp))
  | ((with_reducible apply chain_ge_t); array_get_dec; array_get_dec; array_get_dec; omega; omega)
  | ((with_reducible apply chain_le); array_get_dec; array_get_dec; array_get_dec; omega; omega)
  | ((with_reducible apply chainT); array_get_dec; array_get_dec; array_get_dec; omega; omega)
  | ((with_reducible apply tb_ok); array_get_dec)
  | ((with_reducible apply not_f); array_get_dec)
  | ((with_reducible apply not_t); array_get_dec)
  | ((with_reducible apply not_ok); array_get_dec)
  | ((with_reducible apply and_t); array_get_dec; array_get_dec)
  | ((with_reducible apply and_f); array_get_dec)
  | ((with_reducible apply or_f); array_get_dec; array_get_dec)
  | ((with_reducible apply or_t); array_get_dec)
  | ((with_reducible apply ixv'); rfl; array_get_dec; rfl; array_mem_dec)
  | with_reducible assumption)
local macro_rules | `(tactic| decreasing_trivial) => `(tactic| first
  | ((with_reducible apply sl_lv); rfl)
  | ((with_reducible apply sl_vl); rfl)
  | ((with_reducible apply sl_no); rfl)
  | ((with_reducible apply sl_ow); rfl)
  | ((with_reducible apply sl_dq); rfl))
local macro_rules | `(tactic| get_elem_tactic_extensible) => `(tactic| first
  | ((with_reducible apply set_ok); array_get_dec; decreasing_trivial)
  | ((with_reducible apply setN_ok); array_get_dec; decreasing_trivial)
  | ((with_reducible apply pars2_ok); array_get_dec; decreasing_trivial; decreasing_trivial)
  | ((with_reducible apply drop_ok); array_get_dec)
  | ((with_reducible apply if_f (t := fun ρ => So.nx ρ)); array_get_dec; rfl)
  | ((with_reducible apply if_f); array_get_dec; rfl))
/-! ### small drawn seasons -/
end Dl
namespace Dl
open PySem PySem.Spec PyProof.Rows L2
variable {p : Nat} {rs : List Rw} {D b : Nat} {K L : List Lk} {most : Nat}
/-! ### stretches, one behind the other -/
/-! ### odd stretches -/
def isT (o : Option Bool) : Bool := decide (o = some true)
/-! ### lots and stretches -/
end Dl
namespace Dl
open PySem PySem.Spec PyProof.Rows L2
variable {p : Nat} {rs : List Rw} {D b : Nat} {K L : List Lk} {most : Nat}
/-! ### sorted numbers and pairs; more misses lie no shorter -/
theorem Sn.bare (h : Sn p rs D b K) : Sn p rs D b [] := ⟨h.good, h.rl, h.hp, h.D0, h.hD, h.hb, (fun _ z => by cases z), by simp⟩
end Dl
namespace Dl
open PySem PySem.Spec PyProof.Rows L2
variable {p : Nat} {rs : List Rw}
/-! ### texts joined -/
theorem jn_app (sep z : Str) : ∀ l : List Str, l ≠ [] → Str.join sep (l ++ [z]) = Str.join sep l ++ sep ++ z
  | [], h => absurd rfl h
  | [x], _ => rfl
  | x :: y :: r, _ => by
    show x ++ sep ++ Str.join sep ((y :: r) ++ [z]) = x ++ sep ++ Str.join sep (y :: r) ++ sep ++ z
    rw [jn_app sep z (y :: r) (by simp)]
    simp only [Str.append_assoc]
theorem jn_app2 (sep : Str) : ∀ l m : List Str, l ≠ [] → m ≠ [] → Str.join sep (l ++ m) = Str.join sep l ++ sep ++ Str.join sep m
  | [], _, h, _ => absurd rfl h
  | [x], y :: r, _, _ => rfl
  | [x], [], _, h => absurd rfl h
  | x :: y :: r, m, _, h => by
    show x ++ sep ++ Str.join sep ((y :: r) ++ m) = x ++ sep ++ Str.join sep (y :: r) ++ sep ++ Str.join sep m
    rw [jn_app2 sep (y :: r) m (by simp) h]
    simp only [Str.append_assoc]
theorem jn_shift (sep a y : Str) : ∀ r, Str.join sep ((a ++ sep ++ y) :: r) = a ++ sep ++ Str.join sep (y :: r)
  | [] => rfl
  | z :: r => by
    show (a ++ sep ++ y) ++ sep ++ Str.join sep (z :: r) = a ++ sep ++ (y ++ sep ++ Str.join sep (z :: r))
    simp only [Str.append_assoc]
/-- the words of a line -/
def wordsL (r : Rw) : List Str := (([("turn" : Str)] ++ (if 0 < r.1.length then r.1.map nS else [("none" : Str)])) ++ [("move" : Str)]) ++ r.2.map nS
def lineL (r : Rw) : Str := Str.join (" " : Str) (wordsL r)
theorem str_turn : (("\nturn " : String) : Str) = (("\n" : Str) ++ ("turn" : Str)) ++ (" " : Str) := by decide +kernel
theorem str_move : ((" move " : String) : Str) = ((" " : Str) ++ ("move" : Str)) ++ (" " : Str) := by decide +kernel
theorem lineL_eq (r : Rw) (h : 0 < r.2.length) (acc : Str) : lineS acc r = acc ++ ("\n" : Str) ++ lineL r := by
  unfold lineS lineL wordsL
  have n2 : r.2.map nS ≠ [] := fun e => by rw [List.map_eq_nil_iff] at e; rw [e] at h; exact absurd h (by decide)
  have hs : ∀ sp : List Str, sp ≠ [] → Str.join (" " : Str) ((([("turn" : Str)] ++ sp) ++ [("move" : Str)]) ++ r.2.map nS) = ("turn" : Str) ++ (" " : Str) ++ Str.join (" " : Str) sp ++ (" " : Str) ++ ("move" : Str) ++ (" " : Str) ++ Str.join (" " : Str) (r.2.map nS) := fun sp hn => by
    rw [jn_app2 _ _ _ (by simp) n2, jn_app _ _ _ (by simp), jn_app2 _ _ _ (by simp) hn]
    rfl
  unfold spotS
  split
  · rename_i hp
    have n1 : r.1.map nS ≠ [] := fun e => by rw [List.map_eq_nil_iff] at e; rw [e] at hp; exact absurd hp (by decide)
    rw [hs _ n1, str_turn, str_move]
    rw [show wordsS r.1 = Str.join (" " : Str) (r.1.map nS) from TL.join_eq _ _, show wordsS r.2 = Str.join (" " : Str) (r.2.map nS) from TL.join_eq _ _]
    simp only [Str.append_assoc, Str.empty_append]
  · rw [hs _ (by simp), str_turn, str_move]
    rw [show wordsS r.2 = Str.join (" " : Str) (r.2.map nS) from TL.join_eq _ _]
    show _ = acc ++ ("\n" : Str) ++ (("turn" : Str) ++ (" " : Str) ++ ("none" : Str) ++ (" " : Str) ++ ("move" : Str) ++ (" " : Str) ++ Str.join (" " : Str) (r.2.map nS))
    simp only [Str.append_assoc, Str.empty_append]
theorem fold_join : ∀ (rs : List Rw) (a : Str), (∀ r ∈ rs, 0 < r.2.length) → rs.foldl lineS a = Str.join ("\n" : Str) (a :: rs.map lineL)
  | [], a, _ => rfl
  | r :: rs, a, h => by
    rw [List.foldl_cons, lineL_eq r (h r (by simp)), fold_join rs _ fun x hx => h x (by simp [hx])]
    rw [jn_shift]
    rfl
theorem txt_join (h : ∀ r ∈ rs, 0 < r.2.length) : txtS p rs = Str.join ("\n" : Str) ((("places " : Str) ++ nS p) :: rs.map lineL) := by
  unfold txtS
  rw [fold_join rs _ h, Str.empty_append]
/-! ### a list of texts is empty or not -/
theorem lne_empty {ds : List Dt} (h : ∀ x ∈ ds, Flt 0 x) : fNe (.lst ds) (.lst []) = some (.bl (decide (0 < ds.length))) := by
  cases ds with
  | nil => exact fne_self (k := 1) (.lst fun x hx => nomatch hx) (by decide)
  | cons x l =>
    obtain ⟨q, hq⟩ := (Flt.lst (k := 0) (xs := x :: l) h).py
    have hs := hq.shaped (by decide)
    obtain ⟨px, hpx⟩ := (h x (by simp)).py
    obtain ⟨ps, hps, _⟩ := pys_of (k := 0) (xs := l) fun y hy => (h y (by simp [hy])).py
    have eq : q = .list (px :: ps) := by
      have h1 := hq.e
      have e2 : toPys (x :: l) = some (px :: ps) := by
        show (match toPy x, toPys l with | some p, some ps => some (p :: ps) | _, _ => none) = _
        rw [hpx.e, hps]
      unfold toPy at h1
      rw [e2] at h1
      exact (Option.some.inj h1).symm
    unfold fNe dEq
    rw [hq.e]
    have e2 : toPy (.lst []) = some (.list []) := rfl
    rw [e2]; dsimp only
    rw [hs, eq]
    rw [if_pos (by simp [SeqAt.shaped, PyData.canLay0, PyData.canLayAll0, PyData.depth, PyData.depthAll])]
    simp [PyData.eqv, PyData.eqvAll]
theorem flt_strs {k : Nat} {α : Type} (f : α → String) (l : List α) : ∀ x ∈ l.map (fun a => Dt.str (Str.ofString (f a))), Flt k x := fun x hx => by
  obtain ⟨n, _, rfl⟩ := List.mem_map.mp hx
  exact flt_str _
/-- words joined -/
theorem joinW_ok {m : Mi Dt} {ρ ρ1 : En} {sep : Str} {ys : List Str} (h : m ρ = .ok (.lst (ys.map .str)) ρ1) (hz : (ys.map (·.length)).sum + ys.length * sep.length ≤ 16777216) : mJoin (mPure (.str sep)) m ρ = .ok (.str (Str.join sep ys)) ρ1 := by
  refine bind_ok (a := .str sep) (ρ1 := ρ) rfl ?_
  dsimp only
  refine bind_ok h ?_
  show mOpt ((strsOf (ys.map Dt.str)).bind _) _ = _
  rw [strsOf_map, Option.bind_some, if_pos hz, TL.join_eq]; rfl
/-! ### the law's own text of a rota -/
theorem wordsL_len (r : Rw) (h : SmallRow r) : (wordsL r).length ≤ 30 ∧ ((wordsL r).map (·.length)).sum ≤ 60 := by
  unfold wordsL
  have l1 := h.l1
  have l2 := h.l2
  have s1 := sum_le r.1 h.a1
  have s2 := sum_le r.2 h.a2
  have e1 : (("turn" : Str)).length = 4 := by decide
  have e2 : (("none" : Str)).length = 4 := by decide
  have e3 : (("move" : Str)).length = 4 := by decide
  split
  · simp only [List.length_append, List.length_cons, List.length_nil, List.length_map, List.map_append, List.map_cons, List.map_nil, List.sum_append, List.sum_cons, List.sum_nil, e1, e3]
    omega
  · simp only [List.length_append, List.length_cons, List.length_nil, List.length_map, List.map_append, List.map_cons, List.map_nil, List.sum_append, List.sum_cons, List.sum_nil, e1, e2, e3]
    omega
theorem lineL_len (r : Rw) (h : SmallRow r) : (lineL r).length ≤ 90 := by
  obtain ⟨h1, h2⟩ := wordsL_len r h
  have h3 := join_len (" " : Str) (wordsL r)
  rw [sep_len] at h3
  unfold lineL
  omega
def srt1 (r : Rw) : Rw := (sortN r.1, r.2)
theorem cat_lst {xs ys : List Dt} (h : xs.length + ys.length ≤ 1000000) : fAdd (.lst xs) (.lst ys) = some (.lst (xs ++ ys)) := by
  show (if xs.length + ys.length ≤ sizeLine then _ else _) = _
  rw [if_pos (sl_le h)]
/-! ### texts that can be compared -/
def sOk (s : Str) : Prop := PyData.canLay0 (.str s) = true
theorem sOk_of (s : String) : sOk (Str.ofString s) := strOk_of s
theorem sOk_app {a b : Str} (ha : sOk a) (hb : sOk b) : sOk (a ++ b) := by
  unfold sOk at *
  simp only [PyData.canLay0, PyData.strOk] at *
  rw [Str.cps_append, Array.all_append, ha, hb]; rfl
theorem sOk_empty : sOk Str.empty := by
  unfold sOk
  simp [PyData.canLay0, PyData.strOk, Str.empty]
theorem sOk_join {sep : Str} (hs : sOk sep) : ∀ {ys : List Str}, (∀ y ∈ ys, sOk y) → sOk (Str.join sep ys)
  | [], _ => sOk_empty
  | [x], h => h x (by simp)
  | x :: y :: r, h => by
    show sOk (x ++ sep ++ Str.join sep (y :: r))
    exact sOk_app (sOk_app (h x (by simp)) hs) (sOk_join hs fun z hz => h z (by simp at hz ⊢; exact .inr hz))
theorem sOk_words (l : List Nat) : sOk (wordsS l) := by
  unfold wordsS
  rw [TL.join_eq]
  refine sOk_join (sOk_of " ") fun y hy => ?_
  obtain ⟨n, _, rfl⟩ := List.mem_map.mp hy
  exact sOk_of _
theorem sOk_line {acc : Str} (h : sOk acc) (r : Rw) : sOk (lineS acc r) := by
  unfold lineS
  refine sOk_app (sOk_app (sOk_app (sOk_app (sOk_app sOk_empty h) (sOk_of _)) ?_) (sOk_of _)) (sOk_words _)
  unfold spotS
  split
  · exact sOk_words _
  · exact sOk_of _
theorem sOk_fold : ∀ (rs : List Rw) {acc : Str}, sOk acc → sOk (rs.foldl lineS acc)
  | [], _, h => h
  | r :: rs, _, h => sOk_fold rs (sOk_line h r)
theorem sOk_txt (p : Nat) (rs : List Rw) : sOk (txtS p rs) := sOk_fold rs (sOk_app (sOk_app sOk_empty (sOk_of _)) (sOk_of _))
theorem flt_txt {k : Nat} (p : Nat) (rs : List Rw) : Flt k (.str (txtS p rs)) := .str (sOk_txt p rs)
theorem txtS_len (hp : p < 10) (h : Good p rs) (hl : rs.length < 100) : (txtS p rs).length ≤ 10000 := by
  have h1 := txt_len p hp rs (fun r hr => (h.row r hr).small hp) ((Str.empty ++ ("places " : Str)) ++ nS p)
  have e0 : ((Str.empty ++ ("places " : Str)) ++ nS p).length ≤ 8 := by
    have e1 : (Str.empty).length = 0 := by decide
    have e2 : (("places " : Str)).length = 7 := by decide
    have e3 := nS_len hp
    rw [Str.length_append, Str.length_append]; omega
  unfold txtS
  omega
end Dl
namespace Dl
open PySem PySem.Spec PyProof.Rows L2
/-! ### what is shown by repr() -/
inductive Shw : Nat → Nat → Dt → Prop
  | non {k n : Nat} (h : 4 ≤ n) : Shw k n .non
  | bl {k n : Nat} (b : Bool) (h : 5 ≤ n) : Shw k n (.bl b)
  | nat {k n : Nat} {m : Nat} (hm : m < 10 ^ 10) (h : 10 ≤ n) : Shw k n (nD m)
  | tup {k n c l : Nat} {xs : List Dt} (h : ∀ x ∈ xs, Shw k n x) (hl : xs.length ≤ l) (hc : (n + 2) * l + 3 ≤ c) : Shw (k + 1) c (.tup xs)
structure ShP (k n : Nat) (d : Dt) (p : PyData) : Prop where
  e : toPy d = some p
  sh : p.showable = true
  nd : p.hasDict = false
  dep : p.depth ≤ k
  len : p.shown.length ≤ n
  ok : PyData.strOk p.shown = true
theorem ok_of (s : String) : PyData.strOk (Str.ofString s) = true := by simpa [PyData.canLay0] using strOk_of s
theorem ok_app {a b : Str} (ha : PyData.strOk a = true) (hb : PyData.strOk b = true) : PyData.strOk (a ++ b) = true := by
  show (a.cps ++ b.cps).all _ = true
  rw [Array.all_append, Bool.and_eq_true]
  exact ⟨ha, hb⟩
theorem ok_join {s : Str} (hs : PyData.strOk s = true) : ∀ ts : List Str, (∀ t ∈ ts, PyData.strOk t = true) → PyData.strOk (Str.join s ts) = true
  | [], _ => ok_of ""
  | [t], h => h t (by simp)
  | t :: u :: ts, h => by
    show PyData.strOk (t ++ s ++ Str.join s (u :: ts)) = true
    exact ok_app (ok_app (h t (by simp)) hs) (ok_join hs (u :: ts) fun y hy => h y (by simp [hy]))
theorem shp_all {k n : Nat} : ∀ {xs : List Dt}, (∀ x ∈ xs, ∃ p, ShP k n x p) → ∃ ps, toPys xs = some ps ∧ PyData.showableAll ps = true ∧ PyData.hasDictAll ps = false ∧ PyData.depthAll ps ≤ k ∧ (PyData.shownAll ps).length = xs.length ∧ ∀ t ∈ PyData.shownAll ps, t.length ≤ n ∧ PyData.strOk t = true
  | [], _ => ⟨[], rfl, by simp [PyData.showableAll], by simp [PyData.hasDictAll], by simp [PyData.depthAll], by simp [PyData.shownAll], by simp [PyData.shownAll]⟩
  | x :: xs, h => by
    obtain ⟨p, h1⟩ := h x (by simp)
    obtain ⟨ps, h2, h3, h4, h5, h6, h7⟩ := shp_all (xs := xs) fun y hy => h y (by simp [hy])
    refine ⟨p :: ps, ?_, ?_, ?_, ?_, ?_, ?_⟩
    · unfold toPys; rw [h1.e, h2]
    · simp [PyData.showableAll, h1.sh, h3]
    · simp [PyData.hasDictAll, h1.nd, h4]
    · simp only [PyData.depthAll]; have := h1.dep; omega
    · simp [PyData.shownAll, h6]
    · intro t ht
      simp only [PyData.shownAll, List.mem_cons] at ht
      rcases ht with rfl | ht
      · exact ⟨h1.len, h1.ok⟩
      · exact h7 t ht
theorem piled_le {n : Nat} : ∀ (ts : List Str), (∀ t ∈ ts, t.length ≤ n) → piled ts ≤ (n + 2) * ts.length
  | [], _ => by simp [piled]
  | t :: ts, h => by
    have := piled_le ts fun y hy => h y (by simp [hy])
    have h1 := h t (by simp)
    unfold piled at this ⊢
    rw [List.map_cons, List.sum_cons, List.length_cons, Nat.mul_succ]
    omega
theorem tupText_le {n : Nat} {ts : List Str} (h : ∀ t ∈ ts, t.length ≤ n) : (tupleText ts).length ≤ (n + 2) * ts.length + 3 := by
  have hj : (Str.join ", " ts).length ≤ (n + 2) * ts.length := by
    cases ts with
    | nil => exact Nat.le_of_eq rfl
    | cons t r =>
      have := join_length_add (t :: r) (by simp)
      have := piled_le _ h
      omega
  unfold tupleText
  rw [strLen_append, strLen_append]
  have e1 : (("(" : String) : Str).length = 1 := rfl
  have e2 : ((if ts.length == 1 then ",)" else ")" : String) : Str).length ≤ 2 := by split <;> decide
  omega
theorem Shw.py {k n : Nat} {d : Dt} (h : Shw k n d) : ∃ p, ShP k n d p := by
  induction h with
  | non h => exact ⟨.none, rfl, by simp [PyData.showable], by simp [PyData.hasDict], by simp [PyData.depth], by simp only [PyData.shown]; exact h, by simp only [PyData.shown]; exact ok_of _⟩
  | bl b h => exact ⟨.bool b, rfl, by simp [PyData.showable], by simp [PyData.hasDict], by simp [PyData.depth], by simp only [PyData.shown]; cases b <;> exact Nat.le_trans (by decide) h, by simp only [PyData.shown]; cases b <;> exact ok_of _⟩
  | @nat k n m hm h =>
    refine ⟨.int (m : Int), rfl, ?_, by simp [PyData.hasDict], by simp [PyData.depth], ?_, by simp only [PyData.shown]; exact ok_of _⟩
    · simp only [PyData.showable, decide_eq_true_eq]
      have : (m : Int).natAbs.log2 ≤ 34 := by
        rw [Int.natAbs_natCast]
        by_cases z : m = 0
        · subst z; decide
        · exact Nat.le_of_lt_succ ((Nat.log2_lt z).mpr (Nat.lt_trans hm (by decide)))
      omega
    · simp only [PyData.shown]
      exact Nat.le_trans (toString_length_le (by omega) (k := 10) (by decide) (by exact_mod_cast hm)) h
  | @tup k n c l xs h hl hc ih =>
    obtain ⟨ps, h1, h2, h3, h4, h5, h6⟩ := shp_all ih
    refine ⟨.tuple ps, by unfold toPy; rw [h1]; rfl, by simpa [PyData.showable] using h2, by simpa [PyData.hasDict] using h3, by simp only [PyData.depth]; omega, ?_, ?_⟩
    rotate_left
    · simp only [PyData.shown]
      unfold tupleText
      exact ok_app (ok_app (ok_of _) (ok_join (ok_of _) _ fun t ht => (h6 t ht).2)) (ok_of _)
    simp only [PyData.shown]
    have := tupText_le fun t ht => (h6 t ht).1
    rw [h5] at this
    have := Nat.mul_le_mul_left (n + 2) hl
    omega
/-- it is shown by some text -/
def Rp (d : Dt) : Prop := ∃ t, fReprD d = some (.str t) ∧ PyData.strOk t = true
end Dl
namespace Dl
open PySem PySem.Spec PyProof.Rows L2
variable {p : Nat} {rs : List Rw} {D b : Nat} {K L : List Lk} {most : Nat}
/-! ### wheels by themselves -/
/-! ### one turning missed, or made -/
theorem cost_at {α : Type} {g g0 : α → Nat × Nat × Option Bool} : ∀ {A B : List α} {P : α} {k : Nat}, costL ((A ++ P :: B).map g0) = some k → (∀ y ∈ A, g y = g0 y) → (∀ y ∈ B, g y = g0 y) → ∃ k0, leadP (g0 P).1 (g0 P).2.1 (g0 P).2.2 = some k0 ∧ k0 ≤ k ∧ costL ((A ++ P :: B).map g) = (leadP (g P).1 (g P).2.1 (g P).2.2).map fun y => k - k0 + y
  | [], B, P, k, hc, _, hB => by
    rw [List.nil_append, List.map_cons] at hc ⊢
    rw [show B.map g = B.map g0 from List.map_congr_left hB]
    unfold costL at hc ⊢
    cases h0 : leadP (g0 P).1 (g0 P).2.1 (g0 P).2.2 with
    | none => rw [h0] at hc; cases hc
    | some k0 =>
      rw [h0] at hc
      cases hr : costL (B.map g0) with
      | none => rw [hr] at hc; cases hc
      | some kb =>
        rw [hr] at hc
        have hk : k0 + kb = k := Option.some.inj hc
        refine ⟨k0, rfl, by omega, ?_⟩
        cases leadP (g P).1 (g P).2.1 (g P).2.2 with
        | none => rfl
        | some y => show some (y + kb) = some (k - k0 + y); congr 1; omega
  | a :: A, B, P, k, hc, hA, hB => by
    rw [List.cons_append, List.map_cons] at hc ⊢
    unfold costL at hc ⊢
    rw [hA a (by simp)]
    cases h0 : leadP (g0 a).1 (g0 a).2.1 (g0 a).2.2 with
    | none => rw [h0] at hc; cases hc
    | some ka =>
      rw [h0] at hc
      cases hr : costL ((A ++ P :: B).map g0) with
      | none => rw [hr] at hc; cases hc
      | some kr =>
        rw [hr] at hc
        have hk : ka + kr = k := Option.some.inj hc
        obtain ⟨k0, i1, i2, i3⟩ := cost_at hr (fun y hy => hA y (by simp [hy])) hB
        refine ⟨k0, i1, by omega, ?_⟩
        dsimp only
        rw [i3]
        cases leadP (g P).1 (g P).2.1 (g P).2.2 with
        | none => rfl
        | some y => show some (ka + (kr - k0 + y)) = some (k - k0 + y); congr 1; omega
theorem an_m (h : Sn p rs D b K) {x : Pr} (hx : x ∈ dueP p rs D) : anM (fitL p rs D b K) x = canB (costL (numsOf (dueP p rs D) p D (lksOf p D K) [x] [])) b := by
  rw [can_w h (M := [x]) (N := []) (fun _ _ z => by cases z)]
  unfold wMN anM
  rw [pos_any, show okMN [x] [] (dueP p rs D) = fun M => decide (x ∈ M) from funext fun M => ok_m hx M]
theorem an_n (h : Sn p rs D b K) {x : Pr} (hx : x ∈ dueP p rs D) : anN (fitL p rs D b K) x = canB (costL (numsOf (dueP p rs D) p D (lksOf p D K) [] [x])) b := by
  rw [can_w h (M := []) (N := [x]) (fun _ z => by cases z)]
  unfold wMN anN
  rw [pos_any, show okMN [] [x] (dueP p rs D) = fun M => !decide (x ∈ M) from funext fun M => ok_n hx M]
/-- the numbers of parts, with one turning missed or made -/
theorem gone_one {l : List Pr} {x : Pr} (nd : l.Nodup) (hx : x ∈ l) : goneN [x] l = 1 := by
  unfold goneN
  rw [List.countP_eq_length_filter]
  have := filter_eq_one nd hx
  rw [← this]
  exact congrArg List.length (List.filter_congr fun y _ => Bool.eq_iff_iff.mpr (by simp))
theorem gone_none {l : List Pr} {x : Pr} (hx : x ∉ l) : goneN [x] l = 0 := by
  unfold goneN
  rw [List.countP_eq_zero]
  intro y hy z
  simp at z
  exact hx (z ▸ hy)
theorem gone_nil (l : List Pr) : goneN [] l = 0 := by unfold goneN; simp
theorem free_nil (l : List Pr) : freeN [] [] l = l.length := by unfold freeN; simp [List.countP_eq_length_filter]
theorem free_m (l : List Pr) (x : Pr) : freeN [x] [] l + goneN [x] l = l.length := by
  unfold freeN goneN
  induction l with
  | nil => rfl
  | cons a l ih =>
    rw [List.countP_cons, List.countP_cons, List.length_cons]
    by_cases h : a = x
    · simp [h] at ih ⊢; omega
    · simp [h] at ih ⊢; omega
theorem free_n (l : List Pr) (x : Pr) : freeN [] [x] l + goneN [x] l = l.length := by
  unfold freeN goneN
  induction l with
  | nil => rfl
  | cons a l ih =>
    rw [List.countP_cons, List.countP_cons, List.length_cons]
    by_cases h : a = x
    · simp [h] at ih ⊢; omega
    · simp [h] at ih ⊢; omega
theorem split_part {x : Pr} {P : Nat × Str3} {K : List Lk3} (hK : LooksOk p D K) {U : List Pr} (hP : P ∈ prts U p D K) (hq : qOf P x = true) : ∃ A B, prts U p D K = A ++ P :: B ∧ (∀ y ∈ A, x ∉ U.filter (qOf y)) ∧ (∀ y ∈ B, x ∉ U.filter (qOf y)) := by
  obtain ⟨A, B, e⟩ := List.append_of_mem hP
  have hp := prts_apart (U := U) hK
  rw [e, List.pairwise_append] at hp
  refine ⟨A, B, e, fun y hy hz => ?_, fun y hy hz => ?_⟩
  · exact hp.2.2 y hy P (by simp) x ⟨(List.mem_filter.mp hz).2, hq⟩
  · exact (List.pairwise_cons.mp hp.2.1).1 y hy x ⟨hq, (List.mem_filter.mp hz).2⟩
/-- with no budget to spare a turning is told by its stretch -/
theorem tight {k : Nat} (h : Sn p rs D k K) (hk : cstO p rs D K = some k) {x : Pr} {P : Nat × Str3} (hP : P ∈ prts (dueP p rs D) p D (lksOf p D K)) (hx : x ∈ (dueP p rs D).filter (qOf P)) : anM (fitL p rs D k K) x = isT P.2.2.2 ∧ (isT P.2.2.2 = true → anN (fitL p rs D k K) x = decide (1 < ((dueP p rs D).filter (qOf P)).length)) := by
  obtain ⟨hxU, hxq⟩ := List.mem_filter.mp hx
  obtain ⟨A, B, e, hA, hB⟩ := split_part (lks_ok (p := p) (D := D) K) hP hxq
  let U := dueP p rs D
  let g0 : Nat × Str3 → Nat × Nat × Option Bool := fun y => (goneN [] (U.filter (qOf y)), freeN [] [] (U.filter (qOf y)), y.2.2.2)
  let g1 : Nat × Str3 → Nat × Nat × Option Bool := fun y => (goneN [x] (U.filter (qOf y)), freeN [x] [] (U.filter (qOf y)), y.2.2.2)
  let g2 : Nat × Str3 → Nat × Nat × Option Bool := fun y => (goneN [] (U.filter (qOf y)), freeN [] [x] (U.filter (qOf y)), y.2.2.2)
  have s1 : ∀ y, x ∉ U.filter (qOf y) → g1 y = g0 y := fun y hy => by
    have a := gone_none hy
    have c := free_m (U.filter (qOf y)) x
    show (_, _, _) = (_, _, _)
    rw [a, gone_nil, free_nil, show freeN [x] [] (U.filter (qOf y)) = (U.filter (qOf y)).length by omega]
  have s2 : ∀ y, x ∉ U.filter (qOf y) → g2 y = g0 y := fun y hy => by
    have a := gone_none hy
    have c := free_n (U.filter (qOf y)) x
    show (_, _, _) = (_, _, _)
    rw [gone_nil, free_nil, show freeN [] [x] (U.filter (qOf y)) = (U.filter (qOf y)).length by omega]
  have hc : costL ((A ++ P :: B).map g0) = some k := by rw [← e]; exact hk
  obtain ⟨k0, i1, i2, i3⟩ := cost_at (g := g1) hc (fun y hy => s1 y (hA y hy)) (fun y hy => s1 y (hB y hy))
  obtain ⟨k0', j1, j2, j3⟩ := cost_at (g := g2) hc (fun y hy => s2 y (hA y hy)) (fun y hy => s2 y (hB y hy))
  have hg := gone_one ((dueP_nodup (p := p) (rs := rs) D).filter (qOf P)) hx
  have hfm := free_m ((dueP p rs D).filter (qOf P)) x
  have hfn := free_n ((dueP p rs D).filter (qOf P)) x
  have l0 : leadP (g0 P).1 (g0 P).2.1 (g0 P).2.2 = leadP 0 (U.filter (qOf P)).length P.2.2.2 := by show leadP (goneN [] _) (freeN [] [] _) _ = _; rw [gone_nil, free_nil]
  have l1 : leadP (g1 P).1 (g1 P).2.1 (g1 P).2.2 = leadP 1 ((U.filter (qOf P)).length - 1) P.2.2.2 := by
    show leadP (goneN [x] (U.filter (qOf P))) (freeN [x] [] (U.filter (qOf P))) _ = _
    rw [show goneN [x] (U.filter (qOf P)) = 1 from hg, show freeN [x] [] (U.filter (qOf P)) = (U.filter (qOf P)).length - 1 by show freeN [x] [] ((dueP p rs D).filter (qOf P)) = ((dueP p rs D).filter (qOf P)).length - 1; omega]
  have l2 : leadP (g2 P).1 (g2 P).2.1 (g2 P).2.2 = leadP 0 ((U.filter (qOf P)).length - 1) P.2.2.2 := by
    show leadP (goneN [] (U.filter (qOf P))) (freeN [] [x] (U.filter (qOf P))) _ = _
    rw [gone_nil, show freeN [] [x] (U.filter (qOf P)) = (U.filter (qOf P)).length - 1 by show freeN [] [x] ((dueP p rs D).filter (qOf P)) = ((dueP p rs D).filter (qOf P)).length - 1; omega]
  rw [l0] at i1 j1
  rw [l1] at i3
  rw [l2] at j3
  rw [an_m h hxU, an_n h hxU]
  have n1 : numsOf (dueP p rs D) p D (lksOf p D K) [x] [] = (A ++ P :: B).map g1 := by rw [← e]; rfl
  have n2 : numsOf (dueP p rs D) p D (lksOf p D K) [] [x] = (A ++ P :: B).map g2 := by rw [← e]; rfl
  rw [n1, n2, i3, j3]
  have hlp : 0 < (U.filter (qOf P)).length := List.length_pos_of_mem hx
  show canB _ k = _ ∧ (_ → canB _ k = decide (1 < (U.filter (qOf P)).length))
  generalize (U.filter (qOf P)).length = n at i1 j1 hlp ⊢
  generalize P.2.2.2 = o at i1 j1 ⊢
  rw [leadP_isE] at i1 j1 ⊢
  rw [leadP_isE]
  cases o with
  | none =>
    simp [isE] at i1 j1
    subst i1
    refine ⟨?_, fun z => by cases z⟩
    show decide (k - 0 + 1 ≤ k) = false
    exact decide_eq_false (by omega)
  | some c =>
    cases c with
    | false =>
      simp [isE] at i1 j1
      subst i1
      refine ⟨?_, fun z => by cases z⟩
      simp only [isE]
      by_cases hn : n - 1 = 0
      · simp [hn, canB, isT]
      · simp [hn, canB, isT] <;> omega
    | true =>
      simp [isE, Nat.pos_iff_ne_zero.mp hlp] at i1 j1
      subst i1
      refine ⟨?_, fun _ => ?_⟩
      · simp [isE, canB, isT] <;> omega
      · simp only [isE]
        by_cases hn : n - 1 = 0
        · have : ¬ 1 < n := by omega
          simp [hn, canB, this]
        · have : 1 < n := by omega
          subst j1
          simp [hn, canB, this] <;> omega
end Dl
namespace Dl
open PySem PySem.Spec PyProof.Rows L2
variable {p : Nat} {rs : List Rw} {D b : Nat} {K : List Lk} {most : Nat}
/-! ### parts of rows -/
theorem fne_bl (x y : Bool) : fNe (.bl x) (.bl y) = some (.bl (x != y)) := by cases x <;> cases y <;> rfl
end Dl
namespace Dl
open PySem PySem.Spec PyProof.Rows L2
variable {p : Nat} {rs : List Rw}
/-! ### the law's own text of a rota, again -/
def textB2 : En → So := (sSeq (sSet 4 (mLc (mSeqI (m1N fSorted (mLc (mSeqI (mVar 2)) (gV 6) (mPure true) (m1 fInt (mPeek 6)) [6]))) (gV 6) (mPure true) (m1 fStr (mPeek 6)) [6]))
  (sSeq (sSet 5 (m2 fAdd (m2 fAdd (mLst (mCons (mPure (.str "turn")) (mPure []))) (mIfE (mB (m1 (fun d => fNe d (.lst [])) (mPeek 4))) (mVar 4) (mLst (mCons (mPure (.str "none")) (mPure []))))) (mLst (mCons (mPure (.str "move")) (mPure [])))))
  (sDrop (ownLst 1 (mAppend 1 (mJoin (mPure (.str " ")) (m2 fAdd (mVar 5) (mLc (mSeqI (mVar 3)) (gV 6) (mPure true) (m1 fStr (mPeek 6)) [6]))))))))
theorem law_text_v2_ok (hp : p < 10) (h : Good p rs) (h1p : 1 ≤ p) (hl : rs.length < 100) : m_law_text_v2 [toldD p rs] = .ret (.str (txtS p (srt rs))) .non := by
  let E (ls : List Str) (s2 s3 s4 s5 : Option Dt) : En := [vl (toldD p rs), ow (.lst (ls.map .str)), lv s2, lv s3, lv s4, lv s5, none]
  let l0 : Str := ("places " : Str) ++ nS p
  have loop := forGo_inv (g := gT (gsC (gV 2) (gsC (gV 3) gsN)) 2) (bd := textB2) trowD (fun pre ρ => ∃ s2 s3 s4 s5, ρ = E (l0 :: (pre.map srt1).map lineL) s2 s3 s4 s5) rs [] (E [l0] none none none none) ⟨none, none, none, none, rfl⟩ (by
    rintro pre r post ρ e ⟨s2, s3, s4, s5, rfl⟩
    rw [List.nil_append] at e
    have hr : GoodRow p r := h.row r (by rw [e]; simp)
    have hs : SmallRow (srt1 r) := hr.srt.small hp
    have hlen : pre.length < 100 := by
      have := congrArg List.length e
      rw [List.length_append, List.length_cons] at this
      omega
    let ls := l0 :: (pre.map srt1).map lineL
    let F (s4 s5 : Option Dt) : En := E ls (some (.lst (r.1.map nD))) (some (.lst (r.2.map nD))) s4 s5
    let sp : List Str := (sortN r.1).map nS
    let wd : List Str := ([("turn" : Str)] ++ (if 0 < (sortN r.1).length then sp else [("none" : Str)])) ++ [("move" : Str)]
    have hsl : (sortN r.1).length = r.1.length := (sortN_perm r.1).length_eq
    have hl1 : r.1.length ≤ 10 := by have := hs.l1; rw [show (srt1 r).1 = sortN r.1 from rfl, hsl] at this; exact this
    have hl2 : r.2.length ≤ 10 := hs.l2
    have wl : ∀ {mi : Mi (List Dt)} (l : List Nat) s4 s5, l.length ≤ 10 → (∀ x ∈ l, x < 10) → mi (F s4 s5) = .ok (l.map nD) (F s4 s5) → mLc mi (gV 6) (mPure true) (m1 fStr (mPeek 6)) [6] (F s4 s5) = .ok (.lst ((l.map nS).map .str)) (F s4 s5) := fun l s4 s5 e1 e2 e3 => by
      have e4 := lc_map (g := gV 6) (e := m1 fStr (mPeek 6)) (vs := [6]) (ρ := F s4 s5) (ρ0 := F s4 s5) l nD (fun n => .str (nS n)) e3 rfl (fun x hx => ⟨E ls (some (.lst (r.1.map nD))) (some (.lst (r.2.map nD))) s4 s5 |>.set 6 (vl (nD x)), rfl, E ls (some (.lst (r.1.map nD))) (some (.lst (r.2.map nD))) s4 s5 |>.set 6 (vl (nD x)), m1_ok (x := nD x) rfl (fStr_nat (e2 x hx)), rfl⟩) (by omega)
      rw [e4, List.map_map]; rfl
    have st1 : sSet 4 (mLc (mSeqI (m1N fSorted (mLc (mSeqI (mVar 2)) (gV 6) (mPure true) (m1 fInt (mPeek 6)) [6]))) (gV 6) (mPure true) (m1 fStr (mPeek 6)) [6]) (F s4 s5) = .nx (F (some (.lst (sp.map .str))) s5) := by
      refine set_ok (wl (sortN r.1) s4 s5 (by omega) hs.a1 (bind_ok (a := .lst ((sortN r.1).map nD)) (ρ1 := F s4 s5) (m1N_ok (x := .lst (r.1.map nD)) (ints_ok (m := mPure .non) (b := false) rfl rfl (by omega)) (sorted_nat r.1)) rfl)) (by cases s4 <;> rfl)
    have st2 : sSet 5 (m2 fAdd (m2 fAdd (mLst (mCons (mPure (.str "turn")) (mPure []))) (mIfE (mB (m1 (fun d => fNe d (.lst [])) (mPeek 4))) (mVar 4) (mLst (mCons (mPure (.str "none")) (mPure []))))) (mLst (mCons (mPure (.str "move")) (mPure [])))) (F (some (.lst (sp.map .str))) s5) = .nx (F (some (.lst (sp.map .str))) (some (.lst (wd.map .str)))) := by
      have et : mB (m1 (fun d => fNe d (.lst [])) (mPeek 4)) (F (some (.lst (sp.map .str))) s5) = .ok (decide (0 < (sortN r.1).length)) (F (some (.lst (sp.map .str))) s5) := by
        refine tb_ok (m1_ok (x := .lst (sp.map .str)) rfl ?_)
        show fNe (.lst (sp.map .str)) (.lst []) = _
        have e9 : sp.map Dt.str = (sortN r.1).map fun (n : Nat) => Dt.str (Str.ofString (toString (n : Int))) := by
          show ((sortN r.1).map nS).map Dt.str = _
          rw [List.map_map]; rfl
        rw [e9, lne_empty (flt_strs _ _), List.length_map]
      have hsp : sp.length ≤ 10 := by show ((sortN r.1).map nS).length ≤ 10; rw [List.length_map]; omega
      by_cases hz : 0 < (sortN r.1).length
      · rw [decide_eq_true hz] at et
        have hw : wd = ([("turn" : Str)] ++ sp) ++ [("move" : Str)] := by show ([("turn" : Str)] ++ (if 0 < (sortN r.1).length then sp else _)) ++ _ = _; rw [if_pos hz]
        rw [hw]
        refine set_ok (d := .lst ((([("turn" : Str)] ++ sp) ++ [("move" : Str)]).map .str)) (m2_ok (x := .lst (([("turn" : Str)] ++ sp).map .str)) (m2_ok (x := .lst [.str "turn"]) (y := .lst (sp.map .str)) rfl (ife_t et rfl) ((cat_lst (by simp only [List.length_cons, List.length_nil, List.length_map]; omega)).trans (by rw [List.map_append]; rfl))) (y := .lst [.str "move"]) rfl ((cat_lst (by simp only [List.length_cons, List.length_nil, List.length_map, List.length_append]; omega)).trans (by simp only [List.map_append]; rfl))) (by cases s5 <;> rfl)
      · rw [decide_eq_false hz] at et
        have hw : wd = ([("turn" : Str)] ++ [("none" : Str)]) ++ [("move" : Str)] := by show ([("turn" : Str)] ++ (if 0 < (sortN r.1).length then sp else _)) ++ _ = _; rw [if_neg hz]
        rw [hw]
        refine set_ok (m2_ok (x := .lst (([("turn" : Str)] ++ [("none" : Str)]).map .str)) (m2_ok (x := .lst [.str "turn"]) (y := .lst [.str "none"]) rfl (ife_f et rfl) (cat_lst (by simp))) (y := .lst [.str "move"]) rfl (cat_lst (by simp))) (by cases s5 <;> rfl)
    have hwl := wordsL_len (srt1 r) hs
    have hwd : wordsL (srt1 r) = wd ++ r.2.map nS := rfl
    have hwdl : wd.length ≤ 30 := by rw [hwd, List.length_append] at hwl; omega
    have st3 : sDrop (ownLst 1 (mAppend 1 (mJoin (mPure (.str " ")) (m2 fAdd (mVar 5) (mLc (mSeqI (mVar 3)) (gV 6) (mPure true) (m1 fStr (mPeek 6)) [6]))))) (F (some (.lst (sp.map .str))) (some (.lst (wd.map .str)))) = .nx (E (ls ++ [lineL (srt1 r)]) (some (.lst (r.1.map nD))) (some (.lst (r.2.map nD))) (some (.lst (sp.map .str))) (some (.lst (wd.map .str)))) := by
      refine drop_ok (append_ok (es := ls.map .str) (d := .str (lineL (srt1 r))) (ρ1 := F (some (.lst (sp.map .str))) (some (.lst (wd.map .str)))) rfl (joinW_ok (ys := wordsL (srt1 r)) (m2_ok (x := .lst (wd.map .str)) rfl (wl r.2 _ _ hl2 hs.a2 rfl) ((cat_lst (by rw [List.length_map, List.length_map, List.length_map]; omega)).trans (congrArg (fun z => some (Dt.lst z)) (List.map_append (f := Dt.str) (l₁ := wd) (l₂ := r.2.map nS)).symm))) (by rw [sep_len]; omega)) (ds := ls.map .str) rfl (by
        show (List.map Dt.str (l0 :: (pre.map srt1).map lineL)).length < 1000000
        rw [List.length_map, List.length_cons, List.length_map, List.length_map]; omega) ?_)
      show [vl (toldD p rs), ow (.lst (ls.map .str ++ [.str (lineL (srt1 r))])), _, _, _, _, none] = [vl (toldD p rs), ow (.lst ((ls ++ [lineL (srt1 r)]).map .str)), _, _, _, _, none]
      have em : (ls ++ [lineL (srt1 r)]).map Dt.str = ls.map .str ++ [.str (lineL (srt1 r))] := List.map_append
      rw [em]
    refine ⟨F s4 s5, by cases s2 <;> cases s3 <;> rfl, _, .inl (seq_nx st1 (seq_nx st2 st3)), some (.lst (r.1.map nD)), some (.lst (r.2.map nD)), some (.lst (sp.map .str)), some (.lst (wd.map .str)), ?_⟩
    have em : l0 :: ((pre ++ [r]).map srt1).map lineL = l0 :: (pre.map srt1).map lineL ++ [lineL (srt1 r)] := by rw [List.map_append, List.map_append]; rfl
    rw [em])
  obtain ⟨ρ', g1, s2, s3, s4, s5, rfl⟩ := loop
  rw [List.nil_append] at g1
  have hnp := nS_len (n := p) hp
  have e7 : (("places " : Str)).length = 7 := by decide
  have ej : txtS p (srt rs) = Str.join ("\n" : Str) (l0 :: (rs.map srt1).map lineL) := by
    rw [txt_join (p := p) (rs := srt rs) (fun r hr => by
      have := (h.srt.row r hr).len
      omega)]
    rfl
  refine runF_rt (ρ := E (l0 :: (rs.map srt1).map lineL) s2 s3 s4 s5) ?_ rfl
  unfold b_law_text_v2
  refine seq_nx (ρ' := E [l0] none none none none) (setN_ok (d := .lst [.str l0]) (ρ1 := [vl (toldD p rs), none, none, none, none, none, none]) (lst_ok (cons_ok (m2_ok (x := .str ("places " : Str)) (y := .str (nS p)) rfl (m1_ok (x := nD p) rfl (fStr_nat hp)) ?_) rfl) (sl_le (by simp))) rfl) (seq_nx (for_ok (ds := rs.map trowD) rfl g1) ?_)
  · show (if (("places " : Str)).length + (nS p).length ≤ sizeLine then _ else _) = _
    rw [if_pos (sl_le (by omega))]
  · rw [ej]
    refine ret_ok (joinW_ok (m := mPeek 1) rfl ?_)
    have hsum : ∀ l : List Rw, (∀ r ∈ l, SmallRow r) → ((l.map lineL).map (·.length)).sum ≤ 90 * l.length := fun l => by
      induction l with
      | nil => intro _; exact Nat.le_refl _
      | cons x l ih =>
        intro hx
        have h1 := lineL_len x (hx x (by simp))
        have h2 := ih fun y hy => hx y (by simp [hy])
        simp only [List.map_cons, List.sum_cons, List.length_cons]
        omega
    have h9 := hsum (rs.map srt1) fun r hr => by
      obtain ⟨r', hr', rfl⟩ := List.mem_map.mp hr
      exact (h.row r' hr').srt.small hp
    have h10 : l0.length = 7 + (nS p).length := by show (("places " : Str) ++ nS p).length = _; rw [Str.length_append, e7]
    have h11 : (("\n" : Str)).length = 1 := by decide
    simp only [List.map_cons, List.sum_cons, List.length_cons, List.length_map] at h9 ⊢
    rw [h11, h10]
    omega
theorem rota_str (h : (txtS p rs).length ≤ 1000000) : fOwn1 0 m_Rota_str okTxt (rotaD p rs) = some (.str (txtS p rs)) := by
  have e : m_Rota_str [rotaD p rs] = .ret (.str (txtS p rs)) .non := runF_rt (ρ := [vl (rotaD p rs)]) (ret_ok (m1_ok (x := .str (txtS p rs)) rfl (fmt_str h))) rfl
  unfold fOwn1
  show (if (0 : Nat) = 0 then _ else _) = _
  rw [if_pos rfl]
  show (match m_Rota_str [rotaD p rs] with | .ret z _ => if okTxt z = true then some z else none | _ => none) = _
  rw [e]; rfl
end Dl
namespace Dl
open PySem PySem.Spec PyProof.Rows L2
variable {p : Nat} {rs : List Rw}
/-! ### shown, compared -/
theorem rp_shp2 {k n : Nat} {d : Dt} (h : ∃ p, ShP k n d p) (hk : k ≤ 40) (hn : n ≤ 1000000) : Rp d := by
  obtain ⟨p, hp⟩ := h
  refine ⟨p.shown, ?_, hp.ok⟩
  have ok : shOk p = true := by
    unfold shOk
    rw [hp.sh, hp.nd, decide_eq_true (Nat.le_trans hp.dep hk), decide_eq_true (Nat.le_trans (Nat.le_trans hp.len hn) (by decide))]; rfl
  unfold fReprD
  rw [hp.e]; dsimp only
  rw [if_pos ok]
theorem shp_lst2 {k n c l : Nat} {xs : List Dt} (ih : ∀ x ∈ xs, ∃ p, ShP k n x p) (hl : xs.length ≤ l) (hc : (n + 2) * l + 3 ≤ c) : ∃ p, ShP (k + 1) c (.lst xs) p := by
  obtain ⟨ps, h1, h2, h3, h4, h5, h6⟩ := shp_all ih
  refine ⟨.list ps, by unfold toPy; rw [h1]; rfl, by simpa [PyData.showable] using h2, by simpa [PyData.hasDict] using h3, by simp only [PyData.depth]; omega, ?_, ?_⟩
  rotate_left
  · simp only [PyData.shown]
    rw [listText_eq_join]
    exact ok_app (ok_app (ok_of _) (ok_join (ok_of _) _ fun t ht => (h6 t ht).2)) (ok_of _)
  simp only [PyData.shown]
  have hj : (Str.join ", " (PyData.shownAll ps)).length ≤ (n + 2) * (PyData.shownAll ps).length := by
    have hp := piled_le (PyData.shownAll ps) fun t ht => (h6 t ht).1
    generalize PyData.shownAll ps = ts at hp
    cases ts with
    | nil => exact Nat.le_of_eq rfl
    | cons t r =>
      have := join_length_add (t :: r) (by simp)
      omega
  rw [listText_eq_join, strLen_append, strLen_append]
  have e1 : (("[" : String) : Str).length = 1 := rfl
  have e2 : (("]" : String) : Str).length = 1 := rfl
  rw [h5] at hj
  have := Nat.mul_le_mul_left (n + 2) hl
  omega
theorem shp_tup2 {k n c l : Nat} {xs : List Dt} (ih : ∀ x ∈ xs, ∃ p, ShP k n x p) (hl : xs.length ≤ l) (hc : (n + 2) * l + 3 ≤ c) : ∃ p, ShP (k + 1) c (.tup xs) p := by
  obtain ⟨ps, h1, h2, h3, h4, h5, h6⟩ := shp_all ih
  refine ⟨.tuple ps, by unfold toPy; rw [h1]; rfl, by simpa [PyData.showable] using h2, by simpa [PyData.hasDict] using h3, by simp only [PyData.depth]; omega, ?_, ?_⟩
  rotate_left
  · simp only [PyData.shown]
    unfold tupleText
    exact ok_app (ok_app (ok_of _) (ok_join (ok_of _) _ fun t ht => (h6 t ht).2)) (ok_of _)
  simp only [PyData.shown]
  have := tupText_le fun t ht => (h6 t ht).1
  rw [h5] at this
  have := Nat.mul_le_mul_left (n + 2) hl
  omega
theorem shp_nats2 {l : List Nat} (hl : l.length ≤ 10) (h : ∀ x ∈ l, x < 10) : ∃ q, ShP 1 123 (.lst (l.map nD)) q := shp_lst2 (k := 0) (n := 10) (l := 10) (fun x hx => by
  obtain ⟨m, hm, rfl⟩ := List.mem_map.mp hx
  exact (Shw.nat (k := 0) (Nat.lt_trans (h m hm) (by decide)) (Nat.le_refl _)).py) (by rw [List.length_map]; exact hl) (by decide)
theorem rp_rows (hp : p < 10) (h : Good p rs) (hl : rs.length ≤ 100) : Rp (.lst (rs.map trowD)) := rp_shp2 (k := 3) (n := 30000) (shp_lst2 (k := 2) (n := 253) (l := 100) (fun x hx => by
  obtain ⟨r, hr, rfl⟩ := List.mem_map.mp hx
  have hs := (h.row r hr).small hp
  exact shp_tup2 (k := 1) (n := 123) (l := 2) (fun y hy => by
    rcases List.mem_cons.mp hy with rfl | hy
    · exact shp_nats2 hs.l1 hs.a1
    · rw [List.mem_singleton.mp hy]; exact shp_nats2 hs.l2 hs.a2) (by simp) (by decide)) (by rw [List.length_map]; exact hl) (by decide)) (by decide) (by decide)
theorem feq_s02 {x y : Str} (hx : sOk x) (hy : sOk y) : fEq (.str x) (.str y) = some (.bl (x == y)) := by
  obtain ⟨q1, h1⟩ := (Flt.str (k := 0) hx).py
  obtain ⟨q2, h2⟩ := (Flt.str (k := 0) hy).py
  have e1 : toPy (.str x) = some (.str x) := rfl
  have e2 : toPy (.str y) = some (.str y) := rfl
  have s1 := h1.shaped (by decide)
  have s2 := h2.shaped (by decide)
  have q1' : q1 = .str x := Option.some.inj (h1.e.symm.trans e1)
  have q2' : q2 = .str y := Option.some.inj (h2.e.symm.trans e2)
  rw [q1'] at s1
  rw [q2'] at s2
  unfold fEq dEq
  rw [e1, e2]
  dsimp only
  rw [s1, s2, Bool.and_self, if_pos rfl]
  show some (Dt.bl (PyData.eqv (.str x) (.str y))) = _
  unfold PyData.eqv
  rfl
theorem fne_s02 {x y : Str} (hx : sOk x) (hy : sOk y) : fNe (.str x) (.str y) = some (.bl (x != y)) := by
  have e := feq_s02 hx hy
  unfold fEq at e
  unfold fNe
  cases h : dEq (.str x) (.str y) with
  | none => rw [h] at e; cases e
  | some b =>
    rw [h] at e
    have e2 : b = (x == y) := by
      have := Option.some.inj e
      exact Dt.bl.inj this
    subst e2
    rfl
theorem rota_eq02 (p p' : Nat) (rs rs' : List Rw) : m_Rota_eq [rotaD p rs, rotaD p' rs'] = .ret (.bl (txtS p rs == txtS p' rs')) .non := by
  refine runF_rt (ρ := [vl (rotaD p rs), vl (rotaD p' rs')]) ?_ rfl
  unfold b_Rota_eq
  exact ret_ok (andV_t (m1_ok (x := rotaD p' rs') rfl rfl) (m2_ok (x := .str (txtS p rs)) (y := .str (txtS p' rs')) (m1_ok (x := rotaD p rs) rfl rfl) (m1_ok (x := rotaD p' rs') rfl rfl) (feq_s02 (sOk_txt p rs) (sOk_txt p' rs'))))
theorem own02 (p p' : Nat) (rs rs' : List Rw) (neg : Bool) : fOwnC 0 m_Rota_eq_k02 neg (rotaD p rs) (rotaD p' rs') = some (.bl ((txtS p rs == txtS p' rs') != neg)) := fownC_ok rf_Rota_eq_k02_of_Rota_eq (by
  show (if (0 : Nat) = 0 ∧ (0 : Nat) = 0 then (match m_Rota_eq [rotaD p rs, rotaD p' rs'] with | .ret (.bl r) _ => some (Dt.bl (r != neg)) | _ => none) else none) = _
  rw [if_pos ⟨rfl, rfl⟩, rota_eq02])
theorem eq_str02 (p : Nat) (rs : List Rw) (x : Str) : fOwnX 0 m_Rota_eq_k02 false (rotaD p rs) (.str x) = some (.bl false) := by
  have e : m_Rota_eq_k02 [rotaD p rs, .str x] = .ret (.bl false) .non := runF_rt (ρ := [vl (rotaD p rs), vl (.str x)]) (by
    unfold b_Rota_eq_k02
    exact ret_ok (andV_f (m1_ok (x := .str x) rfl rfl))) rfl
  show (if (0 : Nat) = 0 ∧ (isCO 0 (.str x)).isSome = true then (match m_Rota_eq_k02 [rotaD p rs, .str x] with | .ret (.bl r) _ => some (Dt.bl (r != false)) | _ => none) else none) = _
  rw [if_pos ⟨rfl, rfl⟩, e]; rfl
theorem eq_tup02 (p : Nat) (rs : List Rw) (ds : List Dt) : fOwnX 0 m_Rota_eq_k02 false (rotaD p rs) (.tup ds) = some (.bl false) := by
  have e : m_Rota_eq_k02 [rotaD p rs, .tup ds] = .ret (.bl false) .non := runF_rt (ρ := [vl (rotaD p rs), vl (.tup ds)]) (by
    unfold b_Rota_eq_k02
    exact ret_ok (andV_f (m1_ok (x := .tup ds) rfl rfl))) rfl
  show (if (0 : Nat) = 0 ∧ (isCO 0 (.tup ds)).isSome = true then (match m_Rota_eq_k02 [rotaD p rs, .tup ds] with | .ret (.bl r) _ => some (Dt.bl (r != false)) | _ => none) else none) = _
  rw [if_pos ⟨rfl, rfl⟩, e]; rfl
theorem flt_rows02 (rs : List Rw) : Flt 3 (.tup (rs.map rowD)) := .tup fun x hx => by
  obtain ⟨r, hr, rfl⟩ := List.mem_map.mp hx
  exact .tup fun y hy => by
    rcases List.mem_cons.mp hy with rfl | hy
    · exact flt_tup_nats _
    · rw [List.mem_singleton.mp hy]; exact flt_tup_nats _
/-! ### no lists in a rota -/
theorem noLs_nats (l : List Nat) : noLs (l.map nD) = true := by
  induction l with
  | nil => rfl
  | cons x l ih => show (true && noLs (l.map nD)) = true; rw [ih]; rfl
theorem noLs_rows (rs : List Rw) : noLs (rs.map rowD) = true := by
  induction rs with
  | nil => rfl
  | cons r rs ih =>
    show ((noLs (r.1.map nD) && (noLs (r.2.map nD) && true)) && noLs (rs.map rowD)) = true
    rw [noLs_nats, noLs_nats, ih]; rfl
theorem noL_rota (p : Nat) (rs : List Rw) : noL (rotaD p rs) = true := by
  show (true && (noLs (rs.map rowD) && (true && true))) = true
  rw [noLs_rows]; rfl
theorem ints02 (l : List Nat) : intsOf (l.map nD) = some (l.map fun (x : Nat) => (x : Int)) := by
  induction l with
  | nil => rfl
  | cons x l ih => show (intsOf (l.map nD)).map _ = _; rw [ih]; rfl
/-! ### what the block leaves -/
theorem bk_same {ws : List Nat} {i j : Nat} (hj : j ≠ i) (hw : j ∉ ws) (s : Option Dt) : bkF ws i j (lv s) (lv s) = lv s := by
  unfold bkF
  rw [if_neg hj]
  cases s with
  | none => rfl
  | some d =>
    show (if noL d = true then some (Sl.val d) else if j ∈ ws then none else some (Sl.val d)) = some (Sl.val d)
    split
    · rfl
    · first | rfl | rw [if_neg hw]
theorem bk_val {ws : List Nat} {i j : Nat} (hj : j ≠ i) {d : Dt} (h : noL d = true) (o : Option Sl) : bkF ws i j o (vl d) = vl d := by
  unfold bkF
  rw [if_neg hj]
  show (if noL d = true then some (Sl.val d) else _) = some (Sl.val d)
  rw [if_pos h]
abbrev e02 (ns : List Int) (s1 : Option Dt) (q : Int × Int × Int) (s3 s4 s5 s6 : Option Dt) (a7 : Option Sl) (s8 s9 s10 s11 s12 s13 : Option Dt) : En :=
  [vl (.scr ns), lv s1, ow (bxD q), lv s3, lv s4, lv s5, lv s6, a7, lv s8, lv s9, lv s10, lv s11, lv s12, lv s13]
theorem bk02 (ns : List Int) (s1 : Option Dt) (q : Int × Int × Int) (s3 s4 s5 s6 : Option Dt) (a7 : Option Sl) (s8 s9 s10 s11 s12 s13 : Option Dt) (rows X : Dt) (zs : List Dt) (r : Rw) (K : Str) (R : Dt) (hR : noL R = true) :
    bkFE [7, 8, 9] 6 (e02 ns s1 q s3 s4 s5 s6 a7 s8 s9 s10 s11 s12 s13) (e02 ns s1 q s3 s4 s5 (some rows) (ow (.lst (trowD r :: zs))) (some (.str K)) (some R) s10 s11 s12 s13) = e02 ns s1 q s3 s4 s5 none none (some (.str K)) (some R) s10 s11 s12 s13 := by
  show [bkF [7, 8, 9] 6 0 (vl (.scr ns)) (vl (.scr ns)), bkF [7, 8, 9] 6 1 (lv s1) (lv s1), bkF [7, 8, 9] 6 2 (ow (bxD q)) (ow (bxD q)), bkF [7, 8, 9] 6 3 (lv s3) (lv s3), bkF [7, 8, 9] 6 4 (lv s4) (lv s4), bkF [7, 8, 9] 6 5 (lv s5) (lv s5), bkF [7, 8, 9] 6 6 (lv s6) (vl rows), bkF [7, 8, 9] 6 7 a7 (ow (.lst (trowD r :: zs))), bkF [7, 8, 9] 6 8 (lv s8) (vl (.str K)), bkF [7, 8, 9] 6 9 (lv s9) (vl R), bkF [7, 8, 9] 6 10 (lv s10) (lv s10), bkF [7, 8, 9] 6 11 (lv s11) (lv s11), bkF [7, 8, 9] 6 12 (lv s12) (lv s12), bkF [7, 8, 9] 6 13 (lv s13) (lv s13)] = _
  rw [bk_same (by decide) (by decide) s1, bk_same (by decide) (by decide) s3, bk_same (by decide) (by decide) s4, bk_same (by decide) (by decide) s5, bk_same (by decide) (by decide) s10, bk_same (by decide) (by decide) s11, bk_same (by decide) (by decide) s12, bk_same (by decide) (by decide) s13, bk_val (by decide) hR]
  rfl
theorem fresh_ok {i : Nat} {ws : List Nat} {m : Mi Dt} {s t : En → So} {ρ ρ1 ρ2 ρ' : En} {d : Dt} {n1 n2 : List Int} {o : So} (h1 : m ρ = .ok d ρ1) (h2 : rowOf d = some (n1, n2)) (h3 : setSl i (.val d) ρ1 = some ρ2) (h4 : s ρ2 = .nx ρ') (h5 : i ∉ ws ∧ n1.length < sizeLine ∧ n2.length < sizeLine) (h6 : t (bkFE ws i ρ ρ') = o) : sFresh i ws m s t ρ = o := by
  unfold sFresh
  rw [h1]; dsimp only
  rw [h2, h3]; dsimp only
  rw [h4]; dsimp only
  rw [if_pos h5]; exact h6
theorem ints_ok2 {ρ : En} {i j : Nat} {l : List Nat} {s : Option Dt} (h : ρ[i]? = some (vl (.lst (l.map nD)))) (hj : ρ[j]? = some (lv s)) (hl : l.length ≤ 1000) : mLc (mSeqI (mVar i)) (gV j) (mPure true) (m1 fInt (mPeek j)) [j] ρ = .ok (.lst (l.map nD)) ρ := by
  have hlt : j < ρ.length := (List.getElem?_eq_some_iff.mp hj).1
  refine lc_map l nD _ ?_ ?_ (fun x hx => ?_) (by omega)
  · refine bind_ok (a := Dt.lst (l.map nD)) (ρ1 := ρ) ?_ rfl
    unfold mVar; rw [h]
  · unfold ownAny; rw [hj]; cases s <;> rfl
  · refine ⟨(ρ.set j none).set j (vl (nD x)), ?_, (ρ.set j none).set j (vl (nD x)), m1_ok (x := nD x) ?_ rfl, ?_⟩
    · show setSl j _ (ρ.set j none) = _
      unfold setSl; rw [List.getElem?_set_self hlt]
    · unfold mPeek; rw [List.getElem?_set_self (by rw [List.length_set]; exact hlt)]
    · show ((ρ.set j none).set j _).set j none = ρ.set j none
      rw [List.set_set, List.set_set]
theorem rota_len02 (p : Nat) (rs : List Rw) (hl : rs.length < 1000) : fOwn1 0 m_Rota_len okLen (rotaD p rs) = some (nD rs.length) := by
  have e : m_Rota_len [rotaD p rs] = .ret (nD rs.length) .non := runF_rt (ρ := [vl (rotaD p rs)]) (ret_ok (m1_ok (x := .tup (rs.map rowD)) rfl (len_tup _ _))) rfl
  have hk : okLen (nD rs.length) = true := by
    show (decide (0 ≤ (rs.length : Int)) && decide ((rs.length : Int) < 4611686018427387904)) = true
    rw [decide_eq_true (by omega), decide_eq_true (by omega)]; rfl
  unfold fOwn1
  show (if (0 : Nat) = 0 then _ else _) = _
  rw [if_pos rfl]
  show (match m_Rota_len [rotaD p rs] with | .ret z _ => if okLen z = true then some z else none | _ => none) = _
  rw [e]
  show (if okLen (nD rs.length) = true then _ else _) = _
  rw [if_pos hk]
/-! ### a turn -/
def J02 (ns : List Int) (ρ : En) : Prop := ∃ s1 q s4 s5 s6 s7 s8 s9 s10 s11 s12 s13 p rs, p < 10 ∧ Good p rs ∧ rs.length < 100 ∧ ρ = e02 ns s1 q (some (rotaD p rs)) s4 s5 s6 (lv s7) s8 s9 s10 s11 s12 s13
theorem turn02 (ns : List Int) (t : Nat) (ρ : En) (hJ : J02 ns ρ) : ∃ ρ1, gV 4 (nD t) ρ = some ρ1 ∧ ∃ ρ2, (lp_law_0 ρ1 = .nx ρ2 ∨ lp_law_0 ρ1 = .ct ρ2) ∧ J02 ns ρ2 := by
  obtain ⟨s1, q, s4, s5, s6, s7, s8, s9, s10, s11, s12, s13, p0, rs0, g1, g2, g3, rfl⟩ := hJ
  obtain ⟨p, rs, q1, h1, h2, h3, h4, h5, h6⟩ := rota_any q 6 7 (by decide) (by decide) (by decide) (by decide)
  have hG : Good p rs := ⟨h3, h5⟩
  have hp : p < 10 := by omega
  have hl : rs.length < 100 := by omega
  let B := rotaD p0 rs0
  let T := toldD p rs
  let R := rotaD p (srt rs)
  let M : Dt := .lst (rs.map trowD)
  let Du : Dt := .tup ((srt rs).map rowD)
  have htl := txtS_len hp hG.srt (by rw [srt_len]; omega)
  have htl0 := txtS_len g1 g2 g3
  let E (s5 s6 : Option Dt) (a7 : Option Sl) (s8 s9 s10 : Option Dt) : En := e02 ns s1 q1 (some B) (some (nD t)) s5 s6 a7 s8 s9 s10 s11 s12 s13
  obtain ⟨K, ek, ok⟩ := rp_rows (p := p) hp hG (by omega)
  have hR : noL R = true := noL_rota _ _
  cases rs with
  | nil => exact absurd h3 (by decide)
  | cons r0 rs' =>
  have st1 : sSet 5 (mCallIo 3 m_law_rota 2 (mCons (mPure (.int 6)) (mCons (mPure (.int 7)) (mPure [])))) (e02 ns s1 q (some B) (some (nD t)) s5 s6 (lv s7) s8 s9 s10 s11 s12 s13) = .nx (E (some T) s6 (lv s7) s8 s9 s10) :=
    set_ok (ρ1 := E s5 s6 (lv s7) s8 s9 s10) (callIo_ok (io0 := false) (d0 := bxD q) (io := false) (d1 := bxD q) (ds := [nD 6, nD 7]) rfl rfl rfl rfl h6 rfl) (by cases s5 <;> rfl)
  have rowsE : mLc (mSeqI (hasSl 5 (mIxV 5 (mPure (.int 1))))) (gT (gsC (gV 11) (gsC (gV 12) gsN)) 2) (mPure true) (mTup (mCons (mLs (m1N fListN (mPeek 11))) (mCons (mLs (m1N fListN (mPeek 12))) (mPure [])))) [11, 12] (E (some T) s6 (lv s7) s8 s9 s10) = .ok M (E (some T) s6 (lv s7) s8 s9 s10) := by
    refine lc_map (ρ0 := E (some T) s6 (lv s7) s8 s9 s10) (r0 :: rs') trowD trowD rfl (by cases s11 <;> cases s12 <;> rfl) (fun r hr => ?_) (by omega)
    let F := e02 ns s1 q1 (some B) (some (nD t)) (some T) s6 (lv s7) s8 s9 s10 (some (.lst (r.1.map nD))) (some (.lst (r.2.map nD))) s13
    exact ⟨F, rfl, F, tup_ok (ds := [.lst (r.1.map nD), .lst (r.2.map nD)]) (cons_ok (ρ1 := F) (bind_ok (a := Dt.lst (r.1.map nD)) (ρ1 := F) (m1N_ok (x := .lst (r.1.map nD)) rfl rfl) rfl) (cons_ok (ρ1 := F) (bind_ok (a := Dt.lst (r.2.map nD)) (ρ1 := F) (m1N_ok (x := .lst (r.2.map nD)) rfl rfl) rfl) rfl)) (sl_le (by simp)), rfl⟩
  have ini : m_Rota_init_k02 [.ins 0 [], nD p, M] = .ret .non R := RF.ret rf_Rota_init_k02_of_Rota_init (rota_init false false p (r0 :: rs') h1 hp h3 hl h5)
  have made : m_law_made_k02 [T] = .ret R .non := RF.ret rf_law_made_k02_of_law_made (made_ok p (r0 :: rs') h1 hp h3 hl h5)
  let Z : Dt := .tup [.lst [.int 0], .lst [.int 0]]
  let V (s10 : Option Dt) : En := E (some T) none none (some (.str K)) (some R) s10
  let W (a7 : Option Sl) (s8 s9 : Option Dt) : En := E (some T) (some M) a7 s8 s9 s10
  have p1 : sPars [7, 8] [true, false] (mCons (m1N fListN (mPeek 6)) (mCons (m1 fReprD (mPeek 6)) (mPure []))) (W (lv s7) s8 s9) = .nx (W (ow M) (some (.str K)) s9) :=
    pars_ok (ds := [M, .str K]) (ρ1 := W (lv s7) s8 s9) (cons_ok (m1N_ok (x := M) rfl rfl) (cons_ok (m1_ok (x := M) rfl ek) rfl)) (by cases s7 <;> cases s8 <;> rfl)
  have mk : mMakeB 0 3 m_Rota_init_k02 (mCons (hasSl 5 (mIxV 5 (mPure (.int 0)))) (mPure [])) 7 (W (ow M) (some (.str K)) s9) = .ok R (W (ow M) (some (.str K)) s9) := by
    refine bind_ok (a := [nD p]) (ρ1 := W (ow M) (some (.str K)) s9) rfl ?_
    show (match m_Rota_init_k02 [.ins 0 [], nD p, M] with | .ret .non o => if noL o = true then Ou.ok o (W (ow M) (some (.str K)) s9) else .bad | _ => .bad) = _
    rw [ini]
    show (if noL R = true then _ else _) = _
    rw [if_pos hR]
  have p2 : sSet 9 (mMakeB 0 3 m_Rota_init_k02 (mCons (hasSl 5 (mIxV 5 (mPure (.int 0)))) (mPure [])) 7) (W (ow M) (some (.str K)) s9) = .nx (W (ow M) (some (.str K)) (some R)) := set_ok mk (by cases s9 <;> rfl)
  have p3 : sIf (mB (m2 fNe (m1 fReprD (mPeek 7)) (mPeek 8))) (fun ρ => noNx ((sRet (mPure (.bl false))) ρ)) (fun ρ => .nx ρ) (W (ow M) (some (.str K)) (some R)) = .nx (W (ow M) (some (.str K)) (some R)) :=
    if_f (tb_ok (m2_ok (x := .str K) (y := .str K) (m1_ok (x := M) rfl ek) rfl (fne_self (k := 0) (.str (by simpa [PyData.canLay0] using ok)) (by decide)))) rfl
  have p4 : sDrop (ownLst 7 (mAppend 7 (mTup (mCons (mLst (mCons (mPure (.int 0)) (mPure []))) (mCons (mLst (mCons (mPure (.int 0)) (mPure []))) (mPure [])))))) (W (ow M) (some (.str K)) (some R)) = .nx (W (ow (.lst ((r0 :: rs').map trowD ++ [Z]))) (some (.str K)) (some R)) :=
    drop_ok (append_ok (es := (r0 :: rs').map trowD) (ds := (r0 :: rs').map trowD) (d := Z) (ρ1 := W (ow M) (some (.str K)) (some R)) rfl (tup_ok (ds := [.lst [.int 0], .lst [.int 0]]) (cons_ok (lst_ok (ds := [.int 0]) rfl (sl_le (by simp))) (cons_ok (lst_ok (ds := [.int 0]) rfl (sl_le (by simp))) rfl)) (sl_le (by simp))) rfl (by rw [List.length_map]; omega) rfl)
  have hr0 := (hG.row r0 List.mem_cons_self).small hp
  have dueE : m1 fTuple (mLc (mSeqI (hasSl 5 (mIxV 5 (mPure (.int 1))))) (gT (gsC (gV 11) (gsC (gV 12) gsN)) 2) (mPure true) (mTup (mCons (m1 fTuple (m1N fSorted (mLc (mSeqI (mVar 11)) (gV 13) (mPure true) (m1 fInt (mPeek 13)) [13]))) (mCons (m1 fTuple (mPeek 12)) (mPure [])))) [11, 12]) (V s10) = .ok Du (V s10) := by
    have e3 : (srt (r0 :: rs')).map rowD = (r0 :: rs').map fun r => rowD (sortN r.1, r.2) := by unfold srt; rw [List.map_map]; rfl
    refine m1_ok (x := .lst ((srt (r0 :: rs')).map rowD)) ?_ rfl
    rw [e3]
    refine lc_map (ρ0 := V s10) (r0 :: rs') trowD _ rfl (by cases s11 <;> cases s12 <;> rfl) (fun r hr => ?_) (by omega)
    let F := e02 ns s1 q1 (some B) (some (nD t)) (some T) none none (some (.str K)) (some R) s10 (some (.lst (r.1.map nD))) (some (.lst (r.2.map nD))) s13
    exact ⟨F, rfl, F, tup_ok (ds := [.tup ((sortN r.1).map nD), .tup (r.2.map nD)]) (cons_ok (ρ1 := F) (m1_ok (x := .lst ((sortN r.1).map nD)) (m1N_ok (x := .lst (r.1.map nD)) (ints_ok2 (s := s13) rfl rfl (by have := (hG.row r hr).le; omega)) (sorted_nat r.1)) rfl) (cons_ok (m1_ok (x := .lst (r.2.map nD)) rfl rfl) rfl)) (sl_le (by simp)), rfl⟩
  have U := V (some Du)
  have eS : m1 (fOwn1 0 m_Rota_str okTxt) (mVar 9) (V (some Du)) = .ok (.str (txtS p (srt (r0 :: rs')))) (V (some Du)) := m1_ok (x := R) rfl (rota_str (by omega))
  have eB : m1 (fOwn1 0 m_Rota_str okTxt) (mVar 3) (V (some Du)) = .ok (.str (txtS p0 rs0)) (V (some Du)) := m1_ok (x := B) rfl (rota_str (by omega))
  have w1 : sSet 10 (m1 fTuple (mLc (mSeqI (hasSl 5 (mIxV 5 (mPure (.int 1))))) (gT (gsC (gV 11) (gsC (gV 12) gsN)) 2) (mPure true) (mTup (mCons (m1 fTuple (m1N fSorted (mLc (mSeqI (mVar 11)) (gV 13) (mPure true) (m1 fInt (mPeek 13)) [13]))) (mCons (m1 fTuple (mPeek 12)) (mPure [])))) [11, 12])) (V s10) = .nx (V (some Du)) := set_ok dueE (by cases s10 <;> rfl)
  have c1 : mB (m2 fNe (m1 (fAttr ix_rows) (mPeek 9)) (mPeek 10)) (V (some Du)) = .ok false (V (some Du)) := tb_ok (m2_ok (x := Du) (y := Du) (m1_ok (x := R) rfl rfl) rfl (fne_self (flt_rows02 _) (by decide)))
  have c2 : mB (m2 fNe (m1 (fAttr ix_places) (mPeek 9)) (hasSl 5 (mIxV 5 (mPure (.int 0))))) (V (some Du)) = .ok false (V (some Du)) := tb_ok (m2_ok (x := nD p) (y := nD p) (m1_ok (x := R) rfl rfl) rfl (fne_self (k := 0) (.int _) (by decide)))
  have c3 : mB (m2 fNe (m1 (fOwn1 0 m_Rota_len okLen) (mVar 9)) (m1 fLen (mPeek 10))) (V (some Du)) = .ok false (V (some Du)) := tb_ok (m2_ok (x := nD (srt (r0 :: rs')).length) (y := nD (srt (r0 :: rs')).length) (m1_ok (x := R) rfl (rota_len02 _ _ (by rw [srt_len]; omega))) (m1_ok (x := Du) rfl (len_tup _ _)) (fne_self (k := 0) (.int _) (by decide)))
  have c4 : mB (m2 fNe (m1 (fOwn1 0 m_Rota_str okTxt) (mVar 9)) (mCall 1 m_law_text_v2 (mCons (mVar 5) (mPure [])))) (V (some Du)) = .ok false (V (some Du)) := tb_ok (m2_ok (x := .str (txtS p (srt (r0 :: rs')))) (y := .str (txtS p (srt (r0 :: rs')))) eS (call_ok (ds := [T]) (r := .non) rfl rfl (law_text_v2_ok hp hG h1 (by omega))) (fne_self (k := 1) (flt_txt _ _) (by decide)))
  have c5 : mB (m2 (fOwnC 0 m_Rota_eq_k02 true) (mCall 1 m_law_made_k02 (mCons (mVar 5) (mPure []))) (mVar 9)) (V (some Du)) = .ok false (V (some Du)) := tb_ok (m2_ok (x := R) (y := R) (call_ok (ds := [T]) (r := .non) rfl rfl made) rfl ((own02 _ _ _ _ _).trans (by simp)))
  have c6 : mB (m2 (fOwnX 0 m_Rota_eq_k02 false) (mVar 9) (m1 (fOwn1 0 m_Rota_str okTxt) (mVar 9))) (V (some Du)) = .ok false (V (some Du)) := tb_ok (m2_ok (x := R) (y := .str (txtS p (srt (r0 :: rs')))) rfl eS (eq_str02 _ _ _))
  have c7 : mB (m2 (fOwnX 0 m_Rota_eq_k02 false) (mVar 9) (mVar 10)) (V (some Du)) = .ok false (V (some Du)) := tb_ok (m2_ok (x := R) (y := Du) rfl rfl (eq_tup02 _ _ _))
  have c8 : mB (m2 fNe (m2 (fOwnC 0 m_Rota_eq_k02 false) (mVar 3) (mVar 9)) (m2 fEq (m1 (fOwn1 0 m_Rota_str okTxt) (mVar 3)) (m1 (fOwn1 0 m_Rota_str okTxt) (mVar 9)))) (V (some Du)) = .ok false (V (some Du)) :=
    tb_ok (m2_ok (m2_ok (x := B) (y := R) rfl rfl (own02 p0 p rs0 (srt (r0 :: rs')) false)) (m2_ok eB eS (feq_s02 (sOk_txt _ _) (sOk_txt _ _))) (by rw [fne_bl]; cases (txtS p0 rs0 == txtS p (srt (r0 :: rs'))) <;> rfl))
  have c9 : mB (m2 fNe (m2 (fOwnC 0 m_Rota_eq_k02 true) (mVar 3) (mVar 9)) (m2 fNe (m1 (fOwn1 0 m_Rota_str okTxt) (mVar 3)) (m1 (fOwn1 0 m_Rota_str okTxt) (mVar 9)))) (V (some Du)) = .ok false (V (some Du)) :=
    tb_ok (m2_ok (m2_ok (x := B) (y := R) rfl rfl (own02 p0 p rs0 (srt (r0 :: rs')) true)) (m2_ok eB eS (fne_s02 (sOk_txt _ _) (sOk_txt _ _))) (by
      rw [fne_bl]
      show some (Dt.bl (((txtS p0 rs0 == txtS p (srt (r0 :: rs'))) != true) != (!(txtS p0 rs0 == txtS p (srt (r0 :: rs')))))) = _
      cases (txtS p0 rs0 == txtS p (srt (r0 :: rs'))) <;> rfl))
  have q5 : sSet 3 (mVar 9) (V (some Du)) = .nx (e02 ns s1 q1 (some R) (some (nD t)) (some T) none none (some (.str K)) (some R) (some Du) s11 s12 s13) := set_ok (d := R) (ρ1 := V (some Du)) rfl rfl
  refine ⟨e02 ns s1 q (some B) (some (nD t)) s5 s6 (lv s7) s8 s9 s10 s11 s12 s13, by cases s4 <;> rfl, _, .inl ?_, s1, q1, some (nD t), some T, none, none, some (.str K), some R, some Du, s11, s12, s13, p, srt (r0 :: rs'), hp, hG.srt, by rw [srt_len]; exact hl, rfl⟩
  refine seq_nx st1 (fresh_ok (n1 := r0.1.map fun (x : Nat) => (x : Int)) (n2 := r0.2.map fun (x : Nat) => (x : Int)) (ρ' := W (ow (.lst ((r0 :: rs').map trowD ++ [Z]))) (some (.str K)) (some R)) rowsE ?_ (by cases s6 <;> rfl) (seq_nx p1 (seq_nx p2 (seq_nx p3 p4))) ?_ ?_)
  · show (match intsOf (r0.1.map nD), intsOf (r0.2.map nD) with | some a, some b => some (a, b) | _, _ => none) = _
    rw [ints02, ints02]
  · rw [List.length_map, List.length_map]
    exact ⟨by decide, sl_le (by have := hr0.l1; omega), sl_le (by have := hr0.l2; omega)⟩
  · have eb := bk02 ns s1 q1 (some B) (some (nD t)) (some T) s6 (lv s7) s8 s9 s10 s11 s12 s13 M M (rs'.map trowD ++ [Z]) r0 K R hR
    rw [show bkFE [7, 8, 9] 6 (E (some T) s6 (lv s7) s8 s9 s10) (W (ow (.lst ((r0 :: rs').map trowD ++ [Z]))) (some (.str K)) (some R)) = V s10 from eb]
    exact seq_nx w1 (seq_nx (if_f (or_f c1 (or_f c2 (or_f c3 c4))) rfl) (seq_nx (if_f (or_f c5 (or_f c6 c7)) rfl) (seq_nx (if_f (or_f c8 c9) rfl) q5)))
theorem good02 : Good 1 [([], [0])] := ⟨by decide, fun r hr => by
  rw [List.mem_singleton.mp hr]
  exact ⟨List.nodup_nil, fun _ h => (nomatch h), .refl _⟩⟩
theorem good02b : Good 2 [([1, 0], [1, 0])] := ⟨by decide, fun r hr => by
  rw [List.mem_singleton.mp hr]
  exact ⟨by decide, fun x h => by simp at h; omega, by decide⟩⟩
def I02 (ns : List Int) (ρ : En) : Prop := ∃ s1 q s3 s4 s5 s6 s7 s8 s9 s10 s11 s12 s13, ρ = [vl (.scr ns), lv s1, bo q, lv s3, lv s4, lv s5, lv s6, lv s7, lv s8, lv s9, lv s10, lv s11, lv s12, lv s13]
theorem cell02 (ns : List Int) (k : Nat) (ρ : En) (hI : I02 ns ρ) : ∃ ρ1, gV 1 (nD k) ρ = some ρ1 ∧ ∃ ρ2, (lp_law_1 ρ1 = .nx ρ2 ∨ lp_law_1 ρ1 = .ct ρ2) ∧ I02 ns ρ2 := by
  obtain ⟨s1, q, s3, s4, s5, s6, s7, s8, s9, s10, s11, s12, s13, rfl⟩ := hI
  obtain ⟨q1, e1⟩ := box_any ns (k : Int) 2 (by omega)
  let R0 := rotaD 1 (srt [([], [0])])
  have ini : m_Rota_init_k02 [.ins 0 [], .int 1, .lst [.tup [.tup [], .tup [.int 0]]]] = .ret .non R0 := RF.ret rf_Rota_init_k02_of_Rota_init (rota_init true true 1 [([], [0])] (by decide) (by decide) (by decide) (by decide) good02.row)
  obtain ⟨ρ2, h3, s1', q', s4', s5', s6', s7', s8', s9', s10', s11', s12', s13', p', rs', _, _, _, rfl⟩ := forGo_all (g := gV 4) (bd := lp_law_0) nD (J02 ns) (List.range 6) (e02 ns (some (nD k)) q1 (some R0) s4 s5 s6 (lv s7) s8 s9 s10 s11 s12 s13) ⟨some (nD k), q1, s4, s5, s6, s7, s8, s9, s10, s11, s12, s13, 1, srt [([], [0])], by decide, good02.srt, by decide, rfl⟩ (fun t _ ρ hJ => turn02 ns t ρ hJ)
  let Q : En := [vl (.scr ns), vl (nD k), bo q, lv s3, lv s4, lv s5, lv s6, lv s7, lv s8, lv s9, lv s10, lv s11, lv s12, lv s13]
  refine ⟨Q, by cases s1 <;> rfl, _, .inl ?_, s1', some q', some (rotaD p' rs'), s4', s5', s6', s7', s8', s9', s10', s11', s12', s13', rfl⟩
  exact seq_nx (ρ' := e02 ns (some (nD k)) q1 (some R0) s4 s5 s6 (lv s7) s8 s9 s10 s11 s12 s13) (pars_ok (ds := [bxD q1, R0]) (ρ1 := Q) (cons_ok (call_ok (ds := [.scr ns, .int k, .int 2]) (r := .non) rfl rfl e1) (cons_ok (make_ok (ds := [.int 1, .lst [.tup [.tup [], .tup [.int 0]]]]) rfl rfl ini) rfl)) (by cases q <;> cases s3 <;> rfl)) (for_ok (rngN_ok (N := 6) rfl (by decide)) h3)
theorem end02 (ρ : En) : st_law_1 ρ = .rt (.bl true) ρ := by
  have ini : m_Rota_init_k02 [.ins 0 [], .int 2, .lst [.tup [.lst [.int 1, .int 0], .lst [.int 1, .int 0]]]] = .ret .non (rotaD 2 (srt [([1, 0], [1, 0])])) := RF.ret rf_Rota_init_k02_of_Rota_init (rota_init false false 2 [([1, 0], [1, 0])] (by decide) (by decide) (by decide) (by decide) good02b.row)
  have et : txtS 2 (srt [([1, 0], [1, 0])]) = ("places 2\nturn 0 1 move 1 0" : Str) := by kernel_rfl
  have htl := txtS_len (p := 2) (by decide) good02b.srt (by decide)
  refine ret_ok (m2_ok (x := .str (txtS 2 (srt [([1, 0], [1, 0])]))) (y := .str (txtS 2 (srt [([1, 0], [1, 0])]))) (m1_ok (x := rotaD 2 (srt [([1, 0], [1, 0])])) (make_ok (ds := [.int 2, .lst [.tup [.lst [.int 1, .int 0], .lst [.int 1, .int 0]]]]) rfl rfl ini) (rota_str (by omega))) ?_ (feq_self (k := 1) (flt_txt _ _) (by decide)))
  rw [et]; rfl
theorem law_true (ns : List Int) (_ : ns.length ≤ 63) : m_law [.scr ns] = .ret (.bl true) .non := by
  unfold m_law b_law
  obtain ⟨ρ', h1, s1, q, s3, s4, s5, s6, s7, s8, s9, s10, s11, s12, s13, rfl⟩ := forGo_all (g := gV 1) (bd := lp_law_1) nD (I02 ns) (List.range (cellN ns)) [vl (.scr ns), none, none, none, none, none, none, none, none, none, none, none, none, none] ⟨none, none, none, none, none, none, none, none, none, none, none, none, none, rfl⟩ (fun k _ ρ hI => cell02 ns k ρ hI)
  exact runF_rt (seq_nx (for_ok (cells_ok rfl) h1) (end02 _)) rfl
end Dl
namespace Dl
open PySem PySem.Spec PyProof.Rows L2
/-! ### what the top has written -/
def spL (K : PySem.W.Frag) : Sp := fun vs H Q E => ∀ cl : Nat → Option (Addr × List Str), spM ⟨K, cl⟩ 1 false false m_law vs H Q E
theorem all_mk {P : Program} {w : World} {K : PySem.W.Frag} {h : Heap} {mg : Str → Option Value} {fa : Addr} (X : K.In h) (G : h.Ns mainGlobals mg) (hfa : mg "law" = some (.ref fa))
    {C_Rota : Addr}
    {f0 : Addr} {od0 an0 : Option Addr} {sl0 : Array (Option Value)} {oc0 kV0 dc0 pm0 cd0 ct0 : Value}
    {f1 : Addr} {od1 an1 : Option Addr} {sl1 : Array (Option Value)} {oc1 kV1 dc1 pm1 cd1 ct1 : Value}
    {f2 : Addr} {od2 an2 : Option Addr} {sl2 : Array (Option Value)} {oc2 kV2 dc2 pm2 cd2 ct2 : Value}
    {f3 : Addr} {od3 an3 : Option Addr} {sl3 : Array (Option Value)} {oc3 kV3 dc3 pm3 cd3 ct3 : Value}
    {f4 : Addr} {od4 an4 : Option Addr} {sl4 : Array (Option Value)} {oc4 kV4 dc4 pm4 cd4 ct4 : Value}
    {f5 : Addr} {od5 an5 : Option Addr} {sl5 : Array (Option Value)} {oc5 kV5 dc5 pm5 cd5 ct5 : Value}
    {f6 : Addr} {od6 an6 : Option Addr} {sl6 : Array (Option Value)} {oc6 kV6 dc6 pm6 cd6 ct6 : Value}
    {f7 : Addr} {od7 an7 : Option Addr} {sl7 : Array (Option Value)} {oc7 kV7 dc7 pm7 cd7 ct7 : Value}
    {f8 : Addr} {od8 an8 : Option Addr} {sl8 : Array (Option Value)} {oc8 kV8 dc8 pm8 cd8 ct8 : Value}
    {f9 : Addr} {od9 an9 : Option Addr} {sl9 : Array (Option Value)} {oc9 kV9 dc9 pm9 cd9 ct9 : Value}
    {f10 : Addr} {od10 an10 : Option Addr} {sl10 : Array (Option Value)} {oc10 kV10 dc10 pm10 cd10 ct10 : Value}
    {f11 : Addr} {od11 an11 : Option Addr} {sl11 : Array (Option Value)} {oc11 kV11 dc11 pm11 cd11 ct11 : Value}
    {f12 : Addr} {od12 an12 : Option Addr} {sl12 : Array (Option Value)} {oc12 kV12 dc12 pm12 cd12 ct12 : Value}
    {f13 : Addr} {od13 an13 : Option Addr} {sl13 : Array (Option Value)} {oc13 kV13 dc13 pm13 cd13 ct13 : Value}
    {f14 : Addr} {od14 an14 : Option Addr} {sl14 : Array (Option Value)} {oc14 kV14 dc14 pm14 cd14 ct14 : Value}
    {f15 : Addr} {od15 an15 : Option Addr} {sl15 : Array (Option Value)} {oc15 kV15 dc15 pm15 cd15 ct15 : Value}
    {f16 : Addr} {od16 an16 : Option Addr} {sl16 : Array (Option Value)} {oc16 kV16 dc16 pm16 cd16 ct16 : Value}
    {f17 : Addr} {od17 an17 : Option Addr} {sl17 : Array (Option Value)} {oc17 kV17 dc17 pm17 cd17 ct17 : Value}
    {t0 : Tok}
    (aC_Rota : PySem.W.nsIn K mainGlobals "Rota" = some (some (.ref C_Rota)))
    (pg_Rota : PySem.W.plainGet K C_Rota Str.empty = true)
    (hd_Rota : PySem.W.hasDictIn K C_Rota = true)
    (po_Rota : PySem.W.plainOver K C_Rota = true)
    (sa_Rota : PySem.W.findIn K (.ref C_Rota) "__setattr__" = some (some (.builtin "object.__setattr__")))
    (mk_Rota : PySem.W.makesIn K C_Rota = true)
    (kc_Rota : PySem.W.keepIn K (.ref C_Rota) = true)
    (na_Rota_places : PySem.W.findIn K (.ref C_Rota) "places" = some none)
    (na_Rota_rows : PySem.W.findIn K (.ref C_Rota) "rows" = some none)
    (na_Rota_text : PySem.W.findIn K (.ref C_Rota) "text" = some none)
    (sb_Rota_int : PySem.W.subIn K (.ref C_Rota) (.type "int") = some false)
    (sb_Rota_bool : PySem.W.subIn K (.ref C_Rota) (.type "bool") = some false)
    (sb_Rota_str : PySem.W.subIn K (.ref C_Rota) (.type "str") = some false)
    (sb_Rota_list : PySem.W.subIn K (.ref C_Rota) (.type "list") = some false)
    (sb_Rota_tuple : PySem.W.subIn K (.ref C_Rota) (.type "tuple") = some false)
    (tyx_Rota : PySem.W.typeIn K (.ref C_Rota) = some (.type "type"))
    (bt_NoneType_Rota : PySem.W.subIn K (.type "NoneType") (.ref C_Rota) = some false)
    (bt_bool_Rota : PySem.W.subIn K (.type "bool") (.ref C_Rota) = some false)
    (bt_int_Rota : PySem.W.subIn K (.type "int") (.ref C_Rota) = some false)
    (bt_str_Rota : PySem.W.subIn K (.type "str") (.ref C_Rota) = some false)
    (bt_list_Rota : PySem.W.subIn K (.type "list") (.ref C_Rota) = some false)
    (bt_tuple_Rota : PySem.W.subIn K (.type "tuple") (.ref C_Rota) = some false)
    (bt_dict_Rota : PySem.W.subIn K (.type "dict") (.ref C_Rota) = some false)
    (ne_Rota : PySem.W.findIn K (.ref C_Rota) "__ne__" = some (some (.builtin "object.__ne__")))
    (iha_Rota : PySem.W.findIn K (.ref C_Rota) "__class__" = some (some (.builtin "object.__class__")))
    (ihn_Rota : PySem.W.specialIn K (.builtin "object.__class__") "__get__" = some (some (.builtin "getset_descriptor.__get__")))
    (iht_Rota : PySem.W.takesIn K (.builtin "object.__class__") = some true)
    (a0 : PySem.W.nsIn K mainGlobals "is_integer" = some (some (.ref f0)))
    (l0 : K.lookup f0 = some ⟨oc0, od0, .func (PySem.W.fnOf "is_integer" "is_integer" (defArgs s_is_integer) (defBody s_is_integer) (defScope s_is_integer) .none kV0 dc0 pm0 an0 cd0 ct0), sl0⟩)
    (c0 : PySem.W.codeIn K cd0 "is_integer" = true)
    (k0 : PySem.W.keepIn K (.ref f0) = true)
    (a1 : PySem.W.nsIn K mainGlobals "is_sequence" = some (some (.ref f1)))
    (l1 : K.lookup f1 = some ⟨oc1, od1, .func (PySem.W.fnOf "is_sequence" "is_sequence" (defArgs s_is_sequence) (defBody s_is_sequence) (defScope s_is_sequence) .none kV1 dc1 pm1 an1 cd1 ct1), sl1⟩)
    (c1 : PySem.W.codeIn K cd1 "is_sequence" = true)
    (k1 : PySem.W.keepIn K (.ref f1) = true)
    (a2 : PySem.W.findIn K (.ref C_Rota) "__len__" = some (some (.ref f2)))
    (i2 : PySem.W.isFn K (.ref f2) = true)
    (l2 : K.lookup f2 = some ⟨oc2, od2, .func (PySem.W.fnOf "__len__" "Rota.__len__" (defArgs s_Rota_len) (defBody s_Rota_len) (defScope s_Rota_len) .none kV2 dc2 pm2 an2 cd2 ct2), sl2⟩)
    (c2 : PySem.W.codeIn K cd2 "Rota.__len__" = true)
    (k2 : PySem.W.keepIn K (.ref f2) = true)
    (a3 : PySem.W.findIn K (.ref C_Rota) "__eq__" = some (some (.ref f3)))
    (i3 : PySem.W.isFn K (.ref f3) = true)
    (l3 : K.lookup f3 = some ⟨oc3, od3, .func (PySem.W.fnOf "__eq__" "Rota.__eq__" (defArgs s_Rota_eq) (defBody s_Rota_eq) (defScope s_Rota_eq) .none kV3 dc3 pm3 an3 cd3 ct3), sl3⟩)
    (c3 : PySem.W.codeIn K cd3 "Rota.__eq__" = true)
    (k3 : PySem.W.keepIn K (.ref f3) = true)
    (a4 : PySem.W.findIn K (.ref C_Rota) "__str__" = some (some (.ref f4)))
    (i4 : PySem.W.isFn K (.ref f4) = true)
    (l4 : K.lookup f4 = some ⟨oc4, od4, .func (PySem.W.fnOf "__str__" "Rota.__str__" (defArgs s_Rota_str) (defBody s_Rota_str) (defScope s_Rota_str) .none kV4 dc4 pm4 an4 cd4 ct4), sl4⟩)
    (c4 : PySem.W.codeIn K cd4 "Rota.__str__" = true)
    (k4 : PySem.W.keepIn K (.ref f4) = true)
    (a5 : PySem.W.nsIn K mainGlobals "text_of_rota" = some (some (.ref f5)))
    (l5 : K.lookup f5 = some ⟨oc5, od5, .func (PySem.W.fnOf "text_of_rota" "text_of_rota" (defArgs s_text_of_rota) (defBody s_text_of_rota) (defScope s_text_of_rota) .none kV5 dc5 pm5 an5 cd5 ct5), sl5⟩)
    (c5 : PySem.W.codeIn K cd5 "text_of_rota" = true)
    (k5 : PySem.W.keepIn K (.ref f5) = true)
    (a6 : PySem.W.nsIn K mainGlobals "_law_box" = some (some (.ref f6)))
    (l6 : K.lookup f6 = some ⟨oc6, od6, .func (PySem.W.fnOf "_law_box" "_law_box" (defArgs s_law_box) (defBody s_law_box) (defScope s_law_box) .none kV6 dc6 pm6 an6 cd6 ct6), sl6⟩)
    (c6 : PySem.W.codeIn K cd6 "_law_box" = true)
    (k6 : PySem.W.keepIn K (.ref f6) = true)
    (a7 : PySem.W.nsIn K mainGlobals "_law_take" = some (some (.ref f7)))
    (l7 : K.lookup f7 = some ⟨oc7, od7, .func (PySem.W.fnOf "_law_take" "_law_take" (defArgs s_law_take) (defBody s_law_take) (defScope s_law_take) .none kV7 dc7 pm7 an7 cd7 ct7), sl7⟩)
    (c7 : PySem.W.codeIn K cd7 "_law_take" = true)
    (k7 : PySem.W.keepIn K (.ref f7) = true)
    (a8 : PySem.W.nsIn K mainGlobals "_law_text" = some (some (.ref f8)))
    (l8 : K.lookup f8 = some ⟨oc8, od8, .func (PySem.W.fnOf "_law_text" "_law_text" (defArgs s_law_text) (defBody s_law_text) (defScope s_law_text) .none kV8 dc8 pm8 an8 cd8 ct8), sl8⟩)
    (c8 : PySem.W.codeIn K cd8 "_law_text" = true)
    (k8 : PySem.W.keepIn K (.ref f8) = true)
    (a9 : PySem.W.nsIn K mainGlobals "is_from" = some (some (.ref f9)))
    (l9 : K.lookup f9 = some ⟨oc9, od9, .func (PySem.W.fnOf "is_from" "is_from" (defArgs s_is_from) (defBody s_is_from) (defScope s_is_from) .none kV9 dc9 pm9 an9 cd9 ct9), sl9⟩)
    (c9 : PySem.W.codeIn K cd9 "is_from" = true)
    (k9 : PySem.W.keepIn K (.ref f9) = true)
    (a10 : PySem.W.nsIn K mainGlobals "_law_mixed" = some (some (.ref f10)))
    (l10 : K.lookup f10 = some ⟨oc10, od10, .func (PySem.W.fnOf "_law_mixed" "_law_mixed" (defArgs s_law_mixed) (defBody s_law_mixed) (defScope s_law_mixed) .none kV10 dc10 pm10 an10 cd10 ct10), sl10⟩)
    (c10 : PySem.W.codeIn K cd10 "_law_mixed" = true)
    (k10 : PySem.W.keepIn K (.ref f10) = true)
    (a11 : PySem.W.nsIn K mainGlobals "is_below" = some (some (.ref f11)))
    (l11 : K.lookup f11 = some ⟨oc11, od11, .func (PySem.W.fnOf "is_below" "is_below" (defArgs s_is_below) (defBody s_is_below) (defScope s_is_below) .none kV11 dc11 pm11 an11 cd11 ct11), sl11⟩)
    (c11 : PySem.W.codeIn K cd11 "is_below" = true)
    (k11 : PySem.W.keepIn K (.ref f11) = true)
    (a12 : PySem.W.nsIn K mainGlobals "_law_rota" = some (some (.ref f12)))
    (l12 : K.lookup f12 = some ⟨oc12, od12, .func (PySem.W.fnOf "_law_rota" "_law_rota" (defArgs s_law_rota) (defBody s_law_rota) (defScope s_law_rota) .none kV12 dc12 pm12 an12 cd12 ct12), sl12⟩)
    (c12 : PySem.W.codeIn K cd12 "_law_rota" = true)
    (k12 : PySem.W.keepIn K (.ref f12) = true)
    (a13 : PySem.W.nsIn K mainGlobals "is_unlike" = some (some (.ref f13)))
    (l13 : K.lookup f13 = some ⟨oc13, od13, .func (PySem.W.fnOf "is_unlike" "is_unlike" (defArgs s_is_unlike) (defBody s_is_unlike) (defScope s_is_unlike) .none kV13 dc13 pm13 an13 cd13 ct13), sl13⟩)
    (c13 : PySem.W.codeIn K cd13 "is_unlike" = true)
    (k13 : PySem.W.keepIn K (.ref f13) = true)
    (a14 : PySem.W.nsIn K mainGlobals "is_row" = some (some (.ref f14)))
    (l14 : K.lookup f14 = some ⟨oc14, od14, .func (PySem.W.fnOf "is_row" "is_row" (defArgs s_is_row) (defBody s_is_row) (defScope s_is_row) .none kV14 dc14 pm14 an14 cd14 ct14), sl14⟩)
    (c14 : PySem.W.codeIn K cd14 "is_row" = true)
    (k14 : PySem.W.keepIn K (.ref f14) = true)
    (a15 : PySem.W.findIn K (.ref C_Rota) "__init__" = some (some (.ref f15)))
    (i15 : PySem.W.isFn K (.ref f15) = true)
    (l15 : K.lookup f15 = some ⟨oc15, od15, .func (PySem.W.fnOf "__init__" "Rota.__init__" (defArgs s_Rota_init) (defBody s_Rota_init) (defScope s_Rota_init) .none kV15 dc15 pm15 an15 cd15 ct15), sl15⟩)
    (c15 : PySem.W.codeIn K cd15 "Rota.__init__" = true)
    (k15 : PySem.W.keepIn K (.ref f15) = true)
    (a16 : PySem.W.nsIn K mainGlobals "_law_made" = some (some (.ref f16)))
    (l16 : K.lookup f16 = some ⟨oc16, od16, .func (PySem.W.fnOf "_law_made" "_law_made" (defArgs s_law_made) (defBody s_law_made) (defScope s_law_made) .none kV16 dc16 pm16 an16 cd16 ct16), sl16⟩)
    (c16 : PySem.W.codeIn K cd16 "_law_made" = true)
    (k16 : PySem.W.keepIn K (.ref f16) = true)
    (a17 : PySem.W.nsIn K mainGlobals "law" = some (some (.ref f17)))
    (l17 : K.lookup f17 = some ⟨oc17, od17, .func (PySem.W.fnOf "law" "law" (defArgs s_law) (defBody s_law) (defScope s_law) .none kV17 dc17 pm17 an17 cd17 ct17), sl17⟩)
    (c17 : PySem.W.codeIn K cd17 "law" = true)
    (k17 : PySem.W.keepIn K (.ref f17) = true)
    (z0 : PySem.W.nsIn K mainGlobals "abs" = some none)
    (z1 : PySem.W.nsIn K mainGlobals "all" = some none)
    (z2 : PySem.W.nsIn K mainGlobals "bool" = some none)
    (z3 : PySem.W.nsIn K mainGlobals "int" = some none)
    (z4 : PySem.W.nsIn K mainGlobals "isinstance" = some none)
    (z5 : PySem.W.nsIn K mainGlobals "len" = some none)
    (z6 : PySem.W.nsIn K mainGlobals "list" = some none)
    (z7 : PySem.W.nsIn K mainGlobals "max" = some none)
    (z8 : PySem.W.nsIn K mainGlobals "min" = some none)
    (z9 : PySem.W.nsIn K mainGlobals "range" = some none)
    (z10 : PySem.W.nsIn K mainGlobals "repr" = some none)
    (z11 : PySem.W.nsIn K mainGlobals "sorted" = some none)
    (z12 : PySem.W.nsIn K mainGlobals "str" = some none)
    (z13 : PySem.W.nsIn K mainGlobals "tuple" = some none)
    (y0 : PySem.W.nsIn K mainGlobals "PAIR" = some (some (.int 2 t0)))
    : ∃ fd : FuncData, (∀ (s : Shared) (v : Value), BindsTo s fd ⟨[v], []⟩ [("_law_script", v)]) ∧ ∀ base : Heap, K.In base → base.Ns mainGlobals mg → FnG P w K mg base (L2.CX P w) 9 fa fd ["_law_script"] (spL K) := by
  have e := hfa.symm.trans (PySem.W.mg_of X G a17)
  cases e
  have F0 := fun_mk (st := s_is_integer) l0 c0 k0
  have b0 := F0.binds (ps := ["value"]) fun _ _ _ _ _ _ us hl => match us, hl with | [_], _ => rfl
  have F1 := fun_mk (st := s_is_sequence) l1 c1 k1
  have b1 := F1.binds (ps := ["value"]) fun _ _ _ _ _ _ us hl => match us, hl with | [_], _ => rfl
  have F2 := fun_mk (st := s_Rota_len) l2 c2 k2
  have b2 := F2.binds (ps := ["self"]) fun _ _ _ _ _ _ us hl => match us, hl with | [_], _ => rfl
  have F3 := fun_mk (st := s_Rota_eq) l3 c3 k3
  have b3 := F3.binds (ps := ["self", "other"]) fun _ _ _ _ _ _ us hl => match us, hl with | [_, _], _ => rfl
  have F4 := fun_mk (st := s_Rota_str) l4 c4 k4
  have b4 := F4.binds (ps := ["self"]) fun _ _ _ _ _ _ us hl => match us, hl with | [_], _ => rfl
  have F5 := fun_mk (st := s_text_of_rota) l5 c5 k5
  have b5 := F5.binds (ps := ["places", "rows"]) fun _ _ _ _ _ _ us hl => match us, hl with | [_, _], _ => rfl
  have F6 := fun_mk (st := s_law_box) l6 c6 k6
  have b6 := F6.binds (ps := ["_law_script", "_law_k", "_law_own"]) fun _ _ _ _ _ _ us hl => match us, hl with | [_, _, _], _ => rfl
  have F7 := fun_mk (st := s_law_take) l7 c7 k7
  have b7 := F7.binds (ps := ["_law_box_here", "_law_bound"]) fun _ _ _ _ _ _ us hl => match us, hl with | [_, _], _ => rfl
  have F8 := fun_mk (st := s_law_text) l8 c8 k8
  have b8 := F8.binds (ps := ["_law_told"]) fun _ _ _ _ _ _ us hl => match us, hl with | [_], _ => rfl
  have F9 := fun_mk (st := s_is_from) l9 c9 k9
  have b9 := F9.binds (ps := ["value", "least"]) fun _ _ _ _ _ _ us hl => match us, hl with | [_, _], _ => rfl
  have F10 := fun_mk (st := s_law_mixed) l10 c10 k10
  have b10 := F10.binds (ps := ["_law_box_here", "_law_items"]) fun _ _ _ _ _ _ us hl => match us, hl with | [_, _], _ => rfl
  have F11 := fun_mk (st := s_is_below) l11 c11 k11
  have b11 := F11.binds (ps := ["value", "bound"]) fun _ _ _ _ _ _ us hl => match us, hl with | [_, _], _ => rfl
  have F12 := fun_mk (st := s_law_rota) l12 c12 k12
  have b12 := F12.binds (ps := ["_law_box_here", "_law_most", "_law_rows"]) fun _ _ _ _ _ _ us hl => match us, hl with | [_, _, _], _ => rfl
  have F13 := fun_mk (st := s_is_unlike) l13 c13 k13
  have b13 := F13.binds (ps := ["value", "bound"]) fun _ _ _ _ _ _ us hl => match us, hl with | [_, _], _ => rfl
  have F14 := fun_mk (st := s_is_row) l14 c14 k14
  have b14 := F14.binds (ps := ["value", "places"]) fun _ _ _ _ _ _ us hl => match us, hl with | [_, _], _ => rfl
  have F15 := fun_mk (st := s_Rota_init) l15 c15 k15
  have b15 := F15.binds (ps := ["self", "places", "rows"]) fun _ _ _ _ _ _ us hl => match us, hl with | [_, _, _], _ => rfl
  have F16 := fun_mk (st := s_law_made) l16 c16 k16
  have b16 := F16.binds (ps := ["_law_told"]) fun _ _ _ _ _ _ us hl => match us, hl with | [_], _ => rfl
  have F17 := fun_mk (st := s_law) l17 c17 k17
  have b17 := F17.binds (ps := ["_law_script"]) fun _ _ _ _ _ _ us hl => match us, hl with | [_], _ => rfl
  let D : Dfs K mg := { f_is_integer := f0, fd_is_integer := _, F_is_integer := F0, b_is_integer := b0, g_is_integer := PySem.W.mg_of X G a0, f_is_sequence := f1, fd_is_sequence := _, F_is_sequence := F1, b_is_sequence := b1, g_is_sequence := PySem.W.mg_of X G a1, f_Rota_len := f2, fd_Rota_len := _, F_Rota_len := F2, b_Rota_len := b2, f_Rota_eq := f3, fd_Rota_eq := _, F_Rota_eq := F3, b_Rota_eq := b3, f_Rota_str := f4, fd_Rota_str := _, F_Rota_str := F4, b_Rota_str := b4, f_text_of_rota := f5, fd_text_of_rota := _, F_text_of_rota := F5, b_text_of_rota := b5, g_text_of_rota := PySem.W.mg_of X G a5, f_law_box := f6, fd_law_box := _, F_law_box := F6, b_law_box := b6, g_law_box := PySem.W.mg_of X G a6, f_law_take := f7, fd_law_take := _, F_law_take := F7, b_law_take := b7, g_law_take := PySem.W.mg_of X G a7, f_law_text := f8, fd_law_text := _, F_law_text := F8, b_law_text := b8, g_law_text := PySem.W.mg_of X G a8, f_is_from := f9, fd_is_from := _, F_is_from := F9, b_is_from := b9, g_is_from := PySem.W.mg_of X G a9, f_law_mixed := f10, fd_law_mixed := _, F_law_mixed := F10, b_law_mixed := b10, g_law_mixed := PySem.W.mg_of X G a10, f_is_below := f11, fd_is_below := _, F_is_below := F11, b_is_below := b11, g_is_below := PySem.W.mg_of X G a11, f_law_rota := f12, fd_law_rota := _, F_law_rota := F12, b_law_rota := b12, g_law_rota := PySem.W.mg_of X G a12, f_is_unlike := f13, fd_is_unlike := _, F_is_unlike := F13, b_is_unlike := b13, g_is_unlike := PySem.W.mg_of X G a13, f_is_row := f14, fd_is_row := _, F_is_row := F14, b_is_row := b14, g_is_row := PySem.W.mg_of X G a14, f_Rota_init := f15, fd_Rota_init := _, F_Rota_init := F15, b_Rota_init := b15, f_law_made := f16, fd_law_made := _, F_law_made := F16, b_law_made := b16, g_law_made := PySem.W.mg_of X G a16, f_law := fa, fd_law := _, F_law := F17, b_law := b17, g_law := PySem.W.mg_of X G a17, C_Rota := C_Rota, gC_Rota := PySem.W.mg_of X G aC_Rota, cls_Rota := ⟨pg_Rota, hd_Rota, po_Rota, sa_Rota⟩, mk_Rota := ⟨mk_Rota, a15, i15, kc_Rota⟩, na_Rota_places := na_Rota_places, na_Rota_rows := na_Rota_rows, na_Rota_text := na_Rota_text, nb_Rota := ⟨⟨⟨pg_Rota, hd_Rota, po_Rota, sa_Rota⟩, iha_Rota, ihn_Rota, iht_Rota, mro_obj mk_Rota, if_pos (beq_self_eq_true _)⟩, fun n => match n with | .int => sb_Rota_int | .bool => sb_Rota_bool | .str => sb_Rota_str | .list => sb_Rota_list | .tuple => sb_Rota_tuple⟩, hdx_Rota := hd_Rota, tyx_Rota := tyx_Rota, bt_NoneType_Rota := bt_NoneType_Rota, bt_bool_Rota := bt_bool_Rota, bt_int_Rota := bt_int_Rota, bt_str_Rota := bt_str_Rota, bt_list_Rota := bt_list_Rota, bt_tuple_Rota := bt_tuple_Rota, bt_dict_Rota := bt_dict_Rota, ne_Rota := ne_Rota, ic_Rota := ⟨⟨pg_Rota, hd_Rota, po_Rota, sa_Rota⟩, iha_Rota, ihn_Rota, iht_Rota, mro_obj mk_Rota, if_pos (beq_self_eq_true _)⟩, me_Rota_eq := ⟨a3, i3, k3⟩, me_Rota_len := ⟨a2, i2, k2⟩, me_Rota_str := ⟨a4, i4, k4⟩, z_abs := PySem.W.mg_none_of X G z0, z_all := PySem.W.mg_none_of X G z1, z_bool := PySem.W.mg_none_of X G z2, z_int := PySem.W.mg_none_of X G z3, z_isinstance := PySem.W.mg_none_of X G z4, z_len := PySem.W.mg_none_of X G z5, z_list := PySem.W.mg_none_of X G z6, z_max := PySem.W.mg_none_of X G z7, z_min := PySem.W.mg_none_of X G z8, z_range := PySem.W.mg_none_of X G z9, z_repr := PySem.W.mg_none_of X G z10, z_sorted := PySem.W.mg_none_of X G z11, z_str := PySem.W.mg_none_of X G z12, z_tuple := PySem.W.mg_none_of X G z13, v_PAIR := _, c_PAIR := PySem.W.mg_of X G y0, r_PAIR := ⟨_, rfl⟩ }
  exact ⟨D.fd_law, fun s v => .of_eq rfl, fun base _ _ => (ok_law D).imp fun vs H Q E h => h D.cl⟩
theorem law_sp {K : PySem.W.Frag} (hm : ∀ ns : List Int, ns.length ≤ 63 → m_law [.scr ns] = .ret (.bl true) .non) (H : Hp) (a : Addr) (ns : List Int) (hl : ns.length ≤ 63) (hS : SqL K H a (ns.map V.int)) : spL K [.ref a] H (fun v _ => v = .bl true) fun _ _ _ => False := by
  intro cl
  refine ⟨H, [.scr ns], none, rfl, le_refl H, ⟨.cons (.scr hS) .nil, rfl⟩, ?_⟩
  rw [hm ns hl]
  exact fun F' H' v _ _ _ r => Rep.bl_inv (show Rep _ _ _ _ from r)
end Dl
open PySem PySem.W PyProof.Rows
theorem Dl.cx_none {P : Program} {w : World} {H : L2.Hp} {s : Shared} {e : Value} {s' : Shared} (h : L2.CX P w [] H s (fun _ _ _ => False) e s') : False := by
  obtain ⟨_, _, _, _, _, _, _, _, _, _, _, _, z⟩ := h
  exact z
set_option maxHeartbeats 0 in
theorem PySem.Challenge.cw_turnrota_k02_rotas_made_holds : PySem.Challenge.rw_turnrota_k02_rotas_made.Holds := by
  w_on; o_law; k_head; (case hw => w_witness2)
  k_fill
  refine Dl.walkG (l := PySem.Challenge.rw_turnrota_k02_rotas_made) (n := 63) (k := 9) (x := "_law_script") (CX := fun w => L2.CX PySem.Challenge.rw_turnrota_k02_rotas_made.prog w) (sp := fun w => Dl.spL _) rfl (by decide) rfl ⟨rfl, by decide, by decide⟩ (fun w h Y => PySem.W.kIn_of Y) ?F (fun _ H a ns hl _ hS => Dl.law_sp Dl.law_true H a ns hl hS) (fun _ _ _ _ _ h => Dl.cx_none h)
  case F =>
    intro w mg fa h KX G hmg
    refine' Dl.all_mk KX G hmg ?aC_Rota ?pg_Rota ?hd_Rota ?po_Rota ?sa_Rota ?mk_Rota ?kc_Rota ?na_Rota_places ?na_Rota_rows ?na_Rota_text ?sb_Rota_int ?sb_Rota_bool ?sb_Rota_str ?sb_Rota_list ?sb_Rota_tuple ?tyx_Rota ?bt_NoneType_Rota ?bt_bool_Rota ?bt_int_Rota ?bt_str_Rota ?bt_list_Rota ?bt_tuple_Rota ?bt_dict_Rota ?ne_Rota ?iha_Rota ?ihn_Rota ?iht_Rota ?a0 ?l0 ?c0 ?k0 ?a1 ?l1 ?c1 ?k1 ?a2 ?i2 ?l2 ?c2 ?k2 ?a3 ?i3 ?l3 ?c3 ?k3 ?a4 ?i4 ?l4 ?c4 ?k4 ?a5 ?l5 ?c5 ?k5 ?a6 ?l6 ?c6 ?k6 ?a7 ?l7 ?c7 ?k7 ?a8 ?l8 ?c8 ?k8 ?a9 ?l9 ?c9 ?k9 ?a10 ?l10 ?c10 ?k10 ?a11 ?l11 ?c11 ?k11 ?a12 ?l12 ?c12 ?k12 ?a13 ?l13 ?c13 ?k13 ?a14 ?l14 ?c14 ?k14 ?a15 ?i15 ?l15 ?c15 ?k15 ?a16 ?l16 ?c16 ?k16 ?a17 ?l17 ?c17 ?k17 ?z0 ?z1 ?z2 ?z3 ?z4 ?z5 ?z6 ?z7 ?z8 ?z9 ?z10 ?z11 ?z12 ?z13 ?y0
    (case aC_Rota => k_is); (case pg_Rota => k_is); (case hd_Rota => k_is); (case po_Rota => k_is); (case sa_Rota => k_is); (case mk_Rota => k_is); (case kc_Rota => k_is); (case na_Rota_places => k_is); (case na_Rota_rows => k_is); (case na_Rota_text => k_is); (case sb_Rota_int => k_is); (case sb_Rota_bool => k_is); (case sb_Rota_str => k_is); (case sb_Rota_list => k_is); (case sb_Rota_tuple => k_is); (case tyx_Rota => k_is); (case bt_NoneType_Rota => k_is); (case bt_bool_Rota => k_is); (case bt_int_Rota => k_is); (case bt_str_Rota => k_is); (case bt_list_Rota => k_is); (case bt_tuple_Rota => k_is); (case bt_dict_Rota => k_is); (case ne_Rota => k_is); (case iha_Rota => k_is); (case ihn_Rota => k_is); (case iht_Rota => k_is); (case a0 => k_is); (case l0 => k_is); (case c0 => k_is); (case k0 => k_is); (case a1 => k_is); (case l1 => k_is); (case c1 => k_is); (case k1 => k_is); (case a2 => k_is); (case i2 => k_is); (case l2 => k_is); (case c2 => k_is); (case k2 => k_is); (case a3 => k_is); (case i3 => k_is); (case l3 => k_is); (case c3 => k_is); (case k3 => k_is); (case a4 => k_is); (case i4 => k_is); (case l4 => k_is); (case c4 => k_is); (case k4 => k_is); (case a5 => k_is); (case l5 => k_is); (case c5 => k_is); (case k5 => k_is); (case a6 => k_is); (case l6 => k_is); (case c6 => k_is); (case k6 => k_is); (case a7 => k_is); (case l7 => k_is); (case c7 => k_is); (case k7 => k_is); (case a8 => k_is); (case l8 => k_is); (case c8 => k_is); (case k8 => k_is); (case a9 => k_is); (case l9 => k_is); (case c9 => k_is); (case k9 => k_is); (case a10 => k_is); (case l10 => k_is); (case c10 => k_is); (case k10 => k_is); (case a11 => k_is); (case l11 => k_is); (case c11 => k_is); (case k11 => k_is); (case a12 => k_is); (case l12 => k_is); (case c12 => k_is); (case k12 => k_is); (case a13 => k_is); (case l13 => k_is); (case c13 => k_is); (case k13 => k_is); (case a14 => k_is); (case l14 => k_is); (case c14 => k_is); (case k14 => k_is); (case a15 => k_is); (case i15 => k_is); (case l15 => k_is); (case c15 => k_is); (case k15 => k_is); (case a16 => k_is); (case l16 => k_is); (case c16 => k_is); (case k16 => k_is); (case a17 => k_is); (case l17 => k_is); (case c17 => k_is); (case k17 => k_is); (case z0 => k_is); (case z1 => k_is); (case z2 => k_is); (case z3 => k_is); (case z4 => k_is); (case z5 => k_is); (case z6 => k_is); (case z7 => k_is); (case z8 => k_is); (case z9 => k_is); (case z10 => k_is); (case z11 => k_is); (case z12 => k_is); (case z13 => k_is); (case y0 => k_is)
