import PyProof.Rows.All
import Wide.All
import OpenK.AllK
import Wide.FinOn
import HandS.ForMost
import HandS.Star
import HandS.IsInst
import HandS.SortInts
import HandS.Wide
import HandS.WordsExc
import HandS.Walk
import HandS.Flow
import HandS.CallSlots
import KE.KeyNested
import KE.KDictWalk
import HandS.Lambda
import HandS.Deep
import HandS.WordsDict
import HandS.TupAny
import KE.GoesMore
import HandS.Style
import HandS.FStr
import HandS.DictComp
import HandS.Comp
import HandS.DictTup
import HandS.List
import PyProof.P3In
import HandS.Defaults
import HandS.Conv
import HandS.RaiseMore
import HandS.OwnEq
import HandS.TupMul
import HandS.SortRule
import HandS.Iter
import KE.KDictDisplayH
import PyProof.Rows.SumAny
import KE.KDictCopyH
import KE.KDictList
import HandS.TupLen
import HandS.More
import HandS.Codes
import PyProof.InstNe
import HandS.SetFor
import HandS.SetKeys
import PyProof.Rows.SetFrom
import PyProof.SetRoads
import HandS.TupLe
import HandS.TryOnly
import HandS.Text
import HandS.ExcField
import HandS.ExcIs
import HandS.ExcInit
import KE.KExcIs
import HandS.TryMany
import PyProof.StrBlock2
import HandS.ClsMeth
import HandS.NoneIn
import HandS.MakeKw
import HandS.HeadHook3
import HandS.ReplaceLit
import HandS.SortOrd
import HandS.NamedTupSort
import KE.SortData
import KE.GoesEnumKw
import PyProof.ZipIter
import KE.KDictKeyed
import HandS.Zip
import HandS.EndTab
import HandS.ExcOwn
import KE.KNestM
import PySem.Challenge.RW_turnrota_k52_days_refused
import PyProof.Rows.StrJoinMade
import PyProof.Rows.SetFoldBridge
import PyProof.TableCode
set_option Elab.async false
set_option linter.all false
set_option maxRecDepth 100000
set_option maxHeartbeats 4000000
namespace NK
open PySem PySem.Spec PyProof.Rows L2
/-! ### dicts whose keys are an int and a tuple of ints -/
abbrev NKey := Int × List Int
def nk (k : NKey) : NestedKey := .tup [.num k.1, .tup (k.2.map .num)]
def nHash (k : NKey) : Int := reduceHash (Builtin.Tuple.tupleHashOf [hashInt k.1, reduceHash (Builtin.Tuple.tupleHashOf (k.2.map hashInt))])
/-- where a key is -/
def KAt (K : PySem.W.Frag) (H : Hp) (ka : Addr) (k : NKey) : Prop := ∃ b, H ka = some (.tup [.int k.1, .ref b]) ∧ (H b = some (.tup (k.2.map V.int)) ∨ (k.2 = [] ∧ SqT K H b []))
/-! ### entries -/
abbrev NE := NKey × Addr × V
def ent (p : NE) (u : Value) : DictEntry := ⟨nHash p.1, .ref p.2.1, u⟩
def xsOf : List NE → List Value → List (NestedKey × Addr × Value) := List.zipWith fun p u => (nk p.1, p.2.1, u)
/-- one value of an object each -/
abbrev Vs (kvs : List NE) (us : List Value) : Prop := Vals (kvs.map (·.2.2)) us
/-! ### the dict on the heap -/
def DFit (a : Addr) (o : Obj) (kvs : List NE) : Prop := kvs.length ≤ sizeLine ∧ (a == sysModules) = false ∧ (kvs.map (·.1)).Nodup ∧ ∃ (us : List Value) (es : Array DictEntry) (ep : Nat), Vs kvs us ∧ o.ExactDict ∧ o.data = .dict es ep ∧ es.toList = List.zipWith ent kvs us
/-- the dict at a: its object, its keys with where they are -/
def DN (a : Addr) (o : Obj) (kvs : List NE) : HO := .ext fun h => h.get? a = some o ∧ DFit a o kvs
def DKs (K : PySem.W.Frag) (H : Hp) (kvs : List NE) : Prop := ∀ p ∈ kvs, KAt K H p.2.1 p.1
structure Held (X : Cx) (s : Shared) (a : Addr) (ob : Obj) (kvs : List NE) (us : List Value) (es : Array DictEntry) (ep : Nat) : Prop where
  sz : kvs.length ≤ sizeLine
  ns : (a == sysModules) = false
  nd : (kvs.map (·.1)).Nodup
  vs : Vs kvs us
  raw : s.heap.DictRaw a es ep
  dat : ob.data = .dict es ep
  ent : es.toList = List.zipWith NK.ent kvs us
  dic : s.heap.DictOfH (nestedKind X.prog X.w) a (xsOf kvs us)
end NK
namespace Dl
open PySem PySem.Spec PyProof.Rows L2
/-! ### data -/
inductive Dt where
  | non | bl (b : Bool) | int (i : Int) | str (x : Str) | ty (n : String)
  | scr (ns : List Int) | lst (xs : List Dt) | tup (xs : List Dt) | dic (t : Bool) (ks vs : List Dt) | ins (c : Nat) (vs : List Dt)
  /-- a list of an inner list of ints, held by it alone, and an int -/
  | deal (cs : List Int) (bl : Int)
  /-- a class of the text; an instance of which it is known where it is -/
  | cls (c : Nat) | obj (a c : Nat) (vs : List Dt)
  /-- a dict whose keys are an int and a tuple of ints -/
  | dcn (ks vs : List Dt)
  /-- a table of code objects of the name q; a lambda's function object: its code, and what its maker's names held -/
  | tbl (q : Str) | lam (f c : Addr) (q : Str) (σ : List (Option V)) (is : List Nat) (ds : List Dt)
/-- a parameter that the caller goes on holding: where it is, and what it holds alone -/
abbrev Pin := Addr × List Addr
/-- the classes of the text: their addresses, their fields in order -/
structure Tx where
  K : PySem.W.Frag
  cl : Nat → Option (Addr × List Str)
def kD : Key → Dt
  | .inl i => .int i
  | .inr x => .str x
def nkD (k : NK.NKey) : Dt := .tup [.int k.1, .tup (k.2.map .int)]
abbrev Le (F H : Hp) : Prop := ∀ a o, F a = some o → H a = some o
mutual
inductive Rep (T : Tx) (F : Hp) : V → Dt → Prop
  | non : Rep T F .non .non
  | bl (b : Bool) : Rep T F (.bl b) (.bl b)
  | int (i : Int) : Rep T F (.int i) (.int i)
  | str (x : Str) : Rep T F (.str x) (.str x)
  | ty (n : String) : Rep T F (.ty n) (.ty n)
  | scr {a : Addr} {ns : List Int} : SqL T.K F a (ns.map V.int) → Rep T F (.ref a) (.scr ns)
  | lst {a : Addr} {vs : List V} {ds : List Dt} : F a = some (.lst vs) → Reps T F vs ds → Rep T F (.ref a) (.lst ds)
  | tup {a : Addr} {vs : List V} {ds : List Dt} : F a = some (.tup vs) → Reps T F vs ds → Rep T F (.ref a) (.tup ds)
  | tup0 {a : Addr} : SqT T.K F a [] → Rep T F (.ref a) (.tup [])
  | dicK {a : Addr} {ks : List Key} {vs : List V} {ds : List Dt} : F a = some (.dK (ks.zip vs)) → ks.length = vs.length → Reps T F vs ds → Rep T F (.ref a) (.dic false (ks.map kD) ds)
  | dicT {a : Addr} {ks : List (List Key)} {vs : List V} {ds : List Dt} : F a = some (.dT (ks.zip vs)) → ks.length = vs.length → Reps T F vs ds → Rep T F (.ref a) (.dic true (ks.map fun l => .tup (l.map kD)) ds)
  | ins {a C dx : Addr} {c : Nat} {ns : List Str} {vs : List V} {ds : List Dt} : T.cl c = some (C, ns) → F a = some (.ins C dx (ns.zip vs)) → vs.length ≤ ns.length → Reps T F vs ds → Rep T F (.ref a) (.ins c ds)
  | deal {a b : Addr} {cs : List Int} {bl : Int} : F a = some (.lst [.ref b, .int bl]) → F b = some (.lst (cs.map V.int)) → Rep T F (.ref a) (.deal cs bl)
  | cls {C : Addr} {c : Nat} {ns : List Str} : T.cl c = some (C, ns) → Rep T F (.ref C) (.cls c)
  | obj {a C dx : Addr} {c : Nat} {ns : List Str} {vs : List V} {ds : List Dt} : T.cl c = some (C, ns) → F a = some (.ins C dx (ns.zip vs)) → vs.length ≤ ns.length → Reps T F vs ds → Rep T F (.ref a) (.obj a c ds)
  | dcn {a : Addr} {ob : Obj} {kvs : List NK.NE} {ds : List Dt} : F a = some (NK.DN a ob kvs) → NK.DKs T.K F kvs → Reps T F (kvs.map (·.2.2)) ds → Rep T F (.ref a) (.dcn (kvs.map fun p => nkD p.1) ds)
  | tbl {a : Addr} {ps : Array Value} {q : Str} : F a = some (.tbl ps) → Rep T F (.ref a) (.tbl q)
  | lam {f c : Addr} {q : Str} {σ : List (Option V)} {is : List Nat} {vs : List V} {ds : List Dt} : F c = some (LamX.CodeO c q) → vs.length = is.length → (∀ (j i : Nat) (v : V), is[j]? = some i → vs[j]? = some v → σ[i]? = some (some v)) → Reps T F vs ds → Rep T F (.ref f) (.lam f c q σ is ds)
inductive Reps (T : Tx) (F : Hp) : List V → List Dt → Prop
  | nil : Reps T F [] []
  | cons {v : V} {vs : List V} {d : Dt} {ds : List Dt} : Rep T F v d → Reps T F vs ds → Reps T F (v :: vs) (d :: ds)
end
theorem le_refl (H : Hp) : Le H H := fun _ _ h => h
theorem le_trans {A B C : Hp} (h : Le A B) (k : Le B C) : Le A C := fun a o e => k a o (h a o e)
theorem le_new {H : Hp} {p : Addr} {o : HO} (h : H p = none) : Le H (upd H p o) := fun a u e => by
  rw [upd_ne (ne_of_none e h)]; exact e
theorem sql_mono {K : PySem.W.Frag} {H H' : Hp} {a : Addr} {xs : List V} (e : Le H H') (h : SqL K H a xs) : SqL K H' a xs := Same.seq e h
theorem sqt_mono {K : PySem.W.Frag} {H H' : Hp} {a : Addr} {xs : List V} (e : Le H H') (h : SqT K H a xs) : SqT K H' a xs := by
  rcases h with (h | ⟨o, h⟩) | h
  · exact .inl (.inl (e _ _ h))
  · exact .inl (.inr ⟨o, e _ _ h⟩)
  · exact .inr h
theorem kat_mono {K : PySem.W.Frag} {F F' : Hp} (e : Le F F') {a : Addr} {k : NK.NKey} (h : NK.KAt K F a k) : NK.KAt K F' a k := let ⟨b, h1, h2⟩ := h; ⟨b, e _ _ h1, h2.elim (fun z => .inl (e _ _ z)) fun z => .inr ⟨z.1, sqt_mono e z.2⟩⟩
theorem dks_mono {K : PySem.W.Frag} {F F' : Hp} (e : Le F F') {kvs : List NK.NE} (h : NK.DKs K F kvs) : NK.DKs K F' kvs := fun p hp => kat_mono e (h p hp)
section
variable {T : Tx} {F F' : Hp}
mutual
theorem Rep.mono (e : Le F F') : ∀ {v : V} {d : Dt}, Rep T F v d → Rep T F' v d
  | _, _, .non => .non
  | _, _, .bl b => .bl b
  | _, _, .int i => .int i
  | _, _, .str x => .str x
  | _, _, .ty n => .ty n
  | _, _, .scr h => .scr (sql_mono e h)
  | _, _, .lst h r => .lst (e _ _ h) (Reps.mono e r)
  | _, _, .tup h r => .tup (e _ _ h) (Reps.mono e r)
  | _, _, .tup0 h => .tup0 (sqt_mono e h)
  | _, _, .dicK h l r => .dicK (e _ _ h) l (Reps.mono e r)
  | _, _, .dicT h l r => .dicT (e _ _ h) l (Reps.mono e r)
  | _, _, .ins c h l r => .ins c (e _ _ h) l (Reps.mono e r)
  | _, _, .deal h l => .deal (e _ _ h) (e _ _ l)
  | _, _, .cls h => .cls h
  | _, _, .obj c h l r => .obj c (e _ _ h) l (Reps.mono e r)
  | _, _, .dcn h l r => .dcn (e _ _ h) (dks_mono e l) (Reps.mono e r)
  | _, _, .tbl h => .tbl (e _ _ h)
  | _, _, .lam h l g r => .lam (e _ _ h) l g (Reps.mono e r)
theorem Reps.mono (e : Le F F') : ∀ {vs : List V} {ds : List Dt}, Reps T F vs ds → Reps T F' vs ds
  | _, _, .nil => .nil
  | _, _, .cons h r => .cons (Rep.mono e h) (Reps.mono e r)
end
theorem Reps.length : ∀ {vs : List V} {ds : List Dt}, Reps T F vs ds → vs.length = ds.length
  | _, _, .nil => rfl
  | _, _, .cons _ r => by rw [List.length_cons, List.length_cons, Reps.length r]
theorem Reps.get : ∀ {vs : List V} {ds : List Dt} {i : Nat} {d : Dt}, Reps T F vs ds → ds[i]? = some d → ∃ v, vs[i]? = some v ∧ Rep T F v d
  | _, _, _, _, .nil, e => by simp at e
  | _, _, 0, _, .cons h _, e => by simp at e; subst e; exact ⟨_, rfl, h⟩
  | _, _, i + 1, d, .cons _ r, e => by
    obtain ⟨v, h1, h2⟩ := Reps.get (i := i) (d := d) r (by simpa using e)
    exact ⟨v, by simpa using h1, h2⟩
theorem Reps.append : ∀ {vs ws : List V} {ds es : List Dt}, Reps T F vs ds → Reps T F ws es → Reps T F (vs ++ ws) (ds ++ es)
  | _, _, _, _, .nil, s => s
  | _, _, _, _, .cons h r, s => .cons h (Reps.append r s)
theorem Reps.set {v : V} {d : Dt} (h : Rep T F v d) : ∀ {vs : List V} {ds : List Dt} (i : Nat), Reps T F vs ds → Reps T F (vs.set i v) (ds.set i d)
  | _, _, _, .nil => .nil
  | _, _, 0, .cons _ r => .cons h r
  | _, _, i + 1, .cons q r => .cons q (Reps.set h i r)
theorem Reps.take : ∀ {vs : List V} {ds : List Dt} (n : Nat), Reps T F vs ds → Reps T F (vs.take n) (ds.take n)
  | _, _, 0, _ => .nil
  | _, _, _ + 1, .nil => .nil
  | _, _, n + 1, .cons h r => .cons h (Reps.take n r)
theorem Reps.drop : ∀ {vs : List V} {ds : List Dt} (n : Nat), Reps T F vs ds → Reps T F (vs.drop n) (ds.drop n)
  | _, _, 0, h => h
  | _, _, _ + 1, .nil => .nil
  | _, _, n + 1, .cons _ r => Reps.drop n r
theorem Reps.mk : ∀ {vs : List V} {ds : List Dt}, vs.length = ds.length → (∀ (i : Nat) v d, vs[i]? = some v → ds[i]? = some d → Rep T F v d) → Reps T F vs ds
  | [], [], _, _ => .nil
  | [], _ :: _, h, _ => by simp at h
  | _ :: _, [], h, _ => by simp at h
  | v :: vs, d :: ds, h, f => .cons (f 0 v d rfl rfl) (Reps.mk (by simpa using h) fun i w e a b => f (i + 1) w e (by simpa using a) (by simpa using b))
end
theorem Rep.tup_inv {T : Tx} {F : Hp} {v : V} {ds : List Dt} (h : Rep T F v (.tup ds)) : ∃ a vs, v = .ref a ∧ SqT T.K F a vs ∧ Reps T F vs ds := by
  cases h with
  | tup e r => exact ⟨_, _, rfl, SqT.of e, r⟩
  | tup0 e => exact ⟨_, _, rfl, e, .nil⟩
/-- an object that one slot holds alone: it stands in H, not among the frozen ones -/
def OwnAt (T : Tx) (F H : Hp) (a : Addr) : Dt → Prop
  | .lst ds => ∃ vs, H a = some (.lst vs) ∧ Reps T F vs ds
  | .dic false ks ds => ∃ (kk : List Key) (vs : List V), H a = some (.dK (kk.zip vs)) ∧ kk.length = vs.length ∧ ks = kk.map kD ∧ Reps T F vs ds
  | .dic true ks ds => ∃ (kk : List (List Key)) (vs : List V), H a = some (.dT (kk.zip vs)) ∧ kk.length = vs.length ∧ (ks = kk.map fun l => .tup (l.map kD)) ∧ Reps T F vs ds
  | .ins c ds => ∃ (C dx : Addr) (ns : List Str) (vs : List V), T.cl c = some (C, ns) ∧ H a = some (.ins C dx (ns.zip vs)) ∧ vs.length ≤ ns.length ∧ Reps T F vs ds
  | .deal cs bl => ∃ b, H a = some (.lst [.ref b, .int bl]) ∧ H b = some (.lst (cs.map V.int)) ∧ b ≠ a
  | .dcn ks ds => ∃ (ob : Obj) (kvs : List NK.NE), H a = some (NK.DN a ob kvs) ∧ NK.DKs T.K F kvs ∧ (ks = kvs.map fun p => nkD p.1) ∧ Reps T F (kvs.map (·.2.2)) ds
  | .tbl q => ∃ ps : Array Value, H a = some (.tbl ps) ∧ TriplesOk ps.toList ∧ ∀ (pos : Pos) (cv : Value), codeAmong pos ps.toList = some cv → ∃ c, cv = .ref c ∧ F c = some (LamX.CodeO c q)
  | _ => False
/-- what a slot's own object holds alone -/
def inH (H : Hp) (a : Addr) : Dt → List Addr
  | .deal _ _ => (match H a with | some (.lst (.ref b :: _)) => [b] | _ => [])
  | _ => []
theorem OwnAt.has {T : Tx} {F H : Hp} {a : Addr} {d : Dt} (h : OwnAt T F H a d) : ∃ o, H a = some o ∧ ∀ vs, o ≠ .tup vs := by
  cases d with
  | lst ds => obtain ⟨_, e, _⟩ := h; exact ⟨_, e, fun _ z => nomatch z⟩
  | dic t ks ds =>
    cases t with
    | false => obtain ⟨_, _, e, _⟩ := h; exact ⟨_, e, fun _ z => nomatch z⟩
    | true => obtain ⟨_, _, e, _⟩ := h; exact ⟨_, e, fun _ z => nomatch z⟩
  | ins c ds => obtain ⟨_, _, _, _, _, e, _⟩ := h; exact ⟨_, e, fun _ z => nomatch z⟩
  | deal cs bl => obtain ⟨_, e, _⟩ := h; exact ⟨_, e, fun _ z => nomatch z⟩
  | dcn ks ds => obtain ⟨_, _, e, _⟩ := h; exact ⟨_, e, fun _ z => nomatch z⟩
  | tbl q => obtain ⟨_, e, _⟩ := h; exact ⟨_, e, fun _ z => nomatch z⟩
  | _ => exact h.elim
theorem inH_deal {H : Hp} {a b : Addr} {cs : List Int} {bl bl' : Int} (h : H a = some (.lst [.ref b, .int bl])) : inH H a (.deal cs bl') = [b] := by
  unfold inH; dsimp only; rw [h]
theorem OwnAt.hasI {T : Tx} {F H : Hp} {a x : Addr} {d : Dt} (h : OwnAt T F H a d) (hx : x = a ∨ x ∈ inH H a d) : ∃ o, H x = some o ∧ ∀ vs, o ≠ .tup vs := by
  rcases hx with hx | hx
  · rw [hx]; exact h.has
  · cases d with
    | deal cs bl => obtain ⟨b, e1, e2, e3⟩ := h; rw [inH_deal e1] at hx; rw [List.mem_singleton.mp hx]; exact ⟨_, e2, fun _ z => nomatch z⟩
    | _ => cases hx
theorem OwnAt.same {T : Tx} {F H H' : Hp} {a : Addr} {d : Dt} (h : OwnAt T F H a d) (ha : ∀ o, H a = some o → H' a = some o) : inH H' a d = inH H a d := by
  cases d with
  | deal cs bl => obtain ⟨b, e1, e2, e3⟩ := h; rw [inH_deal e1, inH_deal (ha _ e1)]
  | _ => rfl
theorem OwnAt.mono {T : Tx} {F F' H H' : Hp} {a : Addr} {d : Dt} (e : Le F F') (ha : ∀ x, (x = a ∨ x ∈ inH H a d) → ∀ o, H x = some o → H' x = some o) (h : OwnAt T F H a d) : OwnAt T F' H' a d := by
  have ha0 := ha a (.inl rfl)
  cases d with
  | lst ds => obtain ⟨vs, x, r⟩ := h; exact ⟨vs, ha0 _ x, r.mono e⟩
  | dic t ks ds =>
    cases t with
    | false => obtain ⟨kk, vs, x, l, k, r⟩ := h; exact ⟨kk, vs, ha0 _ x, l, k, r.mono e⟩
    | true => obtain ⟨kk, vs, x, l, k, r⟩ := h; exact ⟨kk, vs, ha0 _ x, l, k, r.mono e⟩
  | ins c ds => obtain ⟨C, dx, ns, vs, c1, x, l, r⟩ := h; exact ⟨C, dx, ns, vs, c1, ha0 _ x, l, r.mono e⟩
  | deal cs bl => obtain ⟨b, e1, e2, e3⟩ := h; exact ⟨b, ha0 _ e1, ha b (.inr (by rw [inH_deal e1]; exact List.mem_singleton.mpr rfl)) _ e2, e3⟩
  | dcn ks ds => obtain ⟨ob, kvs, x, l, k, r⟩ := h; exact ⟨ob, kvs, ha0 _ x, dks_mono e l, k, r.mono e⟩
  | tbl q => obtain ⟨ps, x, l, r⟩ := h; exact ⟨ps, ha0 _ x, l, fun pos cv z => let ⟨c, h1, h2⟩ := r pos cv z; ⟨c, h1, e _ _ h2⟩⟩
  | _ => exact h.elim
/-- it is frozen -/
theorem OwnAt.frozen {T : Tx} {F H : Hp} {a : Addr} {d : Dt} (h : OwnAt T F H a d) (le : Le F H) (hf : F a = none) (hi : ∀ x ∈ inH H a d, F x = none) :
    ∃ F', Le F F' ∧ Le F' H ∧ (∀ y, y ≠ a → y ∉ inH H a d → F' y = F y) ∧ Rep T F' (.ref a) d := by
  have one : ∀ o, H a = some o → Le F (upd F a o) ∧ Le (upd F a o) H ∧ ∀ y, y ≠ a → upd F a o y = F y := fun o ho =>
    ⟨le_new hf, fun y u z => by
      by_cases zz : y = a
      · subst zz; rw [upd_same] at z; cases z; exact ho
      · rw [upd_ne zz] at z; exact le y u z, fun y hy => upd_ne hy⟩
  cases d with
  | lst ds =>
    obtain ⟨vs, x, r⟩ := h; obtain ⟨e1, e2, e3⟩ := one _ x
    exact ⟨_, e1, e2, fun y hy _ => e3 y hy, .lst upd_same (r.mono e1)⟩
  | dic t ks ds =>
    cases t with
    | false =>
      obtain ⟨kk, vs, x, l, k, r⟩ := h; obtain ⟨e1, e2, e3⟩ := one _ x; subst k
      exact ⟨_, e1, e2, fun y hy _ => e3 y hy, .dicK upd_same l (r.mono e1)⟩
    | true =>
      obtain ⟨kk, vs, x, l, k, r⟩ := h; obtain ⟨e1, e2, e3⟩ := one _ x; subst k
      exact ⟨_, e1, e2, fun y hy _ => e3 y hy, .dicT upd_same l (r.mono e1)⟩
  | ins c ds =>
    obtain ⟨C, dx, ns, vs, c1, x, l, r⟩ := h; obtain ⟨e1, e2, e3⟩ := one _ x
    exact ⟨_, e1, e2, fun y hy _ => e3 y hy, .ins c1 upd_same l (r.mono e1)⟩
  | deal cs bl =>
    obtain ⟨b, g1, g2, g3⟩ := h
    obtain ⟨e1, e2, e3⟩ := one _ g1
    rw [inH_deal g1] at hi ⊢
    have hb : F b = none := hi b (List.mem_singleton.mpr rfl)
    have hb2 : upd F a (.lst [.ref b, .int bl]) b = none := by rw [upd_ne g3]; exact hb
    refine ⟨upd (upd F a (.lst [.ref b, .int bl])) b (.lst (cs.map V.int)), le_trans e1 (le_new hb2), fun y u z => ?_, fun y hy hyi => ?_, .deal (b := b) ?_ upd_same⟩
    · by_cases zz : y = b
      · subst zz; rw [upd_same] at z; cases z; exact g2
      · rw [upd_ne zz] at z; exact e2 y u z
    · rw [upd_ne (fun z => hyi (List.mem_singleton.mpr z))]; exact e3 y hy
    · rw [upd_ne (fun z => g3 z.symm)]; exact upd_same
  | dcn ks ds =>
    obtain ⟨ob, kvs, x, l, k, r⟩ := h; obtain ⟨e1, e2, e3⟩ := one _ x; subst k
    exact ⟨_, e1, e2, fun y hy _ => e3 y hy, .dcn upd_same (dks_mono e1 l) (r.mono e1)⟩
  | tbl q => obtain ⟨ps, x, l, r⟩ := h; obtain ⟨e1, e2, e3⟩ := one _ x; exact ⟨_, e1, e2, fun y hy _ => e3 y hy, .tbl upd_same⟩
  | _ => exact h.elim
/-- to be read: frozen, or a slot's own -/
def RepS (T : Tx) (F H : Hp) (v : V) (d : Dt) : Prop := Rep T F v d ∨ ∃ a, v = .ref a ∧ OwnAt T F H a d
theorem Rep.s {T : Tx} {F H : Hp} {v : V} {d : Dt} (h : Rep T F v d) : RepS T F H v d := .inl h
/-! ### slots -/
inductive Sl where
  | val (d : Dt)
  /-- held alone; io: a parameter that the caller goes on holding -/
  | own (io : Bool) (d : Dt)
abbrev En := List (Option Sl)
def IsOwn (H : Hp) (σ : L2.St) (ρ : En) (x : Addr) : Prop := ∃ (i : Nat) (io : Bool) (d : Dt) (a : Addr), ρ[i]? = some (some (.own io d)) ∧ σ[i]? = some (some (.ref a)) ∧ (x = a ∨ x ∈ inH H a d)
structure Ok (T : Tx) (π : Nat → Option Pin) (A : Addr → Prop) (F H : Hp) (σ : L2.St) (ρ : En) : Prop where
  le : Le F H
  len : σ.length = ρ.length
  val : ∀ (i : Nat) d, ρ[i]? = some (some (.val d)) → ∃ v, σ[i]? = some (some v) ∧ Rep T F v d
  own : ∀ (i : Nat) io d, ρ[i]? = some (some (.own io d)) → ∃ a, σ[i]? = some (some (.ref a)) ∧ F a = none ∧ OwnAt T F H a d ∧ A a ∧ (io = true → π i = some (a, inH H a d)) ∧ ∀ x ∈ inH H a d, F x = none ∧ A x
  dis : ∀ (i j : Nat) io jo d e a b x, ρ[i]? = some (some (.own io d)) → ρ[j]? = some (some (.own jo e)) → σ[i]? = some (some (.ref a)) → σ[j]? = some (some (.ref b)) → (x = a ∨ x ∈ inH H a d) → (x = b ∨ x ∈ inH H b e) → i = j
structure Fr (A : Addr → Prop) (F H F' H' : Hp) : Prop where
  f : Le F F'
  h : ∀ a o, ¬ A a → H a = some o → H' a = some o
  n : ∀ a o, ¬ A a → H a = some o → (∀ vs, o ≠ .tup vs) → F' a = F a
  t : ∀ a, H' a = none → H a = none
theorem Fr.refl {A : Addr → Prop} {F H : Hp} : Fr A F H F H := ⟨le_refl F, fun _ _ _ e => e, fun _ _ _ _ _ => rfl, fun _ e => e⟩
theorem Fr.trans {A : Addr → Prop} {F H F1 H1 F2 H2 : Hp} (a : Fr A F H F1 H1) (b : Fr A F1 H1 F2 H2) : Fr A F H F2 H2 :=
  ⟨le_trans a.f b.f, fun x o hx e => b.h x o hx (a.h x o hx e), fun x o hx e t => by
    rw [b.n x o hx (a.h x o hx e) t, a.n x o hx e t], fun x e => a.t x (b.t x e)⟩
theorem up_none {H : Hp} {p x : Addr} {o : HO} (e : upd H p o x = none) : H x = none := by
  by_cases z : x = p
  · subst z; rw [upd_same] at e; cases e
  · rw [upd_ne z] at e; exact e
/-- a new object, frozen at once -/
theorem Fr.new {A : Addr → Prop} {F H : Hp} {p : Addr} {o : HO} (hf : Le F H) (hp : H p = none) : Fr A F H (upd F p o) (upd H p o) := by
  have fp : F p = none := by
    cases q : F p with
    | none => rfl
    | some u => rw [hf p u q] at hp; cases hp
  refine ⟨le_new fp, fun a u _ e => le_new hp a u e, fun a o _ e _ => ?_, fun a e => up_none e⟩
  rw [upd_ne fun z => by rw [z, hp] at e; cases e]
theorem f_none {F H : Hp} {p : Addr} (hf : Le F H) (hp : H p = none) : F p = none := by
  cases q : F p with
  | none => rfl
  | some u => rw [hf p u q] at hp; cases hp
/-- a new object, not frozen -/
theorem Fr.newO {A : Addr → Prop} {F H : Hp} {p : Addr} {o : HO} (hp : H p = none) : Fr A F H F (upd H p o) := ⟨le_refl F, fun a u _ e => le_new hp a u e, fun _ _ _ _ _ => rfl, fun a e => up_none e⟩
section
variable {T : Tx} {π : Nat → Option Pin} {A : Addr → Prop} {F H F' H' : Hp} {σ : L2.St} {ρ : En}
/-- what stands is kept, the frozen part grows -/
theorem Ok.grow (k : Ok T π A F H σ ρ) (hf : Le F F') (hl : Le F' H') (hn : ∀ a, IsOwn H σ ρ a → F' a = none) (hh : ∀ a o, IsOwn H σ ρ a → H a = some o → H' a = some o) : Ok T π A F' H' σ ρ := by
  have sm : ∀ (i : Nat) io d a, ρ[i]? = some (some (.own io d)) → σ[i]? = some (some (.ref a)) → inH H' a d = inH H a d := fun i io d a e s => by
    obtain ⟨b, h1, h2, h3, h4, h5, h6⟩ := k.own i io d e
    rw [s] at h1
    cases h1
    exact h3.same fun o q => hh a o ⟨i, io, d, a, e, s, .inl rfl⟩ q
  refine ⟨hl, k.len, fun i d e => ?_, fun i io d e => ?_, fun i j io jo d e a b x h1 h2 h3 h4 h5 h6 => k.dis i j io jo d e a b x h1 h2 h3 h4 (by rw [← sm i io d a h1 h3]; exact h5) (by rw [← sm j jo e b h2 h4]; exact h6)⟩
  · obtain ⟨v, h1, h2⟩ := k.val i d e
    exact ⟨v, h1, h2.mono hf⟩
  · obtain ⟨a, h1, h2, h3, h4, h5, h6⟩ := k.own i io d e
    have w : ∀ x, (x = a ∨ x ∈ inH H a d) → IsOwn H σ ρ x := fun x hx => ⟨i, io, d, a, e, h1, hx⟩
    rw [← sm i io d a e h1] at h5 h6
    exact ⟨a, h1, hn a (w a (.inl rfl)), h3.mono hf fun x hx o q => hh x o (w x hx) q, h4, h5, fun x hx => ⟨hn x (w x (.inr (by rw [← sm i io d a e h1]; exact hx))), (h6 x hx).2⟩⟩
/-- the slots' own things are the same where what stands is kept -/
theorem Ok.sameOwn (k : Ok T π A F H σ ρ) (hh : ∀ a o, IsOwn H σ ρ a → H a = some o → H' a = some o) {x : Addr} : IsOwn H' σ ρ x ↔ IsOwn H σ ρ x := by
  have sm : ∀ (i : Nat) io d a, ρ[i]? = some (some (.own io d)) → σ[i]? = some (some (.ref a)) → inH H' a d = inH H a d := fun i io d a e s => by
    obtain ⟨b, h1, h2, h3, h4, h5, h6⟩ := k.own i io d e
    rw [s] at h1
    cases h1
    exact h3.same fun o q => hh a o ⟨i, io, d, a, e, s, .inl rfl⟩ q
  constructor
  · rintro ⟨i, io, d, a, e, s, hx⟩
    exact ⟨i, io, d, a, e, s, by rw [← sm i io d a e s]; exact hx⟩
  · rintro ⟨i, io, d, a, e, s, hx⟩
    exact ⟨i, io, d, a, e, s, by rw [sm i io d a e s]; exact hx⟩
theorem Ok.ownT (k : Ok T π A F H σ ρ) {a : Addr} (w : IsOwn H σ ρ a) : A a ∧ F a = none ∧ ∃ o, H a = some o ∧ ∀ vs, o ≠ .tup vs := by
  obtain ⟨i, io, d, b, e, s, hx⟩ := w
  obtain ⟨c, h1, h2, h3, h4, h5, h6⟩ := k.own i io d e
  rw [s] at h1
  cases h1
  refine ⟨?_, ?_, h3.hasI hx⟩
  · rcases hx with hx | hx
    · rw [hx]; exact h4
    · exact (h6 a hx).2
  · rcases hx with hx | hx
    · rw [hx]; exact h2
    · exact (h6 a hx).1
theorem Ok.ownH (k : Ok T π A F H σ ρ) {a : Addr} (w : IsOwn H σ ρ a) : A a ∧ F a = none ∧ ∃ o, H a = some o := by
  obtain ⟨h1, h2, o, h3, _⟩ := k.ownT w
  exact ⟨h1, h2, o, h3⟩
theorem Ok.new (k : Ok T π A F H σ ρ) {p : Addr} {o : HO} (hp : H p = none) : Ok T π A (upd F p o) (upd H p o) σ ρ := by
  have ne : ∀ a, IsOwn H σ ρ a → a ≠ p := fun a w z => by
    obtain ⟨_, _, u, e⟩ := k.ownH w
    rw [z, hp] at e; cases e
  refine k.grow (le_new (f_none k.le hp)) (fun a u e => ?_) (fun a w => ?_) fun a u w e => ?_
  · by_cases z : a = p
    · subst z; rw [upd_same] at e ⊢; exact e
    · rw [upd_ne z] at e ⊢; exact k.le a u e
  · rw [upd_ne (ne a w)]; exact (k.ownH w).2.1
  · rw [upd_ne (ne a w)]; exact e
theorem Ok.newO (k : Ok T π A F H σ ρ) {p : Addr} {o : HO} (hp : H p = none) : Ok T π A F (upd H p o) σ ρ := by
  refine k.grow (le_refl F) (le_trans k.le (le_new hp)) (fun a w => (k.ownH w).2.1) fun a u w e => ?_
  rw [upd_ne fun z => by rw [z, hp] at e; cases e]; exact e
end
/-! ### results -/
/-- an exception: its class's number, its fields -/
structure Ex where
  c : Nat
  fs : List Dt
inductive Ou (α : Type) where
  | ok (a : α) (ρ : En)
  | exc (x : Ex) (ρ : En)
  | bad
abbrev Mi (α : Type) := En → Ou α
def mPure {α : Type} (a : α) : Mi α := fun ρ => .ok a ρ
def mBad {α : Type} : Mi α := fun _ => .bad
def mBind {α β : Type} (m : Mi α) (k : α → Mi β) : Mi β := fun ρ => match m ρ with
  | .ok a ρ' => k a ρ'
  | .exc x ρ' => .exc x ρ'
  | .bad => .bad
def mOpt {α : Type} : Option α → Mi α
  | some a => mPure a
  | none => mBad
/-- what is known of a flying exception (filled in where exceptions are) -/
def RepX (T : Tx) (F H : Hp) (cls : Value) (d : Option Addr) (x : Ex) : Prop :=
  ∃ (C dx : Addr) (ns : List Str) (vs : List V), T.cl x.c = some (C, ns) ∧ cls = .ref C ∧ vs.length = ns.length ∧ Reps T F vs x.fs ∧
    ((ns = [] ∧ d = none) ∨ (d = some dx ∧ H dx = some (.xd (ns.zip vs))))
def Post {α : Type} (T : Tx) (π : Nat → Option Pin) (W : WX) (σ : L2.St) (A : Addr → Prop) (F H : Hp) (P : α → En → Hp → Hp → Prop) : Ou α → Prop
  | .ok a ρ' => ∀ F' H', Ok T π A F' H' σ ρ' → Fr A F H F' H' → P a ρ' F' H'
  | .exc x ρ' => ∀ F' H' cls d, Ok T π A F' H' σ ρ' → Fr A F H F' H' → RepX T F' H' cls d x → W cls d σ H'
  | .bad => False
section
variable {T : Tx} {π : Nat → Option Pin} {W : WX} {A : Addr → Prop} {F H : Hp} {σ : L2.St} {α β : Type}
theorem Post.imp {P P' : α → En → Hp → Hp → Prop} {o : Ou α} (h : Post T π W σ A F H P o) (f : ∀ a ρ' F' H', Ok T π A F' H' σ ρ' → Fr A F H F' H' → P a ρ' F' H' → P' a ρ' F' H') : Post T π W σ A F H P' o := by
  cases o with
  | ok a ρ' => exact fun F' H' k r => f a ρ' F' H' k r (h F' H' k r)
  | exc x ρ' => exact h
  | bad => exact h
theorem Post.bind {P : β → En → Hp → Hp → Prop} {m : Mi α} {k : α → Mi β} {ρ : En} (h : Post T π W σ A F H P (mBind m k ρ)) :
    Post T π W σ A F H (fun a ρ1 F1 H1 => Post T π W σ A F1 H1 P (k a ρ1)) (m ρ) := by
  unfold mBind at h
  cases e : m ρ with
  | ok a ρ1 =>
    rw [e] at h
    intro F1 H1 k1 r1
    dsimp only at h
    cases e2 : k a ρ1 with
    | ok b ρ2 =>
      rw [e2] at h
      exact fun F2 H2 k2 r2 => h F2 H2 k2 (r1.trans r2)
    | exc x ρ2 =>
      rw [e2] at h
      exact fun F2 H2 c d k2 r2 => h F2 H2 c d k2 (r1.trans r2)
    | bad => rw [e2] at h; exact h.elim
  | exc x ρ1 => rw [e] at h; exact h
  | bad => rw [e] at h; exact h.elim
theorem Post.pure {P : α → En → Hp → Hp → Prop} {a : α} {ρ : En} (h : Post T π W σ A F H P (mPure a ρ)) (k : Ok T π A F H σ ρ) : P a ρ F H := h F H k .refl
theorem Post.opt {P : α → En → Hp → Hp → Prop} {o : Option α} {ρ : En} (h : Post T π W σ A F H P (mOpt o ρ)) : ∃ a, o = some a ∧ Post T π W σ A F H P (mPure a ρ) := by
  cases o with
  | none => exact h.elim
  | some a => exact ⟨a, rfl, h⟩
end
/-! ### the readings of mirrors -/
section
variable (T : Tx) (π : Nat → Option Pin) (W : WX)
/-- a value that may be kept -/
def TMe (m : Mi Dt) : TE := fun σ H Q => ∃ A F ρ, Ok T π A F H σ ρ ∧ Post T π W σ A F H (fun d _ F' H' => ∀ v, Rep T F' v d → Q v H') (m ρ)
/-- a value to be read at once -/
def TMp (m : Mi Dt) : TE := fun σ H Q => ∃ A F ρ, Ok T π A F H σ ρ ∧ Post T π W σ A F H (fun d _ F' H' => ∀ v, RepS T F' H' v d → Q v H') (m ρ)
/-- a new object that nobody else holds -/
def TMn (m : Mi Dt) : TE := fun σ H Q => ∃ A F ρ, Ok T π A F H σ ρ ∧ Post T π W σ A F H (fun d ρ' F' H' => ∀ p, F' p = none → ¬ IsOwn H' σ ρ' p → H p = none → OwnAt T F' H' p d → (∀ x ∈ inH H' p d, F' x = none ∧ ¬ IsOwn H' σ ρ' x ∧ H x = none) → Q (.ref p) H') (m ρ)
def TMt (m : Mi Bool) : TT := fun σ H Q => ∃ A F ρ, Ok T π A F H σ ρ ∧ Post T π W σ A F H (fun b _ _ H' => Q b H') (m ρ)
def TMa (m : Mi (List Dt)) : TA := fun σ H Q => ∃ A F ρ, Ok T π A F H σ ρ ∧ Post T π W σ A F H (fun ds _ F' H' => ∀ vs, Reps T F' vs ds → Q vs H') (m ρ)
end
end Dl
namespace Dl
open PySem PySem.Spec PyProof.Rows L2
theorem _root_.L2.PE.imp {X : Cx} {e : Expr} {t t' : TE} (h : PE X e t) (f : ∀ σ H Q, t' σ H Q → t σ H Q) : PE X e t' := ⟨fun pins s σ H Q I q => h.run pins s σ H Q I (f σ H Q q)⟩
theorem _root_.L2.PT.imp {X : Cx} {e : Expr} {t t' : TT} (h : PT X e t) (f : ∀ σ H Q, t' σ H Q → t σ H Q) : PT X e t' := ⟨fun pins s σ H Q I q => h.run pins s σ H Q I (f σ H Q q)⟩
theorem _root_.L2.PA.imp {X : Cx} {e : List Expr} {t t' : TA} (h : PA X e t) (f : ∀ σ H Q, t' σ H Q → t σ H Q) : PA X e t' := ⟨fun pos pins s σ H Q I q => h.run pos pins s σ H Q I (f σ H Q q)⟩
theorem _root_.L2.PS.imp {X : Cx} {e : Stmt} {t t' : TS} (h : PS X e t) (f : ∀ D σ H, t' D σ H → t D σ H) : PS X e t' := ⟨fun pins s σ H D I q => h.run pins s σ H D I (f D σ H q)⟩
theorem _root_.L2.PSs.imp {X : Cx} {e : List Stmt} {t t' : TS} (h : PSs X e t) (f : ∀ D σ H, t' D σ H → t D σ H) : PSs X e t' := ⟨fun pins s σ H D I q => h.run pins s σ H D I (f D σ H q)⟩
theorem _root_.L2.PG.imp {X : Cx} {e : Expr} {t t' : TG} (h : PG X e t) (f : ∀ v σ H Q, t' v σ H Q → t v σ H Q) : PG X e t' := ⟨fun pins s σ H v u Q I r q => h.run pins s σ H v u Q I r (f v σ H Q q)⟩
theorem _root_.L2.PI.imp {X : Cx} {tg e : Expr} {t t' : TI} (h : PI X tg e t) (f : ∀ σ H Q, t' σ H Q → t σ H Q) : PI X tg e t' := ⟨fun pins s σ H Q I q => h.run pins s σ H Q I (f σ H Q q)⟩
theorem Post.imp2 {T : Tx} {π : Nat → Option Pin} {W : WX} {A : Addr → Prop} {F H : Hp} {σ : L2.St} {α : Type} {P P' : α → En → Hp → Hp → Prop} {o : Ou α} (h : Post T π W σ A F H P o)
    (f : ∀ a ρ', (∀ F' H', Ok T π A F' H' σ ρ' → Fr A F H F' H' → P a ρ' F' H') → ∀ F' H', Ok T π A F' H' σ ρ' → Fr A F H F' H' → P' a ρ' F' H') : Post T π W σ A F H P' o := by
  cases o with
  | ok a ρ' => exact f a ρ' h
  | exc x ρ' => exact h
  | bad => exact h
section
variable {X : Cx} {T : Tx} {π : Nat → Option Pin} {W : WX} {a b c e : Expr} {es : List Expr} {pos : Pos} {m ma mb mc : Mi Dt}
/-! ### from one kind of value to another -/
theorem _root_.L2.PE.peek (h : PE X e (TMe T π W m)) : PE X e (TMp T π W m) := h.imp fun σ H Q ⟨A, F, ρ, k, p⟩ => ⟨A, F, ρ, k, p.imp fun d ρ' F' H' _ _ q v r => q v r.s⟩
theorem _root_.L2.PE.keep (h : PE X e (TMn T π W m)) : PE X e (TMe T π W m) := h.imp fun σ H Q ⟨A, F, ρ, k, p⟩ => ⟨A, F, ρ, k, p.imp2 fun d ρ' q F' H' k' r' x hx nx hp ho hi => by
  obtain ⟨F2, e1, e2, e3, e4⟩ := ho.frozen k'.le hx (fun y hy => (hi y hy).1)
  have ne : ∀ y, IsOwn H' σ ρ' y → F2 y = F' y := fun y w => e3 y (fun z => nx (z ▸ w)) fun z => (hi y z).2.1 w
  have k2 : Ok T π A F2 H' σ ρ' := k'.grow e1 e2 (fun y w => by rw [ne y w]; exact (k'.ownH w).2.1) fun y u w z => z
  refine q F2 H' k2 ⟨le_trans r'.f e1, r'.h, fun y o hy z t => ?_, r'.t⟩ _ e4
  rw [e3 y (fun zz => by rw [zz, hp] at z; cases z) fun zz => by rw [(hi y zz).2.2] at z; cases z]
  exact r'.n y o hy z t⟩
/-! ### names -/
def mVar (i : Nat) : Mi Dt := fun ρ => match ρ[i]? with
  | some (some (.val d)) => .ok d ρ
  | some (some (.own false d)) => .ok d (ρ.set i (some (.val d)))
  | _ => .bad
def mPeek (i : Nat) : Mi Dt := fun ρ => match ρ[i]? with
  | some (some (.val d)) => .ok d ρ
  | some (some (.own _ d)) => .ok d ρ
  | _ => .bad
/-- a slot's own object is frozen -/
theorem Ok.freeze {A : Addr → Prop} {F H : Hp} {σ : L2.St} {ρ : En} (k : Ok T π A F H σ ρ) {i : Nat} {io : Bool} {d : Dt} (e : ρ[i]? = some (some (.own io d))) :
    ∃ a F', σ[i]? = some (some (.ref a)) ∧ Ok T π A F' H σ (ρ.set i (some (.val d))) ∧ Rep T F' (.ref a) d ∧ Fr A F H F' H := by
  obtain ⟨a, h1, h2, h3, h4, h5, h6⟩ := k.own i io d e
  obtain ⟨F2, e1, e2, e3, e4⟩ := h3.frozen k.le h2 (fun y hy => (h6 y hy).1)
  have hi : i < ρ.length := (List.getElem?_eq_some_iff.mp e).1
  have old : ∀ {j : Nat} {jo : Bool} {dj : Dt}, (ρ.set i (some (Sl.val d)))[j]? = some (some (.own jo dj)) → ρ[j]? = some (some (.own jo dj)) ∧ i ≠ j := fun {j jo dj} ej => by
    by_cases hj : i = j
    · subst hj; rw [List.getElem?_set_self hi] at ej; cases ej
    · rw [List.getElem?_set_ne hj] at ej; exact ⟨ej, hj⟩
  refine ⟨a, F2, h1, ⟨e2, by simpa using k.len, fun j dj ej => ?_, fun j jo dj ej => ?_, fun j l jo lo dj dl b c x ej el => k.dis j l jo lo dj dl b c x (old ej).1 (old el).1⟩, e4, ⟨e1, fun _ _ _ z => z, fun b o hb _ _ => e3 b (fun z => hb (by rw [z]; exact h4)) fun z => hb (h6 b z).2, fun _ z => z⟩⟩
  · by_cases hj : i = j
    · subst hj
      rw [List.getElem?_set_self hi] at ej
      cases ej
      exact ⟨.ref a, h1, e4⟩
    · rw [List.getElem?_set_ne hj] at ej
      obtain ⟨v, q1, q2⟩ := k.val j dj ej
      exact ⟨v, q1, q2.mono e1⟩
  · obtain ⟨ej, hj⟩ := old ej
    obtain ⟨b, q1, q2, q3, q4, q5, q6⟩ := k.own j jo dj ej
    have ne : ∀ x, (x = b ∨ x ∈ inH H b dj) → F2 x = F x := fun x hx => e3 x (fun z => hj (k.dis i j io jo d dj a b x e ej h1 q1 (.inl z) hx)) fun z => hj (k.dis i j io jo d dj a b x e ej h1 q1 (.inr z) hx)
    exact ⟨b, q1, by rw [ne b (.inl rfl)]; exact q2, q3.mono e1 fun _ _ _ z => z, q4, q5, fun x hx => ⟨by rw [ne x (.inr hx)]; exact (q6 x hx).1, (q6 x hx).2⟩⟩
theorem de_var {i : Nat} {x : Str} (h : PE X (.Name x pos) (tVar i)) : PE X (.Name x pos) (TMe T π W (mVar i)) := h.imp fun σ H Q ⟨A, F, ρ, k, p⟩ => by
  unfold mVar at p
  cases e : ρ[i]? with
  | none => rw [e] at p; exact p.elim
  | some s =>
    cases s with
    | none => rw [e] at p; exact p.elim
    | some s =>
      cases s with
      | val d =>
        rw [e] at p
        obtain ⟨v, h1, h2⟩ := k.val i d e
        exact ⟨v, h1, p F H k .refl v h2⟩
      | own io d =>
        cases io with
        | true => rw [e] at p; exact p.elim
        | false =>
          rw [e] at p
          obtain ⟨a, F', h1, h5, h6, h7⟩ := k.freeze e
          exact ⟨.ref a, h1, p F' H h5 h7 _ h6⟩
theorem dp_var {i : Nat} {x : Str} (h : PE X (.Name x pos) (tVar i)) : PE X (.Name x pos) (TMp T π W (mPeek i)) := h.imp fun σ H Q ⟨A, F, ρ, k, p⟩ => by
  unfold mPeek at p
  cases e : ρ[i]? with
  | none => rw [e] at p; exact p.elim
  | some s =>
    cases s with
    | none => rw [e] at p; exact p.elim
    | some s =>
      cases s with
      | val d =>
        rw [e] at p
        obtain ⟨v, h1, h2⟩ := k.val i d e
        exact ⟨v, h1, p F H k .refl v h2.s⟩
      | own io d =>
        rw [e] at p
        obtain ⟨a, h1, h2, h3, h4, h5⟩ := k.own i io d e
        exact ⟨.ref a, h1, p F H k .refl _ (.inr ⟨a, rfl, h3⟩)⟩
/-! ### constants -/
theorem de_c {v : V} {d : Dt} (h : PE X e (tC v)) (r : ∀ F, Rep T F v d) : PE X e (TMe T π W (mPure d)) := h.imp fun σ H Q ⟨A, F, ρ, k, p⟩ => p.pure k v (r F)
theorem de_int {i j} : PE X (.Constant (.int i) j pos) (TMe T π W (mPure (.int i))) := de_c pe_int fun _ => .int i
theorem de_bl {i j} : PE X (.Constant (.bool i) j pos) (TMe T π W (mPure (.bl i))) := de_c pe_bl fun _ => .bl i
theorem de_non {j} : PE X (.Constant .none j pos) (TMe T π W (mPure .non)) := de_c pe_non fun _ => .non
theorem de_str {i j} : PE X (.Constant (.str i) j pos) (TMe T π W (mPure (.str i))) := de_c pe_str fun _ => .str i
/-! ### operators -/
def OpS (T : Tx) (r : R2) (f : Dt → Dt → Option Dt) : Prop := ∀ (π : Nat → Option Pin) (A : Addr → Prop) (F H : Hp) (σ : L2.St) (ρ : En) (v w : V) (d e z : Dt) (Q : VK), Ok T π A F H σ ρ → RepS T F H v d → RepS T F H w e → f d e = some z →
  (∀ F' H' u, Ok T π A F' H' σ ρ → Fr A F H F' H' → Rep T F' u z → Q u H') → r v w H Q
def UnS (T : Tx) (r : V → Hp → VK → Prop) (f : Dt → Option Dt) : Prop := ∀ (π : Nat → Option Pin) (A : Addr → Prop) (F H : Hp) (σ : L2.St) (ρ : En) (v : V) (d z : Dt) (Q : VK), Ok T π A F H σ ρ → RepS T F H v d → f d = some z →
  (∀ F' H' u, Ok T π A F' H' σ ρ → Fr A F H F' H' → Rep T F' u z → Q u H') → r v H Q
def m2 (f : Dt → Dt → Option Dt) (ma mb : Mi Dt) : Mi Dt := mBind ma fun x => mBind mb fun y => mOpt (f x y)
def m1 (f : Dt → Option Dt) (m : Mi Dt) : Mi Dt := mBind m fun x => mOpt (f x)
theorem de_tOp {r : R2} {f : Dt → Dt → Option Dt} (h : PE X e (tOp r (TMe T π W ma) (TMp T π W mb))) (hs : OpS T r f) : PE X e (TMe T π W (m2 f ma mb)) := h.imp fun σ H Q ⟨A, F, ρ, k, p⟩ =>
  ⟨A, F, ρ, k, p.bind.imp fun x ρ1 F1 H1 k1 r1 p1 v rv => ⟨A, F1, ρ1, k1, p1.bind.imp fun y ρ2 F2 H2 k2 r2 p2 w rw => by
    obtain ⟨z, e, p3⟩ := p2.opt
    exact hs π A F2 H2 σ ρ2 v w x y z Q k2 (rv.mono r2.f).s rw e fun F' H' u k' r' ru => p3 F' H' k' r' u ru⟩⟩
theorem de_bin {op : Operator} {r : R2} {f : Dt → Dt → Option Dt} (ho : OpR X (binaryOp op) r) (hs : OpS T r f) (ha : PE X a (TMe T π W ma)) (hb : PE X b (TMp T π W mb)) : PE X (.BinOp a op b pos) (TMe T π W (m2 f ma mb)) :=
  de_tOp (pe_op ho ha hb) hs
theorem de_cmp {op : CmpOp} {r : R2} {f : Dt → Dt → Option Dt} (ho : OpR X (compareOp op) r) (hs : OpS T r f) (ha : PE X a (TMe T π W ma)) (hb : PE X b (TMp T π W mb)) (hm : behindInMarks op b = false) : PE X (.Compare a [op] [b] pos) (TMe T π W (m2 f ma mb)) :=
  de_tOp (pe_cmpR ho ha hb hm) hs
theorem de_un {op : UnaryOp} {r : V → Hp → VK → Prop} {f : Dt → Option Dt} (ho : UnR X (unaryOp op) r) (hs : UnS T r f) (ha : PE X a (TMp T π W ma)) : PE X (.UnaryOp op a pos) (TMe T π W (m1 f ma)) :=
  (pe_un ho ha).imp fun σ H Q ⟨A, F, ρ, k, p⟩ => ⟨A, F, ρ, k, p.bind.imp fun x ρ1 F1 H1 k1 r1 p1 v rv => by
    obtain ⟨z, e, p3⟩ := p1.opt
    exact hs π A F1 H1 σ ρ1 v x z Q k1 rv e fun F' H' u k' r' ru => p3 F' H' k' r' u ru⟩
/-! ### tests -/
def mB (m : Mi Dt) : Mi Bool := mBind m fun d => match d with
  | .bl b => mPure b
  | _ => mBad
theorem Rep.bl_inv {F : Hp} {v : V} {b : Bool} (h : Rep T F v (.bl b)) : v = .bl b := by cases h; rfl
theorem Rep.int_inv {F : Hp} {v : V} {b : Int} (h : Rep T F v (.int b)) : v = .int b := by cases h; rfl
theorem Rep.str_inv {F : Hp} {v : V} {b : Str} (h : Rep T F v (.str b)) : v = .str b := by cases h; rfl
theorem RepS.flat {F H : Hp} {v : V} {d : Dt} (h : RepS T F H v d) (hd : match d with | .lst _ => False | .dic _ _ _ => False | .ins _ _ => False | .deal _ _ => False | .dcn _ _ => False | .tbl _ => False | _ => True) : Rep T F v d := by
  rcases h with h | ⟨a, e, h⟩
  · exact h
  · cases d <;> first | exact hd.elim | exact h.elim
theorem dt_val (h : PE X e (TMe T π W m)) (he : ∀ whole, isTrue e X.env whole = (do let v ← whole; standAt e.pos; holding [v] (truthy v)) := by intro _; rfl) : PT X e (TMt T π W (mB m)) :=
  (pt_val h he).imp fun σ H Q ⟨A, F, ρ, k, p⟩ => ⟨A, F, ρ, k, p.bind.imp fun d ρ1 F1 H1 k1 r1 p1 v rv => by
    cases d with
    | bl b => exact ⟨b, rv.bl_inv, p1.pure k1⟩
    | _ => exact p1.elim⟩
theorem dt_tOp {r : R2} {f : Dt → Dt → Option Dt} (h : PT X e (tTest (tOp r (TMe T π W ma) (TMp T π W mb)))) (hs : OpS T r f) : PT X e (TMt T π W (mB (m2 f ma mb))) := h.imp fun σ H Q ⟨A, F, ρ, k, p⟩ => by
  have p' := p.bind
  exact ⟨A, F, ρ, k, p'.bind.imp fun x ρ1 F1 H1 k1 r1 p1 v rv => ⟨A, F1, ρ1, k1, p1.bind.imp fun y ρ2 F2 H2 k2 r2 p2 w rw => by
    obtain ⟨z, e, p3⟩ := p2.opt
    refine hs π A F2 H2 σ ρ2 v w x y z _ k2 (rv.mono r2.f).s rw e fun F' H' u k' r' ru => ?_
    have p4 := p3 F' H' k' r'
    cases z with
    | bl b => exact ⟨b, ru.bl_inv, p4 F' H' k' .refl⟩
    | _ => exact p4.elim⟩⟩
theorem dt_cmp {op : CmpOp} {r : R2} {f : Dt → Dt → Option Dt} (ho : OpR X (compareOp op) r) (hs : OpS T r f) (ha : PE X a (TMe T π W ma)) (hb : PE X b (TMp T π W mb)) (hm : behindInMarks op b = false) : PT X (.Compare a [op] [b] pos) (TMt T π W (mB (m2 f ma mb))) :=
  dt_tOp (pt_cmpR ho ha hb hm) hs
variable {ta tb : Mi Bool} {rest : List Expr}
def mAnd (s t : Mi Bool) : Mi Bool := mBind s fun b => match b with | true => t | false => mPure false
def mOr (s t : Mi Bool) : Mi Bool := mBind s fun b => match b with | true => mPure true | false => t
def mNot (s : Mi Bool) : Mi Bool := mBind s fun b => mPure (!b)
theorem _root_.L2.PW.imp {t t' : TT} (h : PW X e t) (f : ∀ σ H Q, t' σ H Q → t σ H Q) : PW X e t' := ⟨fun wh pins s σ H Q I q => h.run wh pins s σ H Q I (f σ H Q q)⟩
theorem dw_or1 (ha : PT X a (TMt T π W ta)) : PW X (.BoolOp .Or [a] pos) (TMt T π W ta) := pw_or1 ha
theorem dw_or (ha : PT X a (TMt T π W ta)) (hb : PW X (.BoolOp .Or (b :: rest) pos) (TMt T π W tb)) : PW X (.BoolOp .Or (a :: b :: rest) pos) (TMt T π W (mOr ta tb)) :=
  PW.imp (pw_or ha hb) fun σ H Q ⟨A, F, ρ, k, p⟩ => ⟨A, F, ρ, k, p.bind.imp fun c ρ1 F1 H1 k1 r1 p1 => by
    cases c with
    | false => exact iteF ⟨A, F1, ρ1, k1, p1⟩
    | true => exact iteT (p1.pure k1)⟩
theorem dt_not (ha : PT X a (TMt T π W ta)) : PT X (.UnaryOp .Not a pos) (TMt T π W (mNot ta)) := (pt_not ha).imp fun σ H Q ⟨A, F, ρ, k, p⟩ => ⟨A, F, ρ, k, p.bind.imp fun c ρ1 F1 H1 k1 r1 p1 => p1.pure k1⟩
/-! ### and, or, not as values -/
def mAndV (s t : Mi Dt) : Mi Dt := mBind s fun d => match d with | .bl true => t | .bl false => mPure (.bl false) | _ => mBad
def mOrV (s t : Mi Dt) : Mi Dt := mBind s fun d => match d with | .bl true => mPure (.bl true) | .bl false => t | _ => mBad
def mNotV (s : Mi Dt) : Mi Dt := mBind s fun d => match d with | .bl b => mPure (.bl (!b)) | _ => mBad
theorem de_and (ha : PE X a (TMe T π W ma)) (hb : PE X (.BoolOp .And (b :: rest) pos) (TMe T π W mb)) : PE X (.BoolOp .And (a :: b :: rest) pos) (TMe T π W (mAndV ma mb)) :=
  (pe_and ha hb).imp fun σ H Q ⟨A, F, ρ, k, p⟩ => ⟨A, F, ρ, k, p.bind.imp fun c ρ1 F1 H1 k1 r1 p1 v rv => by
    cases c with
    | bl c =>
      refine ⟨c, rv.bl_inv, ?_⟩
      cases c with
      | true => exact iteT ⟨A, F1, ρ1, k1, p1⟩
      | false => exact iteF (p1.pure k1 _ (.bl false))
    | _ => exact p1.elim⟩
theorem de_one {op} (ha : PE X a (TMe T π W ma)) : PE X (.BoolOp op [a] pos) (TMe T π W ma) := pe_one ha
theorem de_not (ha : PE X a (TMe T π W ma)) : PE X (.UnaryOp .Not a pos) (TMe T π W (mNotV ma)) := (pe_not ha).imp fun σ H Q ⟨A, F, ρ, k, p⟩ => ⟨A, F, ρ, k, p.bind.imp fun c ρ1 F1 H1 k1 r1 p1 v rv => by
    cases c with
    | bl c => exact ⟨c, rv.bl_inv, p1.pure k1 _ (.bl _)⟩
    | _ => exact p1.elim⟩
/-- a if t else b -/
def mIfE (t : Mi Bool) (ma mb : Mi Dt) : Mi Dt := mBind t fun b => match b with | true => ma | false => mb
theorem de_ifExp (hc : PT X c (TMt T π W ta)) (ha : PE X a (TMe T π W ma)) (hb : PE X b (TMe T π W mb)) : PE X (.IfExp c a b pos) (TMe T π W (mIfE ta ma mb)) :=
  (pe_ifExp hc ha hb).imp fun σ H Q ⟨A, F, ρ, k, p⟩ => ⟨A, F, ρ, k, p.bind.imp fun c ρ1 F1 H1 k1 r1 p1 => by
    cases c with
    | true => exact iteT ⟨A, F1, ρ1, k1, p1⟩
    | false => exact iteF ⟨A, F1, ρ1, k1, p1⟩⟩
/-! ### displays -/
def mCons (m : Mi Dt) (ms : Mi (List Dt)) : Mi (List Dt) := mBind m fun d => mBind ms fun ds => mPure (d :: ds)
def mStar (m : Mi Dt) (ms : Mi (List Dt)) : Mi (List Dt) := mBind m fun d => match d with
  | .lst xs => mBind ms fun ds => mPure (xs ++ ds)
  | .tup xs => mBind ms fun ds => mPure (xs ++ ds)
  | _ => mBad
variable {ms : Mi (List Dt)}
theorem da_nil : PA X [] (TMa T π W (mPure [])) := pa_nil.imp fun σ H Q ⟨A, F, ρ, k, p⟩ => p.pure k [] .nil
theorem da_cons (he : PE X e (TMe T π W m)) (hr : PA X es (TMa T π W ms)) (hs : starEach (e :: es) X.env = (false, eval e X.env) :: starEach es X.env := by rfl) : PA X (e :: es) (TMa T π W (mCons m ms)) :=
  (pa_cons he hr hs).imp fun σ H Q ⟨A, F, ρ, k, p⟩ => ⟨A, F, ρ, k, p.bind.imp fun d ρ1 F1 H1 k1 r1 p1 v rv => ⟨A, F1, ρ1, k1, p1.bind.imp fun ds ρ2 F2 H2 k2 r2 p2 vs rvs => p2.pure k2 (v :: vs) (.cons (rv.mono r2.f) rvs)⟩⟩
theorem RepS.seq {F H : Hp} {v : V} {d : Dt} {xs : List Dt} (h : RepS T F H v d) (le : Le F H) (hd : d = .lst xs ∨ d = .tup xs) : ∃ p vs, v = .ref p ∧ (SqL T.K H p vs ∨ SqT T.K H p vs) ∧ Reps T F vs xs ∧ (d = .lst xs → SqL T.K H p vs) ∧ (d = .tup xs → SqT T.K H p vs) := by
  rcases h with h | ⟨a, e, h⟩
  · rcases hd with rfl | rfl
    · cases h with
      | lst q r => exact ⟨_, _, rfl, .inl (SqL.of (le _ _ q)), r, fun _ => SqL.of (le _ _ q), fun z => by cases z⟩
    · obtain ⟨a, vs, e, q, r⟩ := h.tup_inv
      exact ⟨a, vs, e, .inr (sqt_mono le q), r, (fun z => by cases z), fun _ => sqt_mono le q⟩
  · rcases hd with rfl | rfl
    · obtain ⟨vs, q, r⟩ := h
      exact ⟨a, vs, e, .inl (SqL.of q), r, fun _ => SqL.of q, fun z => by cases z⟩
    · exact h.elim
theorem da_star {p : Pos} (hK : X.K = T.K) (he : PE X e (TMp T π W m)) (hr : PA X es (TMa T π W ms)) (hpa : PA X (.Starred e p :: es) (StX.tStar X.K (TMp T π W m) (TMa T π W ms))) : PA X (.Starred e p :: es) (TMa T π W (mStar m ms)) :=
  hpa.imp fun σ H Q ⟨A, F, ρ, k, p⟩ => ⟨A, F, ρ, k, p.bind.imp fun d ρ1 F1 H1 k1 r1 p1 v rv => by
    have go : ∀ xs, (d = .lst xs ∨ d = .tup xs) → Post T π W σ A F1 H1 (fun ds _ F' H' => ∀ vs, Reps T F' vs ds → Q vs H') ((mBind ms fun ds => mPure (xs ++ ds)) ρ1) →
        ∃ p ys, v = V.ref p ∧ (SqT X.K H1 p ys ∨ SqL X.K H1 p ys) ∧ TMa T π W ms σ H1 fun zs H2 => Q (ys ++ zs) H2 := fun xs hx pp => by
      obtain ⟨a, vs, e1, q, r, _⟩ := rv.seq k1.le hx
      rw [hK]
      exact ⟨a, vs, e1, q.symm, A, F1, ρ1, k1, pp.bind.imp fun ds ρ2 F2 H2 k2 r2 p2 ws rws => p2.pure k2 _ ((r.mono r2.f).append rws)⟩
    cases d with
    | lst xs => exact go xs (.inl rfl) p1
    | tup xs => exact go xs (.inr rfl) p1
    | _ => exact p1.elim⟩
def mTup (ms : Mi (List Dt)) : Mi Dt := mBind ms fun ds => if ds.length ≤ sizeLine then mPure (.tup ds) else mBad
def mLst (ms : Mi (List Dt)) : Mi Dt := mBind ms fun ds => if ds.length ≤ sizeLine then mPure (.lst ds) else mBad
theorem de_tup {x1} (h : PA X es (TMa T π W ms)) : PE X (.Tuple es x1 pos) (TMe T π W (mTup ms)) := (pe_tup h).imp fun σ H Q ⟨A, F, ρ, k, p⟩ => ⟨A, F, ρ, k, p.bind.imp fun ds ρ1 F1 H1 k1 r1 p1 vs rvs => by
  split at p1
  · rename_i hl
    refine ⟨by rw [rvs.length]; exact hl, fun x hx => ?_⟩
    exact p1 (upd F1 x (.tup vs)) (upd H1 x (.tup vs)) (k1.new hx) (.new k1.le hx) _ (.tup upd_same (rvs.mono (le_new (f_none k1.le hx))))
  · exact p1.elim⟩
/-- a fresh address is no slot's own -/
theorem Ok.fresh_own {A : Addr → Prop} {F H : Hp} {σ : L2.St} {ρ : En} (k : Ok T π A F H σ ρ) {p : Addr} (hp : H p = none) : ¬ IsOwn H σ ρ p := fun w => by
  obtain ⟨_, _, o, e⟩ := k.ownH w
  rw [hp] at e; cases e
theorem Ok.fresh_new {A : Addr → Prop} {F H : Hp} {σ : L2.St} {ρ : En} (k : Ok T π A F H σ ρ) {p : Addr} {o : HO} (hp : H p = none) : ¬ IsOwn (upd H p o) σ ρ p := fun w =>
  k.fresh_own hp ((k.sameOwn fun a u _ e => le_new hp a u e).mp w)
end
end Dl
namespace Dl
open PySem PySem.Spec PyProof.Rows L2
section
variable {X : Cx} {T : Tx} {π : Nat → Option Pin} {W : WX} {a b c e : Expr} {es : List Expr} {pos : Pos} {m ma mb mc : Mi Dt} {ms : Mi (List Dt)} {A A' : Addr → Prop} {F H F' H' F0 H0 : Hp} {σ : L2.St} {ρ : En}
theorem Ok.weak (k : Ok T π A F H σ ρ) (h : ∀ a, A a → A' a) : Ok T π A' F H σ ρ := ⟨k.le, k.len, k.val, fun i io d e => by
  obtain ⟨x, h1, h2, h3, h4, h5⟩ := k.own i io d e
  exact ⟨x, h1, h2, h3, h _ h4, h5.1, fun y hy => ⟨(h5.2 y hy).1, h _ (h5.2 y hy).2⟩⟩, k.dis⟩
theorem Ok.tight (k : Ok T π A F H σ ρ) : Ok T π (IsOwn H σ ρ) F H σ ρ := ⟨k.le, k.len, k.val, fun i io d e => by
  obtain ⟨x, h1, h2, h3, h4, h5⟩ := k.own i io d e
  exact ⟨x, h1, h2, h3, ⟨i, io, d, x, e, h1, .inl rfl⟩, h5.1, fun y hy => ⟨(h5.2 y hy).1, ⟨i, io, d, x, e, h1, .inr hy⟩⟩⟩, k.dis⟩
theorem Fr.weak (r : Fr A F H F' H') (h : ∀ a, A a → A' a) : Fr A' F H F' H' := ⟨r.f, fun a o n e => r.h a o (fun z => n (h a z)) e, fun a o n e t => r.n a o (fun z => n (h a z)) e t, r.t⟩
theorem Post.weak {α : Type} {P : α → En → Hp → Hp → Prop} {o : Ou α} (p : Post T π W σ A F H P o) (h : ∀ a, A' a → A a) : Post T π W σ A' F H P o := by
  cases o with
  | ok a ρ' => exact fun F' H' k r => p F' H' (k.weak h) (r.weak h)
  | exc x ρ' => exact fun F' H' c d k r => p F' H' c d (k.weak h) (r.weak h)
  | bad => exact p
theorem Ok.ownA (k : Ok T π A F H σ ρ) {a : Addr} (w : IsOwn H σ ρ a) : A a := (k.ownH w).1
/-- [..]: a new list -/
theorem dn_lst (h : PA X es (TMa T π W ms)) : PE X (.List es pos) (TMn T π W (mLst ms)) := (pe_lst h).imp fun σ H Q ⟨A, F, ρ, k, p⟩ => ⟨A, F, ρ, k, p.bind.imp fun ds ρ1 F1 H1 k1 r1 p1 vs rvs => by
  split at p1
  · rename_i hl
    refine ⟨by rw [rvs.length]; exact hl, fun x hx => ?_⟩
    exact p1 F1 (upd H1 x (.lst vs)) (k1.newO hx) (.newO hx) x (f_none k1.le hx) (k1.fresh_new hx) (r1.t x hx) ⟨vs, upd_same, rvs⟩ (fun _ z => nomatch z)
  · exact p1.elim⟩
/-! ### several values, some of them new objects -/
inductive Gk (T : Tx) (F H : Hp) (A : Addr → Prop) : List Bool → List V → List Dt → List Addr → Prop
  | nil : Gk T F H A [] [] [] []
  | val {v : V} {d : Dt} {ks : List Bool} {vs : List V} {ds : List Dt} {as : List Addr} : Rep T F v d → Gk T F H A ks vs ds as → Gk T F H A (false :: ks) (v :: vs) (d :: ds) as
  | own {p : Addr} {d : Dt} {ks : List Bool} {vs : List V} {ds : List Dt} {as : List Addr} : F p = none → ¬ A p → OwnAt T F H p d → p ∉ as → (∀ x ∈ inH H p d, F x = none ∧ ¬ A x ∧ x ∉ as) → Gk T F H A ks vs ds as → Gk T F H A (true :: ks) (.ref p :: vs) (d :: ds) (p :: (inH H p d ++ as))
def TMk (T : Tx) (π : Nat → Option Pin) (W : WX) (ks : List Bool) (m : Mi (List Dt)) : TA := fun σ H Q => ∃ A F ρ, Ok T π A F H σ ρ ∧ (∀ a, A a → H a ≠ none) ∧
  Post T π W σ A F H (fun ds _ F' H' => ∀ vs as, Gk T F' H' A ks vs ds as → (∀ a ∈ as, H a = none) → Q vs H') (m ρ)
variable {ks : List Bool}
theorem dk_nil : PA X [] (TMk T π W [] (mPure [])) := pa_nil.imp fun σ H Q ⟨A, F, ρ, k, ht, p⟩ => p.pure k [] [] .nil (fun _ z => nomatch z)
theorem dk_val (he : PE X e (TMe T π W m)) (hr : PA X es (TMk T π W ks ms)) (hs : starEach (e :: es) X.env = (false, eval e X.env) :: starEach es X.env := by rfl) : PA X (e :: es) (TMk T π W (false :: ks) (mCons m ms)) :=
  (pa_cons he hr hs).imp fun σ H Q ⟨A, F, ρ, k, ht, p⟩ => ⟨A, F, ρ, k, p.bind.imp fun d ρ1 F1 H1 k1 r1 p1 v rv =>
    ⟨A, F1, ρ1, k1, fun a z e => ht a z (r1.t a e), p1.bind.imp fun ds ρ2 F2 H2 k2 r2 p2 vs as g ha => p2.pure k2 (v :: vs) as (.val (rv.mono r2.f) g) fun a z => r1.t a (ha a z)⟩⟩
theorem dk_own (he : PE X e (TMn T π W m)) (hr : PA X es (TMk T π W ks ms)) (hs : starEach (e :: es) X.env = (false, eval e X.env) :: starEach es X.env := by rfl) : PA X (e :: es) (TMk T π W (true :: ks) (mCons m ms)) :=
  (pa_cons he hr hs).imp fun σ H Q ⟨A, F, ρ, k, ht, p⟩ => ⟨A, F, ρ, k, p.bind.imp fun d ρ1 F1 H1 k1 r1 p1 x hx nx hp ho hi =>
    ⟨A, F1, ρ1, k1, fun a z e => ht a z (r1.t a e), p1.bind.imp fun ds ρ2 F2 H2 k2 r2 p2 vs as g ha => by
      have hpi : ∀ y, (y = x ∨ y ∈ inH H1 x d) → H y = none := fun y hy => hy.elim (fun z => z ▸ hp) fun z => (hi y z).2.2
      have hfi : ∀ y, (y = x ∨ y ∈ inH H1 x d) → F1 y = none := fun y hy => hy.elim (fun z => z ▸ hx) fun z => (hi y z).1
      have nA : ∀ y, (y = x ∨ y ∈ inH H1 x d) → ¬ A y := fun y hy z => ht y z (hpi y hy)
      have f2 : ∀ y, (y = x ∨ y ∈ inH H1 x d) → F2 y = none := fun y hy => by
        obtain ⟨o, eo, et⟩ := ho.hasI hy
        rw [r2.n y o (nA y hy) eo et]; exact hfi y hy
      have nas : ∀ y, (y = x ∨ y ∈ inH H1 x d) → y ∉ as := fun y hy z => by
        obtain ⟨o, eo, et⟩ := ho.hasI hy
        rw [ha y z] at eo; cases eo
      have sm : inH H2 x d = inH H1 x d := ho.same fun o q => r2.h x o (nA x (.inl rfl)) q
      refine p2.pure k2 (.ref x :: vs) (x :: (inH H2 x d ++ as)) (.own (f2 x (.inl rfl)) (nA x (.inl rfl)) (ho.mono r2.f fun y hy o q => r2.h y o (nA y hy) q) (nas x (.inl rfl)) (fun y hy => by rw [sm] at hy; exact ⟨f2 y (.inr hy), nA y (.inr hy), nas y (.inr hy)⟩) g) fun a z => ?_
      rw [sm] at z
      rcases List.mem_cons.mp z with z | z
      · exact hpi a (.inl z)
      · rcases List.mem_append.mp z with z | z
        · exact hpi a (.inr z)
        · exact r1.t a (ha a z)⟩⟩
/-! ### statements -/
inductive So where
  | nx (ρ : En) | rt (d : Dt) (ρ : En) | rtN (d : Dt) (ρ : En) | bk (ρ : En) | ct (ρ : En) | exc (x : Ex) (ρ : En) | bad
structure StOk (T : Tx) (π : Nat → Option Pin) (A : Addr → Prop) (F0 H0 F H : Hp) (σ : L2.St) (ρ : En) : Prop where
  ok : Ok T π (fun a => A a ∨ H0 a = none) F H σ ρ
  fr : Fr A F0 H0 F H
theorem StOk.step {σ' : L2.St} {ρ' : En} (s : StOk T π A F0 H0 F H σ ρ) (k : Ok T π (fun a => A a ∨ H0 a = none) F' H' σ' ρ') (r : Fr (fun a => A a ∨ H0 a = none) F H F' H') : StOk T π A F0 H0 F' H' σ' ρ' :=
  ⟨k, le_trans s.fr.f r.f, fun a o n e => r.h a o (fun z => z.elim n fun z => by rw [z] at e; cases e) (s.fr.h a o n e), fun a o n e t => by
    rw [r.n a o (fun z => z.elim n fun z => by rw [z] at e; cases e) (s.fr.h a o n e) t, s.fr.n a o n e t], fun a e => s.fr.t a (r.t a e)⟩
theorem StOk.start (s : StOk T π A F0 H0 F H σ ρ) {σ' : L2.St} {ρ' : En} (k : Ok T π (fun a => A a ∨ H0 a = none) F H σ' ρ') : StOk T π (fun a => A a ∨ H0 a = none) F H F H σ' ρ' := ⟨k.weak fun _ z => .inl z, .refl⟩
theorem StOk.rebase {σ' : L2.St} {ρ' : En} (s : StOk T π A F0 H0 F H σ ρ) (k : StOk T π (fun a => A a ∨ H0 a = none) F H F' H' σ' ρ') : StOk T π A F0 H0 F' H' σ' ρ' :=
  s.step (k.ok.weak fun a z => z.elim id fun z => .inr (s.fr.t a z)) k.fr
def PostS (T : Tx) (π : Nat → Option Pin) (W : WX) (A : Addr → Prop) (F0 H0 : Hp) (D : Ends) : So → Prop
  | .nx ρ' => ∀ σ' F' H', StOk T π A F0 H0 F' H' σ' ρ' → D.nx σ' H'
  | .bk ρ' => ∀ σ' F' H', StOk T π A F0 H0 F' H' σ' ρ' → D.bk σ' H'
  | .ct ρ' => ∀ σ' F' H', StOk T π A F0 H0 F' H' σ' ρ' → D.ct σ' H'
  | .rt d ρ' => ∀ σ' F' H' v, StOk T π A F0 H0 F' H' σ' ρ' → Rep T F' v d → D.rt v H'
  | .rtN d ρ' => ∀ σ' F' H' p, StOk T π A F0 H0 F' H' σ' ρ' → F' p = none → ¬ IsOwn H' σ' ρ' p → (A p ∨ H0 p = none) → OwnAt T F' H' p d → (∀ x ∈ inH H' p d, F' x = none ∧ ¬ IsOwn H' σ' ρ' x ∧ (A x ∨ H0 x = none)) → D.rt (.ref p) H'
  | .exc x ρ' => ∀ σ' F' H' cls d, StOk T π A F0 H0 F' H' σ' ρ' → RepX T F' H' cls d x → W cls d σ' H'
  | .bad => False
def TMs (T : Tx) (π : Nat → Option Pin) (W : WX) (s : En → So) : TS := fun D σ H => ∃ A F0 H0 F ρ, StOk T π A F0 H0 F H σ ρ ∧ PostS T π W A F0 H0 D (s ρ)
def sBind {α : Type} (m : Mi α) (k : α → En → So) : En → So := fun ρ => match m ρ with
  | .ok a ρ' => k a ρ'
  | .exc x ρ' => .exc x ρ'
  | .bad => .bad
theorem PostS.bind {α : Type} {D : Ends} {m : Mi α} {k : α → En → So} (p : PostS T π W A F0 H0 D (sBind m k ρ)) (s : StOk T π A F0 H0 F H σ ρ) :
    Post T π W σ (fun a => A a ∨ H0 a = none) F H (fun a ρ1 F1 H1 => StOk T π A F0 H0 F1 H1 σ ρ1 ∧ PostS T π W A F0 H0 D (k a ρ1)) (m ρ) := by
  unfold sBind at p
  cases e : m ρ with
  | ok x ρ1 =>
    rw [e] at p
    exact fun F1 H1 k1 r1 => ⟨s.step k1 r1, p⟩
  | exc x ρ1 =>
    rw [e] at p
    exact fun F1 H1 c d k1 r1 x => p σ F1 H1 c d (s.step k1 r1) x
  | bad => rw [e] at p; exact p.elim
variable {s t : En → So} {st : Stmt} {rest : List Stmt}
def sSeq (s t : En → So) : En → So := fun ρ => match s ρ with
  | .nx ρ' => t ρ'
  | o => o
theorem dss_cons (h1 : PS X st (TMs T π W s)) (h2 : PSs X rest (TMs T π W t)) : PSs X (st :: rest) (TMs T π W (sSeq s t)) := (pss_cons h1 h2).imp fun D σ H ⟨A, F0, H0, F, ρ, k, p⟩ => ⟨A, F0, H0, F, ρ, k, by
  unfold sSeq at p
  cases e : s ρ with
  | nx ρ' => rw [e] at p; exact fun σ' F' H' k' => ⟨A, F0, H0, F', ρ', k', p⟩
  | rt d ρ' => rw [e] at p; exact p
  | rtN d ρ' => rw [e] at p; exact p
  | bk ρ' => rw [e] at p; exact p
  | ct ρ' => rw [e] at p; exact p
  | exc d ρ' => rw [e] at p; exact p
  | bad => rw [e] at p; exact p⟩
theorem dss_one (h1 : PS X st (TMs T π W s)) : PSs X [st] (TMs T π W s) := pss_one h1
theorem dss_nil : PSs X [] (TMs T π W (fun ρ => .nx ρ)) := pss_nil.imp fun D σ H ⟨A, F0, H0, F, ρ, k, p⟩ => p σ F H k
def sIf (c : Mi Bool) (s t : En → So) : En → So := sBind c fun b => match b with | true => s | false => t
theorem ds_if {x y : List Stmt} {mc : Mi Bool} (hc : PT X c (TMt T π W mc)) (ha : PSs X x (TMs T π W s)) (hb : PSs X y (TMs T π W t)) : PS X (.If c x y pos) (TMs T π W (sIf mc s t)) :=
  (ps_if hc ha hb).imp fun D σ H ⟨A, F0, H0, F, ρ, k, p⟩ => ⟨_, F, ρ, k.ok, (p.bind k).imp fun b ρ1 F1 H1 _ _ ⟨k1, p1⟩ => by
    cases b with
    | true => exact iteT ⟨A, F0, H0, F1, ρ1, k1, p1⟩
    | false => exact iteF ⟨A, F0, H0, F1, ρ1, k1, p1⟩⟩
def sRet (m : Mi Dt) : En → So := sBind m fun d ρ => .rt d ρ
def sRetN (m : Mi Dt) : En → So := sBind m fun d ρ => .rtN d ρ
def sDrop (m : Mi Dt) : En → So := sBind m fun _ ρ => .nx ρ
theorem ds_ret (he : PE X e (TMe T π W m)) : PS X (.Return (some e) pos) (TMs T π W (sRet m)) := (ps_ret he).imp fun D σ H ⟨A, F0, H0, F, ρ, k, p⟩ => ⟨_, F, ρ, k.ok, (p.bind k).imp fun d ρ1 F1 H1 _ _ ⟨k1, p1⟩ v rv => p1 σ F1 H1 v k1 rv⟩
theorem ds_retN (he : PE X e (TMn T π W m)) : PS X (.Return (some e) pos) (TMs T π W (sRetN m)) := (ps_ret he).imp fun D σ H ⟨A, F0, H0, F, ρ, k, p⟩ => ⟨_, F, ρ, k.ok, (p.bind k).imp fun d ρ1 F1 H1 _ _ ⟨k1, p1⟩ x h1 h2 h3 h4 h5 =>
  p1 σ F1 H1 x k1 h1 h2 (.inr (k.fr.t x h3)) h4 fun y hy => ⟨(h5 y hy).1, (h5 y hy).2.1, .inr (k.fr.t y (h5 y hy).2.2)⟩⟩
theorem ds_expr (he : PE X e (TMe T π W m)) (hs : swapsWith e none pos.line X.env = pure false := by rfl) : PS X (.Expr e pos) (TMs T π W (sDrop m)) := (ps_expr he hs).imp fun D σ H ⟨A, F0, H0, F, ρ, k, p⟩ => ⟨_, F, ρ, k.ok, (p.bind k).imp fun d ρ1 F1 H1 _ _ ⟨k1, p1⟩ v rv => p1 σ F1 H1 k1⟩
/-! ### names are stored -/
def setSl (i : Nat) (s : Sl) (ρ : En) : Option En := match ρ[i]? with
  | some (some (.own true _)) => none
  | some _ => some (ρ.set i (some s))
  | none => none
theorem setSl_inv {i : Nat} {s : Sl} {ρ ρ' : En} (h : setSl i s ρ = some ρ') : i < ρ.length ∧ ρ' = ρ.set i (some s) ∧ ∀ d, ρ[i]? ≠ some (some (.own true d)) := by
  unfold setSl at h
  split at h
  · cases h
  · rename_i x hn hx
    cases h
    exact ⟨(List.getElem?_eq_some_iff.mp hx).1, rfl, fun d z => hn d (Option.some.inj (hx.symm.trans z))⟩
  · cases h
theorem Ok.set {i : Nat} {v : V} {d : Dt} {ρ' : En} (k : Ok T π A F H σ ρ) (r : Rep T F v d) (h : setSl i (.val d) ρ = some ρ') : Ok T π A F H (σ.set i (some v)) ρ' := by
  obtain ⟨hi, rfl, hio⟩ := setSl_inv h
  have hσ : i < σ.length := by rw [k.len]; exact hi
  have ol : ∀ (j : Nat) jo dj, (ρ.set i (some (.val d)))[j]? = some (some (.own jo dj)) → i ≠ j ∧ ρ[j]? = some (some (.own jo dj)) := fun j jo dj ej => by
    by_cases hj : i = j
    · subst hj; rw [List.getElem?_set_self hi] at ej; cases ej
    · rw [List.getElem?_set_ne hj] at ej; exact ⟨hj, ej⟩
  refine ⟨k.le, by simpa using k.len, fun j dj ej => ?_, fun j jo dj ej => ?_, fun j l jo lo dj dl a b x ej el sj sl => ?_⟩
  · by_cases hj : i = j
    · subst hj
      rw [List.getElem?_set_self hi] at ej
      cases ej
      exact ⟨v, List.getElem?_set_self hσ, r⟩
    · rw [List.getElem?_set_ne hj] at ej
      rw [List.getElem?_set_ne hj]
      exact k.val j dj ej
  · obtain ⟨hj, q⟩ := ol j jo dj ej
    rw [List.getElem?_set_ne hj]
    exact k.own j jo dj q
  · obtain ⟨hj, q⟩ := ol j jo dj ej
    obtain ⟨hl, q2⟩ := ol l lo dl el
    rw [List.getElem?_set_ne hj] at sj
    rw [List.getElem?_set_ne hl] at sl
    exact k.dis j l jo lo dj dl a b x q q2 sj sl
theorem Ok.setN {i : Nat} {p : Addr} {d : Dt} {ρ' : En} (k : Ok T π A F H σ ρ) (hf : F p = none) (hn : ¬ IsOwn H σ ρ p) (hA : A p) (ho : OwnAt T F H p d) (hI : ∀ x ∈ inH H p d, F x = none ∧ ¬ IsOwn H σ ρ x ∧ A x) (h : setSl i (.own false d) ρ = some ρ') : Ok T π A F H (σ.set i (some (.ref p))) ρ' := by
  obtain ⟨hi, rfl, hio⟩ := setSl_inv h
  have hσ : i < σ.length := by rw [k.len]; exact hi
  have nI : ∀ x, (x = p ∨ x ∈ inH H p d) → ¬ IsOwn H σ ρ x := fun x hx => hx.elim (fun z => z ▸ hn) fun z => (hI x z).2.1
  refine ⟨k.le, by simpa using k.len, fun j dj ej => ?_, fun j jo dj ej => ?_, fun j l jo lo dj dl a b x ej el sj sl xj xl => ?_⟩
  · by_cases hj : i = j
    · subst hj
      rw [List.getElem?_set_self hi] at ej
      cases ej
    · rw [List.getElem?_set_ne hj] at ej
      rw [List.getElem?_set_ne hj]
      exact k.val j dj ej
  · by_cases hj : i = j
    · subst hj
      rw [List.getElem?_set_self hi] at ej
      cases ej
      exact ⟨p, List.getElem?_set_self hσ, hf, ho, hA, (fun z => by cases z), fun x hx => ⟨(hI x hx).1, (hI x hx).2.2⟩⟩
    · rw [List.getElem?_set_ne hj] at ej
      rw [List.getElem?_set_ne hj]
      exact k.own j jo dj ej
  · by_cases hj : i = j
    · by_cases hl : i = l
      · rw [← hj, ← hl]
      · subst hj
        rw [List.getElem?_set_ne hl] at el sl
        rw [List.getElem?_set_self hσ] at sj
        rw [List.getElem?_set_self hi] at ej
        cases sj; cases ej
        exact absurd ⟨l, lo, dl, b, el, sl, xl⟩ (nI x xj)
    · by_cases hl : i = l
      · subst hl
        rw [List.getElem?_set_ne hj] at ej sj
        rw [List.getElem?_set_self hσ] at sl
        rw [List.getElem?_set_self hi] at el
        cases sl; cases el
        exact absurd ⟨j, jo, dj, a, ej, sj, xj⟩ (nI x xl)
      · rw [List.getElem?_set_ne hj] at ej sj
        rw [List.getElem?_set_ne hl] at el sl
        exact k.dis j l jo lo dj dl a b x ej el sj sl xj xl
def sPut (i : Nat) (s : Sl) : En → So := fun ρ => match setSl i s ρ with
  | some ρ' => .nx ρ'
  | none => .bad
def sSet (i : Nat) (m : Mi Dt) : En → So := sBind m fun d => sPut i (.val d)
def sSetN (i : Nat) (m : Mi Dt) : En → So := sBind m fun d => sPut i (.own false d)
theorem ds_asgV {i : Nat} (h : PS X st (tAsg (TMe T π W m) (gName i))) : PS X st (TMs T π W (sSet i m)) := h.imp fun D σ H ⟨A, F0, H0, F, ρ, k, p⟩ => ⟨_, F, ρ, k.ok, (p.bind k).imp fun d ρ1 F1 H1 _ _ ⟨k1, p1⟩ v rv => by
  unfold sPut at p1
  cases e : setSl i (.val d) ρ1 with
  | none => rw [e] at p1; exact p1.elim
  | some ρ' => rw [e] at p1; exact p1 _ F1 H1 ⟨k1.ok.set rv e, k1.fr⟩⟩
theorem ds_asgN {i : Nat} (h : PS X st (tAsg (TMn T π W m) (gName i))) : PS X st (TMs T π W (sSetN i m)) := h.imp fun D σ H ⟨A, F0, H0, F, ρ, k, p⟩ => ⟨_, F, ρ, k.ok, (p.bind k).imp fun d ρ1 F1 H1 _ _ ⟨k1, p1⟩ x h1 h2 h3 h4 h5 => by
  unfold sPut at p1
  cases e : setSl i (.own false d) ρ1 with
  | none => rw [e] at p1; exact p1.elim
  | some ρ' => rw [e] at p1; exact p1 _ F1 H1 ⟨k1.ok.setN h1 h2 (.inr (k.fr.t x h3)) h4 (fun y hy => ⟨(h5 y hy).1, (h5 y hy).2.1, .inr (k.fr.t y (h5 y hy).2.2)⟩) e, k1.fr⟩⟩
/-! ### targets -/
def TMg (T : Tx) (π : Nat → Option Pin) (g : Dt → En → Option En) (sl : List Nat) : TG := fun v σ H Q => ∃ A F ρ d ρ', Ok T π A F H σ ρ ∧ Rep T F v d ∧ g d ρ = some ρ' ∧
  ∀ σ', Ok T π A F H σ' ρ' → σ'.length = σ.length → (∀ i, i ∉ sl → σ'[i]? = σ[i]?) → Q σ' H
def TMgs (T : Tx) (π : Nat → Option Pin) (g : List Dt → En → Option En) (sl : List Nat) : TGs := fun vs σ H Q => ∃ A F ρ ds ρ', Ok T π A F H σ ρ ∧ Reps T F vs ds ∧ g ds ρ = some ρ' ∧
  ∀ σ', Ok T π A F H σ' ρ' → σ'.length = σ.length → (∀ i, i ∉ sl → σ'[i]? = σ[i]?) → Q σ' H
theorem _root_.L2.PGs.imp {ts : List Expr} {t t' : TGs} (h : PGs X ts t) (f : ∀ v σ H Q, t' v σ H Q → t v σ H Q) : PGs X ts t' := ⟨fun pins s σ H v u Q I r q => h.run pins s σ H v u Q I r (f v σ H Q q)⟩
def gV (i : Nat) : Dt → En → Option En := fun d => setSl i (.val d)
theorem dg_name {i : Nat} (h : PG X e (gName i)) : PG X e (TMg T π (gV i) [i]) := h.imp fun v σ H Q ⟨A, F, ρ, d, ρ', k, r, e, q⟩ => q _ (k.set r e) (by simp) fun j hj => List.getElem?_set_ne (fun z => hj (by simp [z]))
def gsN : List Dt → En → Option En
  | [], ρ => some ρ
  | _, _ => none
def gsC (g : Dt → En → Option En) (gs : List Dt → En → Option En) : List Dt → En → Option En
  | d :: ds, ρ => (g d ρ).bind (gs ds)
  | [], _ => none
theorem dgs_nil : PGs X [] (TMgs T π gsN []) := pgs_nil.imp fun vs σ H Q ⟨A, F, ρ, ds, ρ', k, r, e, q⟩ => by
  cases ds with
  | nil => cases r; cases e; exact ⟨rfl, q σ k rfl fun _ _ => rfl⟩
  | cons _ _ => cases e
theorem dgs_cons {g : Dt → En → Option En} {gs : List Dt → En → Option En} {sl sls : List Nat} (h1 : PG X e (TMg T π g sl)) (h2 : PGs X es (TMgs T π gs sls)) (hs : (assignEach (e :: es) X.env).map (·.2) = assign e X.env :: (assignEach es X.env).map (·.2) := by rfl) :
    PGs X (e :: es) (TMgs T π (gsC g gs) (sl ++ sls)) := (pgs_cons h1 h2 hs).imp fun vs σ H Q ⟨A, F, ρ, ds, ρ', k, r, e, q⟩ => by
  cases ds with
  | nil => cases e
  | cons d ds =>
    cases r with
    | @cons v vs _ _ rv rvs =>
      have e' : (g d ρ).bind (gs ds) = some ρ' := e
      cases e1 : g d ρ with
      | none => rw [e1] at e'; cases e'
      | some ρ1 =>
        rw [e1] at e'
        exact ⟨v, vs, rfl, A, F, ρ, d, ρ1, k, rv, e1, fun σ1 k1 l1 s1 => ⟨A, F, ρ1, ds, ρ', k1, rvs, e', fun σ2 k2 l2 s2 => q σ2 k2 (l2.trans l1) fun i hi => by
          rw [List.mem_append, not_or] at hi
          rw [s2 i hi.2, s1 i hi.1]⟩⟩
def gT (gs : List Dt → En → Option En) (n : Nat) : Dt → En → Option En
  | .tup ds, ρ => if ds.length = n then gs ds ρ else none
  | _, _ => none
theorem dg_tup {k : Nat} {gs : List Dt → En → Option En} {sl : List Nat} {n : Nat} (hK : X.K = T.K) (hc : X.calm = true) (h : PGs X es (TMgs T π gs sl))
    (hn : (assignEach es X.env).length = n := by rfl) (hst : (assignEach es X.env).findIdx? (·.1) = none := by rfl) : PG X (.Tuple es k pos) (TMg T π (gT gs n) sl) := (pg_tup hc h hn hst).imp fun v σ H Q ⟨A, F, ρ, d, ρ', k, r, e, q⟩ => by
  cases d with
  | tup ds =>
    obtain ⟨a, vs, ev, hq, rs⟩ := r.tup_inv
    have e' : (if ds.length = n then gs ds ρ else none) = some ρ' := e
    by_cases hl : ds.length = n
    · rw [if_pos hl] at e'
      exact ⟨a, vs, ev, by rw [hK]; exact sqt_mono k.le hq, by rw [rs.length]; exact hl, A, F, ρ, ds, ρ', k, rs, e', q⟩
    · rw [if_neg hl] at e'; cases e'
  | _ => cases e
def sAsg (m : Mi Dt) (g : Dt → En → Option En) : En → So := sBind m fun d ρ => match g d ρ with
  | some ρ' => .nx ρ'
  | none => .bad
/-! ### loops -/
/-- J walks ds while what is frozen in F stands -/
structure Wk (T : Tx) (J : It) (ds : List Dt) (F : Hp) : Prop where
  goes : ∀ i H, i < ds.length → Le F H → J.go i H
  stops : ∀ H, Le F H → J.stop ds.length H
  yields : ∀ i H x H' d, ds[i]? = some d → Le F H → J.yld i H x H' → (H' = H ∧ Rep T F x d) ∨ ∃ p vs es, H p = none ∧ H' = upd H p (.tup vs) ∧ x = .ref p ∧ Reps T F vs es ∧ d = .tup es
def TMi (T : Tx) (π : Nat → Option Pin) (W : WX) (m : Mi (List Dt)) : TI := fun σ H R => ∃ A F ρ, Ok T π A F H σ ρ ∧ Post T π W σ A F H (fun ds _ F' H' => ∀ J, Wk T J ds F' → R J H') (m ρ)
/-- what a turn yields, frozen -/
theorem Wk.turn {J : It} {ds : List Dt} {Fs : Hp} (w : Wk T J ds Fs) {i : Nat} {x : V} {d : Dt} (hd : ds[i]? = some d) (k : Ok T π A F H σ ρ) (le : Le Fs F) (y : J.yld i H x H') :
    ∃ F', Ok T π A F' H' σ ρ ∧ Fr A F H F' H' ∧ Rep T F' x d ∧ Le Fs F' := by
  rcases w.yields i H x H' d hd (le_trans le k.le) y with ⟨rfl, r⟩ | ⟨p, vs, es, hp, rfl, rfl, rs, rfl⟩
  · exact ⟨F, k, .refl, r.mono le, le⟩
  · exact ⟨upd F p (.tup vs), k.new hp, .new k.le hp, .tup upd_same ((rs.mono le).mono (le_new (f_none k.le hp))), le_trans le (le_new (f_none k.le hp))⟩
def forGo (g : Dt → En → Option En) (b : En → So) : List Dt → En → So
  | [], ρ => .nx ρ
  | d :: ds, ρ => match g d ρ with
    | none => .bad
    | some ρ1 => match b ρ1 with
      | .nx ρ2 => forGo g b ds ρ2
      | .ct ρ2 => forGo g b ds ρ2
      | .bk ρ2 => .nx ρ2
      | o => o
def sFor (m : Mi (List Dt)) (g : Dt → En → Option En) (b : En → So) : En → So := sBind m (forGo g b)
theorem walk_of_wk {J : It} {ds : List Dt} {Fs : Hp} (w : Wk T J ds Fs) : Walk J ds.length (fun H => Le Fs H) (fun i H x H' => J.yld i H x H') := ⟨fun i H hi h => w.goes i H hi h, fun H h => w.stops H h, fun _ _ _ _ _ _ y => y⟩
theorem ds_for {tg iter : Expr} {body : List Stmt} {g : Dt → En → Option En} {sl : List Nat} {bm : En → So} (hp : PassesOwn (model X.prog X.w) X.A X.env X.xe) (hc : X.calm = true) (hi : PI X tg iter (TMi T π W ms)) (hg : PG X tg (TMg T π g sl)) (hb : PSs X body (TMs T π W bm))
    (hs : ∀ x, foldedSetIterable iter X.env x = pure x := by intro _; rfl) : PS X (.For tg iter body [] pos) (TMs T π W (sFor ms g bm)) := (ps_for hp hc hi hg hb hs).imp fun D σ H ⟨A, F0, H0, F, ρ, k, p⟩ =>
  ⟨_, F, ρ, k.ok, (p.bind k).imp fun ds ρ1 F1 H1 _ _ ⟨k1, p1⟩ J w => by
    refine for_it (walk_of_wk w) (fun i σ H => ∃ F ρ, StOk T π A F0 H0 F H σ ρ ∧ Le F1 F ∧ PostS T π W A F0 H0 D (forGo g bm (ds.drop i) ρ)) ⟨F1, ρ1, k1, le_refl F1, p1⟩ (fun i σ H _ ⟨F, ρ, k, l, _⟩ => le_trans l k.ok.le) (fun i x σ H H' hi ⟨F, ρ, k, l, p⟩ y => ?_) (fun σ H ⟨F, ρ, k, l, p⟩ => ?_)
    · have hd : ds[i]? = some ds[i] := List.getElem?_eq_getElem hi
      obtain ⟨F', k', r', rx, l'⟩ := w.turn hd k.ok l y
      rw [List.drop_eq_getElem_cons hi] at p
      unfold forGo at p
      cases e : g ds[i] ρ with
      | none => rw [e] at p; exact p.elim
      | some ρ2 =>
        rw [e] at p
        have k0 := k.step k' r'
        refine ⟨_, F', ρ, ds[i], ρ2, k', rx, e, fun σ2 k2 _ _ => ⟨_, F', H', F', ρ2, k0.start k2, ?_⟩⟩
        dsimp only at p
        cases eb : bm ρ2 with
        | nx ρ3 => rw [eb] at p; exact fun σ3 F3 H3 k3 => ⟨F3, ρ3, k0.rebase k3, le_trans l' k3.fr.f, p⟩
        | ct ρ3 => rw [eb] at p; exact fun σ3 F3 H3 k3 => ⟨F3, ρ3, k0.rebase k3, le_trans l' k3.fr.f, p⟩
        | bk ρ3 => rw [eb] at p; exact fun σ3 F3 H3 k3 => p σ3 F3 H3 (k0.rebase k3)
        | rt d ρ3 => rw [eb] at p; exact fun σ3 F3 H3 v k3 => p σ3 F3 H3 v (k0.rebase k3)
        | rtN d ρ3 => rw [eb] at p; exact fun σ3 F3 H3 v k3 h1 h2 h3 h4 h5 => p σ3 F3 H3 v (k0.rebase k3) h1 h2 (h3.elim id fun z => .inr (k0.fr.t v z)) h4 fun y hy => ⟨(h5 y hy).1, (h5 y hy).2.1, (h5 y hy).2.2.elim id fun z => .inr (k0.fr.t y z)⟩
        | exc x ρ3 => rw [eb] at p; exact fun σ3 F3 H3 c d k3 => p σ3 F3 H3 c d (k0.rebase k3)
        | bad => rw [eb] at p; exact p.elim
    · have e : ds.drop ds.length = [] := List.drop_length
      rw [e] at p
      exact p σ _ H k⟩
end
end Dl
namespace Dl
open PySem PySem.Spec PyProof.Rows L2
section
variable {X : Cx} {T : Tx} {π : Nat → Option Pin} {W : WX} {a b c e : Expr} {es : List Expr} {pos : Pos} {m ma mb mc : Mi Dt} {ms : Mi (List Dt)} {A A' : Addr → Prop} {F H F' H' F0 H0 : Hp} {σ : L2.St} {ρ : En}
/-! ### while -/
def whGo (c : Mi Bool) (b : En → So) : Nat → En → So
  | 0, _ => .bad
  | n + 1, ρ => match c ρ with
    | .ok true ρ1 => (match b ρ1 with
      | .nx ρ2 => whGo c b n ρ2
      | .ct ρ2 => whGo c b n ρ2
      | .bk ρ2 => .nx ρ2
      | o => o)
    | .ok false ρ1 => .nx ρ1
    | .exc x ρ1 => .exc x ρ1
    | .bad => .bad
def sWhile (fuel : Nat) (c : Mi Bool) (b : En → So) : En → So := whGo c b fuel
theorem ds_while {body : List Stmt} {mc : Mi Bool} {bm : En → So} (fuel : Nat) (hp : PassesOwn (model X.prog X.w) X.A X.env X.xe) (hc : PT X c (TMt T π W mc)) (hb : PSs X body (TMs T π W bm)) : PS X (.While c body [] pos) (TMs T π W (sWhile fuel mc bm)) :=
  (ps_while hp hc hb).imp fun D σ H ⟨A, F0, H0, F, ρ, k, p⟩ => by
    refine ⟨fun n σ H => ∃ F ρ, StOk T π A F0 H0 F H σ ρ ∧ PostS T π W A F0 H0 D (whGo mc bm n ρ), ⟨fuel, F, ρ, k, p⟩, fun n σ H ⟨F, ρ, k, p⟩ => ?_⟩
    cases n with
    | zero => exact p.elim
    | succ n =>
      have p' : PostS T π W A F0 H0 D (sBind mc (fun b ρ1 => match b with
        | true => (match bm ρ1 with
          | .nx ρ2 => whGo mc bm n ρ2
          | .ct ρ2 => whGo mc bm n ρ2
          | .bk ρ2 => .nx ρ2
          | o => o)
        | false => .nx ρ1) ρ) := by
        unfold sBind
        unfold whGo at p
        cases e : mc ρ with
        | ok b ρ1 => rw [e] at p; cases b <;> exact p
        | exc x ρ1 => rw [e] at p; exact p
        | bad => rw [e] at p; exact p
      refine ⟨_, F, ρ, k.ok, (p'.bind k).imp fun b ρ1 F1 H1 _ _ ⟨k1, p1⟩ => ?_⟩
      cases b with
      | false => exact iteF (p1 σ F1 H1 k1)
      | true =>
        refine iteT ⟨fun σ H => ∃ F ρ, StOk T π A F0 H0 F H σ ρ ∧ PostS T π W A F0 H0 D (whGo mc bm n ρ), fun σ' H' q => ⟨n, Nat.lt_succ_self n, q⟩, A, F0, H0, F1, ρ1, k1, ?_⟩
        dsimp only at p1
        cases eb : bm ρ1 with
        | nx ρ3 => rw [eb] at p1; exact fun σ3 F3 H3 k3 => ⟨F3, ρ3, k3, p1⟩
        | ct ρ3 => rw [eb] at p1; exact fun σ3 F3 H3 k3 => ⟨F3, ρ3, k3, p1⟩
        | bk ρ3 => rw [eb] at p1; exact p1
        | rt d ρ3 => rw [eb] at p1; exact p1
        | rtN d ρ3 => rw [eb] at p1; exact p1
        | exc x ρ3 => rw [eb] at p1; exact p1
        | bad => rw [eb] at p1; exact p1.elim
/-! ### comprehensions -/
def wipeE (ρ : En) : List Nat → En
  | [] => ρ
  | v :: vs => (wipeE ρ vs).set v none
def restE (ρ0 ρ : En) : List Nat → En
  | [] => ρ
  | v :: vs => (restE ρ0 ρ vs).set v (ρ0[v]?.getD none)
def ownAny (ρ : En) : List Nat → Bool
  | [] => false
  | v :: vs => (match ρ[v]? with | some (some (.own _ _)) => true | _ => false) || ownAny ρ vs
theorem wipeE_len (ρ : En) : ∀ vs, (wipeE ρ vs).length = ρ.length
  | [] => rfl
  | v :: vs => by unfold wipeE; rw [List.length_set, wipeE_len ρ vs]
theorem restE_len (ρ0 ρ : En) : ∀ vs, (restE ρ0 ρ vs).length = ρ.length
  | [] => rfl
  | v :: vs => by unfold restE; rw [List.length_set, restE_len ρ0 ρ vs]
theorem wipeE_some {ρ : En} {i : Nat} {x : Sl} : ∀ {vs : List Nat}, (wipeE ρ vs)[i]? = some (some x) → ρ[i]? = some (some x) ∧ i ∉ vs
  | [], h => ⟨h, by simp⟩
  | v :: vs, h => by
    unfold wipeE at h
    by_cases hi : v = i
    · subst hi
      by_cases hv : v < (wipeE ρ vs).length
      · rw [List.getElem?_set_self hv] at h; cases h
      · rw [List.getElem?_eq_none (by simpa using hv)] at h; cases h
    · rw [List.getElem?_set_ne hi] at h
      obtain ⟨h1, h2⟩ := wipeE_some h
      exact ⟨h1, by simp only [List.mem_cons, not_or]; exact ⟨fun e => hi e.symm, h2⟩⟩
theorem restE_out {ρ0 ρ : En} {i : Nat} : ∀ {vs : List Nat}, i ∉ vs → (restE ρ0 ρ vs)[i]? = ρ[i]?
  | [], _ => rfl
  | v :: vs, h => by
    simp only [List.mem_cons, not_or] at h
    unfold restE
    rw [List.getElem?_set_ne fun e => h.1 e.symm]
    exact restE_out h.2
theorem restE_in {ρ0 ρ : En} {i : Nat} {x : Sl} : ∀ {vs : List Nat}, i ∈ vs → (restE ρ0 ρ vs)[i]? = some (some x) → ρ0[i]? = some (some x)
  | [], h, _ => nomatch h
  | v :: vs, h, e => by
    unfold restE at e
    by_cases hi : v = i
    · subst hi
      by_cases hv : v < (restE ρ0 ρ vs).length
      · rw [List.getElem?_set_self hv] at e
        cases q : ρ0[v]? with
        | none => rw [q] at e; cases e
        | some s => rw [q] at e; exact e
      · rw [List.getElem?_eq_none (by simpa using hv)] at e; cases e
    · rw [List.getElem?_set_ne hi] at e
      cases h with
      | head => exact absurd rfl hi
      | tail _ h => exact restE_in h e
theorem ownAny_no {ρ : En} {i : Nat} {io : Bool} {d : Dt} : ∀ {vs : List Nat}, ownAny ρ vs = false → i ∈ vs → ρ[i]? ≠ some (some (.own io d))
  | [], _, q, _ => nomatch q
  | v :: vs, h, q, e => by
    unfold ownAny at h
    rcases List.mem_cons.mp q with q | q
    · subst q
      rw [e] at h
      cases h
    · exact ownAny_no (Bool.or_eq_false_iff.mp h).2 q e
theorem wipe_ext {σ σ' : L2.St} (hl : σ'.length = σ.length) : ∀ {vs : List Nat}, (∀ i, i ∉ vs → σ'[i]? = σ[i]?) → wipe σ' vs = wipe σ vs := fun {vs} h => by
  apply List.ext_getElem?
  intro i
  by_cases hi : i ∈ vs
  · have hw : ∀ τ : L2.St, i < τ.length → (wipe τ vs)[i]? = some none := fun τ ht => by
      have hlt : i < (wipe τ vs).length := by rw [wipe_length]; exact ht
      cases q : (wipe τ vs)[i]? with
      | none => rw [List.getElem?_eq_none_iff] at q; omega
      | some s =>
        cases s with
        | none => rfl
        | some v => exact absurd hi (wipe_some q).2
    by_cases hs : i < σ.length
    · rw [hw σ hs, hw σ' (by omega)]
    · rw [List.getElem?_eq_none (by rw [wipe_length]; omega), List.getElem?_eq_none (by rw [wipe_length]; omega)]
  · rw [wipe_out hi, wipe_out hi]
    exact h i hi
theorem wipe_wipe (σ : L2.St) (vs : List Nat) : wipe (wipe σ vs) vs = wipe σ vs := wipe_ext (wipe_length σ vs) fun i hi => wipe_out hi
theorem Ok.wipe (k : Ok T π A F H σ ρ) (vs : List Nat) : Ok T π A F H (L2.wipe σ vs) (wipeE ρ vs) := by
  refine ⟨k.le, by rw [wipe_length, wipeE_len]; exact k.len, fun i d e => ?_, fun i io d e => ?_, fun i j io jo d e a b x ei ej si sj => ?_⟩
  · obtain ⟨h1, h2⟩ := wipeE_some e
    rw [wipe_out h2]
    exact k.val i d h1
  · obtain ⟨h1, h2⟩ := wipeE_some e
    rw [wipe_out h2]
    exact k.own i io d h1
  · obtain ⟨h1, h2⟩ := wipeE_some ei
    obtain ⟨h3, h4⟩ := wipeE_some ej
    rw [wipe_out h2] at si
    rw [wipe_out h4] at sj
    exact k.dis i j io jo d e a b x h1 h3 si sj
/-- behind the block -/
theorem Ok.rest {ρ0 : En} {vs : List Nat} (k0 : Ok T π A F0 H0 σ ρ0) (no : ownAny ρ0 vs = false) (f : Le F0 F) (k : Ok T π A F H (L2.wipe σ vs) ρ) : Ok T π A F H σ (restE ρ0 ρ vs) := by
  have ol : ∀ (i : Nat) io d, (restE ρ0 ρ vs)[i]? = some (some (.own io d)) → i ∉ vs ∧ ρ[i]? = some (some (.own io d)) := fun i io d e => by
    by_cases hi : i ∈ vs
    · exact absurd (restE_in hi e) (ownAny_no no hi)
    · rw [restE_out hi] at e; exact ⟨hi, e⟩
  refine ⟨k.le, by rw [restE_len, ← k.len, wipe_length], fun i d e => ?_, fun i io d e => ?_, fun i j io jo d e a b x ei ej si sj => ?_⟩
  · by_cases hi : i ∈ vs
    · obtain ⟨v, h1, h2⟩ := k0.val i d (restE_in hi e)
      exact ⟨v, h1, h2.mono f⟩
    · rw [restE_out hi] at e
      obtain ⟨v, h1, h2⟩ := k.val i d e
      rw [wipe_out hi] at h1
      exact ⟨v, h1, h2⟩
  · obtain ⟨hi, e⟩ := ol i io d e
    obtain ⟨x, h1, h2⟩ := k.own i io d e
    rw [wipe_out hi] at h1
    exact ⟨x, h1, h2⟩
  · obtain ⟨hi, ei⟩ := ol i io d ei
    obtain ⟨hj, ej⟩ := ol j jo e ej
    exact k.dis i j io jo d e a b x ei ej (by rw [wipe_out hi]; exact si) (by rw [wipe_out hj]; exact sj)
def lcGo (g : Dt → En → Option En) (t : Mi Bool) (e : Mi Dt) (vs : List Nat) : List Dt → List Dt → En → Ou (List Dt)
  | [], acc, ρ => .ok acc ρ
  | d :: ds, acc, ρ => match g d ρ with
    | none => .bad
    | some ρ1 => match t ρ1 with
      | .ok true ρ2 => (match e ρ2 with
        | .ok y ρ3 => if acc.length < sizeLine then lcGo g t e vs ds (acc ++ [y]) (wipeE ρ3 vs) else .bad
        | _ => .bad)
      | .ok false ρ2 => lcGo g t e vs ds acc (wipeE ρ2 vs)
      | _ => .bad
def mLc (mi : Mi (List Dt)) (g : Dt → En → Option En) (t : Mi Bool) (e : Mi Dt) (vs : List Nat) : Mi Dt := mBind mi fun ds ρ =>
  if ownAny ρ vs then .bad else match lcGo g t e vs ds [] (wipeE ρ vs) with
    | .ok acc ρ' => .ok (.lst acc) (restE ρ ρ' vs)
    | _ => .bad
def W0 : WX := fun _ _ _ _ => False
/-- an object that is none of the slots' own changes -/
theorem Ok.upd_other {p : Addr} {o : HO} (k : Ok T π A F H σ ρ) (hf : F p = none) (hn : ¬ A p) : Ok T π A F (upd H p o) σ ρ := by
  refine k.grow (le_refl F) (fun a u e => ?_) (fun a w => (k.ownH w).2.1) fun a u w e => ?_
  · rw [upd_ne fun z => by rw [z, hf] at e; cases e]; exact k.le a u e
  · rw [upd_ne fun z => hn (by rw [← z]; exact k.ownA w)]; exact e
theorem tlc_of {g : Dt → En → Option En} {sl vs : List Nat} {mt : Mi Bool} {me : Mi Dt} {Q : VK} (hsl : ∀ i ∈ sl, i ∈ vs) (h : TMn T π W (mLc ms g mt me vs) σ H Q) : tLc (TMi T π W ms) (TMg T π g sl) (TMt T π W0 mt) (TMe T π W0 me) vs σ H Q := by
  obtain ⟨A0, F, ρ, k, p⟩ := h
  refine ⟨IsOwn H σ ρ, F, ρ, k.tight, ((p.weak (A' := IsOwn H σ ρ) fun a z => k.ownA z).bind).imp fun ds ρ1 F1 H1 k1 r1 p1 J w D hD => ?_⟩
  have nA : ¬ IsOwn H σ ρ D := k.fresh_own (r1.t D hD)
  by_cases hown : ownAny ρ1 vs = true
  · rw [if_pos hown] at p1; exact p1.elim
  · rw [if_neg hown] at p1
    have hown : ownAny ρ1 vs = false := by simpa using hown
    cases el : lcGo g mt me vs ds [] (wipeE ρ1 vs) with
    | exc x r => rw [el] at p1; exact p1.elim
    | bad => rw [el] at p1; exact p1.elim
    | ok accF ρF =>
      rw [el] at p1
      refine lc_it (walk_of_wk w) (fun i Hc => ∃ F ρ' acc vacc, Ok T π (IsOwn H σ ρ) F Hc (wipe σ vs) ρ' ∧ Fr (IsOwn H σ ρ) F1 H1 F Hc ∧ F D = none ∧ Hc D = some (.lst vacc) ∧ Reps T F vacc acc ∧ lcGo g mt me vs (ds.drop i) acc ρ' = .ok accF ρF)
        ⟨F1, wipeE ρ1 vs, [], [], (k1.newO hD).wipe vs, .newO hD, f_none k1.le hD, upd_same, .nil, el⟩ (fun i Hc _ ⟨F, _, _, _, k, r, _⟩ => le_trans r.f k.le) (fun i x Hc H' hi ⟨F2, ρ', acc, vacc, k2, r2, fD, hDc, rs, eg⟩ y => ?_) (fun Hc ⟨F2, ρ', acc, vacc, k2, r2, fD, hDc, rs, eg⟩ => ?_)
      · have hd : ds[i]? = some ds[i] := List.getElem?_eq_getElem hi
        obtain ⟨F3, k3, r3, rx, l3⟩ := w.turn hd k2 r2.f y
        rw [List.drop_eq_getElem_cons hi] at eg
        unfold lcGo at eg
        cases e1 : g ds[i] ρ' with
        | none => rw [e1] at eg; cases eg
        | some ρ2 =>
          rw [e1] at eg
          dsimp only at eg
          refine ⟨_, F3, ρ', ds[i], ρ2, k3, rx, e1, fun σ2 k4 l4 s4 => ?_⟩
          have ew : wipe σ2 vs = wipe σ vs := by
            rw [wipe_ext (σ := wipe σ vs) (σ' := σ2) l4 fun i hi => s4 i fun z => hi (hsl i z), wipe_wipe]
          refine ⟨ew, _, F3, ρ2, k4, ?_⟩
          have keep : ∀ {F5 H5 : Hp} {ρ5 : En}, Ok T π (IsOwn H σ ρ) F5 H5 σ2 ρ5 → Fr (IsOwn H σ ρ) F3 H' F5 H5 → H5 D = some (.lst vacc) ∧ F5 D = none ∧ Reps T F5 vacc acc ∧ Fr (IsOwn H σ ρ) F1 H1 F5 H5 ∧ Ok T π (IsOwn H σ ρ) F5 H5 (wipe σ vs) (wipeE ρ5 vs) := fun {F5 H5 ρ5} k5 r5 => by
            have rr := r3.trans r5
            refine ⟨rr.h D _ nA hDc, ?_, rs.mono rr.f, r2.trans rr, by rw [← ew]; exact k5.wipe vs⟩
            rw [rr.n D _ nA hDc (fun _ z => nomatch z)]; exact fD
          cases e2 : mt ρ2 with
          | exc x r => rw [e2] at eg; cases eg
          | bad => rw [e2] at eg; cases eg
          | ok b ρ3 =>
            rw [e2] at eg
            intro F5 H5 k5 r5
            cases b with
            | false =>
              obtain ⟨q1, q2, q3, q4, q5⟩ := keep k5 r5
              exact iteF ⟨F5, _, acc, vacc, q5, q4, q2, q1, q3, eg⟩
            | true =>
              dsimp only at eg
              refine iteT ⟨_, F5, ρ3, k5, ?_⟩
              cases e3 : me ρ3 with
              | exc x r => rw [e3] at eg; cases eg
              | bad => rw [e3] at eg; cases eg
              | ok yv ρ4 =>
                rw [e3] at eg
                dsimp only at eg
                intro F6 H6 k6 r6 v rv
                obtain ⟨q1, q2, q3, q4, q5⟩ := keep k6 (r5.trans r6)
                by_cases hz : acc.length < sizeLine
                · rw [if_pos hz] at eg
                  refine ⟨vacc, q1, by rw [rs.length]; exact hz, F6, _, acc ++ [yv], vacc ++ [v], q5.upd_other q2 nA, ?_, q2, upd_same, q3.append (.cons rv .nil), eg⟩
                  exact ⟨q4.f, fun a o n e => by
                    rw [upd_ne fun z => by rw [z, hD] at e; cases e]; exact q4.h a o n e, q4.n, fun a e => q4.t a (up_none e)⟩
                · rw [if_neg hz] at eg; cases eg
      · have e : ds.drop ds.length = [] := List.drop_length
        rw [e] at eg
        unfold lcGo at eg
        cases eg
        have k5 := k1.rest hown r2.f k2
        exact p1 F2 Hc k5 r2 D fD (fun z => nA (k5.ownA z)) (r1.t D hD) ⟨vacc, hDc, rs⟩ (fun _ z => nomatch z)
theorem dn_lc {elt tg iter : Expr} {ifs : List Expr} {scope : Scope} {own : List (Str × Nat)} {g : Dt → En → Option En} {sl : List Nat} {mt : Mi Bool} {me : Mi Dt} (h : PE X (.ListComp elt [⟨tg, iter, ifs, 0⟩] scope pos) (tLc (TMi T π W ms) (TMg T π g sl) (TMt T π W0 mt) (TMe T π W0 me) (own.map (·.2)))) (hsl : ∀ i ∈ sl, i ∈ own.map (·.2)) :
    PE X (.ListComp elt [⟨tg, iter, ifs, 0⟩] scope pos) (TMn T π W (mLc ms g mt me (own.map (·.2)))) := h.imp fun σ H Q q => tlc_of hsl q
theorem dts_nil : PTs X [] (TMt T π W (mPure true)) := ⟨fun pins s σ H Q I ⟨A, F, ρ, k, p⟩ => pts_nil.run pins s σ H Q I (p.pure k)⟩
end
end Dl
namespace Dl
open PySem PySem.Spec PyProof.Rows L2
/-! ### what a def promises -/
inductive Fo where
  | ret (d o : Dt) | exc (x : Ex) (o : Dt) | bad
def pinA (π0 : Option Pin) : Addr → Prop := fun x => ∃ q, π0 = some q ∧ (x = q.1 ∨ x ∈ q.2)
def ArgsOk (T : Tx) (F H : Hp) : Bool → List V → List Dt → Option Pin → Prop
  | false, vs, ds, π0 => Reps T F vs ds ∧ π0 = none
  | true, vs, ds, π0 => ∃ a vr d dr, vs = .ref a :: vr ∧ ds = d :: dr ∧ F a = none ∧ OwnAt T F H a d ∧ Reps T F vr dr ∧ π0 = some (a, inH H a d) ∧ ∀ x ∈ inH H a d, F x = none
def RetOk (T : Tx) (H F' H' : Hp) (v : V) (d : Dt) : Bool → Prop
  | false => Rep T F' v d
  | true => ∃ p, v = .ref p ∧ F' p = none ∧ H p = none ∧ OwnAt T F' H' p d ∧ ∀ x ∈ inH H' p d, F' x = none ∧ H x = none
def IoOk (T : Tx) (F' H' : Hp) (π0 : Option Pin) (o : Dt) : Prop := ∀ q, π0 = some q → F' q.1 = none ∧ OwnAt T F' H' q.1 o ∧ inH H' q.1 o = q.2 ∧ ∀ x ∈ q.2, F' x = none
def FoOk (T : Tx) (rn : Bool) (π0 : Option Pin) (F H : Hp) (Q : VK) (E : XK) : Fo → Prop
  | .ret d o => ∀ F' H' v, Le F' H' → Fr (pinA π0) F H F' H' → IoOk T F' H' π0 o → RetOk T H F' H' v d rn → Q v H'
  | .exc x o => ∀ F' H' cls dx, Le F' H' → Fr (pinA π0) F H F' H' → IoOk T F' H' π0 o → RepX T F' H' cls dx x → E cls dx H'
  | .bad => False
def spM (T : Tx) (n : Nat) (io rn : Bool) (f : List Dt → Fo) : Sp := fun vs H Q E => ∃ F ds π0, vs.length = n ∧ Le F H ∧ ArgsOk T F H io vs ds π0 ∧ FoOk T rn π0 F H Q E (f ds)
def argE : Bool → List Dt → En
  | true, d :: r => some (.own true d) :: r.map fun d => some (.val d)
  | _, ds => ds.map fun d => some (.val d)
def ioOut (io : Bool) (ρ : En) : Option Dt := match io with
  | true => (match ρ[0]? with | some (some (Sl.own true d)) => some d | _ => none)
  | false => some .non
def runF (k : Nat) (io rn : Bool) (body : En → So) (ds : List Dt) : Fo := match body (argE io ds ++ List.replicate (k - ds.length) none) with
  | .nx ρ => (match ioOut io ρ with | some o => (match rn with | false => .ret .non o | true => .bad) | none => .bad)
  | .rt d ρ => (match ioOut io ρ with | some o => (match rn with | false => .ret d o | true => .bad) | none => .bad)
  | .rtN d ρ => (match ioOut io ρ with | some o => (match rn with | true => .ret d o | false => .bad) | none => .bad)
  | .exc x ρ => (match ioOut io ρ with | some o => .exc x o | none => .bad)
  | _ => .bad
theorem Reps.slots {T : Tx} {F : Hp} : ∀ {vs : List V} {ds : List Dt} {i : Nat} {d : Dt}, Reps T F vs ds → (ds.map fun d => (some (Sl.val d)))[i]? = some (some (.val d)) → ∃ v, vs[i]? = some v ∧ Rep T F v d := fun {vs ds i d} r e => by
  rw [List.getElem?_map] at e
  cases q : ds[i]? with
  | none => rw [q] at e; cases e
  | some d' =>
    rw [q] at e
    cases e
    exact r.get q
theorem noown (ds : List Dt) (i : Nat) (io : Bool) (d : Dt) : (ds.map fun d => (some (Sl.val d)))[i]? ≠ some (some (.own io d)) := fun e => by
  rw [List.getElem?_map] at e
  cases q : ds[i]? with
  | none => rw [q] at e; cases e
  | some d' => rw [q] at e; cases e
theorem app_some {ρ : En} {n : Nat} {i : Nat} {s : Sl} (h : (ρ ++ List.replicate n none)[i]? = some (some s)) : ρ[i]? = some (some s) ∧ i < ρ.length := by
  by_cases hi : i < ρ.length
  · rw [List.getElem?_append_left hi] at h; exact ⟨h, hi⟩
  · rw [List.getElem?_append_right (by omega), List.getElem?_replicate] at h
    split at h
    · cases h
    · cases h
theorem argsOk_len {T : Tx} {F H : Hp} {io : Bool} {vs : List V} {ds : List Dt} {π0 : Option Pin} (h : ArgsOk T F H io vs ds π0) : vs.length = ds.length := by
  cases io with
  | false => exact h.1.length
  | true =>
    obtain ⟨a, vr, d, dr, rfl, rfl, _, _, r, _⟩ := h
    rw [List.length_cons, List.length_cons, r.length]
def pi0 (π0 : Option Pin) : Nat → Option Pin
  | 0 => π0
  | _ + 1 => none
theorem ok_start {T : Tx} {N : List Str} {F H : Hp} {io : Bool} {vs : List V} {ds : List Dt} {π0 : Option Pin} (hl : vs.length ≤ N.length) (le : Le F H) (h : ArgsOk T F H io vs ds π0) :
    StOk T (pi0 π0) (pinA π0) F H F H (L2.start N vs) (argE io ds ++ List.replicate (N.length - ds.length) none) := by
  have hn := argsOk_len h
  have sl : ∀ (i : Nat) v, vs[i]? = some v → (L2.start N vs)[i]? = some (some v) := fun i v e => by
    unfold L2.start
    rw [List.getElem?_append_left (by rw [List.length_map]; exact (List.getElem?_eq_some_iff.mp e).1), List.getElem?_map, e]
    rfl
  refine ⟨⟨le, ?_, fun i d e => ?_, fun i jo d e => ?_, fun i j jo lo d e a b x ei ej si sj _ _ => ?_⟩, .refl⟩
  · unfold L2.start
    cases io with
    | false => unfold argE; simp; omega
    | true =>
      obtain ⟨a, vr, d, dr, rfl, rfl, _, _, r, _⟩ := h
      have := r.length
      unfold argE; simp at hl ⊢; omega
  · obtain ⟨e, hi⟩ := app_some e
    cases io with
    | false =>
      obtain ⟨v, h1, h2⟩ := h.1.slots (show (ds.map fun d => (some (Sl.val d)))[i]? = _ from e)
      exact ⟨v, sl i v h1, h2⟩
    | true =>
      obtain ⟨a, vr, d0, dr, rfl, rfl, h1, h2, r, h3⟩ := h
      cases i with
      | zero => cases e
      | succ i =>
        obtain ⟨v, q1, q2⟩ := r.slots (show (dr.map fun d => (some (Sl.val d)))[i]? = _ from e)
        exact ⟨v, sl (i + 1) v q1, q2⟩
  · obtain ⟨e, hi⟩ := app_some e
    cases io with
    | false => exact absurd e (noown ds i jo d)
    | true =>
      obtain ⟨a, vr, d0, dr, rfl, rfl, h1, h2, r, h3⟩ := h
      cases i with
      | succ i => exact absurd (show (dr.map fun d => (some (Sl.val d)))[i]? = _ from e) (noown dr i jo d)
      | zero =>
        cases e
        exact ⟨a, sl 0 _ rfl, h1, h2, .inl ⟨_, h3.1, .inl rfl⟩, (fun _ => h3.1), fun x hx => ⟨h3.2 x hx, .inl ⟨_, h3.1, .inr hx⟩⟩⟩
  · obtain ⟨ei, _⟩ := app_some ei
    obtain ⟨ej, _⟩ := app_some ej
    cases io with
    | false => exact absurd ei (noown ds i jo d)
    | true =>
      obtain ⟨a, vr, d0, dr, rfl, rfl, h1, h2, r, h3⟩ := h
      cases i with
      | succ i => exact absurd (show (dr.map fun d => (some (Sl.val d)))[i]? = _ from ei) (noown dr i jo d)
      | zero =>
        cases j with
        | succ j => exact absurd (show (dr.map fun d => (some (Sl.val d)))[j]? = _ from ej) (noown dr j lo e)
        | zero => rfl
theorem io_end {T : Tx} {F H F' H' : Hp} {io : Bool} {vs : List V} {ds : List Dt} {π0 : Option Pin} {σ : L2.St} {ρ : En} {o : Dt} (h : ArgsOk T F H io vs ds π0) (k : StOk T (pi0 π0) (pinA π0) F H F' H' σ ρ) (e : ioOut io ρ = some o) : IoOk T F' H' π0 o := fun a ha => by
  cases io with
  | false => rw [h.2] at ha; cases ha
  | true =>
    unfold ioOut at e
    dsimp only at e
    split at e
    · rename_i d hd
      cases e
      obtain ⟨b, h1, h2, h3, h4, h5⟩ := k.ok.own 0 true _ hd
      have e2 : π0 = some (b, _) := h5.1 rfl
      rw [ha] at e2
      cases e2
      exact ⟨h2, h3, rfl, fun x hx => (h5.2 x hx).1⟩
    · cases e
section
variable {P : Program} {w : World} {K : PySem.W.Frag} {mg : Str → Option Value} {base : Heap}
/-- a def keeps the promise of its mirror -/
theorem rtn_new {T : Tx} {F H F' H' : Hp} {io : Bool} {vs : List V} {ds : List Dt} {π0 : Option Pin} {σ : L2.St} {ρ : En} {o : Dt} {p : Addr} (h : ArgsOk T F H io vs ds π0) (k : StOk T (pi0 π0) (pinA π0) F H F' H' σ ρ) (e : ioOut io ρ = some o) (hn : ¬ IsOwn H' σ ρ p) (hp : pinA π0 p ∨ H p = none) : H p = none := by
  rcases hp with hp | hp
  · exfalso
    cases io with
    | false => obtain ⟨q, hq, _⟩ := hp; rw [h.2] at hq; cases hq
    | true =>
      unfold ioOut at e
      dsimp only at e
      split at e
      · rename_i d q
        obtain ⟨a, h1, _, _, _, h5⟩ := k.ok.own 0 true d q
        have h6 : π0 = some (a, inH H' a d) := h5.1 rfl
        obtain ⟨r, hr, hx⟩ := hp
        rw [h6] at hr
        cases hr
        exact hn ⟨0, true, d, a, q, h1, hx⟩
      · cases e
  · exact hp
theorem fun_ok {x qual : Str} {st : Stmt} {f : Addr} {fd : FuncData} {N ps : List Str} {k : Nat} {cl : Nat → Option (Addr × List Str)} {io rn : Bool} {body : En → So} (F : Fun K x qual st f fd) (S : FnScope N ps (defScope st)) (hN : ps.length ≤ N.length)
    (hb : ∀ (cdv : Value) (A : Around) (outer : List Env) (s : Shared) (H : Hp) (E : XK) (π : Nat → Option Pin), Room k (A.deeper (envOfC qual (defScope st) s.heap.objs.size f cdv)) →
      PSs (cxOf (L2.CX P w) P w K mg base N qual (defScope st) f cdv A outer s H E) (defBody st) (TMs ⟨K, cl⟩ π (fun cls d _ H => E cls d H) body)) :
    FnOk P w K mg base (L2.CX P w) (k + 1) f fd ps (spM ⟨K, cl⟩ ps.length io rn (runF N.length io rn body)) := by
  refine F.okX S (fun vs H Q E h => ?_) (fun cdv A outer s H vs Q E hr h => ?_)
  · obtain ⟨F, ds, π0, hl, _⟩ := h
    exact hl
  · obtain ⟨F0, ds, π0, hl, le, ha, q⟩ := h
    refine ⟨_, hb cdv A outer s H E (pi0 π0) hr, _, F0, H, F0, _, ok_start (by rw [hl]; exact hN) le ha, ?_⟩
    unfold runF at q
    cases eb : body (argE io ds ++ List.replicate (N.length - ds.length) none) with
    | nx ρ =>
      rw [eb] at q
      dsimp only at q
      cases eo : ioOut io ρ with
      | none => rw [eo] at q; exact q.elim
      | some o =>
        rw [eo] at q
        cases rn with
        | true => exact q.elim
        | false => exact fun σ' F' H' k' => q F' H' .non k'.ok.le k'.fr (io_end ha k' eo) .non
    | rt d ρ =>
      rw [eb] at q
      dsimp only at q
      cases eo : ioOut io ρ with
      | none => rw [eo] at q; exact q.elim
      | some o =>
        rw [eo] at q
        cases rn with
        | true => exact q.elim
        | false => exact fun σ' F' H' v k' rv => q F' H' v k'.ok.le k'.fr (io_end ha k' eo) rv
    | rtN d ρ =>
      rw [eb] at q
      dsimp only at q
      cases eo : ioOut io ρ with
      | none => rw [eo] at q; exact q.elim
      | some o =>
        rw [eo] at q
        cases rn with
        | false => exact q.elim
        | true => exact fun σ' F' H' p k' h1 h2 h3 h4 h5 => q F' H' (.ref p) k'.ok.le k'.fr (io_end ha k' eo) ⟨p, rfl, h1, rtn_new ha k' eo h2 h3, h4, fun y hy => ⟨(h5 y hy).1, rtn_new ha k' eo (h5 y hy).2.1 (h5 y hy).2.2⟩⟩
    | exc x ρ =>
      rw [eb] at q
      dsimp only at q
      cases eo : ioOut io ρ with
      | none => rw [eo] at q; exact q.elim
      | some o =>
        rw [eo] at q
        exact fun σ' F' H' c d k' rx => q F' H' c d k'.ok.le k'.fr (io_end ha k' eo) rx
    | bk ρ => rw [eb] at q; exact q.elim
    | ct ρ => rw [eb] at q; exact q.elim
    | bad => rw [eb] at q; exact q.elim
end
section
variable {P : Program} {w : World} {K : PySem.W.Frag} {mg : Str → Option Value} {base : Heap}
theorem fun_ok2 {x qual : Str} {st : Stmt} {f : Addr} {fd : FuncData} {N ps : List Str} {k n : Nat} {cl : Nat → Option (Addr × List Str)} {io rn : Bool} {body : En → So} {fm : List Dt → Fo} (F : Fun K x qual st f fd) (S : FnScope N ps (defScope st)) (hN : ps.length ≤ N.length) (hn : n = ps.length) (hm : fm = runF N.length io rn body)
    (hb : ∀ (cdv : Value) (A : Around) (outer : List Env) (s : Shared) (H : Hp) (E : XK) (π : Nat → Option Pin), Room k (A.deeper (envOfC qual (defScope st) s.heap.objs.size f cdv)) →
      PSs (cxOf (L2.CX P w) P w K mg base N qual (defScope st) f cdv A outer s H E) (defBody st) (TMs ⟨K, cl⟩ π (fun cls d _ H => E cls d H) body)) :
    FnOk P w K mg base (L2.CX P w) (k + 1) f fd ps (spM ⟨K, cl⟩ n io rn fm) := by
  subst hn hm
  exact fun_ok F S hN hb
end
section
variable {X : Cx} {T : Tx} {π : Nat → Option Pin} {W : WX} {a b c e o : Expr} {es : List Expr} {pos : Pos} {m ma mb mc : Mi Dt} {ms : Mi (List Dt)} {A A' : Addr → Prop} {F H F' H' F0 H0 : Hp} {σ : L2.St} {ρ : En}
/-! ### a def is called -/
def mCall (n : Nat) (f : List Dt → Fo) (ms : Mi (List Dt)) : Mi Dt := mBind ms fun ds ρ => if ds.length = n then (match f ds with
  | .ret d _ => .ok d ρ
  | .exc x _ => .exc x ρ
  | .bad => .bad) else .bad
/-- behind a call that changes none of the slots' own objects -/
theorem Ok.called (k : Ok T π A F H σ ρ) (le : Le F' H') (r : Fr (pinA none) F H F' H') : Ok T π A F' H' σ ρ :=
  k.grow r.f le (fun a w => by
    obtain ⟨_, h2, o, h3, h4⟩ := k.ownT w
    rw [r.n a o (fun ⟨_, z, _⟩ => nomatch z) h3 h4]; exact h2) fun a o w e => r.h a o (fun ⟨_, z, _⟩ => nomatch z) e
theorem sp_call {n : Nat} {rn : Bool} {f : List Dt → Fo} {Q : VK} {vs : List V} {ds : List Dt} {P : Dt → En → Hp → Hp → Prop} (k : Ok T π A F H σ ρ) (r : Reps T F vs ds)
    (p : Post T π W σ A F H P (if ds.length = n then (match f ds with | .ret d _ => Ou.ok d ρ | .exc x _ => .exc x ρ | .bad => .bad) else .bad))
    (q : ∀ d F' H' v, Ok T π A F' H' σ ρ → Fr (pinA none) F H F' H' → RetOk T H F' H' v d rn → P d ρ F' H' → Q v H') : spM T n false rn f vs H Q (WE W σ) := by
  by_cases hl : ds.length = n
  · rw [if_pos hl] at p
    refine ⟨F, ds, none, by rw [r.length]; exact hl, k.le, ⟨r, rfl⟩, ?_⟩
    cases e : f ds with
    | ret d o =>
      rw [e] at p
      exact fun F' H' v le fr _ rv => q d F' H' v (k.called le fr) fr rv (p F' H' (k.called le fr) (fr.weak fun a ⟨_, z, _⟩ => nomatch z))
    | exc x o =>
      rw [e] at p
      exact fun F' H' c d le fr _ rx => p F' H' c d (k.called le fr) (fr.weak fun a ⟨_, z, _⟩ => nomatch z) rx
    | bad => rw [e] at p; exact p.elim
  · rw [if_neg hl] at p; exact p.elim
variable {k n : Nat} {f : Addr} {fd : FuncData} {ps : List Str} {x : Str} {p : Pos} {fm : List Dt → Fo}
theorem de_call (G : FnOk X.prog X.w X.K X.mg X.base (L2.CX X.prog X.w) k f fd ps (spM T n false false fm)) (hr : Room k X.A) (hg : Gl X x) (hm : X.mg x = some (.ref f)) (hk : PySem.W.keepIn X.K (.ref f) = true) (hb : Binds X.K fd ps []) (tk : Takes X W) (ha : PA X (e :: es) (TMa T π W ms))
    (hdb : (x == ("__debug__" : Str)) = false := by decide) (he : starEach (e :: es) X.env = (false, eval e X.env) :: starEach es X.env := by rfl) (hpl : (backTo pos (starEach es X.env)).any (·.1) = false := by rfl) :
    PE X (.Call (.Name x p) (e :: es) [] pos) (TMe T π W (mCall n fm ms)) := (pe_callSD (E := WE W) G hr hg hm hk hb .nil (fun σ => passAt tk σ) ha hdb he hpl).imp fun σ H Q ⟨A, F, ρ, k, p⟩ => ⟨A, F, ρ, k, p.bind.imp fun ds ρ1 F1 H1 k1 r1 p1 vs rvs => by
  show spM T n false false fm (vs ++ []) H1 Q (WE W σ)
  rw [List.append_nil]
  exact sp_call k1 rvs p1 fun d F' H' v _ _ rv q => q v rv⟩
theorem dn_call (G : FnOk X.prog X.w X.K X.mg X.base (L2.CX X.prog X.w) k f fd ps (spM T n false true fm)) (hr : Room k X.A) (hg : Gl X x) (hm : X.mg x = some (.ref f)) (hk : PySem.W.keepIn X.K (.ref f) = true) (hb : Binds X.K fd ps []) (tk : Takes X W) (ha : PA X (e :: es) (TMa T π W ms))
    (hdb : (x == ("__debug__" : Str)) = false := by decide) (he : starEach (e :: es) X.env = (false, eval e X.env) :: starEach es X.env := by rfl) (hpl : (backTo pos (starEach es X.env)).any (·.1) = false := by rfl) :
    PE X (.Call (.Name x p) (e :: es) [] pos) (TMn T π W (mCall n fm ms)) := (pe_callSD (E := WE W) G hr hg hm hk hb .nil (fun σ => passAt tk σ) ha hdb he hpl).imp fun σ H Q ⟨A, F, ρ, k, p⟩ => ⟨A, F, ρ, k, p.bind.imp fun ds ρ1 F1 H1 k1 r1 p1 vs rvs => by
  show spM T n false true fm (vs ++ []) H1 Q (WE W σ)
  rw [List.append_nil]
  exact sp_call k1 rvs p1 fun d F' H' v k' r' ⟨p, e, h1, h2, h3, h4⟩ q => by
    rw [e]
    have no : ∀ y, H1 y = none → ¬ IsOwn H' σ ρ1 y := fun y hy w => by
      have w' : IsOwn H1 σ ρ1 y := (k1.sameOwn fun a o w e => r'.h a o (fun ⟨_, z, _⟩ => nomatch z) e).mp w
      obtain ⟨_, _, o, ho⟩ := k1.ownH w'
      rw [hy] at ho; cases ho
    exact q p h1 (no p h2) (r1.t p h2) h3 fun y hy => ⟨(h4 y hy).1, no y (h4 y hy).2, r1.t y (h4 y hy).2⟩⟩
/-! ### a slot's own list is changed -/
/-- the slot's object changes, and what it holds alone -/
theorem Ok.putG {i : Nat} {io : Bool} {d d' : Dt} {a : Addr} {H' : Hp} (k : Ok T π A F H σ ρ) (e : ρ[i]? = some (some (.own io d))) (s : σ[i]? = some (some (.ref a))) (hH : ∀ b, b ≠ a → b ∉ inH H a d → H' b = H b) (ho : OwnAt T F H' a d') (hin : inH H' a d' = inH H a d) : Ok T π A F H' σ (ρ.set i (some (.own io d'))) := by
  have hi : i < ρ.length := (List.getElem?_eq_some_iff.mp e).1
  obtain ⟨a', h1, h2, h3, h4, h5⟩ := k.own i io d e
  rw [s] at h1
  cases h1
  have oth : ∀ (j : Nat) jo dj b, i ≠ j → ρ[j]? = some (some (.own jo dj)) → σ[j]? = some (some (.ref b)) → ∀ x, (x = b ∨ x ∈ inH H b dj) → H' x = H x := fun j jo dj b hj ej sj x hx =>
    hH x (fun z => hj (k.dis i j io jo d dj a b x e ej s sj (.inl z) hx)) fun z => hj (k.dis i j io jo d dj a b x e ej s sj (.inr z) hx)
  have smj : ∀ (j : Nat) jo dj b, i ≠ j → ρ[j]? = some (some (.own jo dj)) → σ[j]? = some (some (.ref b)) → inH H' b dj = inH H b dj := fun j jo dj b hj ej sj => by
    obtain ⟨b', q1, q2, q3, q4, q5⟩ := k.own j jo dj ej
    rw [sj] at q1
    cases q1
    exact q3.same fun o q => by rw [oth j jo dj b hj ej sj b (.inl rfl)]; exact q
  refine ⟨fun b u z => ?_, by simpa using k.len, fun j dj ej => ?_, fun j jo dj ej => ?_, fun j l jo lo dj dl b c x ej el sj sl xj xl => ?_⟩
  · rw [hH b (fun q => by rw [q, h2] at z; cases z) fun q => by rw [(h5.2 b q).1] at z; cases z]; exact k.le b u z
  · by_cases hj : i = j
    · subst hj; rw [List.getElem?_set_self hi] at ej; cases ej
    · rw [List.getElem?_set_ne hj] at ej; exact k.val j dj ej
  · by_cases hj : i = j
    · subst hj
      rw [List.getElem?_set_self hi] at ej
      cases ej
      exact ⟨a, s, h2, ho, h4, by rw [hin]; exact h5⟩
    · rw [List.getElem?_set_ne hj] at ej
      obtain ⟨b, q1, q2, q3, q4, q5⟩ := k.own j jo dj ej
      exact ⟨b, q1, q2, q3.mono (le_refl F) fun x hx u q => by rw [oth j jo dj b hj ej q1 x hx]; exact q, q4, by rw [smj j jo dj b hj ej q1]; exact q5⟩
  · have back : ∀ (j : Nat) jo dj b, (ρ.set i (some (.own io d')))[j]? = some (some (.own jo dj)) → σ[j]? = some (some (.ref b)) → ∃ jo dk, ρ[j]? = some (some (.own jo dk)) ∧ inH H b dk = inH H' b dj := fun j jo dj b ej sj => by
      by_cases hj : i = j
      · subst hj; rw [List.getElem?_set_self hi] at ej; cases ej; rw [s] at sj; cases sj; exact ⟨io, d, e, hin.symm⟩
      · rw [List.getElem?_set_ne hj] at ej; exact ⟨jo, dj, ej, (smj j jo dj b hj ej sj).symm⟩
    obtain ⟨_, _, gj, ij⟩ := back j jo dj b ej sj
    obtain ⟨_, _, gl, il⟩ := back l lo dl c el sl
    exact k.dis j l _ _ _ _ b c x gj gl sj sl (by rw [ij]; exact xj) (by rw [il]; exact xl)
/-- the slot's object changes -/
theorem Ok.put {i : Nat} {io : Bool} {d d' : Dt} {a : Addr} {o : HO} (k : Ok T π A F H σ ρ) (e : ρ[i]? = some (some (.own io d))) (s : σ[i]? = some (some (.ref a))) (ho : OwnAt T F (upd H a o) a d') (hin : inH (upd H a o) a d' = inH H a d := by rfl) : Ok T π A F (upd H a o) σ (ρ.set i (some (.own io d'))) :=
  k.putG e s (fun b hb _ => upd_ne hb) ho hin
theorem Fr.put {i : Nat} {io : Bool} {d : Dt} {a : Addr} {o : HO} (k : Ok T π A F H σ ρ) (e : ρ[i]? = some (some (.own io d))) (s : σ[i]? = some (some (.ref a))) : Fr A F H F (upd H a o) := by
  have hA : A a := k.ownA ⟨i, io, d, a, e, s, .inl rfl⟩
  exact ⟨le_refl F, fun b u n q => by rw [upd_ne fun z => n (by rw [z]; exact hA)]; exact q, fun _ _ _ _ _ => rfl, fun _ z => up_none z⟩
/-- the list in slot i, changed by f of the list and a value -/
def mMut (i : Nat) (f : List Dt → Option (Dt × List Dt)) : Mi Dt := fun ρ => match ρ[i]? with
  | some (some (.own io (.lst ds))) => (match f ds with
    | some (r, es) => .ok r (ρ.set i (some (.own io (.lst es))))
    | none => .bad)
  | _ => .bad
theorem mMut_inv {i : Nat} {f : List Dt → Option (Dt × List Dt)} {P : Dt → En → Hp → Hp → Prop} (p : Post T π W σ A F H P (mMut i f ρ)) (k : Ok T π A F H σ ρ) :
    ∃ io ds r es a vs, ρ[i]? = some (some (.own io (.lst ds))) ∧ f ds = some (r, es) ∧ σ[i]? = some (some (.ref a)) ∧ H a = some (.lst vs) ∧ Reps T F vs ds ∧
      ∀ vs', Reps T F vs' es → P r (ρ.set i (some (.own io (.lst es)))) F (upd H a (.lst vs')) := by
  unfold mMut at p
  split at p
  · rename_i io ds e
    split at p
    · rename_i r es ef
      obtain ⟨a, h1, h2, ⟨vs, h3, h4⟩, _⟩ := k.own i io _ e
      exact ⟨io, ds, r, es, a, vs, e, ef, h1, h3, h4, fun vs' rv => p F (upd H a (.lst vs')) (k.put e h1 ⟨vs', upd_same, rv⟩) (.put k e h1)⟩
    · exact p.elim
  · exact p.elim
def mAppend (i : Nat) (m : Mi Dt) : Mi Dt := mBind m fun y => mMut i fun ds => if ds.length < sizeLine then some (.non, ds ++ [y]) else none
def mExtend (i : Nat) (m : Mi Dt) : Mi Dt := mBind m fun y => mMut i fun ds => match y with
  | .lst es => if ds.length + es.length ≤ sizeLine then some (.non, ds ++ es) else none
  | _ => none
/-- the slot's own list is there, whatever comes -/
theorem own_first {i : Nat} {io : Bool} {ds : List Dt} (hK : X.K = T.K) (k : Ok T π A F H σ ρ) (e : ρ[i]? = some (some (.own io (.lst ds)))) : ∃ a, σ[i]? = some (some (.ref a)) ∧ tyV X.K "list" (.ref a) H := by
  obtain ⟨a, h1, h2, ⟨vs, h3, h4⟩, _⟩ := k.own i io _ e
  exact ⟨a, h1, .inl ⟨rfl, vs, SqL.of h3⟩⟩
def ownLst (i : Nat) (m : Mi Dt) : Mi Dt := fun ρ => match ρ[i]? with
  | some (some (.own _ (.lst _))) => m ρ
  | _ => .bad
theorem de_append {i : Nat} (hK : X.K = T.K) (h : PE X o (tBM X.K "list" rAppend (tVar i) (tCons (TMe T π W m) tNil))) : PE X o (TMe T π W (ownLst i (mAppend i m))) := h.imp fun σ H Q ⟨A, F, ρ, k, p⟩ => by
  unfold ownLst at p
  split at p
  · rename_i io ds e
    obtain ⟨a, h1, h2⟩ := own_first hK k e
    refine ⟨.ref a, h1, h2, A, F, ρ, k, p.bind.imp fun y ρ1 F1 H1 k1 r1 p1 v rv => ?_⟩
    obtain ⟨io1, ds1, r, es, a1, vs, e1, ef, s1, h3, h4, q⟩ := mMut_inv p1 k1
    rw [h1] at s1
    cases s1
    by_cases hz : ds1.length < sizeLine
    · rw [if_pos hz] at ef
      cases ef
      exact ⟨a, vs, v, rfl, rfl, h3, by rw [h4.length]; exact hz, q _ (h4.append (.cons rv .nil)) _ .non⟩
    · rw [if_neg hz] at ef; cases ef
  · exact p.elim
theorem de_extend {i : Nat} (hK : X.K = T.K) (h : PE X o (tBM X.K "list" rExtend (tVar i) (tCons (TMn T π W m) tNil))) : PE X o (TMe T π W (ownLst i (mExtend i m))) := h.imp fun σ H Q ⟨A, F, ρ, k, p⟩ => by
  unfold ownLst at p
  split at p
  · rename_i io ds e
    obtain ⟨a, h1, h2⟩ := own_first hK k e
    refine ⟨.ref a, h1, h2, A, F, ρ, k, p.bind.imp fun y ρ1 F1 H1 k1 r1 p1 x h5 h6 h7 h8 _ => ?_⟩
    obtain ⟨io1, ds1, r, es, a1, vs, e1, ef, s1, h3, h4, q⟩ := mMut_inv p1 k1
    rw [h1] at s1
    cases s1
    cases y with
    | lst zs =>
      dsimp only at ef
      obtain ⟨ws, h9, h10⟩ := h8
      by_cases hz : ds1.length + zs.length ≤ sizeLine
      · rw [if_pos hz] at ef
        cases ef
        exact ⟨a, x, vs, ws, rfl, rfl, h3, h9, by rw [h4.length, h10.length]; exact hz, q _ (h4.append h10) _ .non⟩
      · rw [if_neg hz] at ef; cases ef
    | _ => cases ef
  · exact p.elim
end
end Dl
namespace Dl
open PySem PySem.Spec PyProof.Rows L2
section
variable {X : Cx} {T : Tx} {π : Nat → Option Pin} {W : WX} {a b c e o : Expr} {es : List Expr} {pos : Pos} {m ma mb mc : Mi Dt} {ms : Mi (List Dt)} {A A' : Addr → Prop} {F H F' H' F0 H0 : Hp} {σ : L2.St} {ρ : En}
theorem ops_pure {r : R2} {f : Dt → Dt → Option Dt} (h : ∀ F H v w d e z (Q : VK), Le F H → RepS T F H v d → RepS T F H w e → f d e = some z → (∀ u, Rep T F u z → Q u H) → r v w H Q) : OpS T r f :=
  fun π A F H σ ρ v w d e z Q k rv rw ef q => h F H v w d e z Q k.le rv rw ef fun u ru => q F H u k .refl ru
theorem uns_pure {r : V → Hp → VK → Prop} {f : Dt → Option Dt} (h : ∀ F H v d z (Q : VK), Le F H → RepS T F H v d → f d = some z → (∀ u, Rep T F u z → Q u H) → r v H Q) : UnS T r f :=
  fun π A F H σ ρ v d z Q k rv ef q => h F H v d z Q k.le rv ef fun u ru => q F H u k .refl ru
theorem RepS.int_inv {v : V} {i : Int} (h : RepS T F H v (.int i)) : v = .int i := (h.flat trivial).int_inv
theorem RepS.str_inv {v : V} {i : Str} (h : RepS T F H v (.str i)) : v = .str i := (h.flat trivial).str_inv
theorem RepS.bl_inv {v : V} {i : Bool} (h : RepS T F H v (.bl i)) : v = .bl i := (h.flat trivial).bl_inv
/-! ### whole numbers -/
def fI (g : Int → Int → Option Dt) : Dt → Dt → Option Dt
  | .int i, .int j => g i j
  | _, _ => none
theorem fI_inv {g : Int → Int → Option Dt} {d e z : Dt} (h : fI g d e = some z) : ∃ i j, d = .int i ∧ e = .int j ∧ g i j = some z := by
  unfold fI at h
  split at h
  · exact ⟨_, _, rfl, rfl, h⟩
  · cases h
theorem os_I0 {g : Int → Int → V} {gd : Int → Int → Dt} (hg : ∀ F i j, Rep T F (g i j) (gd i j)) : OpS T (rI0 g) (fI fun i j => some (gd i j)) := ops_pure fun F H v w d e z Q le rv rw ef q => by
  obtain ⟨i, j, rfl, rfl, h⟩ := fI_inv ef
  cases h
  exact ⟨i, j, rv.int_inv, rw.int_inv, q _ (hg F i j)⟩
theorem os_I {C : Int → Int → Prop} [∀ i j, Decidable (C i j)] {g : Int → Int → V} {gd : Int → Int → Dt} (hg : ∀ F i j, Rep T F (g i j) (gd i j)) : OpS T (rI C g) (fI fun i j => if C i j then some (gd i j) else none) := ops_pure fun F H v w d e z Q le rv rw ef q => by
  obtain ⟨i, j, rfl, rfl, h⟩ := fI_inv ef
  split at h
  · rename_i hc
    cases h
    exact ⟨i, j, rv.int_inv, rw.int_inv, hc, q _ (hg F i j)⟩
  · cases h
instance (i j : Int) : Decidable (CMul i j) := by unfold CMul; exact inferInstance
/-- // by a positive divisor below 2 ^ 100 -/
def CDivX (_ j : Int) : Prop := 0 < j ∧ j < 1267650600228229401496703205376
instance (i j : Int) : Decidable (CDivX i j) := by unfold CDivX; exact inferInstance
theorem CDivX.w {i j : Int} (h : CDivX i j) : CDivW i j := wide_div (b := 100) h.1 (by have h1 := h.1; have h2 := h.2; omega) (by decide) (by decide)
instance (i j : Int) : Decidable (CPow i j) := by unfold CPow; exact inferInstance
def fSub : Dt → Dt → Option Dt := fI fun i j => some (.int (i - j))
def fMulI : Dt → Dt → Option Dt := fI fun i j => if CMul i j then some (.int (i * j)) else none
def fDiv : Dt → Dt → Option Dt := fI fun i j => if CDivX i j then some (.int (i / j)) else none
def fMod : Dt → Dt → Option Dt := fI fun i j => if 0 < j then some (.int (i % j)) else none
def fPow : Dt → Dt → Option Dt := fI fun i j => if CPow i j then some (.int (i ^ j.toNat)) else none
def fLt : Dt → Dt → Option Dt := fI fun i j => some (.bl (decide (i < j)))
def fLe : Dt → Dt → Option Dt := fI fun i j => some (.bl (decide (i ≤ j)))
def fGt : Dt → Dt → Option Dt := fI fun i j => some (.bl (decide (j < i)))
def fGe : Dt → Dt → Option Dt := fI fun i j => some (.bl (decide (j ≤ i)))
theorem os_sub : OpS T (rI0 fun i j => .int (i - j)) fSub := os_I0 fun F i j => .int _
theorem os_mulI : OpS T (rI CMul fun i j => .int (i * j)) fMulI := os_I fun F i j => .int _
theorem rI_mono {C C' : Int → Int → Prop} {g : Int → Int → V} {x y : V} {H : Hp} {Q : VK} (hC : ∀ i j, C' i j → C i j) (h : rI C' g x y H Q) : rI C g x y H Q := by
  obtain ⟨i, j, h1, h2, h3, h4⟩ := h
  exact ⟨i, j, h1, h2, hC i j h3, h4⟩
theorem os_div : OpS T (rI CDivW fun i j => .int (i / j)) fDiv := fun π A F H σ ρ v w d e z Q k rv rw ef q => rI_mono (fun _ _ => CDivX.w) (os_I (T := T) (C := CDivX) (g := fun i j => .int (i / j)) (gd := fun i j => .int (i / j)) (fun F i j => .int _) π A F H σ ρ v w d e z Q k rv rw ef q)
theorem os_mod : OpS T (rI (fun _ j => 0 < j) fun i j => .int (i % j)) fMod := os_I fun F i j => .int _
theorem os_pow : OpS T (rI CPow fun i j => .int (i ^ j.toNat)) fPow := os_I fun F i j => .int _
theorem os_lt : OpS T (rI0 fun i j => .bl (decide (i < j))) fLt := os_I0 fun F i j => .bl _
theorem os_le : OpS T (rI0 fun i j => .bl (decide (i ≤ j))) fLe := os_I0 fun F i j => .bl _
theorem os_gt : OpS T (rI0 fun i j => .bl (decide (j < i))) fGt := os_I0 fun F i j => .bl _
theorem os_ge : OpS T (rI0 fun i j => .bl (decide (j ≤ i))) fGe := os_I0 fun F i j => .bl _
def fNeg : Dt → Option Dt
  | .int i => some (.int (-i))
  | _ => none
theorem us_neg : UnS T (rU fun i => .int (-i)) fNeg := uns_pure fun F H v d z Q le rv ef q => by
  cases d with
  | int i => cases ef; exact ⟨i, rv.int_inv, q _ (.int _)⟩
  | _ => cases ef
/-! ### + of numbers, texts, lists, tuples -/
def fAdd : Dt → Dt → Option Dt
  | .int i, .int j => some (.int (i + j))
  | .str x, .str y => if x.length + y.length ≤ sizeLine then some (.str (x ++ y)) else none
  | .lst xs, .lst ys => if xs.length + ys.length ≤ sizeLine then some (.lst (xs ++ ys)) else none
  | .tup xs, .tup ys => if xs.length + ys.length ≤ sizeLine then some (.tup (xs ++ ys)) else none
  | _, _ => none
def rAddS : R2 := fun x y H Q => ∃ i j, x = V.str i ∧ y = V.str j ∧ i.length + j.length ≤ sizeLine ∧ Q (.str (i ++ j)) H
def rAdd (K : PySem.W.Frag) : R2 := fun x y H Q => rI0 (fun i j => .int (i + j)) x y H Q ∨ (rAddS x y H Q ∨ (rCat x y H Q ∨ rCatA K x y H Q))
theorem op_addA : OpR X (binaryOp .Add) (rAdd X.K) := OpR.or op_add (OpR.or op_add_str (OpR.or op_cat op_catA))
theorem RepS.lst_inv {v : V} {ds : List Dt} (r : RepS T F H v (.lst ds)) (le : Le F H) : ∃ a vs, v = .ref a ∧ H a = some (.lst vs) ∧ Reps T F vs ds := by
  rcases r with r | ⟨a, e, vs, h, r⟩
  · cases r with
    | lst h r => exact ⟨_, _, rfl, le _ _ h, r⟩
  · exact ⟨a, vs, e, h, r⟩
theorem os_add : OpS T (rAdd T.K) fAdd := fun π A F H σ ρ v w d e z Q k rv rw ef q => by
  unfold fAdd at ef
  split at ef
  · cases ef
    exact .inl ⟨_, _, rv.int_inv, rw.int_inv, q F H _ k .refl (.int _)⟩
  · split at ef
    · cases ef
      exact .inr (.inl ⟨_, _, rv.str_inv, rw.str_inv, by assumption, q F H _ k .refl (.str _)⟩)
    · cases ef
  · split at ef
    · rename_i hz
      cases ef
      obtain ⟨a, vs, e1, h1, r1⟩ := rv.lst_inv k.le
      obtain ⟨b, ws, e2, h2, r2⟩ := rw.lst_inv k.le
      refine .inr (.inr (.inl ⟨a, b, vs, ws, e1, e2, h1, h2, by rw [r1.length, r2.length]; exact hz, fun p hp => ?_⟩))
      exact q (upd F p (.lst (vs ++ ws))) _ (.ref p) (k.new hp) (.new k.le hp) (.lst upd_same ((r1.append r2).mono (le_new (f_none k.le hp))))
    · cases ef
  · rename_i xs ys
    split at ef
    · rename_i hz
      cases ef
      have rv' := rv.flat trivial
      have rw' := rw.flat trivial
      obtain ⟨a, vs, e1, h1, r1⟩ := rv'.tup_inv
      obtain ⟨b, ws, e2, h2, r2⟩ := rw'.tup_inv
      refine .inr (.inr (.inr ⟨a, b, vs, ws, e1, e2, sqt_mono k.le h1, sqt_mono k.le h2, by rw [r1.length, r2.length]; exact hz, fun z => ?_, fun z1 z2 => ?_, fun z1 z2 p hp => ?_⟩))
      · subst z
        cases r1
        exact q F H _ k .refl (by rw [← e2]; exact rw')
      · subst z2
        cases r2
        rw [List.append_nil] at q
        exact q F H _ k .refl (by rw [← e1]; exact rv')
      · exact q (upd F p (.tup (vs ++ ws))) _ (.ref p) (k.new hp) (.new k.le hp) (.tup upd_same ((r1.append r2).mono (le_new (f_none k.le hp))))
    · cases ef
  · cases ef
/-! ### == -/
mutual
def toPy : Dt → Option PyData
  | .non => some .none
  | .bl b => some (.bool b)
  | .int i => some (.int i)
  | .str x => some (.str x)
  | .lst xs => (toPys xs).map .list
  | .tup xs => (toPys xs).map .tuple
  | _ => none
def toPys : List Dt → Option (List PyData)
  | [] => some []
  | d :: ds => match toPy d, toPys ds with
    | some p, some ps => some (p :: ps)
    | _, _ => none
end
mutual
theorem dp_of (le : Le F H) : ∀ {d : Dt} {v : V} {p : PyData}, Rep T F v d → toPy d = some p → Dp T.K H v p
  | .non, _, _, r, e => by cases r; cases e; exact .non
  | .bl _, _, _, r, e => by cases r; cases e; exact .bl _
  | .int _, _, _, r, e => by cases r; cases e; exact .int _
  | .str _, _, _, r, e => by cases r; cases e; exact .str _
  | .ty _, _, _, r, e => by cases e
  | .scr _, _, _, r, e => by cases e
  | .dic _ _ _, _, _, r, e => by cases e
  | .ins _ _, _, _, r, e => by cases e
  | .lst xs, _, _, r, e => by
    cases r with
    | lst h rs =>
      unfold toPy at e
      cases q : toPys xs with
      | none => rw [q] at e; cases e
      | some ps => rw [q] at e; cases e; exact .lst (SqL.of (le _ _ h)) (dps_of le rs q)
  | .tup xs, _, _, r, e => by
    obtain ⟨a, vs, ev, h, rs⟩ := r.tup_inv
    subst ev
    unfold toPy at e
    cases q : toPys xs with
    | none => rw [q] at e; cases e
    | some ps => rw [q] at e; cases e; exact .tup (sqt_mono le h) (dps_of le rs q)
theorem dps_of (le : Le F H) : ∀ {ds : List Dt} {vs : List V} {ps : List PyData}, Reps T F vs ds → toPys ds = some ps → DpAll T.K H vs ps
  | [], _, _, r, e => by cases r; cases e; exact .nil
  | d :: ds, _, _, r, e => by
    cases r with
    | cons r rs =>
      unfold toPys at e
      cases q : toPy d with
      | none => rw [q] at e; cases e
      | some p =>
        cases q2 : toPys ds with
        | none => rw [q, q2] at e; cases e
        | some ps => rw [q, q2] at e; cases e; exact .cons (dp_of le r q) (dps_of le rs q2)
end
theorem dp_ofS (le : Le F H) {d : Dt} {v : V} {p : PyData} (r : RepS T F H v d) (e : toPy d = some p) : Dp T.K H v p := by
  rcases r with r | ⟨a, ev, ho⟩
  · exact dp_of le r e
  · subst ev
    cases d with
    | lst xs =>
      obtain ⟨vs, h, rs⟩ := ho
      unfold toPy at e
      cases q : toPys xs with
      | none => rw [q] at e; cases e
      | some ps => rw [q] at e; cases e; exact .lst (SqL.of h) (dps_of le rs q)
    | _ => first | exact ho.elim | cases e
def dEq (d e : Dt) : Option Bool := match toPy d, toPy e with
  | some p, some q => if SeqAt.shaped p && SeqAt.shaped q then some (PyData.eqv p q) else none
  | _, _ => none
def fEq (d e : Dt) : Option Dt := (dEq d e).map .bl
def fNe (d e : Dt) : Option Dt := (dEq d e).map fun b => .bl (!b)
theorem dEq_inv {d e : Dt} {b : Bool} (h : dEq d e = some b) : ∃ p q, toPy d = some p ∧ toPy e = some q ∧ SeqAt.shaped p = true ∧ SeqAt.shaped q = true ∧ PyData.eqv p q = b := by
  unfold dEq at h
  split at h
  · rename_i p q e1 e2
    split at h
    · rename_i hs
      cases h
      exact ⟨p, q, e1, e2, (Bool.and_eq_true_iff.mp hs).1, (Bool.and_eq_true_iff.mp hs).2, rfl⟩
    · cases h
  · cases h
theorem os_eq : OpS T (rEqD T.K) fEq := ops_pure fun F H v w d e z Q le rv rw ef q => by
  unfold fEq at ef
  cases h : dEq d e with
  | none => rw [h] at ef; cases ef
  | some b =>
    rw [h] at ef
    cases ef
    obtain ⟨p, p', h1, h2, h3, h4, h5⟩ := dEq_inv h
    subst h5
    exact ⟨p, p', dp_ofS le rv h1, dp_ofS le rw h2, h3, h4, q _ (.bl _)⟩
theorem os_ne : OpS T (rNeD T.K) fNe := ops_pure fun F H v w d e z Q le rv rw ef q => by
  unfold fNe at ef
  cases h : dEq d e with
  | none => rw [h] at ef; cases ef
  | some b =>
    rw [h] at ef
    cases ef
    obtain ⟨p, p', h1, h2, h3, h4, h5⟩ := dEq_inv h
    subst h5
    exact ⟨p, p', dp_ofS le rv h1, dp_ofS le rw h2, h3, h4, q _ (.bl _)⟩
/-- a < b < c -/
def mChain (f g : Dt → Dt → Option Dt) (ma mb mc : Mi Dt) : Mi Dt := mBind ma fun x => mBind mb fun y => mBind (mOpt (f x y)) fun z => match z with
  | .bl true => mBind mc fun w => mOpt (g y w)
  | .bl false => mPure (.bl false)
  | _ => mBad
theorem dt_chain {r r' : R2} {f g : Dt → Dt → Option Dt} (h : PT X e (tTest (tChain r r' (TMe T π W ma) (TMe T π W mb) (TMp T π W mc)))) (hs : OpS T r f) (hs' : OpS T r' g) : PT X e (TMt T π W (mB (mChain f g ma mb mc))) := h.imp fun σ H Q ⟨A, F, ρ, k, p⟩ => by
  have p' := p.bind
  refine ⟨A, F, ρ, k, p'.bind.imp fun x ρ1 F1 H1 k1 r1 p1 v rv => ⟨A, F1, ρ1, k1, p1.bind.imp fun y ρ2 F2 H2 k2 r2 p2 w rw => ?_⟩⟩
  obtain ⟨z, ez, p3⟩ := p2.bind.opt
  refine hs π A F2 H2 σ ρ2 v w x y z _ k2 (rv.mono r2.f).s rw.s ez fun F' H' u k' r' ru => ?_
  have p4 := p3 F' H' k' r'
  cases z with
  | bl b =>
    refine ⟨b, ru.bl_inv, ?_⟩
    cases b with
    | false => exact iteF ⟨false, rfl, p4.pure k' |>.pure k'⟩
    | true =>
      refine iteT ⟨A, F', ρ2, k', p4.bind.imp fun t ρ3 F3 H3 k3 r3 p5 w' rw' => ?_⟩
      obtain ⟨z2, ez2, p6⟩ := p5.opt
      refine hs' π A F3 H3 σ ρ3 w w' y t z2 _ k3 ((rw.mono r'.f).mono r3.f).s rw' ez2 fun F4 H4 u2 k4 r4 ru2 => ?_
      have p7 := p6 F4 H4 k4 r4
      cases z2 with
      | bl b2 => exact ⟨b2, ru2.bl_inv, p7.pure k4⟩
      | _ => exact p7.elim
  | _ => exact p4.elim
/-! ### subscripts -/
theorem RepS.scr_inv {v : V} {ns : List Int} (r : RepS T F H v (.scr ns)) (le : Le F H) : ∃ a, v = .ref a ∧ SqL T.K H a (ns.map V.int) := by
  cases r.flat trivial with
  | scr h => exact ⟨_, rfl, sql_mono le h⟩
def fIx : Dt → Dt → Option Dt
  | .scr ns, .int i => (atI ns i).map .int
  | .lst xs, .int i => atI xs i
  | .tup xs, .int i => atI xs i
  | .str z, .int i => if z.length ≤ sizeLine then (atI z.cps.toList i).map fun c => .str ⟨#[c]⟩ else none
  | _, _ => none
theorem Reps.at {vs : List V} {ds : List Dt} {i : Int} {d : Dt} (r : Reps T F vs ds) (h : atI ds i = some d) : ∃ v, atI vs i = some v ∧ Rep T F v d := by
  unfold atI at h ⊢
  rw [r.length]
  cases q : ixN ds.length i with
  | none => rw [q] at h; cases h
  | some j =>
    rw [q] at h
    exact r.get h
theorem at_map {α β : Type} (f : α → β) (l : List α) (i : Int) : atI (l.map f) i = (atI l i).map f := by
  unfold atI
  rw [List.length_map]
  cases ixN l.length i with
  | none => rfl
  | some j => simp
theorem os_ix : OpS T (rIx T.K) fIx := ops_pure fun F H v w d e z Q le rv rw ef q => by
  unfold fIx at ef
  split at ef
  · rename_i ns i
    cases h : atI ns i with
    | none => rw [h] at ef; cases ef
    | some j =>
      rw [h] at ef
      cases ef
      obtain ⟨p, e1, hl⟩ := rv.scr_inv le
      exact .inl ⟨p, _, _, .int j, e1, rw.int_inv, hl, by rw [at_map, h]; rfl, q _ (.int _)⟩
  · obtain ⟨p, vs, e1, _, r, hl, _⟩ := rv.seq le (.inl rfl)
    obtain ⟨u, h1, h2⟩ := r.at ef
    exact .inl ⟨p, vs, _, u, e1, rw.int_inv, hl rfl, h1, q u h2⟩
  · obtain ⟨p, vs, e1, _, r, _, hl⟩ := rv.seq le (.inr rfl)
    obtain ⟨u, h1, h2⟩ := r.at ef
    exact .inr (.inl ⟨p, vs, _, u, e1, rw.int_inv, hl rfl, h1, q u h2⟩)
  · rename_i s i
    split at ef
    · rename_i hz
      cases h : atI s.cps.toList i with
      | none => rw [h] at ef; cases ef
      | some c =>
        rw [h] at ef
        cases ef
        exact .inr (.inr ⟨s, i, c, rv.str_inv, rw.int_inv, hz, h, q _ (.str _)⟩)
    · cases ef
  · cases ef
/-- o[i], o a name that may hold its own object: it is read behind i -/
def mIxV (i : Nat) (m : Mi Dt) : Mi Dt := mBind m fun y => mBind (mPeek i) fun x => mOpt (fIx x y)
theorem mPeek_inv {i : Nat} {P : Dt → En → Hp → Hp → Prop} (p : Post T π W σ A F H P (mPeek i ρ)) (k : Ok T π A F H σ ρ) : ∃ d v, σ[i]? = some (some v) ∧ RepS T F H v d ∧ P d ρ F H := by
  unfold mPeek at p
  split at p
  · rename_i d e
    obtain ⟨v, h1, h2⟩ := k.val i d e
    exact ⟨d, v, h1, h2.s, p F H k .refl⟩
  · rename_i io d e
    obtain ⟨a, h1, h2, h3, _⟩ := k.own i io d e
    exact ⟨d, .ref a, h1, .inr ⟨a, rfl, h3⟩, p F H k .refl⟩
  · exact p.elim
def hasSl (i : Nat) (m : Mi Dt) : Mi Dt := fun ρ => match ρ[i]? with
  | some (some _) => m ρ
  | _ => .bad
theorem de_ixV {i : Nat} (h : PE X e (tOp (rIx T.K) (tVar i) (TMe T π W m))) : PE X e (TMe T π W (hasSl i (mIxV i m))) := h.imp fun σ H Q ⟨A, F, ρ, k, p⟩ => by
  unfold hasSl at p
  split at p
  · rename_i s es
    have hv : ∃ v, σ[i]? = some (some v) := by
      cases s with
      | val d => obtain ⟨v, h1, _⟩ := k.val i d es; exact ⟨v, h1⟩
      | own io d => obtain ⟨a, h1, _⟩ := k.own i io d es; exact ⟨_, h1⟩
    obtain ⟨v, hv⟩ := hv
    refine ⟨v, hv, A, F, ρ, k, p.bind.imp fun y ρ1 F1 H1 k1 r1 p1 w rw => ?_⟩
    obtain ⟨d, v', h1, h2, p2⟩ := mPeek_inv p1.bind k1
    rw [hv] at h1
    cases h1
    obtain ⟨z, ez, p3⟩ := p2.opt
    exact os_ix π A F1 H1 σ ρ1 v w d y z Q k1 h2 rw.s ez fun F' H' u k' r' ru => p3 F' H' k' r' u ru
  · exact p.elim
/-! ### built-in functions of one argument -/
def CaS (T : Tx) (r : List V → Hp → VK → Prop) (f : Dt → Option Dt) : Prop := UnS T (fun v H Q => r [v] H Q) f
theorem de_call1 {r : List V → Hp → VK → Prop} {f : Dt → Option Dt} (h : PE X e (tCB r (tCons (TMp T π W m) tNil))) (hs : CaS T r f) : PE X e (TMe T π W (m1 f m)) := h.imp fun σ H Q ⟨A, F, ρ, k, p⟩ => ⟨A, F, ρ, k, p.bind.imp fun x ρ1 F1 H1 k1 r1 p1 v rv => by
  obtain ⟨z, ez, p3⟩ := p1.opt
  exact hs π A F1 H1 σ ρ1 v x z Q k1 rv ez fun F' H' u k' r' ru => p3 F' H' k' r' u ru⟩
/-- .. that make a new list -/
def CaN (T : Tx) (r : List V → Hp → VK → Prop) (f : Dt → Option (List Dt)) : Prop := ∀ (F H : Hp) (v : V) (d : Dt) (es : List Dt) (Q : VK), Le F H → RepS T F H v d → f d = some es → (∀ p vs, H p = none → Reps T F vs es → Q (.ref p) (upd H p (.lst vs))) → r [v] H Q
def m1N (f : Dt → Option (List Dt)) (m : Mi Dt) : Mi Dt := mBind m fun x => mOpt ((f x).map .lst)
theorem dn_call1 {r : List V → Hp → VK → Prop} {f : Dt → Option (List Dt)} (h : PE X e (tCB r (tCons (TMp T π W m) tNil))) (hs : CaN T r f) : PE X e (TMn T π W (m1N f m)) := h.imp fun σ H Q ⟨A, F, ρ, k, p⟩ => ⟨A, F, ρ, k, p.bind.imp fun x ρ1 F1 H1 k1 r1 p1 v rv => by
  obtain ⟨z, ez, p3⟩ := p1.opt
  cases q : f x with
  | none => rw [q] at ez; cases ez
  | some es =>
    rw [q] at ez
    cases ez
    exact hs F1 H1 v x es Q k1.le rv q fun x vs hx rs => p3 F1 (upd H1 x (.lst vs)) (k1.newO hx) (.newO hx) x (f_none k1.le hx) (k1.fresh_new hx) (r1.t x hx) ⟨vs, upd_same, rs⟩ (fun _ z => nomatch z)⟩
def fLen : Dt → Option Dt
  | .scr ns => some (.int ns.length)
  | .lst xs => some (.int xs.length)
  | .tup xs => some (.int xs.length)
  | .str z => if z.length ≤ sizeLine then some (.int z.length) else none
  | .dic false ks _ => some (.int ks.length)
  | _ => none
def rLenA (K : PySem.W.Frag) : List V → Hp → VK → Prop := fun xs H Q => (∃ p ys, xs = [.ref p] ∧ (SqL K H p ys ∨ SqT K H p ys) ∧ Q (.int ys.length) H) ∨ (∃ z, xs = [.str z] ∧ z.length ≤ sizeLine ∧ Q (.int z.length) H) ∨ (∃ a kvs, xs = [V.ref a] ∧ H a = some (.dK kvs) ∧ Q (.int kvs.length) H)
theorem cr_lenA : CallR X (.builtin "len") (rLenA X.K) := CallR.or call_len_seq (CallR.or call_len_str call_lenD)
theorem RepS.dicK_inv {v : V} {ks ds : List Dt} (r : RepS T F H v (.dic false ks ds)) (le : Le F H) : ∃ (a : Addr) (kk : List Key) (vs : List V), v = .ref a ∧ H a = some (.dK (kk.zip vs)) ∧ kk.length = vs.length ∧ ks = kk.map kD ∧ Reps T F vs ds := by
  rcases r with r | ⟨a, ev, kk, vs, h1, h2, h3, h4⟩
  · cases r with
    | dicK h l r => exact ⟨_, _, _, rfl, le _ _ h, l, rfl, r⟩
  · exact ⟨a, kk, vs, ev, h1, h2, h3, h4⟩
theorem cs_len : CaS T (rLenA T.K) fLen := uns_pure fun F H v d z Q le rv ef q => by
  unfold fLen at ef
  split at ef
  · cases ef
    obtain ⟨p, e1, hl⟩ := rv.scr_inv le
    exact .inl ⟨p, _, by rw [e1], .inl hl, q _ (by rw [List.length_map]; exact .int _)⟩
  · cases ef
    obtain ⟨p, vs, e1, h, r, _⟩ := rv.seq le (.inl rfl)
    exact .inl ⟨p, vs, by rw [e1], h, q _ (by rw [r.length]; exact .int _)⟩
  · cases ef
    obtain ⟨p, vs, e1, h, r, _⟩ := rv.seq le (.inr rfl)
    exact .inl ⟨p, vs, by rw [e1], h, q _ (by rw [r.length]; exact .int _)⟩
  · split at ef
    · cases ef
      exact .inr (.inl ⟨_, by rw [rv.str_inv], by assumption, q _ (.int _)⟩)
    · cases ef
  · cases ef
    obtain ⟨a, kk, vs, e1, h1, h2, h3, h4⟩ := rv.dicK_inv le
    refine .inr (.inr ⟨a, _, by rw [e1], h1, q _ ?_⟩)
    rw [List.length_zip, ← h2, Nat.min_self, h3, List.length_map]
    exact .int _
  · cases ef
/-- tuple(x) -/
def fTuple : Dt → Option Dt
  | .lst xs => some (.tup xs)
  | .tup xs => some (.tup xs)
  | _ => none
theorem cs_tuple : CaS T (fun xs H Q => ∃ p ys, xs = [V.ref p] ∧ ((SqL T.K H p ys ∧ ∀ l, H l = none → Q (.ref l) (upd H l (.tup ys))) ∨ (SqT T.K H p ys ∧ Q (.ref p) H))) fTuple := fun π A F H σ ρ v d z Q k rv ef q => by
  unfold fTuple at ef
  split at ef
  · cases ef
    obtain ⟨p, vs, e1, h, r, hl, _⟩ := rv.seq k.le (.inl rfl)
    refine ⟨p, vs, by rw [e1], .inl ⟨hl rfl, fun l hl => ?_⟩⟩
    exact q (upd F l (.tup vs)) (upd H l (.tup vs)) (.ref l) (k.new hl) (.new k.le hl) (.tup upd_same (r.mono (le_new (f_none k.le hl))))
  · cases ef
    have rv' := rv.flat trivial
    obtain ⟨p, vs, e1, h, r⟩ := rv'.tup_inv
    exact ⟨p, vs, by rw [e1], .inr ⟨sqt_mono k.le h, q F H (.ref p) k .refl (by rw [← e1]; exact rv')⟩⟩
  · cases ef
/-- lists of whole numbers -/
def intsOf : List Dt → Option (List Int)
  | [] => some []
  | .int i :: ds => (intsOf ds).map (i :: ·)
  | _ => none
theorem ints_inv : ∀ {ds : List Dt} {ns : List Int}, intsOf ds = some ns → ds = ns.map .int
  | [], ns, h => by cases h; rfl
  | .int i :: ds, ns, h => by
    unfold intsOf at h
    cases q : intsOf ds with
    | none => rw [q] at h; cases h
    | some r => rw [q] at h; cases h; rw [ints_inv q]; rfl
  | .non :: _, _, h => by cases h
  | .bl _ :: _, _, h => by cases h
  | .str _ :: _, _, h => by cases h
  | .ty _ :: _, _, h => by cases h
  | .scr _ :: _, _, h => by cases h
  | .lst _ :: _, _, h => by cases h
  | .tup _ :: _, _, h => by cases h
  | .dic _ _ _ :: _, _, h => by cases h
  | .ins _ _ :: _, _, h => by cases h
theorem reps_ints : ∀ {ns : List Int} {vs : List V}, Reps T F vs (ns.map .int) → vs = ns.map V.int
  | [], _, r => by cases r; rfl
  | i :: ns, _, r => by
    cases r with
    | cons h rs => rw [h.int_inv, reps_ints rs]; rfl
theorem ints_reps : ∀ (ns : List Int), Reps T F (ns.map V.int) (ns.map .int)
  | [] => .nil
  | i :: ns => .cons (.int i) (ints_reps ns)
def insI (x : Int) : List Int → List Int
  | [] => [x]
  | y :: r => if x ≤ y then x :: y :: r else y :: insI x r
def sortI : List Int → List Int
  | [] => []
  | x :: r => insI x (sortI r)
theorem insI_perm (x : Int) : ∀ l, (insI x l).Perm (x :: l)
  | [] => List.Perm.refl _
  | y :: r => by
    unfold insI
    split
    · exact List.Perm.refl _
    · exact ((insI_perm x r).cons y).trans (List.Perm.swap x y r)
theorem sortI_perm : ∀ l, (sortI l).Perm l
  | [] => List.Perm.refl _
  | x :: r => (insI_perm x (sortI r)).trans ((sortI_perm r).cons x)
theorem insI_sorted (x : Int) : ∀ {l : List Int}, l.Pairwise (· ≤ ·) → (insI x l).Pairwise (· ≤ ·)
  | [], _ => by simp [insI]
  | y :: r, h => by
    rw [List.pairwise_cons] at h
    unfold insI
    split
    · rename_i hxy
      rw [List.pairwise_cons, List.pairwise_cons]
      exact ⟨fun z hz => by
        cases hz with
        | head => exact hxy
        | tail _ hz => exact Int.le_trans hxy (h.1 z hz), h⟩
    · rename_i hxy
      rw [List.pairwise_cons]
      refine ⟨fun z hz => ?_, insI_sorted x h.2⟩
      have := (insI_perm x r).mem_iff.mp hz
      cases this with
      | head => omega
      | tail _ hz => exact h.1 z hz
theorem sortI_sorted : ∀ l : List Int, (sortI l).Pairwise (· ≤ ·)
  | [] => .nil
  | x :: r => insI_sorted x (sortI_sorted r)
theorem sorted_unique : ∀ {l m : List Int}, l.Perm m → l.Pairwise (· ≤ ·) → m.Pairwise (· ≤ ·) → l = m
  | [], m, p, _, _ => p.nil_eq
  | x :: r, [], p, _, _ => by have := p.length_eq; simp at this
  | x :: r, y :: s, p, h1, h2 => by
    rw [List.pairwise_cons] at h1 h2
    have e : x = y := by
      have hx : x ∈ y :: s := p.mem_iff.mp List.mem_cons_self
      have hy : y ∈ x :: r := p.mem_iff.mpr List.mem_cons_self
      have a : y ≤ x := by
        cases hx with
        | head => exact Int.le_refl _
        | tail _ hx => exact h2.1 x hx
      have b : x ≤ y := by
        cases hy with
        | head => exact Int.le_refl _
        | tail _ hy => exact h1.1 y hy
      omega
    subst e
    rw [sorted_unique (List.Perm.cons_inv p) h1.2 h2.2]
def fSorted : Dt → Option (List Dt)
  | .lst xs => (intsOf xs).map fun ns => (sortI ns).map .int
  | _ => none
theorem cn_sorted : CaN T (rSortedI T.K) fSorted := fun F H v d es Q le rv ef q => by
  cases d with
  | lst xs =>
    unfold fSorted at ef
    dsimp only at ef
    cases hq : intsOf xs with
    | none => rw [hq] at ef; cases ef
    | some ns =>
      rw [hq] at ef
      cases ef
      have ex := ints_inv hq
      subst ex
      obtain ⟨p, vs, e1, _, r, hl, _⟩ := rv.seq le (.inl rfl)
      have ev := reps_ints r
      subst ev
      refine ⟨p, ns, by rw [e1], hl rfl, fun ns' x hp hs hx => ?_⟩
      have e2 : ns' = sortI ns := sorted_unique (hp.trans (sortI_perm ns).symm) hs (sortI_sorted ns)
      subst e2
      exact q x _ hx (ints_reps _)
  | _ => cases ef
def maxI : List Int → Option Int
  | [] => none
  | x :: r => some (r.foldl (fun a b => if a < b then b else a) x)
theorem maxI_ok {l : List Int} {m : Int} (h : maxI l = some m) : m ∈ l ∧ ∀ y ∈ l, y ≤ m := by
  cases l with
  | nil => cases h
  | cons x r =>
    cases h
    have gen : ∀ (r : List Int) (x : Int), (r.foldl (fun a b => if a < b then b else a) x) ∈ x :: r ∧ ∀ y ∈ x :: r, y ≤ r.foldl (fun a b => if a < b then b else a) x := by
      intro r
      induction r with
      | nil => intro x; simp
      | cons z r ih =>
        intro x
        rw [List.foldl_cons]
        obtain ⟨h1, h2⟩ := ih (if x < z then z else x)
        refine ⟨?_, fun y hy => ?_⟩
        · rcases List.mem_cons.mp h1 with h1 | h1
          · rw [h1]; split <;> simp
          · simp [h1]
        · have hm := h2 (if x < z then z else x) List.mem_cons_self
          have hm2 : x ≤ (if x < z then z else x) ∧ z ≤ (if x < z then z else x) := by
            by_cases q : x < z
            · rw [if_pos q]; omega
            · rw [if_neg q]; omega
          rcases List.mem_cons.mp hy with e | hy
          · rw [e]; exact Int.le_trans hm2.1 hm
          · rcases List.mem_cons.mp hy with e | hy
            · rw [e]; exact Int.le_trans hm2.2 hm
            · exact h2 y (List.mem_cons_of_mem _ hy)
    exact gen r x
def fInts (g : List Int → Option Int) : Dt → Option Dt
  | .lst xs => (intsOf xs).bind fun ns => (g ns).map .int
  | _ => none
theorem fInts_inv {g : List Int → Option Int} {d z : Dt} {v : V} (le : Le F H) (rv : RepS T F H v d) (h : fInts g d = some z) : ∃ p ns m, v = .ref p ∧ SqL T.K H p (ns.map V.int) ∧ g ns = some m ∧ z = .int m ∧ d = .lst (ns.map .int) := by
  cases d with
  | lst xs =>
    unfold fInts at h
    dsimp only at h
    cases hq : intsOf xs with
    | none => rw [hq] at h; cases h
    | some ns =>
      rw [hq] at h
      have h' : (g ns).map Dt.int = some z := h
      cases hg : g ns with
      | none => rw [hg] at h'; cases h'
      | some m =>
        rw [hg] at h'
        cases h'
        have ex := ints_inv hq
        subst ex
        obtain ⟨p, vs, e1, _, r, hl, _⟩ := rv.seq le (.inl rfl)
        have ev := reps_ints r
        subst ev
        exact ⟨p, ns, m, e1, hl rfl, hg, rfl, rfl⟩
  | _ => cases h
def fMax : Dt → Option Dt := fInts maxI
theorem cs_max : CaS T (rMax T.K) fMax := uns_pure fun F H v d z Q le rv ef q => by
  obtain ⟨p, ns, m, e1, h1, h2, e2, _⟩ := fInts_inv le rv ef
  subst e1 e2
  refine ⟨p, ns, rfl, h1, ?_, fun m' hm hle => ?_⟩
  · cases ns with
    | nil => cases h2
    | cons _ _ => simp
  · obtain ⟨a1, a2⟩ := maxI_ok h2
    have e3 : m' = m := by
      have := a2 m' hm
      have := hle m a1
      omega
    rw [e3]
    exact q _ (.int _)
def blsOf : List Dt → Option (List Bool)
  | [] => some []
  | .bl i :: ds => (blsOf ds).map (i :: ·)
  | _ => none
theorem bls_inv : ∀ {ds : List Dt} {ns : List Bool}, blsOf ds = some ns → ds = ns.map .bl
  | [], ns, h => by cases h; rfl
  | .bl i :: ds, ns, h => by
    unfold blsOf at h
    cases q : blsOf ds with
    | none => rw [q] at h; cases h
    | some r => rw [q] at h; cases h; rw [bls_inv q]; rfl
  | .non :: _, _, h => by cases h
  | .int _ :: _, _, h => by cases h
  | .str _ :: _, _, h => by cases h
  | .ty _ :: _, _, h => by cases h
  | .scr _ :: _, _, h => by cases h
  | .lst _ :: _, _, h => by cases h
  | .tup _ :: _, _, h => by cases h
  | .dic _ _ _ :: _, _, h => by cases h
  | .ins _ _ :: _, _, h => by cases h
theorem reps_bls : ∀ {ns : List Bool} {vs : List V}, Reps T F vs (ns.map .bl) → vs = ns.map V.bl
  | [], _, r => by cases r; rfl
  | i :: ns, _, r => by
    cases r with
    | cons h rs => rw [h.bl_inv, reps_bls rs]; rfl
def fBls (g : List Bool → Bool) : Dt → Option Dt
  | .lst xs => (blsOf xs).map fun ns => .bl (g ns)
  | _ => none
theorem fBls_inv {g : List Bool → Bool} {d z : Dt} {v : V} (le : Le F H) (rv : RepS T F H v d) (h : fBls g d = some z) : ∃ p ns, v = .ref p ∧ SqL T.K H p (ns.map V.bl) ∧ z = .bl (g ns) := by
  cases d with
  | lst xs =>
    unfold fBls at h
    dsimp only at h
    cases hq : blsOf xs with
    | none => rw [hq] at h; cases h
    | some ns =>
      rw [hq] at h
      cases h
      have ex := bls_inv hq
      subst ex
      obtain ⟨p, vs, e1, _, r, hl, _⟩ := rv.seq le (.inl rfl)
      have ev := reps_bls r
      subst ev
      exact ⟨p, ns, e1, hl rfl, rfl⟩
  | _ => cases h
def fAll : Dt → Option Dt := fBls fun bs => bs.all id
theorem cs_all : CaS T (rAll T.K) fAll := uns_pure fun F H v d z Q le rv ef q => by
  obtain ⟨p, ns, e1, h1, e2⟩ := fBls_inv le rv ef
  subst e1 e2
  exact ⟨p, ns, rfl, h1, q _ (.bl _)⟩
def fInt : Dt → Option Dt
  | .int i => some (.int i)
  | .bl b => some (.int (if b then 1 else 0))
  | _ => none
theorem cs_int : CaS T (fun xs H Q => (∃ i, xs = [V.int i] ∧ Q (.int i) H) ∨ ∃ k, xs = [V.bl k] ∧ Q (.int (if k then 1 else 0)) H) fInt := uns_pure fun F H v d z Q le rv ef q => by
  unfold fInt at ef
  split at ef
  · cases ef; exact .inl ⟨_, by rw [rv.int_inv], q _ (.int _)⟩
  · cases ef; exact .inr ⟨_, by rw [rv.bl_inv], q _ (.int _)⟩
  · cases ef
def fAbs : Dt → Option Dt
  | .int i => some (.int (if i < 0 then -i else i))
  | _ => none
theorem cs_abs : CaS T (fun xs H Q => ∃ i, xs = [V.int i] ∧ Q (.int (if i < 0 then -i else i)) H) fAbs := uns_pure fun F H v d z Q le rv ef q => by
  unfold fAbs at ef
  split at ef
  · cases ef; exact ⟨_, by rw [rv.int_inv], q _ (.int _)⟩
  · cases ef
end
end Dl
namespace Dl
open PySem PySem.Spec PyProof.Rows L2
/-! ### enumerate of a tuple -/
abbrev tupItO (t : Addr) : Obj := { cls := .type "tuple_iterator", data := .fields #[.ref t, .int 0 0] }
abbrev enumO (i : Addr) : Obj := { cls := .type "enumerate", data := .fields #[.none, .bool false, .ref i, rawInt 0, .none, .none] }
open AutoSeq1 (wpAny_loadPart') in
theorem meets_enumT (t : Addr) (items : Array Value) (n : Nat) (dd : Option Addr) (sl : Array (Option Value)) :
    Meets (Builtin.«enumerate.__new__» ⟨[.type "enumerate", .ref t], []⟩) (fun _ R s => s.heap.get? t = some { cls := .type "tuple", dict := dd, data := .seq items n, slots := sl } ∧
      R (.ok (.ret (.ref (s.heap.push (tupItO t)).objs.size))) { s with heap := (s.heap.push (tupItO t)).push (enumO s.heap.objs.size) }) :=
  .of_wp fun prog w A R s h => by
    obtain ⟨hp, g, d, tk, os⟩ := s; obtain ⟨hl, h⟩ := h
    have sb := sub_enumerate
    have hT : Heap.IsTuple (Shared.heap ⟨hp, g, d, tk, os⟩) t items := ⟨_, hl, rfl, n, rfl⟩
    wp_walk using wpAny_loadPart' hl
    refine wpAny_stack_any fun _ => wpAny_pure ?_; split
    · rename_i c _ _ _ _ _; cases (c == Value.type "enumerate") <;> (wp_walk using wpAny_loadPart' hl, wpAny_pyIter_tuple hT; exact ⟨_, rfl, h⟩)
    · wp_walk using wpAny_loadPart' hl, wpAny_pyIter_tuple hT; exact ⟨_, rfl, h⟩
theorem call_enumT {prog : Program} {w : World} {A : Around} {E : Value → Shared → Prop} {s : Shared} {t : Addr} {items : Array Value} {Q : Value → Shared → Prop} (hT : s.heap.IsTuple t items)
    (h : ∀ h', IsEnum h' (s.heap.objs.size + 1) s.heap.objs.size 0 .none → h'.IsTupleIter s.heap.objs.size t 0 → (∀ b o, s.heap.get? b = some o → h'.get? b = some o) → Q (.ref (s.heap.objs.size + 1)) { s with heap := h' }) :
    wpAny (model prog w) A (call (.type "enumerate") [.ref t]) Q E s := by
  obtain ⟨⟨c, dd, dt, sl⟩, hl, hc, n, hd⟩ := hT
  obtain rfl : c = .type "tuple" := hc
  obtain rfl : dt = .seq items n := hd
  refine callType_new F.called_enumerate (by decide) (F.typeCall_enumerate_1 _) (F.newCall_enumerate_1 _) (fun ob => F.args_object_init_2 ob _) F.entry_enumerate_new (meets_enumT t items n dd sl) ⟨hl, ?_⟩
  have hz : (s.heap.push (tupItO t)).objs.size = s.heap.objs.size + 1 := Heap.size_push ..
  have he : IsEnum ((s.heap.push (tupItO t)).push (enumO s.heap.objs.size)) (s.heap.objs.size + 1) s.heap.objs.size 0 .none := by
    have q := Heap.get?_push_size (s.heap.push (tupItO t)) (o := enumO s.heap.objs.size) rfl
    rw [hz] at q; exact q
  show _ ∧ _
  rw [hz]
  exact ⟨⟨_, he, rfl⟩, h _ he ⟨_, Heap.get?_push_of_some _ (Heap.get?_push_size _ rfl), rfl, rfl⟩ fun b o x => Heap.get?_push_of_some _ (Heap.get?_push_of_some _ x)⟩
/-- each item of the tuple at a in a new pair -/
def Iet (K : PySem.W.Frag) (a : Addr) : It :=
  ⟨fun i H => ∃ (xs : List V) (x : V), SqT K H a xs ∧ xs[i]? = some x, fun i H v H' => ∃ q x, v = .ref q ∧ H q = none ∧ H' = upd H q (.tup [.int (i : Nat), x]) ∧ ∀ xs, SqT K H a xs → xs[i]? = some x, fun i H => ∃ xs : List V, SqT K H a xs ∧ xs.length = i⟩
theorem turn_enumT {P : Program} {w : World} {K : PySem.W.Frag} {elts : List Expr} {kk : Nat} {tpos : Pos} (a e it : Addr) :
    Turn P w K (.Tuple elts kk tpos) (Iet K a) [e, it] e (fun i h => (∃ old, IsEnum h e it ((i : Nat) : Int) old) ∧ h.IsTupleIter it a i ∧ e ≠ it ∧ e ≠ a ∧ it ≠ a) where
  mem := by simp
  obj := fun i h st b hb => by
    obtain ⟨⟨old, he⟩, ⟨o, ho, hc, hd⟩, _⟩ := st
    rcases (show b = e ∨ b = it by simpa using hb) with rfl | rfl
    · exact ⟨_, he, fun v q => nomatch q⟩
    · exact ⟨o, ho, fun v q => by rw [hd] at q; cases q⟩
  keep := fun i h h' ⟨⟨old, he⟩, hi, hn⟩ k => ⟨⟨old, k e (by simp) _ he⟩, hi.at fun o q => k it (by simp) o q, hn⟩
  item := by
    intro X hP hw hK hc i pins s σ H E I hf ⟨⟨old, he⟩, hit, hne, nea, nia⟩ hg
    subst hP hw hK
    obtain ⟨xs, x, hq, hx⟩ := hg
    obtain ⟨its, rv, p, hz⟩ := I.tuple hq
    obtain ⟨u, hu, ru⟩ := rv.get hx
    have hel : e < s.heap.objs.size := Heap.lt_size he
    have hil : it < s.heap.objs.size := by obtain ⟨_, q, _⟩ := hit; exact Heap.lt_size q
    have hlen : i < its.length := (List.getElem?_eq_some_iff.mp hu).1
    have hT : s.heap.IsTuple a its.toArray := p
    refine wpAny_pyNext_enum_itemD (Draws.tuple (by first | exact I.ok.hd hc | (simpa using I.ok.hd hc)) it a (Ne.symm nia) its.toArray) he ⟨hit, hT⟩ (by simpa using hlen) hne (by simp [hne, nea]) fun y h' tk hy ho hst hT2 hsz hk => ?_
    have hyu : y = u := by
      have : its[i]? = some y := by simpa using hy
      rw [hu] at this; exact (Option.some.inj this).symm
    subst hyu
    refine ⟨_, rfl, wpAny_letOwnedTupleGo_enum (s := { s with heap := h', toks := tk + 1 }) ho fun h'' he' sb => ?_⟩
    have hT3 : h''.get? s.heap.objs.size = some { cls := .type "tuple", data := .seq #[.int i tk, y] } := (sb.2 _ (Nat.ne_of_gt hel)).trans hT2
    have nw : ObjOk X.prog X.w (upd H s.heap.objs.size (.tup [.int (i : Nat), x])) h'' s.heap.objs.size (.tup [.int (i : Nat), x]) :=
      ⟨by show 2 ≤ sizeLine; decide, [.int i tk, y], .cons ⟨_, rfl⟩ (.cons ru .nil), ⟨_, hT3, rfl, _, rfl⟩⟩
    have I1 : Inv X pins σ (upd H s.heap.objs.size (.tup [.int (i : Nat), x])) { s with heap := h'', toks := tk + 1 } :=
      I.turnedNew (ch := [e, it]) (fun b ob hb q => (sb.2 b (fun z => hb (by simp [z]))).trans (hk b ob (fun z => hb (by simp [z])) (fun z => hb (by simp [z])) q)) hf (Nat.le_refl _) nw
    refine ⟨.ref s.heap.objs.size, _, I1, rfl, ⟨_, x, rfl, I.hok.fresh (Nat.le_refl _), rfl, fun ys hy => by rw [I.tuple_inj hy hq]; exact hx⟩, ⟨⟨y, ?_⟩, hst.1.at fun o q => (sb.2 it (Ne.symm hne)).trans q, hne, nea, nia⟩, fun b hb => ?_⟩
    · rw [show ((i + 1 : Nat) : Int) = (i : Int) + 1 by omega]; exact he'
    · have hb' : b < s.heap.objs.size := by
        rcases (show b = e ∨ b = it by simpa using hb) with z | z <;> (rw [z]; assumption)
      rw [upd_ne (Nat.ne_of_lt hb')]; exact (hf b hb).1
  done := by
    intro X hP hw hK hc i pins s σ H E I hf ⟨⟨old, he⟩, hit, hne, nea, nia⟩ hg
    subst hP hw hK
    obtain ⟨xs, hq, hx⟩ := hg
    obtain ⟨its, rv, p, hz⟩ := I.tuple hq
    obtain ⟨f0, f1, f2, f3, f4, f5⟩ := hf it (by simp)
    have hl := rv.length
    have hT : s.heap.IsTuple a its.toArray := p
    have ei : i = its.toArray.size := by simp; omega
    refine wpAny_pyNext_enum_endD (Draws.tuple (by first | exact I.ok.hd hc | (simpa using I.ok.hd hc)) it a (Ne.symm nia) its.toArray) he ?_ fun h' eb => ⟨rfl, I.turned (t' := s.toks) (fun b o hb q => eb b o hb q) f0 f1 f3 f4 f5⟩
    rw [← ei]; exact ⟨hit, hT⟩
  self := fun A i s Q E ⟨⟨_, he⟩, _⟩ h => wpAny_pyIter_enum he h
section
variable {X : Cx} {T : Tx} {π : Nat → Option Pin} {W : WX} {a b c e o l : Expr} {es : List Expr} {pos p tpos : Pos} {m ma mb mc : Mi Dt} {ms : Mi (List Dt)} {A A' : Addr → Prop} {F H F' H' F0 H0 : Hp} {σ : L2.St} {ρ : En} {tg : Expr} {elts : List Expr} {kk : Nat}
/-- a list or a tuple, walked; the same in pairs with the number -/
def iSeq (K : PySem.W.Frag) (tl : TE) : TI := fun σ H R => tl σ H fun x H1 => ∃ a, x = .ref a ∧ (((∃ xs, SqL K H1 a xs) ∧ R (Itl K a) H1) ∨ ((∃ xs, SqT K H1 a xs) ∧ R (Itt K a) H1))
theorem pi_seq {tl : TE} (hl : PE X l tl) : PI X tg l (iSeq X.K tl) := ⟨fun pins s σ H R I h => by
  refine thn (hl.run pins s σ H _ I h) fun v s1 ⟨x, H1, I1, r1, a, e, q1⟩ => ?_
  subst e
  cases r1
  rcases q1 with ⟨⟨xs, hq⟩, q⟩ | ⟨⟨xs, hq⟩, q⟩
  · obtain ⟨its, rv, pl, hz⟩ := I1.list hq
    refine wpAny_pyIter_list pl.isList ⟨s1.heap.objs.size, [s1.heap.objs.size], _, _, H1, rfl, I1.kept (t' := s1.toks) fun b o e => Heap.get?_push_of_some _ e, turn_list a _, ⟨_, Heap.get?_push_size _ rfl, rfl, rfl⟩, fun b hb => ?_, q⟩
    obtain rfl : b = s1.heap.objs.size := by simpa using hb
    exact I1.fpOk (Nat.le_refl _) (I1.hok.fresh (Nat.le_refl _))
  · obtain ⟨its, rv, pl, hz⟩ := I1.tuple hq
    refine wpAny_pyIter_tuple (show s1.heap.IsTuple a its.toArray from pl) ⟨s1.heap.objs.size, [s1.heap.objs.size], _, _, H1, rfl, I1.kept (t' := s1.toks) fun b o e => Heap.get?_push_of_some _ e, turn_tuple a _, ⟨_, Heap.get?_push_size _ rfl, rfl, rfl⟩, fun b hb => ?_, q⟩
    obtain rfl : b = s1.heap.objs.size := by simpa using hb
    exact I1.fpOk (Nat.le_refl _) (I1.hok.fresh (Nat.le_refl _))⟩
def iEnumA (K : PySem.W.Frag) (ta : TA) : TI := fun σ H R => ta σ H fun vs H1 => ∃ a, vs = [.ref a] ∧ (((∃ xs, SqL K H1 a xs) ∧ R (Ite K a) H1) ∨ ((∃ xs, SqT K H1 a xs) ∧ R (Iet K a) H1))
theorem pi_enumA {ta : TA} (hg : Gl X "enumerate") (hm : X.mg "enumerate" = none) (ha : PA X [e] ta) (hs : starEach [e] X.env = [(false, eval e X.env)] := by rfl) :
    PI X (.Tuple elts kk tpos) (.Call (.Name "enumerate" p) [e] [] pos) (iEnumA X.K ta) := ⟨fun pins s σ H R I h => by
  refine Call_ (ld_blt I hg hm boot_enumerate (PyProof.Rows.callWith_type1 (thn (ha.run pos pins s σ H _ I h) fun us s1 ⟨vs, H1, I1, r1, a, ex, q1⟩ => ?_) hs rfl))
  subst ex
  cases r1 with
  | cons r rr =>
    cases rr
    cases r
    have fp : ∀ b, b ∈ [s1.heap.objs.size + 1, s1.heap.objs.size] → FpOk X pins H1 b := fun b hb => by
      have hle : s1.heap.objs.size ≤ b := by
        rcases (show b = s1.heap.objs.size + 1 ∨ b = s1.heap.objs.size by simpa using hb) with z | z <;> omega
      exact I1.fpOk hle (I1.hok.fresh hle)
    rcases q1 with ⟨⟨xs, hq⟩, q⟩ | ⟨⟨xs, hq⟩, q⟩
    · obtain ⟨its, rv, p', hz⟩ := I1.list hq
      refine call_enumerate_list p'.isList fun h' he hit hsz hk => wpAny_pyIter_enum he ⟨s1.heap.objs.size + 1, [s1.heap.objs.size + 1, s1.heap.objs.size], _, _, H1, rfl, I1.kept (t' := s1.toks) hk, turn_enum a _ _, ⟨⟨.none, he⟩, hit, Nat.succ_ne_self _⟩, fp, q⟩
    · obtain ⟨its, rv, p', hz⟩ := I1.tuple hq
      have ha : a < s1.heap.objs.size := by obtain ⟨o, ho, _⟩ := p'; exact Heap.lt_size ho
      refine call_enumT (show s1.heap.IsTuple a its.toArray from p') fun h' he hit hk => wpAny_pyIter_enum he ⟨s1.heap.objs.size + 1, [s1.heap.objs.size + 1, s1.heap.objs.size], _, _, H1, rfl, I1.kept (t' := s1.toks) hk, turn_enumT a _ _, ⟨⟨.none, he⟩, hit, Nat.succ_ne_self _, Nat.ne_of_gt (Nat.lt_succ_of_lt ha), Nat.ne_of_gt ha⟩, fp, q⟩⟩
end
end Dl
namespace Dl
open PySem PySem.Spec PyProof.Rows L2
section
variable {X : Cx} {T : Tx} {π : Nat → Option Pin} {W : WX} {a b c e o l : Expr} {es : List Expr} {pos p tpos : Pos} {m ma mb mc : Mi Dt} {ms : Mi (List Dt)} {A A' : Addr → Prop} {F H F' H' F0 H0 : Hp} {σ : L2.St} {ρ : En} {tg : Expr} {elts : List Expr} {kk : Nat}
/-! ### what is walked -/
theorem wk_list {a : Addr} {vs : List V} {ds : List Dt} (h : SqL T.K F a vs) (r : Reps T F vs ds) : Wk T (Itl T.K a) ds F where
  goes := fun i H hi le => ⟨vs, vs[i]'(by rw [r.length]; exact hi), sql_mono le h, by simp [r.length, hi]⟩
  stops := fun H le => ⟨vs, sql_mono le h, by rw [r.length]; exact Nat.le_refl _⟩
  yields := fun i H x H' d hd le y => by
    obtain ⟨e, y⟩ := y
    obtain ⟨v, h1, h2⟩ := r.get hd
    rw [y vs (sql_mono le h)] at h1
    cases h1
    exact .inl ⟨e, h2⟩
theorem wk_tup {a : Addr} {vs : List V} {ds : List Dt} (h : SqT T.K F a vs) (r : Reps T F vs ds) : Wk T (Itt T.K a) ds F where
  goes := fun i H hi le => ⟨vs, vs[i]'(by rw [r.length]; exact hi), sqt_mono le h, by simp [r.length, hi]⟩
  stops := fun H le => ⟨vs, sqt_mono le h, by rw [r.length]; exact Nat.le_refl _⟩
  yields := fun i H x H' d hd le y => by
    obtain ⟨e, y⟩ := y
    obtain ⟨v, h1, h2⟩ := r.get hd
    rw [y vs (sqt_mono le h)] at h1
    cases h1
    exact .inl ⟨e, h2⟩
def enumD (k : Nat) : List Dt → List Dt
  | [] => []
  | d :: ds => .tup [.int k, d] :: enumD (k + 1) ds
theorem enumD_len : ∀ (k : Nat) (ds : List Dt), (enumD k ds).length = ds.length
  | _, [] => rfl
  | k, d :: ds => by unfold enumD; rw [List.length_cons, enumD_len, List.length_cons]
theorem enumD_get : ∀ (k : Nat) (ds : List Dt) (i : Nat) (d : Dt), (enumD k ds)[i]? = some d → ∃ x, ds[i]? = some x ∧ d = .tup [.int ((k + i : Nat) : Int), x]
  | _, [], _, _, h => by simp [enumD] at h
  | k, x :: ds, 0, d, h => by simp [enumD] at h; exact ⟨x, rfl, by rw [← h]; rfl⟩
  | k, x :: ds, i + 1, d, h => by
    obtain ⟨y, h1, h2⟩ := enumD_get (k + 1) ds i d (by simpa [enumD] using h)
    exact ⟨y, by simpa using h1, by rw [h2, show k + 1 + i = k + (i + 1) by omega]⟩
theorem wk_enumL {a : Addr} {vs : List V} {ds : List Dt} (h : SqL T.K F a vs) (r : Reps T F vs ds) : Wk T (Ite T.K a) (enumD 0 ds) F where
  goes := fun i H hi le => ⟨vs, vs[i]'(by rw [r.length, ← enumD_len 0]; exact hi), sql_mono le h, by rw [enumD_len] at hi; simp [r.length, hi]⟩
  stops := fun H le => ⟨vs, sql_mono le h, by rw [r.length, enumD_len]; exact Nat.le_refl _⟩
  yields := fun i H x H' d hd le y => by
    obtain ⟨q, w, e1, e2, e3, y⟩ := y
    obtain ⟨z, h1, h2⟩ := enumD_get 0 ds i d hd
    obtain ⟨v, h3, h4⟩ := r.get h1
    rw [y vs (sql_mono le h)] at h3
    cases h3
    exact .inr ⟨q, [.int (i : Nat), w], _, e2, e3, e1, .cons (.int _) (.cons h4 .nil), by rw [h2, Nat.zero_add]⟩
theorem wk_enumT {a : Addr} {vs : List V} {ds : List Dt} (h : SqT T.K F a vs) (r : Reps T F vs ds) : Wk T (Iet T.K a) (enumD 0 ds) F where
  goes := fun i H hi le => ⟨vs, vs[i]'(by rw [r.length, ← enumD_len 0]; exact hi), sqt_mono le h, by rw [enumD_len] at hi; simp [r.length, hi]⟩
  stops := fun H le => ⟨vs, sqt_mono le h, by rw [r.length, enumD_len]⟩
  yields := fun i H x H' d hd le y => by
    obtain ⟨q, w, e1, e2, e3, y⟩ := y
    obtain ⟨z, h1, h2⟩ := enumD_get 0 ds i d hd
    obtain ⟨v, h3, h4⟩ := r.get h1
    rw [y vs (sqt_mono le h)] at h3
    cases h3
    exact .inr ⟨q, [.int (i : Nat), w], _, e2, e3, e1, .cons (.int _) (.cons h4 .nil), by rw [h2, Nat.zero_add]⟩
def rngD (lo : Int) : Nat → List Dt
  | 0 => []
  | n + 1 => .int lo :: rngD (lo + 1) n
theorem rngD_len : ∀ (lo : Int) (n : Nat), (rngD lo n).length = n
  | _, 0 => rfl
  | lo, n + 1 => by unfold rngD; rw [List.length_cons, rngD_len]
theorem rngD_get : ∀ (lo : Int) (n i : Nat) (d : Dt), (rngD lo n)[i]? = some d → d = .int (lo + i)
  | _, 0, _, _, h => by simp [rngD] at h
  | lo, n + 1, 0, d, h => by simp [rngD] at h; rw [← h]; simp
  | lo, n + 1, i + 1, d, h => by
    have := rngD_get (lo + 1) n i d (by simpa [rngD] using h)
    rw [this, show lo + 1 + (i : Int) = lo + ((i + 1 : Nat) : Int) by omega]
theorem wk_rng (lo : Int) (n : Nat) : Wk T (Itr lo n) (rngD lo n) F where
  goes := fun i H hi le => by rw [rngD_len] at hi; exact hi
  stops := fun H le => by rw [rngD_len]; exact Nat.le_refl _
  yields := fun i H x H' d hd le y => by
    obtain ⟨e, y⟩ := y
    rw [rngD_get lo n i d hd, y]
    exact .inl ⟨e, .int _⟩
def mSeqI (m : Mi Dt) : Mi (List Dt) := mBind m fun d => match d with
  | .scr ns => mPure (ns.map .int)
  | .lst xs => mPure xs
  | .tup xs => mPure xs
  | _ => mBad
theorem di_seq (hK : X.K = T.K) (h : PE X l (TMe T π W m)) : PI X tg l (TMi T π W (mSeqI m)) := (pi_seq h).imp fun σ H R ⟨A, F, ρ, k, p⟩ => ⟨A, F, ρ, k, p.bind.imp fun d ρ1 F1 H1 k1 r1 p1 v rv => by
  rw [hK]
  cases d with
  | lst xs =>
    cases rv with
    | lst h r => exact ⟨_, rfl, .inl ⟨⟨_, SqL.of (k1.le _ _ h)⟩, p1.pure k1 _ (wk_list (SqL.of h) r)⟩⟩
  | scr ns =>
    cases rv with
    | scr h => exact ⟨_, rfl, .inl ⟨⟨_, sql_mono k1.le h⟩, p1.pure k1 _ (wk_list h (ints_reps ns))⟩⟩
  | tup xs =>
    obtain ⟨a, vs, e1, h, r⟩ := rv.tup_inv
    exact ⟨a, e1, .inr ⟨⟨_, sqt_mono k1.le h⟩, p1.pure k1 _ (wk_tup h r)⟩⟩
  | _ => exact p1.elim⟩
def mEnumI (m : Mi Dt) : Mi (List Dt) := mBind m fun d => match d with
  | .lst xs => mPure (enumD 0 xs)
  | .tup xs => mPure (enumD 0 xs)
  | _ => mBad
theorem di_enum (hK : X.K = T.K) (hg : Gl X "enumerate") (hm : X.mg "enumerate" = none) (h : PE X e (TMe T π W m)) (hs : starEach [e] X.env = [(false, eval e X.env)] := by rfl) :
    PI X (.Tuple elts kk tpos) (.Call (.Name "enumerate" p) [e] [] pos) (TMi T π W (mEnumI m)) := (pi_enumA hg hm (pa_cons h pa_nil hs) hs).imp fun σ H R ⟨A, F, ρ, k, p⟩ => ⟨A, F, ρ, k, p.bind.imp fun d ρ1 F1 H1 k1 r1 p1 v rv => by
  rw [hK]
  cases d with
  | lst xs =>
    cases rv with
    | lst h r => exact ⟨_, rfl, .inl ⟨⟨_, SqL.of (k1.le _ _ h)⟩, p1.pure k1 _ (wk_enumL (SqL.of h) r)⟩⟩
  | tup xs =>
    obtain ⟨a, vs, e1, h, r⟩ := rv.tup_inv
    exact ⟨a, by rw [e1], .inr ⟨⟨_, sqt_mono k1.le h⟩, p1.pure k1 _ (wk_enumT h r)⟩⟩
  | _ => exact p1.elim⟩
def mRng1 (ms : Mi (List Dt)) : Mi (List Dt) := mBind ms fun ds => match ds with
  | [.int j] => if -(2 ^ 62) ≤ j ∧ j < 2 ^ 62 then mPure (rngD 0 j.toNat) else mBad
  | _ => mBad
def mRng2 (ms : Mi (List Dt)) : Mi (List Dt) := mBind ms fun ds => match ds with
  | [.int i, .int j] => if (-(2 ^ 62) ≤ i ∧ i < 2 ^ 62) ∧ (-(2 ^ 62) ≤ j ∧ j < 2 ^ 62) then mPure (rngD i (j - i).toNat) else mBad
  | _ => mBad
theorem di_rng1 (hg : Gl X "range") (hm : X.mg "range" = none) (h : PA X [a] (TMa T π W ms)) (hs : starEach [a] X.env = [(false, eval a X.env)] := by rfl) : PI X tg (.Call (.Name "range" p) [a] [] pos) (TMi T π W (mRng1 ms)) :=
  (pi_range1 hg hm h hs).imp fun σ H R ⟨A, F, ρ, k, p⟩ => ⟨A, F, ρ, k, p.bind.imp fun ds ρ1 F1 H1 k1 r1 p1 vs rvs => by
    split at p1
    · split at p1
      · rename_i hj
        cases rvs with
        | cons h r =>
          cases r
          exact ⟨_, by rw [h.int_inv], hj.1, hj.2, p1.pure k1 _ (wk_rng 0 _)⟩
      · exact p1.elim
    · exact p1.elim⟩
theorem di_rng2 (hg : Gl X "range") (hm : X.mg "range" = none) (h : PA X [a, b] (TMa T π W ms)) (hs : starEach [a, b] X.env = [(false, eval a X.env), (false, eval b X.env)] := by rfl) (hs2 : starEach [b] X.env = [(false, eval b X.env)] := by rfl) :
    PI X tg (.Call (.Name "range" p) [a, b] [] pos) (TMi T π W (mRng2 ms)) :=
  (pi_range2 hg hm h hs hs2).imp fun σ H R ⟨A, F, ρ, k, p⟩ => ⟨A, F, ρ, k, p.bind.imp fun ds ρ1 F1 H1 k1 r1 p1 vs rvs => by
    split at p1
    · split at p1
      · rename_i hj
        cases rvs with
        | cons h r =>
          cases r with
          | cons h2 r =>
            cases r
            exact ⟨_, _, by rw [h.int_inv, h2.int_inv], ⟨hj.1.1, hj.1.2, hj.2.1, hj.2.2⟩, p1.pure k1 _ (wk_rng _ _)⟩
      · exact p1.elim
    · exact p1.elim⟩
/-! ### isinstance against built-in classes -/
inductive Ty5 where
  | int | bool | str | list | tuple
def Ty5.nm : Ty5 → String
  | .int => "int" | .bool => "bool" | .str => "str" | .list => "list" | .tuple => "tuple"
def tyD : Dt → Option String
  | .non => some "NoneType" | .bl _ => some "bool" | .int _ => some "int" | .str _ => some "str" | .lst _ => some "list" | .scr _ => some "list" | .tup _ => some "tuple" | .dic _ _ _ => some "dict" | _ => none
def isD (n : Ty5) : Dt → Option Bool
  | .non => some false
  | .bl _ => some (match n with | .int => true | .bool => true | _ => false)
  | .int _ => some (match n with | .int => true | _ => false)
  | .str _ => some (match n with | .str => true | _ => false)
  | .lst _ => some (match n with | .list => true | _ => false)
  | .scr _ => some (match n with | .list => true | _ => false)
  | .tup _ => some (match n with | .tuple => true | _ => false)
  | .dic _ _ _ => some false
  | _ => none
theorem isD_kit (n : Ty5) (d : Dt) (t : String) (b : Bool) (h1 : tyD d = some t) (h2 : isD n d = some b) : kitB t n.nm = some b := by
  cases d <;> cases h1 <;> cases h2 <;> cases n <;> decide +kernel
theorem RepS.tyX {v : V} {d : Dt} {t : String} (le : Le F H) (r : RepS T F H v d) (h : tyD d = some t) : TyX T.K H v (.type t) := by
  have lst : ∀ {a : Addr} {vs : List V}, SqL T.K H a vs → TyX T.K H (.ref a) (.type "list") := fun q => by
    rcases q with (q | ⟨o, q⟩) | ⟨o, its, n, q, c, _⟩
    · exact .base (.lst q)
    · exact .base (.frz q)
    · exact .kList q c
  have tup : ∀ {a : Addr} {vs : List V}, SqT T.K H a vs → TyX T.K H (.ref a) (.type "tuple") := fun q => by
    rcases q with (q | ⟨o, q⟩) | ⟨o, its, n, q, c, _⟩
    · exact .base (.tup q)
    · exact .fTuple q
    · exact .kTuple q c
  rcases r with r | ⟨a, e, ho⟩
  · cases r <;> cases h
    · exact .base .non
    · exact .base (.bl _)
    · exact .base (.int _)
    · exact .base (.str _)
    · rename_i q; exact lst (sql_mono le q)
    · rename_i q _; exact .base (.lst (le _ _ q))
    · rename_i q _; exact .base (.tup (le _ _ q))
    · rename_i q; exact tup (sqt_mono le q)
    · rename_i q _ _; exact .base (.dK (le _ _ q))
    · rename_i q _ _; exact .base (.dT (le _ _ q))
  · subst e
    cases d with
    | lst ds => cases h; obtain ⟨vs, q, _⟩ := ho; exact .base (.lst q)
    | dic t ks ds =>
      cases h
      cases t with
      | false => obtain ⟨kk, vs, q, _⟩ := ho; exact .base (.dK q)
      | true => obtain ⟨kk, vs, q, _⟩ := ho; exact .base (.dT q)
    | ins c ds => cases h
    | deal cs bl => cases h
    | dcn ks ds => cases h
    | tbl q => cases h
    | _ => exact ho.elim
theorem isD_ty {n : Ty5} {d : Dt} {b : Bool} (h : isD n d = some b) : ∃ t, tyD d = some t := by
  cases d <;> first | exact ⟨_, rfl⟩ | cases h
def fIsi (n : Ty5) (d : Dt) : Option Dt := (isD n d).map .bl
theorem de_isi (hK : X.K = T.K) (n : Ty5) (h : PE X e (tCB (rIsi X.K) (tCons (TMp T π W m) (tCons (tC (.ty n.nm)) tNil)))) : PE X e (TMe T π W (m1 (fIsi n) m)) := h.imp fun σ H Q ⟨A, F, ρ, k, p⟩ => ⟨A, F, ρ, k, p.bind.imp fun d ρ1 F1 H1 k1 r1 p1 v rv => by
  obtain ⟨z, ez, p2⟩ := p1.opt
  unfold fIsi at ez
  cases hb : isD n d with
  | none => rw [hb] at ez; cases ez
  | some b =>
    rw [hb] at ez
    cases ez
    obtain ⟨t, ht⟩ := isD_ty hb
    exact ⟨v, .ty n.nm, .type t, .type n.nm, b, rfl, .ty _, by rw [hK]; exact rv.tyX k1.le ht, kit_ty (isD_kit n d t b ht hb), p2.pure k1 _ (.bl _)⟩⟩
def fIsi2 (n n' : Ty5) (d : Dt) : Option Dt := match isD n d, isD n' d with
  | some a, some b => some (.bl (a || b))
  | _, _ => none
theorem RepS.grow {v : V} {d : Dt} (r : RepS T F H v d) (hf : Le F F') (hh : ∀ a o, H a = some o → H' a = some o) : RepS T F' H' v d := by
  rcases r with r | ⟨a, e, ho⟩
  · exact .inl (r.mono hf)
  · exact .inr ⟨a, e, ho.mono hf fun x _ o q => hh x o q⟩
theorem de_isi2 (hK : X.K = T.K) (n n' : Ty5) (h : PE X e (tCB (rIsiT X.K) (tCons (TMp T π W m) (tCons (tTup (tCons (tC (.ty n.nm)) (tCons (tC (.ty n'.nm)) tNil))) tNil)))) : PE X e (TMe T π W (m1 (fIsi2 n n') m)) := h.imp fun σ H Q ⟨A, F, ρ, k, p⟩ => ⟨A, F, ρ, k, p.bind.imp fun d ρ1 F1 H1 k1 r1 p1 v rv => by
  obtain ⟨z, ez, p2⟩ := p1.opt
  unfold fIsi2 at ez
  cases hb : isD n d with
  | none => rw [hb] at ez; cases ez
  | some b =>
    cases hb2 : isD n' d with
    | none => rw [hb, hb2] at ez; cases ez
    | some b2 =>
      rw [hb, hb2] at ez
      cases ez
      obtain ⟨t, ht⟩ := isD_ty hb
      refine ⟨by show 2 ≤ sizeLine; decide, fun q hq => ?_⟩
      have rv2 : RepS T F1 (upd H1 q (.tup [.ty n.nm, .ty n'.nm])) v d := rv.grow (le_refl F1) (le_new hq)
      refine ⟨v, q, _, .type t, [.type n.nm, .type n'.nm], b || b2, rfl, upd_same, .cons (.ty _) (.cons (.ty _) .nil), by rw [hK]; exact rv2.tyX (le_trans k1.le (le_new hq)) ht, ?_, p2 F1 _ (k1.newO hq) (.newO hq) _ (.bl _)⟩
      refine kitAny_cons (kit_ty (isD_kit n d t b ht hb)) (fun z => ?_) (fun z => by rw [z]; rfl)
      refine kitAny_cons (kit_ty (isD_kit n' d t b2 ht hb2)) (fun z2 => ?_) (fun z2 => by rw [z, z2]; rfl)
      rw [z, z2]
      exact kitAny_nil⟩
/-! ### dicts -/
def keyEq : Dt → Dt → Bool
  | .int i, .int j => i == j
  | .str x, .str y => x == y
  | _, _ => false
def keysEq : List Dt → List Dt → Bool
  | [], [] => true
  | x :: xs, y :: ys => keyEq x y && keysEq xs ys
  | _, _ => false
def keyEqT : Dt → Dt → Bool
  | .tup xs, .tup ys => keysEq xs ys
  | _, _ => false
theorem keyEq_k (k k' : Key) : keyEq (kD k) (kD k') = decide (k = k') := by
  cases k with
  | inl i =>
    cases k' with
    | inl j => unfold kD keyEq; rw [key_ll]
    | inr y => rw [key_lr]; rfl
  | inr x =>
    cases k' with
    | inl j => rw [key_rl]; rfl
    | inr y =>
      unfold kD keyEq
      rw [key_rr]
      by_cases h : x = y
      · subst h; simp
      · simp [h]
theorem keysEq_k : ∀ (ks ks' : List Key), keysEq (ks.map kD) (ks'.map kD) = decide (ks = ks')
  | [], [] => rfl
  | [], _ :: _ => rfl
  | _ :: _, [] => rfl
  | k :: ks, k' :: ks' => by
    show (keyEq (kD k) (kD k') && keysEq (ks.map kD) (ks'.map kD)) = _
    rw [keyEq_k, keysEq_k]
    by_cases h1 : k = k' <;> by_cases h2 : ks = ks' <;> simp [h1, h2]
/-- keys of one kind: how they stand as data -/
def dLook (q : Dt → Dt → Bool) (x : Dt) : List Dt → List Dt → Option Dt
  | k :: ks, d :: ds => if q k x then some d else dLook q x ks ds
  | _, _ => none
def dRep (q : Dt → Dt → Bool) (x y : Dt) : List Dt → List Dt → List Dt
  | k :: ks, d :: ds => (if q k x then y else d) :: dRep q x y ks ds
  | _, _ => []
def dPut (q : Dt → Dt → Bool) (x y : Dt) (ks ds : List Dt) : List Dt × List Dt := if ks.any (fun k => q k x) then (ks, dRep q x y ks ds) else (ks ++ [x], ds ++ [y])
variable {κ : Type} [DecidableEq κ] {emb : κ → Dt} {q : Dt → Dt → Bool}
theorem look_ok (hq : ∀ k k', q (emb k) (emb k') = decide (k = k')) (x : κ) : ∀ {kk : List κ} {vs : List V} {ds : List Dt}, kk.length = vs.length → Reps T F vs ds →
    (∀ v, valV (kk.zip vs) x = some v → ∃ d, dLook q (emb x) (kk.map emb) ds = some d ∧ Rep T F v d) ∧ (valV (kk.zip vs) x = none → dLook q (emb x) (kk.map emb) ds = none)
  | [], vs, ds, hl, r => by
    cases vs with
    | nil => cases r; exact ⟨fun v h => (by cases h), fun _ => rfl⟩
    | cons _ _ => cases hl
  | k :: kk, vs, ds, hl, r => by
    cases r with
    | nil => cases hl
    | @cons v vs d ds h1 h2 =>
      have ih := look_ok hq x (kk := kk) (by simpa using hl) h2
      by_cases e : k = x
      · refine ⟨fun w h => ?_, fun h => ?_⟩
        · rw [List.zip_cons_cons, valV_pos e] at h
          cases h
          refine ⟨d, ?_, h1⟩
          show (if q (emb k) (emb x) then some d else _) = some d
          rw [hq, decide_eq_true e]; rfl
        · rw [List.zip_cons_cons, valV_pos e] at h
          cases h
      · rw [List.zip_cons_cons, valV_neg e]
        have e2 : dLook q (emb x) ((k :: kk).map emb) (d :: ds) = dLook q (emb x) (kk.map emb) ds := by
          show (if q (emb k) (emb x) then some d else _) = _
          rw [hq, decide_eq_false e]; rfl
        rw [e2]
        exact ih
theorem zip_any (hq : ∀ k k', q (emb k) (emb k') = decide (k = k')) (x : κ) : ∀ {kk : List κ} {vs : List V}, kk.length = vs.length → ((kk.zip vs).any fun kv => decide (kv.1 = x)) = (kk.map emb).any fun k => q k (emb x)
  | [], [], _ => rfl
  | k :: kk, v :: vs, h => by
    rw [List.zip_cons_cons, List.any_cons, List.map_cons, List.any_cons, hq, zip_any hq x (by simpa using h)]
  | [], _ :: _, h => by cases h
  | _ :: _, [], h => by cases h
theorem zip_rep (hq : ∀ k k', q (emb k) (emb k') = decide (k = k')) (x : κ) {y : V} {dy : Dt} (ry : Rep T F y dy) : ∀ {kk : List κ} {vs : List V} {ds : List Dt}, kk.length = vs.length → Reps T F vs ds →
    ∃ vs' : List V, (kk.zip vs).map (fun kv => if kv.1 = x then (kv.1, y) else kv) = kk.zip vs' ∧ kk.length = vs'.length ∧ Reps T F vs' (dRep q (emb x) dy (kk.map emb) ds)
  | [], [], _, _, r => by cases r; exact ⟨[], rfl, rfl, .nil⟩
  | [], _ :: _, _, h, _ => by cases h
  | _ :: _, [], _, h, _ => by cases h
  | k :: kk, v :: vs, _, h, r => by
    cases r with
    | @cons _ _ d ds h1 h2 =>
      obtain ⟨vs', e1, e2, e3⟩ := zip_rep hq x ry (kk := kk) (by simpa using h) h2
      refine ⟨(if k = x then y else v) :: vs', ?_, by simpa using e2, ?_⟩
      · rw [List.zip_cons_cons, List.map_cons, e1, List.zip_cons_cons]
        by_cases e : k = x <;> simp [e]
      · show Reps T F _ ((if q (emb k) (emb x) then dy else d) :: _)
        rw [hq]
        by_cases e : k = x
        · rw [if_pos e, decide_eq_true e]; exact .cons ry e3
        · rw [if_neg e, decide_eq_false e]; exact .cons h1 e3
theorem put_ok (hq : ∀ k k', q (emb k) (emb k') = decide (k = k')) (x : κ) {y : V} {dy : Dt} (ry : Rep T F y dy) {kk : List κ} {vs : List V} {ds : List Dt} (hl : kk.length = vs.length) (r : Reps T F vs ds) :
    ∃ (kk' : List κ) (vs' : List V), putK (kk.zip vs) x y = kk'.zip vs' ∧ kk'.length = vs'.length ∧ (dPut q (emb x) dy (kk.map emb) ds).1 = kk'.map emb ∧ Reps T F vs' (dPut q (emb x) dy (kk.map emb) ds).2 := by
  unfold putK dPut
  rw [zip_any hq x hl]
  by_cases h : ((kk.map emb).any fun k => q k (emb x)) = true
  · rw [if_pos h, if_pos h]
    obtain ⟨vs', e1, e2, e3⟩ := zip_rep hq x ry hl r
    exact ⟨kk, vs', e1, e2, rfl, e3⟩
  · rw [if_neg h, if_neg h]
    refine ⟨kk ++ [x], vs ++ [y], ?_, by simp [hl], by simp, r.append (.cons ry .nil)⟩
    rw [List.zip_append hl]; rfl
/-- a dict by its kind: ints and texts, or tuples of them -/
def keyOf : Bool → Dt → Option Dt
  | false, .int i => some (.int i)
  | false, .str x => some (.str x)
  | true, .tup xs => if (xs.all fun d => match d with | .int _ => true | .str _ => true | _ => false) && !xs.isEmpty then some (.tup xs) else none
  | _, _ => none
def kq : Bool → Dt → Dt → Bool
  | false => keyEq
  | true => keyEqT
theorem flat_keys : ∀ {xs : List Dt}, (xs.all fun d => match d with | .int _ => true | .str _ => true | _ => false) = true → ∃ ks : List Key, xs = ks.map kD
  | [], _ => ⟨[], rfl⟩
  | d :: xs, h => by
    rw [List.all_cons, Bool.and_eq_true_iff] at h
    obtain ⟨ks, e⟩ := flat_keys h.2
    cases d with
    | int i => exact ⟨.inl i :: ks, by rw [e]; rfl⟩
    | str x => exact ⟨.inr x :: ks, by rw [e]; rfl⟩
    | _ => cases h.1
theorem reps_keys : ∀ {ks : List Key} {vs : List V}, Reps T F vs (ks.map kD) → vs = ks.map kV
  | [], _, r => by cases r; rfl
  | k :: ks, _, r => by
    cases r with
    | cons h rs =>
      rw [reps_keys rs]
      cases k with
      | inl i => rw [Rep.int_inv h]; rfl
      | inr x => rw [Rep.str_inv h]; rfl
theorem keyEqT_k (k k' : List Key) : keyEqT (.tup (k.map kD)) (.tup (k'.map kD)) = decide (k = k') := keysEq_k k k'
/-- what a dict and a key give -/
def fDin : Dt → Dt → Option Dt
  | x, .dic t ks ds => (keyOf t x).map fun y => .bl (dLook (kq t) y ks ds).isSome
  | _, _ => none
theorem Rep.tup_ne {v : V} {ds : List Dt} (h : Rep T F v (.tup ds)) (hn : ds ≠ []) : ∃ a vs, v = .ref a ∧ F a = some (.tup vs) ∧ Reps T F vs ds := by
  cases h with
  | tup e r => exact ⟨_, _, rfl, e, r⟩
  | tup0 e => exact absurd rfl hn
theorem dget_of {t : Bool} {ks ds : List Dt} {v y : V} {x kx : Dt} (le : Le F H) (r : RepS T F H v (.dic t ks ds)) (ry : Rep T F y x) (hk : keyOf t x = some kx) :
    ∃ a o, v = .ref a ∧ DGet H a y o ∧ (∀ w, o = some w → ∃ d, dLook (kq t) kx ks ds = some d ∧ Rep T F w d) ∧ (o = none → dLook (kq t) kx ks ds = none) := by
  cases t with
  | false =>
    obtain ⟨a, kk, vs, e1, h1, h2, h3, h4⟩ := r.dicK_inv le
    subst h3
    have go : ∀ k : Key, x = kD k → y = kV k → kx = kD k → ∃ a o, v = V.ref a ∧ DGet H a y o ∧ (∀ w, o = some w → ∃ d, dLook (kq false) kx (kk.map kD) ds = some d ∧ Rep T F w d) ∧ (o = none → dLook (kq false) kx (kk.map kD) ds = none) := fun k e2 e3 e4 => by
      have l := look_ok (q := keyEq) (emb := kD) keyEq_k k h2 h4
      exact ⟨a, valV (kk.zip vs) k, e1, by rw [e3]; exact DGet.k h1, fun w hw => by rw [e4]; exact l.1 w hw, fun hn => by rw [e4]; exact l.2 hn⟩
    cases x with
    | int i => cases hk; exact go (.inl i) rfl ry.int_inv rfl
    | str z => cases hk; exact go (.inr z) rfl ry.str_inv rfl
    | _ => cases hk
  | true =>
    cases x with
    | tup xs =>
      unfold keyOf at hk
      dsimp only at hk
      split at hk
      · rename_i hx
        cases hk
        rw [Bool.and_eq_true_iff] at hx
        obtain ⟨k, ek⟩ := flat_keys hx.1
        subst ek
        obtain ⟨b, vy, eb, hb, rb⟩ := ry.tup_ne (fun z => by rw [z] at hx; exact absurd hx.2 (by decide))
        subst eb
        have ev := reps_keys rb
        subst ev
        rcases r with r | ⟨a, e1, kk, vs, h1, h2, h3, h4⟩
        · cases r with
          | dicT h l r =>
            have lk := look_ok (q := keyEqT) (emb := fun l => Dt.tup (l.map kD)) keyEqT_k k l r
            exact ⟨_, _, rfl, DGet.t (le _ _ h) (le _ _ hb), lk.1, lk.2⟩
        · subst h3
          have lk := look_ok (q := keyEqT) (emb := fun l => Dt.tup (l.map kD)) keyEqT_k k h2 h4
          exact ⟨a, _, e1, DGet.t h1 (le _ _ hb), lk.1, lk.2⟩
      · cases hk
    | _ => cases hk
def rDinS : R2 := fun y x H Q => ∃ a o, x = .ref a ∧ DGet H a y o ∧ Q (.bl o.isSome) H
theorem fDin_go {v y : V} {x d z : Dt} (le : Le F H) (ry : Rep T F y x) (rv : RepS T F H v d) (ef : fDin x d = some z) : ∃ a o, v = .ref a ∧ DGet H a y o ∧ z = .bl o.isSome := by
  cases d with
  | dic t ks ds =>
    unfold fDin at ef
    dsimp only at ef
    cases hk : keyOf t x with
    | none => rw [hk] at ef; cases ef
    | some kx =>
      rw [hk] at ef
      cases ef
      obtain ⟨a, o, e1, h1, h2, h3⟩ := dget_of le rv ry hk
      refine ⟨a, o, e1, h1, ?_⟩
      show Dt.bl (dLook (kq t) kx ks ds).isSome = _
      cases o with
      | none => rw [h3 rfl]; rfl
      | some w => obtain ⟨d, e, _⟩ := h2 w rfl; rw [e]; rfl
  | _ => cases ef
/-- a comparison whose first operand may be kept -/
def OpE (T : Tx) (r : R2) (f : Dt → Dt → Option Dt) : Prop := ∀ (F H : Hp) (v w : V) (d e z : Dt) (Q : VK), Le F H → Rep T F v d → RepS T F H w e → f d e = some z → (∀ u, Rep T F u z → Q u H) → r v w H Q
theorem oe_din : OpE T rDinS fDin := fun F H v w d e z Q le rv rw ef q => by
  obtain ⟨a, o, e1, h1, e2⟩ := fDin_go le rv rw ef
  exact ⟨a, o, e1, h1, q _ (by rw [e2]; exact .bl _)⟩
theorem dt_opE {r : R2} {f : Dt → Dt → Option Dt} (h : PT X e (tB (tOp r (TMe T π W ma) (TMp T π W mb)))) (hs : OpE T r f) : PT X e (TMt T π W (mB (m2 f ma mb))) := h.imp fun σ H Q ⟨A, F, ρ, k, p⟩ => by
  have p' := p.bind
  exact ⟨A, F, ρ, k, p'.bind.imp fun x ρ1 F1 H1 k1 r1 p1 v rv => ⟨A, F1, ρ1, k1, p1.bind.imp fun y ρ2 F2 H2 k2 r2 p2 w rw => by
    obtain ⟨z, e, p3⟩ := p2.opt
    refine hs F2 H2 v w x y z _ k2.le (rv.mono r2.f) rw e fun u ru => ?_
    have p4 := p3 F2 H2 k2 .refl
    cases z with
    | bl b => exact ⟨b, ru.bl_inv, p4.pure k2⟩
    | _ => exact p4.elim⟩⟩
theorem dt_din (hc : PC X .In a b (tDIn (TMe T π W ma) (TMp T π W mb))) (hm : behindInMarks .In b = false) : PT X (.Compare a [.In] [b] pos) (TMt T π W (mB (m2 fDin ma mb))) := dt_opE (pt_cmp hc hm) oe_din
/-- {} -/
theorem dn_dnewK (h : PE X e tDNewK) : PE X e (TMn T π W (mPure (.dic false [] []))) := h.imp fun σ H Q ⟨A, F, ρ, k, p⟩ x hx => p F _ (k.newO hx) (.newO hx) x (f_none k.le hx) (k.fresh_new hx) hx ⟨[], [], upd_same, rfl, rfl, .nil⟩ (fun _ z => nomatch z)
/-- d[x] = y, d a slot's own -/
def putD (i : Nat) (x y : Dt) : Mi Unit := fun ρ => match ρ[i]? with
  | some (some (.own io (.dic t ks ds))) => (match keyOf t x with
    | some kx => if ks.length < sizeLine then .ok () (ρ.set i (some (.own io (.dic t (dPut (kq t) kx y ks ds).1 (dPut (kq t) kx y ks ds).2)))) else .bad
    | none => .bad)
  | _ => .bad
def sDput (i : Nat) (mk mv : Mi Dt) : En → So := sBind mv fun y => sBind (hasSl i mk) fun x => sBind (putD i x y) fun _ ρ => .nx ρ
theorem putD_go {i : Nat} {x y : Dt} {vx vy : V} {P : Unit → En → Hp → Hp → Prop} (p : Post T π W σ A F H P (putD i x y ρ)) (k : Ok T π A F H σ ρ) (rx : Rep T F vx x) (ry : Rep T F vy y) :
    ∃ a ρ' H', σ[i]? = some (some (.ref a)) ∧ DPut H a vx vy H' ∧ P () ρ' F H' := by
  unfold putD at p
  split at p
  · rename_i io t ks ds e
    obtain ⟨a, h1, h2, h3, h4, h5⟩ := k.own i io _ e
    split at p
    · rename_i kx hk
      split at p
      · rename_i hz
        cases t with
        | false =>
          obtain ⟨kk, vs, q1, q2, q3, q4⟩ := h3
          subst q3
          have go : ∀ kc : Key, kx = kD kc → vx = kV kc → ∃ a ρ' H', σ[i]? = some (some (.ref a)) ∧ DPut H a vx vy H' ∧ P () ρ' F H' := fun kc e1 e2 => by
            subst e1
            obtain ⟨kk', vs', w1, w2, w3, w4⟩ := put_ok (q := keyEq) (emb := kD) keyEq_k kc ry q2 q4
            refine ⟨a, _, _, h1, by rw [e2]; exact DPut.k q1 (by rw [List.length_zip, ← q2, Nat.min_self]; simpa using hz), p F _ (k.put e h1 ?_) (.put k e h1)⟩
            exact ⟨kk', vs', by rw [upd_same, w1], w2, w3, w4⟩
          cases x with
          | int j => cases hk; exact go (.inl j) rfl rx.int_inv
          | str z => cases hk; exact go (.inr z) rfl rx.str_inv
          | _ => cases hk
        | true =>
          obtain ⟨kk, vs, q1, q2, q3, q4⟩ := h3
          subst q3
          cases x with
          | tup xs =>
            unfold keyOf at hk
            dsimp only at hk
            split at hk
            · rename_i hx
              cases hk
              rw [Bool.and_eq_true_iff] at hx
              obtain ⟨kc, ek⟩ := flat_keys hx.1
              subst ek
              obtain ⟨b, vy', eb, hb, rb⟩ := rx.tup_ne (fun z => by rw [z] at hx; exact absurd hx.2 (by decide))
              subst eb
              have ev := reps_keys rb
              subst ev
              obtain ⟨kk', vs', w1, w2, w3, w4⟩ := put_ok (q := keyEqT) (emb := fun l => Dt.tup (l.map kD)) keyEqT_k kc ry q2 q4
              refine ⟨a, _, _, h1, DPut.t q1 (k.le _ _ hb) (by rw [List.length_zip, ← q2, Nat.min_self]; simpa using hz), p F _ (k.put e h1 ?_) (.put k e h1)⟩
              exact ⟨kk', vs', by rw [upd_same, w1], w2, w3, w4⟩
            · cases hk
          | _ => cases hk
      · exact p.elim
    · exact p.elim
  · exact p.elim
theorem ds_dput {st : Stmt} {i : Nat} {mk mv : Mi Dt} (h : PS X st (sDPut (tVar i) (TMe T π W mk) (TMe T π W mv))) : PS X st (TMs T π W (sDput i mk mv)) := h.imp fun D σ H ⟨A, F0, H0, F, ρ, k, p⟩ => ⟨_, F, ρ, k.ok, (p.bind k).imp fun y ρ1 F1 H1 _ _ ⟨k1, p1⟩ vy ry => by
  have p1' := p1.bind k1
  unfold hasSl at p1'
  split at p1'
  · rename_i s es
    have hv : ∃ v, σ[i]? = some (some v) := by
      cases s with
      | val d => obtain ⟨v, h1, _⟩ := k1.ok.val i d es; exact ⟨v, h1⟩
      | own io d => obtain ⟨a, h1, _⟩ := k1.ok.own i io d es; exact ⟨_, h1⟩
    obtain ⟨v, hv⟩ := hv
    refine ⟨v, hv, _, F1, ρ1, k1.ok, p1'.imp fun x ρ2 F2 H2 _ r2 ⟨k2, p2⟩ vx rx => ?_⟩
    obtain ⟨a, ρ3, H3, h1, h2, k3, p3⟩ := putD_go (p2.bind k2) k2.ok rx (ry.mono r2.f)
    rw [hv] at h1
    cases h1
    exact ⟨a, H3, rfl, h2, p3 σ F2 H3 k3⟩
  · exact p1'.elim⟩
end
end Dl
namespace Dl
open PySem PySem.Spec PyProof.Rows L2
section
variable {X : Cx} {T : Tx} {π : Nat → Option Pin} {W : WX} {a b c e o l : Expr} {es : List Expr} {pos p tpos : Pos} {m ma mb mc : Mi Dt} {ms : Mi (List Dt)} {A A' A0 : Addr → Prop} {F H F' H' F0 H0 : Hp} {σ : L2.St} {ρ : En} {tg : Expr} {elts : List Expr} {kk : Nat}
/-! ### several names at once -/
def slK : Bool → Dt → Sl
  | false, d => .val d
  | true, d => .own false d
def putSls : List Nat → List Bool → List Dt → En → Option En
  | i :: is, k :: ks, d :: ds, ρ => (setSl i (slK k d) ρ).bind (putSls is ks ds)
  | [], [], [], ρ => some ρ
  | _, _, _, _ => none
def setAll : List Nat → List V → L2.St → L2.St
  | i :: is, v :: vs, σ => setAll is vs (σ.set i (some v))
  | _, _, σ => σ
theorem own_set {i : Nat} {v : V} {s : Sl} {ρ' : En} {x : Addr} (k : Ok T π A F H σ ρ) (h : setSl i s ρ = some ρ') (w : IsOwn H (σ.set i (some v)) ρ' x) : IsOwn H σ ρ x ∨ (∃ a io d, v = .ref a ∧ s = .own io d ∧ (x = a ∨ x ∈ inH H a d)) := by
  obtain ⟨hi, rfl, _⟩ := setSl_inv h
  have hσ : i < σ.length := by rw [k.len]; exact hi
  obtain ⟨j, io, d, a, e1, e2, e3⟩ := w
  by_cases hj : i = j
  · subst hj
    rw [List.getElem?_set_self hi] at e1
    rw [List.getElem?_set_self hσ] at e2
    cases e1
    cases e2
    exact .inr ⟨_, _, _, rfl, rfl, e3⟩
  · rw [List.getElem?_set_ne hj] at e1 e2
    exact .inl ⟨j, io, d, a, e1, e2, e3⟩
theorem ok_puts {ks : List Bool} {vs : List V} {ds : List Dt} {as : List Addr} (g : Gk T F H A0 ks vs ds as) : ∀ {is : List Nat} {σ : L2.St} {ρ ρ' : En}, Ok T π A F H σ ρ → (∀ a ∈ as, ¬ IsOwn H σ ρ a ∧ A a) → putSls is ks ds ρ = some ρ' → Ok T π A F H (setAll is vs σ) ρ' := by
  induction g with
  | nil =>
    intro is σ ρ ρ' k _ h
    cases is with
    | nil => cases h; exact k
    | cons _ _ => cases h
  | @val v d ks vs ds as r g ih =>
    intro is σ ρ ρ' k ha h
    cases is with
    | nil => cases h
    | cons i is =>
      have h' : (setSl i (.val d) ρ).bind (putSls is ks ds) = some ρ' := h
      cases e : setSl i (.val d) ρ with
      | none => rw [e] at h'; cases h'
      | some ρ1 =>
        rw [e] at h'
        exact ih (k.set r e) (fun a z => ⟨fun w => (own_set k e w).elim (ha a z).1 (fun ⟨_, _, _, _, q, _⟩ => by cases q), (ha a z).2⟩) h'
  | @own p d ks vs ds as h1 h2 h3 h4 h5 g ih =>
    intro is σ ρ ρ' k ha h
    cases is with
    | nil => cases h
    | cons i is =>
      have h' : (setSl i (.own false d) ρ).bind (putSls is ks ds) = some ρ' := h
      cases e : setSl i (.own false d) ρ with
      | none => rw [e] at h'; cases h'
      | some ρ1 =>
        rw [e] at h'
        obtain ⟨n1, n2⟩ := ha p List.mem_cons_self
        have hin : ∀ x ∈ inH H p d, ¬ IsOwn H σ ρ x ∧ A x := fun x hx => ha x (List.mem_cons_of_mem _ (List.mem_append_left _ hx))
        have has : ∀ x ∈ as, ¬ IsOwn H σ ρ x ∧ A x := fun x hx => ha x (List.mem_cons_of_mem _ (List.mem_append_right _ hx))
        refine ih (k.setN h1 n1 n2 h3 (fun x hx => ⟨(h5 x hx).1, (hin x hx).1, (hin x hx).2⟩) e) (fun a z => ⟨fun w => (own_set k e w).elim (has a z).1 (fun ⟨a', io', d', q1, q2, q3⟩ => ?_), (has a z).2⟩) h'
        cases q1
        cases q2
        rcases q3 with q3 | q3
        · exact h4 (q3 ▸ z)
        · exact (h5 a q3).2.2 z
theorem Ok.there {x : Addr} (k : Ok T π A F H σ ρ) (w : IsOwn H σ ρ x) : H x ≠ none := fun e => by
  obtain ⟨_, _, o, q⟩ := k.ownH w
  rw [e] at q
  cases q
def sPars (is : List Nat) (ks : List Bool) (ms : Mi (List Dt)) : En → So := sBind ms fun ds ρ => match putSls is ks ds ρ with
  | some ρ' => .nx ρ'
  | none => .bad
theorem ds_pars {st : Stmt} {is : List Nat} {ks : List Bool} (h : PS X st (fun D σ H => TMk T π W ks ms σ H fun vs H1 => D.nx (setAll is vs σ) H1)) : PS X st (TMs T π W (sPars is ks ms)) := h.imp fun D σ H ⟨A, F0, H0, F, ρ, k, p⟩ =>
  ⟨IsOwn H σ ρ, F, ρ, k.ok.tight, fun a w => k.ok.there w, ((p.bind k).weak fun a w => k.ok.ownA w).imp fun ds ρ1 F1 H1 k1' r1 ⟨k1, p1⟩ vs as g ha => by
    cases e : putSls is ks ds ρ1 with
    | none => rw [e] at p1; exact p1.elim
    | some ρ' =>
      rw [e] at p1
      refine p1 _ F1 H1 ⟨ok_puts g k1.ok (fun a z => ⟨fun w => ?_, .inr (k.fr.t a (ha a z))⟩) e, k1.fr⟩
      exact k.ok.there (k1'.ownA w) (ha a z)⟩
theorem ds_par {st : Stmt} {i j : Nat} {k1 k2 : Bool} (h : PS X st (tPar i j (TMk T π W [k1, k2] ms))) : PS X st (TMs T π W (sPars [i, j] [k1, k2] ms)) := ds_pars (h.imp fun D σ H ⟨A, F, ρ, k, ht, p⟩ => ⟨A, F, ρ, k, ht, p.imp fun ds ρ' F' H' _ _ q vs as g ha => by
  cases g with
  | val _ g1 => cases g1 with
    | val _ g2 => cases g2; exact ⟨_, _, rfl, q _ _ (.val (by assumption) (.val (by assumption) .nil)) ha⟩
    | own h5 h6 h7 h8 h9 g2 => cases g2; exact ⟨_, _, rfl, q _ _ (.val (by assumption) (.own h5 h6 h7 h8 h9 .nil)) ha⟩
  | own h1 h2 h3 h4 i1 g1 => cases g1 with
    | val r g2 => cases g2; exact ⟨_, _, rfl, q _ _ (.own h1 h2 h3 h4 i1 (.val r .nil)) ha⟩
    | own h5 h6 h7 h8 i2 g2 => cases g2; exact ⟨_, _, rfl, q _ _ (.own h1 h2 h3 h4 i1 (.own h5 h6 h7 h8 i2 .nil)) ha⟩⟩)
end
end Dl
namespace Dl
open PySem PySem.Spec PyProof.Rows L2
section
variable {X : Cx} {T : Tx} {π : Nat → Option Pin} {W : WX} {a b c e o l : Expr} {es : List Expr} {pos p tpos : Pos} {m ma mb mc : Mi Dt} {ms : Mi (List Dt)} {A A' A0 : Addr → Prop} {F H F' H' F0 H0 : Hp} {σ : L2.St} {ρ : En} {tg : Expr} {elts : List Expr} {kk : Nat}
/-! ### xs[i] = y, xs a slot's own list -/
def putL (i : Nat) (x y : Dt) : Mi Dt := mMut i fun ds => match x with
  | .int k => (ixN ds.length k).map fun j => (.non, ds.set j y)
  | _ => none
def sLput (i : Nat) (mk mv : Mi Dt) : En → So := sBind mv fun y => sBind (hasSl i mk) fun x => sBind (putL i x y) fun _ ρ => .nx ρ
theorem ds_lput {st : Stmt} {i : Nat} {mk mv : Mi Dt} (h : PS X st (tAsg (TMe T π W mv) (gSub (tVar i) (TMe T π W mk) rSetL))) : PS X st (TMs T π W (sLput i mk mv)) := h.imp fun D σ H ⟨A, F0, H0, F, ρ, k, p⟩ => ⟨_, F, ρ, k.ok, (p.bind k).imp fun y ρ1 F1 H1 _ _ ⟨k1, p1⟩ vy ry => by
  have p1' := p1.bind k1
  unfold hasSl at p1'
  split at p1'
  · rename_i s es
    have hv : ∃ v, σ[i]? = some (some v) := by
      cases s with
      | val d => obtain ⟨v, h1, _⟩ := k1.ok.val i d es; exact ⟨v, h1⟩
      | own io d => obtain ⟨a, h1, _⟩ := k1.ok.own i io d es; exact ⟨_, h1⟩
    obtain ⟨v, hv⟩ := hv
    refine ⟨v, hv, _, F1, ρ1, k1.ok, p1'.imp fun x ρ2 F2 H2 _ r2 ⟨k2, p2⟩ vx rx => ?_⟩
    obtain ⟨io1, ds1, r, es1, a1, vs, e1, ef, s1, h3, h4, q⟩ := mMut_inv (p2.bind k2) k2.ok
    rw [hv] at s1
    cases s1
    cases x with
    | int kx =>
      dsimp only at ef
      cases hj : ixN ds1.length kx with
      | none => rw [hj] at ef; cases ef
      | some j =>
        rw [hj] at ef
        cases ef
        obtain ⟨k3, p3⟩ := q _ (h4.set (ry.mono r2.f) j)
        exact ⟨a1, vs, kx, j, rfl, rx.int_inv, h3, by rw [h4.length]; exact hj, p3 σ F2 _ k3⟩
    | _ => cases ef
  · exact p1'.elim⟩
/-! ### a def that changes its first argument -/
def mCallIo (n : Nat) (f : List Dt → Fo) (i : Nat) (ms : Mi (List Dt)) : Mi Dt := fun ρ => match ρ[i]? with
  | some (some (.own _ _)) => mBind ms (fun ds ρ1 => match ρ1[i]? with
    | some (some (.own io d)) => if ds.length + 1 = n then (match f (d :: ds) with
      | .ret r o => .ok r (ρ1.set i (some (.own io o)))
      | .exc x o => .exc x (ρ1.set i (some (.own io o)))
      | .bad => .bad) else .bad
    | _ => .bad) ρ
  | _ => .bad
theorem Ok.calledIo {i : Nat} {io : Bool} {d o : Dt} {a : Addr} (k : Ok T π A F H σ ρ) (e : ρ[i]? = some (some (.own io d))) (s : σ[i]? = some (some (.ref a))) (le : Le F' H') (r : Fr (pinA (some (a, inH H a d))) F H F' H') (io' : IoOk T F' H' (some (a, inH H a d)) o) :
    Ok T π A F' H' σ (ρ.set i (some (.own io o))) ∧ Fr A F H F' H' := by
  have hi : i < ρ.length := (List.getElem?_eq_some_iff.mp e).1
  obtain ⟨i1, i2, i3, i4⟩ := io' _ rfl
  dsimp only at i1 i2 i3 i4
  have hA : ∀ x, pinA (some (a, inH H a d)) x → A x := fun x ⟨q, hq, hx⟩ => by
    cases hq
    exact k.ownA ⟨i, io, d, a, e, s, hx⟩
  have ne : ∀ (j : Nat) jo dj b, i ≠ j → ρ[j]? = some (some (.own jo dj)) → σ[j]? = some (some (.ref b)) → ∀ x, (x = b ∨ x ∈ inH H b dj) → ¬ pinA (some (a, inH H a d)) x := fun j jo dj b hj ej sj x hx ⟨q, hq, hz⟩ => by
    cases hq
    exact hj (k.dis i j io jo d dj a b x e ej s sj hz hx)
  have smj : ∀ (j : Nat) jo dj b, i ≠ j → ρ[j]? = some (some (.own jo dj)) → σ[j]? = some (some (.ref b)) → inH H' b dj = inH H b dj := fun j jo dj b hj ej sj => by
    obtain ⟨b', q1, q2, q3, q4, q5⟩ := k.own j jo dj ej
    rw [sj] at q1
    cases q1
    exact q3.same fun o q => r.h b o (ne j jo dj b hj ej sj b (.inl rfl)) q
  refine ⟨⟨le, by simpa using k.len, fun j dj ej => ?_, fun j jo dj ej => ?_, fun j l jo lo dj dl b c x ej el sj sl xj xl => ?_⟩, r.weak hA⟩
  · by_cases hj : i = j
    · subst hj; rw [List.getElem?_set_self hi] at ej; cases ej
    · rw [List.getElem?_set_ne hj] at ej
      obtain ⟨v, h1, h2⟩ := k.val j dj ej
      exact ⟨v, h1, h2.mono r.f⟩
  · by_cases hj : i = j
    · subst hj
      rw [List.getElem?_set_self hi] at ej
      cases ej
      obtain ⟨b, h1, _, _, h4, h5⟩ := k.own i _ d e
      rw [s] at h1
      cases h1
      exact ⟨a, s, i1, i2, h4, by rw [i3]; exact h5.1, fun x hx => by rw [i3] at hx; exact ⟨i4 x hx, (h5.2 x hx).2⟩⟩
    · rw [List.getElem?_set_ne hj] at ej
      obtain ⟨b, q1, q2, q3, q4, q5, q6⟩ := k.own j jo dj ej
      have fe : ∀ x, (x = b ∨ x ∈ inH H b dj) → F' x = F x := fun x hx => by
        obtain ⟨ob, hob, ht⟩ := q3.hasI hx
        exact r.n x ob (ne j jo dj b hj ej q1 x hx) hob ht
      exact ⟨b, q1, by rw [fe b (.inl rfl)]; exact q2, q3.mono r.f fun x hx u q => r.h x u (ne j jo dj b hj ej q1 x hx) q, q4, by rw [smj j jo dj b hj ej q1]; exact q5, fun x hx => by
        rw [smj j jo dj b hj ej q1] at hx
        exact ⟨by rw [fe x (.inr hx)]; exact (q6 x hx).1, (q6 x hx).2⟩⟩
  · have back : ∀ (j : Nat) jo dj b, (ρ.set i (some (.own io o)))[j]? = some (some (.own jo dj)) → σ[j]? = some (some (.ref b)) → ∃ jo dk, ρ[j]? = some (some (.own jo dk)) ∧ inH H b dk = inH H' b dj := fun j jo dj b ej sj => by
      by_cases hj : i = j
      · subst hj; rw [List.getElem?_set_self hi] at ej; cases ej; rw [s] at sj; cases sj; exact ⟨io, d, e, i3.symm⟩
      · rw [List.getElem?_set_ne hj] at ej; exact ⟨jo, dj, ej, (smj j jo dj b hj ej sj).symm⟩
    obtain ⟨_, _, gj, ij⟩ := back j jo dj b ej sj
    obtain ⟨_, _, gl, il⟩ := back l lo dl c el sl
    exact k.dis j l _ _ _ _ b c x gj gl sj sl (by rw [ij]; exact xj) (by rw [il]; exact xl)
theorem sp_callIo {n i : Nat} {rn : Bool} {f : List Dt → Fo} {Q : VK} {vs : List V} {ds : List Dt} {a : Addr} {P : Dt → En → Hp → Hp → Prop} (k : Ok T π A F H σ ρ) (s : σ[i]? = some (some (.ref a))) (r : Reps T F vs ds)
    (p : Post T π W σ A F H P (match ρ[i]? with
      | some (some (.own io d)) => if ds.length + 1 = n then (match f (d :: ds) with
        | .ret r o => Ou.ok r (ρ.set i (some (.own io o)))
        | .exc x o => .exc x (ρ.set i (some (.own io o)))
        | .bad => .bad) else .bad
      | _ => .bad))
    (q : ∀ d ρ' F' H' v, Ok T π A F' H' σ ρ' → RetOk T H F' H' v d rn → P d ρ' F' H' → Q v H') : spM T n true rn f (.ref a :: vs) H Q (WE W σ) := by
  split at p
  · rename_i io d e
    by_cases hl : ds.length + 1 = n
    · rw [if_pos hl] at p
      obtain ⟨a', h1, h2, h3, h4, h5⟩ := k.own i io d e
      rw [s] at h1
      cases h1
      refine ⟨F, d :: ds, some (a, inH H a d), by rw [List.length_cons, r.length]; exact hl, k.le, ⟨a, vs, d, ds, rfl, rfl, h2, h3, r, rfl, fun x hx => (h5.2 x hx).1⟩, ?_⟩
      cases ef : f (d :: ds) with
      | ret rr oo =>
        rw [ef] at p
        exact fun F' H' v le fr io' rv => by
          obtain ⟨k', r'⟩ := k.calledIo e s le fr io'
          exact q rr _ F' H' v k' rv (p F' H' k' r')
      | exc x oo =>
        rw [ef] at p
        exact fun F' H' cc dd le fr io' rx => by
          obtain ⟨k', r'⟩ := k.calledIo e s le fr io'
          exact p F' H' cc dd k' r' rx
      | bad => rw [ef] at p; exact p.elim
    · rw [if_neg hl] at p; exact p.elim
  · exact p.elim
variable {k n i : Nat} {f : Addr} {fd : FuncData} {ps : List Str} {x : Str} {fm : List Dt → Fo}
theorem de_callIo {v : Str} {pv_ : Pos} (G : FnOk X.prog X.w X.K X.mg X.base (L2.CX X.prog X.w) k f fd ps (spM T n true false fm)) (hr : Room k X.A) (hg : Gl X x) (hm : X.mg x = some (.ref f)) (hk : PySem.W.keepIn X.K (.ref f) = true) (hb : Binds X.K fd ps []) (tk : Takes X W) (hv : PE X (.Name v pv_) (tVar i)) (ha : PA X es (TMa T π W ms))
    (hdb : (x == ("__debug__" : Str)) = false := by decide) (he : starEach (.Name v pv_ :: es) X.env = (false, eval (.Name v pv_) X.env) :: starEach es X.env := by rfl) (hpl : (backTo pos (starEach es X.env)).any (·.1) = false := by rfl) :
    PE X (.Call (.Name x p) (.Name v pv_ :: es) [] pos) (TMe T π W (mCallIo n fm i ms)) := (pe_callSD (E := WE W) G hr hg hm hk hb .nil (fun σ => passAt tk σ) (pa_cons hv ha he) hdb he hpl).imp fun σ H Q ⟨A, F, ρ, k, p⟩ => by
  unfold mCallIo at p
  split at p
  · rename_i io d e
    obtain ⟨a, h1, h2⟩ := k.own i io d e
    refine ⟨.ref a, h1, A, F, ρ, k, p.bind.imp fun ds ρ1 F1 H1 k1 r1 p1 vs rvs => ?_⟩
    show spM T n true false fm ((.ref a :: vs) ++ []) H1 Q (WE W σ)
    rw [List.append_nil]
    exact sp_callIo k1 h1 rvs p1 fun d ρ' F' H' v _ rv q => q v rv
  · exact p.elim
/-! ### instances -/
/-- o.f = e, o a slot's own -/
def putFl (i : Nat) (ix : Nat → Option Nat) (y : Dt) : Mi Unit := fun ρ => match ρ[i]? with
  | some (some (.own io (.ins c ds))) => (match ix c with
    | some j => if j < ds.length then .ok () (ρ.set i (some (.own io (.ins c (ds.set j y))))) else if j = ds.length then .ok () (ρ.set i (some (.own io (.ins c (ds ++ [y]))))) else .bad
    | none => .bad)
  | _ => .bad
def sFput (i : Nat) (ix : Nat → Option Nat) (m : Mi Dt) : En → So := sBind m fun y => sBind (putFl i ix y) fun _ ρ => .nx ρ
/-- C(..) -/
def mMake (c n : Nat) (f : List Dt → Fo) (ms : Mi (List Dt)) : Mi Dt := mBind ms fun ds ρ => if ds.length + 1 = n then (match f (.ins c [] :: ds) with
  | .ret .non o => .ok o ρ
  | .ret _ _ => .bad
  | .exc x _ => .exc x ρ
  | .bad => .bad) else .bad
/-- o.m(..), o any value of the class (not changed) -/
def mMeth (c n : Nat) (f : List Dt → Fo) (m : Mi Dt) (ms : Mi (List Dt)) : Mi Dt := mBind m fun d => match d with
  | .ins c' vs => if c' = c then mBind ms fun ds ρ => if (Dt.ins c' vs :: ds).length = n then (match f (.ins c' vs :: ds) with
    | .ret d _ => .ok d ρ
    | .exc x _ => .exc x ρ
    | .bad => .bad) else .bad else mBad
  | _ => mBad
/-! ### texts -/
/-! ### x in a list or tuple of flat things -/
end
end Dl
namespace Dl
open PySem PySem.Spec PyProof.Rows L2
section
variable {X : Cx} {T : Tx} {π : Nat → Option Pin} {W : WX} {a b c e o l : Expr} {es : List Expr} {pos p tpos : Pos} {m ma mb mc : Mi Dt} {ms : Mi (List Dt)} {A A' A0 : Addr → Prop} {F H F' H' F0 H0 : Hp} {σ : L2.St} {ρ : En} {tg : Expr} {elts : List Expr} {kk : Nat}
/-! ### {k: v for ..}, keys whole numbers and texts -/
/-! ### max, min of two whole numbers -/
def fMax2 : Dt → Dt → Option Dt := fI fun i j => some (.int (if j > i then j else i))
def fMin2 : Dt → Dt → Option Dt := fI fun i j => some (.int (if j < i then j else i))
theorem de_mm2 {g : Int → Int → Int} (h : PE X e (tCB (fun xs H Q => ∃ i j, xs = [V.int i, V.int j] ∧ Q (.int (g i j)) H) (tCons (TMe T π W ma) (tCons (TMe T π W mb) tNil)))) : PE X e (TMe T π W (m2 (fI fun i j => some (.int (g i j))) ma mb)) := h.imp fun σ H Q ⟨A, F, ρ, k, p⟩ =>
  ⟨A, F, ρ, k, p.bind.imp fun x ρ1 F1 H1 k1 r1 p1 v rv => ⟨A, F1, ρ1, k1, p1.bind.imp fun y ρ2 F2 H2 k2 r2 p2 w rw => by
    obtain ⟨z, ez, p3⟩ := p2.opt
    obtain ⟨i, j, e1, e2, e3⟩ := fI_inv ez
    subst e1 e2
    cases e3
    exact ⟨i, j, by rw [rv.int_inv, rw.int_inv], p3.pure k2 _ (.int _)⟩⟩⟩
end
end Dl
namespace Dl
open PySem PySem.Spec PyProof.Rows L2
/-! ### {k: v for ..}, keys of either kind -/
section
variable {X : Cx} {T : Tx} {π : Nat → Option Pin} {W : WX} {a b c e o l : Expr} {es : List Expr} {pos p tpos : Pos} {m ma mb mc : Mi Dt} {ms : Mi (List Dt)} {A A' A0 : Addr → Prop} {F H F' H' F0 H0 : Hp} {σ : L2.St} {ρ : En} {tg : Expr}
/-! ### x in a list or tuple of data -/
def rNotInA (K : PySem.W.Frag) : R2 := fun x y H Q => ∃ d ds, Dp K H x d ∧ (Dp K H y (.list ds) ∨ Dp K H y (.tuple ds)) ∧ SeqAt.shaped d = true ∧ d.depth ≤ 60 ∧ SeqAt.shaped (.list ds) = true ∧ Q (.bl (!ds.any fun z => PyData.eqv z d)) H
theorem op_notInA (hu : X.A.units + 64 < cLine) : OpR X (compareOp .NotIn) (rNotInA X.K) := by
  rintro pins s σ H x y v u Q I rx ry ⟨d, ds, hd, he, sd, hdep, se, q⟩
  obtain ⟨as, r1⟩ := Dp.reads I d x v hd rx
  rcases he with he | he
  · obtain ⟨bs, r2⟩ := Dp.reads I _ y u he ry
    exact SeqAt.notIn_list_reads r2 r1 (SeqAt.canLay_of_shaped se) (SeqAt.canLay_of_shaped sd) (by have := Nat.min_le_right (PyData.depthAll ds) d.depth; omega) ⟨.bl _, H, I, rfl, q⟩
  · obtain ⟨bs, r2⟩ := Dp.reads I _ y u he ry
    exact SeqAt.notIn_tuple_reads r2 r1 (SeqAt.canLay_of_shaped se) (SeqAt.canLay_of_shaped sd) (by have := Nat.min_le_right (PyData.depthAll ds) d.depth; omega) ⟨.bl _, H, I, rfl, q⟩
def itemsD : Dt → Option (List Dt)
  | .lst xs => some xs
  | .tup xs => some xs
  | _ => none
def dIn (x d : Dt) : Option Bool := match toPy x, (itemsD d).bind toPys with
  | some p, some ps => if SeqAt.shaped p && decide (p.depth ≤ 60) && SeqAt.shaped (.list ps) then some (ps.any fun z => PyData.eqv z p) else none
  | _, _ => none
def fInA (x d : Dt) : Option Dt := (dIn x d).map .bl
def fNotInA (x d : Dt) : Option Dt := (dIn x d).map fun b => .bl (!b)
theorem dIn_inv {x d : Dt} {b : Bool} {v w : V} (le : Le F H) (rv : RepS T F H v x) (rw : RepS T F H w d) (h : dIn x d = some b) : ∃ p ps, Dp T.K H v p ∧ (Dp T.K H w (.list ps) ∨ Dp T.K H w (.tuple ps)) ∧ SeqAt.shaped p = true ∧ p.depth ≤ 60 ∧ SeqAt.shaped (.list ps) = true ∧ (ps.any fun z => PyData.eqv z p) = b := by
  unfold dIn at h
  split at h
  · rename_i p ps e1 e2
    split at h
    · rename_i hs
      cases h
      rw [Bool.and_eq_true_iff, Bool.and_eq_true_iff] at hs
      refine ⟨p, ps, dp_ofS le rv e1, ?_, hs.1.1, by simpa using hs.1.2, hs.2, rfl⟩
      cases d with
      | lst xs => exact .inl (dp_ofS le rw (by unfold toPy; rw [show toPys xs = some ps from e2]; rfl))
      | tup xs => exact .inr (dp_ofS le rw (by unfold toPy; rw [show toPys xs = some ps from e2]; rfl))
      | _ => cases e2
    · cases h
  · cases h
theorem os_notInA : OpS T (rNotInA T.K) fNotInA := ops_pure fun F H v w d e z Q le rv rw ef q => by
  unfold fNotInA at ef
  cases h : dIn d e with
  | none => rw [h] at ef; cases ef
  | some b =>
    rw [h] at ef
    cases ef
    obtain ⟨p, ps, h1, h2, h3, h4, h6, h5⟩ := dIn_inv le rv rw h
    subst h5
    exact ⟨p, ps, h1, h2, h3, h4, h6, q _ (.bl _)⟩
/-! ### pop -/
end
end Dl
namespace Dl
open PySem PySem.Spec PyProof.Rows L2
section
variable {X : Cx} {T : Tx} {π : Nat → Option Pin} {W : WX} {a b c e tg : Expr} {es : List Expr} {pos p p2 : Pos} {m ma mb mc : Mi Dt} {ms : Mi (List Dt)} {A A' : Addr → Prop} {F H F' H' F0 H0 : Hp} {σ : L2.St} {ρ : En} {i : Nat}
/-! ### slices -/
def TMo (T : Tx) (π : Nat → Option Pin) (W : WX) (m : Mi (Option Int)) : TO := fun σ H Q => ∃ A F ρ, Ok T π A F H σ ρ ∧ Post T π W σ A F H (fun o _ _ H' => Q o H') (m ρ)
theorem _root_.L2.PO.imp {e : Option Expr} {t t' : TO} (h : PO X e t) (f : ∀ σ H Q, t' σ H Q → t σ H Q) : PO X e t' := ⟨fun pins s σ H Q I q => h.run pins s σ H Q I (f σ H Q q)⟩
def mPart (m : Mi Dt) : Mi (Option Int) := mBind m fun d => match d with
  | .int i => mPure (some i)
  | _ => mBad
theorem do_none : PO X none (TMo T π W (mPure none)) := po_none.imp fun σ H Q ⟨A, F, ρ, k, p⟩ => p.pure k
theorem do_some (h : PE X e (TMe T π W m)) : PO X (some e) (TMo T π W (mPart m)) := (po_some h).imp fun σ H Q ⟨A, F, ρ, k, p⟩ => ⟨A, F, ρ, k, p.bind.imp fun d ρ1 F1 H1 k1 r1 p1 v rv => by
  cases d with
  | int i => exact ⟨i, rv.int_inv, p1.pure k1⟩
  | _ => exact p1.elim⟩
def cutD {α : Type} (xs : List α) (lo hi : Option Int) : List α := (xs.drop (HT.sIx xs.length 0 lo)).take (HT.sIx xs.length xs.length hi - HT.sIx xs.length 0 lo)
theorem cut_v (xs : List V) (lo hi : Option Int) : cutV xs lo hi = cutD xs lo hi := rfl
theorem cut_map {α β : Type} (f : α → β) (xs : List α) (lo hi : Option Int) : cutD (xs.map f) lo hi = (cutD xs lo hi).map f := by
  unfold cutD; rw [List.length_map, List.map_take, List.map_drop]
theorem Reps.cut {vs : List V} {ds : List Dt} (r : Reps T F vs ds) (lo hi : Option Int) : Reps T F (cutV vs lo hi) (cutD ds lo hi) := by
  unfold cutV cutD; rw [r.length]; exact (r.drop _).take _
def fSl : Dt → Option Int → Option Int → Option Dt
  | .lst ds, lo, hi => some (.lst (cutD ds lo hi))
  | .scr ns, lo, hi => some (.lst ((cutD ns lo hi).map .int))
  | .tup ds, lo, hi => some (.tup (cutD ds lo hi))
  | .str z, lo, hi => if z.length ≤ sizeLine then some (.str (cutS z lo hi)) else none
  | _, _, _ => none
def rSlAll (K : PySem.W.Frag) : V → Option Int → Option Int → Hp → VK → Prop := fun x lo hi H Q => rSlL K x lo hi H Q ∨ (rSlA K x lo hi H Q ∨ rSlS x lo hi H Q)
theorem sl_all : SlR X (rSlAll X.K) := SlR.or sl_list (SlR.or sl_tupA sl_str)
/-- a slice, kept -/
theorem sl_go {v : V} {d z : Dt} {lo hi : Option Int} {Q : VK} (k : Ok T π A F H σ ρ) (rv : RepS T F H v d) (ef : fSl d lo hi = some z) (q : ∀ F' H' u, Ok T π A F' H' σ ρ → Fr A F H F' H' → Rep T F' u z → Q u H') : rSlAll T.K v lo hi H Q := by
  have new : ∀ (o : HO) (p : Addr) (z : Dt), H p = none → (∀ F', Le F F' → F' p = some o → Rep T F' (.ref p) z) → (∀ F' H' u, Ok T π A F' H' σ ρ → Fr A F H F' H' → Rep T F' u z → Q u H') → Q (.ref p) (upd H p o) := fun o p z hp hz q =>
    q (upd F p o) (upd H p o) _ (k.new hp) (.new k.le hp) (hz _ (le_new (f_none k.le hp)) upd_same)
  cases d with
  | lst ds =>
    cases ef
    obtain ⟨a, vs, e, h, r⟩ := rv.lst_inv k.le
    exact .inl ⟨a, vs, e, SqL.of h, fun p hp => new _ p _ hp (fun F' l h => .lst h ((r.cut lo hi).mono l)) q⟩
  | scr ns =>
    cases ef
    obtain ⟨a, e, h⟩ := rv.scr_inv k.le
    refine .inl ⟨a, _, e, h, fun p hp => new _ p _ hp (fun F' l h => .lst h ?_) q⟩
    rw [cut_v, cut_map]
    exact ints_reps _
  | tup ds =>
    cases ef
    obtain ⟨a, vs, e, h, r⟩ := (rv.flat trivial).tup_inv
    refine .inr (.inl ⟨a, vs, e, sqt_mono k.le h, fun hw => ?_, fun hw p hp => ?_⟩)
    · have ee : cutD ds lo hi = ds := by
        unfold cutD
        rw [← r.length, hw.1, hw.2, List.drop_zero, Nat.sub_zero, r.length, List.take_length]
      rw [ee] at q
      subst e
      exact q F H _ k .refl (rv.flat trivial)
    · exact new _ p _ hp (fun F' l h => .tup h ((r.cut lo hi).mono l)) q
  | str x =>
    unfold fSl at ef
    dsimp only at ef
    split at ef
    · rename_i hz
      cases ef
      exact .inr (.inr ⟨x, rv.str_inv, hz, q F H _ k .refl (.str _)⟩)
    · cases ef
  | _ => cases ef
/-- a slice of a slot's own or kept thing -/
def mSlV (i : Nat) (ml mh : Mi (Option Int)) : Mi Dt := mBind ml fun lo => mBind mh fun hi => mBind (mPeek i) fun x => mOpt (fSl x lo hi)
theorem de_slV {lo hi : Option Expr} {ml mh : Mi (Option Int)} (hK : X.K = T.K) (h : PE X (.Subscript e (.Slice lo hi none p2) pos) (tSl (rSlAll X.K) (tVar i) (TMo T π W ml) (TMo T π W mh))) : PE X (.Subscript e (.Slice lo hi none p2) pos) (TMe T π W (hasSl i (mSlV i ml mh))) :=
  h.imp fun σ H Q ⟨A, F, ρ, k, p⟩ => by
    unfold hasSl at p
    split at p
    · rename_i s e
      have hs : ∃ v, σ[i]? = some (some v) := by
        cases s with
        | val d => obtain ⟨v, h1, _⟩ := k.val i d e; exact ⟨v, h1⟩
        | own io d => obtain ⟨a, h1, _⟩ := k.own i io d e; exact ⟨_, h1⟩
      obtain ⟨v, hv⟩ := hs
      refine ⟨v, hv, A, F, ρ, k, p.bind.imp fun lo ρ2 F2 H2 k2 r2 p2 => ⟨A, F2, ρ2, k2, p2.bind.imp fun hi ρ3 F3 H3 k3 r3 p3 => ?_⟩⟩
      obtain ⟨d, v', h1, h2, p4⟩ := mPeek_inv p3.bind k3
      rw [hv] at h1
      cases h1
      obtain ⟨z, ez, p5⟩ := p4.opt
      rw [hK]
      exact sl_go k3 h2 ez fun F' H' u k' r' ru => p5 F' H' k' r' u ru
    · exact p.elim
/-! ### list(range(..)) -/
def rgD (a b : Int) : List Dt := (List.range (b - a).toNat).map fun i => Dt.int (a + (i : Nat))
instance (a b : Int) : Decidable (RgOk a b) := by unfold RgOk; exact inferInstance
def mLstRg (m : Mi Dt) : Mi Dt := mBind m fun d => match d with
  | .int n => if RgOk 0 n then mPure (.lst (rgD 0 n)) else mBad
  | _ => mBad
/-! ### range(a, b, c) walked -/
/-! ### a < b < c as a value -/
/-! ### three names at once -/
theorem Gk.length {ks : List Bool} {vs : List V} {ds : List Dt} {as : List Addr} (g : Gk T F H A ks vs ds as) : vs.length = ks.length := by
  induction g with
  | nil => rfl
  | val _ _ ih => rw [List.length_cons, List.length_cons, ih]
  | own _ _ _ _ _ _ ih => rw [List.length_cons, List.length_cons, ih]
theorem Gk.mono {ks : List Bool} {vs : List V} {ds : List Dt} {as : List Addr} (g : Gk T F H A ks vs ds as) (hh : ∀ a o, H a = some o → H' a = some o) : Gk T F H' A ks vs ds as := by
  induction g with
  | nil => exact .nil
  | val r _ ih => exact .val r ih
  | own h1 h2 h3 h4 h5 _ ih =>
    have sm := h3.same fun o q => hh _ o q
    rw [← sm] at h5 ⊢
    exact .own h1 h2 (h3.mono (le_refl _) fun x _ o q => hh x o q) h4 h5 ih
/-! ### xs * n -/
def mRep (ma mb : Mi Dt) : Mi Dt := mBind ma fun x => mBind mb fun y => match x, y with
  | .lst ds, .int n => if -(2 ^ 63) ≤ n ∧ n < 2 ^ 63 ∧ ds.length * n.toNat ≤ sizeLine then mPure (.lst (List.replicate n.toNat ds).flatten) else mBad
  | _, _ => mBad
theorem Reps.flat {vs : List V} {ds : List Dt} (r : Reps T F vs ds) : ∀ n, Reps T F (List.replicate n vs).flatten (List.replicate n ds).flatten
  | 0 => .nil
  | n + 1 => by
    rw [List.replicate_succ, List.replicate_succ, List.flatten_cons, List.flatten_cons]
    exact r.append (Reps.flat r n)
theorem dn_rep (ha : PE X a (TMe T π W ma)) (hb : PE X b (TMp T π W mb)) : PE X (.BinOp a .Mult b pos) (TMn T π W (mRep ma mb)) := (pe_op op_rep ha hb).imp fun σ H Q ⟨A, F, ρ, k, p⟩ =>
  ⟨A, F, ρ, k, p.bind.imp fun x ρ1 F1 H1 k1 r1 p1 v rv => ⟨A, F1, ρ1, k1, p1.bind.imp fun y ρ2 F2 H2 k2 r2 p2 w rw => by
    cases x with
    | lst ds =>
      cases y with
      | int n =>
        dsimp only at p2
        split at p2
        · rename_i hn
          obtain ⟨a, vs, e, h, r⟩ := (rv.mono r2.f).s.lst_inv k2.le
          exact ⟨a, n, vs, e, rw.int_inv, h, hn.1, hn.2.1, by rw [r.length]; exact hn.2.2, fun q hq => p2 F2 _ (k2.newO hq) (.newO hq) q (f_none k2.le hq) (k2.fresh_new hq) (r1.t q (r2.t q hq)) ⟨_, upd_same, r.flat _⟩ (fun _ z => nomatch z)⟩
        · exact p2.elim
      | _ => exact p2.elim
    | _ => exact p2.elim⟩⟩
end
end Dl
namespace Dl
open PySem PySem.Spec PyProof.Rows L2
section
variable {X : Cx} {T : Tx} {π : Nat → Option Pin} {W : WX} {a b c e tg : Expr} {es : List Expr} {pos p p2 : Pos} {m ma mb mc : Mi Dt} {ms : Mi (List Dt)} {A A' : Addr → Prop} {F H F' H' F0 H0 : Hp} {σ : L2.St} {ρ : En} {i : Nat}
/-! ### repr of a flat thing -/
/-! ### a new thing, one of two -/
theorem dn_ifExp {ta : Mi Bool} (hc : PT X c (TMt T π W ta)) (ha : PE X a (TMn T π W ma)) (hb : PE X b (TMn T π W mb)) : PE X (.IfExp c a b pos) (TMn T π W (mIfE ta ma mb)) :=
  (pe_ifExp hc ha hb).imp fun σ H Q ⟨A, F, ρ, k, p⟩ => ⟨A, F, ρ, k, p.bind.imp fun t ρ1 F1 H1 k1 r1 p1 => by
    cases t with
    | true => exact iteT ⟨A, F1, ρ1, k1, Post.imp p1 fun d ρ2 F2 H2 _ _ q x h1 h2 h3 h4 h5 => q x h1 h2 (r1.t x h3) h4 fun y hy => ⟨(h5 y hy).1, (h5 y hy).2.1, r1.t y (h5 y hy).2.2⟩⟩
    | false => exact iteF ⟨A, F1, ρ1, k1, Post.imp p1 fun d ρ2 F2 H2 _ _ q x h1 h2 h3 h4 h5 => q x h1 h2 (r1.t x h3) h4 fun y hy => ⟨(h5 y hy).1, (h5 y hy).2.1, r1.t y (h5 y hy).2.2⟩⟩⟩
/-! ### xs[::-1] -/
end
end Dl
namespace Dl
open PySem PySem.Spec PyProof.Rows L2
-- k02
def b_is_integer : En → So :=
  (sRet (mAndV (m1 (fIsi .int) (mPeek 0)) (mNotV (m1 (fIsi .bool) (mPeek 0)))))
def m_is_integer : List Dt → Fo := runF 1 false false b_is_integer
-- k02
-- k02
-- k02
def b_is_sequence : En → So :=
  (sRet (m1 (fIsi2 .list .tuple) (mPeek 0)))
def m_is_sequence : List Dt → Fo := runF 1 false false b_is_sequence
-- k02
-- k02
-- k02
-- k02
-- k06
-- k06
-- k06
-- k06
-- k06
-- k08
-- k08
-- k08
-- k08
-- k12
-- k12
-- k12
-- k12
-- k12
-- k12
-- k12
-- k12
-- k12
-- k12
-- k12
-- k12
-- k12
-- k12
-- k28
-- k29
-- k29
-- k35
-- k35
-- k35
-- k40
-- k40
-- k51
def b_need_days : En → So :=
  (sSeq (sIf (mOr (mNot (mB (mCall 1 m_is_sequence (mCons (mVar 0) (mPure []))))) (mB (m2 fEq (m1 fLen (mPeek 0)) (mPure (.int 0))))) (fun _ => .bad) (fun ρ => .nx ρ))
  (sSeq (sSetN 2 (mPure (.dic false [] [])))
  (sSeq (sFor (mEnumI (mVar 0)) (gT (gsC (gV 3) (gsC (gV 4) gsN)) 2) (sSeq (sIf (mOr (mNot (mB (mCall 1 m_is_integer (mCons (mVar 4) (mPure []))))) (mOr (mNot (mB (mChain fLe fLt (mPure (.int 0)) (mVar 4) (mPeek 1)))) (mB (m2 fDin (mVar 4) (mPeek 2))))) (fun _ => .bad) (fun ρ => .nx ρ))
  (sDput 2 (mVar 4) (mPure (.bl true)))))
  (sRet (m1 fTuple (m1N fSorted (mLc (mSeqI (mVar 0)) (gV 4) (mPure true) (m1 fInt (mPeek 4)) [4])))))))
def m_need_days : List Dt → Fo := runF 5 false false b_need_days
-- k51
def b_longest_steps : En → So :=
  (sSeq (sPars [2, 3] [false, true] (mCons (m1 fLen (mPeek 0)) (mCons (mLst (mPure [])) (mPure []))))
  (sSeq (sSet 4 (mLst (mStar (mPeek 0) (mStar (mLc (mSeqI (mVar 0)) (gV 6) (mPure true) (m2 fAdd (mVar 6) (mPeek 1)) [6]) (mPure [])))))
  (sSeq (sFor (mRng2 (mCons (mPure (.int 1)) (mCons (m2 fAdd (mVar 2) (mPure (.int 1))) (mPure [])))) (gV 5) (sDrop (ownLst 3 (mAppend 3 (m1 fMax (mLc (mRng1 (mCons (mVar 2) (mPure []))) (gV 7) (mPure true) (m1 fInt (m2 fSub (hasSl 4 (mIxV 4 (m2 fAdd (mVar 7) (mPeek 5)))) (hasSl 4 (mIxV 4 (mVar 7))))) [7]))))))
  (sRet (m1 fTuple (mPeek 3))))))
def m_longest_steps : List Dt → Fo := runF 8 false false b_longest_steps
-- k51
def b_stair : En → So :=
  (sSeq (sPars [3, 4] [false, false] (mCons (m2 fDiv (mVar 2) (m1 fLen (mPeek 0))) (mCons (m2 fMod (mVar 2) (m1 fLen (mPeek 0))) (mPure []))))
  (sRet (m2 fAdd (m2 fMulI (mVar 3) (mPeek 1)) (hasSl 0 (mIxV 0 (mVar 4))))))
def m_stair : List Dt → Fo := runF 5 false false b_stair
-- k51
def b_ring_gap : En → So :=
  (sSeq (sSet 3 (mCall 2 m_need_days (mCons (mVar 0) (mCons (mVar 1) (mPure [])))))
  (sRet (mCall 3 m_stair (mCons (mCall 2 m_longest_steps (mCons (mVar 3) (mCons (mVar 1) (mPure [])))) (mCons (mVar 1) (mCons (mVar 2) (mPure [])))))))
def m_ring_gap : List Dt → Fo := runF 4 false false b_ring_gap
-- k52
def b_least_gap : En → So :=
  (sRet (m1 fNeg (m2 fDiv (m2 fMulI (m1 fNeg (m2 fAdd (mVar 2) (mPure (.int 1)))) (mPeek 0)) (mPeek 1))))
def m_least_gap : List Dt → Fo := runF 3 false false b_least_gap
-- k52
def b_is_best : En → So :=
  (sSeq (sSet 2 (mCall 2 m_longest_steps (mCons (mCall 2 m_need_days (mCons (mVar 0) (mCons (mVar 1) (mPure [])))) (mCons (mVar 1) (mPure [])))))
  (sRet (m1 fAll (mLc (mEnumI (mVar 2)) (gT (gsC (gV 3) (gsC (gV 4) gsN)) 2) (mPure true) (m2 fEq (mVar 4) (mCall 3 m_least_gap (mCons (mVar 1) (mCons (m1 fLen (mPeek 2)) (mCons (mVar 3) (mPure [])))))) [3, 4]))))
def m_is_best : List Dt → Fo := runF 5 false false b_is_best
-- k52
def b_shared_length : En → So :=
  (sSeq (sPars [2, 3] [false, false] (mCons (mVar 0) (mCons (mVar 1) (mPure []))))
  (sSeq (sWhile 1000 (mB (m2 fGt (mVar 3) (mPure (.int 0)))) (sPars [2, 3] [false, false] (mCons (mVar 3) (mCons (m2 fMod (mVar 2) (mPeek 3)) (mPure [])))))
  (sRet (m2 fDiv (m2 fMulI (mVar 0) (mPeek 1)) (mPeek 2)))))
def m_shared_length : List Dt → Fo := runF 4 false false b_shared_length
-- k52
def b_is_never_longer : En → So :=
  (sSeq (sIf (mB (m2 fGt (m2 fMulI (mVar 1) (m1 fLen (mPeek 2))) (m2 fMulI (mVar 3) (m1 fLen (mPeek 0))))) (sRet (mPure (.bl false))) (fun ρ => .nx ρ))
  (sSeq (sFor (mRng1 (mCons (mCall 2 m_shared_length (mCons (m1 fLen (mPeek 0)) (mCons (m1 fLen (mPeek 2)) (mPure [])))) (mPure []))) (gV 4) (sIf (mB (m2 fGt (mCall 3 m_stair (mCons (mVar 0) (mCons (mVar 1) (mCons (mVar 4) (mPure []))))) (mCall 3 m_stair (mCons (mVar 2) (mCons (mVar 3) (mCons (mVar 4) (mPure []))))))) (sRet (mPure (.bl false))) (fun ρ => .nx ρ)))
  (sRet (mPure (.bl true)))))
def m_is_never_longer : List Dt → Fo := runF 5 false false b_is_never_longer
-- k52
def b_no_longer : En → So :=
  (sSeq (sSet 3 (mCall 2 m_longest_steps (mCons (mCall 2 m_need_days (mCons (mVar 0) (mCons (mVar 2) (mPure [])))) (mCons (mVar 2) (mPure [])))))
  (sRet (mCall 4 m_is_never_longer (mCons (mVar 3) (mCons (mVar 2) (mCons (mCall 2 m_longest_steps (mCons (mCall 2 m_need_days (mCons (mVar 1) (mCons (mVar 2) (mPure [])))) (mCons (mVar 2) (mPure [])))) (mCons (mVar 2) (mPure []))))))))
def m_no_longer : List Dt → Fo := runF 4 false false b_no_longer
-- k53
-- k56
-- k56
-- k56
-- k56
-- k56
-- k56
-- k57
-- k57
-- k57
-- k57
-- k59
-- k59
-- k59
-- k60
-- k60
-- k60
-- k60
-- k60
-- k60
-- k60
-- k60
-- k63
-- k63
-- k63
-- k66
-- k66
-- k66
-- k66
-- k66
-- k66
end Dl
namespace Dl
open PySem PySem.Spec PyProof.Rows L2
-- k01
def b_law_box : En → So :=
  (sSeq (sSet 3 (m2 fAdd (m2 fAdd (m2 fMulI (mPure (.int 7727)) (mPeek 1)) (m2 fMulI (mPure (.int 104729)) (mPeek 2))) (mPure (.int 43))))
  (sSeq (sIf (mB (m2 fLt (mVar 1) (m1 fLen (mPeek 0)))) (sSet 3 (m1 fAbs (hasSl 0 (mIxV 0 (mVar 1))))) (sIf (mB (m2 fGt (m1 fLen (mPeek 0)) (mPure (.int 0)))) (sSet 3 (m2 fAdd (mVar 3) (m2 fMulI (m2 fMod (m1 fInt (m1 fAbs (hasSl 0 (mIxV 0 (m2 fMod (m1 fInt (mPeek 1)) (m1 fLen (mPeek 0))))))) (mPure (.int 2147483629))) (mPure (.int 69623))))) (fun ρ => .nx ρ)))
  (sSeq (sSet 4 (m2 fAdd (m2 fMod (m1 fInt (m2 fAdd (m2 fMulI (m2 fMod (m1 fInt (mPeek 3)) (mPure (.int 2147483629))) (mPure (.int 48271))) (m2 fMulI (mPure (.int 40692)) (m2 fAdd (mVar 1) (m2 fMulI (mPure (.int 11)) (mPeek 2)))))) (mPure (.int 2147483629))) (mPure (.int 1))))
  (sRetN (mLst (mCons (m2 fIx (mLst (mCons (mPure (.int 0)) (mCons (mVar 3) (mPure [])))) (m1 fInt (m2 fGe (mVar 3) (m2 fPow (mPure (.int 10)) (mPure (.int 18)))))) (mCons (mVar 4) (mCons (mPure (.int 0)) (mPure [])))))))))
-- k01
def b_law_take : En → So :=
  (sSeq (sIf (mB (m2 fGt (hasSl 0 (mIxV 0 (mPure (.int 0)))) (mPure (.int 0)))) (sSeq (sSet 2 (m2 fMod (m1 fInt (hasSl 0 (mIxV 0 (mPure (.int 0))))) (mPeek 1)))
  (sSeq (sLput 0 (mPure (.int 0)) (m2 fDiv (hasSl 0 (mIxV 0 (mPure (.int 0)))) (mPeek 1)))
  (sRet (mVar 2)))) (fun ρ => .nx ρ))
  (sSeq (sLput 0 (mPure (.int 2)) (m2 fAdd (hasSl 0 (mIxV 0 (mPure (.int 2)))) (mPure (.int 1))))
  (sSeq (sSet 3 (m2 fMod (m1 fInt (m2 fMulI (m2 fAdd (hasSl 0 (mIxV 0 (mPure (.int 1)))) (m2 fMulI (mPure (.int 104729)) (hasSl 0 (mIxV 0 (mPure (.int 2)))))) (mPure (.int 69623)))) (mPure (.int 2147483647))))
  (sSeq (sLput 0 (mPure (.int 1)) (m2 fAdd (m2 fMod (m1 fInt (m2 fAdd (m2 fMulI (mVar 3) (mPure (.int 48271))) (mPure (.int 30103)))) (mPure (.int 2147483629))) (mPure (.int 1))))
  (sSeq (sIf (mB (m2 fLt (mVar 1) (m2 fPow (mPure (.int 2)) (mPure (.int 40))))) (sRet (m2 fMod (m1 fInt (m2 fDiv (m2 fAdd (m2 fMulI (mVar 3) (mPure (.int 2147483647))) (hasSl 0 (mIxV 0 (mPure (.int 1))))) (mPure (.int 8191)))) (mPeek 1))) (fun ρ => .nx ρ))
  (sSeq (sSet 4 (m2 fMulI (m2 fAdd (m2 fMulI (mVar 3) (mPure (.int 2147483647))) (hasSl 0 (mIxV 0 (mPure (.int 1))))) (m2 fPow (mPure (.int 2147483629)) (mPure (.int 3)))))
  (sRet (m2 fMod (m1 fInt (m2 fAdd (m2 fAdd (mVar 4) (m2 fMulI (m2 fPow (hasSl 0 (mIxV 0 (mPure (.int 1)))) (mPure (.int 3))) (mPure (.int 8191)))) (mPeek 3))) (mPeek 1)))))))))
def m_law_take : List Dt → Fo := runF 5 true false b_law_take
-- k01
def b_law_pick : En → So :=
  (sRet (hasSl 1 (mIxV 1 (mCallIo 2 m_law_take 0 (mCons (m1 fLen (mPeek 1)) (mPure []))))))
-- k01
-- k02
-- k02
-- k02
-- k02
-- k02
-- k06
def b_law_days : En → So :=
  (sSeq (sPars [2, 3, 4] [false, true, true] (mCons (mLstRg (hasSl 0 (mIxV 0 (mPure (.int 0))))) (mCons (mLst (mPure [])) (mCons (mLst (mPure [])) (mPure [])))))
  (sSeq (sFor (mRng1 (mCons (mVar 1) (mPure []))) (gV 5) (sSeq (sAsg (m2 fIx (hasSl 0 (mIxV 0 (mPure (.int 1)))) (m2 fMod (mVar 5) (m1 fLen (hasSl 0 (mIxV 0 (mPure (.int 1))))))) (gT (gsC (gV 6) (gsC (gV 7) gsN)) 2))
  (sSeq (sDrop (ownLst 3 (mAppend 3 (mVar 2))))
  (sSeq (sDrop (ownLst 4 (mExtend 4 (mLc (mRng1 (mCons (hasSl 0 (mIxV 0 (mPure (.int 0)))) (mPure []))) (gV 8) (mB (m2 fInA (hasSl 2 (mIxV 2 (mVar 8))) (mPeek 6))) (mTup (mCons (mVar 5) (mCons (mVar 8) (mPure [])))) [8]))))
  (sSet 2 (mLc (mSeqI (mVar 2)) (gV 9) (mPure true) (hasSl 7 (mIxV 7 (mVar 9))) [9]))))))
  (sRet (mTup (mCons (m2 fAdd (mVar 3) (mLst (mCons (mVar 2) (mPure [])))) (mCons (mVar 4) (mPure [])))))))
-- k15
-- k15
-- k18
-- k67
-- k67
-- k67
-- k67
-- k67
end Dl
namespace Dl
open PySem PySem.Spec PyProof.Rows L2
-- k51
def b_law_box_v3 : En → So :=
  (sSeq (sSet 3 (mIfE (mB (m2 fLt (mVar 1) (m1 fLen (mPeek 0)))) (m1 fAbs (hasSl 0 (mIxV 0 (mVar 1)))) (mPure (.int 0))))
  (sSeq (sSet 4 (m2 fAdd (m2 fAdd (m2 fMulI (mPure (.int 100291)) (mPeek 2)) (m2 fMulI (mPure (.int 7753)) (mPeek 1))) (mPure (.int 37))))
  (sSeq (sFor (mSeqI (hasSl 0 (mSlV 0 (mPure none) (mPart (mPure (.int 40)))))) (gV 5) (sSet 4 (m2 fMod (m1 fInt (m2 fAdd (m2 fAdd (m2 fMulI (mVar 4) (mPure (.int 16807))) (m2 fMod (m1 fAbs (mPeek 5)) (mPure (.int 2147483629)))) (mPeek 1))) (mPure (.int 2147483647)))))
  (sRetN (mLst (mCons (mIfE (mB (m2 fGe (mVar 3) (m2 fPow (mPure (.int 10)) (mPure (.int 18))))) (mVar 3) (mPure (.int 0))) (mCons (m2 fAdd (mVar 4) (mPure (.int 1))) (mPure []))))))))
def m_law_box_v3 : List Dt → Fo := runF 6 false true b_law_box_v3
-- k51
def b_law_take_v2 : En → So :=
  (sSeq (sIf (mB (m2 fGt (hasSl 0 (mIxV 0 (mPure (.int 0)))) (mPure (.int 0)))) (sSeq (sSet 2 (m2 fMod (m1 fInt (hasSl 0 (mIxV 0 (mPure (.int 0))))) (mPeek 1)))
  (sSeq (sLput 0 (mPure (.int 0)) (m2 fDiv (hasSl 0 (mIxV 0 (mPure (.int 0)))) (mPeek 1)))
  (sRet (mVar 2)))) (fun ρ => .nx ρ))
  (sSeq (sLput 0 (mPure (.int 1)) (m2 fMod (m1 fInt (m2 fAdd (m2 fMulI (hasSl 0 (mIxV 0 (mPure (.int 1)))) (mPure (.int 48271))) (mPure (.int 40031)))) (mPure (.int 2147483647))))
  (sRet (m2 fMod (m1 fInt (m2 fDiv (hasSl 0 (mIxV 0 (mPure (.int 1)))) (mPure (.int 64)))) (mPeek 1)))))
def m_law_take_v2 : List Dt → Fo := runF 3 true false b_law_take_v2
-- k51
-- k51
-- k51
def b_law_days_v2 : En → So :=
  (sSeq (sSetN 3 (mLst (mPure [])))
  (sSeq (sFor (mRng1 (mCons (m2 fAdd (mPure (.int 1)) (mCallIo 2 m_law_take_v2 0 (mCons (mVar 2) (mPure [])))) (mPure []))) (gV 4) (sSeq (sSet 5 (mCallIo 2 m_law_take_v2 0 (mCons (mVar 1) (mPure []))))
  (sDrop (ownLst 3 (mExtend 3 (mIfE (mB (m2 fNotInA (mVar 5) (mPeek 3))) (mLst (mCons (mVar 5) (mPure []))) (mLst (mPure []))))))))
  (sRet (mVar 3))))
def m_law_days_v2 : List Dt → Fo := runF 6 true false b_law_days_v2
-- k52
def b_law_pick_v2 : En → So :=
  (sRet (hasSl 1 (mIxV 1 (mCallIo 2 m_law_take_v2 0 (mCons (m1 fLen (mPeek 1)) (mPure []))))))
def m_law_pick_v2 : List Dt → Fo := runF 2 true false b_law_pick_v2
-- k56
-- k56
-- k59
-- k59
-- k59
-- k60
-- k60
-- k60
-- k60
-- k60
-- k60
-- k60
end Dl
namespace Dl
open PySem PySem.Spec PyProof.Rows L2
/-! ### sorted() of pairs of numbers -/
def PLe (a b : Int × Int) : Prop := a.1 < b.1 ∨ (a.1 = b.1 ∧ a.2 ≤ b.2)
instance (a b : Int × Int) : Decidable (PLe a b) := by unfold PLe; infer_instance
theorem PLe.refl (a : Int × Int) : PLe a a := .inr ⟨rfl, Int.le_refl _⟩
theorem PLe.trans {a b c : Int × Int} (h : PLe a b) (k : PLe b c) : PLe a c := by unfold PLe at *; omega
end Dl
namespace Dl
open PySem PySem.Spec PyProof.Rows L2
/-! ### return of what a slot holds alone -/
section
variable {X : Cx} {T : Tx} {π : Nat → Option Pin} {W : WX} {e : Expr} {m : Mi Dt} {A A' : Addr → Prop} {F H F1 H1 : Hp} {σ : L2.St} {ρ : En} {pos : Pos} {α : Type}
theorem Ok.drop (k : Ok T π A F H σ ρ) (i : Nat) : Ok T π A F H σ (ρ.set i none) := by
  have old : ∀ {j : Nat} {s : Sl}, (ρ.set i none)[j]? = some (some s) → ρ[j]? = some (some s) ∧ j ≠ i := fun {j s} h => by
    by_cases hj : i = j
    · subst hj
      rw [List.getElem?_set_self'] at h
      cases hq : ρ[i]? with
      | none => rw [hq] at h; cases h
      | some z => rw [hq] at h; cases h
    · rw [List.getElem?_set_ne hj] at h; exact ⟨h, fun z => hj z.symm⟩
  exact ⟨k.le, by rw [List.length_set]; exact k.len, fun j d h => k.val j d (old h).1, fun j io d h => k.own j io d (old h).1, fun j l io jo d e a b x h1 h2 => k.dis j l io jo d e a b x (old h1).1 (old h2).1⟩
theorem Post.base {P : α → En → Hp → Hp → Prop} {o : Ou α} (p : Post T π W σ A F H P o) (r : Fr A F H F1 H1) (h : ∀ a, A' a → A a) : Post T π W σ A' F1 H1 P o := by
  cases o with
  | ok a ρ' => exact fun F' H' k r' => p F' H' (k.weak h) (r.trans (r'.weak h))
  | exc x ρ' => exact fun F' H' c d k r' => p F' H' c d (k.weak h) (r.trans (r'.weak h))
  | bad => exact p
end
/-! ### {k: v}, the key a tuple -/
/-! ### sum of a tuple of ints -/
end Dl
namespace PySem
end PySem
namespace PySem
end PySem
namespace Dl
open PySem PySem.Spec PyProof.Rows L2
/-! ### pairs of small numbers have unlike hashes -/
def hP (i j : Int) : Int := reduceHash (Builtin.Tuple.tupleHashOf [hashInt i, hashInt j])
def hN (n : Nat) : Int := hP ((n / 8 : Nat) : Int) ((n % 8 : Nat) : Int)
end Dl
namespace PySem
open PyProof.Rows L2 PySem.W
end PySem
namespace Dl
open PySem PySem.Spec PyProof.Rows L2
-- k25
-- k25
-- k25
-- k25
-- k25
-- k25
def b_law_due : En → So :=
  (sSeq (sAsg (mVar 0) (gT (gsC (gV 2) (gsC (gV 3) gsN)) 2))
  (sSeq (sPars [4, 5] [false, true] (mCons (mLstRg (mVar 2)) (mCons (mLst (mPure [])) (mPure []))))
  (sSeq (sFor (mRng1 (mCons (mVar 1) (mPure []))) (gV 6) (sSeq (sAsg (hasSl 3 (mIxV 3 (m2 fMod (m1 fInt (mPeek 6)) (m1 fLen (mPeek 3))))) (gT (gsC (gV 7) (gsC (gV 8) gsN)) 2))
  (sSeq (sDrop (ownLst 5 (mExtend 5 (mLc (mRng1 (mCons (mVar 2) (mPure []))) (gV 9) (mB (m2 fInA (hasSl 4 (mIxV 4 (mVar 9))) (mPeek 7))) (mTup (mCons (mVar 6) (mCons (mVar 9) (mPure [])))) [9]))))
  (sSet 4 (mLc (mSeqI (mVar 4)) (gV 10) (mPure true) (hasSl 8 (mIxV 8 (mVar 10))) [10])))))
  (sRet (mVar 5)))))
def m_law_due : List Dt → Fo := runF 11 false false b_law_due
-- k25
-- k25
-- k25
-- k25
-- k25
-- k26
-- k26
-- k27
-- k43
-- k90
-- k90
-- k90
end Dl
namespace Dl
open PySem PySem.Spec PyProof.Rows L2
section
variable {X : Cx} {T : Tx} {k : Nat} {C f : Addr} {fd : FuncData} {ps : List Str} {sp : Sp}
/-- what an own __eq__ gives -/
def fOwnC (c : Nat) (fm : List Dt → Fo) (neg : Bool) : Dt → Dt → Option Dt
  | .ins c1 x, .ins c2 y => if c1 = c ∧ c2 = c then (match fm [.ins c1 x, .ins c2 y] with | .ret (.bl r) _ => some (.bl (r != neg)) | _ => none) else none
  | _, _ => none
/-- isinstance(x, C) of an object of C -/
def fIsC (c : Nat) : Dt → Option Dt
  | .ins c' _ => if c' = c then some (.bl true) else none
  | _ => none
end
end Dl
namespace Dl
open PySem PySem.Spec PyProof.Rows L2
/-! ### a def that is entered where no repr is under way -/
structure FnG (P : Program) (w : World) (K : PySem.W.Frag) (mg : Str → Option Value) (base : Heap) (C : CXT) (k : Nat) (f : Addr) (fd : FuncData) (ps : List Str) (sp : Sp) : Prop where
  ln : ∀ xs H R E, sp xs H R E → xs.length = ps.length
  go : ∀ (A : Around) (st : List Env) (s : Shared) (H : Hp) (ar : Args) (us : List Value) (xs : List V) (R : VK) (E : XK), Room k A → A.guards = some [] → Env0 P w K mg base A st s H → BindsTo s fd ar (ps.zip us) → Vals xs us → sp xs H R E → codeAny (model P w) A (.call (.ref f) ar) (CR C st P w H s R E) s
theorem FnG.imp {P : Program} {w : World} {K : PySem.W.Frag} {mg : Str → Option Value} {base : Heap} {C : CXT} {k : Nat} {f : Addr} {fd : FuncData} {ps : List Str} {sp sq : Sp} (G : FnG P w K mg base C k f fd ps sp)
    (h : ∀ xs H R E, sq xs H R E → sp xs H R E) : FnG P w K mg base C k f fd ps sq :=
  ⟨fun xs H R E q => G.ln xs H R E (h _ _ _ _ q), fun A st s H ar us xs R E hr hg he hb hv hs => G.go A st s H ar us xs R E hr hg he hb hv (h _ _ _ _ hs)⟩
theorem fnG_of {C : CXT} {P : Program} {w : World} {K : PySem.W.Frag} {mg : Str → Option Value} {base : Heap} {k : Nat} {f : Addr} {nm qu : Str} {pa : Arguments} {bo : List Stmt} {sc : Scope} {dV kV doc pm cdv ct oc : Value} {an od : Option Addr} {osl : Array (Option Value)} {N ps : List Str} {sp : Sp}
    (lk : K.lookup f = some ⟨oc, od, .func (PySem.W.fnOf nm qu pa bo sc dV kV doc pm an cdv ct), osl⟩) (hcd : PySem.W.codeIn K cdv qu = true) (S : FnScope N ps sc) (ln : ∀ xs H R E, sp xs H R E → xs.length = ps.length)
    (hbo : ∀ (A : Around) (st : List Env) (s : Shared) (H : Hp) (xs : List V) (R : VK) (E : XK), Room k (A.deeper (envOfC qu sc s.heap.objs.size f cdv)) → (A.deeper (envOfC qu sc s.heap.objs.size f cdv)).guards = some [] → sp xs H R E →
      ∃ t, PSs (cxOf C P w K mg base N qu sc f cdv A st s H E) bo t ∧ t { nx := fun _ H' => R .non H', rt := R } (start N xs) H) : FnG P w K mg base C (k + 1) f (PySem.W.fnOf nm qu pa bo sc dV kV doc pm an cdv ct) ps sp := by
  refine ⟨ln, fun A st s H ar us xs R E hr hg e0 hb r hs => ?_⟩
  have hl := ln _ _ _ _ hs
  have KX : K.In s.heap := e0.mod.kin.keeps (fun b o e => (e0.bs b o e).1)
  have lim : s.heap.NoLimit := e0.mod.nolimit.keeps (fun b o e => (e0.bs b o e).1)
  have kinds : ∀ y ∈ ps.zip us, sc.names.lookup y.1 = some .local ∨ (sc.names.lookup y.1 = some .cell ∧ ((cellsFrom (s.heap.objs.size + 1) sc.names []).lookup y.1).isSome = true) := by
    rintro ⟨n, v⟩ hy
    rcases S.par n (List.of_mem_zip hy).1 with q | q
    · exact .inl q
    · exact .inr ⟨q, PySem.W.cellsFrom_some _ _ _ (.inl q)⟩
  refine codeAny_call_function hr.depth (KX _ _ lk) rfl S.co S.gen rfl (PySem.W.codeRec_of KX hcd) (hb _ _ _ _ (wpAny_newFunctionEnv_cells S.kind kinds fun env he s1 x => ?_))
  subst he
  refine ⟨lim.keeps x.toInCall.keep, codeAny_func ?_⟩
  obtain ⟨t, ht, hq⟩ := hbo A st s H xs R E (hr.deeper _) hg hs
  have I : Inv (cxOf C P w K mg base N qu sc f cdv A st s H E) [] (start N xs) H s1 := inv_start S hr.hd e0 hl r x
  refine wpAny_mono (ht.run [] s1 (start N xs) H _ I hq) (fun fl s' z => ?_) fun _ _ z => z
  have fin : ∀ {σ' : L2.St} {H' : Hp} {v : V} {u : Value}, Inv (cxOf C P w K mg base N qu sc f cdv A st s H E) [] σ' H' s' → RelV v u → R v H' → CE st P w H s R u s' :=
    fun {σ' H' v u} J rv q => ⟨v, H', J.os, J.bare, J.base, J.hok, rv, q⟩
  cases fl with
  | ret u => exact let ⟨v, σ', H', J, rv, q⟩ := z; fin J rv q
  | next => exact let ⟨σ', H', J, q⟩ := z; fin (v := V.non) (u := Value.none) J rfl q
  | brk => exact let ⟨_, _, _, q⟩ := z; q.elim
  | cont => exact let ⟨_, _, _, q⟩ := z; q.elim
theorem FunG.okX {P : Program} {w : World} {K : PySem.W.Frag} {mg : Str → Option Value} {base : Heap} {x qual : Str} {st : Stmt} {f : Addr} {fd : FuncData} {N ps : List Str} {k : Nat} {sp : Sp} (F : Fun K x qual st f fd) (S : FnScope N ps (defScope st)) (ln : ∀ vs H Q E, sp vs H Q E → vs.length = ps.length)
    (hbo : ∀ (cdv : Value) (A : Around) (out : List Env) (s : Shared) (H : Hp) (xs : List V) (R : VK) (E : XK), Room k (A.deeper (envOfC qual (defScope st) s.heap.objs.size f cdv)) → (A.deeper (envOfC qual (defScope st) s.heap.objs.size f cdv)).guards = some [] → sp xs H R E →
      ∃ t, PSs (cxOf (L2.CX P w) P w K mg base N qual (defScope st) f cdv A out s H E) (defBody st) t ∧ t { nx := fun _ H' => R .non H', rt := R } (start N xs) H) : FnG P w K mg base (L2.CX P w) (k + 1) f fd ps sp := by
  obtain ⟨oc, od, kV, doc, pm, an, cdv, ct, osl, rfl, lk, hcd⟩ := F.ex
  exact fnG_of lk hcd S ln fun A out s H xs R E hr hg hs => hbo cdv A out s H xs R E hr hg hs
/-! ### repr() of data -/
/-! ### the law is called -/
end Dl
namespace Dl
open PySem PySem.Spec PyProof.Rows L2
/-! ### within an except suite: the caught error is known -/
/-- nothing is raised -/
abbrev WN : WX := fun _ _ _ _ => False
section
variable {T : Tx} {π : Nat → Option Pin} {A : Addr → Prop} {F H F' H' : Hp} {σ : L2.St} {ρ : En} {i : Nat} {a : Addr} {cls : Value} {d : Option Addr}
/-- slot i has the caught error at a; x tells what it is; its dict is not A's to change -/
structure Got (T : Tx) (A : Addr → Prop) (F H : Hp) (σ : L2.St) (i : Nat) (a : Addr) (cls : Value) (d : Option Addr) (x : Ex) : Prop where
  sl : σ[i]? = some (some (.ref a))
  rep : RepX T F H cls d x
  no : ∀ dx, d = some dx → ¬ A dx
theorem Got.go {x : Ex} (g : Got T A F H σ i a cls d x) (r : Fr A F H F' H') : Got T A F' H' σ i a cls d x := by
  obtain ⟨s, ⟨C, dx, ns, vs, h1, h2, h3, h4, h5⟩, n⟩ := g
  refine ⟨s, ⟨C, dx, ns, vs, h1, h2, h3, h4.mono r.f, ?_⟩, n⟩
  rcases h5 with h5 | ⟨e, h5⟩
  · exact .inl h5
  · exact .inr ⟨e, r.h dx _ (n dx e) h5⟩
def TEe (T : Tx) (π : Nat → Option Pin) (i : Nat) (a : Addr) (cls : Value) (d : Option Addr) (m : Ex → Mi Dt) : TE := fun σ H Q => ∃ A F ρ x, Ok T π A F H σ ρ ∧ Got T A F H σ i a cls d x ∧
  Post T π WN σ A F H (fun y _ F' H' => ∀ v, Rep T F' v y → Q v H') (m x ρ)
def TEt (T : Tx) (π : Nat → Option Pin) (i : Nat) (a : Addr) (cls : Value) (d : Option Addr) (m : Ex → Mi Bool) : TT := fun σ H Q => ∃ A F ρ x, Ok T π A F H σ ρ ∧ Got T A F H σ i a cls d x ∧
  Post T π WN σ A F H (fun b _ _ H' => Q b H') (m x ρ)
variable {X : Cx} {e ea eb ec : Expr} {es rest : List Expr} {pos : Pos} {m : Mi Dt} {k ka kb : Ex → Mi Dt} {kt kt' : Ex → Mi Bool} {ks : Ex → Mi (List Dt)}
/-- what does not speak of the error -/
theorem te_lift (h : PE X e (TMe T π WN m)) : PE X e (TEe T π i a cls d fun _ => m) := h.imp fun σ H Q ⟨A, F, ρ, x, k, g, p⟩ => ⟨A, F, ρ, k, p⟩
theorem tt_val (h : PE X e (TEe T π i a cls d k)) (he : ∀ whole, isTrue e X.env whole = (do let v ← whole; standAt e.pos; holding [v] (truthy v)) := by intro _; rfl) : PT X e (TEt T π i a cls d fun x => mB (k x)) :=
  (pt_val h he).imp fun σ H Q ⟨A, F, ρ, x, k, g, p⟩ => ⟨A, F, ρ, x, k, g, p.bind.imp fun y ρ1 F1 H1 k1 r1 p1 v rv => by
    cases y with
    | bl b => exact ⟨b, rv.bl_inv, p1.pure k1⟩
    | _ => exact p1.elim⟩
theorem tt_not (ha : PT X ea (TEt T π i a cls d kt)) : PT X (.UnaryOp .Not ea pos) (TEt T π i a cls d fun x => mNot (kt x)) := (pt_not ha).imp fun σ H Q ⟨A, F, ρ, x, k, g, p⟩ => ⟨A, F, ρ, x, k, g, p.bind.imp fun c ρ1 F1 H1 k1 r1 p1 => p1.pure k1⟩
theorem tw_and1 (ha : PT X ea (TEt T π i a cls d kt)) : PW X (.BoolOp .And [ea] pos) (TEt T π i a cls d kt) := pw_and1 ha
theorem tw_and (ha : PT X ea (TEt T π i a cls d kt)) (hb : PW X (.BoolOp .And (eb :: rest) pos) (TEt T π i a cls d kt')) : PW X (.BoolOp .And (ea :: eb :: rest) pos) (TEt T π i a cls d fun x => mAnd (kt x) (kt' x)) :=
  PW.imp (pw_and ha hb) fun σ H Q ⟨A, F, ρ, x, k, g, p⟩ => ⟨A, F, ρ, x, k, g, p.bind.imp fun c ρ1 F1 H1 k1 r1 p1 => by
    cases c with
    | true => exact iteT ⟨A, F1, ρ1, x, k1, g.go r1, p1⟩
    | false => exact iteF (p1.pure k1)⟩
theorem te_ifExp (hc : PT X ec (TEt T π i a cls d kt)) (ha : PE X ea (TEe T π i a cls d ka)) (hb : PE X eb (TEe T π i a cls d kb)) : PE X (.IfExp ec ea eb pos) (TEe T π i a cls d fun x => mIfE (kt x) (ka x) (kb x)) :=
  (pe_ifExp hc ha hb).imp fun σ H Q ⟨A, F, ρ, x, k, g, p⟩ => ⟨A, F, ρ, x, k, g, p.bind.imp fun c ρ1 F1 H1 k1 r1 p1 => by
    cases c with
    | true => exact iteT ⟨A, F1, ρ1, x, k1, g.go r1, p1⟩
    | false => exact iteF ⟨A, F1, ρ1, x, k1, g.go r1, p1⟩⟩
/-! ### e.f -/
/-- the field of an error of class c, which has one -/
def mXf (c : Nat) (x : Ex) : Mi Dt := if x.c = c then (match x.fs with | [y] => mPure y | _ => mBad) else mBad
theorem te_fld {oe : Obj} {pn : List (Addr × Obj)} {C : Addr} {f : Str} {c : Nat} (hc : T.cl c = some (C, [f])) (hK : X.K = T.K) (S : XfC X.K C) (hno : PySem.W.findIn X.K (.ref C) f = some none) (hz : Zc cls d oe) (hf : ∃ vs, oe.data = .fields vs)
    (he : PE (X.suite a ((a, oe) :: pn)) e (tVar i)) (hb : attributeBase e f X.env (eval e X.env) = eval e X.env := by rfl) : PE (X.suite a ((a, oe) :: pn)) (.Attribute e f pos) (TEe T π i a cls d (mXf c)) :=
  (pe_xf (X := X) S hno hz hf he hb).imp fun σ H Q ⟨A, F, ρ, x, k, g, p⟩ => by
    unfold mXf at p
    obtain ⟨xc, xs⟩ := x
    dsimp only at p
    by_cases hx : xc = c
    · rw [if_pos hx] at p
      obtain ⟨s, ⟨C', dx, ns, vs, h1, h2, h3, h4, h5⟩, n⟩ := g
      dsimp only at h1 h4
      rw [hx, hc] at h1
      cases h1
      cases h4 with
      | nil => exact p.elim
      | @cons v vs' y ys r rs =>
        cases rs with
        | cons _ _ => exact p.elim
        | nil =>
          rcases h5 with ⟨h5, _⟩ | ⟨h5, h6⟩
          · cases h5
          · exact ⟨.ref a, s, rfl, h2, dx, _, v, h5, h6, by simp [List.lookup], p.pure k v r⟩
    · rw [if_neg hx] at p; exact p.elim
/-! ### isinstance(e, C) -/
/-- isinstance of the error that the suite holds -/
def rIsX (K : PySem.W.Frag) (D a : Addr) (d : Option Addr) : List V → Hp → VK → Prop := fun xs H Q => ∃ (c : V) (cv : Value) (b : Bool), xs = [.ref a, c] ∧ ClsV c cv ∧ PySem.W.kitOne K (.ref D) cv = some b ∧ (∀ dd, d = some dd → ∃ fs, H dd = some (.xd fs)) ∧ Q (.bl b) H
theorem call_isX {D : Addr} {oe : Obj} {pn : List (Addr × Obj)} (S : ExcC X.K D) (hz : Zc (.ref D) d oe) (hf : ∃ vs, oe.data = .fields vs) : CallR (X.suite a ((a, oe) :: pn)) (.builtin "isinstance") (rIsX X.K D a d) := by
  intro pins s σ H xs us Q I r ⟨c, cv, b, ex, hcv, e, hd, q⟩
  subst ex
  obtain ⟨u1, us1, rfl, r1, r2⟩ : ∃ u1 us1, us = u1 :: us1 ∧ RelV (.ref a) u1 ∧ Vals [c] us1 := by cases r with | cons h t => exact ⟨_, _, rfl, h, t⟩
  obtain ⟨u2, rfl, r3⟩ : ∃ u2, us1 = [u2] ∧ RelV c u2 := by cases r2 with | cons h t => cases t; exact ⟨_, rfl, h⟩
  obtain rfl : u1 = Value.ref a := r1
  have e2 := hcv.eq r3
  subst e2
  obtain ⟨hget, _⟩ := I.pin (a, oe) (List.mem_append.mpr (.inl List.mem_cons_self))
  obtain ⟨vs, hv⟩ := hf
  have J : ∃ od, PySem.W.InstAt s.heap a oe D od := by
    have nc : PySem.W.notCls oe = true := by unfold PySem.W.notCls; rw [hv] <;> rfl
    cases d with
    | none => exact ⟨none, hget, hz.1, nc, by rw [hz.2]; trivial⟩
    | some dd =>
      obtain ⟨fs, hfs⟩ := hd dd rfl
      have hx : ObjOk X.prog X.w H s.heap dd (.xd fs) := I.hok dd _ hfs
      obtain ⟨mA, hns, _⟩ := hx
      obtain ⟨od, ho, _⟩ := lookIn_ns hns
      exact ⟨some od, hget, hz.1, nc, by rw [hz.2]; exact ho⟩
  obtain ⟨od, J⟩ := J
  obtain ⟨cd, hcd, _⟩ := PySem.W.any_some S.hd
  exact PySem.W.kia_one (PySem.W.kitx_exc (by rw [hcd]; rfl) S.hg S.hk S.hs S.ha S.hn S.ht S.hm) I.kIn J e (fun z => nomatch z) fun tk => ⟨.bl b, H, I.kept (t' := tk) fun _ _ z => z, rfl, q⟩
def mXis (c : Nat) (b : Bool) (x : Ex) : Mi Dt := if x.c = c then mPure (.bl b) else mBad
theorem pe_void {t : TE} (h : ∀ σ H Q, ¬ t σ H Q) : PE X e t := ⟨fun pins s σ H Q I q => (h σ H Q q).elim⟩
theorem te_is {pn : List (Addr × Obj)} {oe : Obj} {C : Addr} {ns : List Str} {c : Nat} {v : V} {cv : Value} {b : Bool} (hc : T.cl c = some (C, ns)) (hv : ClsV v cv) (hb : PySem.W.kitOne X.K (.ref C) cv = some b)
    (hz : Zc cls d oe) (h : cls = .ref C → PE (X.suite a ((a, oe) :: pn)) e (tCB (rIsX X.K C a d) (tCons (tVar i) (tCons (tC v) tNil)))) : PE (X.suite a ((a, oe) :: pn)) e (TEe T π i a cls d (mXis c b)) := by
  have key : ∀ {σ H Q}, TEe T π i a cls d (mXis c b) σ H Q → cls = .ref C := fun {σ H Q} ⟨A, F, ρ, x, k, g, p⟩ => by
    unfold mXis at p
    by_cases hx : x.c = c
    · obtain ⟨s, ⟨C', dx, ns', vs, h1, h2, h3, h4, h5⟩, n⟩ := g
      rw [hx, hc] at h1
      cases h1
      exact h2
    · rw [if_neg hx] at p; exact p.elim
  by_cases hC : cls = .ref C
  · refine (h hC).imp fun σ H Q ⟨A, F, ρ, x, k, g, p⟩ => ?_
    unfold mXis at p
    by_cases hx : x.c = c
    · rw [if_pos hx] at p
      obtain ⟨s, ⟨C', dx, ns', vs, h1, h2, h3, h4, h5⟩, n⟩ := g
      refine ⟨.ref a, s, v, _, b, rfl, hv, hb, fun dd e => ?_, p.pure k _ (.bl b)⟩
      rcases h5 with ⟨_, h5⟩ | ⟨h5, h6⟩
      · rw [h5] at e; cases e
      · rw [h5] at e; cases e; exact ⟨_, h6⟩
    · rw [if_neg hx] at p; exact p.elim
  · exact pe_void fun σ H Q q => hC (key q)
end
end Dl
namespace Dl
open PySem PySem.Spec PyProof.Rows L2
section
variable {T : Tx} {π : Nat → Option Pin} {A : Addr → Prop} {F H F' H' F0 H0 : Hp} {σ : L2.St} {ρ : En} {i : Nat} {a : Addr} {cls : Value} {d : Option Addr}
/-- a slot is forgotten -/
theorem Ok.forget (k : Ok T π A F H σ ρ) (u : Option V) : Ok T π A F H (σ.set i u) (ρ.set i none) := by
  have ol : ∀ {j : Nat} {s : Sl}, (ρ.set i none)[j]? = some (some s) → i ≠ j ∧ ρ[j]? = some (some s) := fun {j s} e => by
    by_cases hj : i = j
    · subst hj
      by_cases hi : i < ρ.length
      · rw [List.getElem?_set_self hi] at e; cases e
      · rw [List.getElem?_eq_none (by simpa using hi)] at e; cases e
    · rw [List.getElem?_set_ne hj] at e; exact ⟨hj, e⟩
  refine ⟨k.le, by simpa using k.len, fun j dj e => ?_, fun j jo dj e => ?_, fun j l jo lo dj dl x y z ej el sj sl hx hy => ?_⟩
  · obtain ⟨hj, e⟩ := ol e
    rw [List.getElem?_set_ne hj]; exact k.val j dj e
  · obtain ⟨hj, e⟩ := ol e
    rw [List.getElem?_set_ne hj]; exact k.own j jo dj e
  · obtain ⟨hj, ej⟩ := ol ej
    obtain ⟨hl, el⟩ := ol el
    rw [List.getElem?_set_ne hj] at sj
    rw [List.getElem?_set_ne hl] at sl
    exact k.dis j l jo lo dj dl x y z ej el sj sl hx hy
theorem OwnAt.no_xd {T : Tx} {F H : Hp} {a x : Addr} {d : Dt} (h : OwnAt T F H a d) (hx : x = a ∨ x ∈ inH H a d) (fs : List (Str × V)) : H x ≠ some (.xd fs) := by
  intro z
  cases d with
  | lst ds =>
    rcases hx with rfl | hx
    · obtain ⟨_, e, _⟩ := h; rw [e] at z; cases z
    · cases hx
  | dic t ks ds =>
    rcases hx with rfl | hx
    · cases t with
      | false => obtain ⟨_, _, e, _⟩ := h; rw [e] at z; cases z
      | true => obtain ⟨_, _, e, _⟩ := h; rw [e] at z; cases z
    · cases hx
  | ins c ds =>
    rcases hx with rfl | hx
    · obtain ⟨_, _, _, _, _, e, _⟩ := h; rw [e] at z; cases z
    · cases hx
  | deal cs bl =>
    obtain ⟨b, e1, e2, e3⟩ := h
    rcases hx with rfl | hx
    · rw [e1] at z; cases z
    · rw [inH_deal e1, List.mem_singleton] at hx
      subst hx
      rw [e2] at z; cases z
  | dcn ks ds =>
    rcases hx with rfl | hx
    · obtain ⟨_, _, e, _⟩ := h; rw [e] at z; cases z
    · cases hx
  | tbl q =>
    rcases hx with rfl | hx
    · obtain ⟨_, e, _⟩ := h; rw [e] at z; cases z
    · cases hx
  | _ => exact h.elim
/-- the suite's start: the error's dict is set apart -/
theorem Ok.apart (k : Ok T π A F H σ ρ) {x : Ex} (r : RepX T F H cls d x) : Ok T π (fun y => A y ∧ d ≠ some y) F H σ ρ := by
  refine ⟨k.le, k.len, k.val, fun j jo dj e => ?_, k.dis⟩
  obtain ⟨b, h1, h2, h3, h4, h5, h6⟩ := k.own j jo dj e
  have ne : ∀ y, (y = b ∨ y ∈ inH H b dj) → d ≠ some y := fun y hy z => by
    obtain ⟨C, dx, ns, vs, _, _, _, _, q⟩ := r
    rcases q with ⟨_, q⟩ | ⟨q, q2⟩
    · rw [q] at z; cases z
    · rw [q] at z; cases z; exact h3.no_xd hy _ q2
  exact ⟨b, h1, h2, h3, ⟨h4, ne b (.inl rfl)⟩, h5, fun y hy => ⟨(h6 y hy).1, (h6 y hy).2, ne y (.inr hy)⟩⟩
/-! ### statements of a suite -/
def TMx (T : Tx) (π : Nat → Option Pin) (i : Nat) (a : Addr) (cls : Value) (d : Option Addr) (s : Ex → En → So) : TS := fun D σ H => ∃ A F0 H0 F ρ x, StOk T π A F0 H0 F H σ ρ ∧ σ[i]? = some (some (.ref a)) ∧ RepX T F H cls d x ∧ PostS T π WN A F0 H0 D (s x ρ)
variable {X : Cx} {e : Expr} {st : Stmt} {sts : List Stmt} {pos : Pos} {m : Ex → Mi Dt} {s : En → So} {sx : Ex → En → So}
theorem sx_set {j : Nat} (h : PS X st (tAsg (TEe T π i a cls d m) (gName j))) : PS X st (TMx T π i a cls d fun x => sSet j (m x)) := h.imp fun D σ H ⟨A, F0, H0, F, ρ, x, k, hs, r, p⟩ =>
  ⟨_, F, ρ, x, k.ok.apart r, ⟨hs, r, fun dx e z => z.2 e⟩, ((p.bind k).weak fun _ z => z.1).imp fun y ρ1 F1 H1 _ _ ⟨k1, p1⟩ v rv => by
    unfold sPut at p1
    cases e : setSl j (.val y) ρ1 with
    | none => rw [e] at p1; exact p1.elim
    | some ρ' => rw [e] at p1; exact p1 _ F1 H1 ⟨k1.ok.set rv e, k1.fr⟩⟩
theorem sx_one (h : PS X st (TMx T π i a cls d sx)) : PSs X [st] (TMx T π i a cls d sx) := pss_one h
/-! ### try .. except C as e -/
def afterE (i : Nat) : So → So
  | .nx ρ => .nx (ρ.set i none)
  | .bk ρ => .bk (ρ.set i none)
  | .ct ρ => .ct (ρ.set i none)
  | .rt y ρ => .rt y ρ
  | _ => .bad
def hdGo (q : Nat → Option Bool) (i : Nat) (s : Ex → En → So) (x : Ex) (ρ : En) : So := match q x.c with
  | some true => (match ρ[i]? with
    | some (some (.own _ _)) => .bad
    | none => .bad
    | some _ => afterE i (s x (ρ.set i none)))
  | some false => .exc x ρ
  | none => .bad
def sTry (q : Nat → Option Bool) (i : Nat) (b : En → So) (s : Ex → En → So) : En → So := fun ρ => match b ρ with
  | .exc x ρ1 => hdGo q i s x ρ1
  | o => o
variable {Wout : WX}
theorem after_out {D : Ends} {W : WX} {o : So} (p : PostS T π W A F0 H0 D (afterE i o)) : PostS T π WN A F0 H0 { nx := fun σ' H' => D.nx (σ'.set i none) H', rt := D.rt, bk := fun σ' H' => D.bk (σ'.set i none) H', ct := fun σ' H' => D.ct (σ'.set i none) H' } o := by
  cases o with
  | nx ρ => exact fun σ' F' H' k => p _ F' H' ⟨k.ok.forget none, k.fr⟩
  | bk ρ => exact fun σ' F' H' k => p _ F' H' ⟨k.ok.forget none, k.fr⟩
  | ct ρ => exact fun σ' F' H' k => p _ F' H' ⟨k.ok.forget none, k.fr⟩
  | rt y ρ => exact p
  | _ => exact p.elim
theorem ds_try {x n : Str} {cv : Value} {q : Nat → Option Bool} {body suite : List Stmt} {b₀ : Stmt} {np pos' : Pos} {bm : En → So} (hK : X.K = T.K) (hs : X.stack = X.env :: X.outer) (hf : X.env.frame = some X.env.locals) (hN : X.N.Nodup) (hi : X.N[i]? = some n) (hln : X.env.kindOf n = some .local) (hc : Names X x cv)
    (hq : ∀ c b, q c = some b → ∃ C ns, T.cl c = some (C, ns) ∧ PySem.W.exmOne T.K (.ref C) cv = some b) (tk : Takes X Wout)
    (hb : ∀ (W : WX) (pn : List (Addr × Obj)) (xe : Value → Shared → Prop), Takes (X.tr pn xe) W → PassesOwn (model X.prog X.w) X.A X.env xe → PSs (X.tr pn xe) body (TMs T π W bm))
    (hsu : ∀ (a : Addr) (oe : Obj) (cls : Value) (d : Option Addr) (pn : List (Addr × Obj)), Zc cls d oe → (∃ vs, oe.data = .fields vs) → PSs (X.suite a ((a, oe) :: pn)) (b₀ :: suite) (TMx T π i a cls d sx)) :
    PS X (.Try body [.ExceptHandler (some (.Name x np)) (some n) (b₀ :: suite) pos'] [] [] pos) (TMs T π Wout (sTry q i bm sx)) :=
  (ps_try_as (ts := fun a cls d => TMx T π i a cls d sx) hs hf hN hi hln hc tk hb hsu).imp fun D σ H ⟨A, F0, H0, F, ρ, k, p⟩ => ⟨A, F0, H0, F, ρ, k, by
    unfold sTry at p
    cases e : bm ρ with
    | nx ρ1 => rw [e] at p; exact p
    | bk ρ1 => rw [e] at p; exact p
    | ct ρ1 => rw [e] at p; exact p
    | rt y ρ1 => rw [e] at p; exact p
    | rtN y ρ1 => rw [e] at p; exact p
    | bad => rw [e] at p; exact p
    | exc x ρ1 =>
      rw [e] at p
      dsimp only at p
      unfold hdGo at p
      intro σ' F' H' cls d k1 r
      cases eq : q x.c with
      | none => rw [eq] at p; exact p.elim
      | some b =>
        rw [eq] at p
        obtain ⟨C, ns, h1, h2⟩ := hq _ _ eq
        have hcls : cls = .ref C := by
          obtain ⟨C', dx, ns', vs, z1, z2, _⟩ := r
          rw [h1] at z1; cases z1; exact z2
        refine ⟨b, by rw [hcls, hK]; exact h2, fun hb' a na => ?_, fun hb' => ?_⟩
        · subst hb'
          have p2 : i < ρ1.length ∧ PostS T π Wout A F0 H0 D (afterE i (sx x (ρ1.set i none))) := by
            dsimp only at p
            split at p
            · exact p.elim
            · exact p.elim
            · rename_i _ hs
              exact ⟨(List.getElem?_eq_some_iff.mp hs).1, p⟩
          exact ⟨A, F0, H0, F', ρ1.set i none, x, ⟨k1.ok.forget _, k1.fr⟩, List.getElem?_set_self (by rw [k1.ok.len]; exact p2.1), r, after_out p2.2⟩
        · subst hb'
          exact p σ' F' H' cls d k1 r⟩
end
end Dl
namespace Dl
open PySem PySem.Spec PyProof.Rows L2
/-! ### the package's errors: made by the def __init__, which calls TurnError.__init__ -/
/-- what the written part says of the class whose __init__ is called by name -/
structure Root (K : PySem.W.Frag) (C : Addr) : Prop where
  rd : PySem.W.readsIn K C (.type "type") = true
  ga : PySem.W.specialIn K (.ref C) "__getattribute__" = some (some (.builtin "type.__getattribute__"))
  ini : PySem.W.findCls K (.ref C) (.type "type") "__init__" = some (.val (.builtin "ValueError.__init__"))
section
variable {X : Cx} {e : Expr} {es : List Expr} {ta : TA} {x : Str} {C : Addr} {p1 p2 pos : Pos}
theorem pe_rootInit {pl : Sem Bool} (S : Root X.K C) (hg : Gl X x) (hm : X.mg x = some (.ref C)) (ha : PA X (e :: es) ta)
    (hc : eval (.Call (.Attribute (.Name x p1) "__init__" p2) (e :: es) [] pos) X.env = (do
      let ov ← eval (.Name x p1) X.env
      standAt p2.atName
      let (f, first) ← holding [ov] (getMethod ov "__init__" pl)
      callWith pos f first (backTo pos (starEach (e :: es) X.env)) (backToKw pos (keywordEach [] X.env))) := by rfl)
    (hdb : (x == ("__debug__" : Str)) = false := by decide) (he : starEach (e :: es) X.env = (false, eval e X.env) :: starEach es X.env := by rfl) (hpl : (backTo pos (starEach es X.env)).any (·.1) = false := by rfl) :
    PE X (.Call (.Attribute (.Name x p1) "__init__" p2) (e :: es) [] pos) (tVeI X.K ta) := ⟨fun pins s σ H Q I h => by
  refine PySem.W.methodCall_KW (ld_glob I hg hm ?_ hdb) hc
  refine PySem.W.method_cls I.kIn S.ga (PySem.W.cls_value I.kIn S.rd S.ini rfl ?_)
  refine PyProof.Rows.callWith_method1 (thn (ha.run pos pins _ σ H _ (I.tok _) h) fun us s1 ⟨vs, H1, I1, r1, a, D, ws, ev, hl, O, ea, q⟩ => ?_) he hpl
  rw [ev] at r1
  obtain ⟨u0, ur, rfl, ra, rr⟩ : ∃ u0 ur, us = u0 :: ur ∧ RelV (.ref a) u0 ∧ Vals ws ur := by cases r1 with | cons h t => exact ⟨_, _, rfl, h, t⟩
  obtain rfl : u0 = Value.ref a := ra
  exact oinit_ok O I1 ea (by have := rr.length; rw [sizeLine_eq]; omega) fun s' J => ⟨.non, H1, J, rfl, q⟩⟩
end
/-- .. of an error with one field -/
def spI (C : Addr) (f : Str) : Sp := fun vs H Q E => ∃ a y, vs = [.ref a, y] ∧ H a = some (exo a C none) ∧ ∀ dx, H dx = none → dx ≠ a → Q .non (upd (upd H dx (exd dx [(f, y)])) a (exo a C (some dx)))
/-- an error's class -/
structure Err (K : PySem.W.Frag) (mg : Str → Option Value) (x : Str) (C fI : Addr) : Prop where
  oex : OexC K C
  exc : ExcC K C
  xf : XfC K C
  ini : PySem.W.findIn K (.ref C) "__init__" = some (some (.ref fI))
  tI : PySem.W.typeIn K (.ref fI) = some (.type "function")
  g : mg x = some (.ref C)
section
variable {P : Program} {w : World} {K : PySem.W.Frag} {mg : Str → Option Value} {base : Heap}
theorem err_init {x qual f z : Str} {st : Stmt} {fI C : Addr} {fd : FuncData} (txt : Str) (F : Fun K x qual st fI fd) (S : FnScope [("self" : Str), z] [("self" : Str), z] (defScope st)) (O : OexC K C) (hno : PySem.W.findIn K (.ref C) f = some none)
    (hb : ∀ (cdv : Value) (A : Around) (outer : List Env) (s : Shared) (H : Hp) (E : XK), PSs (cxOf (L2.CX P w) P w K mg base [("self" : Str), z] qual (defScope st) fI cdv A outer s H E) (defBody st)
      (tSeq (tDrop (tVeI K (tCons (tVar 0) (tCons (tC (.str txt)) tNil)))) (tOst K f (tVar 0) (tVar 1)))) :
    FnOk P w K mg base (L2.CX P w) 1 fI fd [("self" : Str), z] (spI C f) := by
  refine F.okX S (fun vs H Q E h => ?_) (fun cdv A outer s H vs Q E hr h => ?_)
  · obtain ⟨a, y, rfl, _⟩ := h; rfl
  · obtain ⟨a, y, rfl, ha, q⟩ := h
    exact ⟨_, hb cdv A outer s H E, .ref a, rfl, a, C, [.str txt], rfl, (by show 1 ≤ 1000; decide), O, ha, y, rfl, .ref a, rfl, a, C, rfl, O, hno, .inl ⟨ha, fun dx h1 h2 => q dx h1 h2⟩⟩
end
/-! ### raise C(e) -/
section
variable {X : Cx} {T : Tx} {π : Nat → Option Pin} {W : WX} {e : Expr} {m : Mi Dt} {x f z : Str} {C fI : Addr} {fd : FuncData} {p pos pos' : Pos} {c : Nat}
def sRaise (c : Nat) (m : Mi Dt) : En → So := sBind m fun y ρ => .exc ⟨c, [y]⟩ ρ
theorem xd_eq {H : Hp} {a dx : Addr} {o1 o2 o3 o : HO} (ha : H a = none) (hne : dx ≠ a) : upd (del (upd (upd (upd H a o1) dx o2) a o3) a) dx o = upd H dx o := by
  funext b
  by_cases hb : b = dx
  · rw [hb, upd_same, upd_same]
  · rw [upd_ne hb, upd_ne hb]
    by_cases hba : b = a
    · rw [hba, del_same, ha]
    · rw [del_ne hba, upd_ne hba, upd_ne hb, upd_ne hba]
theorem ds_raise (hK : X.K = T.K) (hcalm : X.calm = true) (tk : Takes X W) (S : Err X.K X.mg x C fI) (hc : T.cl c = some (C, [f])) (F1 : FnOk X.prog X.w X.K X.mg X.base (L2.CX X.prog X.w) 1 fI fd [("self" : Str), z] (spI C f)) (hr : Room 2 X.A) (hb : Binds X.K fd [("self" : Str), z] [])
    (hx : Passes (L2.CX X.prog X.w) X (fun _ _ _ => False)) (hg : Gl X x) (he : PE X e (TMe T π W m)) (hdb : (x == ("__debug__" : Str)) = false := by decide) (hs : starEach [e] X.env = (false, eval e X.env) :: starEach [] X.env := by rfl) (hpl : (backTo pos (starEach [] X.env)).any (·.1) = false := by rfl) :
    PS X (.Raise (some (.Call (.Name x p) [e] [] pos)) none pos') (TMs T π W (sRaise c m)) :=
  (ps_raise hcalm tk (pmk_oex S.oex S.ini S.tI F1 hr hb .nil hx hg S.g (pa_cons he pa_nil hs) hdb hs hpl)).imp fun D σ H ⟨A, F0, H0, F, ρ, k, q⟩ => by
    refine ⟨_, F, ρ, k.ok, (q.bind k).imp fun y ρ1 F1 H1 _ _ ⟨k1, p1⟩ v rv => ?_⟩
    refine ⟨(by show 1 ≤ 1000; decide), fun a ha => ⟨a, v, rfl, upd_same, fun dx h1 hne => ?_⟩⟩
    have hdx : H1 dx = none := by rw [upd_ne hne] at h1; exact h1
    refine ⟨rfl, dx, [(f, v)], upd_same, by rw [upd_ne hne, upd_same], hdx, ?_⟩
    rw [xd_eq ha hne]
    exact p1 σ F1 _ _ _ (k1.step (k1.ok.newO hdx) (.newO hdx)) ⟨C, dx, [f], [v], hc, rfl, rfl, .cons rv .nil, .inr ⟨rfl, upd_same⟩⟩
end
end Dl
namespace Dl
open PySem PySem.Spec PyProof.Rows L2
/-- a class that is named in except clauses and in isinstance -/
structure Kls (K : PySem.W.Frag) (mg : Str → Option Value) (x : Str) (C : Addr) : Prop where
  g : mg x = some (.ref C)
  hd : PySem.W.hasDictIn K C = true
  ty : PySem.W.typeIn K (.ref C) = some (.type "type")
  sf : PySem.W.subIn K (.ref C) (.ref C) = some true
section
variable {K : PySem.W.Frag} {mg : Str → Option Value} {x : Str} {C D : Addr} {b : Bool}
theorem Kls.exm (h : Kls K mg x C) (s : PySem.W.subIn K (.ref D) (.ref C) = some b) (hb : PySem.W.subIn K (.ref C) (.type "BaseException") = some true) : PySem.W.exmOne K (.ref D) (.ref C) = some b := PySem.W.exm_ref hb h.hd h.ty s
theorem Kls.kit (h : Kls K mg x C) (s : PySem.W.subIn K (.ref D) (.ref C) = some b) : PySem.W.kitOne K (.ref D) (.ref C) = some b := by
  by_cases e : D = C
  · subst e
    rw [h.sf] at s
    cases s
    unfold PySem.W.kitOne
    rw [if_pos (beq_self_eq_true _)]
  · obtain ⟨cd, hc, _⟩ := PySem.W.any_some h.hd
    have z : (Value.ref D == Value.ref C) = false := Bool.eq_false_iff.mpr fun q => e (Value.ref.inj (beq_iff_eq.mp q))
    unfold PySem.W.kitOne
    rw [z, if_neg Bool.false_ne_true]
    show (if ((PySem.W.clsIn K C).isSome && PySem.W.typeIn K (.ref C) == some (.type "type")) = true then PySem.W.subIn K (.ref D) (.ref C) else none) = some b
    rw [if_pos (by rw [hc, h.ty]; rfl)]
    exact s
end
def qTab (l : List (Nat × Bool)) : Nat → Option Bool := fun c => l.lookup c
theorem hq_nil {T : Tx} {cv : Value} : ∀ c b, qTab [] c = some b → ∃ C ns, T.cl c = some (C, ns) ∧ PySem.W.exmOne T.K (.ref C) cv = some b := fun c b h => nomatch h
theorem hq_cons {T : Tx} {cv : Value} {c0 : Nat} {b0 : Bool} {C0 : Addr} {ns0 : List Str} {l : List (Nat × Bool)} (h1 : T.cl c0 = some (C0, ns0)) (h2 : PySem.W.exmOne T.K (.ref C0) cv = some b0)
    (r : ∀ c b, qTab l c = some b → ∃ C ns, T.cl c = some (C, ns) ∧ PySem.W.exmOne T.K (.ref C) cv = some b) : ∀ c b, qTab ((c0, b0) :: l) c = some b → ∃ C ns, T.cl c = some (C, ns) ∧ PySem.W.exmOne T.K (.ref C) cv = some b := fun c b h => by
  unfold qTab at h
  by_cases e : c = c0
  · subst e
    simp [List.lookup] at h
    subst h
    exact ⟨_, _, h1, h2⟩
  · have z : (c == c0) = false := by simpa using e
    simp only [List.lookup, z] at h
    exact r c b h
theorem passes_no {X : Cx} : Passes (L2.CX X.prog X.w) X (fun _ _ _ => False) := fun _ _ _ _ _ _ _ ⟨_, _, _, _, _, _, _, _, _, _, _, _, z⟩ => z.elim
end Dl
namespace Dl
open PySem PySem.Spec PyProof.Rows L2
/-! ### several named clauses: an error that came, clause by clause -/
section
variable {X : Cx} {pn : List (Addr × Obj)} {σ : L2.St} {H : Hp} {a : Addr} {cls : Value} {d : Option Addr} {t : Shared}
/-- the error a flies over t; what stands without it is as σ and H say -/
structure Came (X : Cx) (pn : List (Addr × Obj)) (σ : L2.St) (H : Hp) (a : Addr) (cls : Value) (d : Option Addr) (t : Shared) : Prop where
  fly : ∃ (G : Heap) (bare : Shared), Inv X pn σ H bare ∧ (∀ x o, bare.heap.get? x = some o → x ∉ frs X.stack → G.get? x = some o) ∧ HandSPX.FlyingZ G X.stack a (Zc cls d) t.heap ∧ bare.heap.UpToSlots t.heap ∧ t.os = bare.os
  free : H a = none
  gens : AllBare t.gens
/-- the error's object, apart from all frames -/
theorem Came.obj (c : Came X pn σ H a cls d t) (hs : X.stack = X.env :: X.outer) (hf : X.env.frame = some X.env.locals) : ∃ ob vs, t.heap.get? a = some ob ∧ Zc cls d ob ∧ ob.data = .fields vs ∧ a ≠ X.env.locals ∧ a ∉ X.fs := by
  obtain ⟨G, bare, _, _, f, _, _⟩ := c.fly
  obtain ⟨ob, vs, h1, h2, h3⟩ := f.there
  have apart : a ∉ frs X.stack := fun m => by
    obtain ⟨_, o2, h4, h5⟩ := f.2.2.1.mem m
    rw [h1] at h4
    injection h4 with h4
    rw [← h4] at h5
    exact h5 _ h3
  refine ⟨ob, vs, h1, h2, h3, fun z => apart ?_, fun m => apart ?_⟩
  · rw [hs, z]
    exact List.mem_filterMap.mpr ⟨X.env, .head _, hf⟩
  · rw [hs]
    obtain ⟨e, m1, m2⟩ := List.mem_filterMap.mp m
    exact List.mem_filterMap.mpr ⟨e, .tail _ m1, m2⟩
/-- what the clauses hds do with an error: w is what they wish of it -/
def Meets (X : Cx) (hds : List ExceptHandler) (w : Ends → WX) : Prop := ∀ (pn : List (Addr × Obj)) (σ : L2.St) (H : Hp) (a : Addr) (cls : Value) (d : Option Addr) (t : Shared) (D : Ends),
  Came X pn σ H a cls d t → w D cls d σ H → wpAny (model X.prog X.w) X.A (handleBy (.ref a) X.env hds) (SP X pn D) X.xe t
variable {W : WX}
variable {x n : Str} {cv : Value} {i : Nat} {b₀ : Stmt} {suite : List Stmt} {np p1 : Pos} {s : Addr → Value → Option Addr → TS} {w : Ends → WX} {hds : List ExceptHandler}
variable {body : List Stmt} {h₀ : ExceptHandler} {pos : Pos} {tb : WX → TS}
end
/-! ### over data -/
end Dl
namespace Dl
open PySem PySem.Spec PyProof.Rows L2
/-! ### isinstance of values among which own objects may be -/
/-- an own class that is of no built-in sort -/
structure IcB (K : PySem.W.Frag) (C : Addr) : Prop where
  ic : C8.InsC K C
  no : ∀ n : Ty5, PySem.W.subIn K (.ref C) (.type n.nm) = some false
theorem IcB.kit {K : PySem.W.Frag} {C : Addr} (h : IcB K C) (n : Ty5) : PySem.W.kitOne K (.ref C) (.type n.nm) = some false := by
  unfold PySem.W.kitOne
  have z : (Value.ref C == Value.type n.nm) = false := Bool.eq_false_iff.mpr fun q => nomatch beq_iff_eq.mp q
  rw [z, if_neg Bool.false_ne_true]
  show (if PySem.W.kitMeta n.nm = true then PySem.W.subIn K (.ref C) (.type n.nm) else none) = some false
  rw [if_pos (by cases n <;> decide +kernel)]
  exact h.no n
def isDO (n : Ty5) : Dt → Option Bool
  | .ins 0 _ => some false
  | .ins 1 _ => some false
  | d => isD n d
theorem isDO_of {n : Ty5} {d : Dt} {b : Bool} (h : isD n d = some b) : isDO n d = some b := by
  cases d with
  | ins c vs => cases h
  | _ => exact h
def fIsiO (n : Ty5) (d : Dt) : Option Dt := (isDO n d).map .bl
def fIsi2O (n n' : Ty5) (d : Dt) : Option Dt := match isDO n d, isDO n' d with
  | some a, some b => some (.bl (a || b))
  | _, _ => none
section
variable {X : Cx} {T : Tx} {π : Nat → Option Pin} {W : WX} {e : Expr} {m : Mi Dt} {F H : Hp}
/-! ### isinstance against an own class, of any value -/
def tys8 : List String := ["NoneType", "bool", "int", "str", "list", "tuple", "dict"]
/-- what isinstance(.., C) asks of the other classes -/
structure IsA (T : Tx) (c : Nat) (C : Addr) : Prop where
  hd : PySem.W.hasDictIn T.K C = true
  ty : PySem.W.typeIn T.K (.ref C) = some (.type "type")
  bt : ∀ t ∈ tys8, PySem.W.subIn T.K (.type t) (.ref C) = some false
  ot : ∀ c' C' ns, (c' = 0 ∨ c' = 1) → T.cl c' = some (C', ns) → C8.InsC T.K C' ∧ (C' ≠ C → PySem.W.subIn T.K (.ref C') (.ref C) = some false) ∧ (C' = C ↔ c' = c)
theorem IsA.cls {c : Nat} {C : Addr} (h : IsA T c C) {t : Value} {b : Bool} (ne : t ≠ .ref C) (s : PySem.W.subIn T.K t (.ref C) = some b) : PySem.W.kitOne T.K t (.ref C) = some b := by
  obtain ⟨cd, hc, _⟩ := PySem.W.any_some h.hd
  unfold PySem.W.kitOne
  have z : (t == Value.ref C) = false := Bool.eq_false_iff.mpr fun q => ne (beq_iff_eq.mp q)
  rw [z, if_neg Bool.false_ne_true]
  show (if ((PySem.W.clsIn T.K C).isSome && PySem.W.typeIn T.K (.ref C) == some (.type "type")) = true then PySem.W.subIn T.K t (.ref C) else none) = some b
  rw [if_pos (by rw [hc, h.ty]; rfl)]
  exact s
def isCO (c : Nat) : Dt → Option Bool
  | .ins 0 _ => some (decide (0 = c))
  | .ins 1 _ => some (decide (1 = c))
  | .ins _ _ => none
  | d => (tyD d).map fun _ => false
def fIsCO (c : Nat) (d : Dt) : Option Dt := (isCO c d).map .bl
end
end Dl
namespace L2
open PySem PySem.Spec PyProof.Rows
end L2
namespace L2
open PySem PySem.Spec PyProof.Rows
/-! ### list.count, flat items -/
end L2
namespace L2
open PySem PySem.Spec PyProof.Rows
section
variable {X : Cx} {CX : CXT} {k : Nat} {f : Addr} {fd : FuncData} {ps ks : List Str} {sp : Sp} {E : XK} {x : Str} {p pos : Pos} {kws : List Keyword} {tk : TA} {g : List Value → List Value → List Value} {gV : List V → List V → List V}
theorem PK.imp {t u : TA} (h : PK X kws t) (i : ∀ σ H Q, u σ H Q → t σ H Q) : PK X kws u := ⟨fun pos pins s σ H Q I q => h.run pos pins s σ H Q I (i σ H Q q)⟩
variable {ES : St → XK}
end
end L2
namespace Dl
open PySem PySem.Spec PyProof.Rows L2
/-! ### sorted() of lots of pairs, any number of them, the first one empty -/
def flP : List (Int × Int) → List Int
  | [] => []
  | x :: r => x.1 :: x.2 :: flP r
end Dl
namespace Dl
open PySem PySem.Spec PyProof.Rows L2
/-! ### lots in order -/
def LLe (a b : List (Int × Int)) : Prop := HT.lexLt (flP b) (flP a) = false
instance (a b : List (Int × Int)) : Decidable (LLe a b) := by unfold LLe; infer_instance
theorem LLe.refl (a : List (Int × Int)) : LLe a a := by
  unfold LLe
  cases e : HT.lexLt (flP a) (flP a) with
  | false => rfl
  | true => have := NtL.lex_asym _ _ e; rw [e] at this; cases this
theorem LLe.trans {a b c : List (Int × Int)} (h : LLe a b) (k : LLe b c) : LLe a c := NtL.lex_tr _ _ _ h k
/-! ### as a rule -/
end Dl
namespace HNt
open PySem PySem.SeqAt PySem.Spec PyProof.Rows L2
open AutoSeq1 (wpAny_loadPart')
open MeetsSeq MeetsSeq2 MeetsSeq3 SeqRoads2
/-! ### tuple != tuple, whose things are equal pair by pair, own objects among them -/
end HNt
namespace HNl
open PySem PySem.SeqAt PySem.Spec PyProof.Rows L2
/-! ### xs != [], whatever stands in the list -/
end HNl
namespace Dl
open PySem PySem.Spec PyProof.Rows L2
/-! ### a slot's own list, lent to some statements, and held alone again behind them -/
section
variable {X : Cx} {T : Tx} {π : Nat → Option Pin} {W : WX} {c e : Expr} {pos : Pos} {m : Mi Dt} {mc : Mi Bool} {A : Addr → Prop} {F H F0 H0 : Hp} {σ : L2.St} {ρ : En} {s t : En → So} {st : Stmt} {rest : List Stmt} {ws : List Nat} {i : Nat}
def Keeps (ws : List Nat) (σ0 σ : L2.St) : Prop := σ.length = σ0.length ∧ ∀ j, j ∉ ws → σ[j]? = σ0[j]?
/-- as PostS, but of all names outside ws it is known that they stay -/
def PostF (T : Tx) (π : Nat → Option Pin) (W : WX) (A : Addr → Prop) (F0 H0 : Hp) (ws : List Nat) (σ0 : L2.St) (D : Ends) : So → Prop
  | .nx ρ' => ∀ σ' F' H', Keeps ws σ0 σ' → StOk T π A F0 H0 F' H' σ' ρ' → D.nx σ' H'
  | .rt d ρ' => ∀ σ' F' H' v, StOk T π A F0 H0 F' H' σ' ρ' → Rep T F' v d → D.rt v H'
  | .exc x ρ' => ∀ σ' F' H' cls d, StOk T π A F0 H0 F' H' σ' ρ' → RepX T F' H' cls d x → W cls d σ' H'
  | _ => False
theorem PostF.bind {α : Type} {D : Ends} {σ0 : L2.St} {m : Mi α} {k : α → En → So} (p : PostF T π W A F0 H0 ws σ0 D (sBind m k ρ)) (s : StOk T π A F0 H0 F H σ ρ) :
    Post T π W σ (fun a => A a ∨ H0 a = none) F H (fun a ρ1 F1 H1 => StOk T π A F0 H0 F1 H1 σ ρ1 ∧ PostF T π W A F0 H0 ws σ0 D (k a ρ1)) (m ρ) := by
  unfold sBind at p
  cases e : m ρ with
  | ok x ρ1 =>
    rw [e] at p
    exact fun F1 H1 k1 r1 => ⟨s.step k1 r1, p⟩
  | exc x ρ1 =>
    rw [e] at p
    exact fun F1 H1 c d k1 r1 x => p σ F1 H1 c d (s.step k1 r1) x
  | bad => rw [e] at p; exact p.elim
end
end Dl
namespace NK
open PySem PySem.Spec PyProof.Rows L2
/-! ### d[k], k in d, d[k] = v, {}, for k in d: keys an int and a tuple of ints -/
/-! ### the walk -/
theorem Held.size {X : Cx} {s : Shared} {a : Addr} {ob : Obj} {kvs : List NE} {us : List Value} {es : Array DictEntry} {ep : Nat} (h : Held X s a ob kvs us es ep) : es.size = kvs.length := by
  have := congrArg List.length h.ent
  rw [Array.length_toList, List.length_zipWith] at this
  have l : us.length = kvs.length := by
    have := h.vs.length
    rw [List.length_map] at this
    omega
  omega
end NK
namespace Dl
open PySem PySem.Spec PyProof.Rows L2
/-! ### a lambda without parameters is made -/
section
variable {X : Cx} {pins : List (Addr × Obj)} {σ : L2.St} {H : Hp} {s : Shared}
theorem frs_old (I : Inv X pins σ H s) {f : Addr} (hf : s.heap.objs.size ≤ f) : f ∉ frs X.stack := fun z => by
  rcases List.mem_cons.mp (I.stkSub _ z) with e | e
  · have h := I.lt
    rw [← e] at h
    exact absurd h (Nat.not_lt.mpr hf)
  · exact I.nofs hf e
/-- what is known of the new function object f, whose code is at c' -/
def LamAt (X : Cx) (params : Arguments) (body : Expr) (scope : Scope) (H : Hp) (f c' : Addr) (s : Shared) : Prop :=
  (∃ pm ctv : Value, s.heap.get? f = some (PySem.W.kla_obj "<lambda>" (X.env.qual ++ "<lambda>") params body scope (cloFrom X.env.cells scope.names []) pm c' ctv)) ∧ H f = none ∧ f ∉ frs X.stack
theorem lam_new {c P : Addr} {ps : Array Value} {params : Arguments} {body : Expr} {scope : Scope} {pos : Pos} {E : Value → Shared → Prop} {Q : Value → Shared → Prop} (I : Inv X pins σ H s) (TB : LamX.TabB X.base X.mg c P) (hcode : X.env.code = .ref c) (hP : H P = some (.tbl ps)) (ht : TriplesOk ps.toList)
    (ha : ∀ (pos : Pos) (cv : Value), codeAmong pos ps.toList = some cv → ∃ c, cv = .ref c ∧ H c = some (LamX.CodeO c (X.env.qual ++ "<lambda>"))) (hdef : defaultsOf params X.env = ([], [])) (hfree : ∀ y ∈ scope.names, y.2 = .free → ∃ c, X.env.cells.lookup y.1 = some c)
    (hit : ∀ (f c' : Addr) (s' : Shared), Inv X pins σ H s' → codeAmong pos ps.toList = some (.ref c') → LamAt X params body scope H f c' s' → Q (.ref f) s')
    (new : ∀ (f c' : Addr) (s' : Shared), H c' = none → Inv X pins σ (upd (upd H P (.tbl (ps ++ #[rawInt pos.line, rawInt pos.col, .ref c']))) c' (LamX.CodeO c' (X.env.qual ++ "<lambda>"))) s' →
      LamAt X params body scope (upd (upd H P (.tbl (ps ++ #[rawInt pos.line, rawInt pos.col, .ref c']))) c' (LamX.CodeO c' (X.env.qual ++ "<lambda>"))) f c' s' → Q (.ref f) s') :
    wpAny (model X.prog X.w) X.A (eval (.Lambda params body scope pos) X.env) Q E s := by
  have bP : s.heap.BuiltinsAt X.mg P := TB.bm.keeps I.bk
  have hP' : s.heap.get? P = some { cls := .none, data := .fields ps } := I.hok P _ hP
  refine PySem.W.kla_eval hdef ?_
  cases hc : codeAmong pos ps.toList with
  | some cv =>
    obtain ⟨c', e, hco⟩ := ha pos cv hc
    subst e
    refine PySem.W.kla_makeFunctionHit (mg := X.mg) (c := c) (P := P) (ps := ps) (closure_ok hfree) I.ok.glob (I.mod.glob.keeps I.bk) hcode (TB.code.keeps I.bk) hP' ht hc bP fun ctv h' tk hx hsz => ?_
    exact hit _ c' _ (I.kept fun b o e => Heap.get?_push_of_some _ (hx b o e)) hc ⟨⟨_, _, Heap.get?_push_size _ rfl⟩, I.hok.fresh hsz, frs_old I hsz⟩
  | none =>
    refine PySem.W.kla_makeFunction (mg := X.mg) (c := c) (P := P) (ps := ps) (closure_ok hfree) I.ok.glob (I.mod.glob.keeps I.bk) hcode (TB.code.keeps I.bk) hP' ht hc TB.gP bP fun c' ctv h' tk hx hge hlt hrec htb => ?_
    obtain ⟨c2, oc, vs, t, e2, hoc, hd, hv⟩ := hrec
    cases e2
    have hsz : s.heap.objs.size ≤ h'.objs.size := Nat.le_trans hge (Nat.le_of_lt hlt)
    have nf : H h'.objs.size = none := I.hok.fresh hsz
    have n1 : h'.objs.size ≠ c' := Nat.ne_of_gt hlt
    have n2 : h'.objs.size ≠ P := fun z => by rw [z, hP] at nf; cases nf
    refine new _ c' _ (I.hok.fresh hge) (LamX.inv_table (t' := tk) (more := #[rawInt pos.line, rawInt pos.col, .ref c']) I hP (fun b o hb e => Heap.get?_push_of_some _ (hx b o hb e)) (Heap.get?_push_of_some _ htb) hge ⟨oc, vs, t, Heap.get?_push_of_some _ hoc, hd, hv⟩) ⟨⟨_, _, Heap.get?_push_size _ rfl⟩, ?_, frs_old I hsz⟩
    rw [upd_ne n1, upd_ne n2]
    exact nf
end
/-! ### it is called, in the def that got it -/
section
variable {X : Cx} {pins : List (Addr × Obj)} {σ : L2.St} {H : Hp} {s : Shared} {Eg : XK} {Ng : List Str} {qg : Str} {sg : Scope} {g f c' : Addr} {cdg : Value} {params : Arguments} {body : Expr} {scope : Scope} {k i : Nat} {a : Str} {pn : List (Addr × Obj)} {xe : Value → Shared → Prop} {W : WX} {p1 p2 : Pos}
abbrev gotCx (X : Cx) (Ng : List Str) (qg : Str) (sg : Scope) (g : Addr) (cdg : Value) (s : Shared) (H : Hp) (Eg : XK) : Cx := cxOf (L2.CX X.prog X.w) X.prog X.w X.K X.mg X.base Ng qg sg g cdg X.A X.stack s H Eg
theorem act_pe {tb : XK → TE} (I : Inv X pins σ H s) (L : LamX.LamS X.env.scope scope) (hf : LamAt X params body scope H f c' s)
    (hbind : ∀ (q : Str) (cl : List (Str × Addr)) (pm cv ctv : Value), bindArgs (PySem.W.kla_fn "<lambda>" q params body scope cl pm cv ctv) ⟨[], []⟩ = pure [])
    (tk : Takes ((gotCx X Ng qg sg g cdg s H Eg).tr pn xe) W) (hr : Room (k + 1) (X.A.deeper (envOfC qg sg s.heap.objs.size g cdg)))
    (hbody : ∀ (A : Around) (outer : List Env) (s : Shared) (H : Hp) (E : XK), Room k (A.deeper (LamX.lamEnv X scope s.heap.objs.size f c')) → PE (LamX.lamCx X A outer s H E scope f c') body (tb E))
    (hN : Ng[i]? = some a) (hv : Vis sg a) (hd : (a == ("__debug__" : Str)) = false := by decide) (hcd : (a == ("__classdict__" : Str)) = false := by decide) :
    PE ((gotCx X Ng qg sg g cdg s H Eg).tr pn xe) (.Call (.Name a p1) [] [] p2) (fun σZ HZ Q => σZ[i]? = some (some (.ref f)) ∧ HZ c' = some (LamX.CodeO c' (X.env.qual ++ "<lambda>")) ∧ tb (WE W σZ) σ HZ Q) := by
  refine ⟨fun pinsZ sZ σZ HZ Q IZ h => ?_⟩
  obtain ⟨hs, hc, ht⟩ := h
  obtain ⟨⟨pm, ctv, of⟩, hfn, hfr⟩ := hf
  refine wpAny_Call_Name_kw (thn ((pe_var (pos := p1) (i := i) hN hv hd hcd).run pinsZ sZ σZ HZ (fun v H1 => v = .ref f ∧ H1 = HZ) IZ ⟨.ref f, hs, rfl, rfl⟩) fun u s1 hq1 => ?_)
  obtain ⟨v, H1, I1, r1, ev, eH⟩ := hq1
  subst ev
  rw [eH] at I1
  obtain rfl : u = Value.ref f := r1
  have un : Un (frs X.stack) [] H HZ s.heap s1.heap := I1.base
  have of1 := I1.base.keep f _ of hfn hfr (fun z => nomatch (show f ∈ ([] : List Addr) from z))
  obtain ⟨⟨oc, vs, t, hoc, hdc, hvc⟩, _, _⟩ := I1.hok c' _ hc
  refine PySem.W.callWith_F0 ⟨_, _, _, _, of1⟩ (wpAny_call (codeAny_mono (R := CR (L2.CX X.prog X.w) (envOfC qg sg s.heap.objs.size g cdg :: X.stack) X.prog X.w HZ s1 Q (WE W σZ)) ?_ fun r s' hq => ?_))
  · refine PySem.W.kla_callFunE hr.depth of1 rfl L.co L.gen rfl ⟨c', oc, vs, t, rfl, hoc, hdc, hvc⟩ ?_
    change wpAny _ _ (bindArgs _ ⟨[], []⟩) _ _ _
    rw [hbind]
    refine wpAny_pure (wpAny_newFunctionEnv (fun y hy => (L.own y hy).2) (fun y hy => absurd hy (by simp)) (fun h₁ hns hsb => ⟨I1.nolimit.fresh _ hsb, ?_⟩) L.kind)
    show codeAny _ _ (.expr body (LamX.lamEnv X scope s1.heap.objs.size f c')) _ _
    have kp : ∀ b o, s1.heap.get? b = some o → h₁.get? b = some o := fun b o e => hsb.extBut b o (Nat.ne_of_lt (Heap.lt_size e)) (Heap.get?_push_of_some _ e)
    have J := LamX.lam_start2 (A := X.A.deeper (envOfC qg sg s.heap.objs.size g cdg)) (outer := envOfC qg sg s.heap.objs.size g cdg :: X.stack) (E := WE W σZ) (f := f) (c' := c') (tk := s1.toks + ([] : List (Str × Value)).length) I L I1.env0 hr.hd un hns kp
    refine PySem.W.kla_codeExpr (wpAny_mono ((hbody _ _ s1 HZ _ (hr.deeper _)).run [] _ _ HZ Q J ht) (fun v s' hq => ?_) fun e s' hq => hq)
    obtain ⟨w', H', J', rv, q⟩ := hq
    exact ⟨w', H', J'.os, J'.bare, J'.base, J'.hok, rv, q⟩
  · cases r with
    | error e => exact passAt tk σZ pinsZ HZ s1 e s' I1 hq
    | ok fl =>
      cases fl with
      | ret u => exact I1.after hq
      | next => exact False.elim hq
      | brk => exact False.elim hq
      | cont => exact False.elim hq
end
/-! ### as data -/
/-- what a maker's names held, as far as the lambda asks for them -/
def cloE (n : Nat) (is : List Nat) (ds : List Dt) : En := (List.range n).map fun i => ((is.zip ds).lookup i).map Sl.val
def outF : Ou Dt → Fo
  | .ok d _ => .ret d .non
  | .exc x _ => .exc x .non
  | .bad => .bad
/-- the lambda at slot i is called: L its object, o what comes of it -/
noncomputable def mAct (i : Nat) (L : Dt) (o : Fo) : Mi Dt := fun ρ => match ρ[i]? with
  | some (some (.val L')) => @ite _ (L' = L) (Classical.propDecidable _) (match o with | .ret d _ => .ok d ρ | .exc x _ => .exc x ρ | .bad => .bad) .bad
  | _ => .bad
theorem act_ret {i : Nat} {L d r : Dt} {ρ : En} (h : ρ[i]? = some (some (.val L))) : mAct i L (.ret d r) ρ = .ok d ρ := by
  unfold mAct; rw [h]; dsimp only; rw [if_pos rfl]
theorem act_exc {i : Nat} {L r : Dt} {x : Ex} {ρ : En} (h : ρ[i]? = some (some (.val L))) : mAct i L (.exc x r) ρ = .exc x ρ := by
  unfold mAct; rw [h]; dsimp only; rw [if_pos rfl]
theorem act_bad {i : Nat} {L : Dt} {ρ : En} (h : ρ[i]? = some (some (.val L))) : mAct i L .bad ρ = .bad := by
  unfold mAct; rw [h]; dsimp only; rw [if_pos rfl]
def grab (ρ : En) : List Nat → Option (List Dt)
  | [] => some []
  | i :: is => match ρ[i]?, grab ρ is with
    | some (some (.val d)), some ds => some (d :: ds)
    | _, _ => none
section
variable {T : Tx} {π : Nat → Option Pin} {A : Addr → Prop} {F H : Hp} {σ : L2.St} {ρ : En}
theorem grab_reps (k : Ok T π A F H σ ρ) : ∀ {is : List Nat} {ds : List Dt}, grab ρ is = some ds → ∃ vs, vs.length = is.length ∧ (∀ (j i : Nat) (v : V), is[j]? = some i → vs[j]? = some v → σ[i]? = some (some v)) ∧ Reps T F vs ds
  | [], ds, h => by
    cases h
    exact ⟨[], rfl, fun j i v e _ => by simp at e, .nil⟩
  | i :: is, ds, h => by
    unfold grab at h
    split at h
    · rename_i d ds' h1 h2
      cases h
      obtain ⟨vs, l, g, r⟩ := grab_reps k h2
      obtain ⟨v, s1, r1⟩ := k.val i d h1
      refine ⟨v :: vs, by rw [List.length_cons, List.length_cons, l], fun j i' w e1 e2 => ?_, .cons r1 r⟩
      cases j with
      | zero => cases e1; cases e2; exact s1
      | succ j => exact g j i' w (by simpa using e1) (by simpa using e2)
    · cases h
theorem clo_ok {is : List Nat} {ds : List Dt} {vs : List V} {π0 : Nat → Option Pin} (le : Le F H) (l : vs.length = is.length) (g : ∀ (j i : Nat) (v : V), is[j]? = some i → vs[j]? = some v → σ[i]? = some (some v)) (r : Reps T F vs ds) : Ok T π0 (pinA none) F H σ (cloE σ.length is ds) := by
  have find : ∀ {is : List Nat} {ds : List Dt} {vs : List V} {i : Nat} {d : Dt}, vs.length = is.length → Reps T F vs ds → (is.zip ds).lookup i = some d → ∃ (j : Nat) (v : V), is[j]? = some i ∧ vs[j]? = some v ∧ Rep T F v d := by
    intro is
    induction is with
    | nil => intro ds vs i d _ _ e; simp at e
    | cons x is ih =>
      intro ds vs i d l r e
      cases r with
      | nil => simp at l
      | cons h r =>
        rw [List.zip_cons_cons, List.lookup_cons] at e
        by_cases hx : i = x
        · subst hx
          simp at e
          subst e
          exact ⟨0, _, rfl, rfl, h⟩
        · have hb : (i == x) = false := by simpa using hx
          rw [hb] at e
          obtain ⟨j, v, h1, h2, h3⟩ := ih (by simpa using l) r e
          exact ⟨j + 1, v, by simpa using h1, by simpa using h2, h3⟩
  have noo : ∀ (i : Nat) io d, (cloE σ.length is ds)[i]? ≠ some (some (.own io d)) := fun i io d e => by
    unfold cloE at e
    rw [List.getElem?_map] at e
    cases q : (List.range σ.length)[i]? with
    | none => rw [q] at e; cases e
    | some j =>
      rw [q] at e
      cases w : (is.zip ds).lookup j with
      | none => rw [Option.map_some, w] at e; cases e
      | some d' => rw [Option.map_some, w] at e; cases e
  refine ⟨le, by unfold cloE; simp, fun i d e => ?_, fun i io d e => absurd e (noo i io d), fun i j io jo d e a b x ei => absurd ei (noo i io d)⟩
  unfold cloE at e
  rw [List.getElem?_map] at e
  cases q : (List.range σ.length)[i]? with
  | none => rw [q] at e; cases e
  | some j =>
    have hj : j = i := by
      rw [List.getElem?_eq_some_iff] at q
      obtain ⟨_, q⟩ := q
      rw [List.getElem_range] at q
      exact q.symm
    subst hj
    rw [q] at e
    cases w : (is.zip ds).lookup j with
    | none => rw [Option.map_some, w] at e; cases e
    | some d' =>
      rw [Option.map_some, w] at e
      cases e
      obtain ⟨t, v, h1, h2, h3⟩ := find l r w
      exact ⟨v, g t j v h1 h2, h3⟩
/-- the table has a code object more -/
theorem Ok.coded {i : Nat} {io : Bool} {q : Str} {P c' : Addr} {ps ps' : Array Value} (k : Ok T π A F H σ ρ) (e : ρ[i]? = some (some (.own io (.tbl q)))) (s : σ[i]? = some (some (.ref P))) (hP : H P = some (.tbl ps)) (hc : H c' = none) (ht : TriplesOk ps'.toList)
    (ha : ∀ (pos : Pos) (cv : Value), codeAmong pos ps'.toList = some cv → (∃ c, cv = .ref c ∧ F c = some (LamX.CodeO c q)) ∨ cv = .ref c') :
    Ok T π A (upd F c' (LamX.CodeO c' q)) (upd (upd H P (.tbl ps')) c' (LamX.CodeO c' q)) σ ρ ∧ Fr A F H (upd F c' (LamX.CodeO c' q)) (upd (upd H P (.tbl ps')) c' (LamX.CodeO c' q)) := by
  have nPc : P ≠ c' := fun z => by rw [z, hc] at hP; cases hP
  have fc : F c' = none := f_none k.le hc
  obtain ⟨b, q1, q2, q3, q4, q5, q6⟩ := k.own i io _ e
  rw [s] at q1
  cases q1
  have k1 := k.new (o := LamX.CodeO c' q) hc
  have sw : upd (upd H P (.tbl ps')) c' (LamX.CodeO c' q) = upd (upd H c' (LamX.CodeO c' q)) P (.tbl ps') := by
    funext y
    by_cases hy : y = c'
    · subst hy
      rw [upd_same, upd_ne (fun z => nPc z.symm), upd_same]
    · rw [upd_ne hy]
      by_cases hy2 : y = P
      · subst hy2; rw [upd_same, upd_same]
      · rw [upd_ne hy2, upd_ne hy2, upd_ne hy]
  rw [sw]
  have hset : ρ.set i (some (.own io (.tbl q))) = ρ := by
    apply List.ext_getElem?
    intro j
    by_cases hj : i = j
    · subst hj
      rw [List.getElem?_set_self (List.getElem?_eq_some_iff.mp e).1, e]
    · rw [List.getElem?_set_ne hj]
  have k2 := k1.put (o := .tbl ps') e s (d' := .tbl q) ⟨ps', upd_same, ht, fun pos cv hcv => by
    rcases ha pos cv hcv with ⟨c, h1, h2⟩ | h1
    · exact ⟨c, h1, by rw [upd_ne fun z => by rw [z, fc] at h2; cases h2]; exact h2⟩
    · exact ⟨c', h1, upd_same⟩⟩
  rw [hset] at k2
  refine ⟨k2, ⟨le_new fc, fun y u hy z => ?_, fun y u hy z _ => ?_, fun y z => ?_⟩⟩
  · rw [upd_ne fun w => hy (by rw [w]; exact q4), upd_ne fun w => by rw [w, hc] at z; cases z]
    exact z
  · rw [upd_ne fun w => by rw [w, hc] at z; cases z]
  · exact up_none (up_none z)
end
section
variable {X : Cx} {pins : List (Addr × Obj)} {σ : L2.St} {H : Hp} {s : Shared} {Eg : XK} {Ng : List Str} {qg : Str} {sg : Scope} {g f c' : Addr} {cdg : Value} {params : Arguments} {body : Expr} {scope : Scope} {k i : Nat} {a : Str} {pn : List (Addr × Obj)} {xe : Value → Shared → Prop} {W : WX} {p1 p2 : Pos}
variable {T : Tx} {π π0 : Nat → Option Pin} {ml : Mi Dt} {is : List Nat} {ds : List Dt}
theorem de_act (I : Inv X pins σ H s) (L : LamX.LamS X.env.scope scope) (hf : LamAt X params body scope H f c' s)
    (hbind : ∀ (q : Str) (cl : List (Str × Addr)) (pm cv ctv : Value), bindArgs (PySem.W.kla_fn "<lambda>" q params body scope cl pm cv ctv) ⟨[], []⟩ = pure [])
    (tk : Takes ((gotCx X Ng qg sg g cdg s H Eg).tr pn xe) W) (hr : Room (k + 1) (X.A.deeper (envOfC qg sg s.heap.objs.size g cdg)))
    (hbody : ∀ (A : Around) (outer : List Env) (s : Shared) (H : Hp) (E : XK), Room k (A.deeper (LamX.lamEnv X scope s.heap.objs.size f c')) → PE (LamX.lamCx X A outer s H E scope f c') body (TMe T π0 (fun cls d _ H => E cls d H) ml))
    (hN : Ng[i]? = some a) (hv : Vis sg a) (hd : (a == ("__debug__" : Str)) = false := by decide) (hcd : (a == ("__classdict__" : Str)) = false := by decide) :
    PE ((gotCx X Ng qg sg g cdg s H Eg).tr pn xe) (.Call (.Name a p1) [] [] p2) (TMe T π W (mAct i (.lam f c' (X.env.qual ++ "<lambda>") σ is ds) (outF (ml (cloE σ.length is ds))))) :=
  (act_pe (tb := fun E => TMe T π0 (fun cls d _ H => E cls d H) ml) (W := W) (p1 := p1) (p2 := p2) I L hf hbind tk hr hbody hN hv hd hcd).imp fun σZ HZ Q ⟨A, F, ρ, k, p⟩ => by
    unfold mAct at p
    cases e : ρ[i]? with
    | none => rw [e] at p; exact p.elim
    | some sl =>
      cases sl with
      | none => rw [e] at p; exact p.elim
      | some sl =>
        cases sl with
        | own io d => rw [e] at p; exact p.elim
        | val L' =>
          rw [e] at p
          dsimp only at p
          by_cases hL : L' = .lam f c' (X.env.qual ++ "<lambda>") σ is ds
          · rw [if_pos hL] at p
            subst hL
            obtain ⟨v, h1, h2⟩ := k.val i _ e
            cases h2 with
            | lam hF hl hg r =>
              refine ⟨h1, k.le _ _ hF, pinA none, F, cloE σ.length is ds, clo_ok k.le hl hg r, ?_⟩
              cases em : ml (cloE σ.length is ds) with
              | ok d ρ' =>
                rw [em] at p
                exact fun F' H' k' r' v rv => p F' H' (k.called k'.le r') (r'.weak fun a z => by obtain ⟨q, z, _⟩ := z; cases z) v rv
              | exc x ρ' =>
                rw [em] at p
                exact fun F' H' cls d k' r' rx => p F' H' cls d (k.called k'.le r') (r'.weak fun a z => by obtain ⟨q, z, _⟩ := z; cases z) rx
              | bad => rw [em] at p; exact p.elim
          · rw [if_neg hL] at p
            exact p.elim
end
/-- a def's start, from what comes of its mirror -/
theorem start_t {T : Tx} {N : List Str} {F H : Hp} {vs : List V} {ds : List Dt} {Q : VK} {E : XK} {body : En → So} (hN : vs.length ≤ N.length) (le : Le F H) (r : Reps T F vs ds) (q : FoOk T false none F H Q E (runF N.length false false body ds)) :
    TMs T (pi0 none) (fun cls d _ H => E cls d H) body { nx := fun _ H' => Q .non H', rt := Q } (L2.start N vs) H := by
  have ha : ArgsOk T F H false vs ds none := ⟨r, rfl⟩
  refine ⟨_, F, H, F, _, ok_start hN le ha, ?_⟩
  have io : ∀ {F' H' : Hp} {o : Dt}, IoOk T F' H' none o := fun q z => by cases z
  unfold runF at q
  cases eb : body (argE false ds ++ List.replicate (N.length - ds.length) none) with
  | nx ρ => rw [eb] at q; exact fun σ' F' H' k' => q F' H' .non k'.ok.le k'.fr io .non
  | rt d ρ => rw [eb] at q; exact fun σ' F' H' v k' rv => q F' H' v k'.ok.le k'.fr io rv
  | rtN d ρ => rw [eb] at q; exact q.elim
  | exc x ρ => rw [eb] at q; exact fun σ' F' H' cls d k' rx => q F' H' cls d k'.ok.le k'.fr io rx
  | bk ρ => rw [eb] at q; exact q.elim
  | ct ρ => rw [eb] at q; exact q.elim
  | bad => rw [eb] at q; exact q.elim
end Dl
namespace Dl
open PySem PySem.Spec PyProof.Rows L2
/-! ### x(lambda: ..) -/
/-- kk: the slot of the table; is: the slots that the lambda asks for; ml: the lambda; fm: what the def makes of what comes of it -/
def mLam (kk : Nat) (q : Str) (is : List Nat) (ml : Mi Dt) (fm : Fo → Fo) : Mi Dt := fun ρ => match ρ[kk]? with
  | some (some (.own true (.tbl q'))) => if q' = q then (match grab ρ is with
    | some ds => (match fm (outF (ml (cloE ρ.length is ds))) with
      | .ret d _ => .ok d ρ
      | .exc x _ => .exc x ρ
      | .bad => .bad)
    | none => .bad) else .bad
  | _ => .bad
/-- a def that calls what it got: its body, where that call is told -/
def GotBy (X : Cx) (k : Nat) (Ng : List Str) (x : Str) (sg : Scope) (g : Addr) (T : Tx) (bg : List Stmt) (a : Str) (bm : Dt → Fo → En → So) : Prop :=
  ∀ (cdv : Value) (s : Shared) (H : Hp) (E : XK) (L0 : Dt) (o : Fo), Room k (X.A.deeper (envOfC x sg s.heap.objs.size g cdv)) →
    (∀ (W : WX) (pn : List (Addr × Obj)) (xe : Value → Shared → Prop) (p1 p2 : Pos), Takes ((gotCx X Ng x sg g cdv s H E).tr pn xe) W → PE ((gotCx X Ng x sg g cdv s H E).tr pn xe) (.Call (.Name a p1) [] [] p2) (TMe T (pi0 none) W (mAct 0 L0 o))) →
    PSs (gotCx X Ng x sg g cdv s H E) bg (TMs T (pi0 none) (fun cls d _ H => E cls d H) (bm L0 o))
section
variable {X : Cx} {T : Tx} {π π0 : Nat → Option Pin} {W : WX} {x a : Str} {g c P : Addr} {k kk : Nat} {st : Stmt} {fd : FuncData} {Ng : List Str} {params : Arguments} {body : Expr} {scope : Scope} {p lpos pos : Pos} {ml : Mi Dt} {is : List Nat} {fm : Fo → Fo} {bm : Dt → Fo → En → So}
theorem de_lamcall (hg : Gl X x) (hm : X.mg x = some (.ref g)) (hk : PySem.W.keepIn X.K (.ref g) = true) (F : Fun X.K x x st g fd) (hb : L2.Binds X.K fd [a] []) (Sg : FnScope Ng [a] (defScope st)) (hNg : Ng[0]? = some a) (hva : Vis (defScope st) a)
    (hG : GotBy X (k + 1) Ng x (defScope st) g T (defBody st) a bm) (hfm : ∀ L0 o, runF Ng.length false false (bm L0 o) [L0] = fm o)
    (TB : LamX.TabB X.base X.mg c P) (hcode : X.env.code = .ref c) (hπ : π kk = some (P, [])) (hr : Room (k + 2) X.A) (L : LamX.LamS X.env.scope scope) (hdef : defaultsOf params X.env = ([], []))
    (hbind : ∀ (q : Str) (cl : List (Str × Addr)) (pm cv ctv : Value), bindArgs (PySem.W.kla_fn "<lambda>" q params body scope cl pm cv ctv) ⟨[], []⟩ = pure [])
    (hbody : ∀ (A : Around) (outer : List Env) (s : Shared) (H : Hp) (E : XK) (f c' : Addr), Room k (A.deeper (LamX.lamEnv X scope s.heap.objs.size f c')) → PE (LamX.lamCx X A outer s H E scope f c') body (TMe T π0 (fun cls d _ H => E cls d H) ml))
    (tk : Takes X W)
    (hdb : (x == ("__debug__" : Str)) = false := by decide) (hd : (a == ("__debug__" : Str)) = false := by decide) (hcd : (a == ("__classdict__" : Str)) = false := by decide) :
    PE X (.Call (.Name x p) [.Lambda params body scope lpos] [] pos) (TMe T π W (mLam kk (X.env.qual ++ "<lambda>") is ml fm)) := by
  obtain ⟨oc, od, kV, doc, pm, an, cdv, ct, osl, rfl, lk, hcg⟩ := F.ex
  refine ⟨fun pins s σ H Q I ⟨A, F, ρ, k0, p⟩ => ?_⟩
  unfold mLam at p
  cases ek : ρ[kk]? with
  | none => rw [ek] at p; exact p.elim
  | some sl =>
    cases sl with
    | none => rw [ek] at p; exact p.elim
    | some sl =>
      cases sl with
      | val d => rw [ek] at p; exact p.elim
      | own io d =>
        cases io with
        | false => rw [ek] at p; exact p.elim
        | true =>
          cases d <;> first | (rw [ek] at p; exact p.elim; done) | skip
          rename_i q'
          rw [ek] at p
          dsimp only at p
          by_cases hq : q' = X.env.qual ++ "<lambda>"
          · rw [if_pos hq] at p
            subst hq
            cases eg : grab ρ is with
            | none => rw [eg] at p; exact p.elim
            | some ds =>
              rw [eg] at p
              dsimp only at p
              obtain ⟨a0, s1, f1, ⟨ps, hP, ht, ha⟩, hA, hpi, _⟩ := k0.own kk true _ ek
              have ea : a0 = P := by
                have := hpi rfl
                rw [hπ] at this
                exact (Prod.mk.inj (Option.some.inj this)).1.symm
              subst ea
              have hlen : σ.length = ρ.length := k0.len
              refine wpAny_Call_Name_kw (ld_glob I hg hm ?_ hdb)
              refine PySem.W.callWith_K (h₀ := X.base) I.ok.mod.kin hk ?_ (by rfl) (by rfl)
              show wpAny _ _ (spliced ((false, eval (.Lambda params body scope lpos) X.env) :: backTo pos (starEach [] X.env))) _ _ s
              have fin : ∀ (f c' : Addr) (s' : Shared) (F1 H1 : Hp), Inv X pins σ H1 s' → LamAt X params body scope H1 f c' s' → Ok T π A F1 H1 σ ρ → Fr A F H F1 H1 → F1 c' = some (LamX.CodeO c' (X.env.qual ++ "<lambda>")) →
                  codeAny (model X.prog X.w) X.A (.call (.ref g) ⟨[.ref f], []⟩) (CR (L2.CX X.prog X.w) X.stack X.prog X.w H1 s' Q (WE W σ)) s' := fun f c' s' F1 H1 I1 hla k1 fr1 hF1 => by
                obtain ⟨vs, l, gg, rs⟩ := grab_reps k1 eg
                let L0 : Dt := .lam f c' (X.env.qual ++ "<lambda>") σ is ds
                refine LamX.run_ofS (N := Ng) (ps := [a]) (us := [.ref f]) (vs := [.ref f]) lk hcg Sg hr I1.env0 (hb s' [.ref f] I1.kIn rfl) (.cons rfl .nil) rfl fun hr' => ⟨_, hG cdv s' H1 (WE W σ) L0 (outF (ml (cloE σ.length is ds))) hr' (fun W' pn xe p1 p2 tk' => de_act (π0 := π0) (p1 := p1) (p2 := p2) I1 L hla hbind tk' hr' (fun A outer s H E hr2 => hbody A outer s H E f c' hr2) hNg hva hd hcd), ?_⟩
                have hN1 : [V.ref f].length ≤ Ng.length := by
                  have := (List.getElem?_eq_some_iff.mp hNg).1
                  exact this
                refine start_t (ds := [L0]) hN1 k1.le (.cons (.lam hF1 l gg rs) .nil) ?_
                rw [hfm, hlen]
                cases efm : fm (outF (ml (cloE ρ.length is ds))) with
                | ret d r =>
                  rw [efm] at p
                  exact fun F' H' v le' fr' _ rv => p F' H' (k1.called le' fr') (fr1.trans (fr'.weak fun a z => by obtain ⟨q, z, _⟩ := z; cases z)) v rv
                | exc y r =>
                  rw [efm] at p
                  exact fun F' H' cls d le' fr' _ rx => p F' H' cls d (k1.called le' fr') (fr1.trans (fr'.weak fun a z => by obtain ⟨q, z, _⟩ := z; cases z)) rx
                | bad => rw [efm] at p; exact p.elim
              refine Calls.spliced_cons (lam_new I TB hcode hP ht (fun pos cv hcv => let ⟨c, h1, h2⟩ := ha pos cv hcv; ⟨c, h1, k0.le _ _ h2⟩) hdef (L.has I.ok) (fun f c' s' I1 hc hla => ?_) fun f c' s' hc I1 hla => ?_)
              · refine Calls.spliced_nil ⟨I1.kIn, ?_⟩
                obtain ⟨c2, h1, h2⟩ := ha _ _ hc
                cases h1
                refine wpAny_call (codeAny_mono (fin f c' s' F H I1 hla k0 .refl h2) fun r s2 hq => ?_)
                cases r with
                | error e => exact passAt tk σ pins _ s' e s2 I1 hq
                | ok fl =>
                  cases fl with
                  | ret u => exact I1.after hq
                  | next => exact False.elim hq
                  | brk => exact False.elim hq
                  | cont => exact False.elim hq
              · refine Calls.spliced_nil ⟨I1.kIn, ?_⟩
                obtain ⟨k1, fr1⟩ := k0.coded (ps' := ps ++ #[rawInt lpos.line, rawInt lpos.col, .ref c']) ek s1 hP hc (by
                  have eL : (ps ++ #[rawInt lpos.line, rawInt lpos.col, .ref c']).toList = ps.toList ++ [rawInt lpos.line, rawInt lpos.col, .ref c'] := by simp
                  rw [eL]
                  exact PySem.TriplesOk_snoc _ _ _ _ ht) (fun pos' cv hcv => by
                  have eL : (ps ++ #[rawInt lpos.line, rawInt lpos.col, .ref c']).toList = ps.toList ++ [rawInt lpos.line, rawInt lpos.col, .ref c'] := by simp
                  rw [eL] at hcv
                  rcases LamX.among_app _ ht hcv with z | z
                  · exact .inl (ha pos' cv z)
                  · exact .inr z)
                refine wpAny_call (codeAny_mono (fin f c' s' _ _ I1 hla k1 fr1 upd_same) fun r s2 hq => ?_)
                cases r with
                | error e => exact passAt tk σ pins _ s' e s2 I1 hq
                | ok fl =>
                  cases fl with
                  | ret u => exact I1.after hq
                  | next => exact False.elim hq
                  | brk => exact False.elim hq
                  | cont => exact False.elim hq
          · rw [if_neg hq] at p
            exact p.elim
theorem tk_lam {A : Around} {outer : List Env} {s : Shared} {H : Hp} {E : XK} {f c : Addr} : Takes (LamX.lamCx X A outer s H E scope f c) (fun cls d _ H => E cls d H) := takes_of rfl rfl rfl rfl
end
/-! ### a slot behind the names -/
section
variable {X : Cx} {sts : List Stmt} {t : TS} {kk : Nat} {y : Str}
theorem inv_ghost {pins : List (Addr × Obj)} {σ : L2.St} {H : Hp} {s : Shared} (I : Inv X pins σ H s) (hy : X.N[kk]? = some y) (hv : ¬ Vis X.env.scope y) (u : Option V) : Inv X pins (σ.set kk u) H s := by
  obtain ⟨m, h1, h2⟩ := I.loc
  refine ⟨I.ok, I.os, I.bare, I.base, ⟨m, h1, fun i x v e1 e2 e3 => ?_⟩, I.cell, I.free, I.freeC, I.pin, I.hok, by rw [List.length_set]; exact I.len⟩
  by_cases hi : kk = i
  · subst hi
    rw [hy] at e1
    cases e1
    exact absurd e3 hv
  · rw [List.getElem?_set_ne hi] at e2
    exact h2 i x v e1 e2 e3
theorem pss_ghost (h : PSs X sts t) (hy : X.N[kk]? = some y) (hv : ¬ Vis X.env.scope y) (u : Option V) : PSs X sts (fun D σ H => t D (σ.set kk u) H) :=
  ⟨fun pins s σ H D I q => h.run pins s (σ.set kk u) H D (inv_ghost I hy hv u) q⟩
end
/-! ### the law, that makes lambdas -/
def piT (kk : Nat) (P : Addr) : Nat → Option Pin := fun i => if i = kk then some (P, []) else none
end Dl
namespace Dl
open PySem PySem.Spec PyProof.Rows L2
/-! ### a def that makes lambdas itself, called -/
/-- P: the table of the def's code, q: the name of its lambdas -/
def spMT (T : Tx) (P : Addr) (q : Str) (n : Nat) (f : List Dt → Fo) : Sp := fun vs H Q E => ∃ F ds, vs.length = n ∧ Le F H ∧ F P = none ∧ OwnAt T F H P (.tbl q) ∧ Reps T F vs ds ∧ FoOk T false (some (P, [])) F H Q E (f ds)
/-- i: the slot of that table -/
def mCallT (n : Nat) (f : List Dt → Fo) (i : Nat) (q : Str) (ms : Mi (List Dt)) : Mi Dt := mBind ms fun ds ρ => match ρ[i]? with
  | some (some (.own true (.tbl q'))) => if q' = q then (if ds.length = n then (match f ds with
    | .ret r o => .ok r (ρ.set i (some (.own true o)))
    | .exc x o => .exc x (ρ.set i (some (.own true o)))
    | .bad => .bad) else .bad) else .bad
  | _ => .bad
section
variable {X : Cx} {T : Tx} {π : Nat → Option Pin} {W : WX} {e : Expr} {es : List Expr} {p pos : Pos} {ms : Mi (List Dt)} {k n i : Nat} {f P : Addr} {fd : FuncData} {ps : List Str} {x q : Str} {fm : List Dt → Fo}
theorem de_callT (G : FnOk X.prog X.w X.K X.mg X.base (L2.CX X.prog X.w) k f fd ps (spMT T P q n fm)) (hr : Room k X.A) (hg : Gl X x) (hm : X.mg x = some (.ref f)) (hk : PySem.W.keepIn X.K (.ref f) = true) (hb : Binds X.K fd ps []) (tk : Takes X W) (hπ : π i = some (P, [])) (ha : PA X (e :: es) (TMa T π W ms))
    (hdb : (x == ("__debug__" : Str)) = false := by decide) (he : starEach (e :: es) X.env = (false, eval e X.env) :: starEach es X.env := by rfl) (hpl : (backTo pos (starEach es X.env)).any (·.1) = false := by rfl) :
    PE X (.Call (.Name x p) (e :: es) [] pos) (TMe T π W (mCallT n fm i q ms)) := (pe_callSD (E := WE W) G hr hg hm hk hb .nil (fun σ => passAt tk σ) ha hdb he hpl).imp fun σ H Q ⟨A, F, ρ, k, p⟩ => ⟨A, F, ρ, k, p.bind.imp fun ds ρ1 F1 H1 k1 r1 p1 vs rvs => by
  show spMT T P q n fm (vs ++ []) H1 Q (WE W σ)
  rw [List.append_nil]
  split at p1
  · rename_i q' eq
    by_cases hq : q' = q
    · subst hq
      rw [if_pos rfl] at p1
      by_cases hl : ds.length = n
      · rw [if_pos hl] at p1
        obtain ⟨a, s1, f1, o1, _, hpi, _⟩ := k1.own i true _ eq
        have ea : a = P := by
          have := hpi rfl
          rw [hπ] at this
          exact (Prod.mk.inj (Option.some.inj this)).1.symm
        subst ea
        refine ⟨F1, ds, by rw [rvs.length]; exact hl, k1.le, f1, o1, rvs, ?_⟩
        cases ef : fm ds with
        | ret rr oo =>
          rw [ef] at p1
          exact fun F' H' v le fr io' rv => by
            obtain ⟨k', r'⟩ := k1.calledIo eq s1 le fr io'
            exact p1 F' H' k' r' v rv
        | exc y oo =>
          rw [ef] at p1
          exact fun F' H' cc dd le fr io' rx => by
            obtain ⟨k', r'⟩ := k1.calledIo eq s1 le fr io'
            exact p1 F' H' cc dd k' r' rx
        | bad => rw [ef] at p1; exact p1.elim
      · rw [if_neg hl] at p1; exact p1.elim
    · rw [if_neg hq] at p1; exact p1.elim
  · exact p1.elim⟩
end
/-! ### such a def's promise -/
def tabOut (kk : Nat) (ρ : En) (g : Dt → Fo) : Fo := match ρ[kk]? with
  | some (some (.own true (.tbl q))) => g (.tbl q)
  | _ => .bad
def runFU (k kk : Nat) (q : Str) (body : En → So) (ds : List Dt) : Fo := match body ((argE false ds ++ List.replicate (k - ds.length) none).set kk (some (.own true (.tbl q)))) with
  | .nx ρ => tabOut kk ρ (.ret .non)
  | .rt d ρ => tabOut kk ρ (.ret d)
  | .exc x ρ => tabOut kk ρ (.exc x)
  | _ => .bad
theorem tab_startU {T : Tx} {N : List Str} {F H : Hp} {vs : List V} {ds : List Dt} {kk : Nat} {q : Str} {P : Addr} (hl : vs.length ≤ N.length) (le : Le F H) (r : Reps T F vs ds) (hk : vs.length ≤ kk) (hk2 : kk < N.length) (oP : OwnAt T F H P (.tbl q)) (fP : F P = none) :
    StOk T (piT kk P) (fun a => a = P) F H F H ((L2.start N vs).set kk (some (.ref P))) ((argE false ds ++ List.replicate (N.length - ds.length) none).set kk (some (.own true (.tbl q)))) := by
  obtain ⟨k0, _⟩ := ok_start (T := T) (io := false) (π0 := none) hl le ⟨r, rfl⟩
  have hlen : (argE false ds ++ List.replicate (N.length - ds.length) none).length = N.length := by
    have := k0.len
    rw [← this]
    unfold L2.start
    simp
    omega
  have noo : ∀ (i : Nat) io d, (argE false ds ++ List.replicate (N.length - ds.length) none)[i]? ≠ some (some (.own io d)) := fun i io d e => by
    obtain ⟨e, _⟩ := app_some e
    exact noown ds i io d e
  have own : ∀ {i : Nat} {io : Bool} {d : Dt}, ((argE false ds ++ List.replicate (N.length - ds.length) none).set kk (some (.own true (.tbl q))))[i]? = some (some (.own io d)) → i = kk ∧ io = true ∧ d = .tbl q := fun {i io d} e => by
    by_cases hi : kk = i
    · subst hi
      rw [List.getElem?_set_self (by rw [hlen]; exact hk2)] at e
      cases e
      exact ⟨rfl, rfl, rfl⟩
    · rw [List.getElem?_set_ne hi] at e
      exact absurd e (noo i io d)
  refine ⟨⟨le, by rw [List.length_set, List.length_set]; exact k0.len, fun i d e => ?_, fun i io d e => ?_, fun i j io jo d e a b x ei ej _ _ _ _ => ?_⟩, .refl⟩
  · by_cases hi : kk = i
    · subst hi
      rw [List.getElem?_set_self (by rw [hlen]; exact hk2)] at e
      cases e
    · rw [List.getElem?_set_ne hi] at e ⊢
      exact k0.val i d e
  · obtain ⟨rfl, rfl, rfl⟩ := own e
    refine ⟨P, ?_, fP, oP, .inl rfl, fun _ => ?_, fun x hx => by cases hx⟩
    · rw [List.getElem?_set_self]
      have := k0.len
      rw [hlen] at this
      rw [this]; exact hk2
    · unfold piT; rw [if_pos rfl]; rfl
  · rw [(own ei).1, (own ej).1]
theorem tab_end {T : Tx} {F H F' H' : Hp} {kk : Nat} {q : Str} {P : Addr} {σ : L2.St} {ρ : En} (k : StOk T (piT kk P) (fun a => a = P) F H F' H' σ ρ) (e : ρ[kk]? = some (some (.own true (.tbl q)))) : Fr (pinA (some (P, []))) F H F' H' ∧ IoOk T F' H' (some (P, [])) (.tbl q) := by
  obtain ⟨a, s1, f1, o1, _, hpi, _⟩ := k.ok.own kk true _ e
  have ea : a = P := by
    have := hpi rfl
    unfold piT at this
    rw [if_pos rfl] at this
    exact (Prod.mk.inj (Option.some.inj this)).1.symm
  subst ea
  refine ⟨k.fr.weak fun a z => ⟨_, rfl, .inl z⟩, fun q hq => ?_⟩
  cases hq
  exact ⟨f1, o1, rfl, fun x hx => by cases hx⟩
theorem fun_okU {P : Program} {w : World} {K : PySem.W.Frag} {mg : Str → Option Value} {base : Heap} {x qual : Str} {st : Stmt} {f Pt : Addr} {fd : FuncData} {N ps : List Str} {k kk n : Nat} {q_ y : Str} {cl : Nat → Option (Addr × List Str)} {body : En → So} {fm : List Dt → Fo} (F : Fun K x qual st f fd) (S : FnScope N ps (defScope st)) (hN : ps.length ≤ N.length) (hn : n = ps.length) (hk : n ≤ kk) (hy : N[kk]? = some y) (hv : ¬ Vis (defScope st) y) (hm : fm = runFU N.length kk q_ body)
    (hb : ∀ (A : Around) (outer : List Env) (s : Shared) (H : Hp) (E : XK), Room k (A.deeper (envOfC qual (defScope st) s.heap.objs.size f fd.code)) →
      PSs (cxOf (L2.CX P w) P w K mg base N qual (defScope st) f fd.code A outer s H E) (defBody st) (TMs ⟨K, cl⟩ (piT kk Pt) (fun cls d _ H => E cls d H) body)) :
    FnOk P w K mg base (L2.CX P w) (k + 1) f fd ps (spMT ⟨K, cl⟩ Pt q_ n fm) := by
  subst hm
  obtain ⟨oc, od, kV, doc, pm, an, cdv, ct, osl, rfl, lk, hcd⟩ := F.ex
  refine ⟨fun vs H Q E h => by obtain ⟨_, _, hl, _⟩ := h; rw [hl]; exact hn, fun A out s H ar us vs Q E hr e0 hbd r h => ?_⟩
  obtain ⟨F0, ds, hl, le, fP, oP, rs, q⟩ := h
  refine LamX.run_ofS (N := N) lk hcd S hr e0 hbd r (by rw [hl]; exact hn) fun hr' => ?_
  refine ⟨_, pss_ghost (hb A out s H E hr') hy hv (some (.ref Pt)), _, F0, H, F0, _, tab_startU (q := q_) (by rw [hl, hn]; exact hN) le rs (by rw [hl]; exact hk) (List.getElem?_eq_some_iff.mp hy).1 oP fP, ?_⟩
  unfold runFU at q
  have out : ∀ {ρ : En} {g : Dt → Fo} {Q : VK} {E : XK}, FoOk ⟨K, cl⟩ false (some (Pt, [])) F0 H Q E (tabOut kk ρ g) → ∃ q', ρ[kk]? = some (some (.own true (.tbl q'))) ∧ FoOk ⟨K, cl⟩ false (some (Pt, [])) F0 H Q E (g (.tbl q')) := fun {ρ g Q E} z => by
    unfold tabOut at z
    split at z
    · rename_i q' e
      exact ⟨q', e, z⟩
    · exact z.elim
  cases eb : body ((argE false ds ++ List.replicate (N.length - ds.length) none).set kk (some (.own true (.tbl q_)))) with
  | nx ρ =>
    rw [eb] at q
    obtain ⟨q', e, z⟩ := out q
    exact fun σ' F' H' k' => z F' H' .non k'.ok.le (tab_end k' e).1 (tab_end k' e).2 .non
  | rt d ρ =>
    rw [eb] at q
    obtain ⟨q', e, z⟩ := out q
    exact fun σ' F' H' v k' rv => z F' H' v k'.ok.le (tab_end k' e).1 (tab_end k' e).2 rv
  | exc y ρ =>
    rw [eb] at q
    obtain ⟨q', e, z⟩ := out q
    exact fun σ' F' H' cls d k' rx => z F' H' cls d k'.ok.le (tab_end k' e).1 (tab_end k' e).2 rx
  | _ => rw [eb] at q; cases q
end Dl
namespace Dl
open PySem PySem.Spec PyProof.Rows L2
/-! ### a law with two tables: its own and that of a def that it calls -/
theorem Ok.addTab {T : Tx} {π : Nat → Option Pin} {A : Addr → Prop} {F H : Hp} {σ : L2.St} {ρ : En} {kk : Nat} {P : Addr} {q : Str} (k : Ok T π A F H σ ρ) (hk : kk < ρ.length) (fP : F P = none) (oP : OwnAt T F H P (.tbl q)) (hA : A P)
    (hd : ∀ (i : Nat) io d a, i ≠ kk → ρ[i]? = some (some (.own io d)) → σ[i]? = some (some (.ref a)) → P ≠ a ∧ P ∉ inH H a d) (hπ : π kk = some (P, [])) :
    Ok T π A F H (σ.set kk (some (.ref P))) (ρ.set kk (some (.own true (.tbl q)))) := by
  have hs : kk < σ.length := by rw [k.len]; exact hk
  have vn : ∀ {j : Nat} {x : Option Sl}, j ≠ kk → (ρ.set kk (some (.own true (.tbl q))))[j]? = some x → ρ[j]? = some x := fun {j x} hj e => by
    rw [List.getElem?_set_ne (Ne.symm hj)] at e; exact e
  have sn : ∀ {j : Nat} {x : Option V}, j ≠ kk → (σ.set kk (some (.ref P)))[j]? = some x → σ[j]? = some x := fun {j x} hj e => by
    rw [List.getElem?_set_ne (Ne.symm hj)] at e; exact e
  refine ⟨k.le, by rw [List.length_set, List.length_set]; exact k.len, fun i d e => ?_, fun i io d e => ?_, fun i j io jo d e a b x ei ej si sj xi xj => ?_⟩
  · by_cases hi : i = kk
    · subst hi
      rw [List.getElem?_set_self hk] at e
      cases e
    · rw [List.getElem?_set_ne (Ne.symm hi)]
      exact k.val i d (vn hi e)
  · by_cases hi : i = kk
    · subst hi
      rw [List.getElem?_set_self hk] at e
      cases e
      exact ⟨P, by rw [List.getElem?_set_self hs], fP, oP, hA, fun _ => hπ, fun x hx => by cases hx⟩
    · rw [List.getElem?_set_ne (Ne.symm hi)]
      exact k.own i io d (vn hi e)
  · by_cases hi : i = kk
    · subst hi
      by_cases hj : j = i
      · exact hj.symm
      · rw [List.getElem?_set_self hk] at ei
        cases ei
        rw [List.getElem?_set_self hs] at si
        cases si
        have xe : x = P := xi.elim id fun z => by cases z
        subst xe
        obtain ⟨n1, n2⟩ := hd j jo e b hj (vn hj ej) (sn hj sj)
        exact absurd xj fun z => z.elim n1 n2
    · by_cases hj : j = kk
      · subst hj
        rw [List.getElem?_set_self hk] at ej
        cases ej
        rw [List.getElem?_set_self hs] at sj
        cases sj
        have xe : x = P := xj.elim id fun z => by cases z
        subst xe
        obtain ⟨n1, n2⟩ := hd i io d a hi (vn hi ei) (sn hi si)
        exact absurd xi fun z => z.elim n1 n2
      · exact k.dis i j io jo d e a b x (vn hi ei) (vn hj ej) (sn hi si) (sn hj sj) xi xj
def piT2 (k1 k2 : Nat) (P1 P2 : Addr) : Nat → Option Pin := fun i => if i = k1 then some (P1, []) else if i = k2 then some (P2, []) else none
/-- slots k1, k2: the tables -/
def runFT2 (k k1 k2 : Nat) (q1 q2 : Str) (body : En → So) (ds : List Dt) : Fo := match body (((argE false ds ++ List.replicate (k - ds.length) none).set k1 (some (.own true (.tbl q1)))).set k2 (some (.own true (.tbl q2)))) with
  | .nx _ => .ret .non .non
  | .rt d _ => .ret d .non
  | _ => .bad
theorem tab_start2 {T : Tx} {N : List Str} {F H : Hp} {vs : List V} {ds : List Dt} {k1 k2 : Nat} {q1 q2 : Str} {P1 P2 : Addr} (hl : vs.length ≤ N.length) (le : Le F H) (r : Reps T F vs ds) (hk1 : k1 < N.length) (hk2 : k2 < N.length) (hne : k1 ≠ k2) (hPP : P1 ≠ P2) (hP1 : H P1 = some (.tbl #[])) (fP1 : F P1 = none) (hP2 : H P2 = some (.tbl #[])) (fP2 : F P2 = none) :
    StOk T (piT2 k1 k2 P1 P2) (fun a => a = P1 ∨ a = P2) F H F H (((L2.start N vs).set k1 (some (.ref P1))).set k2 (some (.ref P2))) (((argE false ds ++ List.replicate (N.length - ds.length) none).set k1 (some (.own true (.tbl q1)))).set k2 (some (.own true (.tbl q2)))) := by
  obtain ⟨k0, _⟩ := ok_start (T := T) (io := false) (π0 := none) hl le ⟨r, rfl⟩
  have hlen : (argE false ds ++ List.replicate (N.length - ds.length) none).length = N.length := by
    have := k0.len
    rw [← this]
    unfold L2.start
    simp
    omega
  have noo : ∀ (i : Nat) io d, (argE false ds ++ List.replicate (N.length - ds.length) none)[i]? ≠ some (some (.own io d)) := fun i io d e => by
    obtain ⟨e, _⟩ := app_some e
    exact noown ds i io d e
  have b0 : Ok T (piT2 k1 k2 P1 P2) (fun a => (a = P1 ∨ a = P2) ∨ H a = none) F H (L2.start N vs) (argE false ds ++ List.replicate (N.length - ds.length) none) :=
    ⟨k0.le, k0.len, k0.val, fun i io d e => absurd e (noo i io d), fun i j io jo d e a b x ei => absurd ei (noo i io d)⟩
  have em : ∀ (P : Addr) (q : Str), H P = some (.tbl #[]) → OwnAt T F H P (.tbl q) := fun P q h => ⟨#[], h, True.intro, fun pos cv h => absurd h (by simp [codeAmong])⟩
  have b1 := b0.addTab (kk := k1) (P := P1) (q := q1) (by rw [hlen]; exact hk1) fP1 (em P1 q1 hP1) (.inl (.inl rfl)) (fun i io d a _ e => absurd e (noo i io d)) (by unfold piT2; rw [if_pos rfl])
  have s1 : k1 < (argE false ds ++ List.replicate (N.length - ds.length) none).length := by rw [hlen]; exact hk1
  refine ⟨b1.addTab (kk := k2) (P := P2) (q := q2) (by rw [List.length_set, hlen]; exact hk2) fP2 (em P2 q2 hP2) (.inl (.inr rfl)) (fun i io d a hi e s => ?_) (by unfold piT2; rw [if_neg (Ne.symm hne), if_pos rfl]), .refl⟩
  by_cases h1 : i = k1
  · subst h1
    rw [List.getElem?_set_self s1] at e
    cases e
    rw [List.getElem?_set_self (by rw [k0.len]; exact s1)] at s
    cases s
    exact ⟨Ne.symm hPP, fun z => by cases z⟩
  · rw [List.getElem?_set_ne (Ne.symm h1)] at e
    exact absurd e (noo i io d)
def spT2 (T : Tx) (P1 P2 : Addr) (fm : List Dt → Fo) : Sp := fun vs H Q E => ∃ F ds d, vs.length = 1 ∧ Le F H ∧ H P1 = some (.tbl #[]) ∧ F P1 = none ∧ H P2 = some (.tbl #[]) ∧ F P2 = none ∧ Reps T F vs ds ∧ fm ds = .ret d .non ∧ ∀ F' H' v, Rep T F' v d → Q v H'
theorem fun_okT2 {P : Program} {w : World} {K : PySem.W.Frag} {mg : Str → Option Value} {base : Heap} {x qual : Str} {st : Stmt} {f P1 P2 : Addr} {fd : FuncData} {N ps : List Str} {k k1 k2 : Nat} {q1 q2 y1 y2 : Str} {cl : Nat → Option (Addr × List Str)} {body : En → So} {fm : List Dt → Fo} (F : Fun K x qual st f fd) (S : FnScope N ps (defScope st)) (hN : ps.length ≤ N.length) (hn : 1 = ps.length) (hne : k1 ≠ k2) (hPP : P1 ≠ P2) (hy1 : N[k1]? = some y1) (hv1 : ¬ Vis (defScope st) y1) (hy2 : N[k2]? = some y2) (hv2 : ¬ Vis (defScope st) y2) (hm : fm = runFT2 N.length k1 k2 q1 q2 body)
    (hb : ∀ (A : Around) (outer : List Env) (s : Shared) (H : Hp) (E : XK), Room k (A.deeper (envOfC qual (defScope st) s.heap.objs.size f fd.code)) →
      PSs (cxOf (L2.CX P w) P w K mg base N qual (defScope st) f fd.code A outer s H E) (defBody st) (TMs ⟨K, cl⟩ (piT2 k1 k2 P1 P2) (fun cls d _ H => E cls d H) body)) :
    FnOk P w K mg base (L2.CX P w) (k + 1) f fd ps (spT2 ⟨K, cl⟩ P1 P2 fm) := by
  subst hm
  obtain ⟨oc, od, kV, doc, pm, an, cdv, ct, osl, rfl, lk, hcd⟩ := F.ex
  refine ⟨fun vs H Q E h => by obtain ⟨_, _, _, hl, _⟩ := h; rw [hl]; exact hn, fun A out s H ar us vs Q E hr e0 hbd r h => ?_⟩
  obtain ⟨F0, ds, d, hl, le, hP1, fP1, hP2, fP2, rs, q, hQ⟩ := h
  refine LamX.run_ofS (N := N) lk hcd S hr e0 hbd r (by rw [hl]; exact hn) fun hr' => ?_
  refine ⟨_, pss_ghost (pss_ghost (hb A out s H E hr') hy2 hv2 (some (.ref P2))) hy1 hv1 (some (.ref P1)), _, F0, H, F0, _, tab_start2 (q1 := q1) (q2 := q2) (by rw [hl, hn]; exact hN) le rs (List.getElem?_eq_some_iff.mp hy1).1 (List.getElem?_eq_some_iff.mp hy2).1 hne hPP hP1 fP1 hP2 fP2, ?_⟩
  unfold runFT2 at q
  cases eb : body (((argE false ds ++ List.replicate (N.length - ds.length) none).set k1 (some (.own true (.tbl q1)))).set k2 (some (.own true (.tbl q2)))) with
  | nx ρ => rw [eb] at q; cases q; exact fun σ' F' H' k' => hQ F' H' .non .non
  | rt d' ρ => rw [eb] at q; cases q; exact fun σ' F' H' v k' rv => hQ F' H' v rv
  | _ => rw [eb] at q; cases q
theorem spT2_start {T : Tx} {P1 P2 : Addr} {fm : List Dt → Fo} {H : Hp} {a : Addr} {ns : List Int} (hP1 : H P1 = some (.tbl #[])) (hP2 : H P2 = some (.tbl #[])) (hS : SqL T.K H a (ns.map V.int)) (hm : fm [.scr ns] = .ret (.bl true) .non) : spT2 T P1 P2 fm [.ref a] H (fun v _ => v = .bl true) fun _ _ _ => False := by
  let F : Hp := fun x => if x = P1 ∨ x = P2 then none else H x
  have le : Le F H := fun x o h => by
    by_cases hx : x = P1 ∨ x = P2
    · have h' : F x = none := if_pos hx
      rw [h'] at h; cases h
    · have h' : F x = H x := if_neg hx
      rw [h'] at h; exact h
  have hF : SqL T.K F a (ns.map V.int) := by
    have ne : ∀ o, H a = some o → (∀ ps, o ≠ .tbl ps) → F a = some o := fun o h n => by
      have : ¬ (a = P1 ∨ a = P2) := fun z => z.elim (fun z => by rw [z, hP1] at h; cases h; exact n _ rfl) fun z => by rw [z, hP2] at h; cases h; exact n _ rfl
      exact (if_neg this).trans h
    rcases hS with (h | ⟨o, h⟩) | h
    · exact .inl (.inl (ne _ h fun _ z => nomatch z))
    · exact .inl (.inr ⟨o, ne _ h fun _ z => nomatch z⟩)
    · exact .inr h
  exact ⟨F, [.scr ns], .bl true, rfl, le, hP1, if_pos (.inl rfl), hP2, if_pos (.inr rfl), .cons (.scr hF) .nil, hm, fun F' H' v r => Rep.bl_inv r⟩
theorem lawAt_of2 {l : PySem.W.OpenLaw} {w : World} {K : PySem.W.Frag} {k : Nat} {x : Str} {mg : Str → Option Value} {fa c1 P1 c2 P2 : Addr} {h : Heap} {fd : FuncData} {fm : List Dt → Fo} (hT1 : h.get? P1 = some (PySem.W.tabObj #[])) (nT1 : K.lookup P1 = none) (C1 : PySem.W.CodeHd h c1 P1) (hT2 : h.get? P2 = some (PySem.W.tabObj #[])) (nT2 : K.lookup P2 = none) (C2 : PySem.W.CodeHd h c2 P2)
    (hb : ∀ (s : Shared) (v : Value), BindsTo s fd ⟨[v], []⟩ [(x, v)]) {cl : Nat → Option (Addr × List Str)} (hF : ∀ base : Heap, K.In base → base.Ns mainGlobals mg → LamX.TabB base mg c1 P1 → LamX.TabB base mg c2 P2 → FnOk l.prog w K mg base (L2.CX l.prog w) k fa fd [x] (spT2 ⟨K, cl⟩ P1 P2 fm))
    (hm : ∀ ns : List Int, ns.length ≤ 63 → fm [.scr ns] = .ret (.bl true) .non) : LamX.LawAtS l w K (L2.CX l.prog w) k 63 x mg fa h :=
  ⟨fd, [(c1, P1), (c2, P2)], spT2 ⟨K, cl⟩ P1 P2 fm, List.forall_mem_cons.mpr ⟨hT1, List.forall_mem_cons.mpr ⟨hT2, fun _ z => nomatch z⟩⟩, List.forall_mem_cons.mpr ⟨nT1, List.forall_mem_cons.mpr ⟨nT2, fun _ z => nomatch z⟩⟩, List.forall_mem_cons.mpr ⟨C1, List.forall_mem_cons.mpr ⟨C2, fun _ z => nomatch z⟩⟩, hb,
    fun H a ns hl _ hH hS => spT2_start (hH _ (List.mem_cons_self)) (hH _ (List.mem_cons_of_mem _ (List.mem_cons_self))) hS (hm ns hl), fun base hk hns htb => hF base hk hns (htb _ (List.mem_cons_self)) (htb _ (List.mem_cons_of_mem _ (List.mem_cons_self)))⟩
end Dl
namespace Dl
open PySem PySem.Spec PyProof.Rows L2
/-! ### the mirrors -/
noncomputable def b_law_heard (L0 : Dt) (o : Fo) : En → So :=
  (sSeq (sSet 1 (mPure (.str "let")))
  (sSeq (sTry (qTab [(24, true)]) 2 (sDrop (mAct 0 L0 o)) (fun x => (sSet 1 (mIfE (mAnd (mB (mXis 24 true x)) (mNot (mB (mXis 24 false x)))) (mXf 24 x) (mPure (.str "odd"))))))
  (sRet (mVar 1))))
noncomputable def m_law_heard (o : Fo) : Fo := runF 3 false false (b_law_heard .non o) [.non]
def b_need_days_k52 : En → So :=
  (sSeq (sIf (mOr (mNot (mB (mCall 1 m_is_sequence (mCons (mVar 0) (mPure []))))) (mB (m2 fEq (m1 fLen (mPeek 0)) (mPure (.int 0))))) (sRaise 24 (mPure (.int 0))) (fun ρ => .nx ρ))
  (sSeq (sSetN 2 (mPure (.dic false [] [])))
  (sSeq (sFor (mEnumI (mVar 0)) (gT (gsC (gV 3) (gsC (gV 4) gsN)) 2) (sSeq (sIf (mOr (mNot (mB (mCall 1 m_is_integer (mCons (mVar 4) (mPure []))))) (mOr (mNot (mB (mChain fLe fLt (mPure (.int 0)) (mVar 4) (mPeek 1)))) (mB (m2 fDin (mVar 4) (mPeek 2))))) (sRaise 24 (mVar 3)) (fun ρ => .nx ρ))
  (sDput 2 (mVar 4) (mPure (.bl true)))))
  (sRet (m1 fTuple (m1N fSorted (mLc (mSeqI (mVar 0)) (gV 4) (mPure true) (m1 fInt (mPeek 4)) [4])))))))
def m_need_days_k52 : List Dt → Fo := runF 5 false false b_need_days_k52
def b_ring_gap_k52 : En → So :=
  (sSeq (sSet 3 (mCall 2 m_need_days_k52 (mCons (mVar 0) (mCons (mVar 1) (mPure [])))))
  (sRet (mCall 3 m_stair (mCons (mCall 2 m_longest_steps (mCons (mVar 3) (mCons (mVar 1) (mPure [])))) (mCons (mVar 1) (mCons (mVar 2) (mPure [])))))))
def m_ring_gap_k52 : List Dt → Fo := runF 4 false false b_ring_gap_k52
def b_is_best_k52 : En → So :=
  (sSeq (sSet 2 (mCall 2 m_longest_steps (mCons (mCall 2 m_need_days_k52 (mCons (mVar 0) (mCons (mVar 1) (mPure [])))) (mCons (mVar 1) (mPure [])))))
  (sRet (m1 fAll (mLc (mEnumI (mVar 2)) (gT (gsC (gV 3) (gsC (gV 4) gsN)) 2) (mPure true) (m2 fEq (mVar 4) (mCall 3 m_least_gap (mCons (mVar 1) (mCons (m1 fLen (mPeek 2)) (mCons (mVar 3) (mPure [])))))) [3, 4]))))
def m_is_best_k52 : List Dt → Fo := runF 5 false false b_is_best_k52
def b_no_longer_k52 : En → So :=
  (sSeq (sSet 3 (mCall 2 m_longest_steps (mCons (mCall 2 m_need_days_k52 (mCons (mVar 0) (mCons (mVar 2) (mPure [])))) (mCons (mVar 2) (mPure [])))))
  (sRet (mCall 4 m_is_never_longer (mCons (mVar 3) (mCons (mVar 2) (mCons (mCall 2 m_longest_steps (mCons (mCall 2 m_need_days_k52 (mCons (mVar 1) (mCons (mVar 2) (mPure [])))) (mCons (mVar 2) (mPure [])))) (mCons (mVar 2) (mPure []))))))))
def m_no_longer_k52 : List Dt → Fo := runF 4 false false b_no_longer_k52
def q_law_all_heard : Str := (("_law_all_heard" : Str) ++ ".<locals>.") ++ "<lambda>"
noncomputable def b_law_all_heard : En → So :=
  (sSeq (sSetN 3 (mLst (mCons (mLam 4 q_law_all_heard [0, 1] (mCall 3 m_ring_gap_k52 (mCons (mVar 0) (mCons (mVar 1) (mCons (mPure (.int 1)) (mPure []))))) m_law_heard) (mPure []))))
  (sSeq (sDrop (ownLst 3 (mAppend 3 (mLam 4 q_law_all_heard [0, 1] (mCall 2 m_is_best_k52 (mCons (mVar 0) (mCons (mVar 1) (mPure [])))) m_law_heard))))
  (sSeq (sDrop (ownLst 3 (mAppend 3 (mLam 4 q_law_all_heard [0, 1, 2] (mCall 3 m_no_longer_k52 (mCons (mVar 0) (mCons (mVar 2) (mCons (mVar 1) (mPure []))))) m_law_heard))))
  (sSeq (sDrop (ownLst 3 (mAppend 3 (mLam 4 q_law_all_heard [0, 1, 2] (mCall 3 m_no_longer_k52 (mCons (mVar 2) (mCons (mVar 0) (mCons (mVar 1) (mPure []))))) m_law_heard))))
  (sRet (mVar 3))))))
noncomputable def m_law_all_heard : List Dt → Fo := runFU 5 4 q_law_all_heard b_law_all_heard
def q_law : Str := (("law" : Str) ++ ".<locals>.") ++ "<lambda>"
noncomputable def lp_law_0 : En → So :=
  (sIf (mB (m2 fNe (mCallT 3 m_law_all_heard 12 q_law_all_heard (mCons (mVar 6) (mCons (mVar 4) (mCons (mVar 5) (mPure []))))) (mRep (mLst (mCons (mPure (.int 0)) (mPure []))) (mPure (.int 4))))) (sRet (mPure (.bl false))) (fun ρ => .nx ρ))
noncomputable def lp_law_1 : En → So :=
  (sSeq (sSet 8 (mCallIo 2 m_law_take_v2 3 (mCons (m2 fAdd (m1 fLen (mPeek 5)) (mPure (.int 1))) (mPure []))))
  (sSeq (sSet 9 (mCallIo 2 m_law_pick_v2 3 (mCons (m2 fAdd (m2 fAdd (mVar 1) (mLst (mCons (mVar 4) (mCons (m2 fAdd (mVar 4) (mPure (.int 5))) (mPure []))))) (hasSl 5 (mSlV 5 (mPure none) (mPart (mVar 8))))) (mPure []))))
  (sSeq (sSet 10 (m2 fAdd (m2 fAdd (m2 fAdd (hasSl 5 (mSlV 5 (mPure none) (mPart (mVar 8)))) (mLst (mCons (mVar 9) (mPure [])))) (hasSl 5 (mSlV 5 (mPart (mVar 8)) (mPure none)))) (mLst (mCons (mPure (.str "late")) (mPure [])))))
  (sSeq (sIf (mOr (mB (m2 fNe (mCallT 3 m_law_all_heard 12 q_law_all_heard (mCons (mVar 10) (mCons (mVar 4) (mCons (mVar 5) (mPure []))))) (mRep (mLst (mCons (mVar 8) (mPure []))) (mPure (.int 4))))) (mB (m2 fNe (mCallT 3 m_law_all_heard 12 q_law_all_heard (mCons (m1 fTuple (mPeek 10)) (mCons (mVar 4) (mCons (mVar 5) (mPure []))))) (mRep (mLst (mCons (mVar 8) (mPure []))) (mPure (.int 4)))))) (sRet (mPure (.bl false))) (fun ρ => .nx ρ))
  (sSeq (sIf (mB (m2 fNe (mLam 11 q_law [4, 10] (mCall 3 m_no_longer_k52 (mCons (mVar 10) (mCons (mLst (mPure [])) (mCons (mVar 4) (mPure []))))) m_law_heard) (mPeek 8))) (sRet (mPure (.bl false))) (fun ρ => .nx ρ))
  (sIf (mB (m2 fNe (mCallT 3 m_law_all_heard 12 q_law_all_heard (mCons (mVar 5) (mCons (mVar 4) (mCons (mVar 5) (mPure []))))) (mRep (mLst (mCons (mPure (.str "let")) (mPure []))) (mPure (.int 4))))) (sRet (mPure (.bl false))) (fun ρ => .nx ρ)))))))
noncomputable def lp_law_2 : En → So :=
  (sSeq (sSetN 3 (mCall 3 m_law_box_v3 (mCons (mVar 0) (mCons (mVar 2) (mCons (mPure (.int 52)) (mPure []))))))
  (sSeq (sSet 4 (m2 fAdd (mPure (.int 1)) (mCallIo 2 m_law_take_v2 3 (mCons (mPure (.int 30)) (mPure [])))))
  (sSeq (sSet 5 (mCallIo 3 m_law_days_v2 3 (mCons (mVar 4) (mCons (mPure (.int 8)) (mPure [])))))
  (sSeq (sFor (mSeqI (mTup (mCons (mPure .non) (mCons (mPure (.int 0)) (mCons (mPure (.bl true)) (mCons (mPure (.str "")) (mCons (mPure (.str "012")) (mCons (mLst (mPure [])) (mCons (mTup (mPure [])) (mCons (m2 fPow (mPure (.int 10)) (mPure (.int 20))) (mCons (mLst (mCons (mLst (mCons (mLst (mCons (mLst (mCons (mLst (mCons (mLst (mCons (mLst (mCons (mLst (mCons (mPure (.int 0)) (mPure []))) (mPure []))) (mPure []))) (mPure []))) (mPure []))) (mPure []))) (mPure []))) (mPure []))) (mPure [])))))))))))) (gV 6) lp_law_0)
  (sFor (mRng1 (mCons (mPure (.int 8)) (mPure []))) (gV 7) lp_law_1)))))
noncomputable def st_law_0 : En → So :=
  (sSet 1 (mLst (mCons (mPure .non) (mCons (mPure (.bl true)) (mCons (mPure (.bl false)) (mCons (mPure (.str "0")) (mCons (mPure (.str "")) (mCons (mTup (mCons (mPure (.int 0)) (mPure []))) (mCons (mLst (mCons (mPure (.int 0)) (mPure []))) (mCons (m2 fSub (mPure (.int 0)) (mPure (.int 1))) (mCons (m2 fSub (mPure (.int 0)) (mPure (.int 3))) (mCons (m2 fPow (mPure (.int 10)) (mPure (.int 20))) (mCons (mLst (mPure [])) (mCons (mLst (mCons (mLst (mCons (mLst (mCons (mLst (mCons (mLst (mCons (mLst (mCons (mLst (mCons (mPure (.int 0)) (mPure []))) (mPure []))) (mPure []))) (mPure []))) (mPure []))) (mPure []))) (mPure []))) (mPure [])))))))))))))))
noncomputable def st_law_1 : En → So :=
  (sFor (mRng1 (mCons (m2 fMax2 (mPure (.int 1)) (m2 fMin2 (mPure (.int 3)) (m1 fLen (mPeek 0)))) (mPure []))) (gV 2) lp_law_2)
noncomputable def st_law_2 : En → So :=
  (sRet (mPure (.bl true)))
noncomputable def b_law : En → So :=
  (sSeq st_law_0 (sSeq st_law_1 st_law_2))
noncomputable def m_law : List Dt → Fo := runFT2 13 11 12 q_law q_law_all_heard b_law
end Dl
namespace Dl
open PySem PySem.Spec PyProof.Rows L2
/-! ### the text -/
def topS (i : Nat) : Stmt := PySem.Challenge.pw_turnrota_k52_days_refused.main.body.getD i (.Pass ⟨0, 0, 0, 0⟩)
abbrev s_is_integer : Stmt := topS 5
theorem sc_is_integer : FnScope ["value"] ["value"] (defScope s_is_integer) := ⟨rfl, rfl, rfl, by decide +kernel, rfl, by decide +kernel, by decide +kernel⟩
abbrev s_is_sequence : Stmt := topS 6
theorem sc_is_sequence : FnScope ["value"] ["value"] (defScope s_is_sequence) := ⟨rfl, rfl, rfl, by decide +kernel, rfl, by decide +kernel, by decide +kernel⟩
abbrev s_longest_steps : Stmt := topS 9
theorem sc_longest_steps : FnScope ["order", "period", "size", "found", "twice", "step", "one", "at"] ["order", "period"] (defScope s_longest_steps) := ⟨rfl, rfl, rfl, by decide +kernel, rfl, by decide +kernel, by decide +kernel⟩
abbrev s_stair : Stmt := topS 10
theorem sc_stair : FnScope ["steps", "period", "misses", "rounds", "rest"] ["steps", "period", "misses"] (defScope s_stair) := ⟨rfl, rfl, rfl, by decide +kernel, rfl, by decide +kernel, by decide +kernel⟩
abbrev s_least_gap : Stmt := topS 12
theorem sc_least_gap : FnScope ["period", "turnings", "misses"] ["period", "turnings", "misses"] (defScope s_least_gap) := ⟨rfl, rfl, rfl, by decide +kernel, rfl, by decide +kernel, by decide +kernel⟩
abbrev s_shared_length : Stmt := topS 14
theorem sc_shared_length : FnScope ["one", "other", "left", "right"] ["one", "other"] (defScope s_shared_length) := ⟨rfl, rfl, rfl, by decide +kernel, rfl, by decide +kernel, by decide +kernel⟩
abbrev s_law_box : Stmt := topS 18
theorem sc_law_box : FnScope ["_law_script", "_law_k", "_law_own", "_law_cell", "_law_seed", "_law_one"] ["_law_script", "_law_k", "_law_own"] (defScope s_law_box) := ⟨rfl, rfl, rfl, by decide +kernel, rfl, by decide +kernel, by decide +kernel⟩
abbrev s_law_take : Stmt := topS 19
theorem sc_law_take : FnScope ["_law_box_here", "_law_limit", "_law_digit"] ["_law_box_here", "_law_limit"] (defScope s_law_take) := ⟨rfl, rfl, rfl, by decide +kernel, rfl, by decide +kernel, by decide +kernel⟩
abbrev s_law_heard : Stmt := topS 22
theorem sc_law_heard : FnScope ["_law_work", "_law_found", "e"] ["_law_work"] (defScope s_law_heard) := ⟨rfl, rfl, rfl, by decide +kernel, rfl, by decide +kernel, by decide +kernel⟩
abbrev s_is_never_longer : Stmt := topS 15
theorem sc_is_never_longer : FnScope ["steps", "period", "others", "round_length", "misses"] ["steps", "period", "others", "round_length"] (defScope s_is_never_longer) := ⟨rfl, rfl, rfl, by decide +kernel, rfl, by decide +kernel, by decide +kernel⟩
abbrev s_law_pick : Stmt := topS 20
theorem sc_law_pick : FnScope ["_law_box_here", "_law_some"] ["_law_box_here", "_law_some"] (defScope s_law_pick) := ⟨rfl, rfl, rfl, by decide +kernel, rfl, by decide +kernel, by decide +kernel⟩
abbrev s_law_days : Stmt := topS 21
theorem sc_law_days : FnScope ["_law_box_here", "_law_period", "_law_most", "_law_found", "_law_turn", "_law_day"] ["_law_box_here", "_law_period", "_law_most"] (defScope s_law_days) := ⟨rfl, rfl, rfl, by decide +kernel, rfl, by decide +kernel, by decide +kernel⟩
abbrev s_need_days : Stmt := topS 8
theorem sc_need_days : FnScope ["days", "period", "known", "at", "one"] ["days", "period"] (defScope s_need_days) := ⟨rfl, rfl, rfl, by decide +kernel, rfl, by decide +kernel, by decide +kernel⟩
abbrev s_ring_gap : Stmt := topS 11
theorem sc_ring_gap : FnScope ["days", "period", "misses", "order"] ["days", "period", "misses"] (defScope s_ring_gap) := ⟨rfl, rfl, rfl, by decide +kernel, rfl, by decide +kernel, by decide +kernel⟩
abbrev s_is_best : Stmt := topS 13
theorem sc_is_best : FnScope ["days", "period", "steps", "misses", "gap"] ["days", "period"] (defScope s_is_best) := ⟨rfl, rfl, rfl, by decide +kernel, rfl, by decide +kernel, by decide +kernel⟩
abbrev s_no_longer : Stmt := topS 16
theorem sc_no_longer : FnScope ["days", "others", "period", "steps"] ["days", "others", "period"] (defScope s_no_longer) := ⟨rfl, rfl, rfl, by decide +kernel, rfl, by decide +kernel, by decide +kernel⟩
abbrev s_law_all_heard : Stmt := topS 23
theorem sc_law_all_heard : FnScope ["_law_days_here", "_law_period", "_law_good", "_law_found", "0tab"] ["_law_days_here", "_law_period", "_law_good"] (defScope s_law_all_heard) := ⟨rfl, rfl, rfl, by decide +kernel, rfl, by decide +kernel, by decide +kernel⟩
abbrev s_law : Stmt := topS 24
theorem sc_law : FnScope ["_law_script", "_law_odd", "_law_k", "_law_box_here", "_law_period", "_law_good", "_law_value", "_law_turn", "_law_at", "_law_bad", "_law_bent", "0tab", "0tb2"] ["_law_script"] (defScope s_law) := ⟨rfl, rfl, rfl, by decide +kernel, rfl, by decide +kernel, by decide +kernel⟩
abbrev s_InvalidDays_init : Stmt := inClass (topS 3) 0
theorem sc_InvalidDays_init : FnScope ["self", "at"] ["self", "at"] (defScope s_InvalidDays_init) := ⟨rfl, rfl, rfl, by decide +kernel, rfl, by decide +kernel, by decide +kernel⟩
/-! ### where they stand -/
set_option genInjectivity false in
set_option genSizeOfSpec false in
set_option genSizeOf false in
structure Dfs (K : PySem.W.Frag) (mg : Str → Option Value) where
  f_is_integer : Addr
  fd_is_integer : FuncData
  F_is_integer : Fun K "is_integer" "is_integer" s_is_integer f_is_integer fd_is_integer
  g_is_integer : mg "is_integer" = some (.ref f_is_integer)
  b_is_integer : Binds K fd_is_integer ["value"] []
  f_is_sequence : Addr
  fd_is_sequence : FuncData
  F_is_sequence : Fun K "is_sequence" "is_sequence" s_is_sequence f_is_sequence fd_is_sequence
  g_is_sequence : mg "is_sequence" = some (.ref f_is_sequence)
  b_is_sequence : Binds K fd_is_sequence ["value"] []
  f_longest_steps : Addr
  fd_longest_steps : FuncData
  F_longest_steps : Fun K "longest_steps" "longest_steps" s_longest_steps f_longest_steps fd_longest_steps
  g_longest_steps : mg "longest_steps" = some (.ref f_longest_steps)
  b_longest_steps : Binds K fd_longest_steps ["order", "period"] []
  f_stair : Addr
  fd_stair : FuncData
  F_stair : Fun K "stair" "stair" s_stair f_stair fd_stair
  g_stair : mg "stair" = some (.ref f_stair)
  b_stair : Binds K fd_stair ["steps", "period", "misses"] []
  f_least_gap : Addr
  fd_least_gap : FuncData
  F_least_gap : Fun K "least_gap" "least_gap" s_least_gap f_least_gap fd_least_gap
  g_least_gap : mg "least_gap" = some (.ref f_least_gap)
  b_least_gap : Binds K fd_least_gap ["period", "turnings", "misses"] []
  f_shared_length : Addr
  fd_shared_length : FuncData
  F_shared_length : Fun K "shared_length" "shared_length" s_shared_length f_shared_length fd_shared_length
  g_shared_length : mg "shared_length" = some (.ref f_shared_length)
  b_shared_length : Binds K fd_shared_length ["one", "other"] []
  f_law_box : Addr
  fd_law_box : FuncData
  F_law_box : Fun K "_law_box" "_law_box" s_law_box f_law_box fd_law_box
  g_law_box : mg "_law_box" = some (.ref f_law_box)
  b_law_box : Binds K fd_law_box ["_law_script", "_law_k", "_law_own"] []
  f_law_take : Addr
  fd_law_take : FuncData
  F_law_take : Fun K "_law_take" "_law_take" s_law_take f_law_take fd_law_take
  g_law_take : mg "_law_take" = some (.ref f_law_take)
  b_law_take : Binds K fd_law_take ["_law_box_here", "_law_limit"] []
  f_law_heard : Addr
  fd_law_heard : FuncData
  F_law_heard : Fun K "_law_heard" "_law_heard" s_law_heard f_law_heard fd_law_heard
  g_law_heard : mg "_law_heard" = some (.ref f_law_heard)
  b_law_heard : Binds K fd_law_heard ["_law_work"] []
  f_is_never_longer : Addr
  fd_is_never_longer : FuncData
  F_is_never_longer : Fun K "is_never_longer" "is_never_longer" s_is_never_longer f_is_never_longer fd_is_never_longer
  g_is_never_longer : mg "is_never_longer" = some (.ref f_is_never_longer)
  b_is_never_longer : Binds K fd_is_never_longer ["steps", "period", "others", "round_length"] []
  f_law_pick : Addr
  fd_law_pick : FuncData
  F_law_pick : Fun K "_law_pick" "_law_pick" s_law_pick f_law_pick fd_law_pick
  g_law_pick : mg "_law_pick" = some (.ref f_law_pick)
  b_law_pick : Binds K fd_law_pick ["_law_box_here", "_law_some"] []
  f_law_days : Addr
  fd_law_days : FuncData
  F_law_days : Fun K "_law_days" "_law_days" s_law_days f_law_days fd_law_days
  g_law_days : mg "_law_days" = some (.ref f_law_days)
  b_law_days : Binds K fd_law_days ["_law_box_here", "_law_period", "_law_most"] []
  f_need_days : Addr
  fd_need_days : FuncData
  F_need_days : Fun K "need_days" "need_days" s_need_days f_need_days fd_need_days
  g_need_days : mg "need_days" = some (.ref f_need_days)
  b_need_days : Binds K fd_need_days ["days", "period"] []
  f_ring_gap : Addr
  fd_ring_gap : FuncData
  F_ring_gap : Fun K "ring_gap" "ring_gap" s_ring_gap f_ring_gap fd_ring_gap
  g_ring_gap : mg "ring_gap" = some (.ref f_ring_gap)
  b_ring_gap : Binds K fd_ring_gap ["days", "period", "misses"] []
  f_is_best : Addr
  fd_is_best : FuncData
  F_is_best : Fun K "is_best" "is_best" s_is_best f_is_best fd_is_best
  g_is_best : mg "is_best" = some (.ref f_is_best)
  b_is_best : Binds K fd_is_best ["days", "period"] []
  f_no_longer : Addr
  fd_no_longer : FuncData
  F_no_longer : Fun K "no_longer" "no_longer" s_no_longer f_no_longer fd_no_longer
  g_no_longer : mg "no_longer" = some (.ref f_no_longer)
  b_no_longer : Binds K fd_no_longer ["days", "others", "period"] []
  f_law_all_heard : Addr
  fd_law_all_heard : FuncData
  F_law_all_heard : Fun K "_law_all_heard" "_law_all_heard" s_law_all_heard f_law_all_heard fd_law_all_heard
  g_law_all_heard : mg "_law_all_heard" = some (.ref f_law_all_heard)
  b_law_all_heard : Binds K fd_law_all_heard ["_law_days_here", "_law_period", "_law_good"] []
  f_law : Addr
  fd_law : FuncData
  F_law : Fun K "law" "law" s_law f_law fd_law
  g_law : mg "law" = some (.ref f_law)
  b_law : Binds K fd_law ["_law_script"] []
  z_abs : mg "abs" = none
  z_all : mg "all" = none
  z_bool : mg "bool" = none
  z_enumerate : mg "enumerate" = none
  z_int : mg "int" = none
  z_isinstance : mg "isinstance" = none
  z_len : mg "len" = none
  z_list : mg "list" = none
  z_max : mg "max" = none
  z_min : mg "min" = none
  z_range : mg "range" = none
  z_sorted : mg "sorted" = none
  z_tuple : mg "tuple" = none
  E_TurnError : Addr
  E_InvalidMisses : Addr
  E_InvalidDays : Addr
  kl_TurnError : Kls K mg "TurnError" E_TurnError
  kl_InvalidMisses : Kls K mg "InvalidMisses" E_InvalidMisses
  kl_InvalidDays : Kls K mg "InvalidDays" E_InvalidDays
  su_InvalidDays_InvalidDays : PySem.W.subIn K (.ref E_InvalidDays) (.ref E_InvalidDays) = some true
  su_InvalidDays_InvalidMisses : PySem.W.subIn K (.ref E_InvalidDays) (.ref E_InvalidMisses) = some false
  su_InvalidDays_TurnError : PySem.W.subIn K (.ref E_InvalidDays) (.ref E_TurnError) = some true
  f_InvalidDays_init : Addr
  fd_InvalidDays_init : FuncData
  F_InvalidDays_init : Fun K "__init__" "InvalidDays.__init__" s_InvalidDays_init f_InvalidDays_init fd_InvalidDays_init
  b_InvalidDays_init : Binds K fd_InvalidDays_init ["self", "at"] []
  er_InvalidDays : Err K mg "InvalidDays" E_InvalidDays f_InvalidDays_init
  na_InvalidDays : PySem.W.findIn K (.ref E_InvalidDays) "at" = some none
  R_TurnError : Addr
  rg_TurnError : mg "TurnError" = some (.ref R_TurnError)
  rt_TurnError : Root K R_TurnError
def Dfs.cl {K : PySem.W.Frag} {mg : Str → Option Value} (D : Dfs K mg) : Nat → Option (Addr × List Str)
  | 24 => some (D.E_InvalidDays, ["at"])
  | _ => none
section
variable {P : Program} {w : World} {K : PySem.W.Frag} {mg : Str → Option Value} {base : Heap}
theorem ok_InvalidDays_init (D : Dfs K mg) : FnOk P w K mg base (L2.CX P w) 1 D.f_InvalidDays_init D.fd_InvalidDays_init ["self", "at"] (spI D.E_InvalidDays "at") := err_init "days that are none of a ring" D.F_InvalidDays_init sc_InvalidDays_init D.er_InvalidDays.oex D.na_InvalidDays fun cdv A outer s H E => pss_cons (ps_expr (pe_rootInit D.rt_TurnError (by rfl) D.rg_TurnError (pa_cons (pv 0) (pa_cons pe_str pa_nil)))) (pss_one (ps_ost (pv 0) (pv 1)))
theorem bd_is_integer (D : Dfs K mg) (cdv : Value) (A : Around) (outer : List Env) (s : Shared) (H : Hp) (E : XK) (π : Nat → Option Pin) (hr : Room 0 (A.deeper (envOfC "is_integer" (defScope s_is_integer) s.heap.objs.size D.f_is_integer cdv))) : PSs (cxOf (L2.CX P w) P w K mg base ["value"] "is_integer" (defScope s_is_integer) D.f_is_integer cdv A outer s H E) (defBody s_is_integer) (TMs ⟨K, D.cl⟩ π (fun cls d _ H => E cls d H) b_is_integer) := by
  have nd := sc_is_integer.nd
  have tk : Takes (cxOf (L2.CX P w) P w K mg base ["value"] "is_integer" (defScope s_is_integer) D.f_is_integer cdv A outer s H E) (fun cls d _ H => E cls d H) := takes_of rfl rfl rfl rfl
  have hp : PassesOwn (model P w) (cxOf (L2.CX P w) P w K mg base ["value"] "is_integer" (defScope s_is_integer) D.f_is_integer cdv A outer s H E).A (cxOf (L2.CX P w) P w K mg base ["value"] "is_integer" (defScope s_is_integer) D.f_is_integer cdv A outer s H E).env (cxOf (L2.CX P w) P w K mg base ["value"] "is_integer" (defScope s_is_integer) D.f_is_integer cdv A outer s H E).xe := passes_of rfl
  unfold b_is_integer
  exact (dss_one (ds_ret (de_and (de_isi rfl .int (pe_callB call_isi (by rfl) D.z_isinstance (by decide +kernel) (pa_cons (dp_var (pv 0)) (pa_cons (pe_bltn (v := .ty "int") (by rfl) D.z_int (by decide +kernel) rfl) pa_nil)))) (de_one (de_not (de_isi rfl .bool (pe_callB call_isi (by rfl) D.z_isinstance (by decide +kernel) (pa_cons (dp_var (pv 0)) (pa_cons (pe_bltn (v := .ty "bool") (by rfl) D.z_bool (by decide +kernel) rfl) pa_nil)))))))))
theorem ok_is_integer (D : Dfs K mg) : FnOk P w K mg base (L2.CX P w) 1 D.f_is_integer D.fd_is_integer ["value"] (spM ⟨K, D.cl⟩ 1 false false m_is_integer) :=
  fun_ok2 (cl := D.cl) (n := 1) (fm := m_is_integer) D.F_is_integer sc_is_integer (by decide) (by rfl) (by unfold m_is_integer; rfl) (bd_is_integer D)
theorem bd_is_sequence (D : Dfs K mg) (cdv : Value) (A : Around) (outer : List Env) (s : Shared) (H : Hp) (E : XK) (π : Nat → Option Pin) (hr : Room 0 (A.deeper (envOfC "is_sequence" (defScope s_is_sequence) s.heap.objs.size D.f_is_sequence cdv))) : PSs (cxOf (L2.CX P w) P w K mg base ["value"] "is_sequence" (defScope s_is_sequence) D.f_is_sequence cdv A outer s H E) (defBody s_is_sequence) (TMs ⟨K, D.cl⟩ π (fun cls d _ H => E cls d H) b_is_sequence) := by
  have nd := sc_is_sequence.nd
  have tk : Takes (cxOf (L2.CX P w) P w K mg base ["value"] "is_sequence" (defScope s_is_sequence) D.f_is_sequence cdv A outer s H E) (fun cls d _ H => E cls d H) := takes_of rfl rfl rfl rfl
  have hp : PassesOwn (model P w) (cxOf (L2.CX P w) P w K mg base ["value"] "is_sequence" (defScope s_is_sequence) D.f_is_sequence cdv A outer s H E).A (cxOf (L2.CX P w) P w K mg base ["value"] "is_sequence" (defScope s_is_sequence) D.f_is_sequence cdv A outer s H E).env (cxOf (L2.CX P w) P w K mg base ["value"] "is_sequence" (defScope s_is_sequence) D.f_is_sequence cdv A outer s H E).xe := passes_of rfl
  unfold b_is_sequence
  exact (dss_one (ds_ret (de_isi2 rfl .list .tuple (pe_callB call_isiT (by rfl) D.z_isinstance (by decide +kernel) (pa_cons (dp_var (pv 0)) (pa_cons (pe_tup (pa_cons (pe_bltn (v := .ty "list") (by rfl) D.z_list (by decide +kernel) rfl) (pa_cons (pe_bltn (v := .ty "tuple") (by rfl) D.z_tuple (by decide +kernel) rfl) pa_nil))) pa_nil))))))
theorem ok_is_sequence (D : Dfs K mg) : FnOk P w K mg base (L2.CX P w) 1 D.f_is_sequence D.fd_is_sequence ["value"] (spM ⟨K, D.cl⟩ 1 false false m_is_sequence) :=
  fun_ok2 (cl := D.cl) (n := 1) (fm := m_is_sequence) D.F_is_sequence sc_is_sequence (by decide) (by rfl) (by unfold m_is_sequence; rfl) (bd_is_sequence D)
theorem bd_longest_steps (D : Dfs K mg) (cdv : Value) (A : Around) (outer : List Env) (s : Shared) (H : Hp) (E : XK) (π : Nat → Option Pin) (hr : Room 0 (A.deeper (envOfC "longest_steps" (defScope s_longest_steps) s.heap.objs.size D.f_longest_steps cdv))) : PSs (cxOf (L2.CX P w) P w K mg base ["order", "period", "size", "found", "twice", "step", "one", "at"] "longest_steps" (defScope s_longest_steps) D.f_longest_steps cdv A outer s H E) (defBody s_longest_steps) (TMs ⟨K, D.cl⟩ π (fun cls d _ H => E cls d H) b_longest_steps) := by
  have nd := sc_longest_steps.nd
  have tk : Takes (cxOf (L2.CX P w) P w K mg base ["order", "period", "size", "found", "twice", "step", "one", "at"] "longest_steps" (defScope s_longest_steps) D.f_longest_steps cdv A outer s H E) (fun cls d _ H => E cls d H) := takes_of rfl rfl rfl rfl
  have hp : PassesOwn (model P w) (cxOf (L2.CX P w) P w K mg base ["order", "period", "size", "found", "twice", "step", "one", "at"] "longest_steps" (defScope s_longest_steps) D.f_longest_steps cdv A outer s H E).A (cxOf (L2.CX P w) P w K mg base ["order", "period", "size", "found", "twice", "step", "one", "at"] "longest_steps" (defScope s_longest_steps) D.f_longest_steps cdv A outer s H E).env (cxOf (L2.CX P w) P w K mg base ["order", "period", "size", "found", "twice", "step", "one", "at"] "longest_steps" (defScope s_longest_steps) D.f_longest_steps cdv A outer s H E).xe := passes_of rfl
  unfold b_longest_steps
  exact (dss_cons (ds_par (ps_par (i := 2) (j := 3) (by rfl) nd rfl rfl (by decide) rfl rfl (dk_val (de_call1 (pe_callB cr_lenA (by rfl) D.z_len (by decide +kernel) (pa_cons (dp_var (pv 0)) pa_nil)) cs_len) (dk_own (dn_lst da_nil) dk_nil)) (by rfl)))
    (dss_cons (ds_asgV (ps_set (i := 4) nd rfl (by first | exact Or.inl rfl | exact Or.inr rfl) ((dn_lst (da_star rfl (dp_var (pv 0)) (da_star rfl ((dn_lc (pe_lc (own := [("one", 6)]) rfl nd (di_seq rfl (de_var (pv 0))) (blkOk_by (own := [("one", 6)]) (N := ["order", "period", "size", "found", "twice", "step", "one", "at"]) (sc := defScope s_longest_steps) (by decide +kernel)) (fun _ _ _ _ _ => (dg_name (pg_name (i := 6) nd rfl (by first | exact Or.inl rfl | exact Or.inr rfl)))) (fun _ _ _ _ _ => dts_nil) (fun _ _ _ _ _ => (de_bin op_addA os_add (de_var (pv 6)) (dp_var (pv 1))))) (by decide))).keep.peek da_nil (StX.pa_star ((dn_lc (pe_lc (own := [("one", 6)]) rfl nd (di_seq rfl (de_var (pv 0))) (blkOk_by (own := [("one", 6)]) (N := ["order", "period", "size", "found", "twice", "step", "one", "at"]) (sc := defScope s_longest_steps) (by decide +kernel)) (fun _ _ _ _ _ => (dg_name (pg_name (i := 6) nd rfl (by first | exact Or.inl rfl | exact Or.inr rfl)))) (fun _ _ _ _ _ => dts_nil) (fun _ _ _ _ _ => (de_bin op_addA os_add (de_var (pv 6)) (dp_var (pv 1))))) (by decide))).keep.peek da_nil)) (StX.pa_star (dp_var (pv 0)) (da_star rfl ((dn_lc (pe_lc (own := [("one", 6)]) rfl nd (di_seq rfl (de_var (pv 0))) (blkOk_by (own := [("one", 6)]) (N := ["order", "period", "size", "found", "twice", "step", "one", "at"]) (sc := defScope s_longest_steps) (by decide +kernel)) (fun _ _ _ _ _ => (dg_name (pg_name (i := 6) nd rfl (by first | exact Or.inl rfl | exact Or.inr rfl)))) (fun _ _ _ _ _ => dts_nil) (fun _ _ _ _ _ => (de_bin op_addA os_add (de_var (pv 6)) (dp_var (pv 1))))) (by decide))).keep.peek da_nil (StX.pa_star ((dn_lc (pe_lc (own := [("one", 6)]) rfl nd (di_seq rfl (de_var (pv 0))) (blkOk_by (own := [("one", 6)]) (N := ["order", "period", "size", "found", "twice", "step", "one", "at"]) (sc := defScope s_longest_steps) (by decide +kernel)) (fun _ _ _ _ _ => (dg_name (pg_name (i := 6) nd rfl (by first | exact Or.inl rfl | exact Or.inr rfl)))) (fun _ _ _ _ _ => dts_nil) (fun _ _ _ _ _ => (de_bin op_addA os_add (de_var (pv 6)) (dp_var (pv 1))))) (by decide))).keep.peek da_nil)))))).keep))
    (dss_cons (ds_for hp rfl (di_rng2 (by rfl) D.z_range (da_cons de_int (da_cons (de_bin op_addA os_add (de_var (pv 2)) (de_int).peek) da_nil))) (dg_name (pg_name (i := 5) nd rfl (by first | exact Or.inl rfl | exact Or.inr rfl))) (dss_one (ds_expr (de_append rfl (pe_bm PySem.F.plainAttrs_list PySem.F.slot_list_append PySem.F.type_list_append mt_append (pv 3) (pa_cons (de_call1 (pe_callB (cr_max rfl) (by rfl) D.z_max (by decide +kernel) (pa_cons ((dn_lc (pe_lc (own := [("at", 7)]) rfl nd (di_rng1 (by rfl) D.z_range (da_cons (de_var (pv 2)) da_nil)) (blkOk_by (own := [("at", 7)]) (N := ["order", "period", "size", "found", "twice", "step", "one", "at"]) (sc := defScope s_longest_steps) (by decide +kernel)) (fun _ _ _ _ _ => (dg_name (pg_name (i := 7) nd rfl (by first | exact Or.inl rfl | exact Or.inr rfl)))) (fun _ _ _ _ _ => dts_nil) (fun _ _ _ _ _ => (de_call1 (pe_callTy call_int1 (by rfl) D.z_int (by decide +kernel) (pa_cons (de_bin op_sub os_sub (de_ixV (pe_ix ix_seq (pv 4) (de_bin op_addA os_add (de_var (pv 7)) (dp_var (pv 5))) (fun _ _ => rfl))) (de_ixV (pe_ix ix_seq (pv 4) (de_var (pv 7)) (fun _ _ => rfl))).peek).peek pa_nil)) cs_int))) (by decide))).keep.peek pa_nil)) cs_max) pa_nil))))))
    (dss_one (ds_ret (de_call1 (pe_callTy call_tuple_of (by rfl) D.z_tuple (by decide +kernel) (pa_cons (dp_var (pv 3)) pa_nil)) cs_tuple))))))
theorem ok_longest_steps (D : Dfs K mg) : FnOk P w K mg base (L2.CX P w) 1 D.f_longest_steps D.fd_longest_steps ["order", "period"] (spM ⟨K, D.cl⟩ 2 false false m_longest_steps) :=
  fun_ok2 (cl := D.cl) (n := 2) (fm := m_longest_steps) D.F_longest_steps sc_longest_steps (by decide) (by rfl) (by unfold m_longest_steps; rfl) (bd_longest_steps D)
theorem bd_stair (D : Dfs K mg) (cdv : Value) (A : Around) (outer : List Env) (s : Shared) (H : Hp) (E : XK) (π : Nat → Option Pin) (hr : Room 0 (A.deeper (envOfC "stair" (defScope s_stair) s.heap.objs.size D.f_stair cdv))) : PSs (cxOf (L2.CX P w) P w K mg base ["steps", "period", "misses", "rounds", "rest"] "stair" (defScope s_stair) D.f_stair cdv A outer s H E) (defBody s_stair) (TMs ⟨K, D.cl⟩ π (fun cls d _ H => E cls d H) b_stair) := by
  have nd := sc_stair.nd
  have tk : Takes (cxOf (L2.CX P w) P w K mg base ["steps", "period", "misses", "rounds", "rest"] "stair" (defScope s_stair) D.f_stair cdv A outer s H E) (fun cls d _ H => E cls d H) := takes_of rfl rfl rfl rfl
  have hp : PassesOwn (model P w) (cxOf (L2.CX P w) P w K mg base ["steps", "period", "misses", "rounds", "rest"] "stair" (defScope s_stair) D.f_stair cdv A outer s H E).A (cxOf (L2.CX P w) P w K mg base ["steps", "period", "misses", "rounds", "rest"] "stair" (defScope s_stair) D.f_stair cdv A outer s H E).env (cxOf (L2.CX P w) P w K mg base ["steps", "period", "misses", "rounds", "rest"] "stair" (defScope s_stair) D.f_stair cdv A outer s H E).xe := passes_of rfl
  unfold b_stair
  exact (dss_cons (ds_par (ps_par (i := 3) (j := 4) (by rfl) nd rfl rfl (by decide) rfl rfl (dk_val (de_bin op_fdivW os_div (de_var (pv 2)) (de_call1 (pe_callB cr_lenA (by rfl) D.z_len (by decide +kernel) (pa_cons (dp_var (pv 0)) pa_nil)) cs_len).peek) (dk_val (de_bin op_mod os_mod (de_var (pv 2)) (de_call1 (pe_callB cr_lenA (by rfl) D.z_len (by decide +kernel) (pa_cons (dp_var (pv 0)) pa_nil)) cs_len).peek) dk_nil)) (by rfl)))
    (dss_one (ds_ret (de_bin op_addA os_add (de_bin op_mul os_mulI (de_var (pv 3)) (dp_var (pv 1))) (de_ixV (pe_ix ix_seq (pv 0) (de_var (pv 4)) (fun _ _ => rfl))).peek))))
theorem ok_stair (D : Dfs K mg) : FnOk P w K mg base (L2.CX P w) 1 D.f_stair D.fd_stair ["steps", "period", "misses"] (spM ⟨K, D.cl⟩ 3 false false m_stair) :=
  fun_ok2 (cl := D.cl) (n := 3) (fm := m_stair) D.F_stair sc_stair (by decide) (by rfl) (by unfold m_stair; rfl) (bd_stair D)
theorem bd_least_gap (D : Dfs K mg) (cdv : Value) (A : Around) (outer : List Env) (s : Shared) (H : Hp) (E : XK) (π : Nat → Option Pin) (hr : Room 0 (A.deeper (envOfC "least_gap" (defScope s_least_gap) s.heap.objs.size D.f_least_gap cdv))) : PSs (cxOf (L2.CX P w) P w K mg base ["period", "turnings", "misses"] "least_gap" (defScope s_least_gap) D.f_least_gap cdv A outer s H E) (defBody s_least_gap) (TMs ⟨K, D.cl⟩ π (fun cls d _ H => E cls d H) b_least_gap) := by
  have nd := sc_least_gap.nd
  have tk : Takes (cxOf (L2.CX P w) P w K mg base ["period", "turnings", "misses"] "least_gap" (defScope s_least_gap) D.f_least_gap cdv A outer s H E) (fun cls d _ H => E cls d H) := takes_of rfl rfl rfl rfl
  have hp : PassesOwn (model P w) (cxOf (L2.CX P w) P w K mg base ["period", "turnings", "misses"] "least_gap" (defScope s_least_gap) D.f_least_gap cdv A outer s H E).A (cxOf (L2.CX P w) P w K mg base ["period", "turnings", "misses"] "least_gap" (defScope s_least_gap) D.f_least_gap cdv A outer s H E).env (cxOf (L2.CX P w) P w K mg base ["period", "turnings", "misses"] "least_gap" (defScope s_least_gap) D.f_least_gap cdv A outer s H E).xe := passes_of rfl
  unfold b_least_gap
  exact (dss_one (ds_ret (de_un un_neg us_neg (de_bin op_fdivW os_div (de_bin op_mul os_mulI (de_un un_neg us_neg (de_bin op_addA os_add (de_var (pv 2)) (de_int).peek).peek) (dp_var (pv 0))) (dp_var (pv 1))).peek)))
theorem ok_least_gap (D : Dfs K mg) : FnOk P w K mg base (L2.CX P w) 1 D.f_least_gap D.fd_least_gap ["period", "turnings", "misses"] (spM ⟨K, D.cl⟩ 3 false false m_least_gap) :=
  fun_ok2 (cl := D.cl) (n := 3) (fm := m_least_gap) D.F_least_gap sc_least_gap (by decide) (by rfl) (by unfold m_least_gap; rfl) (bd_least_gap D)
theorem bd_shared_length (D : Dfs K mg) (cdv : Value) (A : Around) (outer : List Env) (s : Shared) (H : Hp) (E : XK) (π : Nat → Option Pin) (hr : Room 0 (A.deeper (envOfC "shared_length" (defScope s_shared_length) s.heap.objs.size D.f_shared_length cdv))) : PSs (cxOf (L2.CX P w) P w K mg base ["one", "other", "left", "right"] "shared_length" (defScope s_shared_length) D.f_shared_length cdv A outer s H E) (defBody s_shared_length) (TMs ⟨K, D.cl⟩ π (fun cls d _ H => E cls d H) b_shared_length) := by
  have nd := sc_shared_length.nd
  have tk : Takes (cxOf (L2.CX P w) P w K mg base ["one", "other", "left", "right"] "shared_length" (defScope s_shared_length) D.f_shared_length cdv A outer s H E) (fun cls d _ H => E cls d H) := takes_of rfl rfl rfl rfl
  have hp : PassesOwn (model P w) (cxOf (L2.CX P w) P w K mg base ["one", "other", "left", "right"] "shared_length" (defScope s_shared_length) D.f_shared_length cdv A outer s H E).A (cxOf (L2.CX P w) P w K mg base ["one", "other", "left", "right"] "shared_length" (defScope s_shared_length) D.f_shared_length cdv A outer s H E).env (cxOf (L2.CX P w) P w K mg base ["one", "other", "left", "right"] "shared_length" (defScope s_shared_length) D.f_shared_length cdv A outer s H E).xe := passes_of rfl
  unfold b_shared_length
  exact (dss_cons (ds_par (ps_par (i := 2) (j := 3) (by rfl) nd rfl rfl (by decide) rfl rfl (dk_val (de_var (pv 0)) (dk_val (de_var (pv 1)) dk_nil)) (by rfl)))
    (dss_cons (ds_while 1000 hp (dt_cmp op_gt os_gt (de_var (pv 3)) (de_int).peek (nomark _)) (dss_one (ds_par (ps_par (i := 2) (j := 3) (by rfl) nd rfl rfl (by decide) rfl rfl (dk_val (de_var (pv 3)) (dk_val (de_bin op_mod os_mod (de_var (pv 2)) (dp_var (pv 3))) dk_nil)) (by rfl)))))
    (dss_one (ds_ret (de_bin op_fdivW os_div (de_bin op_mul os_mulI (de_var (pv 0)) (dp_var (pv 1))) (dp_var (pv 2)))))))
theorem ok_shared_length (D : Dfs K mg) : FnOk P w K mg base (L2.CX P w) 1 D.f_shared_length D.fd_shared_length ["one", "other"] (spM ⟨K, D.cl⟩ 2 false false m_shared_length) :=
  fun_ok2 (cl := D.cl) (n := 2) (fm := m_shared_length) D.F_shared_length sc_shared_length (by decide) (by rfl) (by unfold m_shared_length; rfl) (bd_shared_length D)
theorem bd_law_box (D : Dfs K mg) (cdv : Value) (A : Around) (outer : List Env) (s : Shared) (H : Hp) (E : XK) (π : Nat → Option Pin) (hr : Room 0 (A.deeper (envOfC "_law_box" (defScope s_law_box) s.heap.objs.size D.f_law_box cdv))) : PSs (cxOf (L2.CX P w) P w K mg base ["_law_script", "_law_k", "_law_own", "_law_cell", "_law_seed", "_law_one"] "_law_box" (defScope s_law_box) D.f_law_box cdv A outer s H E) (defBody s_law_box) (TMs ⟨K, D.cl⟩ π (fun cls d _ H => E cls d H) b_law_box_v3) := by
  have nd := sc_law_box.nd
  have tk : Takes (cxOf (L2.CX P w) P w K mg base ["_law_script", "_law_k", "_law_own", "_law_cell", "_law_seed", "_law_one"] "_law_box" (defScope s_law_box) D.f_law_box cdv A outer s H E) (fun cls d _ H => E cls d H) := takes_of rfl rfl rfl rfl
  have hp : PassesOwn (model P w) (cxOf (L2.CX P w) P w K mg base ["_law_script", "_law_k", "_law_own", "_law_cell", "_law_seed", "_law_one"] "_law_box" (defScope s_law_box) D.f_law_box cdv A outer s H E).A (cxOf (L2.CX P w) P w K mg base ["_law_script", "_law_k", "_law_own", "_law_cell", "_law_seed", "_law_one"] "_law_box" (defScope s_law_box) D.f_law_box cdv A outer s H E).env (cxOf (L2.CX P w) P w K mg base ["_law_script", "_law_k", "_law_own", "_law_cell", "_law_seed", "_law_one"] "_law_box" (defScope s_law_box) D.f_law_box cdv A outer s H E).xe := passes_of rfl
  unfold b_law_box_v3
  exact (dss_cons (ds_asgV (ps_set (i := 3) nd rfl (by first | exact Or.inl rfl | exact Or.inr rfl) (de_ifExp (dt_cmp op_lt os_lt (de_var (pv 1)) (de_call1 (pe_callB cr_lenA (by rfl) D.z_len (by decide +kernel) (pa_cons (dp_var (pv 0)) pa_nil)) cs_len).peek (nomark _)) (de_call1 (pe_callB call_abs (by rfl) D.z_abs (by decide +kernel) (pa_cons (de_ixV (pe_ix ix_seq (pv 0) (de_var (pv 1)) (fun _ _ => rfl))).peek pa_nil)) cs_abs) de_int)))
    (dss_cons (ds_asgV (ps_set (i := 4) nd rfl (by first | exact Or.inl rfl | exact Or.inr rfl) (de_bin op_addA os_add (de_bin op_addA os_add (de_bin op_mul os_mulI de_int (dp_var (pv 2))) (de_bin op_mul os_mulI de_int (dp_var (pv 1))).peek) (de_int).peek)))
    (dss_cons (ds_for hp rfl (di_seq rfl (de_slV rfl (pe_slice sl_all (pv 0) do_none (do_some de_int)))) (dg_name (pg_name (i := 5) nd rfl (by first | exact Or.inl rfl | exact Or.inr rfl))) (dss_one (ds_asgV (ps_set (i := 4) nd rfl (by first | exact Or.inl rfl | exact Or.inr rfl) (de_bin op_mod os_mod (de_call1 (pe_callTy call_int1 (by rfl) D.z_int (by decide +kernel) (pa_cons (de_bin op_addA os_add (de_bin op_addA os_add (de_bin op_mul os_mulI (de_var (pv 4)) (de_int).peek) (de_bin op_mod os_mod (de_call1 (pe_callB call_abs (by rfl) D.z_abs (by decide +kernel) (pa_cons (dp_var (pv 5)) pa_nil)) cs_abs) (de_int).peek).peek) (dp_var (pv 1))).peek pa_nil)) cs_int) (de_int).peek)))))
    (dss_one (ds_retN (dn_lst (da_cons (de_ifExp (dt_cmp op_ge os_ge (de_var (pv 3)) (de_bin op_pow os_pow de_int (de_int).peek).peek (nomark _)) (de_var (pv 3)) de_int) (da_cons (de_bin op_addA os_add (de_var (pv 4)) (de_int).peek) da_nil))))))))
theorem ok_law_box (D : Dfs K mg) : FnOk P w K mg base (L2.CX P w) 1 D.f_law_box D.fd_law_box ["_law_script", "_law_k", "_law_own"] (spM ⟨K, D.cl⟩ 3 false true m_law_box_v3) :=
  fun_ok2 (cl := D.cl) (n := 3) (fm := m_law_box_v3) D.F_law_box sc_law_box (by decide) (by rfl) (by unfold m_law_box_v3; rfl) (bd_law_box D)
theorem bd_law_take (D : Dfs K mg) (cdv : Value) (A : Around) (outer : List Env) (s : Shared) (H : Hp) (E : XK) (π : Nat → Option Pin) (hr : Room 0 (A.deeper (envOfC "_law_take" (defScope s_law_take) s.heap.objs.size D.f_law_take cdv))) : PSs (cxOf (L2.CX P w) P w K mg base ["_law_box_here", "_law_limit", "_law_digit"] "_law_take" (defScope s_law_take) D.f_law_take cdv A outer s H E) (defBody s_law_take) (TMs ⟨K, D.cl⟩ π (fun cls d _ H => E cls d H) b_law_take_v2) := by
  have nd := sc_law_take.nd
  have tk : Takes (cxOf (L2.CX P w) P w K mg base ["_law_box_here", "_law_limit", "_law_digit"] "_law_take" (defScope s_law_take) D.f_law_take cdv A outer s H E) (fun cls d _ H => E cls d H) := takes_of rfl rfl rfl rfl
  have hp : PassesOwn (model P w) (cxOf (L2.CX P w) P w K mg base ["_law_box_here", "_law_limit", "_law_digit"] "_law_take" (defScope s_law_take) D.f_law_take cdv A outer s H E).A (cxOf (L2.CX P w) P w K mg base ["_law_box_here", "_law_limit", "_law_digit"] "_law_take" (defScope s_law_take) D.f_law_take cdv A outer s H E).env (cxOf (L2.CX P w) P w K mg base ["_law_box_here", "_law_limit", "_law_digit"] "_law_take" (defScope s_law_take) D.f_law_take cdv A outer s H E).xe := passes_of rfl
  unfold b_law_take_v2
  exact (dss_cons (ds_if (dt_cmp op_gt os_gt (de_ixV (pe_ix ix_seq (pv 0) de_int (fun _ _ => rfl))) (de_int).peek (nomark _)) (dss_cons (ds_asgV (ps_set (i := 2) nd rfl (by first | exact Or.inl rfl | exact Or.inr rfl) (de_bin op_mod os_mod (de_call1 (pe_callTy call_int1 (by rfl) D.z_int (by decide +kernel) (pa_cons (de_ixV (pe_ix ix_seq (pv 0) de_int (fun _ _ => rfl))).peek pa_nil)) cs_int) (dp_var (pv 1)))))
    (dss_cons (ds_lput (ps_asg (de_bin op_fdivW os_div (de_ixV (pe_ix ix_seq (pv 0) de_int (fun _ _ => rfl))) (dp_var (pv 1))) (pg_sub (pv 0) de_int set_list)))
    (dss_one (ds_ret (de_var (pv 2)))))) dss_nil)
    (dss_cons (ds_lput (ps_asg (de_bin op_mod os_mod (de_call1 (pe_callTy call_int1 (by rfl) D.z_int (by decide +kernel) (pa_cons (de_bin op_addA os_add (de_bin op_mul os_mulI (de_ixV (pe_ix ix_seq (pv 0) de_int (fun _ _ => rfl))) (de_int).peek) (de_int).peek).peek pa_nil)) cs_int) (de_int).peek) (pg_sub (pv 0) de_int set_list)))
    (dss_one (ds_ret (de_bin op_mod os_mod (de_call1 (pe_callTy call_int1 (by rfl) D.z_int (by decide +kernel) (pa_cons (de_bin op_fdivW os_div (de_ixV (pe_ix ix_seq (pv 0) de_int (fun _ _ => rfl))) (de_int).peek).peek pa_nil)) cs_int) (dp_var (pv 1)))))))
theorem ok_law_take (D : Dfs K mg) : FnOk P w K mg base (L2.CX P w) 1 D.f_law_take D.fd_law_take ["_law_box_here", "_law_limit"] (spM ⟨K, D.cl⟩ 2 true false m_law_take_v2) :=
  fun_ok2 (cl := D.cl) (n := 2) (fm := m_law_take_v2) D.F_law_take sc_law_take (by decide) (by rfl) (by unfold m_law_take_v2; rfl) (bd_law_take D)
theorem hfm_law_heard (L0 : Dt) (o : Fo) : runF 3 false false (b_law_heard L0 o) [L0] = m_law_heard o := by
  unfold m_law_heard b_law_heard
  cases o with
  | bad => simp only [runF, sSeq, sSet, sTry, sDrop, sBind, mPure, sPut, setSl, argE, List.map_cons, List.map_nil, List.length_cons, List.length_nil, List.replicate, List.cons_append, List.nil_append, List.getElem?_cons_zero, List.getElem?_cons_succ, List.set, act_bad, Nat.sub]
  | ret d r => simp [runF, sSeq, sSet, sTry, sDrop, sBind, mPure, sPut, setSl, argE, act_ret, List.replicate, sRet, mVar, ioOut]
  | exc x r =>
    obtain ⟨c, fs⟩ := x
    by_cases hc : c = 24
    · subst hc
      match fs with
      | [] => simp [runF, sSeq, sSet, sTry, sDrop, sBind, mPure, sPut, setSl, argE, act_exc, List.replicate, sRet, mVar, ioOut, hdGo, qTab, List.lookup, mIfE, mAnd, mB, mNot, mXf, mXis, mBind, mOpt, mBad, afterE]
      | [y] => simp [runF, sSeq, sSet, sTry, sDrop, sBind, mPure, sPut, setSl, argE, act_exc, List.replicate, sRet, mVar, ioOut, hdGo, qTab, List.lookup, mIfE, mAnd, mB, mNot, mXf, mXis, mBind, mOpt, mBad, afterE]
      | y :: z :: l => simp [runF, sSeq, sSet, sTry, sDrop, sBind, mPure, sPut, setSl, argE, act_exc, List.replicate, sRet, mVar, ioOut, hdGo, qTab, List.lookup, mIfE, mAnd, mB, mNot, mXf, mXis, mBind, mOpt, mBad, afterE]
    · have h : List.lookup c [((24 : Nat), true)] = none := by
        have h0 : (c == 24) = false := by simp [hc]
        unfold List.lookup
        rw [h0]
        rfl
      simp [runF, sSeq, sSet, sTry, sDrop, sBind, mPure, sPut, setSl, argE, act_exc, List.replicate, sRet, mVar, ioOut, hdGo, qTab, h, afterE]
theorem bd_law_heard (D : Dfs K mg) (cdv : Value) (A : Around) (outer : List Env) (s : Shared) (H : Hp) (E : XK) {kg : Nat} (L0 : Dt) (o : Fo) (hr : Room kg (A.deeper (envOfC "_law_heard" (defScope s_law_heard) s.heap.objs.size D.f_law_heard cdv))) (act : ∀ (W : WX) (pn : List (Addr × Obj)) (xe : Value → Shared → Prop) (p1 p2 : Pos), Takes ((cxOf (L2.CX P w) P w K mg base ["_law_work", "_law_found", "e"] "_law_heard" (defScope s_law_heard) D.f_law_heard cdv A outer s H E).tr pn xe) W → PE ((cxOf (L2.CX P w) P w K mg base ["_law_work", "_law_found", "e"] "_law_heard" (defScope s_law_heard) D.f_law_heard cdv A outer s H E).tr pn xe) (.Call (.Name "_law_work" p1) [] [] p2) (TMe ⟨K, D.cl⟩ (pi0 none) W (mAct 0 L0 o))) : PSs (cxOf (L2.CX P w) P w K mg base ["_law_work", "_law_found", "e"] "_law_heard" (defScope s_law_heard) D.f_law_heard cdv A outer s H E) (defBody s_law_heard) (TMs ⟨K, D.cl⟩ (pi0 none) (fun cls d _ H => E cls d H) (b_law_heard L0 o)) := by
  have nd := sc_law_heard.nd
  have tk : Takes (cxOf (L2.CX P w) P w K mg base ["_law_work", "_law_found", "e"] "_law_heard" (defScope s_law_heard) D.f_law_heard cdv A outer s H E) (fun cls d _ H => E cls d H) := takes_of rfl rfl rfl rfl
  have hp : PassesOwn (model P w) (cxOf (L2.CX P w) P w K mg base ["_law_work", "_law_found", "e"] "_law_heard" (defScope s_law_heard) D.f_law_heard cdv A outer s H E).A (cxOf (L2.CX P w) P w K mg base ["_law_work", "_law_found", "e"] "_law_heard" (defScope s_law_heard) D.f_law_heard cdv A outer s H E).env (cxOf (L2.CX P w) P w K mg base ["_law_work", "_law_found", "e"] "_law_heard" (defScope s_law_heard) D.f_law_heard cdv A outer s H E).xe := passes_of rfl
  unfold b_law_heard
  exact (dss_cons (ds_asgV (ps_set (i := 1) nd rfl (by first | exact Or.inl rfl | exact Or.inr rfl) de_str))
    (dss_cons (ds_try (i := 2) (q := qTab [(24, true)]) rfl rfl rfl nd rfl rfl ⟨by rfl, by decide, .inl D.kl_InvalidDays.g⟩ (hq_cons rfl (D.kl_InvalidDays.exm D.su_InvalidDays_InvalidDays D.er_InvalidDays.exc.hs) hq_nil) tk (fun W pn xe tk hp => (dss_one (ds_expr (act _ _ _ _ _ tk)))) (fun a oe cls d pn hz hf => sx_one (sx_set (ps_set (i := 1) nd rfl (by first | exact Or.inl rfl | exact Or.inr rfl) (te_ifExp (PW.pt (tw_and (tt_val (te_is rfl (.own _) (D.kl_TurnError.kit D.su_InvalidDays_TurnError) hz (fun hC => by subst hC; exact pe_callB (call_isX D.er_InvalidDays.exc hz hf) (by rfl) D.z_isinstance (by decide +kernel) (pa_cons (pv 2) (pa_cons (pe_glob (by rfl) D.kl_TurnError.g rfl) pa_nil))))) (tw_and1 (tt_not (tt_val (te_is rfl (.own _) (D.kl_InvalidMisses.kit D.su_InvalidDays_InvalidMisses) hz (fun hC => by subst hC; exact pe_callB (call_isX D.er_InvalidDays.exc hz hf) (by rfl) D.z_isinstance (by decide +kernel) (pa_cons (pv 2) (pa_cons (pe_glob (by rfl) D.kl_InvalidMisses.g rfl) pa_nil))))))))) (te_fld rfl rfl D.er_InvalidDays.xf D.na_InvalidDays hz hf (pv 2)) (te_lift de_str))))))
    (dss_one (ds_ret (de_var (pv 1))))))
theorem bd_is_never_longer (D : Dfs K mg) (cdv : Value) (A : Around) (outer : List Env) (s : Shared) (H : Hp) (E : XK) (π : Nat → Option Pin) (hr : Room 1 (A.deeper (envOfC "is_never_longer" (defScope s_is_never_longer) s.heap.objs.size D.f_is_never_longer cdv))) : PSs (cxOf (L2.CX P w) P w K mg base ["steps", "period", "others", "round_length", "misses"] "is_never_longer" (defScope s_is_never_longer) D.f_is_never_longer cdv A outer s H E) (defBody s_is_never_longer) (TMs ⟨K, D.cl⟩ π (fun cls d _ H => E cls d H) b_is_never_longer) := by
  have nd := sc_is_never_longer.nd
  have tk : Takes (cxOf (L2.CX P w) P w K mg base ["steps", "period", "others", "round_length", "misses"] "is_never_longer" (defScope s_is_never_longer) D.f_is_never_longer cdv A outer s H E) (fun cls d _ H => E cls d H) := takes_of rfl rfl rfl rfl
  have hp : PassesOwn (model P w) (cxOf (L2.CX P w) P w K mg base ["steps", "period", "others", "round_length", "misses"] "is_never_longer" (defScope s_is_never_longer) D.f_is_never_longer cdv A outer s H E).A (cxOf (L2.CX P w) P w K mg base ["steps", "period", "others", "round_length", "misses"] "is_never_longer" (defScope s_is_never_longer) D.f_is_never_longer cdv A outer s H E).env (cxOf (L2.CX P w) P w K mg base ["steps", "period", "others", "round_length", "misses"] "is_never_longer" (defScope s_is_never_longer) D.f_is_never_longer cdv A outer s H E).xe := passes_of rfl
  unfold b_is_never_longer
  exact (dss_cons (ds_if (dt_cmp op_gt os_gt (de_bin op_mul os_mulI (de_var (pv 1)) (de_call1 (pe_callB cr_lenA (by rfl) D.z_len (by decide +kernel) (pa_cons (dp_var (pv 2)) pa_nil)) cs_len).peek) (de_bin op_mul os_mulI (de_var (pv 3)) (de_call1 (pe_callB cr_lenA (by rfl) D.z_len (by decide +kernel) (pa_cons (dp_var (pv 0)) pa_nil)) cs_len).peek).peek (nomark _)) (dss_one (ds_ret de_bl)) dss_nil)
    (dss_cons (ds_for hp rfl (di_rng1 (by rfl) D.z_range (da_cons (de_call (ok_shared_length D) (hr.mono (by decide)) (by rfl) D.g_shared_length D.F_shared_length.kp D.b_shared_length tk (da_cons (de_call1 (pe_callB cr_lenA (by rfl) D.z_len (by decide +kernel) (pa_cons (dp_var (pv 0)) pa_nil)) cs_len) (da_cons (de_call1 (pe_callB cr_lenA (by rfl) D.z_len (by decide +kernel) (pa_cons (dp_var (pv 2)) pa_nil)) cs_len) da_nil))) da_nil)) (dg_name (pg_name (i := 4) nd rfl (by first | exact Or.inl rfl | exact Or.inr rfl))) (dss_one (ds_if (dt_cmp op_gt os_gt (de_call (ok_stair D) (hr.mono (by decide)) (by rfl) D.g_stair D.F_stair.kp D.b_stair tk (da_cons (de_var (pv 0)) (da_cons (de_var (pv 1)) (da_cons (de_var (pv 4)) da_nil)))) (de_call (ok_stair D) (hr.mono (by decide)) (by rfl) D.g_stair D.F_stair.kp D.b_stair tk (da_cons (de_var (pv 2)) (da_cons (de_var (pv 3)) (da_cons (de_var (pv 4)) da_nil)))).peek (nomark _)) (dss_one (ds_ret de_bl)) dss_nil)))
    (dss_one (ds_ret de_bl))))
theorem ok_is_never_longer (D : Dfs K mg) : FnOk P w K mg base (L2.CX P w) 2 D.f_is_never_longer D.fd_is_never_longer ["steps", "period", "others", "round_length"] (spM ⟨K, D.cl⟩ 4 false false m_is_never_longer) :=
  fun_ok2 (cl := D.cl) (n := 4) (fm := m_is_never_longer) D.F_is_never_longer sc_is_never_longer (by decide) (by rfl) (by unfold m_is_never_longer; rfl) (bd_is_never_longer D)
theorem bd_law_pick (D : Dfs K mg) (cdv : Value) (A : Around) (outer : List Env) (s : Shared) (H : Hp) (E : XK) (π : Nat → Option Pin) (hr : Room 1 (A.deeper (envOfC "_law_pick" (defScope s_law_pick) s.heap.objs.size D.f_law_pick cdv))) : PSs (cxOf (L2.CX P w) P w K mg base ["_law_box_here", "_law_some"] "_law_pick" (defScope s_law_pick) D.f_law_pick cdv A outer s H E) (defBody s_law_pick) (TMs ⟨K, D.cl⟩ π (fun cls d _ H => E cls d H) b_law_pick_v2) := by
  have nd := sc_law_pick.nd
  have tk : Takes (cxOf (L2.CX P w) P w K mg base ["_law_box_here", "_law_some"] "_law_pick" (defScope s_law_pick) D.f_law_pick cdv A outer s H E) (fun cls d _ H => E cls d H) := takes_of rfl rfl rfl rfl
  have hp : PassesOwn (model P w) (cxOf (L2.CX P w) P w K mg base ["_law_box_here", "_law_some"] "_law_pick" (defScope s_law_pick) D.f_law_pick cdv A outer s H E).A (cxOf (L2.CX P w) P w K mg base ["_law_box_here", "_law_some"] "_law_pick" (defScope s_law_pick) D.f_law_pick cdv A outer s H E).env (cxOf (L2.CX P w) P w K mg base ["_law_box_here", "_law_some"] "_law_pick" (defScope s_law_pick) D.f_law_pick cdv A outer s H E).xe := passes_of rfl
  unfold b_law_pick_v2
  exact (dss_one (ds_ret (de_ixV (pe_ix ix_seq (pv 1) (de_callIo (ok_law_take D) (hr.mono (by decide)) (by rfl) D.g_law_take D.F_law_take.kp D.b_law_take tk (pv 0) (da_cons (de_call1 (pe_callB cr_lenA (by rfl) D.z_len (by decide +kernel) (pa_cons (dp_var (pv 1)) pa_nil)) cs_len) da_nil)) (fun _ _ => rfl)))))
theorem ok_law_pick (D : Dfs K mg) : FnOk P w K mg base (L2.CX P w) 2 D.f_law_pick D.fd_law_pick ["_law_box_here", "_law_some"] (spM ⟨K, D.cl⟩ 2 true false m_law_pick_v2) :=
  fun_ok2 (cl := D.cl) (n := 2) (fm := m_law_pick_v2) D.F_law_pick sc_law_pick (by decide) (by rfl) (by unfold m_law_pick_v2; rfl) (bd_law_pick D)
theorem bd_law_days (D : Dfs K mg) (cdv : Value) (A : Around) (outer : List Env) (s : Shared) (H : Hp) (E : XK) (π : Nat → Option Pin) (hr : Room 1 (A.deeper (envOfC "_law_days" (defScope s_law_days) s.heap.objs.size D.f_law_days cdv))) : PSs (cxOf (L2.CX P w) P w K mg base ["_law_box_here", "_law_period", "_law_most", "_law_found", "_law_turn", "_law_day"] "_law_days" (defScope s_law_days) D.f_law_days cdv A outer s H E) (defBody s_law_days) (TMs ⟨K, D.cl⟩ π (fun cls d _ H => E cls d H) b_law_days_v2) := by
  have nd := sc_law_days.nd
  have tk : Takes (cxOf (L2.CX P w) P w K mg base ["_law_box_here", "_law_period", "_law_most", "_law_found", "_law_turn", "_law_day"] "_law_days" (defScope s_law_days) D.f_law_days cdv A outer s H E) (fun cls d _ H => E cls d H) := takes_of rfl rfl rfl rfl
  have hp : PassesOwn (model P w) (cxOf (L2.CX P w) P w K mg base ["_law_box_here", "_law_period", "_law_most", "_law_found", "_law_turn", "_law_day"] "_law_days" (defScope s_law_days) D.f_law_days cdv A outer s H E).A (cxOf (L2.CX P w) P w K mg base ["_law_box_here", "_law_period", "_law_most", "_law_found", "_law_turn", "_law_day"] "_law_days" (defScope s_law_days) D.f_law_days cdv A outer s H E).env (cxOf (L2.CX P w) P w K mg base ["_law_box_here", "_law_period", "_law_most", "_law_found", "_law_turn", "_law_day"] "_law_days" (defScope s_law_days) D.f_law_days cdv A outer s H E).xe := passes_of rfl
  unfold b_law_days_v2
  exact (dss_cons (ds_asgN (ps_set (i := 3) nd rfl (by first | exact Or.inl rfl | exact Or.inr rfl) (dn_lst da_nil)))
    (dss_cons (ds_for hp rfl (di_rng1 (by rfl) D.z_range (da_cons (de_bin op_addA os_add de_int (de_callIo (ok_law_take D) (hr.mono (by decide)) (by rfl) D.g_law_take D.F_law_take.kp D.b_law_take tk (pv 0) (da_cons (de_var (pv 2)) da_nil)).peek) da_nil)) (dg_name (pg_name (i := 4) nd rfl (by first | exact Or.inl rfl | exact Or.inr rfl))) (dss_cons (ds_asgV (ps_set (i := 5) nd rfl (by first | exact Or.inl rfl | exact Or.inr rfl) (de_callIo (ok_law_take D) (hr.mono (by decide)) (by rfl) D.g_law_take D.F_law_take.kp D.b_law_take tk (pv 0) (da_cons (de_var (pv 1)) da_nil))))
    (dss_one (ds_expr (de_extend rfl (pe_bm PySem.F.plainAttrs_list PySem.F.slot_list_extend PySem.F.type_list_extend mt_extend (pv 3) (pa_cons (dn_ifExp (dt_cmp (op_notInA hr.units) os_notInA (de_var (pv 5)) (dp_var (pv 3)) (by rfl)) (dn_lst (da_cons (de_var (pv 5)) da_nil)) (dn_lst da_nil)) pa_nil)))))))
    (dss_one (ds_ret (de_var (pv 3))))))
theorem ok_law_days (D : Dfs K mg) : FnOk P w K mg base (L2.CX P w) 2 D.f_law_days D.fd_law_days ["_law_box_here", "_law_period", "_law_most"] (spM ⟨K, D.cl⟩ 3 true false m_law_days_v2) :=
  fun_ok2 (cl := D.cl) (n := 3) (fm := m_law_days_v2) D.F_law_days sc_law_days (by decide) (by rfl) (by unfold m_law_days_v2; rfl) (bd_law_days D)
theorem bd_need_days (D : Dfs K mg) (cdv : Value) (A : Around) (outer : List Env) (s : Shared) (H : Hp) (E : XK) (π : Nat → Option Pin) (hr : Room 2 (A.deeper (envOfC "need_days" (defScope s_need_days) s.heap.objs.size D.f_need_days cdv))) : PSs (cxOf (L2.CX P w) P w K mg base ["days", "period", "known", "at", "one"] "need_days" (defScope s_need_days) D.f_need_days cdv A outer s H E) (defBody s_need_days) (TMs ⟨K, D.cl⟩ π (fun cls d _ H => E cls d H) b_need_days_k52) := by
  have nd := sc_need_days.nd
  have tk : Takes (cxOf (L2.CX P w) P w K mg base ["days", "period", "known", "at", "one"] "need_days" (defScope s_need_days) D.f_need_days cdv A outer s H E) (fun cls d _ H => E cls d H) := takes_of rfl rfl rfl rfl
  have hp : PassesOwn (model P w) (cxOf (L2.CX P w) P w K mg base ["days", "period", "known", "at", "one"] "need_days" (defScope s_need_days) D.f_need_days cdv A outer s H E).A (cxOf (L2.CX P w) P w K mg base ["days", "period", "known", "at", "one"] "need_days" (defScope s_need_days) D.f_need_days cdv A outer s H E).env (cxOf (L2.CX P w) P w K mg base ["days", "period", "known", "at", "one"] "need_days" (defScope s_need_days) D.f_need_days cdv A outer s H E).xe := passes_of rfl
  unfold b_need_days_k52
  exact (dss_cons (ds_if (PW.pt (dw_or (dt_not (dt_val (de_call (ok_is_sequence D) (hr.mono (by decide)) (by rfl) D.g_is_sequence D.F_is_sequence.kp D.b_is_sequence tk (da_cons (de_var (pv 0)) da_nil)))) (dw_or1 (dt_cmp (op_eqD hr.units) os_eq (de_call1 (pe_callB cr_lenA (by rfl) D.z_len (by decide +kernel) (pa_cons (dp_var (pv 0)) pa_nil)) cs_len) (de_int).peek (nomark _))))) (dss_one (ds_raise rfl rfl tk D.er_InvalidDays rfl (ok_InvalidDays_init D) (hr.mono (by decide)) D.b_InvalidDays_init passes_no (by rfl) de_int)) dss_nil)
    (dss_cons (ds_asgN (ps_set (i := 2) nd rfl (by first | exact Or.inl rfl | exact Or.inr rfl) (dn_dnewK pe_dnewK)))
    (dss_cons (ds_for hp rfl (di_enum rfl (by rfl) D.z_enumerate (de_var (pv 0))) (dg_tup rfl rfl (dgs_cons (dg_name (pg_name (i := 3) nd rfl (by first | exact Or.inl rfl | exact Or.inr rfl))) (dgs_cons (dg_name (pg_name (i := 4) nd rfl (by first | exact Or.inl rfl | exact Or.inr rfl))) dgs_nil))) (dss_cons (ds_if (PW.pt (dw_or (dt_not (dt_val (de_call (ok_is_integer D) (hr.mono (by decide)) (by rfl) D.g_is_integer D.F_is_integer.kp D.b_is_integer tk (da_cons (de_var (pv 4)) da_nil)))) (dw_or (dt_not (dt_chain (pt_chain op_le op_lt de_int (de_var (pv 4)) (dp_var (pv 1))) os_le os_lt)) (dw_or1 (dt_din (pc_din (hu_of hr) (de_var (pv 4)) (dp_var (pv 2))) (by rfl)))))) (dss_one (ds_raise rfl rfl tk D.er_InvalidDays rfl (ok_InvalidDays_init D) (hr.mono (by decide)) D.b_InvalidDays_init passes_no (by rfl) (de_var (pv 3)))) dss_nil)
    (dss_one (ds_dput (ps_dput (hu_of hr) (pv 2) (de_var (pv 4)) de_bl rfl)))))
    (dss_one (ds_ret (de_call1 (pe_callTy call_tuple_of (by rfl) D.z_tuple (by decide +kernel) (pa_cons ((dn_call1 (pe_callB cr_sortedI (by rfl) D.z_sorted (by decide +kernel) (pa_cons ((dn_lc (pe_lc (own := [("one", 4)]) rfl nd (di_seq rfl (de_var (pv 0))) (blkOk_by (own := [("one", 4)]) (N := ["days", "period", "known", "at", "one"]) (sc := defScope s_need_days) (by decide +kernel)) (fun _ _ _ _ _ => (dg_name (pg_name (i := 4) nd rfl (by first | exact Or.inl rfl | exact Or.inr rfl)))) (fun _ _ _ _ _ => dts_nil) (fun _ _ _ _ _ => (de_call1 (pe_callTy call_int1 (by rfl) D.z_int (by decide +kernel) (pa_cons (dp_var (pv 4)) pa_nil)) cs_int))) (by decide))).keep.peek pa_nil)) cn_sorted)).keep.peek pa_nil)) cs_tuple))))))
theorem ok_need_days (D : Dfs K mg) : FnOk P w K mg base (L2.CX P w) 3 D.f_need_days D.fd_need_days ["days", "period"] (spM ⟨K, D.cl⟩ 2 false false m_need_days_k52) :=
  fun_ok2 (cl := D.cl) (n := 2) (fm := m_need_days_k52) D.F_need_days sc_need_days (by decide) (by rfl) (by unfold m_need_days_k52; rfl) (bd_need_days D)
theorem bd_ring_gap (D : Dfs K mg) (cdv : Value) (A : Around) (outer : List Env) (s : Shared) (H : Hp) (E : XK) (π : Nat → Option Pin) (hr : Room 3 (A.deeper (envOfC "ring_gap" (defScope s_ring_gap) s.heap.objs.size D.f_ring_gap cdv))) : PSs (cxOf (L2.CX P w) P w K mg base ["days", "period", "misses", "order"] "ring_gap" (defScope s_ring_gap) D.f_ring_gap cdv A outer s H E) (defBody s_ring_gap) (TMs ⟨K, D.cl⟩ π (fun cls d _ H => E cls d H) b_ring_gap_k52) := by
  have nd := sc_ring_gap.nd
  have tk : Takes (cxOf (L2.CX P w) P w K mg base ["days", "period", "misses", "order"] "ring_gap" (defScope s_ring_gap) D.f_ring_gap cdv A outer s H E) (fun cls d _ H => E cls d H) := takes_of rfl rfl rfl rfl
  have hp : PassesOwn (model P w) (cxOf (L2.CX P w) P w K mg base ["days", "period", "misses", "order"] "ring_gap" (defScope s_ring_gap) D.f_ring_gap cdv A outer s H E).A (cxOf (L2.CX P w) P w K mg base ["days", "period", "misses", "order"] "ring_gap" (defScope s_ring_gap) D.f_ring_gap cdv A outer s H E).env (cxOf (L2.CX P w) P w K mg base ["days", "period", "misses", "order"] "ring_gap" (defScope s_ring_gap) D.f_ring_gap cdv A outer s H E).xe := passes_of rfl
  unfold b_ring_gap_k52
  exact (dss_cons (ds_asgV (ps_set (i := 3) nd rfl (by first | exact Or.inl rfl | exact Or.inr rfl) (de_call (ok_need_days D) (hr.mono (by decide)) (by rfl) D.g_need_days D.F_need_days.kp D.b_need_days tk (da_cons (de_var (pv 0)) (da_cons (de_var (pv 1)) da_nil)))))
    (dss_one (ds_ret (de_call (ok_stair D) (hr.mono (by decide)) (by rfl) D.g_stair D.F_stair.kp D.b_stair tk (da_cons (de_call (ok_longest_steps D) (hr.mono (by decide)) (by rfl) D.g_longest_steps D.F_longest_steps.kp D.b_longest_steps tk (da_cons (de_var (pv 3)) (da_cons (de_var (pv 1)) da_nil))) (da_cons (de_var (pv 1)) (da_cons (de_var (pv 2)) da_nil)))))))
theorem ok_ring_gap (D : Dfs K mg) : FnOk P w K mg base (L2.CX P w) 4 D.f_ring_gap D.fd_ring_gap ["days", "period", "misses"] (spM ⟨K, D.cl⟩ 3 false false m_ring_gap_k52) :=
  fun_ok2 (cl := D.cl) (n := 3) (fm := m_ring_gap_k52) D.F_ring_gap sc_ring_gap (by decide) (by rfl) (by unfold m_ring_gap_k52; rfl) (bd_ring_gap D)
theorem bd_is_best (D : Dfs K mg) (cdv : Value) (A : Around) (outer : List Env) (s : Shared) (H : Hp) (E : XK) (π : Nat → Option Pin) (hr : Room 3 (A.deeper (envOfC "is_best" (defScope s_is_best) s.heap.objs.size D.f_is_best cdv))) : PSs (cxOf (L2.CX P w) P w K mg base ["days", "period", "steps", "misses", "gap"] "is_best" (defScope s_is_best) D.f_is_best cdv A outer s H E) (defBody s_is_best) (TMs ⟨K, D.cl⟩ π (fun cls d _ H => E cls d H) b_is_best_k52) := by
  have nd := sc_is_best.nd
  have tk : Takes (cxOf (L2.CX P w) P w K mg base ["days", "period", "steps", "misses", "gap"] "is_best" (defScope s_is_best) D.f_is_best cdv A outer s H E) (fun cls d _ H => E cls d H) := takes_of rfl rfl rfl rfl
  have hp : PassesOwn (model P w) (cxOf (L2.CX P w) P w K mg base ["days", "period", "steps", "misses", "gap"] "is_best" (defScope s_is_best) D.f_is_best cdv A outer s H E).A (cxOf (L2.CX P w) P w K mg base ["days", "period", "steps", "misses", "gap"] "is_best" (defScope s_is_best) D.f_is_best cdv A outer s H E).env (cxOf (L2.CX P w) P w K mg base ["days", "period", "steps", "misses", "gap"] "is_best" (defScope s_is_best) D.f_is_best cdv A outer s H E).xe := passes_of rfl
  unfold b_is_best_k52
  exact (dss_cons (ds_asgV (ps_set (i := 2) nd rfl (by first | exact Or.inl rfl | exact Or.inr rfl) (de_call (ok_longest_steps D) (hr.mono (by decide)) (by rfl) D.g_longest_steps D.F_longest_steps.kp D.b_longest_steps tk (da_cons (de_call (ok_need_days D) (hr.mono (by decide)) (by rfl) D.g_need_days D.F_need_days.kp D.b_need_days tk (da_cons (de_var (pv 0)) (da_cons (de_var (pv 1)) da_nil))) (da_cons (de_var (pv 1)) da_nil)))))
    (dss_one (ds_ret (de_call1 (pe_callB (cr_all rfl) (by rfl) D.z_all (by decide +kernel) (pa_cons ((dn_lc (pe_lc (own := [("misses", 3), ("gap", 4)]) rfl nd (di_enum rfl (by rfl) D.z_enumerate (de_var (pv 2))) (blkOk_by (own := [("misses", 3), ("gap", 4)]) (N := ["days", "period", "steps", "misses", "gap"]) (sc := defScope s_is_best) (by decide +kernel)) (fun _ _ _ _ _ => (dg_tup rfl rfl (dgs_cons (dg_name (pg_name (i := 3) nd rfl (by first | exact Or.inl rfl | exact Or.inr rfl))) (dgs_cons (dg_name (pg_name (i := 4) nd rfl (by first | exact Or.inl rfl | exact Or.inr rfl))) dgs_nil)))) (fun _ _ _ _ _ => dts_nil) (fun _ _ _ _ _ => (de_cmp (op_eqD hr.units) os_eq (de_var (pv 4)) (de_call (ok_least_gap D) (hr.mono (by decide)) (by rfl) D.g_least_gap D.F_least_gap.kp D.b_least_gap takes0 (da_cons (de_var (pv 1)) (da_cons (de_call1 (pe_callB cr_lenA (by rfl) D.z_len (by decide +kernel) (pa_cons (dp_var (pv 2)) pa_nil)) cs_len) (da_cons (de_var (pv 3)) da_nil)))).peek (nomark _)))) (by decide))).keep.peek pa_nil)) cs_all))))
theorem ok_is_best (D : Dfs K mg) : FnOk P w K mg base (L2.CX P w) 4 D.f_is_best D.fd_is_best ["days", "period"] (spM ⟨K, D.cl⟩ 2 false false m_is_best_k52) :=
  fun_ok2 (cl := D.cl) (n := 2) (fm := m_is_best_k52) D.F_is_best sc_is_best (by decide) (by rfl) (by unfold m_is_best_k52; rfl) (bd_is_best D)
theorem bd_no_longer (D : Dfs K mg) (cdv : Value) (A : Around) (outer : List Env) (s : Shared) (H : Hp) (E : XK) (π : Nat → Option Pin) (hr : Room 3 (A.deeper (envOfC "no_longer" (defScope s_no_longer) s.heap.objs.size D.f_no_longer cdv))) : PSs (cxOf (L2.CX P w) P w K mg base ["days", "others", "period", "steps"] "no_longer" (defScope s_no_longer) D.f_no_longer cdv A outer s H E) (defBody s_no_longer) (TMs ⟨K, D.cl⟩ π (fun cls d _ H => E cls d H) b_no_longer_k52) := by
  have nd := sc_no_longer.nd
  have tk : Takes (cxOf (L2.CX P w) P w K mg base ["days", "others", "period", "steps"] "no_longer" (defScope s_no_longer) D.f_no_longer cdv A outer s H E) (fun cls d _ H => E cls d H) := takes_of rfl rfl rfl rfl
  have hp : PassesOwn (model P w) (cxOf (L2.CX P w) P w K mg base ["days", "others", "period", "steps"] "no_longer" (defScope s_no_longer) D.f_no_longer cdv A outer s H E).A (cxOf (L2.CX P w) P w K mg base ["days", "others", "period", "steps"] "no_longer" (defScope s_no_longer) D.f_no_longer cdv A outer s H E).env (cxOf (L2.CX P w) P w K mg base ["days", "others", "period", "steps"] "no_longer" (defScope s_no_longer) D.f_no_longer cdv A outer s H E).xe := passes_of rfl
  unfold b_no_longer_k52
  exact (dss_cons (ds_asgV (ps_set (i := 3) nd rfl (by first | exact Or.inl rfl | exact Or.inr rfl) (de_call (ok_longest_steps D) (hr.mono (by decide)) (by rfl) D.g_longest_steps D.F_longest_steps.kp D.b_longest_steps tk (da_cons (de_call (ok_need_days D) (hr.mono (by decide)) (by rfl) D.g_need_days D.F_need_days.kp D.b_need_days tk (da_cons (de_var (pv 0)) (da_cons (de_var (pv 2)) da_nil))) (da_cons (de_var (pv 2)) da_nil)))))
    (dss_one (ds_ret (de_call (ok_is_never_longer D) (hr.mono (by decide)) (by rfl) D.g_is_never_longer D.F_is_never_longer.kp D.b_is_never_longer tk (da_cons (de_var (pv 3)) (da_cons (de_var (pv 2)) (da_cons (de_call (ok_longest_steps D) (hr.mono (by decide)) (by rfl) D.g_longest_steps D.F_longest_steps.kp D.b_longest_steps tk (da_cons (de_call (ok_need_days D) (hr.mono (by decide)) (by rfl) D.g_need_days D.F_need_days.kp D.b_need_days tk (da_cons (de_var (pv 1)) (da_cons (de_var (pv 2)) da_nil))) (da_cons (de_var (pv 2)) da_nil))) (da_cons (de_var (pv 2)) da_nil))))))))
theorem ok_no_longer (D : Dfs K mg) : FnOk P w K mg base (L2.CX P w) 4 D.f_no_longer D.fd_no_longer ["days", "others", "period"] (spM ⟨K, D.cl⟩ 3 false false m_no_longer_k52) :=
  fun_ok2 (cl := D.cl) (n := 3) (fm := m_no_longer_k52) D.F_no_longer sc_no_longer (by decide) (by rfl) (by unfold m_no_longer_k52; rfl) (bd_no_longer D)
theorem bd_law_all_heard (D : Dfs K mg) (cdv : Value) (A : Around) (outer : List Env) (s : Shared) (H : Hp) (E : XK) (ct Pt : Addr) (TB : LamX.TabB base mg ct Pt) (hcode : cdv = .ref ct) (hr : Room 6 (A.deeper (envOfC "_law_all_heard" (defScope s_law_all_heard) s.heap.objs.size D.f_law_all_heard cdv))) : PSs (cxOf (L2.CX P w) P w K mg base ["_law_days_here", "_law_period", "_law_good", "_law_found", "0tab"] "_law_all_heard" (defScope s_law_all_heard) D.f_law_all_heard cdv A outer s H E) (defBody s_law_all_heard) (TMs ⟨K, D.cl⟩ (piT 4 Pt) (fun cls d _ H => E cls d H) b_law_all_heard) := by
  have nd := sc_law_all_heard.nd
  have tk : Takes (cxOf (L2.CX P w) P w K mg base ["_law_days_here", "_law_period", "_law_good", "_law_found", "0tab"] "_law_all_heard" (defScope s_law_all_heard) D.f_law_all_heard cdv A outer s H E) (fun cls d _ H => E cls d H) := takes_of rfl rfl rfl rfl
  have hp : PassesOwn (model P w) (cxOf (L2.CX P w) P w K mg base ["_law_days_here", "_law_period", "_law_good", "_law_found", "0tab"] "_law_all_heard" (defScope s_law_all_heard) D.f_law_all_heard cdv A outer s H E).A (cxOf (L2.CX P w) P w K mg base ["_law_days_here", "_law_period", "_law_good", "_law_found", "0tab"] "_law_all_heard" (defScope s_law_all_heard) D.f_law_all_heard cdv A outer s H E).env (cxOf (L2.CX P w) P w K mg base ["_law_days_here", "_law_period", "_law_good", "_law_found", "0tab"] "_law_all_heard" (defScope s_law_all_heard) D.f_law_all_heard cdv A outer s H E).xe := passes_of rfl
  unfold b_law_all_heard
  exact (dss_cons (ds_asgN (ps_set (i := 3) nd rfl (by first | exact Or.inl rfl | exact Or.inr rfl) (dn_lst (da_cons (de_lamcall (kk := 4) (is := [0, 1]) (k := 4) (π0 := pi0 none) (by rfl) D.g_law_heard D.F_law_heard.kp D.F_law_heard D.b_law_heard sc_law_heard rfl (by first | exact Or.inl rfl | exact Or.inr (Or.inl rfl)) (fun cdv s H E L0 o hr act => bd_law_heard D cdv _ _ s H E L0 o hr act) hfm_law_heard TB hcode (if_pos rfl) (hr.mono (by decide)) (LamX.lamS_by (by show LamX.lamSB (defScope s_law_all_heard) _ = true; decide +kernel)) (by rfl) (fun _ _ _ _ _ => rfl) (fun A outer s H E f c hr => (de_call (ok_ring_gap D) (hr.mono (by decide)) (by rfl) D.g_ring_gap D.F_ring_gap.kp D.b_ring_gap tk_lam (da_cons (de_var (pv 0)) (da_cons (de_var (pv 1)) (da_cons de_int da_nil))))) tk) da_nil))))
    (dss_cons (ds_expr (de_append rfl (pe_bm PySem.F.plainAttrs_list PySem.F.slot_list_append PySem.F.type_list_append mt_append (pv 3) (pa_cons (de_lamcall (kk := 4) (is := [0, 1]) (k := 4) (π0 := pi0 none) (by rfl) D.g_law_heard D.F_law_heard.kp D.F_law_heard D.b_law_heard sc_law_heard rfl (by first | exact Or.inl rfl | exact Or.inr (Or.inl rfl)) (fun cdv s H E L0 o hr act => bd_law_heard D cdv _ _ s H E L0 o hr act) hfm_law_heard TB hcode (if_pos rfl) (hr.mono (by decide)) (LamX.lamS_by (by show LamX.lamSB (defScope s_law_all_heard) _ = true; decide +kernel)) (by rfl) (fun _ _ _ _ _ => rfl) (fun A outer s H E f c hr => (de_call (ok_is_best D) (hr.mono (by decide)) (by rfl) D.g_is_best D.F_is_best.kp D.b_is_best tk_lam (da_cons (de_var (pv 0)) (da_cons (de_var (pv 1)) da_nil)))) tk) pa_nil))))
    (dss_cons (ds_expr (de_append rfl (pe_bm PySem.F.plainAttrs_list PySem.F.slot_list_append PySem.F.type_list_append mt_append (pv 3) (pa_cons (de_lamcall (kk := 4) (is := [0, 1, 2]) (k := 4) (π0 := pi0 none) (by rfl) D.g_law_heard D.F_law_heard.kp D.F_law_heard D.b_law_heard sc_law_heard rfl (by first | exact Or.inl rfl | exact Or.inr (Or.inl rfl)) (fun cdv s H E L0 o hr act => bd_law_heard D cdv _ _ s H E L0 o hr act) hfm_law_heard TB hcode (if_pos rfl) (hr.mono (by decide)) (LamX.lamS_by (by show LamX.lamSB (defScope s_law_all_heard) _ = true; decide +kernel)) (by rfl) (fun _ _ _ _ _ => rfl) (fun A outer s H E f c hr => (de_call (ok_no_longer D) (hr.mono (by decide)) (by rfl) D.g_no_longer D.F_no_longer.kp D.b_no_longer tk_lam (da_cons (de_var (pv 0)) (da_cons (de_var (pv 2)) (da_cons (de_var (pv 1)) da_nil))))) tk) pa_nil))))
    (dss_cons (ds_expr (de_append rfl (pe_bm PySem.F.plainAttrs_list PySem.F.slot_list_append PySem.F.type_list_append mt_append (pv 3) (pa_cons (de_lamcall (kk := 4) (is := [0, 1, 2]) (k := 4) (π0 := pi0 none) (by rfl) D.g_law_heard D.F_law_heard.kp D.F_law_heard D.b_law_heard sc_law_heard rfl (by first | exact Or.inl rfl | exact Or.inr (Or.inl rfl)) (fun cdv s H E L0 o hr act => bd_law_heard D cdv _ _ s H E L0 o hr act) hfm_law_heard TB hcode (if_pos rfl) (hr.mono (by decide)) (LamX.lamS_by (by show LamX.lamSB (defScope s_law_all_heard) _ = true; decide +kernel)) (by rfl) (fun _ _ _ _ _ => rfl) (fun A outer s H E f c hr => (de_call (ok_no_longer D) (hr.mono (by decide)) (by rfl) D.g_no_longer D.F_no_longer.kp D.b_no_longer tk_lam (da_cons (de_var (pv 2)) (da_cons (de_var (pv 0)) (da_cons (de_var (pv 1)) da_nil))))) tk) pa_nil))))
    (dss_one (ds_ret (de_var (pv 3))))))))
theorem ok_law_all_heard (D : Dfs K mg) (ct Pt : Addr) (TB : LamX.TabB base mg ct Pt) (hcode : D.fd_law_all_heard.code = .ref ct) : FnOk P w K mg base (L2.CX P w) 7 D.f_law_all_heard D.fd_law_all_heard ["_law_days_here", "_law_period", "_law_good"] (spMT ⟨K, D.cl⟩ Pt q_law_all_heard 3 m_law_all_heard) :=
  fun_okU (cl := D.cl) (kk := 4) (q_ := q_law_all_heard) (y := "0tab") D.F_law_all_heard sc_law_all_heard (by decide) rfl (by decide) rfl (by rintro (h | h | h) <;> exact absurd h (by decide +kernel)) (by unfold m_law_all_heard; rfl) (fun A outer s H E hr => bd_law_all_heard D D.fd_law_all_heard.code A outer s H E ct Pt TB hcode hr)
theorem bd_law (D : Dfs K mg) (cdv : Value) (A : Around) (outer : List Env) (s : Shared) (H : Hp) (E : XK) (ct Pt : Addr) (TB : LamX.TabB base mg ct Pt) (hcode : cdv = .ref ct) (ct2 Pt2 : Addr) (TB2 : LamX.TabB base mg ct2 Pt2) (hcode2 : D.fd_law_all_heard.code = .ref ct2) (hr : Room 7 (A.deeper (envOfC "law" (defScope s_law) s.heap.objs.size D.f_law cdv))) : PSs (cxOf (L2.CX P w) P w K mg base ["_law_script", "_law_odd", "_law_k", "_law_box_here", "_law_period", "_law_good", "_law_value", "_law_turn", "_law_at", "_law_bad", "_law_bent", "0tab", "0tb2"] "law" (defScope s_law) D.f_law cdv A outer s H E) (defBody s_law) (TMs ⟨K, D.cl⟩ (piT2 11 12 Pt Pt2) (fun cls d _ H => E cls d H) b_law) := by
  have nd := sc_law.nd
  have tk : Takes (cxOf (L2.CX P w) P w K mg base ["_law_script", "_law_odd", "_law_k", "_law_box_here", "_law_period", "_law_good", "_law_value", "_law_turn", "_law_at", "_law_bad", "_law_bent", "0tab", "0tb2"] "law" (defScope s_law) D.f_law cdv A outer s H E) (fun cls d _ H => E cls d H) := takes_of rfl rfl rfl rfl
  have hp : PassesOwn (model P w) (cxOf (L2.CX P w) P w K mg base ["_law_script", "_law_odd", "_law_k", "_law_box_here", "_law_period", "_law_good", "_law_value", "_law_turn", "_law_at", "_law_bad", "_law_bent", "0tab", "0tb2"] "law" (defScope s_law) D.f_law cdv A outer s H E).A (cxOf (L2.CX P w) P w K mg base ["_law_script", "_law_odd", "_law_k", "_law_box_here", "_law_period", "_law_good", "_law_value", "_law_turn", "_law_at", "_law_bad", "_law_bent", "0tab", "0tb2"] "law" (defScope s_law) D.f_law cdv A outer s H E).env (cxOf (L2.CX P w) P w K mg base ["_law_script", "_law_odd", "_law_k", "_law_box_here", "_law_period", "_law_good", "_law_value", "_law_turn", "_law_at", "_law_bad", "_law_bent", "0tab", "0tb2"] "law" (defScope s_law) D.f_law cdv A outer s H E).xe := passes_of rfl
  unfold b_law st_law_0 st_law_1 st_law_2 lp_law_2 lp_law_1 lp_law_0
  exact (dss_cons (ds_asgV (ps_set (i := 1) nd rfl (by first | exact Or.inl rfl | exact Or.inr rfl) ((dn_lst (da_cons de_non (da_cons de_bl (da_cons de_bl (da_cons de_str (da_cons de_str (da_cons (de_tup (da_cons de_int da_nil)) (da_cons ((dn_lst (da_cons de_int da_nil))).keep (da_cons (de_bin op_sub os_sub de_int (de_int).peek) (da_cons (de_bin op_sub os_sub de_int (de_int).peek) (da_cons (de_bin op_pow os_pow de_int (de_int).peek) (da_cons ((dn_lst da_nil)).keep (da_cons ((dn_lst (da_cons ((dn_lst (da_cons ((dn_lst (da_cons ((dn_lst (da_cons ((dn_lst (da_cons ((dn_lst (da_cons ((dn_lst (da_cons de_int da_nil))).keep da_nil))).keep da_nil))).keep da_nil))).keep da_nil))).keep da_nil))).keep da_nil))).keep da_nil)))))))))))))).keep))
    (dss_cons (ds_for hp rfl (di_rng1 (by rfl) D.z_range (da_cons (de_mm2 (pe_callB (call_max2 rfl) (by rfl) D.z_max (by decide +kernel) (pa_cons de_int (pa_cons (de_mm2 (pe_callB (call_min2 rfl) (by rfl) D.z_min (by decide +kernel) (pa_cons de_int (pa_cons (de_call1 (pe_callB cr_lenA (by rfl) D.z_len (by decide +kernel) (pa_cons (dp_var (pv 0)) pa_nil)) cs_len) pa_nil)))) pa_nil)))) da_nil)) (dg_name (pg_name (i := 2) nd rfl (by first | exact Or.inl rfl | exact Or.inr rfl))) (dss_cons (ds_asgN (ps_set (i := 3) nd rfl (by first | exact Or.inl rfl | exact Or.inr rfl) (dn_call (ok_law_box D) (hr.mono (by decide)) (by rfl) D.g_law_box D.F_law_box.kp D.b_law_box tk (da_cons (de_var (pv 0)) (da_cons (de_var (pv 2)) (da_cons de_int da_nil))))))
    (dss_cons (ds_asgV (ps_set (i := 4) nd rfl (by first | exact Or.inl rfl | exact Or.inr rfl) (de_bin op_addA os_add de_int (de_callIo (ok_law_take D) (hr.mono (by decide)) (by rfl) D.g_law_take D.F_law_take.kp D.b_law_take tk (pv 3) (da_cons de_int da_nil)).peek)))
    (dss_cons (ds_asgV (ps_set (i := 5) nd rfl (by first | exact Or.inl rfl | exact Or.inr rfl) (de_callIo (ok_law_days D) (hr.mono (by decide)) (by rfl) D.g_law_days D.F_law_days.kp D.b_law_days tk (pv 3) (da_cons (de_var (pv 4)) (da_cons de_int da_nil)))))
    (dss_cons (ds_for hp rfl (di_seq rfl (de_tup (da_cons de_non (da_cons de_int (da_cons de_bl (da_cons de_str (da_cons de_str (da_cons ((dn_lst da_nil)).keep (da_cons (de_tup da_nil) (da_cons (de_bin op_pow os_pow de_int (de_int).peek) (da_cons ((dn_lst (da_cons ((dn_lst (da_cons ((dn_lst (da_cons ((dn_lst (da_cons ((dn_lst (da_cons ((dn_lst (da_cons ((dn_lst (da_cons ((dn_lst (da_cons de_int da_nil))).keep da_nil))).keep da_nil))).keep da_nil))).keep da_nil))).keep da_nil))).keep da_nil))).keep da_nil))).keep da_nil))))))))))) (dg_name (pg_name (i := 6) nd rfl (by first | exact Or.inl rfl | exact Or.inr rfl))) (dss_one (ds_if (dt_cmp (op_neD hr.units) os_ne (de_callT (i := 12) (ok_law_all_heard D ct2 Pt2 TB2 hcode2) (hr.mono (by decide)) (by rfl) D.g_law_all_heard D.F_law_all_heard.kp D.b_law_all_heard tk rfl (da_cons (de_var (pv 6)) (da_cons (de_var (pv 4)) (da_cons (de_var (pv 5)) da_nil)))) ((dn_rep ((dn_lst (da_cons de_int da_nil))).keep (de_int).peek)).keep.peek (nomark _)) (dss_one (ds_ret de_bl)) dss_nil)))
    (dss_one (ds_for hp rfl (di_rng1 (by rfl) D.z_range (da_cons de_int da_nil)) (dg_name (pg_name (i := 7) nd rfl (by first | exact Or.inl rfl | exact Or.inr rfl))) (dss_cons (ds_asgV (ps_set (i := 8) nd rfl (by first | exact Or.inl rfl | exact Or.inr rfl) (de_callIo (ok_law_take D) (hr.mono (by decide)) (by rfl) D.g_law_take D.F_law_take.kp D.b_law_take tk (pv 3) (da_cons (de_bin op_addA os_add (de_call1 (pe_callB cr_lenA (by rfl) D.z_len (by decide +kernel) (pa_cons (dp_var (pv 5)) pa_nil)) cs_len) (de_int).peek) da_nil))))
    (dss_cons (ds_asgV (ps_set (i := 9) nd rfl (by first | exact Or.inl rfl | exact Or.inr rfl) (de_callIo (ok_law_pick D) (hr.mono (by decide)) (by rfl) D.g_law_pick D.F_law_pick.kp D.b_law_pick tk (pv 3) (da_cons (de_bin op_addA os_add (de_bin op_addA os_add (de_var (pv 1)) ((dn_lst (da_cons (de_var (pv 4)) (da_cons (de_bin op_addA os_add (de_var (pv 4)) (de_int).peek) da_nil)))).keep.peek) (de_slV rfl (pe_slice sl_all (pv 5) do_none (do_some (de_var (pv 8))))).peek) da_nil))))
    (dss_cons (ds_asgV (ps_set (i := 10) nd rfl (by first | exact Or.inl rfl | exact Or.inr rfl) (de_bin op_addA os_add (de_bin op_addA os_add (de_bin op_addA os_add (de_slV rfl (pe_slice sl_all (pv 5) do_none (do_some (de_var (pv 8))))) ((dn_lst (da_cons (de_var (pv 9)) da_nil))).keep.peek) (de_slV rfl (pe_slice sl_all (pv 5) (do_some (de_var (pv 8))) do_none)).peek) ((dn_lst (da_cons de_str da_nil))).keep.peek)))
    (dss_cons (ds_if (PW.pt (dw_or (dt_cmp (op_neD hr.units) os_ne (de_callT (i := 12) (ok_law_all_heard D ct2 Pt2 TB2 hcode2) (hr.mono (by decide)) (by rfl) D.g_law_all_heard D.F_law_all_heard.kp D.b_law_all_heard tk rfl (da_cons (de_var (pv 10)) (da_cons (de_var (pv 4)) (da_cons (de_var (pv 5)) da_nil)))) ((dn_rep ((dn_lst (da_cons (de_var (pv 8)) da_nil))).keep (de_int).peek)).keep.peek (nomark _)) (dw_or1 (dt_cmp (op_neD hr.units) os_ne (de_callT (i := 12) (ok_law_all_heard D ct2 Pt2 TB2 hcode2) (hr.mono (by decide)) (by rfl) D.g_law_all_heard D.F_law_all_heard.kp D.b_law_all_heard tk rfl (da_cons (de_call1 (pe_callTy call_tuple_of (by rfl) D.z_tuple (by decide +kernel) (pa_cons (dp_var (pv 10)) pa_nil)) cs_tuple) (da_cons (de_var (pv 4)) (da_cons (de_var (pv 5)) da_nil)))) ((dn_rep ((dn_lst (da_cons (de_var (pv 8)) da_nil))).keep (de_int).peek)).keep.peek (nomark _))))) (dss_one (ds_ret de_bl)) dss_nil)
    (dss_cons (ds_if (dt_cmp (op_neD hr.units) os_ne (de_lamcall (kk := 11) (is := [4, 10]) (k := 5) (π0 := pi0 none) (by rfl) D.g_law_heard D.F_law_heard.kp D.F_law_heard D.b_law_heard sc_law_heard rfl (by first | exact Or.inl rfl | exact Or.inr (Or.inl rfl)) (fun cdv s H E L0 o hr act => bd_law_heard D cdv _ _ s H E L0 o hr act) hfm_law_heard TB hcode (if_pos rfl) (hr.mono (by decide)) (LamX.lamS_by (by show LamX.lamSB (defScope s_law) _ = true; decide +kernel)) (by rfl) (fun _ _ _ _ _ => rfl) (fun A outer s H E f c hr => (de_call (ok_no_longer D) (hr.mono (by decide)) (by rfl) D.g_no_longer D.F_no_longer.kp D.b_no_longer tk_lam (da_cons (de_var (pv 10)) (da_cons ((dn_lst da_nil)).keep (da_cons (de_var (pv 4)) da_nil))))) tk) (dp_var (pv 8)) (nomark _)) (dss_one (ds_ret de_bl)) dss_nil)
    (dss_one (ds_if (dt_cmp (op_neD hr.units) os_ne (de_callT (i := 12) (ok_law_all_heard D ct2 Pt2 TB2 hcode2) (hr.mono (by decide)) (by rfl) D.g_law_all_heard D.F_law_all_heard.kp D.b_law_all_heard tk rfl (da_cons (de_var (pv 5)) (da_cons (de_var (pv 4)) (da_cons (de_var (pv 5)) da_nil)))) ((dn_rep ((dn_lst (da_cons de_str da_nil))).keep (de_int).peek)).keep.peek (nomark _)) (dss_one (ds_ret de_bl)) dss_nil))))))))))))))
    (dss_one (ds_ret de_bl))))
theorem ok_law (D : Dfs K mg) (ct Pt : Addr) (TB : LamX.TabB base mg ct Pt) (hcode : D.fd_law.code = .ref ct) (ct2 Pt2 : Addr) (TB2 : LamX.TabB base mg ct2 Pt2) (hcode2 : D.fd_law_all_heard.code = .ref ct2) (hPP : Pt ≠ Pt2) : FnOk P w K mg base (L2.CX P w) 8 D.f_law D.fd_law ["_law_script"] (spT2 ⟨K, D.cl⟩ Pt Pt2 m_law) :=
  fun_okT2 (cl := D.cl) (k1 := 11) (k2 := 12) (q1 := q_law) (q2 := q_law_all_heard) (y1 := "0tab") (y2 := "0tb2") D.F_law sc_law (by decide) rfl (by decide) hPP rfl (by rintro (h | h | h) <;> exact absurd h (by decide +kernel)) rfl (by rintro (h | h | h) <;> exact absurd h (by decide +kernel)) (by unfold m_law; rfl) (fun A outer s H E hr => bd_law D D.fd_law.code A outer s H E ct Pt TB hcode ct2 Pt2 TB2 hcode2 hr)
end
end Dl
namespace Dl
open PySem PySem.Spec PyProof.Rows L2
/-! ### steps of a mirror -/
abbrev vl (d : Dt) : Option Sl := some (.val d)
abbrev ow (d : Dt) : Option Sl := some (.own false d)
abbrev io (d : Dt) : Option Sl := some (.own true d)
abbrev nD (n : Nat) : Dt := .int (n : Int)
section
variable {α β : Type} {ρ ρ' ρ1 ρ2 ρ3 : En} {s t : En → So} {o : So} {m ma mb : Mi Dt} {ms : Mi (List Dt)} {d d1 d2 x y z : Dt} {ds es : List Dt} {i j n k : Nat} {f : List Dt → Fo} {c c' : Mi Bool} {b : Bool} {Q : So → Prop}
theorem seq_nx (h : s ρ = .nx ρ') (k : t ρ' = o) : sSeq s t ρ = o := by unfold sSeq; rw [h]; exact k
theorem seq_rt (h : s ρ = .rt d ρ') : sSeq s t ρ = .rt d ρ' := by unfold sSeq; rw [h]
theorem seq_exc {e : Ex} (h : s ρ = .exc e ρ') : sSeq s t ρ = .exc e ρ' := by unfold sSeq; rw [h]
theorem set_ok (h : m ρ = .ok d ρ1) (k : setSl i (.val d) ρ1 = some ρ2) : sSet i m ρ = .nx ρ2 := by unfold sSet sBind; rw [h]; dsimp only; unfold sPut; rw [k]
theorem setN_ok (h : m ρ = .ok d ρ1) (k : setSl i (.own false d) ρ1 = some ρ2) : sSetN i m ρ = .nx ρ2 := by unfold sSetN sBind; rw [h]; dsimp only; unfold sPut; rw [k]
theorem ret_ok (h : m ρ = .ok d ρ1) : sRet m ρ = .rt d ρ1 := by unfold sRet sBind; rw [h]
theorem retN_ok (h : m ρ = .ok d ρ1) : sRetN m ρ = .rtN d ρ1 := by unfold sRetN sBind; rw [h]
theorem drop_ok (h : m ρ = .ok d ρ1) : sDrop m ρ = .nx ρ1 := by unfold sDrop sBind; rw [h]
theorem if_t (h : c ρ = .ok true ρ1) (k : s ρ1 = o) : sIf c s t ρ = o := by unfold sIf sBind; rw [h]; exact k
theorem if_f (h : c ρ = .ok false ρ1) (k : t ρ1 = o) : sIf c s t ρ = o := by unfold sIf sBind; rw [h]; exact k
theorem pars_ok {is : List Nat} {ks : List Bool} (h : ms ρ = .ok ds ρ1) (k : putSls is ks ds ρ1 = some ρ2) : sPars is ks ms ρ = .nx ρ2 := by unfold sPars sBind; rw [h]; dsimp only; rw [k]
theorem for_ok {mi : Mi (List Dt)} {g : Dt → En → Option En} {bd : En → So} (h : mi ρ = .ok ds ρ1) (k : forGo g bd ds ρ1 = o) : sFor mi g bd ρ = o := by unfold sFor sBind; rw [h]; exact k
theorem bind_ok {a : α} {mm : Mi α} {k : α → Mi β} {r : Ou β} (h : mm ρ = .ok a ρ1) (q : k a ρ1 = r) : mBind mm k ρ = r := by unfold mBind; rw [h]; exact q
theorem m2_ok {f : Dt → Dt → Option Dt} (ha : ma ρ = .ok x ρ1) (hb : mb ρ1 = .ok y ρ2) (hf : f x y = some z) : m2 f ma mb ρ = .ok z ρ2 := by unfold m2 mBind; rw [ha]; dsimp only; rw [hb]; dsimp only; rw [hf]; rfl
theorem m1_ok {f : Dt → Option Dt} (ha : ma ρ = .ok x ρ1) (hf : f x = some z) : m1 f ma ρ = .ok z ρ1 := by unfold m1 mBind; rw [ha]; dsimp only; rw [hf]; rfl
theorem m1N_ok {f : Dt → Option (List Dt)} (ha : ma ρ = .ok x ρ1) (hf : f x = some es) : m1N f ma ρ = .ok (.lst es) ρ1 := by unfold m1N mBind; rw [ha]; dsimp only; rw [hf]; rfl
theorem cons_ok (h : m ρ = .ok d ρ1) (k : ms ρ1 = .ok ds ρ2) : mCons m ms ρ = .ok (d :: ds) ρ2 := by unfold mCons mBind; rw [h]; dsimp only; rw [k]; rfl
theorem tup_ok (h : ms ρ = .ok ds ρ1) (hl : ds.length ≤ sizeLine) : mTup ms ρ = .ok (.tup ds) ρ1 := by unfold mTup mBind; rw [h]; dsimp only; rw [if_pos hl]; rfl
theorem lst_ok (h : ms ρ = .ok ds ρ1) (hl : ds.length ≤ sizeLine) : mLst ms ρ = .ok (.lst ds) ρ1 := by unfold mLst mBind; rw [h]; dsimp only; rw [if_pos hl]; rfl
theorem tb_ok (h : m ρ = .ok (.bl b) ρ1) : mB m ρ = .ok b ρ1 := by unfold mB mBind; rw [h]; rfl
theorem not_ok (h : c ρ = .ok b ρ1) : mNot c ρ = .ok (!b) ρ1 := by unfold mNot mBind; rw [h]; rfl
theorem and_t (h : c ρ = .ok true ρ1) (k : c' ρ1 = .ok b ρ2) : mAnd c c' ρ = .ok b ρ2 := by unfold mAnd mBind; rw [h]; exact k
theorem and_f (h : c ρ = .ok false ρ1) : mAnd c c' ρ = .ok false ρ1 := by unfold mAnd mBind; rw [h]; rfl
theorem or_t (h : c ρ = .ok true ρ1) : mOr c c' ρ = .ok true ρ1 := by unfold mOr mBind; rw [h]; rfl
theorem or_f (h : c ρ = .ok false ρ1) (k : c' ρ1 = .ok b ρ2) : mOr c c' ρ = .ok b ρ2 := by unfold mOr mBind; rw [h]; exact k
theorem ife_t (h : c ρ = .ok true ρ1) (k : ma ρ1 = .ok d ρ2) : mIfE c ma mb ρ = .ok d ρ2 := by unfold mIfE mBind; rw [h]; exact k
theorem ife_f (h : c ρ = .ok false ρ1) (k : mb ρ1 = .ok d ρ2) : mIfE c ma mb ρ = .ok d ρ2 := by unfold mIfE mBind; rw [h]; exact k
theorem call_ok {r : Dt} (h : ms ρ = .ok ds ρ1) (hn : ds.length = n) (hf : f ds = .ret d r) : mCall n f ms ρ = .ok d ρ1 := by unfold mCall mBind; rw [h]; dsimp only; rw [if_pos hn, hf]
theorem callIo_ok {io0 io : Bool} {d0 d1 r : Dt} (h0 : ρ[i]? = some (some (.own io0 d0))) (h : ms ρ = .ok ds ρ1) (h1 : ρ1[i]? = some (some (.own io d1))) (hn : ds.length + 1 = n) (hf : f (d1 :: ds) = .ret d r) (hr : ρ1.set i (some (.own io r)) = ρ2) : mCallIo n f i ms ρ = .ok d ρ2 := by
  subst hr
  unfold mCallIo mBind
  rw [h0]; dsimp only; rw [h]; dsimp only; rw [h1]; dsimp only; rw [if_pos hn, hf]
theorem mut_ok {io0 : Bool} {r : Dt} {f : List Dt → Option (Dt × List Dt)} (h : ρ[i]? = some (some (.own io0 (.lst ds)))) (hf : f ds = some (r, es)) (hr : ρ.set i (some (.own io0 (.lst es))) = ρ1) : mMut i f ρ = .ok r ρ1 := by subst hr; unfold mMut; rw [h]; dsimp only; rw [hf]
theorem append_ok {io0 : Bool} (h : ρ[i]? = some (some (.own io0 (.lst es)))) (hm : m ρ = .ok d ρ1) (h1 : ρ1[i]? = some (some (.own io0 (.lst ds)))) (hl : ds.length < 1000000) (hr : ρ1.set i (some (.own io0 (.lst (ds ++ [d])))) = ρ2) : ownLst i (mAppend i m) ρ = .ok .non ρ2 := by
  unfold ownLst; rw [h]; dsimp only
  refine bind_ok hm (mut_ok h1 ?_ hr)
  rw [if_pos (Nat.lt_of_lt_of_le hl (by decide))]
theorem extend_ok {io0 : Bool} {zs : List Dt} (h : ρ[i]? = some (some (.own io0 (.lst es)))) (hm : m ρ = .ok (.lst zs) ρ1) (h1 : ρ1[i]? = some (some (.own io0 (.lst ds)))) (hl : ds.length + zs.length < 1000000) (hr : ρ1.set i (some (.own io0 (.lst (ds ++ zs)))) = ρ2) : ownLst i (mExtend i m) ρ = .ok .non ρ2 := by
  unfold ownLst; rw [h]; dsimp only
  refine bind_ok hm (mut_ok h1 ?_ hr)
  dsimp only
  rw [if_pos (Nat.le_trans (Nat.le_of_lt hl) (by decide))]
theorem runF_rt {io0 : Bool} {bd : En → So} {r : Dt} (h : bd (argE io0 ds ++ List.replicate (k - ds.length) none) = .rt d ρ) (ho : ioOut io0 ρ = some r) : runF k io0 false bd ds = .ret d r := by unfold runF; rw [h]; dsimp only; rw [ho]
theorem runF_rtN {io0 : Bool} {bd : En → So} {r : Dt} (h : bd (argE io0 ds ++ List.replicate (k - ds.length) none) = .rtN d ρ) (ho : ioOut io0 ρ = some r) : runF k io0 true bd ds = .ret d r := by unfold runF; rw [h]; dsimp only; rw [ho]
theorem rng1_ok {N : Int} (h : ms ρ = .ok [.int N] ρ1) (l0 : -(2 ^ 62) ≤ N) (l1 : N < 2 ^ 62) : mRng1 ms ρ = .ok (rngD 0 N.toNat) ρ1 := by
  unfold mRng1 mBind
  rw [h]
  simp only
  rw [if_pos ⟨l0, l1⟩]
  rfl
theorem rngD_map : ∀ (lo : Int) (n : Nat), rngD lo n = (List.range n).map fun (i : Nat) => Dt.int (lo + (i : Int))
  | lo, 0 => rfl
  | lo, n + 1 => by
    rw [List.range_succ_eq_map, List.map_cons, List.map_map]
    show Dt.int lo :: rngD (lo + 1) n = _
    rw [rngD_map (lo + 1) n]
    congr 1
    · simp
    · apply List.map_congr_left
      intro i _
      show Dt.int (lo + 1 + (i : Int)) = Dt.int (lo + ((i + 1 : Nat) : Int))
      congr 1
      omega
theorem rngD0 (n : Nat) : rngD 0 n = (List.range n).map nD := by
  rw [rngD_map]; apply List.map_congr_left; intro i _; simp
theorem rngN_ok {N : Nat} (h : ms ρ = .ok [nD N] ρ1) (l : N < 1000000) : mRng1 ms ρ = .ok ((List.range N).map nD) ρ1 := by
  rw [rng1_ok h (by omega) (by omega)]; rw [show ((N : Int)).toNat = N by omega, rngD0]
end
/-! ### loops -/
section
variable {α σ : Type} {g : Dt → En → Option En} {bd : En → So}
/-- a loop that runs through, by what holds between two turns -/
theorem forGo_inv (f : α → Dt) (I : List α → En → Prop) : ∀ (xs pre : List α) (ρ : En), I pre ρ → (∀ (p : List α) (x : α) (q : List α) (ρ : En), pre ++ xs = p ++ x :: q → I p ρ → ∃ ρ1, g (f x) ρ = some ρ1 ∧ ∃ ρ2, (bd ρ1 = .nx ρ2 ∨ bd ρ1 = .ct ρ2) ∧ I (p ++ [x]) ρ2) →
    ∃ ρ', forGo g bd (xs.map f) ρ = .nx ρ' ∧ I (pre ++ xs) ρ'
  | [], pre, ρ, h0, _ => ⟨ρ, rfl, by rw [List.append_nil]; exact h0⟩
  | x :: xs, pre, ρ, h0, h => by
    obtain ⟨ρ1, h1, ρ2, h2, h3⟩ := h pre x xs ρ rfl h0
    obtain ⟨ρ', h4, h5⟩ := forGo_inv f I xs (pre ++ [x]) ρ2 h3 fun p y q r e => h p y q r (by rw [← e, List.append_assoc]; rfl)
    refine ⟨ρ', ?_, by rw [List.append_assoc] at h5; exact h5⟩
    show forGo g bd (f x :: xs.map f) ρ = _
    unfold forGo
    rw [h1]; dsimp only
    rcases h2 with h2 | h2 <;> rw [h2] <;> exact h4
/-- the same where what holds does not hang on the turn -/
theorem forGo_all (f : α → Dt) (I : En → Prop) (xs : List α) (ρ : En) (h0 : I ρ) (h : ∀ x ∈ xs, ∀ ρ, I ρ → ∃ ρ1, g (f x) ρ = some ρ1 ∧ ∃ ρ2, (bd ρ1 = .nx ρ2 ∨ bd ρ1 = .ct ρ2) ∧ I ρ2) :
    ∃ ρ', forGo g bd (xs.map f) ρ = .nx ρ' ∧ I ρ' :=
  forGo_inv f (fun _ => I) xs [] ρ h0 fun p x q r e k => h x (by rw [List.nil_append] at e; rw [e]; simp) r k
end
/-! ### comprehensions -/
section
variable {α : Type} {g : Dt → En → Option En} {t : Mi Bool} {e : Mi Dt} {vs : List Nat}
theorem lcGo_pure (f : α → Dt) (tf : α → Bool) (ef : α → Dt) {ρ : En} : ∀ (xs : List α) (acc : List Dt), (∀ x ∈ xs, ∃ ρ1, g (f x) ρ = some ρ1 ∧ ∃ ρ2, t ρ1 = .ok (tf x) ρ2 ∧ (tf x = false → wipeE ρ2 vs = ρ) ∧ (tf x = true → ∃ ρ3, e ρ2 = .ok (ef x) ρ3 ∧ wipeE ρ3 vs = ρ)) → acc.length + xs.length ≤ 1000000 →
    lcGo g t e vs (xs.map f) acc ρ = .ok (acc ++ (xs.filter tf).map ef) ρ
  | [], acc, _, _ => by simp [lcGo]
  | x :: xs, acc, h, hl => by
    obtain ⟨ρ1, h1, ρ2, h2, h3, h4⟩ := h x (by simp)
    rw [List.length_cons] at hl
    show lcGo g t e vs (f x :: xs.map f) acc ρ = _
    unfold lcGo
    rw [h1]; dsimp only; rw [h2]
    cases hb : tf x with
    | false =>
      dsimp only
      rw [h3 hb, lcGo_pure f tf ef xs acc (fun y hy => h y (by simp [hy])) (by omega), List.filter_cons_of_neg (by rw [hb]; decide)]
    | true =>
      obtain ⟨ρ3, h5, h6⟩ := h4 hb
      dsimp only
      rw [h5]; dsimp only
      rw [if_pos (Nat.lt_of_lt_of_le (show acc.length < 1000000 by omega) (by decide)), h6, lcGo_pure f tf ef xs (acc ++ [ef x]) (fun y hy => h y (by simp [hy])) (by rw [List.length_append]; simp; omega), List.filter_cons_of_pos hb, List.map_cons, List.append_assoc]
      rfl
theorem rest_wipe (ρ : En) : ∀ (vs : List Nat), restE ρ (wipeE ρ vs) vs = ρ := fun vs => by
  apply List.ext_getElem?
  intro i
  by_cases hi : i ∈ vs
  · by_cases hl : i < ρ.length
    · have key : ∀ us : List Nat, i ∈ us → (restE ρ (wipeE ρ vs) us)[i]? = ρ[i]? := fun us => by
        induction us with
        | nil => intro h; cases h
        | cons u us ih =>
          intro h
          unfold restE
          by_cases hu : u = i
          · subst hu
            rw [List.getElem?_set_self (by rw [restE_len, wipeE_len]; exact hl), List.getElem?_eq_getElem hl]
            rfl
          · rw [List.getElem?_set_ne hu]
            cases h with
            | head => exact absurd rfl hu
            | tail _ h => exact ih h
      exact key vs hi
    · rw [List.getElem?_eq_none (by rw [restE_len, wipeE_len]; omega), List.getElem?_eq_none (by omega)]
  · rw [restE_out hi]
    have key : ∀ us : List Nat, i ∉ us → (wipeE ρ us)[i]? = ρ[i]? := fun us => by
      induction us with
      | nil => intro _; rfl
      | cons u us ih =>
        intro h
        simp only [List.mem_cons, not_or] at h
        unfold wipeE
        rw [List.getElem?_set_ne fun z => h.1 z.symm, ih h.2]
    exact key vs hi
theorem lc_ok {mi : Mi (List Dt)} {ρ ρ0 : En} (xs : List α) (f : α → Dt) (tf : α → Bool) (ef : α → Dt) (hi : mi ρ = .ok (xs.map f) ρ0) (ho : ownAny ρ0 vs = false)
    (h : ∀ x ∈ xs, ∃ ρ1, g (f x) (wipeE ρ0 vs) = some ρ1 ∧ ∃ ρ2, t ρ1 = .ok (tf x) ρ2 ∧ (tf x = false → wipeE ρ2 vs = wipeE ρ0 vs) ∧ (tf x = true → ∃ ρ3, e ρ2 = .ok (ef x) ρ3 ∧ wipeE ρ3 vs = wipeE ρ0 vs)) (hl : xs.length ≤ 1000000) :
    mLc mi g t e vs ρ = .ok (.lst ((xs.filter tf).map ef)) ρ0 := by
  unfold mLc mBind
  rw [hi]; dsimp only
  rw [if_neg (by rw [ho]; decide), lcGo_pure f tf ef xs [] h (by simpa using hl)]
  dsimp only
  rw [rest_wipe, List.nil_append]
/-- without an if -/
theorem lc_map {mi : Mi (List Dt)} {ρ ρ0 : En} (xs : List α) (f : α → Dt) (ef : α → Dt) (hi : mi ρ = .ok (xs.map f) ρ0) (ho : ownAny ρ0 vs = false)
    (h : ∀ x ∈ xs, ∃ ρ1, g (f x) (wipeE ρ0 vs) = some ρ1 ∧ ∃ ρ3, e ρ1 = .ok (ef x) ρ3 ∧ wipeE ρ3 vs = wipeE ρ0 vs) (hl : xs.length ≤ 1000000) :
    mLc mi g (mPure true) e vs ρ = .ok (.lst (xs.map ef)) ρ0 := by
  rw [lc_ok xs f (fun _ => true) ef hi ho (fun x hx => by
    obtain ⟨ρ1, h1, ρ3, h2, h3⟩ := h x hx
    exact ⟨ρ1, h1, ρ1, rfl, (fun z => by cases z), fun _ => ⟨ρ3, h2, h3⟩⟩) hl]
  rw [List.filter_eq_self.mpr fun _ _ => rfl]
end
/-! ### small facts -/
theorem sl_le {n : Nat} (h : n ≤ 1000000) : n ≤ sizeLine := Nat.le_trans h (by decide)
theorem sl_lt {n : Nat} (h : n < 1000000) : n < sizeLine := Nat.lt_of_lt_of_le h (by decide)
theorem atI_nat {α : Type} (l : List α) (i : Nat) : atI l (i : Int) = l[i]? := by
  by_cases h : i < l.length
  · simp [atI, ixN, h]
  · simp [atI, ixN, h]
theorem atI_map {α β : Type} (f : α → β) (l : List α) (i : Nat) {x : α} (h : l[i]? = some x) : atI (l.map f) (i : Int) = some (f x) := by
  rw [atI_nat, List.getElem?_map, h]; rfl
/-- a slot that a loop's variable left -/
def lv : Option Dt → Option Sl
  | none => none
  | some d => some (.val d)
theorem feq_int (a b : Int) : fEq (.int a) (.int b) = some (.bl (decide (a = b))) := by
  by_cases h : a = b
  · subst h; simp [fEq, dEq, toPy, SeqAt.shaped, PyData.canLay0, PyData.depth, PyData.eqv]
  · simp [fEq, dEq, toPy, SeqAt.shaped, PyData.canLay0, PyData.depth, PyData.eqv, h]
theorem fne_int (a b : Int) : fNe (.int a) (.int b) = some (.bl (!decide (a = b))) := by
  have h := feq_int a b
  unfold fEq at h
  unfold fNe
  cases q : dEq (.int a) (.int b) with
  | none => rw [q] at h; cases h
  | some v => rw [q] at h; simp at h; rw [h]; rfl
end Dl
namespace Dl
open PySem PySem.Spec PyProof.Rows L2
/-! ### draws (the first sort of law) -/
theorem atI0 {α : Type} (x : α) (l : List α) : atI (x :: l) 0 = some x := by
  simp [atI, ixN]
theorem atI_nn {α : Type} (l : List α) {i : Int} (h0 : 0 ≤ i) (h1 : i < l.length) : atI l i = l[i.toNat]? := by
  simp [atI, ixN, h0, h1]
theorem atI1 {α : Type} (x y : α) (l : List α) : atI (x :: y :: l) 1 = some y := by
  rw [atI_nn _ (by decide) (by simp; omega)]; rfl
/-- a box of draws -/
def bxD (b : Int × Int × Int) : Dt := .lst [.int b.1, .int b.2.1, .int b.2.2]
theorem sl2 : 2 ≤ sizeLine := by decide
theorem sl3 : 3 ≤ sizeLine := by decide
/-! ### a list in another order -/
end Dl
namespace Dl
open PySem PySem.Spec PyProof.Rows L2
/-! ### lists of numbers -/
def insN (x : Nat) : List Nat → List Nat
  | [] => [x]
  | y :: r => if x ≤ y then x :: y :: r else y :: insN x r
def sortN : List Nat → List Nat
  | [] => []
  | x :: r => insN x (sortN r)
theorem insN_int (x : Nat) : ∀ l : List Nat, insI (x : Int) (l.map fun (n : Nat) => (n : Int)) = (insN x l).map fun (n : Nat) => (n : Int)
  | [] => rfl
  | y :: r => by
    show (if (x : Int) ≤ (y : Int) then _ else _) = (if x ≤ y then _ else _ : List Nat).map _
    by_cases h : x ≤ y
    · rw [if_pos (by omega), if_pos h]; rfl
    · rw [if_neg (by omega), if_neg h, insN_int x r]; rfl
theorem sortN_int : ∀ l : List Nat, sortI (l.map fun (n : Nat) => (n : Int)) = (sortN l).map fun (n : Nat) => (n : Int)
  | [] => rfl
  | x :: r => by
    show insI (x : Int) (sortI (r.map _)) = _
    rw [sortN_int r, insN_int]; rfl
theorem insN_perm (x : Nat) : ∀ l, (insN x l).Perm (x :: l)
  | [] => .refl _
  | y :: r => by
    unfold insN
    split
    · exact .refl _
    · exact (List.Perm.cons y (insN_perm x r)).trans (.swap x y r)
theorem sortN_perm : ∀ l, (sortN l).Perm l
  | [] => .refl _
  | x :: r => (insN_perm x (sortN r)).trans (.cons x (sortN_perm r))
theorem intsOf_nat : ∀ l : List Nat, intsOf (l.map nD) = some (l.map fun (n : Nat) => (n : Int))
  | [] => rfl
  | x :: r => by
    show (intsOf (r.map nD)).map ((x : Int) :: ·) = _
    rw [intsOf_nat r]; rfl
theorem sorted_nat (l : List Nat) : fSorted (.lst (l.map nD)) = some ((sortN l).map nD) := by
  show (intsOf (l.map nD)).map (fun ns => (sortI ns).map Dt.int) = _
  rw [intsOf_nat, Option.map_some, sortN_int, List.map_map]; rfl
/-! ### rows -/
structure GoodRow (p : Nat) (r : List Nat × List Nat) : Prop where
  nd : r.1.Nodup
  lt : ∀ x ∈ r.1, x < p
  pm : r.2.Perm (List.range p)
theorem nodup_le : ∀ (p : Nat) (l : List Nat), l.Nodup → (∀ x ∈ l, x < p) → l.length ≤ p
  | 0, [], _, _ => Nat.le_refl _
  | 0, x :: l, _, h => absurd (h x (by simp)) (by omega)
  | p + 1, l, nd, h => by
    by_cases hp : p ∈ l
    · have h1 := nodup_le p (l.erase p) (nd.erase p) fun x hx => by
        have h2 : x ∈ l := List.mem_of_mem_erase hx
        have h3 : x ≠ p := fun z => by rw [z] at hx; exact (List.Nodup.not_mem_erase nd) hx
        have := h x h2
        omega
      rw [List.length_erase_of_mem hp] at h1
      omega
    · have h1 := nodup_le p l nd fun x hx => by
        have := h x hx
        have h3 : x ≠ p := fun z => hp (z ▸ hx)
        omega
      omega
theorem GoodRow.le {p : Nat} {r : List Nat × List Nat} (h : GoodRow p r) : r.1.length ≤ p := nodup_le p r.1 h.nd h.lt
theorem GoodRow.len {p : Nat} {r : List Nat × List Nat} (h : GoodRow p r) : r.2.length = p := by rw [h.pm.length_eq, List.length_range]
/-! ### a drawn rota -/
end Dl
namespace Dl
open PySem PySem.Spec PyProof.Rows L2
/-! ### the small tests -/
theorem blsOf_map : ∀ l : List Bool, blsOf (l.map .bl) = some l
  | [] => rfl
  | b :: r => by
    show (blsOf (r.map .bl)).map (b :: ·) = _
    rw [blsOf_map r]; rfl
theorem all_ok {m : Mi Dt} {ρ ρ1 : En} {α : Type} {xs : List α} {f : α → Bool} (h : m ρ = .ok (.lst (xs.map fun x => .bl (f x))) ρ1) : m1 fAll m ρ = .ok (.bl (xs.all f)) ρ1 := by
  refine m1_ok h ?_
  show (blsOf (xs.map fun x => .bl (f x))).map (fun bs => Dt.bl (bs.all id)) = _
  have e : (xs.map fun x => Dt.bl (f x)) = (xs.map f).map .bl := by rw [List.map_map]; rfl
  rw [e, blsOf_map, Option.map_some, List.all_map]; rfl
/-- items of a list or a tuple -/
def sqD : Bool → List Dt → Dt
  | true, xs => .tup xs
  | false, xs => .lst xs
theorem keyEq_nat (a b : Nat) : keyEq (nD a) (nD b) = decide (a = b) := by
  show decide ((a : Int) = (b : Int)) = _
  exact decide_eq_decide.mpr (by omega)
/-! ### texts -/
end Dl
namespace Dl
open PySem PySem.Spec PyProof.Rows L2
/-! ### the ways of wheels, as mathematics -/
abbrev Rw := List Nat × List Nat
def mvR (r : Rw) (s : Nat) : Nat := r.2.getD s 0
def rowAt (rs : List Rw) (d : Nat) : Rw := rs.getD (d % rs.length) ([], [])
def pos (rs : List Rw) (w : Nat) : Nat → Nat
  | 0 => w
  | d + 1 => mvR (rowAt rs d) (pos rs w d)
structure Good (p : Nat) (rs : List Rw) : Prop where
  n0 : 0 < rs.length
  row : ∀ r ∈ rs, GoodRow p r
variable {p : Nat} {rs : List Rw}
theorem Good.at (h : Good p rs) (d : Nat) : GoodRow p (rowAt rs d) := by
  unfold rowAt
  have hd : d % rs.length < rs.length := Nat.mod_lt _ h.n0
  rw [List.getD_eq_getElem?_getD, List.getElem?_eq_getElem hd]
  exact h.row _ (List.getElem_mem hd)
theorem mvR_lt {r : Rw} (h : GoodRow p r) {s : Nat} (hs : s < p) : mvR r s < p ∧ r.2[s]? = some (mvR r s) := by
  have hl : s < r.2.length := by rw [h.len]; exact hs
  unfold mvR
  rw [List.getD_eq_getElem?_getD, List.getElem?_eq_getElem hl]
  exact ⟨List.mem_range.mp (h.pm.mem_iff.mp (List.getElem_mem hl)), rfl⟩
theorem mvR_inj {r : Rw} (h : GoodRow p r) {a b : Nat} (ha : a < p) (hb : b < p) (e : mvR r a = mvR r b) : a = b := by
  have h1 := (mvR_lt h ha).2
  have h2 := (mvR_lt h hb).2
  have nd : r.2.Nodup := h.pm.nodup_iff.mpr List.nodup_range
  have la : a < r.2.length := by rw [h.len]; exact ha
  have lb : b < r.2.length := by rw [h.len]; exact hb
  rw [List.getElem?_eq_getElem la] at h1
  rw [List.getElem?_eq_getElem lb] at h2
  have e3 : r.2[a] = r.2[b] := by rw [Option.some.inj h1, Option.some.inj h2]; exact e
  exact (List.getElem_inj nd).mp e3
theorem pos_lt (h : Good p rs) {w : Nat} (hw : w < p) : ∀ d, pos rs w d < p
  | 0 => hw
  | d + 1 => (mvR_lt (h.at d) (pos_lt h hw d)).1
theorem pos_inj (h : Good p rs) {a b : Nat} (ha : a < p) (hb : b < p) : ∀ d, pos rs a d = pos rs b d → a = b
  | 0, e => e
  | d + 1, e => pos_inj h ha hb d (mvR_inj (h.at d) (pos_lt h ha d) (pos_lt h hb d) e)
theorem pos_shift (w k : Nat) : ∀ d, pos rs (pos rs w (rs.length * k)) d = pos rs w (rs.length * k + d)
  | 0 => rfl
  | d + 1 => by
    show mvR (rowAt rs d) (pos rs (pos rs w (rs.length * k)) d) = mvR (rowAt rs (rs.length * k + d)) (pos rs w (rs.length * k + d))
    rw [pos_shift w k d]
    unfold rowAt
    rw [Nat.mul_add_mod]
theorem pigeon (f : Nat → Nat) (p : Nat) (h : ∀ i, i ≤ p → f i < p) : ∃ i j, i < j ∧ j ≤ p ∧ f i = f j := by
  apply Classical.byContradiction
  intro hn
  have hd : ∀ i j, i < j → j ≤ p → f i ≠ f j := fun i j h1 h2 e => hn ⟨i, j, h1, h2, e⟩
  have nd : ((List.range (p + 1)).map f).Nodup := by
    rw [List.nodup_iff_pairwise_ne, List.pairwise_map]
    refine List.Pairwise.imp_of_mem (fun {a b} ha hb hab => ?_) (List.pairwise_lt_range (n := p + 1))
    have := List.mem_range.mp hb
    exact hd a b hab (by omega)
  have := nodup_le p _ nd fun x hx => by
    obtain ⟨i, hi, rfl⟩ := List.mem_map.mp hx
    have := List.mem_range.mp hi
    exact h i (by omega)
  rw [List.length_map, List.length_range] at this
  omega
theorem back (h : Good p rs) {w : Nat} (hw : w < p) : ∃ j, j < p ∧ pos rs w (rs.length * (j + 1)) = w := by
  obtain ⟨i, j, h1, h2, e⟩ := pigeon (fun k => pos rs w (rs.length * k)) p fun k _ => pos_lt h hw _
  have e2 : pos rs (pos rs w (rs.length * (j - i))) (rs.length * i) = pos rs w (rs.length * i) := by
    rw [pos_shift, ← Nat.mul_add, show j - i + i = j by omega]; exact e.symm
  have e3 := pos_inj h (pos_lt h hw _) hw _ e2
  exact ⟨j - i - 1, by omega, by rw [show j - i - 1 + 1 = j - i by omega]; exact e3⟩
/-! ### due days -/
def isDue (rs : List Rw) (w d : Nat) : Bool := decide (pos rs w d ∈ (rowAt rs d).1)
end Dl
namespace Dl
open PySem PySem.Spec PyProof.Rows L2
variable {p : Nat} {rs : List Rw}
theorem fMod_nat (a b : Nat) (h : 0 < b) : fMod (nD a) (nD b) = some (nD (a % b)) := by
  show (if (0 : Int) < (b : Int) then some (Dt.int ((a : Int) % (b : Int))) else none) = _
  rw [if_pos (by omega)]; rfl
theorem find_one {p : Nat} {f : Nat → Nat} (hf : ∀ a b, a < p → b < p → f a = f b → a = b) {w : Nat} (hw : w < p) : (List.range p).filter (fun v => decide (f v = f w)) = [w] := by
  have h1 : ∀ n, n ≤ p → (List.range n).filter (fun v => decide (f v = f w)) = if w < n then [w] else [] := fun n => by
    induction n with
    | zero => intro _; rfl
    | succ n ih =>
      intro hn
      rw [List.range_succ, List.filter_append, ih (by omega)]
      by_cases e : n = w
      · subst e
        rw [if_neg (by omega), if_pos (by omega)]
        simp
      · have ne : f n ≠ f w := fun z => e (hf n w (by omega) hw z)
        rw [List.filter_cons_of_neg (by simpa using ne)]
        by_cases hlt : w < n
        · rw [if_pos hlt, if_pos (by omega)]; rfl
        · rw [if_neg hlt, if_neg (by omega)]; rfl
  rw [h1 p (Nat.le_refl _), if_pos hw]
end Dl
namespace Dl
open PySem PySem.Spec PyProof.Rows L2
/-! ### data that are compared -/
inductive Flt : Nat → Dt → Prop
  | non {k : Nat} : Flt k .non
  | bl {k : Nat} (b : Bool) : Flt k (.bl b)
  | int {k : Nat} (i : Int) : Flt k (.int i)
  | str {k : Nat} {x : Str} (h : PyData.canLay0 (.str x) = true) : Flt k (.str x)
  | lst {k : Nat} {xs : List Dt} (h : ∀ x ∈ xs, Flt k x) : Flt (k + 1) (.lst xs)
  | tup {k : Nat} {xs : List Dt} (h : ∀ x ∈ xs, Flt k x) : Flt (k + 1) (.tup xs)
structure PyOk (k : Nat) (d : Dt) (p : PyData) : Prop where
  e : toPy d = some p
  lay : p.canLay0 = true
  dep : p.depth ≤ k
  refl : PyData.eqv p p = true
theorem pys_of {k : Nat} : ∀ {xs : List Dt}, (∀ x ∈ xs, ∃ p, PyOk k x p) → ∃ ps, toPys xs = some ps ∧ PyData.canLayAll0 ps = true ∧ PyData.depthAll ps ≤ k ∧ PyData.eqvAll ps ps = true
  | [], _ => ⟨[], rfl, by simp [PyData.canLayAll0], by simp [PyData.depthAll], by simp [PyData.eqvAll]⟩
  | x :: xs, h => by
    obtain ⟨p, h1⟩ := h x (by simp)
    obtain ⟨ps, h2, h3, h4, h5⟩ := pys_of (xs := xs) fun y hy => h y (by simp [hy])
    refine ⟨p :: ps, ?_, ?_, ?_, ?_⟩
    · unfold toPys; rw [h1.e, h2]
    · simp [PyData.canLayAll0, h1.lay, h3]
    · simp only [PyData.depthAll]; have := h1.dep; omega
    · simp [PyData.eqvAll, h1.refl, h5]
theorem Flt.py {k : Nat} {d : Dt} (h : Flt k d) : ∃ p, PyOk k d p := by
  induction h with
  | non => exact ⟨.none, rfl, by simp [PyData.canLay0], by simp [PyData.depth], by simp [PyData.eqv]⟩
  | bl b => exact ⟨.bool b, rfl, by simp [PyData.canLay0], by simp [PyData.depth], by simp [PyData.eqv]⟩
  | int i => exact ⟨.int i, rfl, by simp [PyData.canLay0], by simp [PyData.depth], by simp [PyData.eqv]⟩
  | @str k x h => exact ⟨.str x, rfl, h, by simp [PyData.depth], by simp [PyData.eqv]⟩
  | @lst k xs h ih =>
    obtain ⟨ps, h1, h2, h3, h4⟩ := pys_of ih
    exact ⟨.list ps, by unfold toPy; rw [h1]; rfl, by simpa [PyData.canLay0] using h2, by simp only [PyData.depth]; omega, by simpa [PyData.eqv] using h4⟩
  | @tup k xs h ih =>
    obtain ⟨ps, h1, h2, h3, h4⟩ := pys_of ih
    exact ⟨.tuple ps, by unfold toPy; rw [h1]; rfl, by simpa [PyData.canLay0] using h2, by simp only [PyData.depth]; omega, by simpa [PyData.eqv] using h4⟩
theorem PyOk.shaped {k : Nat} {d : Dt} {p : PyData} (h : PyOk k d p) (hk : k ≤ 60) : SeqAt.shaped p = true := by
  unfold SeqAt.shaped
  rw [h.lay, decide_eq_true (by have := h.dep; omega)]; rfl
theorem dEq_self {k : Nat} {d : Dt} (h : Flt k d) (hk : k ≤ 60) : dEq d d = some true := by
  obtain ⟨p, hp⟩ := h.py
  unfold dEq
  rw [hp.e]; dsimp only
  rw [hp.shaped hk, Bool.and_self, if_pos rfl, hp.refl]
theorem feq_self {k : Nat} {d : Dt} (h : Flt k d) (hk : k ≤ 60) : fEq d d = some (.bl true) := by unfold fEq; rw [dEq_self h hk]; rfl
theorem fne_self {k : Nat} {d : Dt} (h : Flt k d) (hk : k ≤ 60) : fNe d d = some (.bl false) := by unfold fNe; rw [dEq_self h hk]; rfl
theorem flt_nats {k : Nat} (l : List Nat) : ∀ x ∈ l.map nD, Flt k x := fun x hx => by
  obtain ⟨n, _, rfl⟩ := List.mem_map.mp hx
  exact .int _
theorem toPys_nat : ∀ l : List Nat, toPys (l.map nD) = some (l.map fun (n : Nat) => PyData.int (n : Int))
  | [] => rfl
  | x :: l => by
    show (match toPy (nD x), toPys (l.map nD) with | some p, some ps => some (p :: ps) | _, _ => none) = _
    rw [toPys_nat l]; rfl
theorem in_nats {b : Bool} (a : Nat) (l : List Nat) : fInA (nD a) (sqD b (l.map nD)) = some (.bl (decide (a ∈ l))) := by
  unfold fInA dIn
  have e : (itemsD (sqD b (l.map nD))).bind toPys = some (l.map fun (n : Nat) => PyData.int (n : Int)) := by
    cases b <;> exact toPys_nat l
  rw [e, show toPy (nD a) = some (.int (a : Int)) from rfl]; dsimp only
  obtain ⟨p, hp⟩ := (Flt.lst (k := 1) (xs := l.map nD) (flt_nats l)).py
  have hs := hp.shaped (by omega)
  have ep : p = .list (l.map fun (n : Nat) => PyData.int (n : Int)) := by
    have h1 := hp.e
    unfold toPy at h1
    rw [toPys_nat] at h1
    exact (Option.some.inj h1).symm
  rw [← ep, hs]
  rw [if_pos (by simp [SeqAt.shaped, PyData.canLay0, PyData.depth]), Option.map_some, List.any_map]
  congr 2
  rw [Bool.eq_iff_iff, List.any_eq_true, decide_eq_true_iff]
  constructor
  · rintro ⟨x, hx, h⟩
    simp [PyData.eqv] at h
    have : x = a := by omega
    rw [← this]; exact hx
  · intro h
    exact ⟨a, h, by simp [PyData.eqv]⟩
/-! ### the law's own going -/
variable {p : Nat} {rs : List Rw}
def prD (q : Nat × Nat) : Dt := .tup [nD q.1, nD q.2]
def dueAt (p : Nat) (rs : List Rw) (d : Nat) : List (Nat × Nat) := ((List.range p).filter fun w => isDue rs w d).map fun w => (d, w)
def dueP (p : Nat) (rs : List Rw) (D : Nat) : List (Nat × Nat) := (List.range D).flatMap (dueAt p rs)
theorem dueP_succ (D : Nat) : dueP p rs (D + 1) = dueP p rs D ++ dueAt p rs D := by
  unfold dueP; rw [List.range_succ, List.flatMap_append]; simp
theorem dueAt_len (d : Nat) : (dueAt p rs d).length ≤ p := by
  unfold dueAt
  rw [List.length_map]
  have := List.length_filter_le (fun w => isDue rs w d) (List.range p)
  rwa [List.length_range] at this
theorem dueP_len : ∀ D, (dueP p rs D).length ≤ D * p
  | 0 => by simp [dueP]
  | D + 1 => by
    have h1 := dueP_len D
    have h2 := dueAt_len (p := p) (rs := rs) D
    rw [dueP_succ, List.length_append, Nat.succ_mul]
    omega
end Dl
namespace Dl
open PySem PySem.Spec PyProof.Rows L2
/-! ### the cells of a script -/
def cellN (ns : List Int) : Nat := max 1 (min 3 ns.length)
theorem cells_ok {ns : List Int} {ρ : En} (h : ρ[0]? = some (vl (.scr ns))) : mRng1 (mCons (m2 fMax2 (mPure (.int 1)) (m2 fMin2 (mPure (.int 3)) (m1 fLen (mPeek 0)))) (mPure [])) ρ = .ok ((List.range (cellN ns)).map nD) ρ := by
  refine rngN_ok (cons_ok (m2_ok rfl (m2_ok rfl (m1_ok (x := .scr ns) (z := nD ns.length) ?_ rfl) rfl) ?_) rfl) (by unfold cellN; omega)
  · unfold mPeek; rw [h]
  · show some (Dt.int _) = some (Dt.int _)
    congr 2
    unfold cellN
    show (if (if (ns.length : Int) < 3 then (ns.length : Int) else 3) > 1 then (if (ns.length : Int) < 3 then (ns.length : Int) else 3) else 1) = _
    split <;> split <;> omega
/-- a slot with a box, or with none yet -/
def bo : Option (Int × Int × Int) → Option Sl
  | none => none
  | some q => ow (bxD q)
theorem fSub_nat {a b : Nat} (h : b ≤ a) : fSub (nD a) (nD b) = some (nD (a - b)) := by
  show some (Dt.int _) = some (Dt.int _)
  congr 2; omega
theorem ge_nat (a b : Nat) : fGe (nD a) (nD b) = some (.bl (decide (b ≤ a))) := by
  show some (Dt.bl _) = some (Dt.bl _)
  congr 2
  exact decide_eq_decide.mpr (by omega)
end Dl
namespace Dl
open PySem PySem.Spec PyProof.Rows L2
variable {p : Nat} {rs : List Rw}
/-! ### due days, as mathematics -/
/-! ### the mirrors -/
theorem enum_map {α : Type} (f : α → Dt) : ∀ (k : Nat) (l : List α), enumD k (l.map f) = (l.zipIdx k).map fun x => .tup [nD x.2, f x.1]
  | _, [] => rfl
  | k, x :: l => by
    show Dt.tup [.int k, f x] :: enumD (k + 1) (l.map f) = _
    rw [enum_map f (k + 1) l]; rfl
theorem zipIdx_range (f : Nat → Nat) (n : Nat) : ((List.range n).map f).zipIdx = (List.range n).map fun i => (f i, i) := by
  apply List.ext_getElem?
  intro i
  rw [List.getElem?_zipIdx, List.getElem?_map, List.getElem?_map]
  by_cases h : i < n
  · rw [List.getElem?_range h]; simp
  · rw [List.getElem?_eq_none (by simpa using h)]; rfl
theorem fDiv_nat (a b : Nat) (h : 0 < b) (hb : b < 1000000000000000000000) : fDiv (nD a) (nD b) = some (nD (a / b)) := by
  show (if CDivX (a : Int) (b : Int) then some (Dt.int ((a : Int) / (b : Int))) else none) = _
  rw [if_pos ⟨by omega, by omega⟩]; rfl
theorem lt64 {n : Nat} (h : n < 1000000000000000000) : (n : Int) < 2 ^ 64 := Int.lt_trans (Int.ofNat_lt.mpr h) (by decide)
theorem ge64 (n : Nat) : -(2 ^ 64) < (n : Int) := Int.lt_of_lt_of_le (by decide) (Int.natCast_nonneg n)
theorem fMul_of {i j k : Int} (hc : CMul i j) (e : i * j = k) : fMulI (.int i) (.int j) = some (.int k) := by
  subst e
  have e1 : fMulI (.int i) (.int j) = if CMul i j then some (.int (i * j)) else none := rfl
  rw [e1, if_pos hc]
theorem fMul_nat (a b : Nat) (hb : b < 1000000000000000000 ∨ a < 1000000000000000000) : fMulI (nD a) (nD b) = some (nD (a * b)) := by
  have hc : CMul (a : Int) (b : Int) := by
    rcases hb with hb | hb
    · exact .inr ⟨ge64 b, lt64 hb⟩
    · exact .inl ⟨ge64 a, lt64 hb⟩
  exact fMul_of hc (Int.natCast_mul a b).symm
theorem fAdd_nat (a b : Nat) : fAdd (nD a) (nD b) = some (nD (a + b)) := rfl
theorem fLt_nat (a b : Nat) : fLt (nD a) (nD b) = some (.bl (decide (a < b))) := by
  show some (Dt.bl _) = some (Dt.bl _)
  congr 2
  exact decide_eq_decide.mpr (by omega)
theorem len_lst {α : Type} (f : α → Dt) (l : List α) : fLen (.lst (l.map f)) = some (nD l.length) := by
  show some (Dt.int ((l.map f).length : Int)) = _
  rw [List.length_map]
theorem len_tup {α : Type} (f : α → Dt) (l : List α) : fLen (.tup (l.map f)) = some (nD l.length) := by
  show some (Dt.int ((l.map f).length : Int)) = _
  rw [List.length_map]
end Dl
namespace Dl
open PySem PySem.Spec PyProof.Rows L2
variable {p : Nat} {rs : List Rw}
/-! ### the greatest of some numbers -/
def maxN (l : List Nat) : Nat := l.foldr max 0
theorem le_maxN : ∀ {l : List Nat} {x : Nat}, x ∈ l → x ≤ maxN l
  | y :: l, x, h => by
    show x ≤ max y (maxN l)
    rcases List.mem_cons.mp h with rfl | h
    · omega
    · have := le_maxN h; omega
theorem maxN_mem : ∀ {l : List Nat}, l ≠ [] → maxN l ∈ l
  | [x], _ => by show max x 0 ∈ [x]; rw [Nat.max_zero]; simp
  | x :: y :: l, _ => by
    have h := maxN_mem (l := y :: l) (by simp)
    show max x (maxN (y :: l)) ∈ _
    rcases Nat.le_total x (maxN (y :: l)) with e | e
    · rw [Nat.max_eq_right e]; exact List.mem_cons_of_mem _ h
    · rw [Nat.max_eq_left e]; simp
theorem maxN_eq {l : List Nat} {m : Nat} (h1 : m ∈ l) (h2 : ∀ x ∈ l, x ≤ m) : maxN l = m := by
  have h3 := le_maxN h1
  have h4 := h2 _ (maxN_mem (l := l) (fun z => by rw [z] at h1; cases h1))
  omega
theorem max_nat {l : List Nat} (h : l ≠ []) : fMax (.lst (l.map nD)) = some (nD (maxN l)) := by
  show (intsOf (l.map nD)).bind (fun ns => (maxI ns).map Dt.int) = _
  rw [intsOf_nat, Option.bind_some]
  cases q : maxI (l.map fun (n : Nat) => (n : Int)) with
  | none =>
    cases l with
    | nil => exact absurd rfl h
    | cons x l => cases q
  | some m =>
    obtain ⟨h1, h2⟩ := maxI_ok q
    obtain ⟨n, hn, rfl⟩ := List.mem_map.mp h1
    rw [maxN_eq hn fun x hx => by have := h2 (x : Int) (List.mem_map.mpr ⟨x, hx, rfl⟩); omega]
    rfl
theorem maxN_add {l : List Nat} (c : Nat) (h : l ≠ []) : maxN (l.map (c + ·)) = c + maxN l := by
  refine maxN_eq (List.mem_map.mpr ⟨_, maxN_mem h, rfl⟩) fun x hx => ?_
  obtain ⟨y, hy, rfl⟩ := List.mem_map.mp hx
  have := le_maxN hy
  omega
theorem rng_ne {n : Nat} {α : Type} (f : Nat → α) (h : 0 < n) : (List.range n).map f ≠ [] := fun z => by
  have := congrArg List.length z
  rw [List.length_map, List.length_range, List.length_nil] at this
  omega
/-! ### days of turnings -/
theorem star_ok {m : Mi Dt} {ms : Mi (List Dt)} {ρ ρ1 ρ2 : En} {b : Bool} {xs ds : List Dt} (h : m ρ = .ok (sqD b xs) ρ1) (k : ms ρ1 = .ok ds ρ2) : mStar m ms ρ = .ok (xs ++ ds) ρ2 := by
  refine bind_ok h ?_
  cases b
  · show mBind ms _ _ = _
    exact bind_ok k rfl
  · show mBind ms _ _ = _
    exact bind_ok k rfl
/-! ### what is said of gaps -/
end Dl
namespace Dl
open PySem PySem.Spec PyProof.Rows L2
/-! ### draws (the third sort of law) -/
def cxD (b : Int × Int) : Dt := .lst [.int b.1, .int b.2]
theorem takeC_any (q : Int × Int) (b : Int) (hb : 0 < b) (hb2 : b < 1267650600228229401496703205376) : ∃ d q', 0 ≤ d ∧ d < b ∧ m_law_take_v2 [cxD q, .int b] = .ret (.int d) (cxD q') := by
  obtain ⟨c, s⟩ := q
  by_cases hc : 0 < c
  · refine ⟨c % b, (c / b, s), Int.emod_nonneg _ (by omega), Int.emod_lt_of_pos _ hb, ?_⟩
    simp [cxD, m_law_take_v2, runF, b_law_take_v2, sSeq, sIf, sBind, mB, m2, m1, mBind, mOpt, mPure, hasSl, mIxV, mPeek, mVar, fI, fIx, fGt, argE, atI0, hc, sSet, sPut, setSl, fMod, hb, fInt, fDiv, CDivX, hb2, sLput, putL, mMut, sRet, ioOut, ixN]
  · refine ⟨(s * 48271 + 40031) % 2147483647 / 64 % b, (c, (s * 48271 + 40031) % 2147483647), Int.emod_nonneg _ (by omega), Int.emod_lt_of_pos _ hb, ?_⟩
    simp [cxD, m_law_take_v2, runF, b_law_take_v2, sSeq, sIf, sBind, mB, m2, m1, mBind, mOpt, mPure, hasSl, mIxV, mPeek, mVar, fI, fIx, fGt, argE, atI0, atI1, hc, sSet, sPut, setSl, fMod, hb, fInt, fDiv, CDivX, sLput, putL, mMut, sRet, ioOut, ixN, fMulI, CMul, fAdd]
theorem takeC_nat (q : Int × Int) (b : Nat) (hb : 0 < b) (hb2 : b < 1267650600228229401496703205376) : ∃ (d : Nat) (q' : Int × Int), d < b ∧ m_law_take_v2 [cxD q, nD b] = .ret (nD d) (cxD q') := by
  obtain ⟨d, q', h1, h2, h3⟩ := takeC_any q b (by omega) (by omega)
  obtain ⟨n, rfl⟩ : ∃ n : Nat, d = n := ⟨d.toNat, by omega⟩
  exact ⟨n, q', by omega, h3⟩
theorem boxC_any (ns : List Int) (k : Nat) (o : Int) : ∃ q, m_law_box_v3 [.scr ns, nD k, .int o] = .ret (cxD q) .non := by
  have e3 : ∃ c : Int, mIfE (mB (m2 fLt (mVar 1) (m1 fLen (mPeek 0)))) (m1 fAbs (hasSl 0 (mIxV 0 (mVar 1)))) (mPure (.int 0)) [vl (.scr ns), vl (nD k), vl (.int o), none, none, none] = .ok (.int c) [vl (.scr ns), vl (nD k), vl (.int o), none, none, none] := by
    have et : mB (m2 fLt (mVar 1) (m1 fLen (mPeek 0))) [vl (.scr ns), vl (nD k), vl (.int o), none, none, none] = .ok (decide (k < ns.length)) [vl (.scr ns), vl (nD k), vl (.int o), none, none, none] := tb_ok (m2_ok rfl (m1_ok (x := .scr ns) (z := nD ns.length) rfl rfl) (fLt_nat _ _))
    by_cases h : k < ns.length
    · rw [decide_eq_true h] at et
      refine ⟨if ns[k] < 0 then -ns[k] else ns[k], ife_t et (m1_ok (x := .int ns[k]) ?_ rfl)⟩
      show mIxV 0 (mVar 1) _ = _
      refine bind_ok rfl (bind_ok (a := .scr ns) rfl ?_)
      show mOpt ((atI ns (k : Int)).map Dt.int) _ = _
      rw [atI_nat, List.getElem?_eq_getElem h]
      rfl
    · rw [decide_eq_false h] at et
      exact ⟨0, ife_f et rfl⟩
  obtain ⟨c, e3⟩ := e3
  let E (s4 : Int) (s5 : Option Dt) : En := [vl (.scr ns), vl (nD k), vl (.int o), vl (.int c), vl (.int s4), lv s5]
  have loop : ∃ ρ', forGo (gV 5) (sSet 4 (m2 fMod (m1 fInt (m2 fAdd (m2 fAdd (m2 fMulI (mVar 4) (mPure (.int 16807))) (m2 fMod (m1 fAbs (mPeek 5)) (mPure (.int 2147483629)))) (mPeek 1))) (mPure (.int 2147483647)))) ((cutD ns none (some 40)).map .int) (E (100291 * o + 7753 * (k : Int) + 37) none) = .nx ρ' ∧ ∃ s4 s5, ρ' = E s4 s5 := by
    refine forGo_all Dt.int (fun ρ => ∃ s4 s5, ρ = E s4 s5) _ _ ⟨_, none, rfl⟩ ?_
    rintro x _ ρ ⟨s4, s5, rfl⟩
    refine ⟨E s4 (some (.int x)), by cases s5 <;> rfl, E ((s4 * 16807 + (if x < 0 then -x else x) % 2147483629 + (k : Int)) % 2147483647) (some (.int x)), .inl ?_, _, _, rfl⟩
    exact set_ok (m2_ok (m1_ok (m2_ok (m2_ok (m2_ok rfl rfl (fMul_of (.inr (by decide)) rfl)) (m2_ok (m1_ok (x := .int x) rfl rfl) rfl rfl) rfl) rfl rfl) rfl) rfl rfl) rfl
  obtain ⟨ρ', h1, s4, s5, rfl⟩ := loop
  have e6 : ∃ c', mIfE (mB (m2 fGe (mVar 3) (m2 fPow (mPure (.int 10)) (mPure (.int 18))))) (mVar 3) (mPure (.int 0)) (E s4 s5) = .ok (.int c') (E s4 s5) := by
    have et : mB (m2 fGe (mVar 3) (m2 fPow (mPure (.int 10)) (mPure (.int 18)))) (E s4 s5) = .ok (decide ((1000000000000000000 : Int) ≤ c)) (E s4 s5) := rfl
    by_cases h : (1000000000000000000 : Int) ≤ c
    · rw [decide_eq_true h] at et
      exact ⟨c, ife_t et rfl⟩
    · rw [decide_eq_false h] at et
      exact ⟨0, ife_f et rfl⟩
  obtain ⟨c', e6⟩ := e6
  refine ⟨(c', s4 + 1), runF_rtN (ρ := E s4 s5) ?_ rfl⟩
  unfold b_law_box_v3
  refine seq_nx (ρ' := [vl (.scr ns), vl (nD k), vl (.int o), vl (.int c), none, none]) (set_ok e3 rfl) ?_
  refine seq_nx (ρ' := E (100291 * o + 7753 * (k : Int) + 37) none) (set_ok (m2_ok (m2_ok (m2_ok rfl rfl (fMul_of (.inl (by decide)) rfl)) (m2_ok rfl rfl (fMul_of (.inl (by decide)) rfl)) rfl) rfl rfl) rfl) ?_
  refine seq_nx (for_ok (ds := (cutD ns none (some 40)).map .int) rfl h1) (retN_ok (lst_ok (cons_ok e6 rfl) (sl_le (by simp))))
/-! ### a list in another order -/
/-! ### drawn rows -/
end Dl
namespace Dl
open PySem PySem.Spec PyProof.Rows L2
/-! ### days on a ring, as mathematics -/
structure Ring (D : List Nat) (R : Nat) : Prop where
  n0 : 0 < D.length
  lt : ∀ x ∈ D, x < R
  asc : D.Pairwise (· < ·)
/-- the day with a number, round and round -/
def dd (D : List Nat) (R a : Nat) : Nat := a / D.length * R + D.getD (a % D.length) 0
def gp (D : List Nat) (R m : Nat) : Nat := maxN ((List.range D.length).map fun a => dd D R (a + (m + 1)) - dd D R a)
variable {D : List Nat} {R : Nat}
theorem dd_get (h0 : 0 < D.length) (a : Nat) : D[a % D.length]? = some (D.getD (a % D.length) 0) := by
  rw [List.getD_eq_getElem?_getD, List.getElem?_eq_getElem (Nat.mod_lt a h0)]; rfl
theorem dd_shift (h0 : 0 < D.length) (a k : Nat) : dd D R (a + D.length * k) = dd D R a + k * R := by
  unfold dd
  rw [Nat.add_mul_mod_self_left, Nat.add_mul_div_left _ _ h0, Nat.add_mul]
  omega
theorem dd_step (h : Ring D R) (a : Nat) : dd D R a < dd D R (a + 1) := by
  have hm := Nat.mod_lt a h.n0
  have hlt : D.getD (a % D.length) 0 < R := h.lt _ (List.mem_of_getElem? (dd_get h.n0 a))
  have hdm := Nat.div_add_mod a D.length
  by_cases e : a % D.length + 1 < D.length
  · have e1 : (a + 1) % D.length = a % D.length + 1 := by
      rw [Nat.add_mod, Nat.mod_eq_of_lt (show 1 < D.length by omega), Nat.mod_eq_of_lt e]
    have e2 : (a + 1) / D.length = a / D.length := by
      have h2 : a + 1 = (a % D.length + 1) + D.length * (a / D.length) := by omega
      rw [h2, Nat.add_mul_div_left _ _ h.n0, Nat.div_eq_of_lt e, Nat.zero_add]
    unfold dd
    rw [e1, e2]
    have e3 : D.getD (a % D.length) 0 < D.getD (a % D.length + 1) 0 := by
      rw [List.getD_eq_getElem?_getD, List.getD_eq_getElem?_getD, List.getElem?_eq_getElem hm, List.getElem?_eq_getElem e]
      exact List.pairwise_iff_getElem.mp h.asc _ _ hm e (by omega)
    omega
  · have h3 : a + 1 = D.length * (a / D.length + 1) := by rw [Nat.mul_succ]; omega
    have e1 : (a + 1) % D.length = 0 := by rw [h3]; exact Nat.mul_mod_right _ _
    have e2 : (a + 1) / D.length = a / D.length + 1 := by rw [h3, Nat.mul_div_cancel_left _ h.n0]
    unfold dd
    rw [e1, e2, Nat.succ_mul]
    omega
theorem dd_mono (h : Ring D R) {a b : Nat} (hab : a < b) : dd D R a < dd D R b := by
  obtain ⟨k, rfl⟩ : ∃ k, b = a + 1 + k := ⟨b - a - 1, by omega⟩
  induction k with
  | zero => exact dd_step h a
  | succ k ih => exact Nat.lt_trans (ih (by omega)) (dd_step h _)
theorem dd_le (h : Ring D R) {a b : Nat} (hab : a ≤ b) : dd D R a ≤ dd D R b := by
  rcases Nat.eq_or_lt_of_le hab with e | e
  · rw [e]; exact Nat.le_refl _
  · exact Nat.le_of_lt (dd_mono h e)
theorem twice_get {i : Nat} (h0 : 0 < D.length) (hi : i < 2 * D.length) : (D ++ D.map (· + R))[i]? = some (dd D R i) := by
  by_cases hlt : i < D.length
  · rw [List.getElem?_append_left hlt]
    have e := dd_get h0 i
    rw [Nat.mod_eq_of_lt hlt] at e
    rw [e]
    unfold dd
    rw [Nat.mod_eq_of_lt hlt, Nat.div_eq_of_lt hlt, Nat.zero_mul, Nat.zero_add]
  · rw [List.getElem?_append_right (by omega), List.getElem?_map]
    have e := dd_get h0 i
    have em : i % D.length = i - D.length := by
      rw [Nat.mod_eq_sub_mod (by omega), Nat.mod_eq_of_lt (by omega)]
    have ed : i / D.length = 1 := by
      rw [Nat.div_eq_sub_div h0 (by omega), Nat.div_eq_of_lt (by omega)]
    rw [em] at e
    rw [e]
    unfold dd
    rw [ed, em, Nat.one_mul, Option.map_some, Nat.add_comm]
theorem gp_div (h : Ring D R) (m : Nat) : gp D R m = m / D.length * R + gp D R (m % D.length) := by
  unfold gp
  rw [← maxN_add _ (rng_ne _ h.n0), List.map_map]
  congr 1
  apply List.map_congr_left
  intro a _
  have e := dd_shift (R := R) h.n0 (a + (m % D.length + 1)) (m / D.length)
  have hdm := Nat.mod_add_div m D.length
  rw [show a + (m % D.length + 1) + D.length * (m / D.length) = a + (m + 1) by omega] at e
  rw [e]
  have h1 := dd_le h (show a ≤ a + (m % D.length + 1) by omega)
  dsimp only [Function.comp]
  omega
/-! ### the mirrors -/
theorem look_none {y : Nat} : ∀ (ks : List Nat) (ds : List Dt), y ∉ ks → dLook keyEq (nD y) (ks.map nD) ds = none
  | [], ds, _ => by cases ds <;> rfl
  | k :: ks, [], _ => rfl
  | k :: ks, d :: ds, h => by
    show (if keyEq (nD k) (nD y) = true then some d else dLook keyEq (nD y) (ks.map nD) ds) = none
    rw [keyEq_nat, if_neg (by simp; intro e; exact h (by simp [e])), look_none ks ds (fun z => h (by simp [z]))]
theorem put_new {y : Nat} {d : Dt} {ks : List Nat} {ds : List Dt} (h : y ∉ ks) : dPut keyEq (nD y) d (ks.map nD) ds = ((ks ++ [y]).map nD, ds ++ [d]) := by
  unfold dPut
  rw [if_neg, List.map_append]; rfl
  rw [List.any_map]
  simp only [Function.comp, Bool.not_eq_true, List.any_eq_false]
  intro z hz
  rw [keyEq_nat]
  simp
  intro e; exact h (e ▸ hz)
theorem chain_t {f g : Dt → Dt → Option Dt} {ma mb mc : Mi Dt} {ρ ρ1 ρ2 ρ3 : En} {x y z r : Dt} (ha : ma ρ = .ok x ρ1) (hb : mb ρ1 = .ok y ρ2) (hf : f x y = some (.bl true)) (hc : mc ρ2 = .ok z ρ3) (hg : g y z = some r) : mChain f g ma mb mc ρ = .ok r ρ3 := by
  unfold mChain mBind
  rw [ha]; dsimp only; rw [hb]; dsimp only; rw [hf]
  simp only [mOpt, mPure]
  rw [hc]; dsimp only; rw [hg]; rfl
theorem chain_f {f g : Dt → Dt → Option Dt} {ma mb mc : Mi Dt} {ρ ρ1 ρ2 : En} {x y : Dt} (ha : ma ρ = .ok x ρ1) (hb : mb ρ1 = .ok y ρ2) (hf : f x y = some (.bl false)) : mChain f g ma mb mc ρ = .ok (.bl false) ρ2 := by
  unfold mChain mBind
  rw [ha]; dsimp only; rw [hb]; dsimp only; rw [hf]; rfl
theorem dput_ok {i : Nat} {mk mv : Mi Dt} {ρ ρ1 ρ2 ρ3 : En} {x y : Dt} (hv : mv ρ = .ok y ρ1) (hs : hasSl i mk ρ1 = .ok x ρ2) (hp : putD i x y ρ2 = .ok () ρ3) : sDput i mk mv ρ = .nx ρ3 := by
  unfold sDput sBind
  rw [hv]; dsimp only; rw [hs]; dsimp only; rw [hp]
theorem need_days_ok (b : Bool) (L : List Nat) (P : Nat) (h0 : 0 < L.length) (hl : L.length < 1000) (nd : L.Nodup) (lt : ∀ x ∈ L, x < P) : m_need_days [sqD b (L.map nD), nD P] = .ret (.tup ((sortN L).map nD)) .non := by
  let Q : Dt := sqD b (L.map nD)
  let E (ks : List Nat) (vs : List Dt) (s3 s4 : Option Dt) : En := [vl Q, vl (nD P), ow (.dic false (ks.map nD) vs), lv s3, lv s4]
  have loop : ∃ ρ', forGo (gT (gsC (gV 3) (gsC (gV 4) gsN)) 2) (sSeq (sIf (mOr (mNot (mB (mCall 1 m_is_integer (mCons (mVar 4) (mPure []))))) (mOr (mNot (mB (mChain fLe fLt (mPure (.int 0)) (mVar 4) (mPeek 1)))) (mB (m2 fDin (mVar 4) (mPeek 2))))) (fun _ => .bad) (fun ρ => .nx ρ))
      (sDput 2 (mVar 4) (mPure (.bl true)))) (L.zipIdx.map fun x => .tup [nD x.2, nD x.1]) (E [] [] none none) = .nx ρ' ∧ ∃ ks vs s3 s4, ρ' = E ks vs s3 s4 := by
    obtain ⟨ρ', e1, vs, s3, s4, e2⟩ := forGo_inv (fun (x : Nat × Nat) => Dt.tup [nD x.2, nD x.1]) (fun pre ρ => ∃ vs s3 s4, ρ = E (pre.map (·.1)) vs s3 s4) L.zipIdx [] (E [] [] none none) ⟨[], none, none, rfl⟩ (bd := (sSeq (sIf (mOr (mNot (mB (mCall 1 m_is_integer (mCons (mVar 4) (mPure []))))) (mOr (mNot (mB (mChain fLe fLt (mPure (.int 0)) (mVar 4) (mPeek 1)))) (mB (m2 fDin (mVar 4) (mPeek 2))))) (fun _ => .bad) (fun ρ => .nx ρ))
      (sDput 2 (mVar 4) (mPure (.bl true))))) (g := gT (gsC (gV 3) (gsC (gV 4) gsN)) 2) (by
      rintro pre ⟨x, i⟩ post ρ e ⟨vs, s3, s4, rfl⟩
      rw [List.nil_append] at e
      have eL : L = pre.map (·.1) ++ x :: post.map (·.1) := by
        have := congrArg (List.map (·.1)) e
        rw [List.map_append, List.map_cons, List.zipIdx_map_fst] at this
        exact this
      have hx : x ∉ pre.map (·.1) := fun hx => by
        rw [eL, List.nodup_append] at nd
        exact nd.2.2 x hx x (by simp) rfl
      have hxP : x < P := lt x (by rw [eL]; simp)
      have hpl : (pre.map (·.1)).length < 1000 := by
        have := congrArg List.length eL
        rw [List.length_append, List.length_cons] at this
        omega
      rw [List.map_append]
      generalize pre.map (·.1) = ks at hx hpl ⊢
      refine ⟨E ks vs (some (nD i)) (some (nD x)), by cases s3 <;> cases s4 <;> rfl, E (ks ++ [x]) (vs ++ [.bl true]) (some (nD i)) (some (nD x)), .inl ?_, vs ++ [.bl true], some (nD i), some (nD x), rfl⟩
      refine seq_nx (ρ' := E ks vs (some (nD i)) (some (nD x))) (if_f (ρ1 := E ks vs (some (nD i)) (some (nD x))) (or_f (ρ1 := E ks vs (some (nD i)) (some (nD x))) (not_ok (b := true) (tb_ok (call_ok (ds := [nD x]) (r := .non) rfl rfl rfl))) (or_f (ρ1 := E ks vs (some (nD i)) (some (nD x))) (not_ok (b := true) (tb_ok ?_)) (tb_ok (m2_ok (y := .dic false (ks.map nD) vs) rfl rfl ?_)))) rfl) ?_
      · refine chain_t (x := .int 0) (y := nD x) (z := nD P) rfl rfl ?_ rfl (by rw [fLt_nat, decide_eq_true hxP])
        show some (Dt.bl (decide ((0 : Int) ≤ (x : Int)))) = _
        rw [decide_eq_true (by omega)]
      · show some (Dt.bl (dLook keyEq (nD x) (ks.map nD) vs).isSome) = _
        rw [look_none ks vs hx]; rfl
      · refine dput_ok (ρ1 := E ks vs (some (nD i)) (some (nD x))) (ρ2 := E ks vs (some (nD i)) (some (nD x))) (x := nD x) rfl rfl ?_
        have ep : putD 2 (nD x) (.bl true) (E ks vs (some (nD i)) (some (nD x))) = .ok () (E (ks ++ [x]) (vs ++ [.bl true]) (some (nD i)) (some (nD x))) := by
          show (if (ks.map nD).length < sizeLine then Ou.ok () [vl Q, vl (nD P), ow (.dic false (dPut keyEq (nD x) (.bl true) (ks.map nD) vs).1 (dPut keyEq (nD x) (.bl true) (ks.map nD) vs).2), _, _] else .bad) = _
          rw [if_pos (by rw [List.length_map]; exact sl_lt (by omega)), put_new hx]
        exact ep)
    exact ⟨ρ', e1, _, _, _, _, e2⟩
  obtain ⟨ρ', e1, ks, vs, s3, s4, rfl⟩ := loop
  refine runF_rt (ρ := E ks vs s3 s4) ?_ rfl
  unfold b_need_days
  refine seq_nx (ρ' := [vl Q, vl (nD P), none, none, none]) (if_f (ρ1 := [vl Q, vl (nD P), none, none, none]) (or_f (ρ1 := [vl Q, vl (nD P), none, none, none]) (not_ok (b := true) (tb_ok (call_ok (ds := [Q]) (r := .non) rfl rfl (by cases b <;> rfl)))) (tb_ok (m2_ok (x := nD L.length) (y := .int 0) (ρ1 := [vl Q, vl (nD P), none, none, none]) (m1_ok (x := Q) rfl (by cases b; exact len_lst nD L; exact len_tup nD L)) rfl (by rw [feq_int, decide_eq_false (by omega)])))) rfl) ?_
  refine seq_nx (ρ' := E [] [] none none) rfl ?_
  refine seq_nx (for_ok (ds := L.zipIdx.map fun x => .tup [nD x.2, nD x.1]) ?_ e1) ?_
  · rw [← enum_map nD 0 L]
    cases b <;> rfl
  · refine ret_ok (m1_ok (x := .lst ((sortN L).map nD)) (m1N_ok (x := .lst (L.map nD)) ?_ (sorted_nat L)) rfl)
    refine lc_map (g := gV 4) (e := m1 fInt (mPeek 4)) (vs := [4]) L nD nD (by cases b <;> rfl) (by cases s4 <;> rfl) (fun x hx => ⟨[vl Q, vl (nD P), ow (.dic false (ks.map nD) vs), lv s3, vl (nD x)], rfl, _, m1_ok (x := nD x) rfl rfl, rfl⟩) (by omega)
theorem rng2_ok {ms : Mi (List Dt)} {ρ ρ1 : En} {n : Nat} (h : ms ρ = .ok [.int 1, nD (n + 1)] ρ1) (l : n < 1000000) : mRng2 ms ρ = .ok ((List.range n).map fun i => nD (i + 1)) ρ1 := by
  refine bind_ok h ?_
  dsimp only
  rw [if_pos ⟨⟨by decide, by decide⟩, by omega, by omega⟩]
  rw [rngD_map, show (((n + 1 : Nat) : Int) - 1).toNat = n by omega]
  show Ou.ok _ _ = _
  congr 1
  apply List.map_congr_left
  intro i _
  congr 1
  omega
theorem longest_ok (h : Ring D R) (hl : D.length < 1000) : m_longest_steps [.tup (D.map nD), nD R] = .ret (.tup ((List.range D.length).map fun s => nD (gp D R s))) .non := by
  let tw : Dt := .lst ((D ++ D.map (· + R)).map nD)
  let E (k : Nat) (s5 : Option Dt) : En := [vl (.tup (D.map nD)), vl (nD R), vl (nD D.length), ow (.lst ((List.range k).map fun s => nD (gp D R s))), vl tw, lv s5, none, none]
  have ixl : ∀ (i : Nat) (ρ : En) {m : Mi Dt}, ρ[4]? = some (vl tw) → m ρ = .ok (nD i) ρ → i < 2 * D.length → hasSl 4 (mIxV 4 m) ρ = .ok (nD (dd D R i)) ρ := fun i ρ m hρ hm hi => by
    have ep : mPeek 4 ρ = .ok tw ρ := by unfold mPeek; rw [hρ]
    unfold hasSl
    rw [hρ]
    refine bind_ok hm (bind_ok ep ?_)
    show mOpt (atI ((D ++ D.map (· + R)).map nD) (i : Int)) _ = _
    rw [atI_map nD _ _ (twice_get h.n0 hi)]
    rfl
  obtain ⟨ρ', e1, s5, e2⟩ := forGo_inv (g := gV 5) (bd := (sDrop (ownLst 3 (mAppend 3 (m1 fMax (mLc (mRng1 (mCons (mVar 2) (mPure []))) (gV 7) (mPure true) (m1 fInt (m2 fSub (hasSl 4 (mIxV 4 (m2 fAdd (mVar 7) (mPeek 5)))) (hasSl 4 (mIxV 4 (mVar 7))))) [7])))))) (fun (i : Nat) => nD (i + 1)) (fun pre ρ => ∃ s5, ρ = E pre.length s5) (List.range D.length) [] (E 0 none) ⟨none, rfl⟩ (by
    rintro pre x post ρ e ⟨s5, rfl⟩
    rw [List.nil_append] at e
    have hx : pre.length = x ∧ x < D.length := by
      have h1 := congrArg List.length e
      rw [List.length_range, List.length_append, List.length_cons] at h1
      have h2 : (List.range D.length)[pre.length]? = some x := by rw [e]; simp
      rw [List.getElem?_range (by omega)] at h2
      have h3 := Option.some.inj h2
      exact ⟨h3, by omega⟩
    obtain ⟨hx0, hx⟩ := hx
    rw [hx0]
    refine ⟨E x (some (nD (x + 1))), by cases s5 <;> rfl, E (x + 1) (some (nD (x + 1))), .inl ?_, some (nD (x + 1)), by rw [List.length_append, hx0]; rfl⟩
    have e3 := lc_map (g := gV 7) (e := (m1 fInt (m2 fSub (hasSl 4 (mIxV 4 (m2 fAdd (mVar 7) (mPeek 5)))) (hasSl 4 (mIxV 4 (mVar 7)))))) (vs := [7]) (mi := mRng1 (mCons (mVar 2) (mPure []))) (ρ := E x (some (nD (x + 1)))) (ρ0 := E x (some (nD (x + 1)))) (List.range D.length) nD (fun a => nD (dd D R (a + (x + 1)) - dd D R a)) (rngN_ok rfl (by omega)) rfl (fun a ha => by
      have ha' := List.mem_range.mp ha
      refine ⟨[vl (.tup (D.map nD)), vl (nD R), vl (nD D.length), ow (.lst ((List.range x).map fun s => nD (gp D R s))), vl tw, vl (nD (x + 1)), none, vl (nD a)], rfl, [vl (.tup (D.map nD)), vl (nD R), vl (nD D.length), ow (.lst ((List.range x).map fun s => nD (gp D R s))), vl tw, vl (nD (x + 1)), none, vl (nD a)], m1_ok (m2_ok (ixl (a + (x + 1)) _ rfl (m2_ok rfl rfl (fAdd_nat _ _)) (by omega)) (ixl a _ rfl rfl (by omega)) (fSub_nat (dd_le h (by omega)))) rfl, rfl⟩) (by rw [List.length_range]; omega)
    have e4 : (List.range D.length).map (fun a => nD (dd D R (a + (x + 1)) - dd D R a)) = ((List.range D.length).map fun a => dd D R (a + (x + 1)) - dd D R a).map nD := by rw [List.map_map]; rfl
    rw [e4] at e3
    have hE : ((List.range (x + 1)).map fun s => nD (gp D R s)) = ((List.range x).map fun s => nD (gp D R s)) ++ [nD (gp D R x)] := by rw [List.range_succ, List.map_append]; rfl
    refine drop_ok (append_ok (io0 := false) (es := (List.range x).map fun s => nD (gp D R s)) (ds := (List.range x).map fun s => nD (gp D R s)) (d := nD (gp D R x)) (ρ1 := E x (some (nD (x + 1)))) rfl (m1_ok e3 (max_nat (rng_ne _ h.n0))) rfl (by rw [List.length_map, List.length_range]; omega) ?_)
    show _ = [vl (.tup (D.map nD)), vl (nD R), vl (nD D.length), ow (.lst ((List.range (x + 1)).map fun s => nD (gp D R s))), vl tw, vl (nD (x + 1)), none, none]
    rw [hE]; rfl)
  subst e2
  rw [List.nil_append, List.length_range] at e1
  refine runF_rt (ρ := E D.length s5) ?_ rfl
  unfold b_longest_steps
  refine seq_nx (ρ' := [vl (.tup (D.map nD)), vl (nD R), vl (nD D.length), ow (.lst []), none, none, none, none]) (pars_ok (ds := [nD D.length, .lst []]) (ρ1 := [vl (.tup (D.map nD)), vl (nD R), none, none, none, none, none, none]) (cons_ok (m1_ok (x := .tup (D.map nD)) rfl (len_tup nD D)) rfl) rfl) ?_
  refine seq_nx (ρ' := E 0 none) (set_ok (d := tw) (ρ1 := [vl (.tup (D.map nD)), vl (nD R), vl (nD D.length), ow (.lst []), none, none, none, none]) ?_ rfl) ?_
  · have e5 := lc_map (g := gV 6) (e := (m2 fAdd (mVar 6) (mPeek 1))) (vs := [6]) (mi := mSeqI (mVar 0)) (ρ := [vl (.tup (D.map nD)), vl (nD R), vl (nD D.length), ow (.lst []), none, none, none, none]) (ρ0 := [vl (.tup (D.map nD)), vl (nD R), vl (nD D.length), ow (.lst []), none, none, none, none]) D nD (fun x => nD (x + R)) rfl rfl (fun x _ => ⟨_, rfl, _, m2_ok rfl rfl (fAdd_nat _ _), rfl⟩) (by omega)
    have e6 : (D ++ D.map (· + R)).map nD = D.map nD ++ (D.map (fun x => nD (x + R)) ++ []) := by
      rw [List.map_append, List.map_map, List.append_nil]; rfl
    show mLst _ _ = Ou.ok (Dt.lst _) _
    rw [e6]
    exact lst_ok (star_ok (b := true) (xs := D.map nD) rfl (star_ok (b := false) (xs := D.map (fun x => nD (x + R))) e5 rfl)) (sl_le (by simp; omega))
  · refine seq_nx (for_ok (rng2_ok (n := D.length) (ρ1 := E 0 none) (cons_ok rfl (cons_ok (m2_ok rfl rfl (fAdd_nat _ 1)) rfl)) (by omega)) e1) (ret_ok (m1_ok rfl rfl))
theorem stair_ok (L : List Nat) (m : Nat) (h0 : 0 < L.length) (hl : L.length < 1000000) (hR : R < 1000000000000000000) : m_stair [.tup (L.map nD), nD R, nD m] = .ret (nD (m / L.length * R + L.getD (m % L.length) 0)) .non := by
  have hm := Nat.mod_lt m h0
  refine runF_rt (ρ := [vl (.tup (L.map nD)), vl (nD R), vl (nD m), vl (nD (m / L.length)), vl (nD (m % L.length))]) (seq_nx (pars_ok (ds := [nD (m / L.length), nD (m % L.length)]) (ρ1 := [vl (.tup (L.map nD)), vl (nD R), vl (nD m), none, none]) (cons_ok (m2_ok rfl (m1_ok (x := .tup (L.map nD)) rfl (len_tup nD L)) (fDiv_nat m _ h0 (by omega))) (cons_ok (m2_ok rfl (m1_ok (x := .tup (L.map nD)) rfl (len_tup nD L)) (fMod_nat m _ h0)) rfl)) rfl) (ret_ok (m2_ok (m2_ok rfl rfl (fMul_nat (m / L.length) R (.inl hR))) (y := nD (L.getD (m % L.length) 0)) ?_ (fAdd_nat _ _)))) rfl
  show mIxV 0 (mVar 4) _ = _
  refine bind_ok rfl (bind_ok (a := .tup (L.map nD)) rfl ?_)
  show mOpt (atI (L.map nD) ((m % L.length : Nat) : Int)) _ = _
  rw [atI_map nD _ _ (dd_get h0 m)]
  rfl
theorem steps_get (h0 : 0 < D.length) (m : Nat) : ((List.range D.length).map fun s => gp D R s).getD (m % D.length) 0 = gp D R (m % D.length) := by
  rw [List.getD_eq_getElem?_getD, List.getElem?_map, List.getElem?_range (Nat.mod_lt m h0)]; rfl
theorem ring_gap_ok (b : Bool) (L : List Nat) (h : Ring (sortN L) R) (nd : L.Nodup) (hl : L.length < 1000) (hR : R < 1000000000000000000) (m : Nat) : m_ring_gap [sqD b (L.map nD), nD R, nD m] = .ret (nD (gp (sortN L) R m)) .non := by
  have hlen : (sortN L).length = L.length := (sortN_perm L).length_eq
  have h0 := h.n0
  have e1 := need_days_ok b L R (by omega) hl nd (fun x hx => h.lt x ((sortN_perm L).mem_iff.mpr hx))
  have e2 := longest_ok h (by omega)
  have e2' : (List.range (sortN L).length).map (fun s => nD (gp (sortN L) R s)) = ((List.range (sortN L).length).map fun s => gp (sortN L) R s).map nD := by rw [List.map_map]; rfl
  rw [e2'] at e2
  have e3 := stair_ok (R := R) ((List.range (sortN L).length).map fun s => gp (sortN L) R s) m (by rw [List.length_map, List.length_range]; omega) (by rw [List.length_map, List.length_range]; omega) hR
  rw [List.length_map, List.length_range, steps_get h0, ← gp_div h] at e3
  exact runF_rt (seq_nx (ρ' := [vl (sqD b (L.map nD)), vl (nD R), vl (nD m), vl (.tup ((sortN L).map nD))]) (set_ok (call_ok (ds := [sqD b (L.map nD), nD R]) (r := .non) rfl rfl e1) rfl) (ret_ok (call_ok (ds := [.tup (((List.range (sortN L).length).map fun s => gp (sortN L) R s).map nD), nD R, nD m]) (r := .non) (cons_ok (call_ok (ds := [.tup ((sortN L).map nD), nD R]) (r := .non) rfl rfl e2) rfl) rfl e3))) rfl
end Dl
namespace Dl
open PySem PySem.Spec PyProof.Rows L2
variable {p : Nat} {rs : List Rw}
/-! ### due days as days on a ring -/
/-! ### a rota begun later -/
theorem cut_from {α : Type} (l : List α) (f : Nat) (h : f ≤ l.length) : cutD l (some (f : Int)) none = l.drop f := by
  unfold cutD
  have e1 : HT.sIx l.length 0 (some (f : Int)) = f := by
    rw [HT.sIx_nat]
    omega
  have e2 : HT.sIx l.length l.length none = l.length := by simp [HT.sIx]
  rw [e1, e2, List.take_of_length_le (by rw [List.length_drop]; omega)]
theorem cut_to {α : Type} (l : List α) (f : Nat) (h : f ≤ l.length) : cutD l none (some (f : Int)) = l.take f := by
  unfold cutD
  have e1 : HT.sIx l.length l.length (some (f : Int)) = f := by
    rw [HT.sIx_nat]
    omega
  have e2 : HT.sIx l.length 0 none = 0 := by simp [HT.sIx]
  rw [e1, e2, List.drop_zero, Nat.sub_zero]
end Dl
namespace Dl
open PySem PySem.Spec PyProof.Rows L2
/-! ### texts that are compared -/
theorem strOk_of (s : String) : PyData.canLay0 (.str (Str.ofString s)) = true := by
  have key : ∀ c : Char, c.toNat < 1114112 := fun c => by
    have h1 := c.valid
    rcases h1 with h1 | h1
    · have : c.toNat < 55296 := h1
      omega
    · exact h1.2
  rw [Str.ofString_eq_toList]
  simp only [PyData.canLay0, PyData.strOk]
  rw [List.all_toArray, List.all_map, List.all_eq_true]
  intro c _
  exact decide_eq_true (key c)
theorem flt_str {k : Nat} (s : String) : Flt k (.str (Str.ofString s)) := .str (strOk_of s)
theorem dIn_nats {b : Bool} (a : Nat) (l : List Nat) : dIn (nD a) (sqD b (l.map nD)) = some (decide (a ∈ l)) := by
  have h := in_nats (b := b) a l
  unfold fInA at h
  cases q : dIn (nD a) (sqD b (l.map nD)) with
  | none => rw [q] at h; cases h
  | some c => rw [q] at h; cases h; rfl
theorem notin_nats {b : Bool} (a : Nat) (l : List Nat) : fNotInA (nD a) (sqD b (l.map nD)) = some (.bl (!decide (a ∈ l))) := by
  unfold fNotInA; rw [dIn_nats]; rfl
/-! ### drawn days of a ring -/
theorem daysC_any (q : Int × Int) (P most : Nat) (hP : 0 < P) (hP2 : P < 1000000000000000000) (h1 : 0 < most) (h2 : most < 100) : ∃ (L : List Nat) (q' : Int × Int), 0 < L.length ∧ L.length ≤ most ∧ L.Nodup ∧ (∀ x ∈ L, x < P) ∧
    m_law_days_v2 [cxD q, nD P, nD most] = .ret (.lst (L.map nD)) (cxD q') := by
  obtain ⟨n, q1, e3, e4⟩ := takeC_nat q most h1 (by omega)
  let bd : En → So := (sSeq (sSet 5 (mCallIo 2 m_law_take_v2 0 (mCons (mVar 1) (mPure []))))
    (sDrop (ownLst 3 (mExtend 3 (mIfE (mB (m2 fNotInA (mVar 5) (mPeek 3))) (mLst (mCons (mVar 5) (mPure []))) (mLst (mPure [])))))))
  obtain ⟨ρ', e5, q2, L, s4, s5, hl, hne, nd, lt, rfl⟩ := forGo_inv (g := gV 4) (bd := bd) nD (fun pre ρ => ∃ (q' : Int × Int) (L : List Nat) (s4 s5 : Option Dt), L.length ≤ pre.length ∧ (0 < pre.length → 0 < L.length) ∧ L.Nodup ∧ (∀ x ∈ L, x < P) ∧ ρ = [io (cxD q'), vl (nD P), vl (nD most), ow (.lst (L.map nD)), lv s4, lv s5]) (List.range (1 + n)) []
    [io (cxD q1), vl (nD P), vl (nD most), ow (.lst []), none, none] ⟨q1, [], none, none, Nat.le_refl _, (fun h => by simp at h), List.nodup_nil, (fun _ h => nomatch h), rfl⟩ (by
      rintro pre x post ρ e ⟨q', L, s4, s5, hl, hne, nd, lt, rfl⟩
      have hlen : pre.length + (post.length + 1) = 1 + n := by
        have := congrArg List.length e
        simpa using this.symm
      obtain ⟨d, q3, hd, t3⟩ := takeC_nat q' P hP (by omega)
      have st1 : sSet 5 (mCallIo 2 m_law_take_v2 0 (mCons (mVar 1) (mPure []))) [io (cxD q'), vl (nD P), vl (nD most), ow (.lst (L.map nD)), vl (nD x), lv s5] = .nx [io (cxD q3), vl (nD P), vl (nD most), ow (.lst (L.map nD)), vl (nD x), vl (nD d)] :=
        set_ok (callIo_ok (d0 := cxD q') (io0 := true) (io := true) (d1 := cxD q') (ds := [nD P]) rfl rfl rfl rfl t3 rfl) (by cases s5 <;> rfl)
      have et : mB (m2 fNotInA (mVar 5) (mPeek 3)) [io (cxD q3), vl (nD P), vl (nD most), ow (.lst (L.map nD)), vl (nD x), vl (nD d)] = .ok (!decide (d ∈ L)) [io (cxD q3), vl (nD P), vl (nD most), ow (.lst (L.map nD)), vl (nD x), vl (nD d)] := tb_ok (m2_ok (y := sqD false (L.map nD)) rfl rfl (notin_nats d L))
      by_cases hin : d ∈ L
      · rw [decide_eq_true hin] at et
        refine ⟨[io (cxD q'), vl (nD P), vl (nD most), ow (.lst (L.map nD)), vl (nD x), lv s5], by cases s4 <;> rfl, [io (cxD q3), vl (nD P), vl (nD most), ow (.lst (L.map nD)), vl (nD x), vl (nD d)], .inl (seq_nx st1 (drop_ok (extend_ok (es := L.map nD) (ds := L.map nD) (zs := []) rfl (ife_f et rfl) rfl (by simp; omega) (by rw [List.append_nil]; rfl)))), q3, L, some (nD x), some (nD d), by rw [List.length_append]; omega, fun _ => List.length_pos_of_mem hin, nd, lt, rfl⟩
      · rw [decide_eq_false hin] at et
        refine ⟨[io (cxD q'), vl (nD P), vl (nD most), ow (.lst (L.map nD)), vl (nD x), lv s5], by cases s4 <;> rfl, [io (cxD q3), vl (nD P), vl (nD most), ow (.lst ((L ++ [d]).map nD)), vl (nD x), vl (nD d)], .inl (seq_nx st1 (drop_ok (extend_ok (es := L.map nD) (ds := L.map nD) (zs := [nD d]) rfl (ife_t et (lst_ok rfl (sl_le (by simp)))) rfl (by simp; omega) (by rw [List.map_append]; rfl)))), q3, L ++ [d], some (nD x), some (nD d), by rw [List.length_append, List.length_append]; simp; omega, fun _ => by simp, ?_, fun y hy => ?_, rfl⟩
        · rw [List.nodup_append]
          exact ⟨nd, by simp, fun a ha b hb => by rw [List.mem_singleton] at hb; rw [hb]; intro z; exact hin (z ▸ ha)⟩
        · rcases List.mem_append.mp hy with h | h
          · exact lt y h
          · rw [List.mem_singleton.mp h]; exact hd)
  rw [List.nil_append, List.length_range] at hl hne
  refine ⟨L, q2, hne (by omega), by omega, nd, lt, runF_rt (ρ := [io (cxD q2), vl (nD P), vl (nD most), vl (.lst (L.map nD)), lv s4, lv s5]) ?_ rfl⟩
  unfold b_law_days_v2
  have c2 : (1 : Int) + (n : Int) = ((1 + n : Nat) : Int) := by omega
  refine seq_nx (ρ' := [io (cxD q), vl (nD P), vl (nD most), ow (.lst []), none, none]) (setN_ok (d := .lst []) rfl rfl) ?_
  refine seq_nx (for_ok (rngN_ok (N := 1 + n) (ρ1 := [io (cxD q1), vl (nD P), vl (nD most), ow (.lst []), none, none]) (cons_ok (m2_ok rfl (callIo_ok (d0 := cxD q) (io0 := true) (io := true) (d1 := cxD q) (ds := [nD most]) rfl rfl rfl rfl e4 rfl) ?_) rfl) (by omega)) e5) ?_
  · show some (Dt.int (1 + (n : Int))) = _
    rw [c2]
  · rfl
/-! ### the law's own gap -/
variable {D : List Nat} {R : Nat}
theorem sort_asc' : ∀ (x : Nat) (l : List Nat), l.Pairwise (· < ·) → x ∉ l → (insN x l).Pairwise (· < ·)
  | x, [], _, _ => by unfold insN; simp
  | x, y :: r, h, hx => by
    rw [List.pairwise_cons] at h
    have hxy : x ≠ y := fun z => hx (by simp [z])
    unfold insN
    split
    · rename_i hle
      rw [List.pairwise_cons]
      refine ⟨fun z hz => ?_, List.pairwise_cons.mpr h⟩
      rcases List.mem_cons.mp hz with rfl | hz
      · omega
      · have := h.1 z hz; omega
    · rename_i hle
      rw [List.pairwise_cons]
      refine ⟨fun z hz => ?_, sort_asc' x r h.2 fun z => hx (by simp [z])⟩
      rcases List.mem_cons.mp ((insN_perm x r).mem_iff.mp hz) with rfl | hz
      · omega
      · exact h.1 z hz
theorem sortN_asc' : ∀ {l : List Nat}, l.Nodup → (sortN l).Pairwise (· < ·)
  | [], _ => List.Pairwise.nil
  | x :: l, h => by
    rw [List.nodup_cons] at h
    exact sort_asc' x (sortN l) (sortN_asc' h.2) fun z => h.1 ((sortN_perm l).mem_iff.mp z)
theorem ring_of {L : List Nat} (h0 : 0 < L.length) (nd : L.Nodup) (lt : ∀ x ∈ L, x < R) : Ring (sortN L) R :=
  ⟨by rw [(sortN_perm L).length_eq]; exact h0, fun x hx => lt x ((sortN_perm L).mem_iff.mp hx), sortN_asc' nd⟩
end Dl
namespace Dl
open PySem PySem.Spec PyProof.Rows L2
variable {p : Nat} {rs : List Rw}
theorem pick_w (D w : Nat) (hw : w < p) : ((dueP p rs D).filter fun q => decide (q.2 = w)).map (·.1) = (List.range D).filter (isDue rs w) := by
  induction D with
  | zero => simp [dueP]
  | succ D ih =>
    rw [dueP_succ, List.filter_append, List.map_append, ih, List.range_succ, List.filter_append]
    congr 1
    unfold dueAt
    rw [List.filter_map, List.map_map, List.filter_filter]
    have e3 : (List.range p).filter (fun a => ((fun q : Nat × Nat => decide (q.2 = w)) ∘ fun w => (D, w)) a && isDue rs a D) = ((List.range p).filter fun a => decide (a = w)).filter fun _ => isDue rs w D := by
      rw [List.filter_filter]
      apply List.filter_congr
      intro a _
      by_cases ha : a = w
      · subst ha; simp
      · simp [ha]
    have e4 := find_one (f := fun v => v) (p := p) (fun a b _ _ z => z) hw
    rw [e3, e4]
    cases hd : isDue rs w D <;> simp [hd]
end Dl
namespace Dl
open PySem PySem.Spec PyProof.Rows L2
variable {p : Nat} {rs : List Rw}
/-! ### pairs and triples among others -/
theorem pr_flt {k : Nat} (q : Nat × Nat) : Flt (k + 1) (prD q) := .tup fun x hx => by
  simp only [List.mem_cons, List.not_mem_nil, or_false] at hx
  rcases hx with rfl | rfl <;> exact .int _
/-- a look -/
abbrev Lk := Nat × Nat × Nat
/-! ### dicts with pairs as keys -/
theorem mem_dueP {D : Nat} {q : Nat × Nat} : q ∈ dueP p rs D ↔ q.1 < D ∧ q.2 < p ∧ isDue rs q.2 q.1 = true := by
  unfold dueP dueAt
  rw [List.mem_flatMap]
  constructor
  · rintro ⟨d, hd, h⟩
    obtain ⟨w, hw, rfl⟩ := List.mem_map.mp h
    rw [List.mem_filter, List.mem_range] at hw
    exact ⟨List.mem_range.mp hd, hw.1, hw.2⟩
  · rintro ⟨h1, h2, h3⟩
    exact ⟨q.1, List.mem_range.mpr h1, List.mem_map.mpr ⟨q.2, List.mem_filter.mpr ⟨List.mem_range.mpr h2, h3⟩, rfl⟩⟩
theorem dueP_nodup (D : Nat) : (dueP p rs D).Nodup := by
  unfold dueP
  rw [List.nodup_iff_pairwise_ne, List.pairwise_flatMap]
  refine ⟨fun d _ => ?_, ?_⟩
  · unfold dueAt
    rw [List.pairwise_map]
    exact (List.nodup_iff_pairwise_ne.mp (List.nodup_range.filter _)).imp fun h e => h (by injection e)
  · refine (List.nodup_iff_pairwise_ne.mp List.nodup_range).imp fun h x hx y hy e => h ?_
    unfold dueAt at hx hy
    obtain ⟨a, _, rfl⟩ := List.mem_map.mp hx
    obtain ⟨b, _, e2⟩ := List.mem_map.mp hy
    rw [← e2] at e
    injection e
/-! ### all due turnings -/
end Dl
namespace Dl
open PySem PySem.Spec PyProof.Rows L2
variable {p : Nat} {rs : List Rw}
/-! ### nested comprehensions -/
/-- all looks that can be -/
def allLk (p D : Nat) : List Lk := (List.range (D + 1)).flatMap fun d => (List.range p).flatMap fun w => (List.range 2).flatMap fun s => [(d, w, s)]
theorem mem_allLk {p D : Nat} {q : Lk} : q ∈ allLk p D ↔ q.1 ≤ D ∧ q.2.1 < p ∧ q.2.2 < 2 := by
  obtain ⟨d, w, s⟩ := q
  unfold allLk
  simp only [List.mem_flatMap, List.mem_range, List.mem_cons, List.not_mem_nil, or_false, Prod.mk.injEq]
  constructor
  · rintro ⟨a, ha, b, hb, c, hc, rfl, rfl, rfl⟩
    exact ⟨by omega, hb, hc⟩
  · rintro ⟨h1, h2, h3⟩
    exact ⟨d, by omega, w, h2, s, h3, rfl, rfl, rfl⟩
/-! ### a season is made -/
structure GoodLk (p D : Nat) (q : Lk) : Prop where
  d : q.1 ≤ D
  w : q.2.1 < p
  s : q.2.2 < 2
/-- the looks of a season, ascending -/
def lksOf (p D : Nat) (L : List Lk) : List Lk := (allLk p D).filter fun q => decide (q ∈ L)
end Dl
namespace Dl
open PySem PySem.Spec PyProof.Rows L2
variable {p : Nat} {rs : List Rw} {D b : Nat} {L : List Lk}
/-! ### misses -/
structure Miss (p : Nat) (rs : List Rw) (D : Nat) (M : List (Nat × Nat)) : Prop where
  nd : M.Nodup
  mem : ∀ q ∈ M, q ∈ dueP p rs D
theorem Miss.len {M : List (Nat × Nat)} (h : Miss p rs D M) : M.length ≤ D * p := by
  have h1 : M.length ≤ (dueP p rs D).length := List.Nodup.length_le_of_subset h.nd fun q hq => h.mem q hq
  have h2 := dueP_len (p := p) (rs := rs) D
  omega
/-! ### what was turned -/
/-- the days ahead of one on which a wheel was turned -/
def madeL (rs : List Rw) (D : Nat) (M : List (Nat × Nat)) (w day : Nat) : List Nat := ((List.range D).filter (isDue rs w)).filter fun d => decide (d < day) && !decide ((d, w) ∈ M)
def sideN (rs : List Rw) (D : Nat) (M : List (Nat × Nat)) (day w : Nat) : Nat := (madeL rs D M w day).length % 2
/-! ### looks that break -/
theorem fne_nat (a b : Nat) : fNe (nD a) (nD b) = some (.bl (!decide (a = b))) := by
  rw [fne_int]
  congr 3
  exact decide_eq_decide.mpr (by omega)
theorem fLe_nat (a b : Nat) : fLe (nD a) (nD b) = some (.bl (decide (a ≤ b))) := by
  show some (Dt.bl _) = some (Dt.bl _)
  congr 2
  exact decide_eq_decide.mpr (by omega)
end Dl
namespace Dl
open PySem PySem.Spec PyProof.Rows L2
variable {p : Nat} {rs : List Rw} {D b : Nat} {L : List Lk}
/-! ### misses are drawn -/
/-! ### the law's own sides -/
theorem rep_map (n : Nat) (x : Dt) : (List.replicate n [x]).flatten = (List.range n).map fun _ => x := by
  induction n with
  | zero => rfl
  | succ n ih =>
    rw [List.replicate_succ, List.flatten_cons, ih, List.range_succ_eq_map, List.map_cons, List.map_map]; rfl
theorem rep_ok {ma mb : Mi Dt} {ρ : En} {x : Dt} {n : Nat} (ha : ma ρ = .ok (.lst [x]) ρ) (hb : mb ρ = .ok (nD n) ρ) (hn : n ≤ 1000) : mRep ma mb ρ = .ok (.lst ((List.range n).map fun _ => x)) ρ := by
  have hc : -(2 ^ 63) ≤ (n : Int) ∧ (n : Int) < 2 ^ 63 ∧ [x].length * ((n : Int)).toNat ≤ sizeLine :=
    ⟨Int.le_trans (by decide) (Int.natCast_nonneg n), Int.lt_trans (show (n : Int) < 2000 by omega) (by decide), sl_le (by rw [List.length_singleton]; omega)⟩
  unfold mRep
  refine bind_ok ha (bind_ok hb ?_)
  show (if _ then mPure (Dt.lst (List.replicate ((n : Int)).toNat [x]).flatten) else mBad) ρ = _
  rw [if_pos hc, show ((n : Int)).toNat = n by omega, rep_map]; rfl
/-! ### looks are drawn -/
end Dl
namespace Dl
open PySem PySem.Spec PyProof.Rows L2
variable {p : Nat} {rs : List Rw} {D b : Nat} {L : List Lk}
/-! ### a season of the told rota -/
theorem Miss.sub {M N : List (Nat × Nat)} (h : Miss p rs D M) (e : N.Sublist M) : Miss p rs D N := ⟨h.nd.sublist e, fun q hq => h.mem q (e.subset hq)⟩
theorem Miss.nil : Miss p rs D [] := ⟨List.nodup_nil, fun q hq => nomatch hq⟩
theorem flt_prs {k : Nat} (M : List (Nat × Nat)) : ∀ x ∈ M.map prD, Flt (k + 1) x := fun x hx => by
  obtain ⟨q, _, rfl⟩ := List.mem_map.mp hx
  exact pr_flt q
end Dl
namespace Dl
open PySem PySem.Spec PyProof.Rows L2
variable {p : Nat} {rs : List Rw} {D : Nat} {M : List (Nat × Nat)}
/-! ### what was turned ahead of a day, by the days themselves -/
/-! ### small steps -/
theorem gt_nat (a b : Nat) : fGt (nD a) (nD b) = some (.bl (decide (b < a))) := by
  show some (Dt.bl _) = some (Dt.bl _)
  congr 2
  exact decide_eq_decide.mpr (by omega)
end Dl
namespace Dl
open PySem PySem.Spec PyProof.Rows L2
variable {p : Nat} {rs : List Rw} {D b : Nat} {M : List (Nat × Nat)} {L K : List Lk}
theorem lks_good (K : List Lk) : ∀ q ∈ lksOf p D K, GoodLk p D q := fun q hq => by
  have := mem_allLk.mp (List.mem_filter.mp hq).1
  exact ⟨this.1, this.2.1, this.2.2⟩
theorem lks_mem {K : List Lk} {q : Lk} (h : q ∈ lksOf p D K) : q ∈ K := of_decide_eq_true (List.mem_filter.mp h).2
theorem mem_lks {K : List Lk} {q : Lk} (h : q ∈ K) (hg : GoodLk p D q) : q ∈ lksOf p D K := List.mem_filter.mpr ⟨mem_allLk.mpr ⟨hg.d, hg.w, hg.s⟩, decide_eq_true h⟩
/-! ### how many looks break -/
theorem filter_eq_one {α : Type} [DecidableEq α] {z : α} : ∀ {l : List α}, l.Nodup → z ∈ l → (l.filter fun x => decide (x = z)).length = 1
  | [], _, h => by cases h
  | x :: l, nd, h => by
    rw [List.nodup_cons] at nd
    by_cases e : x = z
    · subst e
      rw [List.filter_cons_of_pos (by simp), List.length_cons]
      have : l.filter (fun y => decide (y = x)) = [] := by
        rw [List.filter_eq_nil_iff]
        intro y hy
        simp
        intro e2; exact nd.1 (e2 ▸ hy)
      rw [this]; rfl
    · rw [List.filter_cons_of_neg (by simpa using e)]
      exact filter_eq_one nd.2 (by simpa [Ne.symm e] using h)
/-! ### the first miss is made up for -/
theorem meth_ok {c n : Nat} {f : List Dt → Fo} {m : Mi Dt} {ms : Mi (List Dt)} {ρ ρ1 ρ2 : En} {vs ds : List Dt} {d r : Dt} (hm : m ρ = .ok (.ins c vs) ρ1) (h : ms ρ1 = .ok ds ρ2) (hn : ds.length + 1 = n) (hf : f (.ins c vs :: ds) = .ret d r) : mMeth c n f m ms ρ = .ok d ρ2 := by
  unfold mMeth
  refine bind_ok hm ?_
  dsimp only
  rw [if_pos rfl]
  refine bind_ok h ?_
  rw [if_pos (by rw [List.length_cons]; exact hn), hf]
end Dl
namespace Dl
open PySem PySem.Spec PyProof.Rows L2
variable {p : Nat} {rs : List Rw} {D b : Nat} {M : List (Nat × Nat)} {K : List Lk}
/-! ### places by other numbers -/
/-- an order of the places -/
structure Ord (p : Nat) (o : List Nat) : Prop where
  pm : o.Perm (List.range p)
theorem Ord.len {o : List Nat} (h : Ord p o) : o.length = p := by rw [h.pm.length_eq, List.length_range]
theorem Ord.nd {o : List Nat} (h : Ord p o) : o.Nodup := h.pm.nodup_iff.mpr List.nodup_range
def oat (o : List Nat) (w : Nat) : Nat := o.getD w 0
theorem Ord.get {o : List Nat} (h : Ord p o) {w : Nat} (hw : w < p) : o[w]? = some (oat o w) := by
  unfold oat
  rw [List.getD_eq_getElem?_getD, List.getElem?_eq_getElem (by rw [h.len]; exact hw)]; rfl
theorem Ord.lt {o : List Nat} (h : Ord p o) {w : Nat} (hw : w < p) : oat o w < p := List.mem_range.mp (h.pm.mem_iff.mp (List.mem_of_getElem? (h.get hw)))
theorem Ord.inj {o : List Nat} (h : Ord p o) {a b : Nat} (ha : a < p) (hb : b < p) (e : oat o a = oat o b) : a = b := by
  have h1 := h.get ha
  have h2 := h.get hb
  rw [e] at h1
  have la : a < o.length := by rw [h.len]; exact ha
  have lb : b < o.length := by rw [h.len]; exact hb
  rw [List.getElem?_eq_getElem la] at h1
  rw [List.getElem?_eq_getElem lb] at h2
  exact (List.getElem_inj h.nd).mp ((Option.some.inj h1).trans (Option.some.inj h2).symm)
end Dl
namespace Dl
/-! ### lots: all sublists, ascending as tuples -/
section
variable {α : Type}
def lotT : List α → List (List α)
  | [] => []
  | x :: xs => ([] :: lotT xs).map (x :: ·) ++ lotT xs
def lots (xs : List α) : List (List α) := [] :: lotT xs
theorem cnt_cons (p : List α → Bool) (x : α) (xs : List α) : (lots (x :: xs)).countP p = (lots xs).countP (fun L => p (x :: L)) + (lots xs).countP p := by
  unfold lots
  rw [lotT, List.countP_cons, List.countP_append, List.countP_map, List.countP_cons]
  rw [List.countP_cons, List.countP_cons (l := lotT xs) (p := p)]
  simp only [Function.comp_def]
  omega
theorem cnt_nil (p : List α → Bool) : (lots ([] : List α)).countP p = if p [] = true then 1 else 0 := by
  unfold lots lotT; rw [List.countP_cons, List.countP_nil, Nat.zero_add]
theorem mem_lots {L : List α} : ∀ {xs : List α}, L ∈ lots xs ↔ L.Sublist xs
  | [] => by unfold lots lotT; simp
  | x :: xs => by
    have ih := @mem_lots L xs
    have ih2 := fun (M : List α) => @mem_lots M xs
    unfold lots at ih ih2 ⊢
    rw [lotT, List.mem_cons, List.mem_append, List.mem_map]
    constructor
    · rintro (h | ⟨M, h1, h2⟩ | h)
      · subst h; exact List.nil_sublist _
      · subst h2; exact ((ih2 M).mp h1).cons_cons x
      · exact (ih.mp (List.mem_cons_of_mem _ h)).cons x
    · intro h
      cases h with
      | cons _ h =>
        rcases List.mem_cons.mp (ih.mpr h) with e | e
        · exact .inl e
        · exact .inr (.inr e)
      | cons_cons _ h => exact .inr (.inl ⟨_, (ih2 _).mpr h, rfl⟩)
/-- a lot is parted by a test -/
theorem cnt_split (q : α → Bool) : ∀ (xs : List α) (P : List α → List α → Bool),
    (lots xs).countP (fun L => P (L.filter q) (L.filter fun x => !q x)) = ((lots (xs.filter q)).map fun A => (lots (xs.filter fun x => !q x)).countP (P A)).sum
  | [], P => by
    rw [cnt_nil]; simp only [List.filter_nil]
    show _ = ((lots ([] : List α)).map _).sum
    unfold lots lotT
    by_cases h : P [] [] = true
    · simp [List.countP_cons, h]
    · simp [List.countP_cons, h]
  | x :: xs, P => by
    rw [cnt_cons]
    by_cases hx : q x = true
    · have e1 := cnt_split q xs (fun A B => P (x :: A) B)
      have e2 := cnt_split q xs P
      rw [List.filter_cons_of_pos hx, List.filter_cons_of_neg (by simp [hx])]
      simp only [List.filter_cons_of_pos hx, List.filter_cons_of_neg (p := fun x => !q x) (a := x) (by simp [hx])]
      rw [e1, e2]
      have key : ∀ (f : List α → Nat), ((lots (x :: xs.filter q)).map f).sum = ((lots (xs.filter q)).map fun A => f (x :: A)).sum + ((lots (xs.filter q)).map f).sum := by
        intro f
        unfold lots
        rw [lotT]
        simp only [List.map_cons, List.map_append, List.sum_cons, List.sum_append, List.map_map, Function.comp_def]
        omega
      rw [key]
    · have hx' : q x = false := by simpa using hx
      have e1 := cnt_split q xs (fun A B => P A (x :: B))
      have e2 := cnt_split q xs P
      rw [List.filter_cons_of_neg hx, List.filter_cons_of_pos (p := fun x => !q x) (by simp [hx'])]
      simp only [List.filter_cons_of_neg hx, List.filter_cons_of_pos (p := fun x => !q x) (a := x) (by simp [hx'])]
      rw [e1, e2]
      have key : ∀ (l : List (List α)) (f g : List α → Nat), (l.map f).sum + (l.map g).sum = (l.map fun A => f A + g A).sum := by
        intro l f g
        induction l with
        | nil => rfl
        | cons a l ih => simp only [List.map_cons, List.sum_cons]; omega
      rw [key]
      congr 1
      apply List.map_congr_left
      intro A _
      rw [cnt_cons]
end
/-! ### sums by sizes -/
def conv (f g : Nat → Nat) (j : Nat) : Nat := ((List.range (j + 1)).map fun i => f i * g (j - i)).sum
theorem sum_zero {α : Type} {l : List α} {f : α → Nat} (h : ∀ x ∈ l, f x = 0) : (l.map f).sum = 0 := by
  induction l with
  | nil => rfl
  | cons a l ih => rw [List.map_cons, List.sum_cons, h a (by simp), ih fun x hx => h x (List.mem_cons_of_mem _ hx)]
theorem sum_pos {α : Type} {l : List α} {f : α → Nat} {x : α} (hx : x ∈ l) (h : 0 < f x) : 0 < (l.map f).sum := by
  induction l with
  | nil => cases hx
  | cons a l ih =>
    rw [List.map_cons, List.sum_cons]
    rcases List.mem_cons.mp hx with e | e
    · subst e; omega
    · have := ih e; omega
theorem sum_add {α : Type} (l : List α) (f g : α → Nat) : (l.map f).sum + (l.map g).sum = (l.map fun A => f A + g A).sum := by
  induction l with
  | nil => rfl
  | cons a l ih => simp only [List.map_cons, List.sum_cons]; omega
theorem sum_congr {α : Type} {l : List α} {f g : α → Nat} (h : ∀ x ∈ l, f x = g x) : (l.map f).sum = (l.map g).sum := by
  rw [List.map_congr_left h]
/-- a sum over things by their sizes -/
theorem sum_by_size {α : Type} (sz : α → Nat) (ok : α → Bool) (g : Nat → Nat) (j : Nat) : ∀ l : List α,
    (l.map fun A => if ok A = true ∧ sz A ≤ j then g (j - sz A) else 0).sum = conv (fun i => l.countP fun A => ok A && decide (sz A = i)) g j
  | [] => by
    unfold conv
    rw [List.map_nil]
    exact (sum_zero fun i _ => by simp).symm
  | a :: l => by
    rw [List.map_cons, List.sum_cons, sum_by_size sz ok g j l]
    unfold conv
    have e : ((List.range (j + 1)).map fun i => (if (ok a && decide (sz a = i)) = true then 1 else 0) * g (j - i)).sum = if ok a = true ∧ sz a ≤ j then g (j - sz a) else 0 := by
      by_cases ha : ok a = true
      · by_cases hs : sz a ≤ j
        · rw [if_pos ⟨ha, hs⟩]
          have : ∀ n, ((List.range n).map fun i => (if (ok a && decide (sz a = i)) = true then 1 else 0) * g (j - i)).sum = if sz a < n then g (j - sz a) else 0 := by
            intro n
            induction n with
            | zero => rfl
            | succ n ih =>
              rw [List.range_succ, List.map_append, List.sum_append, ih]
              simp only [List.map_cons, List.map_nil, List.sum_cons, List.sum_nil, ha, Bool.true_and, decide_eq_true_eq]
              by_cases h1 : sz a = n
              · subst h1
                simp
              · rw [if_neg h1]
                by_cases h2 : sz a < n
                · rw [if_pos h2, if_pos (by omega)]; omega
                · rw [if_neg h2, if_neg (by omega)]; omega
          rw [this, if_pos (by omega)]
        · rw [if_neg (fun z => hs z.2)]
          exact sum_zero fun i hi => by
            have := List.mem_range.mp hi
            have hne : sz a ≠ i := by omega
            simp [hne]
      · rw [if_neg (fun z => ha z.1)]
        exact sum_zero fun i hi => by simp [ha]
    rw [← e, sum_add]
    apply sum_congr
    intro i _
    dsimp only
    rw [List.countP_cons, Nat.add_mul, Nat.add_comm]
/-- the first size that there is -/
def Lead (f : Nat → Nat) (k : Nat) : Prop := 0 < f k ∧ ∀ i, i < k → f i = 0
theorem conv_lead {f g : Nat → Nat} {a b : Nat} (h1 : Lead f a) (h2 : Lead g b) : Lead (conv f g) (a + b) := by
  constructor
  · unfold conv
    refine sum_pos (x := a) (List.mem_range.mpr (by omega)) ?_
    rw [show a + b - a = b by omega]
    exact Nat.mul_pos h1.1 h2.1
  · intro i hi
    unfold conv
    refine sum_zero fun x hx => ?_
    have hx := List.mem_range.mp hx
    by_cases hxa : x < a
    · rw [h1.2 x hxa, Nat.zero_mul]
    · rw [h2.2 (i - x) (by omega), Nat.mul_zero]
theorem conv_none {f g : Nat → Nat} (h : (∀ i, f i = 0) ∨ ∀ i, g i = 0) (j : Nat) : conv f g j = 0 := by
  unfold conv
  refine sum_zero fun x _ => ?_
  rcases h with h | h
  · rw [h, Nat.zero_mul]
  · rw [h, Nat.mul_zero]
/-! ### Pascal's numbers -/
def ch : Nat → Nat → Nat
  | _, 0 => 1
  | 0, _ + 1 => 0
  | n + 1, k + 1 => ch n k + ch n (k + 1)
theorem ch_zero (n : Nat) : ch n 0 = 1 := by cases n <;> rfl
theorem ch_over : ∀ (n k : Nat), n < k → ch n k = 0
  | _, 0, h => by omega
  | 0, k + 1, _ => rfl
  | n + 1, k + 1, h => by
    show ch n k + ch n (k + 1) = 0
    rw [ch_over n k (by omega), ch_over n (k + 1) (by omega)]
theorem ch_one : ∀ n, ch n 1 = n
  | 0 => rfl
  | n + 1 => by show ch n 0 + ch n 1 = n + 1; rw [ch_zero, ch_one n]; omega
/-- what is wanted of a lot: some are missed, some are made -/
def okMN {α : Type} [DecidableEq α] (M N : List α) (ps L : List α) : Bool := ps.all fun x => (!decide (x ∈ M) || decide (x ∈ L)) && (!decide (x ∈ N) || !decide (x ∈ L))
theorem okMN_iff {α : Type} [DecidableEq α] {M N ps L : List α} : okMN M N ps L = true ↔ ∀ x ∈ ps, (x ∈ M → x ∈ L) ∧ (x ∈ N → x ∉ L) := by
  unfold okMN
  rw [List.all_eq_true]
  constructor
  · intro h x hx
    have := h x hx
    simp only [Bool.and_eq_true, Bool.or_eq_true, Bool.not_eq_true', decide_eq_true_eq, decide_eq_false_iff_not] at this
    exact ⟨fun m => this.1.resolve_left (fun z => z m), fun n => this.2.resolve_left (fun z => z n)⟩
  · intro h x hx
    have := h x hx
    simp only [Bool.and_eq_true, Bool.or_eq_true, Bool.not_eq_true', decide_eq_true_eq, decide_eq_false_iff_not]
    exact ⟨(Decidable.em (x ∈ M)).symm.imp_right this.1, (Decidable.em (x ∈ N)).symm.imp_right this.2⟩
def goneN {α : Type} [DecidableEq α] (M : List α) (ps : List α) : Nat := ps.countP fun x => decide (x ∈ M)
def freeN {α : Type} [DecidableEq α] (M N : List α) (ps : List α) : Nat := ps.countP fun x => !decide (x ∈ M) && !decide (x ∈ N)
theorem cnt_size {α : Type} [DecidableEq α] {M N : List α} (hMN : ∀ x ∈ M, x ∉ N) : ∀ {ps : List α} (_ : ps.Nodup) (j : Nat),
    (lots ps).countP (fun A => okMN M N ps A && decide (A.length = j)) = if goneN M ps ≤ j then ch (freeN M N ps) (j - goneN M ps) else 0
  | [], _, j => by
    rw [cnt_nil]
    unfold okMN goneN freeN
    simp only [List.all_nil, List.length_nil, Bool.true_and, List.countP_nil, Nat.zero_le, if_true, Nat.sub_zero, decide_eq_true_eq]
    cases j with
    | zero => rfl
    | succ j => simp [ch]
  | x :: xs, nd, j => by
    have nd' := (List.nodup_cons.mp nd).2
    have hx := (List.nodup_cons.mp nd).1
    rw [cnt_cons]
    have sub : ∀ L ∈ lots xs, x ∉ L := fun L hL z => hx ((mem_lots.mp hL).subset z)
    have e1 : (lots xs).countP (fun L => okMN M N (x :: xs) (x :: L) && decide ((x :: L).length = j)) = if x ∈ N then 0 else if 0 < j then (lots xs).countP (fun A => okMN M N xs A && decide (A.length = j - 1)) else 0 := by
      have cg : ∀ L ∈ lots xs, (okMN M N (x :: xs) (x :: L) && decide ((x :: L).length = j)) = (if x ∈ N then false else if 0 < j then (okMN M N xs L && decide (L.length = j - 1)) else false) := by
        intro L hL
        have e : okMN M N (x :: xs) (x :: L) = (!decide (x ∈ N) && okMN M N xs L) := by
          unfold okMN
          rw [List.all_cons]
          simp only [List.mem_cons, true_or, decide_true, Bool.or_true, Bool.true_and, Bool.not_true, Bool.or_false]
          congr 1
          rw [Bool.eq_iff_iff, List.all_eq_true, List.all_eq_true]
          constructor
          · intro h y hy
            have hne : y ≠ x := fun z => hx (z ▸ hy)
            have := h y hy
            simpa [hne] using this
          · intro h y hy
            have hne : y ≠ x := fun z => hx (z ▸ hy)
            have := h y hy
            simpa [hne] using this
        rw [e, List.length_cons]
        by_cases hN : x ∈ N
        · simp [hN]
        · rw [if_neg hN]
          by_cases hj : 0 < j
          · rw [if_pos hj]
            have : decide (L.length + 1 = j) = decide (L.length = j - 1) := by
              apply decide_eq_decide.mpr; omega
            rw [this]; simp [hN]
          · rw [if_neg hj]
            have : decide (L.length + 1 = j) = false := by simp; omega
            rw [this, Bool.and_false]
      rw [List.countP_congr fun L hL => by rw [cg L hL]]
      by_cases hN : x ∈ N
      · simp [hN]
      · by_cases hj : 0 < j
        · simp [hN, hj]
        · simp [hN, hj]
    have e2 : (lots xs).countP (fun L => okMN M N (x :: xs) L && decide (L.length = j)) = if x ∈ M then 0 else (lots xs).countP (fun A => okMN M N xs A && decide (A.length = j)) := by
      have cg : ∀ L ∈ lots xs, (okMN M N (x :: xs) L && decide (L.length = j)) = (if x ∈ M then false else (okMN M N xs L && decide (L.length = j))) := by
        intro L hL
        have hxL := sub L hL
        unfold okMN
        rw [List.all_cons]
        by_cases hM : x ∈ M
        · simp [hM, hxL]
        · simp [hM, hxL]
      rw [List.countP_congr fun L hL => by rw [cg L hL]]
      by_cases hM : x ∈ M
      · simp [hM]
      · simp [hM]
    rw [e1, e2, cnt_size hMN nd', cnt_size hMN nd']
    unfold goneN freeN
    rw [List.countP_cons, List.countP_cons]
    by_cases hM : x ∈ M
    · have hN := hMN x hM
      simp only [hM, hN, if_true, if_false, decide_true, Bool.not_true, Bool.false_and, Bool.false_eq_true, Nat.add_zero]
      by_cases hj : 0 < j
      · rw [if_pos hj]
        by_cases h2 : xs.countP (fun x => decide (x ∈ M)) ≤ j - 1
        · rw [if_pos h2, if_pos (by omega)]
          congr 1; omega
        · rw [if_neg h2, if_neg (by omega)]
      · rw [if_neg hj, if_neg (by omega)]
    · by_cases hN : x ∈ N
      · simp [hM, hN]
      · simp only [hM, hN, if_false, decide_false, Bool.not_false, Bool.true_and, if_true, Bool.false_eq_true, Nat.add_zero]
        generalize hg : xs.countP (fun x => decide (x ∈ M)) = g
        generalize hf : xs.countP (fun x => !decide (x ∈ M) && !decide (x ∈ N)) = f
        by_cases hj : 0 < j
        · rw [if_pos hj]
          by_cases h2 : g ≤ j - 1
          · rw [if_pos h2, if_pos (by omega), if_pos (by omega)]
            have : j - g = (j - 1 - g) + 1 := by omega
            rw [this]; rfl
          · rw [if_neg h2, Nat.zero_add]
            by_cases h3 : g ≤ j
            · rw [if_pos h3, if_pos h3]
              have : j - g = 0 := by omega
              rw [this, ch_zero, ch_zero]
            · rw [if_neg h3, if_neg h3]
        · rw [if_neg hj, Nat.zero_add]
          by_cases h3 : g ≤ j
          · rw [if_pos h3, if_pos h3]
            have : j - g = 0 := by omega
            rw [this, ch_zero, ch_zero]
          · rw [if_neg h3, if_neg h3]
end Dl
namespace Dl
/-! ### parts: tests and what is asked of the number of the missed ones -/
section
variable {α : Type} [DecidableEq α]
abbrev Pt (α : Type) := (α → Bool) × (Nat → Bool)
def inAny (pre : List (Pt α)) (x : α) : Bool := pre.any fun t => t.1 x
def cntP (M N xs : List α) (pre : List (Pt α)) (j : Nat) : Nat :=
  (lots (xs.filter (inAny pre))).countP fun L => (okMN M N (xs.filter (inAny pre)) L && pre.all fun t => t.2 (L.countP t.1)) && decide (L.length = j)
def partP (M N xs : List α) (t : Pt α) (i : Nat) : Nat := (lots (xs.filter t.1)).countP fun A => (okMN M N (xs.filter t.1) A && t.2 A.length) && decide (A.length = i)
theorem inAny_app (pre : List (Pt α)) (t : Pt α) (x : α) : inAny (pre ++ [t]) x = (inAny pre x || t.1 x) := by
  unfold inAny; rw [List.any_append, List.any_cons, List.any_nil, Bool.or_false]
theorem cntP_nil (M N xs : List α) (j : Nat) : cntP M N xs [] j = if j = 0 then 1 else 0 := by
  unfold cntP
  have e : xs.filter (inAny ([] : List (Pt α))) = [] := by
    apply List.filter_eq_nil_iff.mpr
    intro x _; simp [inAny]
  rw [e, cnt_nil]
  simp only [okMN, List.all_nil, Bool.true_and, List.length_nil, decide_eq_true_eq]
  by_cases h : j = 0
  · simp [h]
  · rw [if_neg (fun z => h z.symm), if_neg h]
theorem cntP_snoc {M N xs : List α} {pre : List (Pt α)} {t : Pt α} (hd : ∀ x ∈ xs, inAny pre x = true → t.1 x = false) (j : Nat) : cntP M N xs (pre ++ [t]) j = conv (cntP M N xs pre) (partP M N xs t) j := by
  let U := xs.filter (inAny (pre ++ [t]))
  have hU : ∀ x, x ∈ U ↔ x ∈ xs ∧ (inAny pre x = true ∨ t.1 x = true) := fun x => by
    show x ∈ List.filter _ _ ↔ _
    rw [List.mem_filter, inAny_app, Bool.or_eq_true]
  have f1 : U.filter (fun x => !t.1 x) = xs.filter (inAny pre) := by
    show (xs.filter _).filter _ = _
    rw [List.filter_filter]
    apply List.filter_congr
    intro x hx
    rw [inAny_app]
    cases h1 : inAny pre x with
    | true => rw [hd x hx h1]; rfl
    | false => cases t.1 x <;> rfl
  have f2 : U.filter (fun x => !!t.1 x) = xs.filter t.1 := by
    show (xs.filter _).filter _ = _
    rw [List.filter_filter]
    apply List.filter_congr
    intro x hx
    rw [inAny_app]
    cases t.1 x with
    | true => simp
    | false => simp
  let P : List α → List α → Bool := fun B A => (okMN M N (xs.filter (inAny pre)) B && pre.all fun s => s.2 (B.countP s.1)) && ((okMN M N (xs.filter t.1) A && t.2 A.length) && decide (B.length + A.length = j))
  have e0 : cntP M N xs (pre ++ [t]) j = (lots U).countP fun L => P (L.filter fun x => !t.1 x) (L.filter fun x => !!t.1 x) := by
    show (lots U).countP _ = _
    apply List.countP_congr
    intro L hL
    have hLU : ∀ x ∈ L, x ∈ U := fun x hx => (mem_lots.mp hL).subset hx
    have e1 : okMN M N U L = (okMN M N (xs.filter (inAny pre)) (L.filter fun x => !t.1 x) && okMN M N (xs.filter t.1) (L.filter fun x => !!t.1 x)) := by
      rw [Bool.eq_iff_iff, Bool.and_eq_true, okMN_iff, okMN_iff, okMN_iff]
      constructor
      · intro h
        refine ⟨fun x hx => ?_, fun x hx => ?_⟩
        · obtain ⟨h1, h2⟩ := List.mem_filter.mp hx
          have h3 := hd x h1 h2
          have := h x ((hU x).mpr ⟨h1, .inl h2⟩)
          rw [List.mem_filter, h3]
          simpa using this
        · obtain ⟨h1, h2⟩ := List.mem_filter.mp hx
          have := h x ((hU x).mpr ⟨h1, .inr h2⟩)
          rw [List.mem_filter, h2]
          simpa using this
      · rintro ⟨ha, hb⟩ x hx
        obtain ⟨h1, h2 | h2⟩ := (hU x).mp hx
        · have := ha x (List.mem_filter.mpr ⟨h1, h2⟩)
          rw [List.mem_filter, hd x h1 h2] at this
          simpa using this
        · have := hb x (List.mem_filter.mpr ⟨h1, h2⟩)
          rw [List.mem_filter, h2] at this
          simpa using this
    have e2 : ((pre ++ [t]).all fun s => s.2 (L.countP s.1)) = ((pre.all fun s => s.2 ((L.filter fun x => !t.1 x).countP s.1)) && t.2 (L.filter fun x => !!t.1 x).length) := by
      rw [List.all_append, List.all_cons, List.all_nil, Bool.and_true]
      congr 1
      · rw [Bool.eq_iff_iff, List.all_eq_true, List.all_eq_true]
        have : ∀ s ∈ pre, (L.filter fun x => !t.1 x).countP s.1 = L.countP s.1 := by
          intro s hs
          rw [List.countP_filter]
          apply List.countP_congr
          intro x hx
          constructor
          · intro h; exact (Bool.and_eq_true _ _ ▸ h).1
          · intro h
            have : inAny pre x = true := List.any_eq_true.mpr ⟨s, hs, h⟩
            rw [h, hd x ((hU x).mp (hLU x hx)).1 this]; rfl
        exact ⟨fun h s hs => by rw [this s hs]; exact h s hs, fun h s hs => by rw [← this s hs]; exact h s hs⟩
      · rw [List.countP_eq_length_filter]
        congr 2
        simp
    have e3 : L.length = (L.filter fun x => !t.1 x).length + (L.filter fun x => !!t.1 x).length := by
      have h1 := List.length_eq_countP_add_countP (fun x => !t.1 x) (l := L)
      rw [List.countP_eq_length_filter, List.countP_eq_length_filter] at h1
      rw [h1]
      congr 3
      funext x; cases t.1 x <;> rfl
    show ((okMN M N U L && _) && decide (L.length = j)) = true ↔ P _ _ = true
    rw [e1, e2, e3]
    show _ ↔ ((_ && _) && ((_ && _) && _)) = true
    simp only [Bool.and_eq_true]
    constructor
    · rintro ⟨⟨⟨a, b⟩, c, d⟩, e⟩; exact ⟨⟨a, c⟩, ⟨b, d⟩, e⟩
    · rintro ⟨⟨a, c⟩, ⟨b, d⟩, e⟩; exact ⟨⟨⟨a, b⟩, c, d⟩, e⟩
  rw [e0, cnt_split, f1, f2]
  rw [show conv (cntP M N xs pre) (partP M N xs t) j = _ from (sum_by_size (fun B : List α => B.length) (fun B => okMN M N (xs.filter (inAny pre)) B && pre.all fun s => s.2 (B.countP s.1)) (partP M N xs t) j (lots (xs.filter (inAny pre)))).symm]
  apply sum_congr
  intro B _
  by_cases hB : (okMN M N (xs.filter (inAny pre)) B && pre.all fun s => s.2 (B.countP s.1)) = true
  · by_cases hj : B.length ≤ j
    · rw [if_pos ⟨hB, hj⟩]
      unfold partP
      apply List.countP_congr
      intro A _
      show (_ && _) = true ↔ _
      rw [hB, Bool.true_and]
      have : decide (B.length + A.length = j) = decide (A.length = j - B.length) := by
        apply decide_eq_decide.mpr; omega
      rw [this]
    · rw [if_neg (fun z => hj z.2)]
      apply List.countP_eq_zero.mpr
      intro A _
      show ¬ (_ && _) = true
      have : decide (B.length + A.length = j) = false := by simp; omega
      rw [this]; simp
  · rw [if_neg (fun z => hB z.1)]
    apply List.countP_eq_zero.mpr
    intro A _
    show ¬ (_ && _) = true
    rw [Bool.eq_false_iff.mpr hB]; simp
/-- a part by its numbers -/
def parO : Option Bool → Nat → Bool
  | none, _ => true
  | some o, n => decide (n % 2 = 1) == o
def pp (gone free : Nat) (odd : Option Bool) (i : Nat) : Nat := if parO odd i = true then (if gone ≤ i then ch free (i - gone) else 0) else 0
theorem partP_eq {M N xs : List α} (nd : xs.Nodup) (hMN : ∀ x ∈ M, x ∉ N) (q : α → Bool) (odd : Option Bool) (i : Nat) :
    partP M N xs (q, parO odd) i = pp (goneN M (xs.filter q)) (freeN M N (xs.filter q)) odd i := by
  unfold partP pp
  rw [← cnt_size hMN (nd.filter q)]
  by_cases h : parO odd i = true
  · rw [if_pos h]
    apply List.countP_congr
    intro A _
    constructor
    · intro z
      simp only [Bool.and_eq_true, decide_eq_true_eq] at z ⊢
      exact ⟨z.1.1, z.2⟩
    · intro z
      simp only [Bool.and_eq_true, decide_eq_true_eq] at z ⊢
      exact ⟨⟨z.1, by rw [z.2]; exact h⟩, z.2⟩
  · rw [if_neg h]
    apply List.countP_eq_zero.mpr
    intro A _ z
    simp only [Bool.and_eq_true, decide_eq_true_eq] at z
    exact h (z.2 ▸ z.1.2)
end
/-- the first number of misses of a part -/
def leadP (gone free : Nat) (odd : Option Bool) : Option Nat :=
  if odd = none ∨ odd = some (decide (gone % 2 = 1)) then some gone else if free = 0 then none else some (gone + 1)
theorem leadP_ok {gone free : Nat} {odd : Option Bool} : (∀ k, leadP gone free odd = some k → Lead (pp gone free odd) k) ∧ (leadP gone free odd = none → ∀ i, pp gone free odd i = 0) := by
  unfold leadP
  by_cases h : odd = none ∨ odd = some (decide (gone % 2 = 1))
  · rw [if_pos h]
    refine ⟨fun k hk => ?_, fun z => nomatch z⟩
    cases hk
    have hp : parO odd gone = true := by
      rcases h with h | h
      · subst h; rfl
      · subst h; simp [parO]
    refine ⟨?_, fun i hi => ?_⟩
    · unfold pp
      rw [if_pos hp, if_pos (Nat.le_refl _), Nat.sub_self, ch_zero]; decide
    · unfold pp
      rw [if_neg (show ¬ gone ≤ i by omega)]
      split <;> rfl
  · rw [if_neg h]
    have hno : odd = some (!decide (gone % 2 = 1)) := by
      cases odd with
      | none => exact absurd (.inl rfl) h
      | some o =>
        have : o ≠ decide (gone % 2 = 1) := fun z => h (.inr (by rw [z]))
        cases o <;> cases hd : decide (gone % 2 = 1) <;> simp_all
    have p0 : parO odd gone = false := by subst hno; cases hd : decide (gone % 2 = 1) <;> simp_all [parO]
    by_cases hf : free = 0
    · rw [if_pos hf]
      refine ⟨fun k hk => (nomatch hk), fun _ i => ?_⟩
      unfold pp
      by_cases hi : i = gone
      · subst hi; rw [p0]; rfl
      · subst hf
        by_cases h2 : gone ≤ i
        · rw [if_pos h2, ch_over 0 (i - gone) (by omega)]; split <;> rfl
        · rw [if_neg h2]; split <;> rfl
    · rw [if_neg hf]
      refine ⟨fun k hk => ?_, fun z => nomatch z⟩
      cases hk
      have p1 : parO odd (gone + 1) = true := by
        subst hno
        show (decide ((gone + 1) % 2 = 1) == !decide (gone % 2 = 1)) = true
        by_cases h2 : gone % 2 = 1
        · have : ¬ (gone + 1) % 2 = 1 := by omega
          simp [h2, this]
        · have : (gone + 1) % 2 = 1 := by omega
          simp [h2, this]
      refine ⟨?_, fun i hi => ?_⟩
      · unfold pp
        rw [if_pos p1, if_pos (by omega), show gone + 1 - gone = 1 by omega, ch_one]; omega
      · unfold pp
        by_cases hi2 : i = gone
        · subst hi2; rw [p0]; rfl
        · rw [if_neg (show ¬ gone ≤ i by omega)]; split <;> rfl
end Dl
namespace Dl
/-! ### stretches of one wheel: from what was seen -/
abbrev Str3 := Nat × Nat × Option Bool
def sttL (sz : Nat → Nat → Nat) (D : Nat) : List (Nat × List Nat) → Nat → Nat → List Str3
  | [], first, _ => [(first, D, none)]
  | (day, seen) :: g, first, up => (first, day, some (decide ((sz first day + up + seen.headD 0) % 2 = 1))) :: ((if 1 < seen.length then [(day, day, some true)] else []) ++ sttL sz D g day (seen.getLastD 0))
structure SeenOk (D : Nat) (g : List (Nat × List Nat)) : Prop where
  asc : g.Pairwise fun a b => a.1 < b.1
  le : ∀ x ∈ g, x.1 ≤ D
  ne : ∀ x ∈ g, x.2 ≠ []
  lt : ∀ x ∈ g, ∀ s ∈ x.2, s < 2
  two : ∀ x ∈ g, 1 < x.2.length → x.2 = [0, 1]
theorem SeenOk.tail {D : Nat} {x : Nat × List Nat} {g : List (Nat × List Nat)} (h : SeenOk D (x :: g)) : SeenOk D g :=
  ⟨(List.pairwise_cons.mp h.asc).2, fun y hy => h.le y (List.mem_cons_of_mem _ hy), fun y hy => h.ne y (List.mem_cons_of_mem _ hy), fun y hy => h.lt y (List.mem_cons_of_mem _ hy), fun y hy => h.two y (List.mem_cons_of_mem _ hy)⟩
structure Cnt2 (cd cl : Nat → Nat → Nat) : Prop where
  dd : ∀ a b e, a ≤ b → b ≤ e → cd a b + cd b e = cd a e
  ll : ∀ a b e, a ≤ b → b ≤ e → cl a b + cl b e = cl a e
  le : ∀ a b, cl a b ≤ cd a b
  z : ∀ a, cl a a = 0
theorem strs_ok {cd cl : Nat → Nat → Nat} (C : Cnt2 cd cl) {D : Nat} : ∀ (g : List (Nat × List Nat)) (first up : Nat), SeenOk D g → (∀ x ∈ g, first ≤ x.1) → up < 2 → (cd 0 first - cl 0 first) % 2 = up →
    ((∀ x ∈ g, ∀ s ∈ x.2, (cd 0 x.1 - cl 0 x.1) % 2 = s) ↔ ∀ t ∈ sttL cd D g first up, parO t.2.2 (cl t.1 t.2.1) = true)
  | [], first, up, _, _, _, _ => by
    unfold sttL
    constructor
    · intro _ t ht
      rw [List.mem_singleton.mp ht]; rfl
    · intro _ x hx; cases hx
  | (day, seen) :: g, first, up, h, hf, hu, hs => by
    have hday : first ≤ day := hf (day, seen) (by simp)
    have hne : seen ≠ [] := h.ne (day, seen) (by simp)
    have hlt : ∀ s ∈ seen, s < 2 := h.lt (day, seen) (by simp)
    have e1 := C.dd 0 first day (Nat.zero_le _) hday
    have e2 := C.ll 0 first day (Nat.zero_le _) hday
    have l1 := C.le first day
    have l2 := C.le 0 first
    have hhead : seen.headD 0 ∈ seen := by
      cases seen with
      | nil => exact absurd rfl hne
      | cons a l => simp
    have hh := hlt _ hhead
    have key : (cd 0 day - cl 0 day) % 2 = seen.headD 0 ↔ parO (some (decide ((cd first day + up + seen.headD 0) % 2 = 1))) (cl first day) = true := by
      show _ ↔ (decide (cl first day % 2 = 1) == decide ((cd first day + up + seen.headD 0) % 2 = 1)) = true
      rw [beq_iff_eq, decide_eq_decide]
      omega
    unfold sttL
    by_cases h1 : 1 < seen.length
    · have e := h.two (day, seen) (by simp) h1
      dsimp only at e
      subst e
      rw [if_pos h1]
      constructor
      · intro z
        have z0 := z (day, [0, 1]) (by simp) 0 (by simp)
        have z1 := z (day, [0, 1]) (by simp) 1 (by simp)
        dsimp only at z0 z1
        omega
      · intro z
        have := z (day, day, some true) (by simp)
        dsimp only at this
        rw [C.z] at this
        exact absurd this (by decide)
    · rw [if_neg h1]
      obtain ⟨s, rfl⟩ : ∃ s, seen = [s] := by
        cases seen with
        | nil => exact absurd rfl hne
        | cons a l => cases l with
          | nil => exact ⟨a, rfl⟩
          | cons b l => simp at h1
      have hg : ∀ x ∈ g, day ≤ x.1 := fun x hx => Nat.le_of_lt ((List.pairwise_cons.mp h.asc).1 x hx)
      rw [List.nil_append]
      show _ ↔ ∀ t ∈ (first, day, some (decide ((cd first day + up + s) % 2 = 1))) :: sttL cd D g day s, _
      have key' : (cd 0 day - cl 0 day) % 2 = s ↔ parO (some (decide ((cd first day + up + s) % 2 = 1))) (cl first day) = true := key
      constructor
      · intro z
        have z0 := z (day, [s]) (by simp) s (by simp)
        dsimp only at z0
        have ih := strs_ok C g day s h.tail hg hh z0
        intro t ht
        rcases List.mem_cons.mp ht with e | e
        · subst e; exact key'.mp z0
        · exact ih.mp (fun x hx => z x (List.mem_cons_of_mem _ hx)) t e
      · intro z
        have z0 := key'.mpr (z (first, day, some (decide ((cd first day + up + s) % 2 = 1))) (by simp))
        have ih := strs_ok C g day s h.tail hg hh z0
        intro x hx
        rcases List.mem_cons.mp hx with e | e
        · subst e
          intro u hu
          rw [List.mem_singleton.mp hu]; exact z0
        · exact ih.mpr (fun t ht => z t (List.mem_cons_of_mem _ ht)) x e
/-- each day of a wheel is in just one stretch -/
theorem strs_cover {cd : Nat → Nat → Nat} {D : Nat} : ∀ (g : List (Nat × List Nat)) (first up : Nat), SeenOk D g → (∀ x ∈ g, first ≤ x.1) → ∀ d, first ≤ d → d < D → ∃ t ∈ sttL cd D g first up, t.1 ≤ d ∧ d < t.2.1
  | [], first, up, _, _, d, h1, h2 => ⟨(first, D, none), by unfold sttL; simp, h1, h2⟩
  | (day, seen) :: g, first, up, h, hf, d, h1, h2 => by
    by_cases hd : d < day
    · exact ⟨(first, day, _), by unfold sttL; exact List.mem_cons_self .., h1, hd⟩
    · obtain ⟨t, ht, h3⟩ := strs_cover (cd := cd) g day (seen.getLastD 0) h.tail (fun x hx => Nat.le_of_lt ((List.pairwise_cons.mp h.asc).1 x hx)) d (by omega) h2
      exact ⟨t, by unfold sttL; exact List.mem_cons_of_mem _ (List.mem_append_right _ ht), h3⟩
theorem strs_from {cd : Nat → Nat → Nat} {D : Nat} : ∀ (g : List (Nat × List Nat)) (first up : Nat), SeenOk D g → (∀ x ∈ g, first ≤ x.1) → ∀ t ∈ sttL cd D g first up, first ≤ t.1
  | [], first, up, _, _, t, ht => by unfold sttL at ht; rw [List.mem_singleton.mp ht]; exact Nat.le_refl _
  | (day, seen) :: g, first, up, h, hf, t, ht => by
    have hday : first ≤ day := hf (day, seen) (by simp)
    unfold sttL at ht
    rcases List.mem_cons.mp ht with e | e
    · rw [e]; exact Nat.le_refl _
    · rcases List.mem_append.mp e with e | e
      · split at e
        · rw [List.mem_singleton.mp e]; exact hday
        · cases e
      · have := strs_from (cd := cd) g day (seen.getLastD 0) h.tail (fun x hx => Nat.le_of_lt ((List.pairwise_cons.mp h.asc).1 x hx)) t e
        omega
theorem strs_apart {cd : Nat → Nat → Nat} {D : Nat} : ∀ (g : List (Nat × List Nat)) (first up : Nat), SeenOk D g → (∀ x ∈ g, first ≤ x.1) → (sttL cd D g first up).Pairwise fun a b => ∀ d, ¬ ((a.1 ≤ d ∧ d < a.2.1) ∧ b.1 ≤ d ∧ d < b.2.1)
  | [], first, up, _, _ => by unfold sttL; exact List.pairwise_singleton _ _
  | (day, seen) :: g, first, up, h, hf => by
    have hg : ∀ x ∈ g, day ≤ x.1 := fun x hx => Nat.le_of_lt ((List.pairwise_cons.mp h.asc).1 x hx)
    have ih := strs_apart (cd := cd) g day (seen.getLastD 0) h.tail hg
    have fr := strs_from (cd := cd) g day (seen.getLastD 0) h.tail hg
    unfold sttL
    refine List.pairwise_cons.mpr ⟨fun t ht d hd => ?_, List.pairwise_append.mpr ⟨?_, ih, fun a ha b hb d hd => ?_⟩⟩
    · rcases List.mem_append.mp ht with e | e
      · split at e
        · rw [List.mem_singleton.mp e] at hd; dsimp only at hd; omega
        · cases e
      · have := fr t e; dsimp only at hd; omega
    · split
      · exact List.pairwise_singleton _ _
      · exact List.Pairwise.nil
    · split at ha
      · rw [List.mem_singleton.mp ha] at hd; dsimp only at hd; omega
      · cases ha
end Dl
namespace Dl
/-! ### what was seen, day by day -/
def putG (d s : Nat) : List (Nat × List Nat) → List (Nat × List Nat)
  | [] => [(d, [s])]
  | (e, l) :: g => if e = d then (e, l ++ [s]) :: g else (e, l) :: putG d s g
def flatG (g : List (Nat × List Nat)) : List (Nat × Nat) := g.flatMap fun x => x.2.map fun s => (x.1, s)
structure GInv (g : List (Nat × List Nat)) : Prop where
  asc : g.Pairwise fun a b => a.1 < b.1
  ne : ∀ x ∈ g, x.2 ≠ []
  up : ∀ x ∈ g, x.2.Pairwise (· < ·)
theorem putG_keys {d s : Nat} : ∀ {g : List (Nat × List Nat)} {x : Nat × List Nat}, x ∈ putG d s g → x.1 = d ∨ ∃ y ∈ g, y.1 = x.1
  | [], x, h => by rw [putG, List.mem_singleton] at h; rw [h]; exact .inl rfl
  | (e, l) :: g, x, h => by
    rw [putG] at h
    split at h
    · rcases List.mem_cons.mp h with z | z
      · rw [z]; exact .inr ⟨(e, l), by simp, rfl⟩
      · exact .inr ⟨x, List.mem_cons_of_mem _ z, rfl⟩
    · rcases List.mem_cons.mp h with z | z
      · rw [z]; exact .inr ⟨(e, l), by simp, rfl⟩
      · rcases putG_keys z with q | ⟨y, hy, q⟩
        · exact .inl q
        · exact .inr ⟨y, List.mem_cons_of_mem _ hy, q⟩
theorem putG_ok {d s : Nat} : ∀ {g : List (Nat × List Nat)}, GInv g → (∀ x ∈ g, x.1 < d ∨ (x.1 = d ∧ ∀ u ∈ x.2, u < s)) → GInv (putG d s g) ∧ flatG (putG d s g) = flatG g ++ [(d, s)]
  | [], _, _ => ⟨⟨List.pairwise_singleton _ _, fun x hx => by rw [putG, List.mem_singleton] at hx; rw [hx]; simp, fun x hx => by rw [putG, List.mem_singleton] at hx; rw [hx]; exact List.pairwise_singleton _ _⟩, rfl⟩
  | (e, l) :: g, h, hk => by
    have h1 := (List.pairwise_cons.mp h.asc).1
    have hg : GInv g := ⟨(List.pairwise_cons.mp h.asc).2, fun x hx => h.ne x (List.mem_cons_of_mem _ hx), fun x hx => h.up x (List.mem_cons_of_mem _ hx)⟩
    rw [putG]
    by_cases he : e = d
    · rw [if_pos he]
      have gn : g = [] := by
        cases g with
        | nil => rfl
        | cons y g =>
          have a1 := h1 y (by simp)
          have a2 := hk y (by simp)
          dsimp only at a1
          omega
      subst gn
      have hl : ∀ u ∈ l, u < s := by
        rcases hk (e, l) (by simp) with z | z
        · dsimp only at z; omega
        · exact z.2
      refine ⟨⟨List.pairwise_singleton _ _, fun x hx => ?_, fun x hx => ?_⟩, ?_⟩
      · rw [List.mem_singleton.mp hx]; simp
      · rw [List.mem_singleton.mp hx]
        exact List.pairwise_append.mpr ⟨h.up (e, l) (by simp), List.pairwise_singleton _ _, fun a ha b hb => by rw [List.mem_singleton.mp hb]; exact hl a ha⟩
      · unfold flatG; simp [he]
    · rw [if_neg he]
      have hed : e < d := by
        rcases hk (e, l) (by simp) with z | z
        · exact z
        · exact absurd z.1 he
      obtain ⟨i1, i2⟩ := putG_ok (d := d) (s := s) hg fun x hx => hk x (List.mem_cons_of_mem _ hx)
      refine ⟨⟨List.pairwise_cons.mpr ⟨fun x hx => ?_, i1.asc⟩, fun x hx => ?_, fun x hx => ?_⟩, ?_⟩
      · dsimp only
        rcases putG_keys hx with z | ⟨y, hy, z⟩
        · omega
        · have := h1 y hy; dsimp only at this; omega
      · rcases List.mem_cons.mp hx with z | z
        · rw [z]; exact h.ne (e, l) (by simp)
        · exact i1.ne x z
      · rcases List.mem_cons.mp hx with z | z
        · rw [z]; exact h.up (e, l) (by simp)
        · exact i1.up x z
      · show ((l.map fun s => (e, s)) ++ flatG (putG d s g)) = _
        rw [i2]; show _ = ((l.map fun s => (e, s)) ++ flatG g) ++ _
        rw [List.append_assoc]
def grpG (P : List (Nat × Nat)) : List (Nat × List Nat) := P.foldl (fun g q => putG q.1 q.2 g) []
def ltP (a b : Nat × Nat) : Prop := a.1 < b.1 ∨ (a.1 = b.1 ∧ a.2 < b.2)
theorem mem_flat {g : List (Nat × List Nat)} {d s : Nat} : (d, s) ∈ flatG g ↔ ∃ x ∈ g, x.1 = d ∧ s ∈ x.2 := by
  unfold flatG
  rw [List.mem_flatMap]
  constructor
  · rintro ⟨x, hx, h⟩
    obtain ⟨u, hu, e⟩ := List.mem_map.mp h
    cases e
    exact ⟨x, hx, rfl, hu⟩
  · rintro ⟨x, hx, rfl, h⟩
    exact ⟨x, hx, List.mem_map.mpr ⟨s, h, rfl⟩⟩
theorem grp_go : ∀ (P : List (Nat × Nat)) (g : List (Nat × List Nat)), GInv g → (flatG g ++ P).Pairwise ltP → GInv (P.foldl (fun g q => putG q.1 q.2 g) g) ∧ flatG (P.foldl (fun g q => putG q.1 q.2 g) g) = flatG g ++ P
  | [], g, h, _ => ⟨h, by simp⟩
  | (d, s) :: P, g, h, hp => by
    have hk : ∀ x ∈ g, x.1 < d ∨ (x.1 = d ∧ ∀ u ∈ x.2, u < s) := fun x hx => by
      have hlt : ∀ u ∈ x.2, ltP (x.1, u) (d, s) := fun u hu => (List.pairwise_append.mp hp).2.2 (x.1, u) (mem_flat.mpr ⟨x, hx, rfl, hu⟩) (d, s) (by simp)
      by_cases hxd : x.1 < d
      · exact .inl hxd
      · refine .inr ⟨?_, fun u hu => ?_⟩
        · cases hx2 : x.2 with
          | nil => exact absurd hx2 (h.ne x hx)
          | cons u l =>
            have := hlt u (by rw [hx2]; simp)
            unfold ltP at this; dsimp only at this; omega
        · have := hlt u hu
          unfold ltP at this; dsimp only at this; omega
    obtain ⟨i1, i2⟩ := putG_ok h hk
    have := grp_go P (putG d s g) i1 (by rw [i2, List.append_assoc]; exact hp)
    rw [i2, List.append_assoc] at this
    exact this
theorem grp_ok {P : List (Nat × Nat)} (h : P.Pairwise ltP) : GInv (grpG P) ∧ flatG (grpG P) = P := by
  have := grp_go P [] ⟨.nil, fun x hx => (nomatch hx), fun x hx => (nomatch hx)⟩ (by simpa [flatG] using h)
  rw [show flatG ([] : List (Nat × List Nat)) ++ P = P from rfl] at this
  exact this
theorem grp_seen {D : Nat} {P : List (Nat × Nat)} (h : P.Pairwise ltP) (h1 : ∀ q ∈ P, q.1 ≤ D) (h2 : ∀ q ∈ P, q.2 < 2) : SeenOk D (grpG P) := by
  obtain ⟨i1, i2⟩ := grp_ok h
  have mem : ∀ x ∈ grpG P, ∀ s ∈ x.2, (x.1, s) ∈ P := fun x hx s hs => by rw [← i2]; exact mem_flat.mpr ⟨x, hx, rfl, hs⟩
  refine ⟨i1.asc, fun x hx => ?_, i1.ne, fun x hx s hs => h2 _ (mem x hx s hs), fun x hx hl => ?_⟩
  · cases hx2 : x.2 with
    | nil => exact absurd hx2 (i1.ne x hx)
    | cons u l => exact h1 _ (mem x hx u (by rw [hx2]; simp))
  · have hu := i1.up x hx
    have hlt : ∀ s ∈ x.2, s < 2 := fun s hs => h2 _ (mem x hx s hs)
    generalize x.2 = l at hl hu hlt
    match l, hl, hu, hlt with
    | a :: b :: r, _, hu, hlt =>
      have h3 := (List.pairwise_cons.mp hu).1
      have h4 := h3 b (by simp)
      have h5 := hlt a (by simp)
      have h6 := hlt b (by simp)
      have : r = [] := by
        cases r with
        | nil => rfl
        | cons c r =>
          have h7 := (List.pairwise_cons.mp (List.pairwise_cons.mp hu).2).1 c (by simp)
          have h8 := hlt c (by simp)
          omega
      subst this
      rw [show a = 0 by omega, show b = 1 by omega]
/-! ### a season's turnings, looks and parts -/
abbrev Lk3 := Nat × Nat × Nat
def cnW (w a b : Nat) (L : List (Nat × Nat)) : Nat := L.countP fun x => decide (x.2 = w) && (decide (a ≤ x.1) && decide (x.1 < b))
def sdU (U L : List (Nat × Nat)) (w d : Nat) : Nat := (U.countP fun x => decide (x.2 = w) && (decide (x.1 < d) && !decide (x ∈ L))) % 2
def unb (U : List (Nat × Nat)) (K : List Lk3) (L : List (Nat × Nat)) : Bool := K.all fun q => decide (sdU U L q.2.1 q.1 = q.2.2)
def lkW (K : List Lk3) (w : Nat) : List (Nat × Nat) := (K.filter fun q => decide (q.2.1 = w)).map fun q => (q.1, q.2.2)
def stW (U : List (Nat × Nat)) (D : Nat) (K : List Lk3) (w : Nat) : List Str3 := sttL (fun a b => cnW w a b U) D (grpG (lkW K w)) 0 0
def prts (U : List (Nat × Nat)) (p D : Nat) (K : List Lk3) : List (Nat × Str3) := (List.range p).flatMap fun w => (stW U D K w).map fun t => (w, t)
def qOf (x : Nat × Str3) (y : Nat × Nat) : Bool := decide (y.2 = x.1) && (decide (x.2.1 ≤ y.1) && decide (y.1 < x.2.2.1))
def ptOf (x : Nat × Str3) : Pt (Nat × Nat) := (qOf x, parO x.2.2.2)
/-- looks as a season holds them -/
structure LooksOk (p D : Nat) (K : List Lk3) : Prop where
  asc : ∀ w, (lkW K w).Pairwise ltP
  d : ∀ q ∈ K, q.1 ≤ D
  w : ∀ q ∈ K, q.2.1 < p
  s : ∀ q ∈ K, q.2.2 < 2
structure DueOk (p D : Nat) (U : List (Nat × Nat)) : Prop where
  nd : U.Nodup
  d : ∀ x ∈ U, x.1 < D
  w : ∀ x ∈ U, x.2 < p
section
variable {p D : Nat} {U L : List (Nat × Nat)} {K : List Lk3}
theorem mem_lkW {w d s : Nat} : (d, s) ∈ lkW K w ↔ (d, w, s) ∈ K := by
  unfold lkW
  rw [List.mem_map]
  constructor
  · rintro ⟨⟨a, b, c⟩, h, e⟩
    obtain ⟨h1, h2⟩ := List.mem_filter.mp h
    have h3 : b = w := of_decide_eq_true h2
    dsimp only at e
    cases e; subst h3
    exact h1
  · intro h
    exact ⟨(d, w, s), List.mem_filter.mpr ⟨h, by simp⟩, rfl⟩
theorem LooksOk.seen (h : LooksOk p D K) (w : Nat) : SeenOk D (grpG (lkW K w)) := grp_seen (h.asc w) (fun q hq => h.d _ (mem_lkW.mp (show (q.1, q.2) ∈ _ from hq))) fun q hq => h.s _ (mem_lkW.mp (show (q.1, q.2) ∈ _ from hq))
theorem cnW_zero (w a : Nat) (L : List (Nat × Nat)) : cnW w a a L = 0 := by
  unfold cnW
  apply List.countP_eq_zero.mpr
  intro x _ h
  simp only [Bool.and_eq_true, decide_eq_true_eq] at h
  omega
theorem cnW_add (w : Nat) {a b e : Nat} (h1 : a ≤ b) (h2 : b ≤ e) (L : List (Nat × Nat)) : cnW w a b L + cnW w b e L = cnW w a e L := by
  unfold cnW
  induction L with
  | nil => rfl
  | cons x L ih =>
    rw [List.countP_cons, List.countP_cons, List.countP_cons, ← ih]
    by_cases hw : x.2 = w
    · simp only [hw, decide_true, Bool.true_and, Bool.and_eq_true, decide_eq_true_eq]
      by_cases c1 : a ≤ x.1 <;> by_cases c2 : x.1 < b <;> by_cases c3 : x.1 < e <;> by_cases c4 : b ≤ x.1 <;> simp only [c1, c2, c3, c4, and_true, and_false, if_true, if_false, true_and, false_and] <;> omega
    · simp [hw]
theorem cnW_le (w a b : Nat) (h : L.Sublist U) : cnW w a b L ≤ cnW w a b U := h.countP_le
theorem cnt2 (w : Nat) (h : L.Sublist U) : Cnt2 (fun a b => cnW w a b U) (fun a b => cnW w a b L) :=
  ⟨fun a b e h1 h2 => cnW_add w h1 h2 U, fun a b e h1 h2 => cnW_add w h1 h2 L, fun a b => cnW_le w a b h, fun a => cnW_zero w a L⟩
theorem made_cnt (nd : U.Nodup) (h : L.Sublist U) (w d : Nat) : (U.countP fun x => decide (x.2 = w) && (decide (x.1 < d) && !decide (x ∈ L))) = cnW w 0 d U - cnW w 0 d L := by
  have : (U.countP fun x => decide (x.2 = w) && (decide (x.1 < d) && !decide (x ∈ L))) + cnW w 0 d L = cnW w 0 d U := by
    induction h with
    | slnil => rfl
    | @cons l₁ l₂ a h ih =>
      have na := (List.nodup_cons.mp nd).1
      have ih := ih (List.nodup_cons.mp nd).2
      have ha : a ∉ l₁ := fun z => na (h.subset z)
      unfold cnW at ih ⊢
      rw [List.countP_cons, List.countP_cons]
      simp only [ha, not_false_eq_true, decide_false, Bool.not_false, Bool.and_true, Nat.zero_le, decide_true, Bool.true_and] at ih ⊢
      omega
    | @cons_cons l₁ l₂ a h ih =>
      have na := (List.nodup_cons.mp nd).1
      have ih := ih (List.nodup_cons.mp nd).2
      unfold cnW at ih ⊢
      rw [List.countP_cons, List.countP_cons, List.countP_cons]
      have e : l₂.countP (fun x => decide (x.2 = w) && (decide (x.1 < d) && !decide (x ∈ a :: l₁))) = l₂.countP (fun x => decide (x.2 = w) && (decide (x.1 < d) && !decide (x ∈ l₁))) := by
        apply List.countP_congr
        intro x hx
        have : x ≠ a := fun z => na (z ▸ hx)
        simp [this]
      rw [e]
      simp only [List.mem_cons, true_or, decide_true, Bool.not_true, Bool.and_false, Bool.false_eq_true, if_false, Nat.add_zero, Nat.zero_le, Bool.true_and] at ih ⊢
      omega
  omega
theorem sdU_eq (nd : U.Nodup) (h : L.Sublist U) (w d : Nat) : sdU U L w d = (cnW w 0 d U - cnW w 0 d L) % 2 := by
  unfold sdU; rw [made_cnt nd h]
/-- a lot breaks no look just if it fills each part as it is asked -/
theorem unb_parts (hU : DueOk p D U) (hK : LooksOk p D K) (h : L.Sublist U) : unb U K L = (prts U p D K).all fun x => (ptOf x).2 (L.countP (ptOf x).1) := by
  rw [Bool.eq_iff_iff]
  unfold unb
  rw [List.all_eq_true, List.all_eq_true]
  have one : ∀ w, (∀ x ∈ grpG (lkW K w), ∀ s ∈ x.2, (cnW w 0 x.1 U - cnW w 0 x.1 L) % 2 = s) ↔ ∀ t ∈ stW U D K w, parO t.2.2 (cnW w t.1 t.2.1 L) = true := fun w =>
    strs_ok (cnt2 w h) _ 0 0 (hK.seen w) (fun _ _ => Nat.zero_le _) (by decide) (by
      show (cnW w 0 0 U - cnW w 0 0 L) % 2 = 0
      rw [cnW_zero, cnW_zero])
  have flat : ∀ w, (∀ x ∈ grpG (lkW K w), ∀ s ∈ x.2, (cnW w 0 x.1 U - cnW w 0 x.1 L) % 2 = s) ↔ ∀ d s, (d, w, s) ∈ K → sdU U L w d = s := fun w => by
    constructor
    · intro z d s hs
      have : (d, s) ∈ flatG (grpG (lkW K w)) := by rw [(grp_ok (hK.asc w)).2]; exact mem_lkW.mpr hs
      obtain ⟨x, hx, e, hs'⟩ := mem_flat.mp this
      have := z x hx s hs'
      rw [e] at this
      rw [sdU_eq hU.nd h]; exact this
    · intro z x hx s hs
      have : (x.1, s) ∈ flatG (grpG (lkW K w)) := mem_flat.mpr ⟨x, hx, rfl, hs⟩
      rw [(grp_ok (hK.asc w)).2] at this
      have := z x.1 s (mem_lkW.mp this)
      rw [sdU_eq hU.nd h] at this; exact this
  constructor
  · intro z x hx
    unfold prts at hx
    obtain ⟨w, hw, hx⟩ := List.mem_flatMap.mp hx
    obtain ⟨t, ht, e⟩ := List.mem_map.mp hx
    subst e
    exact (one w).mp ((flat w).mpr fun d s hs => of_decide_eq_true (z (d, w, s) hs)) t ht
  · rintro z ⟨d, w, s⟩ hq
    have := (flat w).mp ((one w).mpr fun t ht => z (w, t) (List.mem_flatMap.mpr ⟨w, List.mem_range.mpr (hK.w _ hq), List.mem_map.mpr ⟨t, ht, rfl⟩⟩)) d s hq
    exact decide_eq_true this
theorem prts_cover (hU : DueOk p D U) (hK : LooksOk p D K) {x : Nat × Nat} (hx : x ∈ U) : inAny ((prts U p D K).map ptOf) x = true := by
  obtain ⟨t, ht, h1, h2⟩ := strs_cover (cd := fun a b => cnW x.2 a b U) _ 0 0 (hK.seen x.2) (fun _ _ => Nat.zero_le _) x.1 (Nat.zero_le _) (hU.d x hx)
  refine List.any_eq_true.mpr ⟨ptOf (x.2, t), List.mem_map.mpr ⟨(x.2, t), List.mem_flatMap.mpr ⟨x.2, List.mem_range.mpr (hU.w x hx), List.mem_map.mpr ⟨t, ht, rfl⟩⟩, rfl⟩, ?_⟩
  show (decide (x.2 = x.2) && (decide (t.1 ≤ x.1) && decide (x.1 < t.2.1))) = true
  simp [h1, h2]
theorem prts_apart (hK : LooksOk p D K) : (prts U p D K).Pairwise fun a b => ∀ x, ¬ (qOf a x = true ∧ qOf b x = true) := by
  unfold prts
  have go : ∀ ws : List Nat, ws.Nodup → (ws.flatMap fun w => (stW U D K w).map fun t => (w, t)).Pairwise fun a b => ∀ x, ¬ (qOf a x = true ∧ qOf b x = true) := by
    intro ws
    induction ws with
    | nil => intro _; exact .nil
    | cons w ws ih =>
      intro nd
      rw [List.flatMap_cons]
      refine List.pairwise_append.mpr ⟨?_, ih (List.nodup_cons.mp nd).2, fun a ha b hb x hx => ?_⟩
      · rw [List.pairwise_map]
        refine (strs_apart (cd := fun a b => cnW w a b U) _ 0 0 (hK.seen w) (fun _ _ => Nat.zero_le _)).imp fun {a b} h x hx => ?_
        unfold qOf at hx
        simp only [Bool.and_eq_true, decide_eq_true_eq] at hx
        exact h x.1 ⟨hx.1.2, hx.2.2⟩
      · obtain ⟨t, _, e⟩ := List.mem_map.mp ha
        obtain ⟨v, hv, hb⟩ := List.mem_flatMap.mp hb
        obtain ⟨u, _, e2⟩ := List.mem_map.mp hb
        subst e e2
        unfold qOf at hx
        simp only [Bool.and_eq_true, decide_eq_true_eq] at hx
        have : w = v := by rw [← hx.1.1, ← hx.2.1]
        exact (List.nodup_cons.mp nd).1 (this ▸ hv)
  exact go _ List.nodup_range
/-! ### all parts together -/
def numsOf (U : List (Nat × Nat)) (p D : Nat) (K : List Lk3) (M N : List (Nat × Nat)) : List (Nat × Nat × Option Bool) := (prts U p D K).map fun x => (goneN M (U.filter (qOf x)), freeN M N (U.filter (qOf x)), x.2.2.2)
def polyL (l : List (Nat × Nat × Option Bool)) : Nat → Nat := l.foldl (fun f t => conv f (pp t.1 t.2.1 t.2.2)) (fun j => if j = 0 then 1 else 0)
def costL : List (Nat × Nat × Option Bool) → Option Nat
  | [] => some 0
  | t :: l => match leadP t.1 t.2.1 t.2.2 with
    | none => none
    | some k => (costL l).map (k + ·)
def cntMN (U : List (Nat × Nat)) (K : List Lk3) (M N : List (Nat × Nat)) (j : Nat) : Nat := (lots U).countP fun L => (okMN M N U L && unb U K L) && decide (L.length = j)
theorem cnt_all (hU : DueOk p D U) (hK : LooksOk p D K) {M N : List (Nat × Nat)} (hMN : ∀ x ∈ M, x ∉ N) : cntMN U K M N = polyL (numsOf U p D K M N) := by
  have go : ∀ (l : List (Nat × Str3)) (pre : List (Nat × Str3)), (pre ++ l).Pairwise (fun a b => ∀ x, ¬ (qOf a x = true ∧ qOf b x = true)) →
      cntP M N U ((pre ++ l).map ptOf) = (l.map fun x => (goneN M (U.filter (qOf x)), freeN M N (U.filter (qOf x)), x.2.2.2)).foldl (fun f t => conv f (pp t.1 t.2.1 t.2.2)) (cntP M N U (pre.map ptOf)) := by
    intro l
    induction l with
    | nil => intro pre _; rw [List.append_nil]; rfl
    | cons x l ih =>
      intro pre hp
      have e := ih (pre ++ [x]) (by rw [List.append_assoc]; exact hp)
      rw [List.append_assoc] at e
      rw [show pre ++ x :: l = pre ++ ([x] ++ l) from rfl, e]
      rw [List.map_cons, List.foldl_cons]
      congr 1
      funext j
      rw [List.map_append, List.map_singleton, cntP_snoc]
      · congr 1
        funext i
        exact partP_eq hU.nd hMN (qOf x) x.2.2.2 i
      · intro y hy h
        obtain ⟨t, ht, hty⟩ := List.any_eq_true.mp h
        obtain ⟨z, hz, rfl⟩ := List.mem_map.mp ht
        have := (List.pairwise_append.mp hp).2.2 z hz x (by simp) y
        cases hq : (ptOf x).1 y with
        | false => rfl
        | true => exact absurd ⟨hty, hq⟩ this
  have e := go (prts U p D K) [] (by simpa using prts_apart hK)
  rw [List.nil_append] at e
  unfold polyL numsOf
  have e0 : cntP M N U (([] : List (Nat × Str3)).map ptOf) = fun j => if j = 0 then 1 else 0 := funext fun j => cntP_nil M N U j
  rw [e0] at e
  rw [← e]
  funext j
  unfold cntMN cntP
  have ef : U.filter (inAny ((prts U p D K).map ptOf)) = U := List.filter_eq_self.mpr fun x hx => prts_cover hU hK hx
  rw [ef]
  apply List.countP_congr
  intro L hL
  rw [unb_parts hU hK (mem_lots.mp hL), List.all_map]
  rfl
theorem lead_go : ∀ (l : List (Nat × Nat × Option Bool)) (f : Nat → Nat) (c : Nat), Lead f c →
    (∀ k, costL l = some k → Lead (l.foldl (fun f t => conv f (pp t.1 t.2.1 t.2.2)) f) (c + k)) ∧ (costL l = none → ∀ j, l.foldl (fun f t => conv f (pp t.1 t.2.1 t.2.2)) f j = 0)
  | [], f, c, h => ⟨fun k hk => by cases hk; exact h, fun z => nomatch z⟩
  | t :: l, f, c, h => by
    rw [List.foldl_cons]
    unfold costL
    cases ht : leadP t.1 t.2.1 t.2.2 with
    | none =>
      dsimp only
      refine ⟨fun k hk => (nomatch hk), fun _ => ?_⟩
      have z : ∀ j, conv f (pp t.1 t.2.1 t.2.2) j = 0 := fun j => conv_none (.inr (leadP_ok.2 ht)) j
      have stay : ∀ (l : List (Nat × Nat × Option Bool)) (g : Nat → Nat), (∀ j, g j = 0) → ∀ j, l.foldl (fun f t => conv f (pp t.1 t.2.1 t.2.2)) g j = 0 := by
        intro l
        induction l with
        | nil => intro g hg; exact hg
        | cons t l ih => intro g hg; exact ih _ fun j => conv_none (.inl hg) j
      exact stay l _ z
    | some a =>
      dsimp only
      have := lead_go l _ (c + a) (conv_lead h (leadP_ok.1 a ht))
      refine ⟨fun k hk => ?_, fun hn => ?_⟩
      · cases hc : costL l with
        | none => rw [hc] at hk; cases hk
        | some b =>
          rw [hc] at hk
          cases hk
          have := this.1 b hc
          rw [Nat.add_assoc] at this
          exact this
      · cases hc : costL l with
        | none => exact this.2 hc
        | some b => rw [hc] at hn; cases hn
theorem cost_lead (l : List (Nat × Nat × Option Bool)) : (∀ k, costL l = some k → Lead (polyL l) k) ∧ (costL l = none → ∀ j, polyL l j = 0) := by
  have := lead_go l (fun j => if j = 0 then 1 else 0) 0 ⟨by simp, fun i hi => by omega⟩
  refine ⟨fun k hk => ?_, this.2⟩
  have := this.1 k hk
  rw [Nat.zero_add] at this
  exact this
end
end Dl
namespace Dl
open PySem PySem.Spec PyProof.Rows L2
variable {p : Nat} {rs : List Rw} {D b : Nat} {L : List Lk}
theorem chain_nat {ma mb mc : Mi Dt} {ρ : En} {x y z : Nat} (ha : ma ρ = .ok (nD x) ρ) (hb : mb ρ = .ok (nD y) ρ) (hc : mc ρ = .ok (nD z) ρ) : mB (mChain fLe fLt ma mb mc) ρ = .ok (decide (x ≤ y) && decide (y < z)) ρ := by
  refine tb_ok ?_
  refine bind_ok ha (bind_ok hb ?_)
  rw [fLe_nat]
  by_cases h : x ≤ y
  · rw [decide_eq_true h]
    refine bind_ok (a := .bl true) (ρ1 := ρ) rfl ?_
    rw [Bool.true_and]
    refine bind_ok hc ?_
    rw [fLt_nat]; rfl
  · rw [decide_eq_false h]
    exact bind_ok (a := .bl false) (ρ1 := ρ) rfl rfl
def dayL (rs : List Rw) (D w : Nat) : List Nat := (List.range D).filter (isDue rs w)
theorem ixv {ρ : En} {i : Nat} {m : Mi Dt} {s : Sl} {d y z : Dt} (h1 : ρ[i]? = some (some s)) (h2 : m ρ = .ok y ρ) (h3 : mPeek i ρ = .ok d ρ) (h4 : fIx d y = some z) : hasSl i (mIxV i m) ρ = .ok z ρ := by
  unfold hasSl
  rw [h1]
  exact bind_ok h2 (bind_ok h3 (by rw [h4]; rfl))
end Dl
namespace Dl
open PySem PySem.Spec PyProof.Rows L2
variable {p : Nat} {rs : List Rw} {D b : Nat} {L : List Lk}
theorem due_w {w : Nat} (hw : w < p) : ((dueP p rs D).filter fun q => decide (q.2 = w)) = (dayL rs D w).map fun d => (d, w) := by
  unfold dayL
  rw [← pick_w D w hw, List.map_map]
  have : ∀ l : List (Nat × Nat), (∀ q ∈ l, q.2 = w) → l = l.map ((fun d => (d, w)) ∘ (·.1)) := fun l h => by
    induction l with
    | nil => rfl
    | cons q l ih =>
      rw [List.map_cons, ← ih fun x hx => h x (List.mem_cons_of_mem _ hx)]
      congr 1
      have := h q (by simp)
      show q = (q.1, w)
      rw [← this]
  exact this _ fun q hq => of_decide_eq_true (List.mem_filter.mp hq).2
end Dl
namespace Dl
open PySem PySem.Spec PyProof.Rows L2
variable {p : Nat} {rs : List Rw} {D b : Nat} {L : List Lk}
def nO : Option Nat → Dt
  | none => .non
  | some k => nD k
def isE (g : Nat) (o : Option Bool) : Bool := match o with
  | none => true
  | some o => decide (g % 2 = 1) == o
theorem leadP_isE (g f : Nat) (o : Option Bool) : leadP g f o = if isE g o = true then some g else if f = 0 then none else some (g + 1) := by
  unfold leadP isE
  cases o with
  | none => simp
  | some o =>
    by_cases h : o = decide (g % 2 = 1)
    · rw [if_pos (.inr (by rw [h])), if_pos (by rw [h]; simp)]
    · have h2 : (decide (g % 2 = 1) == o) = false := by
        cases hb : (decide (g % 2 = 1) == o) with
        | false => rfl
        | true => exact absurd (beq_iff_eq.mp hb).symm h
      rw [if_neg (fun z => z.elim (fun z => nomatch z) fun z => h (Option.some.inj z))]
      exact (if_neg (show ¬ (decide (g % 2 = 1) == o) = true by rw [h2]; simp)).symm
def canB (c : Option Nat) (b : Nat) : Bool := match c with
  | none => false
  | some k => decide (k ≤ b)
end Dl
namespace Dl
open PySem PySem.Spec PyProof.Rows L2
variable {p : Nat} {rs : List Rw} {D b : Nat} {K L : List Lk}
/-! ### turnings and looks as a season holds them -/
theorem due_ok : DueOk p D (dueP p rs D) := ⟨dueP_nodup D, fun x hx => (mem_dueP.mp hx).1, fun x hx => (mem_dueP.mp hx).2.1⟩
def lt3 (a c : Lk) : Prop := a.1 < c.1 ∨ (a.1 = c.1 ∧ (a.2.1 < c.2.1 ∨ (a.2.1 = c.2.1 ∧ a.2.2 < c.2.2)))
theorem allLk_asc (p D : Nat) : (allLk p D).Pairwise lt3 := by
  unfold allLk
  rw [List.pairwise_flatMap]
  refine ⟨fun d _ => ?_, List.pairwise_lt_range.imp fun {a c} h x hx y hy => ?_⟩
  · rw [List.pairwise_flatMap]
    refine ⟨fun w _ => ?_, List.pairwise_lt_range.imp fun {a c} h x hx y hy => ?_⟩
    · rw [List.pairwise_flatMap]
      refine ⟨fun s _ => List.pairwise_singleton _ _, List.pairwise_lt_range.imp fun {a c} h x hx y hy => ?_⟩
      rw [List.mem_singleton.mp hx, List.mem_singleton.mp hy]
      exact .inr ⟨rfl, .inr ⟨rfl, h⟩⟩
    · obtain ⟨s, _, hx⟩ := List.mem_flatMap.mp hx
      obtain ⟨t, _, hy⟩ := List.mem_flatMap.mp hy
      rw [List.mem_singleton.mp hx, List.mem_singleton.mp hy]
      exact .inr ⟨rfl, .inl h⟩
  · obtain ⟨u, _, hx⟩ := List.mem_flatMap.mp hx
    obtain ⟨s, _, hx⟩ := List.mem_flatMap.mp hx
    obtain ⟨v, _, hy⟩ := List.mem_flatMap.mp hy
    obtain ⟨t, _, hy⟩ := List.mem_flatMap.mp hy
    rw [List.mem_singleton.mp hx, List.mem_singleton.mp hy]
    exact .inl h
theorem lks_ok (K : List Lk) : LooksOk p D (lksOf p D K) := by
  refine ⟨fun w => ?_, fun q hq => ?_, fun q hq => ?_, fun q hq => ?_⟩
  · unfold lkW
    rw [List.pairwise_map]
    have h1 : (lksOf p D K).Pairwise lt3 := (allLk_asc p D).filter _
    refine (h1.filter _).imp_of_mem fun {a c} ha hc h => ?_
    have e1 : a.2.1 = w := of_decide_eq_true (List.mem_filter.mp ha).2
    have e2 : c.2.1 = w := of_decide_eq_true (List.mem_filter.mp hc).2
    unfold lt3 at h
    unfold ltP
    dsimp only
    omega
  · exact (mem_allLk.mp (List.mem_filter.mp hq).1).1
  · exact (mem_allLk.mp (List.mem_filter.mp hq).1).2.1
  · exact (mem_allLk.mp (List.mem_filter.mp hq).1).2.2
/-! ### what fits -/
abbrev Pr := Nat × Nat
theorem side_sd (M : List Pr) {w : Nat} (hw : w < p) (d : Nat) : sdU (dueP p rs D) M w d = sideN rs D M d w := by
  unfold sdU sideN madeL
  rw [← List.countP_eq_length_filter]
  congr 1
  rw [show ((List.range D).filter (isDue rs w)) = dayL rs D w from rfl]
  have h := due_w (p := p) (rs := rs) (D := D) hw
  have e : (dueP p rs D).countP (fun x => decide (x.2 = w) && (decide (x.1 < d) && !decide (x ∈ M))) = ((dueP p rs D).filter fun q => decide (q.2 = w)).countP fun x => decide (x.1 < d) && !decide (x ∈ M) := by
    rw [List.countP_filter]
    apply List.countP_congr
    intro x _
    simp only [Bool.and_eq_true]
    exact ⟨fun z => ⟨z.2, z.1⟩, fun z => ⟨z.2, z.1⟩⟩
  rw [e, h, List.countP_map]
  rfl
def unK (rs : List Rw) (D : Nat) (K : List Lk) (M : List Pr) : Bool := K.all fun q => decide (sideN rs D M q.1 q.2.1 = q.2.2)
theorem unb_un (hK : ∀ q ∈ K, q.2.1 < p) (M : List Pr) : unb (dueP p rs D) K M = unK rs D K M := by
  unfold unb unK
  rw [Bool.eq_iff_iff, List.all_eq_true, List.all_eq_true]
  exact ⟨fun h q hq => by rw [← side_sd M (hK q hq)]; exact h q hq, fun h q hq => by rw [side_sd M (hK q hq)]; exact h q hq⟩
theorem unK_lks (hK : ∀ q ∈ K, GoodLk p D q) (M : List Pr) : unK rs D (lksOf p D K) M = unK rs D K M := by
  unfold unK
  rw [Bool.eq_iff_iff, List.all_eq_true, List.all_eq_true]
  exact ⟨fun h q hq => h q (mem_lks hq (hK q hq)), fun h q hq => h q (lks_mem hq)⟩
/-- all lots that fit, ascending -/
def fitL (p : Nat) (rs : List Rw) (D b : Nat) (K : List Lk) : List (List Pr) := (lots (dueP p rs D)).filter fun M => unK rs D K M && decide (M.length ≤ b)
theorem mem_fitL {M : List Pr} : M ∈ fitL p rs D b K ↔ M.Sublist (dueP p rs D) ∧ unK rs D K M = true ∧ M.length ≤ b := by
  unfold fitL
  rw [List.mem_filter, mem_lots, Bool.and_eq_true, decide_eq_true_eq]
/-- a season whose looks come of K -/
structure Sn (p : Nat) (rs : List Rw) (D b : Nat) (K : List Lk) : Prop where
  good : Good p rs
  rl : rs.length < 1000
  hp : p < 100
  D0 : 0 < D
  hD : D ≤ 60
  hb : b < 1000
  hK : ∀ q ∈ K, GoodLk p D q
  kl : K.length < 900
theorem Sn.un (h : Sn p rs D b K) (M : List Pr) : unb (dueP p rs D) (lksOf p D K) M = unK rs D K M := by
  rw [unb_un (fun q hq => (lks_good K q hq).w), unK_lks h.hK]
/-- the lots that fit, with some missed and some made -/
def wMN (p : Nat) (rs : List Rw) (D b : Nat) (K : List Lk) (M N : List Pr) : Nat := (fitL p rs D b K).countP (okMN M N (dueP p rs D))
theorem poly_cnt (h : Sn p rs D b K) {M N : List Pr} (hMN : ∀ x ∈ M, x ∉ N) (j : Nat) : polyL (numsOf (dueP p rs D) p D (lksOf p D K) M N) j = (lots (dueP p rs D)).countP fun x => (okMN M N (dueP p rs D) x && unK rs D K x) && decide (x.length = j) := by
  rw [← cnt_all due_ok (lks_ok K) hMN]
  unfold cntMN
  apply List.countP_congr
  intro x _
  rw [h.un]
theorem cost_min (h : Sn p rs D b K) {M N : List Pr} (hMN : ∀ x ∈ M, x ∉ N) :
    (∀ k, costL (numsOf (dueP p rs D) p D (lksOf p D K) M N) = some k → (∃ x, x.Sublist (dueP p rs D) ∧ okMN M N (dueP p rs D) x = true ∧ unK rs D K x = true ∧ x.length = k) ∧ ∀ x, x.Sublist (dueP p rs D) → okMN M N (dueP p rs D) x = true → unK rs D K x = true → k ≤ x.length) ∧
    (costL (numsOf (dueP p rs D) p D (lksOf p D K) M N) = none → ∀ x, x.Sublist (dueP p rs D) → okMN M N (dueP p rs D) x = true → unK rs D K x = false) := by
  obtain ⟨c1, c2⟩ := cost_lead (numsOf (dueP p rs D) p D (lksOf p D K) M N)
  refine ⟨fun k hk => ?_, fun hn x hx ho => ?_⟩
  · obtain ⟨h1, h2⟩ := c1 k hk
    rw [poly_cnt h hMN] at h1
    obtain ⟨x, hx, hP⟩ := List.countP_pos_iff.mp h1
    simp only [Bool.and_eq_true, decide_eq_true_eq] at hP
    refine ⟨⟨x, mem_lots.mp hx, hP.1.1, hP.1.2, hP.2⟩, fun y hy ho hu => ?_⟩
    rcases Nat.lt_or_ge y.length k with hlt | hge
    · have := h2 y.length hlt
      rw [poly_cnt h hMN, List.countP_eq_zero] at this
      exact absurd (show ((okMN M N (dueP p rs D) y && unK rs D K y) && decide (y.length = y.length)) = true by rw [ho, hu]; simp) (this y (mem_lots.mpr hy))
    · exact hge
  · have := c2 hn x.length
    rw [poly_cnt h hMN, List.countP_eq_zero] at this
    have := this x (mem_lots.mpr hx)
    rw [ho] at this
    simpa using this
theorem can_w (h : Sn p rs D b K) {M N : List Pr} (hMN : ∀ x ∈ M, x ∉ N) : canB (costL (numsOf (dueP p rs D) p D (lksOf p D K) M N)) b = decide (0 < wMN p rs D b K M N) := by
  obtain ⟨c1, c2⟩ := cost_min h hMN
  rw [Bool.eq_iff_iff, decide_eq_true_eq]
  unfold wMN
  rw [List.countP_pos_iff]
  cases hc : costL (numsOf (dueP p rs D) p D (lksOf p D K) M N) with
  | none =>
    refine ⟨fun z => (by cases z), fun ⟨x, hx, ho⟩ => ?_⟩
    obtain ⟨h1, h2, h3⟩ := mem_fitL.mp hx
    rw [c2 hc x h1 ho] at h2
    cases h2
  | some k =>
    obtain ⟨⟨x, x1, x2, x3, x4⟩, hmin⟩ := c1 k hc
    show decide (k ≤ b) = true ↔ _
    rw [decide_eq_true_eq]
    refine ⟨fun hk => ⟨x, mem_fitL.mpr ⟨x1, x3, by omega⟩, x2⟩, fun ⟨y, hy, ho⟩ => ?_⟩
    obtain ⟨h1, h2, h3⟩ := mem_fitL.mp hy
    have := hmin y h1 ho h2
    omega
end Dl
namespace Dl
open PySem PySem.Spec PyProof.Rows L2
variable {p : Nat} {rs : List Rw} {D b : Nat} {K L : List Lk}
def sideO (l : List Nat) : Dt := match l with
  | [s] => nD s
  | _ => .non
theorem enum_map' {α : Type} (f : α → Dt) (l : List α) : enumD 0 (l.map f) = l.zipIdx.map fun x => .tup [nD x.2, f x.1] := enum_map f 0 l
end Dl
namespace Dl
open PySem PySem.Spec PyProof.Rows L2
/-! ### == [] and != [] -/
/-! ### draws of a deal -/
def dlD (q : List Int × Int) : Dt := .deal q.1 q.2
abbrev Dq := { q : List Int × Int // q.1.length < 900 }
end Dl
namespace Dl
open PySem PySem.Spec PyProof.Rows L2
variable {p : Nat} {rs : List Rw} {D b : Nat} {K : List Lk}
theorem feq_nat (a b : Nat) : fEq (nD a) (nD b) = some (.bl (decide (a = b))) := (feq_int _ _).trans (by congr 2; exact decide_eq_decide.mpr (by omega))
/-! ### the side by the law -/
/-! ### drawn looks -/
/-! ### a season told -/
structure Told (most p : Nat) (rs : List Rw) (D b : Nat) (K : List Lk) : Prop where
  good : Good p rs
  p0 : 0 < p
  p3 : p ≤ 3
  l3 : rs.length ≤ 3
  D0 : 0 < D
  D6 : D ≤ 6
  b9 : b ≤ 18
  hK : ∀ x ∈ K, GoodLk p D x
  k5 : K.length ≤ 4
  due : (dueP p rs D).length ≤ max 3 most
theorem wh_f {C : Mi Bool} {B : En → So} {n : Nat} {ρ ρ1 : En} (h : C ρ = .ok false ρ1) : whGo C B (n + 1) ρ = .nx ρ1 := by unfold whGo; rw [h]
theorem wh_t {C : Mi Bool} {B : En → So} {n : Nat} {ρ ρ1 ρ2 : En} {o : So} (h : C ρ = .ok true ρ1) (hb : B ρ1 = .nx ρ2) (k : whGo C B n ρ2 = o) : whGo C B (n + 1) ρ = o := by unfold whGo; rw [h]; dsimp only; rw [hb]; exact k
def tC : Mi Bool := mAnd (mB (m2 fGt (m1 fLen (mCall 2 m_law_due (mCons (mVar 2) (mCons (mVar 3) (mPure []))))) (mPeek 1))) (mB (m2 fGt (mVar 3) (mPure (.int 1))))
def tB : En → So := sSet 3 (m2 fSub (mVar 3) (mPure (.int 1)))
end Dl
namespace Dl
open PySem PySem.Spec PyProof.Rows L2
variable {p : Nat} {rs : List Rw} {D b : Nat} {K : List Lk} {most : Nat}
theorem Told.n0 (h : Told most p rs D b K) : 0 < rs.length := h.good.n0
abbrev cstO (p : Nat) (rs : List Rw) (D : Nat) (K : List Lk) : Option Nat := costL (numsOf (dueP p rs D) p D (lksOf p D K) [] [])
def oDq : Option Dq → Option Sl
  | none => none
  | some q => ow (dlD q.1)
theorem no_flt {k : Nat} (o : Option Nat) : Flt k (nO o) := by cases o with
  | none => exact .non
  | some n => exact .int _
end Dl
namespace Dl
open PySem PySem.Spec PyProof.Rows L2
variable {p : Nat} {rs : List Rw} {D b : Nat} {K : List Lk} {most : Nat}
/-! ### whether a turning was missed -/
def anM (F : List (List Pr)) (x : Pr) : Bool := F.any fun M => decide (x ∈ M)
def anN (F : List (List Pr)) (x : Pr) : Bool := F.any fun M => !decide (x ∈ M)
theorem ok_m {U : List Pr} {x : Pr} (hx : x ∈ U) (M : List Pr) : okMN [x] [] U M = decide (x ∈ M) := by
  rw [Bool.eq_iff_iff, okMN_iff, decide_eq_true_eq]
  exact ⟨fun h => (h x hx).1 (by simp), fun h y _ => ⟨fun z => by rw [List.mem_singleton.mp z]; exact h, fun z => by cases z⟩⟩
theorem ok_n {U : List Pr} {x : Pr} (hx : x ∈ U) (M : List Pr) : okMN [] [x] U M = !decide (x ∈ M) := by
  rw [Bool.eq_iff_iff, okMN_iff]
  simp only [Bool.not_eq_true', decide_eq_false_iff_not]
  exact ⟨fun h => (h x hx).2 (by simp), fun h y _ => ⟨(fun z => by cases z), (fun z => by rw [List.mem_singleton.mp z]; exact h)⟩⟩
theorem pos_any {F : List (List Pr)} {f : List Pr → Bool} : decide (0 < F.countP f) = F.any f := by
  rw [Bool.eq_iff_iff, decide_eq_true_eq, List.countP_pos_iff, List.any_eq_true]
/-! ### sides shown -/
end Dl
namespace Dl
open PySem PySem.Spec PyProof.Rows L2
/-! ### steps that leave the slots as they are -/
section
variable {ρ ρ1 ρ2 : En} {i j n : Nat} {m ma mb : Mi Dt} {ms : Mi (List Dt)} {d r x y z : Dt} {ds : List Dt} {f : List Dt → Fo} {s : Option Dt} {t : Sl} {io0 : Bool}
theorem callP (hf : f ds = .ret d r) (h : ms ρ = .ok ds ρ) (hn : ds.length = n) : mCall n f ms ρ = .ok d ρ := call_ok h hn hf
theorem sl_lv (h : ρ[i]? = some (lv s)) : setSl i t ρ = some (ρ.set i (some t)) := by unfold setSl; rw [h]; cases s <;> rfl
theorem sl_vl (h : ρ[i]? = some (some (.val d))) : setSl i t ρ = some (ρ.set i (some t)) := by unfold setSl; rw [h]
theorem sl_ow (h : ρ[i]? = some (some (.own false d))) : setSl i t ρ = some (ρ.set i (some t)) := by unfold setSl; rw [h]
theorem sl_no (h : ρ[i]? = some none) : setSl i t ρ = some (ρ.set i (some t)) := by unfold setSl; rw [h]
end
end Dl
namespace Dl
open PySem PySem.Spec PyProof.Rows L2
/-! ### what the step words lean on -/
section
variable {α : Type} {ρ ρ1 ρ2 ρ3 : En} {i j n : Nat} {m ma mb : Mi Dt} {ms : Mi (List Dt)} {d r x y z : Dt} {ds : List Dt} {f : List Dt → Fo} {s : Option Dt} {t : Sl} {io0 : Bool} {c : Mi Bool} {a b : Nat}
theorem var_ok (h : ρ[i]? = some (some (.val d))) : mVar i ρ = .ok d ρ := by unfold mVar; rw [h]
theorem peek_ok (h : ρ[i]? = some (some (.val d))) : mPeek i ρ = .ok d ρ := by unfold mPeek; rw [h]
theorem peek_ow (h : ρ[i]? = some (some (.own io0 d))) : mPeek i ρ = .ok d ρ := by unfold mPeek; rw [h]
theorem pure_ok {a : α} : mPure a ρ = .ok a ρ := rfl
theorem lit_ok {k : Nat} : mPure (Dt.int (OfNat.ofNat k : Int)) ρ = .ok (nD (OfNat.ofNat k)) ρ := rfl
theorem chain_ge {ma mb mc : Mi Dt} {ρ : En} {x y z : Nat} (ha : ma ρ = .ok (nD x) ρ) (hb : mb ρ = .ok (nD y) ρ) (hc : mc ρ = .ok (nD z) ρ) : mB (mChain fGe fGe ma mb mc) ρ = .ok (decide (y ≤ x) && decide (z ≤ y)) ρ := by
  refine tb_ok ?_
  refine bind_ok ha (bind_ok hb ?_)
  rw [ge_nat]
  by_cases h : y ≤ x
  · rw [decide_eq_true h]
    refine bind_ok (a := .bl true) (ρ1 := ρ) rfl ?_
    rw [Bool.true_and]
    refine bind_ok hc ?_
    rw [ge_nat]; rfl
  · rw [decide_eq_false h]
    exact bind_ok (a := .bl false) (ρ1 := ρ) rfl rfl
theorem chain_ge_t {ma mb mc : Mi Dt} {x y z : Nat} (ha : ma ρ = .ok (nD x) ρ) (hb : mb ρ = .ok (nD y) ρ) (hc : mc ρ = .ok (nD z) ρ) (h1 : y ≤ x) (h2 : z ≤ y) : mB (mChain fGe fGe ma mb mc) ρ = .ok true ρ := by
  rw [chain_ge ha hb hc, decide_eq_true h1, decide_eq_true h2]; rfl
theorem chainT {ma mb mc : Mi Dt} {x y z : Nat} (ha : ma ρ = .ok (nD x) ρ) (hb : mb ρ = .ok (nD y) ρ) (hc : mc ρ = .ok (nD z) ρ) (h1 : x ≤ y) (h2 : y < z) : mB (mChain fLe fLt ma mb mc) ρ = .ok true ρ := by
  rw [chain_nat ha hb hc, decide_eq_true h1, decide_eq_true h2]; rfl
theorem callQ' (h : ms ρ = .ok ds ρ1) (hn : ds.length = n) (hf : f ds = .ret d r) : mCall n f ms ρ = .ok d ρ1 := call_ok h hn hf
theorem methQ {c : Nat} {S : Dt} (hm : m ρ = .ok S ρ1) (h : ms ρ1 = .ok ds ρ2) (hn : ds.length + 1 = n) (hf : f (S :: ds) = .ret d r) (hS : ∃ vs, S = .ins c vs) : mMeth c n f m ms ρ = .ok d ρ2 := by
  obtain ⟨vs, rfl⟩ := hS
  exact meth_ok hm h hn hf
theorem callJ {io1 : Bool} (h0 : ρ[i]? = some (some (.own io0 x))) (h : ms ρ = .ok ds ρ1) (h1 : ρ1[i]? = some (some (.own io1 y))) (hn : ds.length + 1 = n) (hf : f (y :: ds) = .ret d r) : mCallIo n f i ms ρ = .ok d (ρ1.set i (some (.own io1 r))) := callIo_ok h0 h h1 hn hf rfl
theorem not_f (h : c ρ = .ok true ρ1) : mNot c ρ = .ok false ρ1 := not_ok h
theorem not_t (h : c ρ = .ok false ρ1) : mNot c ρ = .ok true ρ1 := not_ok h
theorem ixv' {s : Sl} (h1 : ρ[i]? = some (some s)) (h2 : m ρ = .ok y ρ) (h3 : mPeek i ρ = .ok d ρ) (h4 : fIx d y = some z) : hasSl i (mIxV i m) ρ = .ok z ρ := ixv h1 h2 h3 h4
theorem pars2_ok (h : ms ρ = .ok [x, y] ρ1) (k1 : setSl i (.val x) ρ1 = some ρ2) (k2 : setSl j (.val y) ρ2 = some ρ3) : sPars [i, j] [false, false] ms ρ = .nx ρ3 := pars_ok h (by show (setSl i (.val x) ρ1).bind _ = _; rw [k1]; show (setSl j (.val y) ρ2).bind _ = _; rw [k2]; rfl)
theorem lt_f (h : ¬ a < b) : fLt (nD a) (nD b) = some (.bl false) := by rw [fLt_nat, decide_eq_false h]
theorem lt_t (h : a < b) : fLt (nD a) (nD b) = some (.bl true) := by rw [fLt_nat, decide_eq_true h]
theorem le_f (h : ¬ a ≤ b) : fLe (nD a) (nD b) = some (.bl false) := by rw [fLe_nat, decide_eq_false h]
theorem le_t (h : a ≤ b) : fLe (nD a) (nD b) = some (.bl true) := by rw [fLe_nat, decide_eq_true h]
theorem gt_f (h : ¬ b < a) : fGt (nD a) (nD b) = some (.bl false) := by rw [gt_nat, decide_eq_false h]
theorem gt_t (h : b < a) : fGt (nD a) (nD b) = some (.bl true) := by rw [gt_nat, decide_eq_true h]
theorem ge_f (h : ¬ b ≤ a) : fGe (nD a) (nD b) = some (.bl false) := by rw [ge_nat, decide_eq_false h]
theorem ge_t (h : b ≤ a) : fGe (nD a) (nD b) = some (.bl true) := by rw [ge_nat, decide_eq_true h]
theorem eq_f (h : ¬ a = b) : fEq (nD a) (nD b) = some (.bl false) := by rw [feq_nat, decide_eq_false h]
theorem eq_t (h : a = b) : fEq (nD a) (nD b) = some (.bl true) := by rw [feq_nat, decide_eq_true h]
theorem ne_f (h : a = b) : fNe (nD a) (nD b) = some (.bl false) := by rw [fne_nat, decide_eq_true h]; rfl
theorem ne_t (h : ¬ a = b) : fNe (nD a) (nD b) = some (.bl true) := by rw [fne_nat, decide_eq_false h]; rfl
theorem flt_tup_nats {k : Nat} (l : List Nat) : Flt (k + 1) (.tup (l.map nD)) := .tup (flt_nats l)
theorem flt_lst_nats {k : Nat} (l : List Nat) : Flt (k + 1) (.lst (l.map nD)) := .lst (flt_nats l)
theorem flt_side {k : Nat} (l : List Nat) : Flt k (sideO l) := by
  unfold sideO
  split
  · exact .int _
  · exact .non
section
variable {α : Type} {ρ : En} {i j : Nat} {mi : Mi (List Dt)} {t : Mi Bool} {e : Mi Dt} (f f2 : α → Dt) (tf : α → Bool) (ef : α → Dt) (xs : List α)
theorem free2 {s s' : Option Dt} (h : ρ[i]? = some (lv s)) (h' : ρ[j]? = some (lv s')) (hij : i ≠ j) (d d' : Dt) : gT (gsC (gV i) (gsC (gV j) gsN)) 2 (.tup [d, d']) (wipeE ρ [i, j]) = some ((ρ.set i (vl d)).set j (vl d')) := by
  have hi : i < ρ.length := by
    rcases Nat.lt_or_ge i ρ.length with z | z
    · exact z
    · rw [List.getElem?_eq_none z] at h; cases h
  have hj : j < ρ.length := by
    rcases Nat.lt_or_ge j ρ.length with z | z
    · exact z
    · rw [List.getElem?_eq_none z] at h'; cases h'
  show (setSl i (.val d) ((ρ.set j none).set i none)).bind (fun ρ => (setSl j (.val d') ρ).bind (fun ρ => some ρ)) = _
  have e1 : setSl i (.val d) ((ρ.set j none).set i none) = some ((ρ.set j none).set i (vl d)) := by
    unfold setSl
    rw [List.getElem?_set_self (by rw [List.length_set]; exact hi)]
    dsimp only
    rw [List.set_set]
  rw [e1]
  show (setSl j (.val d') ((ρ.set j none).set i (vl d))).bind (fun ρ => some ρ) = _
  have e2 : setSl j (.val d') ((ρ.set j none).set i (vl d)) = some ((ρ.set i (vl d)).set j (vl d')) := by
    unfold setSl
    rw [List.getElem?_set_ne hij, List.getElem?_set_self hj]
    dsimp only
    rw [List.set_comm _ _ hij.symm, List.set_set]
  rw [e2]; rfl
theorem wipe2 (hij : i ≠ j) (d d' : Sl) : wipeE ((ρ.set i (some d)).set j (some d')) [i, j] = wipeE ρ [i, j] := by
  unfold wipeE wipeE wipeE
  rw [List.set_set, List.set_comm _ _ hij, List.set_set]
theorem ownAny2 {s s' : Option Dt} (h : ρ[i]? = some (lv s)) (h' : ρ[j]? = some (lv s')) : ownAny ρ [i, j] = false := by
  unfold ownAny ownAny ownAny; rw [h, h']; cases s <;> cases s' <;> rfl
theorem lcM2 {ρ' : En} (hs : ∃ s, ρ[i]? = some (lv s)) (hs' : ∃ s, ρ[j]? = some (lv s)) (hij : i ≠ j) (hi : mi ρ' = .ok (xs.map fun x => .tup [f x, f2 x]) ρ) (he : ∀ x ∈ xs, e ((ρ.set i (vl (f x))).set j (vl (f2 x))) = .ok (ef x) ((ρ.set i (vl (f x))).set j (vl (f2 x)))) (hl : xs.length ≤ 1000000) :
    mLc mi (gT (gsC (gV i) (gsC (gV j) gsN)) 2) (mPure true) e [i, j] ρ' = .ok (.lst (xs.map ef)) ρ := by
  obtain ⟨s, hs⟩ := hs
  obtain ⟨s', hs'⟩ := hs'
  exact lc_map (ρ0 := ρ) xs (fun x => .tup [f x, f2 x]) ef hi (ownAny2 hs hs') (fun x hx => ⟨_, free2 hs hs' hij _ _, _, he x hx, wipe2 hij _ _⟩) hl
end
theorem sl_dq {ρ : En} {i : Nat} {q : Option Dq} {t : Sl} (h : ρ[i]? = some (oDq q)) : setSl i t ρ = some (ρ.set i (some t)) := by unfold setSl; rw [h]; cases q <;> rfl
/-- a turn of a loop runs through, and leaves what is asked -/
def Run (s : En → So) (ρ : En) (I : En → Prop) : Prop := ∃ ρ', (s ρ = .nx ρ' ∨ s ρ = .ct ρ') ∧ I ρ'
section
variable {s t : En → So} {I : En → Prop} {c : Mi Bool} {ρ ρ1 : En}
theorem run_seq (h : s ρ = .nx ρ1) (k : Run t ρ1 I) : Run (sSeq s t) ρ I := by
  obtain ⟨ρ', h1, h2⟩ := k
  exact ⟨ρ', h1.imp (fun z => seq_nx h z) (fun z => seq_nx h z), h2⟩
theorem run_end (h : s ρ = .nx ρ1) (k : I ρ1) : Run s ρ I := ⟨ρ1, .inl h, k⟩
theorem run_if (h : c ρ = .ok false ρ) (k : Run t ρ I) : Run (sSeq (sIf c s (fun ρ => .nx ρ)) t) ρ I := run_seq (if_f h rfl) k
theorem run_eif (h : c ρ = .ok false ρ) (k : I ρ) : Run (sIf c s (fun ρ => .nx ρ)) ρ I := run_end (if_f h rfl) k
end
end
end Dl
namespace Dl
open PySem PySem.Spec PyProof.Rows L2
/-! ### one mirror says what another one says, where that one comes through -/
def RM {α : Type} (m m' : Mi α) : Prop := ∀ ρ, m ρ ≠ .bad → m' ρ = m ρ
def RS (s s' : En → So) : Prop := ∀ ρ, s ρ ≠ .bad → s' ρ = s ρ
def RF (f f' : List Dt → Fo) : Prop := ∀ ds, f ds ≠ .bad → f' ds = f ds
theorem RF.ret {f f' : List Dt → Fo} (h : RF f f') {ds : List Dt} {d r : Dt} (e : f ds = .ret d r) : f' ds = .ret d r := by rw [h ds (by rw [e]; exact fun z => nomatch z)]; exact e
theorem RF.exc {f f' : List Dt → Fo} (h : RF f f') {ds : List Dt} {x : Ex} {r : Dt} (e : f ds = .exc x r) : f' ds = .exc x r := by rw [h ds (by rw [e]; exact fun z => nomatch z)]; exact e
section
variable {α β : Type} {m m' ma ma' mb mb' mc mc' : Mi Dt} {ms ms' : Mi (List Dt)} {t t' u u' : Mi Bool} {s s' v v' : En → So} {f f' : List Dt → Fo} {i n c : Nat}
theorem rm_refl (m : Mi α) : RM m m := fun _ _ => rfl
theorem rs_refl (s : En → So) : RS s s := fun _ _ => rfl
theorem rf_refl (f : List Dt → Fo) : RF f f := fun _ _ => rfl
theorem rm_bind {k k' : α → Mi β} {x x' : Mi α} (h : RM x x') (hk : ∀ a, RM (k a) (k' a)) : RM (mBind x k) (mBind x' k') := fun ρ e => by
  unfold mBind at e ⊢
  cases q : x ρ with
  | ok a ρ1 => rw [q] at e; rw [h ρ (by rw [q]; exact fun z => nomatch z), q]; exact hk a ρ1 e
  | exc y ρ1 => rw [h ρ (by rw [q]; exact fun z => nomatch z), q]
  | bad => rw [q] at e; exact absurd rfl e
theorem rm_m1 {g : Dt → Option Dt} (h : RM m m') : RM (m1 g m) (m1 g m') := rm_bind h fun _ => rm_refl _
theorem rm_m1g {g g' : Dt → Option Dt} (hg : ∀ d z, g d = some z → g' d = some z) (h : RM m m') : RM (m1 g m) (m1 g' m') := rm_bind h fun d ρ e => by
  cases q : g d with
  | none => rw [q] at e; exact absurd rfl e
  | some z => rw [hg d z q]
theorem fisi_o {n : Ty5} (d z : Dt) (h : fIsi n d = some z) : fIsiO n d = some z := by
  unfold fIsi at h
  cases q : isD n d with
  | none => rw [q] at h; cases h
  | some b => rw [q] at h; unfold fIsiO; rw [isDO_of q]; exact h
theorem fisi2_o {n n' : Ty5} (d z : Dt) (h : fIsi2 n n' d = some z) : fIsi2O n n' d = some z := by
  unfold fIsi2 at h
  cases q : isD n d with
  | none => rw [q] at h; cases h
  | some b =>
    cases q2 : isD n' d with
    | none => rw [q, q2] at h; cases h
    | some b2 => rw [q, q2] at h; unfold fIsi2O; rw [isDO_of q, isDO_of q2]; exact h
theorem rm_isi {k : Ty5} (h : RM m m') : RM (m1 (fIsi k) m) (m1 (fIsiO k) m') := rm_m1g fisi_o h
theorem rm_isi2 {k l : Ty5} (h : RM m m') : RM (m1 (fIsi2 k l) m) (m1 (fIsi2O k l) m') := rm_m1g fisi2_o h
theorem rm_m2 {g : Dt → Dt → Option Dt} (h : RM ma ma') (k : RM mb mb') : RM (m2 g ma mb) (m2 g ma' mb') := rm_bind h fun _ => rm_bind k fun _ => rm_refl _
theorem rm_B (h : RM m m') : RM (mB m) (mB m') := rm_bind h fun _ => rm_refl _
theorem rm_not (h : RM t t') : RM (mNot t) (mNot t') := rm_bind h fun _ => rm_refl _
theorem rm_and (h : RM t t') (k : RM u u') : RM (mAnd t u) (mAnd t' u') := rm_bind h fun b => match b with | true => k | false => rm_refl _
theorem rm_or (h : RM t t') (k : RM u u') : RM (mOr t u) (mOr t' u') := rm_bind h fun b => match b with | true => rm_refl _ | false => k
theorem rm_andV (h : RM ma ma') (k : RM mb mb') : RM (mAndV ma mb) (mAndV ma' mb') := rm_bind h fun d => by
  cases d with
  | bl b => cases b with | true => exact k | false => exact rm_refl _
  | _ => exact rm_refl _
theorem rm_orV (h : RM ma ma') (k : RM mb mb') : RM (mOrV ma mb) (mOrV ma' mb') := rm_bind h fun d => by
  cases d with
  | bl b => cases b with | false => exact k | true => exact rm_refl _
  | _ => exact rm_refl _
theorem rm_notV (h : RM m m') : RM (mNotV m) (mNotV m') := rm_bind h fun _ => rm_refl _
theorem rm_ifE (h : RM t t') (k : RM ma ma') (l : RM mb mb') : RM (mIfE t ma mb) (mIfE t' ma' mb') := rm_bind h fun b => match b with | true => k | false => l
theorem rm_cons (h : RM m m') (k : RM ms ms') : RM (mCons m ms) (mCons m' ms') := rm_bind h fun _ => rm_bind k fun _ => rm_refl _
theorem rm_star (h : RM m m') (k : RM ms ms') : RM (mStar m ms) (mStar m' ms') := rm_bind h fun d => by
  cases d with
  | lst xs => exact rm_bind k fun _ => rm_refl _
  | tup xs => exact rm_bind k fun _ => rm_refl _
  | _ => exact rm_refl _
theorem rm_tup (h : RM ms ms') : RM (mTup ms) (mTup ms') := rm_bind h fun _ => rm_refl _
theorem rm_lst (h : RM ms ms') : RM (mLst ms) (mLst ms') := rm_bind h fun _ => rm_refl _
theorem rm_call (hf : RF f f') (h : RM ms ms') : RM (mCall n f ms) (mCall n f' ms') := rm_bind h fun ds ρ e => by
  try dsimp only at e ⊢
  split at e
  · rename_i hl
    rw [if_pos hl, if_pos hl]
    cases q : f ds with
    | bad => rw [q] at e; exact absurd rfl e
    | _ => rw [hf ds (by rw [q]; exact fun z => nomatch z), q]
  · exact absurd rfl e
theorem rm_make (hf : RF f f') (h : RM ms ms') : RM (mMake c n f ms) (mMake c n f' ms') := rm_bind h fun ds ρ e => by
  try dsimp only at e ⊢
  split at e
  · rename_i hl
    rw [if_pos hl, if_pos hl]
    cases q : f (.ins c [] :: ds) with
    | bad => rw [q] at e; exact absurd rfl e
    | _ => rw [hf _ (by rw [q]; exact fun z => nomatch z), q]
  · exact absurd rfl e
theorem rm_meth (hf : RF f f') (h : RM m m') (k : RM ms ms') : RM (mMeth c n f m ms) (mMeth c n f' m' ms') := rm_bind h fun d => by
  cases d with
  | ins c' vs =>
    dsimp only
    split
    · refine rm_bind k fun ds ρ e => ?_
      try dsimp only at e ⊢
      split at e
      · rename_i hl
        rw [if_pos hl, if_pos hl]
        cases q : f (.ins c' vs :: ds) with
        | bad => rw [q] at e; exact absurd rfl e
        | _ => rw [hf _ (by rw [q]; exact fun z => nomatch z), q]
      · exact absurd rfl e
    · exact rm_refl _
  | _ => exact rm_refl _
theorem lcGo_ok {g : Dt → En → Option En} {vs : List Nat} (ht : RM t t') (he : RM m m') : ∀ (ds acc : List Dt) (ρ : En), lcGo g t m vs ds acc ρ ≠ .bad → lcGo g t' m' vs ds acc ρ = lcGo g t m vs ds acc ρ
  | [], _, _, _ => rfl
  | d :: ds, acc, ρ, e => by
    unfold lcGo at e ⊢
    cases q : g d ρ with
    | none => rfl
    | some ρ2 =>
      rw [q] at e
      dsimp only at e ⊢
      cases w : t ρ2 with
      | bad => rw [w] at e; exact absurd rfl e
      | exc x y => rw [w] at e; exact absurd rfl e
      | ok b ρ3 =>
        rw [w] at e
        rw [ht _ (by rw [w]; exact fun z => nomatch z), w]
        cases b with
        | false => exact lcGo_ok ht he ds acc _ e
        | true =>
          dsimp only at e ⊢
          cases z : m ρ3 with
          | bad => rw [z] at e; exact absurd rfl e
          | exc x y => rw [z] at e; exact absurd rfl e
          | ok y ρ4 =>
            rw [z] at e
            rw [he _ (by rw [z]; exact fun z => nomatch z), z]
            dsimp only at e ⊢
            split at e
            · rename_i hl
              rw [if_pos hl, if_pos hl]
              exact lcGo_ok ht he ds _ _ e
            · exact absurd rfl e
theorem rm_lc {g : Dt → En → Option En} {vs : List Nat} (h : RM ms ms') (ht : RM t t') (he : RM m m') : RM (mLc ms g t m vs) (mLc ms' g t' m' vs) := rm_bind h fun ds ρ e => by
  try dsimp only at e ⊢
  split at e
  · exact absurd rfl e
  · rename_i hn
    rw [if_neg hn, if_neg hn]
    cases q : lcGo g t m vs ds [] (wipeE ρ vs) with
    | bad => rw [q] at e; exact absurd rfl e
    | _ => rw [lcGo_ok ht he _ _ _ (by rw [q]; exact fun z => nomatch z), q]
theorem rm_seqI (h : RM m m') : RM (mSeqI m) (mSeqI m') := rm_bind h fun _ => rm_refl _
theorem rm_ix (h : RM m m') : RM (hasSl i (mIxV i m)) (hasSl i (mIxV i m')) := fun ρ e => by
  unfold hasSl at e ⊢
  split at e
  · exact rm_bind h (fun _ => rm_refl _) ρ e
  · exact absurd rfl e
theorem rm_own (h : RM m m') : RM (ownLst i m) (ownLst i m') := fun ρ e => by
  unfold ownLst at e ⊢
  split at e
  · exact h ρ e
  · exact absurd rfl e
theorem rm_append (h : RM m m') : RM (mAppend i m) (mAppend i m') := rm_bind h fun _ => rm_refl _
theorem rm_extend (h : RM m m') : RM (mExtend i m) (mExtend i m') := rm_bind h fun _ => rm_refl _
theorem sbind_ok {k k' : α → En → So} {x x' : Mi α} (h : RM x x') (hk : ∀ a, RS (k a) (k' a)) : RS (sBind x k) (sBind x' k') := fun ρ e => by
  unfold sBind at e ⊢
  cases q : x ρ with
  | ok a ρ1 => rw [q] at e; rw [h ρ (by rw [q]; exact fun z => nomatch z), q]; exact hk a ρ1 e
  | exc y ρ1 => rw [h ρ (by rw [q]; exact fun z => nomatch z), q]
  | bad => rw [q] at e; exact absurd rfl e
theorem rs_seq (h : RS s s') (k : RS v v') : RS (sSeq s v) (sSeq s' v') := fun ρ e => by
  unfold sSeq at e ⊢
  cases q : s ρ with
  | nx ρ1 =>
    rw [q] at e
    rw [h ρ (by rw [q]; exact fun z => nomatch z), q]
    exact k ρ1 e
  | bad => rw [q] at e; exact absurd rfl e
  | _ => rw [h ρ (by rw [q]; exact fun z => nomatch z), q]
theorem rs_bad (s : En → So) : RS (fun _ => .bad) s := fun _ e => absurd rfl e
theorem rs_if (h : RM t t') (k : RS s s') (l : RS v v') : RS (sIf t s v) (sIf t' s' v') := sbind_ok h fun b => match b with | true => k | false => l
theorem rs_raise (h : RM m m') : RS (sRaise n m) (sRaise n m') := sbind_ok h fun _ => rs_refl _
theorem rs_ret (h : RM m m') : RS (sRet m) (sRet m') := sbind_ok h fun _ => rs_refl _
theorem rs_retN (h : RM m m') : RS (sRetN m) (sRetN m') := sbind_ok h fun _ => rs_refl _
theorem rs_drop (h : RM m m') : RS (sDrop m) (sDrop m') := sbind_ok h fun _ => rs_refl _
theorem rs_set (h : RM m m') : RS (sSet i m) (sSet i m') := sbind_ok h fun _ => rs_refl _
theorem rs_setN (h : RM m m') : RS (sSetN i m) (sSetN i m') := sbind_ok h fun _ => rs_refl _
theorem rs_pars {is : List Nat} {ks : List Bool} (h : RM ms ms') : RS (sPars is ks ms) (sPars is ks ms') := sbind_ok h fun _ => rs_refl _
theorem rs_asg {g : Dt → En → Option En} (h : RM m m') : RS (sAsg m g) (sAsg m' g) := sbind_ok h fun _ => rs_refl _
theorem rs_fput {ix : Nat → Option Nat} (h : RM m m') : RS (sFput i ix m) (sFput i ix m') := sbind_ok h fun _ => rs_refl _
theorem rs_go {g : Dt → En → Option En} (h : RS s s') : ∀ ds, RS (forGo g s ds) (forGo g s' ds)
  | [] => rs_refl _
  | d :: ds => fun ρ e => by
    unfold forGo at e ⊢
    cases q : g d ρ with
    | none => rfl
    | some ρ1 =>
      rw [q] at e
      dsimp only at e ⊢
      cases w : s ρ1 with
      | nx ρ2 => rw [w] at e; rw [h ρ1 (by rw [w]; exact fun z => nomatch z), w]; exact rs_go h ds ρ2 e
      | ct ρ2 => rw [w] at e; rw [h ρ1 (by rw [w]; exact fun z => nomatch z), w]; exact rs_go h ds ρ2 e
      | bad => rw [w] at e; exact absurd rfl e
      | _ => rw [h ρ1 (by rw [w]; exact fun z => nomatch z), w]
theorem rs_for {g : Dt → En → Option En} (h : RM ms ms') (k : RS s s') : RS (sFor ms g s) (sFor ms' g s') := sbind_ok h fun ds => rs_go k ds
theorem rf_run {k : Nat} {io rn : Bool} (h : RS s s') : RF (runF k io rn s) (runF k io rn s') := fun ds e => by
  unfold runF at e ⊢
  cases q : s (argE io ds ++ List.replicate (k - ds.length) none) with
  | bad => rw [q] at e; exact absurd rfl e
  | _ => rw [h _ (by rw [q]; exact fun z => nomatch z), q]
end
local macro_rules | `(tactic| array_get_dec) => `(tactic| repeat (with_reducible first
  | exact rm_refl _ | exact rs_refl _ | exact rf_refl _ | assumption | exact rs_bad _
  | apply rs_seq | apply rs_if | apply rs_raise | apply rs_ret | apply rs_retN | apply rs_drop | apply rs_setN | apply rs_set | apply rs_pars | apply rs_asg | apply rs_fput | apply rs_for
  | apply rm_isi2 | apply rm_isi | apply rm_m1 | apply rm_m2 | apply rm_B | apply rm_not | apply rm_and | apply rm_or | apply rm_andV | apply rm_orV | apply rm_notV | apply rm_ifE | apply rm_cons | apply rm_star | apply rm_tup | apply rm_lst
  | apply rm_call | apply rm_make | apply rm_meth | apply rm_lc | apply rm_seqI | apply rm_ix | apply rm_own | apply rm_append | apply rm_extend))
end Dl
namespace Dl
open PySem PySem.Spec PyProof.Rows L2
section
variable {m m' ma ma' mb mb' : Mi Dt} {f f' : List Dt → Fo} {c : Nat} {neg : Bool}
theorem rm_m2g {g g' : Dt → Dt → Option Dt} (hg : ∀ x y z, g x y = some z → g' x y = some z) (h : RM ma ma') (k : RM mb mb') : RM (m2 g ma mb) (m2 g' ma' mb') := rm_bind h fun x => rm_bind k fun y ρ e => by
  cases q : g x y with
  | none => rw [q] at e; exact absurd rfl e
  | some z => rw [hg x y z q]
theorem rm_isC0 (h : RM m m') : RM (m1 (fIsC 0) m) (m1 (fIsCO 0) m') := rm_m1g (fun d z e => by
  unfold fIsC at e
  split at e
  · split at e
    · rename_i hc; subst hc; exact e
    · cases e
  · cases e) h
theorem rm_isC1 (h : RM m m') : RM (m1 (fIsC 1) m) (m1 (fIsCO 1) m') := rm_m1g (fun d z e => by
  unfold fIsC at e
  split at e
  · split at e
    · rename_i hc; subst hc; exact e
    · cases e
  · cases e) h
theorem rm_ownC (hf : RF f f') (h : RM ma ma') (k : RM mb mb') : RM (m2 (fOwnC c f neg) ma mb) (m2 (fOwnC c f' neg) ma' mb') := rm_m2g (fun x y z e => by
  unfold fOwnC at e ⊢
  split at e
  · split at e
    · rename_i hc
      simp only [if_pos hc]
      split at e
      · rename_i r o hr
        rw [hf.ret hr]; exact e
      · cases e
    · cases e
  · cases e) h k
end
end Dl
namespace Dl
open PySem PySem.Spec PyProof.Rows L2
local macro_rules | `(tactic| array_get_dec) => `(tactic| repeat (with_reducible first
  | exact rm_refl _ | exact rs_refl _ | exact rf_refl _ | assumption | exact rs_bad _
  | apply rs_seq | apply rs_if | apply rs_raise | apply rs_ret | apply rs_retN | apply rs_drop | apply rs_setN | apply rs_set | apply rs_pars | apply rs_asg | apply rs_fput | apply rs_for
  | apply rm_isC0 | apply rm_isC1 | apply rm_isi2 | apply rm_isi | apply rm_m1 | apply rm_ownC | apply rm_m2 | apply rm_B | apply rm_not | apply rm_and | apply rm_or | apply rm_andV | apply rm_orV | apply rm_notV | apply rm_ifE | apply rm_cons | apply rm_star | apply rm_tup | apply rm_lst
  | apply rm_call | apply rm_make | apply rm_meth | apply rm_lc | apply rm_seqI | apply rm_ix | apply rm_own | apply rm_append | apply rm_extend))
theorem rf_need_days_k52_of_need_days : RF m_need_days m_need_days_k52 := by
  unfold m_need_days m_need_days_k52; refine rf_run ?_; unfold b_need_days b_need_days_k52; array_get_dec
theorem rf_ring_gap_k52_of_ring_gap : RF m_ring_gap m_ring_gap_k52 := by
  have := rf_need_days_k52_of_need_days
  unfold m_ring_gap m_ring_gap_k52; refine rf_run ?_; unfold b_ring_gap b_ring_gap_k52; array_get_dec
theorem rf_is_best_k52_of_is_best : RF m_is_best m_is_best_k52 := by
  have := rf_need_days_k52_of_need_days
  unfold m_is_best m_is_best_k52; refine rf_run ?_; unfold b_is_best b_is_best_k52; array_get_dec
theorem rf_no_longer_k52_of_no_longer : RF m_no_longer m_no_longer_k52 := by
  have := rf_need_days_k52_of_need_days
  unfold m_no_longer m_no_longer_k52; refine rf_run ?_; unfold b_no_longer b_no_longer_k52; array_get_dec
end Dl
namespace Dl
open PySem PySem.Spec PyProof.Rows L2
variable {p : Nat} {rs : List Rw} {D b : Nat} {K : List Lk} {most : Nat}
local macro_rules | `(tactic| array_mem_dec) => `(tactic| first
  | with_reducible assumption
  | with_reducible exact fAdd_nat _ _
  | with_reducible exact fMul_nat _ _ (by omega)
  | with_reducible exact fSub_nat (by first | assumption | omega)
  | with_reducible exact lt_f (by first | assumption | omega)
  | with_reducible exact lt_t (by first | assumption | omega)
  | with_reducible exact le_f (by first | assumption | omega)
  | with_reducible exact le_t (by first | assumption | omega)
  | with_reducible exact gt_f (by first | assumption | omega)
  | with_reducible exact gt_t (by first | assumption | omega)
  | with_reducible exact ge_f (by first | assumption | omega)
  | with_reducible exact ge_t (by first | assumption | omega)
  | with_reducible exact eq_f (by first | assumption | omega)
  | with_reducible exact eq_t (by first | assumption | omega)
  | with_reducible exact ne_f (by first | assumption | omega)
  | with_reducible exact ne_t (by first | assumption | omega)
  | with_reducible exact feq_nat _ _
  | with_reducible exact fne_nat _ _
  | with_reducible exact fLt_nat _ _
  | with_reducible exact fLe_nat _ _
  | with_reducible exact gt_nat _ _
  | with_reducible exact ge_nat _ _
  | with_reducible exact len_lst _ _
  | with_reducible exact len_tup _ _
  | with_reducible exact fne_self (k := 2) (by first | assumption | exact .int _ | exact .bl _ | exact .non | exact flt_tup_nats _ | exact flt_lst_nats _ | exact flt_side _ | exact flt_str _) (by decide)
  | with_reducible exact feq_self (k := 2) (by first | assumption | exact .int _ | exact .bl _ | exact .non | exact flt_tup_nats _ | exact flt_lst_nats _ | exact flt_side _ | exact flt_str _) (by decide)
  | rfl)
local macro_rules | `(tactic| array_get_dec) => `(tactic| first
  | ((with_reducible apply var_ok); rfl)
  | ((with_reducible apply peek_ok); rfl)
  | ((with_reducible apply peek_ow); rfl)
  | with_reducible exact lit_ok
  | with_reducible exact pure_ok
  | ((with_reducible apply cons_ok); array_get_dec; array_get_dec)
  | ((with_reducible apply callQ'); array_get_dec; rfl; with_reducible assumption)
  | ((with_reducible apply methQ); array_get_dec; array_get_dec; rfl; (with_reducible assumption); exact ⟨_, rfl⟩)
  | ((with_reducible apply callJ); rfl; array_get_dec; rfl; rfl; with_reducible assumption)
  | ((with_reducible apply m2_ok); array_get_dec; array_get_dec; array_mem_dec)
  | ((with_reducible apply m1_ok); array_get_dec; array_mem_dec)
  | ((with_reducible apply m1N_ok); array_get_dec; array_mem_dec)
  | ((with_reducible apply tup_ok); array_get_dec; exact sl_le (by simp))
  | ((with_reducible apply lst_ok); array_get_dec; exact sl_le (by simp))
  | ((with_reducible apply chain_ge_t); array_get_dec; array_get_dec; array_get_dec; omega; omega)
  | ((with_reducible apply chainT); array_get_dec; array_get_dec; array_get_dec; omega; omega)
  | ((with_reducible apply tb_ok); array_get_dec)
  | ((with_reducible apply not_f); array_get_dec)
  | ((with_reducible apply not_t); array_get_dec)
  | ((with_reducible apply not_ok); array_get_dec)
  | ((with_reducible apply and_t); array_get_dec; array_get_dec)
  | ((with_reducible apply and_f); array_get_dec)
  | ((with_reducible apply or_f); array_get_dec; array_get_dec)
  | ((with_reducible apply or_t); array_get_dec)
  | ((with_reducible apply ixv'); rfl; array_get_dec; rfl; array_mem_dec)
  | with_reducible assumption)
local macro_rules | `(tactic| decreasing_trivial) => `(tactic| first
  | ((with_reducible apply sl_lv); rfl)
  | ((with_reducible apply sl_vl); rfl)
  | ((with_reducible apply sl_no); rfl)
  | ((with_reducible apply sl_ow); rfl)
  | ((with_reducible apply sl_dq); rfl))
local macro_rules | `(tactic| get_elem_tactic_extensible) => `(tactic| first
  | ((with_reducible apply set_ok); array_get_dec; decreasing_trivial)
  | ((with_reducible apply setN_ok); array_get_dec; decreasing_trivial)
  | ((with_reducible apply pars2_ok); array_get_dec; decreasing_trivial; decreasing_trivial)
  | ((with_reducible apply drop_ok); array_get_dec)
  | ((with_reducible apply if_f (t := fun ρ => So.nx ρ)); array_get_dec; rfl)
  | ((with_reducible apply if_f); array_get_dec; rfl))
/-! ### dicts of pairs by a comprehension -/
/-! ### how long a wheel lay: all cases -/
end Dl
namespace Dl
open PySem PySem.Spec PyProof.Rows L2
variable {p : Nat} {rs : List Rw} {D b : Nat} {K : List Lk} {most : Nat}
local macro_rules | `(tactic| array_mem_dec) => `(tactic| first
  | with_reducible assumption
  | with_reducible exact fAdd_nat _ _
  | with_reducible exact fMul_nat _ _ (by omega)
  | with_reducible exact fSub_nat (by first | assumption | omega)
  | with_reducible exact lt_f (by first | assumption | omega)
  | with_reducible exact lt_t (by first | assumption | omega)
  | with_reducible exact le_f (by first | assumption | omega)
  | with_reducible exact le_t (by first | assumption | omega)
  | with_reducible exact gt_f (by first | assumption | omega)
  | with_reducible exact gt_t (by first | assumption | omega)
  | with_reducible exact ge_f (by first | assumption | omega)
  | with_reducible exact ge_t (by first | assumption | omega)
  | with_reducible exact eq_f (by first | assumption | omega)
  | with_reducible exact eq_t (by first | assumption | omega)
  | with_reducible exact ne_f (by first | assumption | omega)
  | with_reducible exact ne_t (by first | assumption | omega)
  | with_reducible exact feq_nat _ _
  | with_reducible exact fne_nat _ _
  | with_reducible exact fLt_nat _ _
  | with_reducible exact fLe_nat _ _
  | with_reducible exact gt_nat _ _
  | with_reducible exact ge_nat _ _
  | with_reducible exact len_lst _ _
  | with_reducible exact len_tup _ _
  | with_reducible exact fne_self (k := 2) (by first | assumption | exact .int _ | exact .bl _ | exact .non | exact flt_tup_nats _ | exact flt_lst_nats _ | exact flt_side _ | exact flt_str _) (by decide)
  | with_reducible exact feq_self (k := 2) (by first | assumption | exact .int _ | exact .bl _ | exact .non | exact flt_tup_nats _ | exact flt_lst_nats _ | exact flt_side _ | exact flt_str _) (by decide)
  | rfl)
local macro_rules | `(tactic| array_get_dec) => `(tactic| first
  | ((with_reducible apply var_ok); rfl)
  | ((with_reducible apply peek_ok); rfl)
  | ((with_reducible apply peek_ow); rfl)
  | with_reducible exact lit_ok
  | with_reducible exact pure_ok
  | ((with_reducible apply cons_ok); array_get_dec; array_get_dec)
  | ((with_reducible apply callQ'); array_get_dec; rfl; with_reducible assumption)
  | ((with_reducible apply methQ); array_get_dec; array_get_dec; rfl; (with_reducible assumption); exact ⟨_, rfl⟩)
  | ((with_reducible apply callJ); rfl; array_get_dec; rfl; rfl; with_reducible assumption)
  | ((with_reducible apply m2_ok); array_get_dec; array_get_dec; array_mem_dec)
  | ((with_reducible apply m1_ok); array_get_dec; array_mem_dec)
  | ((with_reducible apply m1N_ok); array_get_dec; array_mem_dec)
  | ((with_reducible apply tup_ok); array_get_dec; exact sl_le (by simp))
  | ((with_reducible apply lst_ok); array_get_dec; exact sl_le (by simp))
  | ((with_reducible apply chain_ge_t); array_get_dec; array_get_dec; array_get_dec; omega; omega)
  | ((with_reducible apply chainT); array_get_dec; array_get_dec; array_get_dec; omega; omega)
  | ((with_reducible apply tb_ok); array_get_dec)
  | ((with_reducible apply not_f); array_get_dec)
  | ((with_reducible apply not_t); array_get_dec)
  | ((with_reducible apply not_ok); array_get_dec)
  | ((with_reducible apply and_t); array_get_dec; array_get_dec)
  | ((with_reducible apply and_f); array_get_dec)
  | ((with_reducible apply or_f); array_get_dec; array_get_dec)
  | ((with_reducible apply or_t); array_get_dec)
  | ((with_reducible apply ixv'); rfl; array_get_dec; rfl; array_mem_dec)
  | with_reducible assumption)
local macro_rules | `(tactic| decreasing_trivial) => `(tactic| first
  | ((with_reducible apply sl_lv); rfl)
  | ((with_reducible apply sl_vl); rfl)
  | ((with_reducible apply sl_no); rfl)
  | ((with_reducible apply sl_ow); rfl)
  | ((with_reducible apply sl_dq); rfl))
local macro_rules | `(tactic| get_elem_tactic_extensible) => `(tactic| first
  | ((with_reducible apply set_ok); array_get_dec; decreasing_trivial)
  | ((with_reducible apply setN_ok); array_get_dec; decreasing_trivial)
  | ((with_reducible apply pars2_ok); array_get_dec; decreasing_trivial; decreasing_trivial)
  | ((with_reducible apply drop_ok); array_get_dec)
  | ((with_reducible apply if_f (t := fun ρ => So.nx ρ)); array_get_dec; rfl)
  | ((with_reducible apply if_f); array_get_dec; rfl))
/-! ### the longest case -/
end Dl
namespace Dl
open PySem PySem.Spec PyProof.Rows L2
variable {p : Nat} {rs : List Rw} {D b : Nat} {K : List Lk} {most : Nat}
local macro_rules | `(tactic| array_mem_dec) => `(tactic| first
  | with_reducible assumption
  | with_reducible exact fAdd_nat _ _
  | with_reducible exact fMul_nat _ _ (by omega)
  | with_reducible exact fSub_nat (by first | assumption | omega)
  | with_reducible exact lt_f (by first | assumption | omega)
  | with_reducible exact lt_t (by first | assumption | omega)
  | with_reducible exact le_f (by first | assumption | omega)
  | with_reducible exact le_t (by first | assumption | omega)
  | with_reducible exact gt_f (by first | assumption | omega)
  | with_reducible exact gt_t (by first | assumption | omega)
  | with_reducible exact ge_f (by first | assumption | omega)
  | with_reducible exact ge_t (by first | assumption | omega)
  | with_reducible exact eq_f (by first | assumption | omega)
  | with_reducible exact eq_t (by first | assumption | omega)
  | with_reducible exact ne_f (by first | assumption | omega)
  | with_reducible exact ne_t (by first | assumption | omega)
  | with_reducible exact feq_nat _ _
  | with_reducible exact fne_nat _ _
  | with_reducible exact fLt_nat _ _
  | with_reducible exact fLe_nat _ _
  | with_reducible exact gt_nat _ _
  | with_reducible exact ge_nat _ _
  | with_reducible exact len_lst _ _
  | with_reducible exact len_tup _ _
  | with_reducible exact fne_self (k := 2) (by first | assumption | exact .int _ | exact .bl _ | exact .non | exact flt_tup_nats _ | exact flt_lst_nats _ | exact flt_side _ | exact flt_str _) (by decide)
  | with_reducible exact feq_self (k := 2) (by first | assumption | exact .int _ | exact .bl _ | exact .non | exact flt_tup_nats _ | exact flt_lst_nats _ | exact flt_side _ | exact flt_str _) (by decide)
  | rfl)
local macro_rules | `(tactic| array_get_dec) => `(tactic| first
  | ((with_reducible apply var_ok); rfl)
  | ((with_reducible apply peek_ok); rfl)
  | ((with_reducible apply peek_ow); rfl)
  | with_reducible exact lit_ok
  | with_reducible exact pure_ok
  | ((with_reducible apply cons_ok); array_get_dec; array_get_dec)
  | ((with_reducible apply callQ'); array_get_dec; rfl; with_reducible assumption)
  | ((with_reducible apply methQ); array_get_dec; array_get_dec; rfl; (with_reducible assumption); exact ⟨_, rfl⟩)
  | ((with_reducible apply callJ); rfl; array_get_dec; rfl; rfl; with_reducible assumption)
  | ((with_reducible apply m2_ok); array_get_dec; array_get_dec; array_mem_dec)
  | ((with_reducible apply m1_ok); array_get_dec; array_mem_dec)
  | ((with_reducible apply m1N_ok); array_get_dec; array_mem_dec)
  | ((with_reducible apply tup_ok); array_get_dec; exact sl_le (by simp))
  | ((with_reducible apply lst_ok); array_get_dec; exact sl_le (by simp))
  | ((with_reducible apply chain_ge_t); array_get_dec; array_get_dec; array_get_dec; omega; omega)
  | ((with_reducible apply chainT); array_get_dec; array_get_dec; array_get_dec; omega; omega)
  | ((with_reducible apply tb_ok); array_get_dec)
  | ((with_reducible apply not_f); array_get_dec)
  | ((with_reducible apply not_t); array_get_dec)
  | ((with_reducible apply not_ok); array_get_dec)
  | ((with_reducible apply and_t); array_get_dec; array_get_dec)
  | ((with_reducible apply and_f); array_get_dec)
  | ((with_reducible apply or_f); array_get_dec; array_get_dec)
  | ((with_reducible apply or_t); array_get_dec)
  | ((with_reducible apply ixv'); rfl; array_get_dec; rfl; array_mem_dec)
  | with_reducible assumption)
local macro_rules | `(tactic| decreasing_trivial) => `(tactic| first
  | ((with_reducible apply sl_lv); rfl)
  | ((with_reducible apply sl_vl); rfl)
  | ((with_reducible apply sl_no); rfl)
  | ((with_reducible apply sl_ow); rfl)
  | ((with_reducible apply sl_dq); rfl))
local macro_rules | `(tactic| get_elem_tactic_extensible) => `(tactic| first
  | ((with_reducible apply set_ok); array_get_dec; decreasing_trivial)
  | ((with_reducible apply setN_ok); array_get_dec; decreasing_trivial)
  | ((with_reducible apply pars2_ok); array_get_dec; decreasing_trivial; decreasing_trivial)
  | ((with_reducible apply drop_ok); array_get_dec)
  | ((with_reducible apply if_f (t := fun ρ => So.nx ρ)); array_get_dec; rfl)
  | ((with_reducible apply if_f); array_get_dec; rfl))
end Dl
namespace Dl
open PySem PySem.Spec PyProof.Rows L2
variable {p : Nat} {rs : List Rw} {D b : Nat} {K : List Lk} {most : Nat}
local macro_rules | `(tactic| array_mem_dec) => `(tactic| first
  | with_reducible assumption
  | with_reducible exact fAdd_nat _ _
  | with_reducible exact fMul_nat _ _ (by omega)
  | with_reducible exact fSub_nat (by first | assumption | omega)
  | with_reducible exact lt_f (by first | assumption | omega)
  | with_reducible exact lt_t (by first | assumption | omega)
  | with_reducible exact le_f (by first | assumption | omega)
  | with_reducible exact le_t (by first | assumption | omega)
  | with_reducible exact gt_f (by first | assumption | omega)
  | with_reducible exact gt_t (by first | assumption | omega)
  | with_reducible exact ge_f (by first | assumption | omega)
  | with_reducible exact ge_t (by first | assumption | omega)
  | with_reducible exact eq_f (by first | assumption | omega)
  | with_reducible exact eq_t (by first | assumption | omega)
  | with_reducible exact ne_f (by first | assumption | omega)
  | with_reducible exact ne_t (by first | assumption | omega)
  | with_reducible exact feq_nat _ _
  | with_reducible exact fne_nat _ _
  | with_reducible exact fLt_nat _ _
  | with_reducible exact fLe_nat _ _
  | with_reducible exact gt_nat _ _
  | with_reducible exact ge_nat _ _
  | with_reducible exact len_lst _ _
  | with_reducible exact len_tup _ _
  | ((with_reducible apply fne_self (k := 2)); (first | with_reducible assumption | exact .int _ | exact .bl _ | exact .non | exact flt_tup_nats _ | exact flt_lst_nats _ | exact flt_side _ | exact flt_str _ | exact no_flt _ | exact .tup (flt_prs _) | exact .lst (flt_prs _)); decide)
  | ((with_reducible apply feq_self (k := 2)); (first | with_reducible assumption | exact .int _ | exact .bl _ | exact .non | exact flt_tup_nats _ | exact flt_lst_nats _ | exact flt_side _ | exact flt_str _ | exact no_flt _ | exact .tup (flt_prs _) | exact .lst (flt_prs _)); decide)
  | rfl)
local macro_rules | `(tactic| array_get_dec) => `(tactic| first
  | ((with_reducible apply var_ok); rfl)
  | ((with_reducible apply peek_ok); rfl)
  | ((with_reducible apply peek_ow); rfl)
  | with_reducible exact lit_ok
  | with_reducible exact pure_ok
  | ((with_reducible apply cons_ok); array_get_dec; array_get_dec)
  | ((with_reducible apply callQ'); array_get_dec; rfl; with_reducible assumption)
  | ((with_reducible apply methQ); array_get_dec; array_get_dec; rfl; (with_reducible assumption); exact ⟨_, rfl⟩)
  | ((with_reducible apply callJ); rfl; array_get_dec; rfl; rfl; with_reducible assumption)
  | ((with_reducible apply m2_ok); array_get_dec; array_get_dec; array_mem_dec)
  | ((with_reducible apply m1_ok); array_get_dec; array_mem_dec)
  | ((with_reducible apply m1N_ok); array_get_dec; array_mem_dec)
  | ((with_reducible apply tup_ok); array_get_dec; exact sl_le (by simp))
  | ((with_reducible apply lst_ok); array_get_dec; exact sl_le (by simp))
  | ((with_reducible apply chain_ge_t); array_get_dec; array_get_dec; array_get_dec; omega; omega)
  | ((with_reducible apply chainT); array_get_dec; array_get_dec; array_get_dec; omega; omega)
  | ((with_reducible apply tb_ok); array_get_dec)
  | ((with_reducible apply not_f); array_get_dec)
  | ((with_reducible apply not_t); array_get_dec)
  | ((with_reducible apply not_ok); array_get_dec)
  | ((with_reducible apply and_t); array_get_dec; array_get_dec)
  | ((with_reducible apply and_f); array_get_dec)
  | ((with_reducible apply or_f); array_get_dec; array_get_dec)
  | ((with_reducible apply or_t); array_get_dec)
  | ((with_reducible apply ixv'); rfl; array_get_dec; rfl; array_mem_dec)
  | with_reducible assumption)
local macro_rules | `(tactic| decreasing_trivial) => `(tactic| first
  | ((with_reducible apply sl_lv); rfl)
  | ((with_reducible apply sl_vl); rfl)
  | ((with_reducible apply sl_no); rfl)
  | ((with_reducible apply sl_ow); rfl)
  | ((with_reducible apply sl_dq); rfl))
local macro_rules | `(tactic| get_elem_tactic_extensible) => `(tactic| first
  | ((with_reducible apply set_ok); array_get_dec; decreasing_trivial)
  | ((with_reducible apply setN_ok); array_get_dec; decreasing_trivial)
  | ((with_reducible apply pars2_ok); array_get_dec; decreasing_trivial; decreasing_trivial)
  | ((with_reducible apply drop_ok); array_get_dec)
  | ((with_reducible apply if_f (t := fun ρ => So.nx ρ)); array_get_dec; rfl)
  | ((with_reducible apply if_f); array_get_dec; rfl))
/-! ### the fewest misses with some missed and some made -/
end Dl
namespace Dl
open PySem PySem.Spec PyProof.Rows L2
variable {p : Nat} {rs : List Rw} {D b : Nat} {K L : List Lk} {most : Nat}
local macro_rules | `(tactic| array_mem_dec) => `(tactic| first
  | with_reducible assumption
  | with_reducible exact fAdd_nat _ _
  | with_reducible exact fMul_nat _ _ (by omega)
  | with_reducible exact fSub_nat (by first | assumption | omega)
  | with_reducible exact lt_f (by first | assumption | omega)
  | with_reducible exact lt_t (by first | assumption | omega)
  | with_reducible exact le_f (by first | assumption | omega)
  | with_reducible exact le_t (by first | assumption | omega)
  | with_reducible exact gt_f (by first | assumption | omega)
  | with_reducible exact gt_t (by first | assumption | omega)
  | with_reducible exact ge_f (by first | assumption | omega)
  | with_reducible exact ge_t (by first | assumption | omega)
  | with_reducible exact eq_f (by first | assumption | omega)
  | with_reducible exact eq_t (by first | assumption | omega)
  | with_reducible exact ne_f (by first | assumption | omega)
  | with_reducible exact ne_t (by first | assumption | omega)
  | with_reducible exact feq_nat _ _
  | with_reducible exact fne_nat _ _
  | with_reducible exact fLt_nat _ _
  | with_reducible exact fLe_nat _ _
  | with_reducible exact gt_nat _ _
  | with_reducible exact ge_nat _ _
  | with_reducible exact len_lst _ _
  | with_reducible exact len_tup _ _
  | ((with_reducible apply fne_self (k := 2)); (first | with_reducible assumption | exact .int _ | exact .bl _ | exact .non | exact flt_tup_nats _ | exact flt_lst_nats _ | exact flt_side _ | exact flt_str _ | exact no_flt _ | exact .tup (flt_prs _) | exact .lst (flt_prs _)); decide)
  | ((with_reducible apply feq_self (k := 2)); (first | with_reducible assumption | exact .int _ | exact .bl _ | exact .non | exact flt_tup_nats _ | exact flt_lst_nats _ | exact flt_side _ | exact flt_str _ | exact no_flt _ | exact .tup (flt_prs _) | exact .lst (flt_prs _)); decide)
  | rfl)
local macro_rules | `(tactic| array_get_dec) => `(tactic| first
  | ((with_reducible apply var_ok); rfl)
  | ((with_reducible apply peek_ok); rfl)
  | ((with_reducible apply peek_ow); rfl)
  | with_reducible exact lit_ok
  | with_reducible exact pure_ok
  | ((with_reducible apply cons_ok); array_get_dec; array_get_dec)
  | ((with_reducible apply callQ'); array_get_dec; rfl; with_reducible assumption)
  | ((with_reducible apply methQ); array_get_dec; array_get_dec; rfl; (with_reducible assumption); exact ⟨_, rfl⟩)
  | ((with_reducible apply callJ); rfl; array_get_dec; rfl; rfl; with_reducible assumption)
  | ((with_reducible apply m2_ok); array_get_dec; array_get_dec; array_mem_dec)
  | ((with_reducible apply m1_ok); array_get_dec; array_mem_dec)
  | ((with_reducible apply m1N_ok); array_get_dec; array_mem_dec)
  | ((with_reducible apply tup_ok); array_get_dec; exact sl_le (by simp))
  | ((with_reducible apply lst_ok); array_get_dec; exact sl_le (by simp))
  | ((with_reducible apply chain_ge_t); array_get_dec; array_get_dec; array_get_dec; omega; omega)
  | ((with_reducible apply chainT); array_get_dec; array_get_dec; array_get_dec; omega; omega)
  | ((with_reducible apply tb_ok); array_get_dec)
  | ((with_reducible apply not_f); array_get_dec)
  | ((with_reducible apply not_t); array_get_dec)
  | ((with_reducible apply not_ok); array_get_dec)
  | ((with_reducible apply and_t); array_get_dec; array_get_dec)
  | ((with_reducible apply and_f); array_get_dec)
  | ((with_reducible apply or_f); array_get_dec; array_get_dec)
  | ((with_reducible apply or_t); array_get_dec)
  | ((with_reducible apply ixv'); rfl; array_get_dec; rfl; array_mem_dec)
  | with_reducible assumption)
local macro_rules | `(tactic| decreasing_trivial) => `(tactic| first
  | ((with_reducible apply sl_lv); rfl)
  | ((with_reducible apply sl_vl); rfl)
  | ((with_reducible apply sl_no); rfl)
  | ((with_reducible apply sl_ow); rfl)
  | ((with_reducible apply sl_dq); rfl))
local macro_rules | `(tactic| get_elem_tactic_extensible) => `(tactic| first
  | ((with_reducible apply set_ok); array_get_dec; decreasing_trivial)
  | ((with_reducible apply setN_ok); array_get_dec; decreasing_trivial)
  | ((with_reducible apply pars2_ok); array_get_dec; decreasing_trivial; decreasing_trivial)
  | ((with_reducible apply drop_ok); array_get_dec)
  | ((with_reducible apply if_f (t := fun ρ => So.nx ρ)); array_get_dec; rfl)
  | ((with_reducible apply if_f); array_get_dec; rfl))
end Dl
namespace Dl
open PySem PySem.Spec PyProof.Rows L2
variable {p : Nat} {rs : List Rw} {D b : Nat} {K L : List Lk} {most : Nat}
/-! ### lots among others -/
/-! ### chains -/
theorem chain_le {ma mb mc : Mi Dt} {ρ : En} {x y z : Nat} (ha : ma ρ = .ok (nD x) ρ) (hb : mb ρ = .ok (nD y) ρ) (hc : mc ρ = .ok (nD z) ρ) (h1 : x ≤ y) (h2 : y ≤ z) : mB (mChain fLe fLe ma mb mc) ρ = .ok true ρ := by
  refine tb_ok ?_
  refine bind_ok ha (bind_ok hb ?_)
  rw [fLe_nat, decide_eq_true h1]
  refine bind_ok (a := .bl true) (ρ1 := ρ) rfl ?_
  refine bind_ok hc ?_
  rw [fLe_nat, decide_eq_true h2]; rfl
/-! ### the greatest one of some numbers, step by step -/
end Dl
namespace Dl
open PySem PySem.Spec PyProof.Rows L2
variable {p : Nat} {rs : List Rw} {D b : Nat} {K L : List Lk} {most : Nat}
local macro_rules | `(tactic| array_mem_dec) => `(tactic| first
  | with_reducible assumption
  | with_reducible exact fAdd_nat _ _
  | with_reducible exact fMul_nat _ _ (by omega)
  | with_reducible exact fSub_nat (by first | assumption | omega)
  | with_reducible exact lt_f (by first | assumption | omega)
  | with_reducible exact lt_t (by first | assumption | omega)
  | with_reducible exact le_f (by first | assumption | omega)
  | with_reducible exact le_t (by first | assumption | omega)
  | with_reducible exact gt_f (by first | assumption | omega)
  | with_reducible exact gt_t (by first | assumption | omega)
  | with_reducible exact ge_f (by first | assumption | omega)
  | with_reducible exact ge_t (by first | assumption | omega)
  | with_reducible exact eq_f (by first | assumption | omega)
  | with_reducible exact eq_t (by first | assumption | omega)
  | with_reducible exact ne_f (by first | assumption | omega)
  | with_reducible exact ne_t (by first | assumption | omega)
  | with_reducible exact feq_nat _ _
  | with_reducible exact fne_nat _ _
  | with_reducible exact fLt_nat _ _
  | with_reducible exact fLe_nat _ _
  | with_reducible exact gt_nat _ _
  | with_reducible exact ge_nat _ _
  | with_reducible exact len_lst _ _
  | with_reducible exact len_tup _ _
  | ((with_reducible apply fne_self (k := 2)); (first | with_reducible assumption | exact .int _ | exact .bl _ | exact .non | exact flt_tup_nats _ | exact flt_lst_nats _ | exact flt_side _ | exact flt_str _ | exact no_flt _ | exact .tup (flt_prs _) | exact .lst (flt_prs _)); decide)
  | ((with_reducible apply feq_self (k := 2)); (first | with_reducible assumption | exact .int _ | exact .bl _ | exact .non | exact flt_tup_nats _ | exact flt_lst_nats _ | exact flt_side _ | exact flt_str _ | exact no_flt _ | exact .tup (flt_prs _) | exact .lst (flt_prs _)); decide)
  | rfl)
local macro_rules | `(tactic| array_get_dec) => `(tactic| first
  | ((with_reducible apply var_ok); rfl)
  | ((with_reducible apply peek_ok); rfl)
  | ((with_reducible apply peek_ow); rfl)
  | with_reducible exact lit_ok
  | with_reducible exact pure_ok
  | ((with_reducible apply cons_ok); array_get_dec; array_get_dec)
  | ((with_reducible apply callQ'); array_get_dec; rfl; with_reducible assumption)
  | ((with_reducible apply methQ); array_get_dec; array_get_dec; rfl; (with_reducible assumption); exact ⟨_, rfl⟩)
  | ((with_reducible apply callJ); rfl; array_get_dec; rfl; rfl; with_reducible assumption)
  | ((with_reducible apply m2_ok); array_get_dec; array_get_dec; array_mem_dec)
  | ((with_reducible apply m1_ok); array_get_dec; array_mem_dec)
  | ((with_reducible apply m1N_ok); array_get_dec; array_mem_dec)
  | ((with_reducible apply tup_ok); array_get_dec; exact sl_le (by simp))
  | ((with_reducible apply lst_ok); array_get_dec; exact sl_le (by simp))
  | ((with_reducible apply chain_ge_t); array_get_dec; array_get_dec; array_get_dec; omega; omega)
  | ((with_reducible apply chain_le); array_get_dec; array_get_dec; array_get_dec; omega; omega)
  | ((with_reducible apply chainT); array_get_dec; array_get_dec; array_get_dec; omega; omega)
  | ((with_reducible apply tb_ok); array_get_dec)
  | ((with_reducible apply not_f); array_get_dec)
  | ((with_reducible apply not_t); array_get_dec)
  | ((with_reducible apply not_ok); array_get_dec)
  | ((with_reducible apply and_t); array_get_dec; array_get_dec)
  | ((with_reducible apply and_f); array_get_dec)
  | ((with_reducible apply or_f); array_get_dec; array_get_dec)
  | ((with_reducible apply or_t); array_get_dec)
  | ((with_reducible apply ixv'); rfl; array_get_dec; rfl; array_mem_dec)
  | with_reducible assumption)
local macro_rules | `(tactic| decreasing_trivial) => `(tactic| first
  | ((with_reducible apply sl_lv); rfl)
  | ((with_reducible apply sl_vl); rfl)
  | ((with_reducible apply sl_no); rfl)
  | ((with_reducible apply sl_ow); rfl)
  | ((with_reducible apply sl_dq); rfl))
local macro_rules | `(tactic| get_elem_tactic_extensible) => `(tactic| first
  | ((with_reducible apply set_ok); array_get_dec; decreasing_trivial)
  | ((with_reducible apply setN_ok); array_get_dec; decreasing_trivial)
  | ((with_reducible apply pars2_ok); array_get_dec; decreasing_trivial; decreasing_trivial)
  | ((with_reducible apply drop_ok); array_get_dec)
  | ((with_reducible apply if_f (t := fun ρ => So.nx ρ)); array_get_dec; rfl)
  | ((with_reducible apply if_f); array_get_dec; rfl))
/-! ### lots by their numbers -/
/-! ### the walk -/
end Dl
namespace Dl
open PySem PySem.Spec PyProof.Rows L2
variable {p : Nat} {rs : List Rw} {D b : Nat} {K L : List Lk} {most : Nat}
local macro_rules | `(tactic| array_mem_dec) => `(tactic| first
  | with_reducible assumption
  | with_reducible exact fAdd_nat _ _
  | with_reducible exact fMul_nat _ _ (by omega)
  | with_reducible exact fSub_nat (by first | assumption | omega)
  | with_reducible exact lt_f (by first | assumption | omega)
  | with_reducible exact lt_t (by first | assumption | omega)
  | with_reducible exact le_f (by first | assumption | omega)
  | with_reducible exact le_t (by first | assumption | omega)
  | with_reducible exact gt_f (by first | assumption | omega)
  | with_reducible exact gt_t (by first | assumption | omega)
  | with_reducible exact ge_f (by first | assumption | omega)
  | with_reducible exact ge_t (by first | assumption | omega)
  | with_reducible exact eq_f (by first | assumption | omega)
  | with_reducible exact eq_t (by first | assumption | omega)
  | with_reducible exact ne_f (by first | assumption | omega)
  | with_reducible exact ne_t (by first | assumption | omega)
  | with_reducible exact feq_nat _ _
  | with_reducible exact fne_nat _ _
  | with_reducible exact fLt_nat _ _
  | with_reducible exact fLe_nat _ _
  | with_reducible exact gt_nat _ _
  | with_reducible exact ge_nat _ _
  | with_reducible exact len_lst _ _
  | with_reducible exact len_tup _ _
  | ((with_reducible apply fne_self (k := 2)); (first | with_reducible assumption | exact .int _ | exact .bl _ | exact .non | exact flt_tup_nats _ | exact flt_lst_nats _ | exact flt_side _ | exact flt_str _ | exact no_flt _ | exact .tup (flt_prs _) | exact .lst (flt_prs _)); decide)
  | ((with_reducible apply feq_self (k := 2)); (first | with_reducible assumption | exact .int _ | exact .bl _ | exact .non | exact flt_tup_nats _ | exact flt_lst_nats _ | exact flt_side _ | exact flt_str _ | exact no_flt _ | exact .tup (flt_prs _) | exact .lst (flt_prs _)); decide)
  | rfl)
local macro_rules | `(tactic| array_get_dec) => `(tactic| first
  | ((with_reducible apply var_ok); rfl)
  | ((with_reducible apply peek_ok); rfl)
  | ((with_reducible apply peek_ow); rfl)
  | with_reducible exact lit_ok
  | with_reducible exact pure_ok
  | ((with_reducible apply cons_ok); array_get_dec; array_get_dec)
  | ((with_reducible apply callQ'); array_get_dec; rfl; with_reducible assumption)
  | ((with_reducible apply methQ); array_get_dec; array_get_dec; rfl; (with_reducible assumption); exact ⟨_, rfl⟩)
  | ((with_reducible apply callJ); rfl; array_get_dec; rfl; rfl; with_reducible assumption)
  | ((with_reducible apply m2_ok); array_get_dec; array_get_dec; array_mem_dec)
  | ((with_reducible apply m1_ok); array_get_dec; array_mem_dec)
  | ((with_reducible apply m1N_ok); array_get_dec; array_mem_dec)
  | ((with_reducible apply tup_ok); array_get_dec; exact sl_le (by simp))
  | ((with_reducible apply lst_ok); array_get_dec; exact sl_le (by simp))
  | ((with_reducible apply chain_ge_t); array_get_dec; array_get_dec; array_get_dec; omega; omega)
  | ((with_reducible apply chain_le); array_get_dec; array_get_dec; array_get_dec; omega; omega)
  | ((with_reducible apply chainT); array_get_dec; array_get_dec; array_get_dec; omega; omega)
  | ((with_reducible apply tb_ok); array_get_dec)
  | ((with_reducible apply not_f); array_get_dec)
  | ((with_reducible apply not_t); array_get_dec)
  | ((with_reducible apply not_ok); array_get_dec)
  | ((with_reducible apply and_t); array_get_dec; array_get_dec)
  | ((with_reducible apply and_f); array_get_dec)
  | ((with_reducible apply or_f); array_get_dec; array_get_dec)
  | ((with_reducible apply or_t); array_get_dec)
  | ((with_reducible apply ixv'); rfl; array_get_dec; rfl; array_mem_dec)
  | with_reducible assumption)
local macro_rules | `(tactic| decreasing_trivial) => `(tactic| first
  | ((with_reducible apply sl_lv); rfl)
  | ((with_reducible apply sl_vl); rfl)
  | ((with_reducible apply sl_no); rfl)
  | ((with_reducible apply sl_ow); rfl)
  | ((with_reducible apply sl_dq); rfl))
local macro_rules | `(tactic| get_elem_tactic_extensible) => `(tactic| first
  | ((with_reducible apply set_ok); array_get_dec; decreasing_trivial)
  | ((with_reducible apply setN_ok); array_get_dec; decreasing_trivial)
  | ((with_reducible apply pars2_ok); array_get_dec; decreasing_trivial; decreasing_trivial)
  | ((with_reducible apply drop_ok); array_get_dec)
  | ((with_reducible apply if_f (t := fun ρ => So.nx ρ)); array_get_dec; rfl)
  | ((with_reducible apply if_f); array_get_dec; rfl))
end Dl
namespace Dl
open PySem PySem.Spec PyProof.Rows L2
variable {p : Nat} {rs : List Rw} {D b : Nat} {K L : List Lk} {most : Nat}
local macro_rules | `(tactic| array_mem_dec) => `(tactic| first
  | with_reducible assumption
  | with_reducible exact fAdd_nat _ _
  | with_reducible exact fMul_nat _ _ (by omega)
  | with_reducible exact fSub_nat (by first | assumption | omega)
  | with_reducible exact lt_f (by first | assumption | omega)
  | with_reducible exact lt_t (by first | assumption | omega)
  | with_reducible exact le_f (by first | assumption | omega)
  | with_reducible exact le_t (by first | assumption | omega)
  | with_reducible exact gt_f (by first | assumption | omega)
  | with_reducible exact gt_t (by first | assumption | omega)
  | with_reducible exact ge_f (by first | assumption | omega)
  | with_reducible exact ge_t (by first | assumption | omega)
  | with_reducible exact eq_f (by first | assumption | omega)
  | with_reducible exact eq_t (by first | assumption | omega)
  | with_reducible exact ne_f (by first | assumption | omega)
  | with_reducible exact ne_t (by first | assumption | omega)
  | with_reducible exact feq_nat _ _
  | with_reducible exact fne_nat _ _
  | with_reducible exact fLt_nat _ _
  | with_reducible exact fLe_nat _ _
  | with_reducible exact gt_nat _ _
  | with_reducible exact ge_nat _ _
  | with_reducible exact len_lst _ _
  | with_reducible exact len_tup _ _
  | ((with_reducible apply fne_self (k := 2)); (first | with_reducible assumption | exact .int _ | exact .bl _ | exact .non | exact flt_tup_nats _ | exact flt_lst_nats _ | exact flt_side _ | exact flt_str _ | exact no_flt _ | exact .tup (flt_prs _) | exact .lst (flt_prs _)); decide)
  | ((with_reducible apply feq_self (k := 2)); (first | with_reducible assumption | exact .int _ | exact .bl _ | exact .non | exact flt_tup_nats _ | exact flt_lst_nats _ | exact flt_side _ | exact flt_str _ | exact no_flt _ | exact .tup (flt_prs _) | exact .lst (flt_prs _)); decide)
  | rfl)
local macro_rules | `(tactic| array_get_dec) => `(tactic| first
  | ((with_reducible apply var_ok); rfl)
  | ((with_reducible apply peek_ok); rfl)
  | ((with_reducible apply peek_ow); rfl)
  | with_reducible exact lit_ok
  | with_reducible exact pure_ok
  | ((with_reducible apply cons_ok); array_get_dec; array_get_dec)
  | ((with_reducible apply callQ'); array_get_dec; rfl; with_reducible assumption)
  | ((with_reducible apply methQ); array_get_dec; array_get_dec; rfl; (with_reducible assumption); exact ⟨_, rfl⟩)
  | ((with_reducible apply callJ); rfl; array_get_dec; rfl; rfl; with_reducible assumption)
  | ((with_reducible apply m2_ok); array_get_dec; array_get_dec; array_mem_dec)
  | ((with_reducible apply m1_ok); array_get_dec; array_mem_dec)
  | ((with_reducible apply m1N_ok); array_get_dec; array_mem_dec)
  | ((with_reducible apply tup_ok); array_get_dec; exact sl_le (by simp))
  | ((with_reducible apply lst_ok); array_get_dec; exact sl_le (by simp))
  | ((with_reducible apply chain_ge_t); array_get_dec; array_get_dec; array_get_dec; omega; omega)
  | ((with_reducible apply chain_le); array_get_dec; array_get_dec; array_get_dec; omega; omega)
  | ((with_reducible apply chainT); array_get_dec; array_get_dec; array_get_dec; omega; omega)
  | ((with_reducible apply tb_ok); array_get_dec)
  | ((with_reducible apply not_f); array_get_dec)
  | ((with_reducible apply not_t); array_get_dec)
  | ((with_reducible apply not_ok); array_get_dec)
  | ((with_reducible apply and_t); array_get_dec; array_get_dec)
  | ((with_reducible apply and_f); array_get_dec)
  | ((with_reducible apply or_f); array_get_dec; array_get_dec)
  | ((with_reducible apply or_t); array_get_dec)
  | ((with_reducible apply ixv'); rfl; array_get_dec; rfl; array_mem_dec)
  | with_reducible assumption)
local macro_rules | `(tactic| decreasing_trivial) => `(tactic| first
  | ((with_reducible apply sl_lv); rfl)
  | ((with_reducible apply sl_vl); rfl)
  | ((with_reducible apply sl_no); rfl)
  | ((with_reducible apply sl_ow); rfl)
  | ((with_reducible apply sl_dq); rfl))
local macro_rules | `(tactic| get_elem_tactic_extensible) => `(tactic| first
  | ((with_reducible apply set_ok); array_get_dec; decreasing_trivial)
  | ((with_reducible apply setN_ok); array_get_dec; decreasing_trivial)
  | ((with_reducible apply pars2_ok); array_get_dec; decreasing_trivial; decreasing_trivial)
  | ((with_reducible apply drop_ok); array_get_dec)
  | ((with_reducible apply if_f (t := fun ρ => So.nx ρ)); array_get_dec; rfl)
  | ((with_reducible apply if_f); array_get_dec; rfl))
/-! ### small drawn seasons -/
end Dl
namespace Dl
open PySem PySem.Spec PyProof.Rows L2
variable {p : Nat} {rs : List Rw} {D b : Nat} {K L : List Lk} {most : Nat}
/-! ### stretches, one behind the other -/
/-! ### odd stretches -/
def isT (o : Option Bool) : Bool := decide (o = some true)
/-! ### lots and stretches -/
end Dl
namespace Dl
open PySem PySem.Spec PyProof.Rows L2
variable {p : Nat} {rs : List Rw} {D b : Nat} {K L : List Lk} {most : Nat}
/-! ### sorted numbers and pairs; more misses lie no shorter -/
theorem Sn.bare (h : Sn p rs D b K) : Sn p rs D b [] := ⟨h.good, h.rl, h.hp, h.D0, h.hD, h.hb, (fun _ z => by cases z), by simp⟩
end Dl
namespace Dl
open PySem PySem.Spec PyProof.Rows L2
/-! ### what is shown by repr() -/
inductive Shw : Nat → Nat → Dt → Prop
  | non {k n : Nat} (h : 4 ≤ n) : Shw k n .non
  | bl {k n : Nat} (b : Bool) (h : 5 ≤ n) : Shw k n (.bl b)
  | nat {k n : Nat} {m : Nat} (hm : m < 10 ^ 10) (h : 10 ≤ n) : Shw k n (nD m)
  | tup {k n c l : Nat} {xs : List Dt} (h : ∀ x ∈ xs, Shw k n x) (hl : xs.length ≤ l) (hc : (n + 2) * l + 3 ≤ c) : Shw (k + 1) c (.tup xs)
structure ShP (k n : Nat) (d : Dt) (p : PyData) : Prop where
  e : toPy d = some p
  sh : p.showable = true
  nd : p.hasDict = false
  dep : p.depth ≤ k
  len : p.shown.length ≤ n
  ok : PyData.strOk p.shown = true
theorem ok_of (s : String) : PyData.strOk (Str.ofString s) = true := by simpa [PyData.canLay0] using strOk_of s
theorem ok_app {a b : Str} (ha : PyData.strOk a = true) (hb : PyData.strOk b = true) : PyData.strOk (a ++ b) = true := by
  show (a.cps ++ b.cps).all _ = true
  rw [Array.all_append, Bool.and_eq_true]
  exact ⟨ha, hb⟩
theorem ok_join {s : Str} (hs : PyData.strOk s = true) : ∀ ts : List Str, (∀ t ∈ ts, PyData.strOk t = true) → PyData.strOk (Str.join s ts) = true
  | [], _ => ok_of ""
  | [t], h => h t (by simp)
  | t :: u :: ts, h => by
    show PyData.strOk (t ++ s ++ Str.join s (u :: ts)) = true
    exact ok_app (ok_app (h t (by simp)) hs) (ok_join hs (u :: ts) fun y hy => h y (by simp [hy]))
theorem shp_all {k n : Nat} : ∀ {xs : List Dt}, (∀ x ∈ xs, ∃ p, ShP k n x p) → ∃ ps, toPys xs = some ps ∧ PyData.showableAll ps = true ∧ PyData.hasDictAll ps = false ∧ PyData.depthAll ps ≤ k ∧ (PyData.shownAll ps).length = xs.length ∧ ∀ t ∈ PyData.shownAll ps, t.length ≤ n ∧ PyData.strOk t = true
  | [], _ => ⟨[], rfl, by simp [PyData.showableAll], by simp [PyData.hasDictAll], by simp [PyData.depthAll], by simp [PyData.shownAll], by simp [PyData.shownAll]⟩
  | x :: xs, h => by
    obtain ⟨p, h1⟩ := h x (by simp)
    obtain ⟨ps, h2, h3, h4, h5, h6, h7⟩ := shp_all (xs := xs) fun y hy => h y (by simp [hy])
    refine ⟨p :: ps, ?_, ?_, ?_, ?_, ?_, ?_⟩
    · unfold toPys; rw [h1.e, h2]
    · simp [PyData.showableAll, h1.sh, h3]
    · simp [PyData.hasDictAll, h1.nd, h4]
    · simp only [PyData.depthAll]; have := h1.dep; omega
    · simp [PyData.shownAll, h6]
    · intro t ht
      simp only [PyData.shownAll, List.mem_cons] at ht
      rcases ht with rfl | ht
      · exact ⟨h1.len, h1.ok⟩
      · exact h7 t ht
theorem piled_le {n : Nat} : ∀ (ts : List Str), (∀ t ∈ ts, t.length ≤ n) → piled ts ≤ (n + 2) * ts.length
  | [], _ => by simp [piled]
  | t :: ts, h => by
    have := piled_le ts fun y hy => h y (by simp [hy])
    have h1 := h t (by simp)
    unfold piled at this ⊢
    rw [List.map_cons, List.sum_cons, List.length_cons, Nat.mul_succ]
    omega
theorem tupText_le {n : Nat} {ts : List Str} (h : ∀ t ∈ ts, t.length ≤ n) : (tupleText ts).length ≤ (n + 2) * ts.length + 3 := by
  have hj : (Str.join ", " ts).length ≤ (n + 2) * ts.length := by
    cases ts with
    | nil => exact Nat.le_of_eq rfl
    | cons t r =>
      have := join_length_add (t :: r) (by simp)
      have := piled_le _ h
      omega
  unfold tupleText
  rw [strLen_append, strLen_append]
  have e1 : (("(" : String) : Str).length = 1 := rfl
  have e2 : ((if ts.length == 1 then ",)" else ")" : String) : Str).length ≤ 2 := by split <;> decide
  omega
theorem Shw.py {k n : Nat} {d : Dt} (h : Shw k n d) : ∃ p, ShP k n d p := by
  induction h with
  | non h => exact ⟨.none, rfl, by simp [PyData.showable], by simp [PyData.hasDict], by simp [PyData.depth], by simp only [PyData.shown]; exact h, by simp only [PyData.shown]; exact ok_of _⟩
  | bl b h => exact ⟨.bool b, rfl, by simp [PyData.showable], by simp [PyData.hasDict], by simp [PyData.depth], by simp only [PyData.shown]; cases b <;> exact Nat.le_trans (by decide) h, by simp only [PyData.shown]; cases b <;> exact ok_of _⟩
  | @nat k n m hm h =>
    refine ⟨.int (m : Int), rfl, ?_, by simp [PyData.hasDict], by simp [PyData.depth], ?_, by simp only [PyData.shown]; exact ok_of _⟩
    · simp only [PyData.showable, decide_eq_true_eq]
      have : (m : Int).natAbs.log2 ≤ 34 := by
        rw [Int.natAbs_natCast]
        by_cases z : m = 0
        · subst z; decide
        · exact Nat.le_of_lt_succ ((Nat.log2_lt z).mpr (Nat.lt_trans hm (by decide)))
      omega
    · simp only [PyData.shown]
      exact Nat.le_trans (toString_length_le (by omega) (k := 10) (by decide) (by exact_mod_cast hm)) h
  | @tup k n c l xs h hl hc ih =>
    obtain ⟨ps, h1, h2, h3, h4, h5, h6⟩ := shp_all ih
    refine ⟨.tuple ps, by unfold toPy; rw [h1]; rfl, by simpa [PyData.showable] using h2, by simpa [PyData.hasDict] using h3, by simp only [PyData.depth]; omega, ?_, ?_⟩
    rotate_left
    · simp only [PyData.shown]
      unfold tupleText
      exact ok_app (ok_app (ok_of _) (ok_join (ok_of _) _ fun t ht => (h6 t ht).2)) (ok_of _)
    simp only [PyData.shown]
    have := tupText_le fun t ht => (h6 t ht).1
    rw [h5] at this
    have := Nat.mul_le_mul_left (n + 2) hl
    omega
end Dl
namespace Dl
open PySem PySem.Spec PyProof.Rows L2
variable {p : Nat} {rs : List Rw} {D b : Nat} {K L : List Lk} {most : Nat}
/-! ### wheels by themselves -/
/-! ### one turning missed, or made -/
theorem cost_at {α : Type} {g g0 : α → Nat × Nat × Option Bool} : ∀ {A B : List α} {P : α} {k : Nat}, costL ((A ++ P :: B).map g0) = some k → (∀ y ∈ A, g y = g0 y) → (∀ y ∈ B, g y = g0 y) → ∃ k0, leadP (g0 P).1 (g0 P).2.1 (g0 P).2.2 = some k0 ∧ k0 ≤ k ∧ costL ((A ++ P :: B).map g) = (leadP (g P).1 (g P).2.1 (g P).2.2).map fun y => k - k0 + y
  | [], B, P, k, hc, _, hB => by
    rw [List.nil_append, List.map_cons] at hc ⊢
    rw [show B.map g = B.map g0 from List.map_congr_left hB]
    unfold costL at hc ⊢
    cases h0 : leadP (g0 P).1 (g0 P).2.1 (g0 P).2.2 with
    | none => rw [h0] at hc; cases hc
    | some k0 =>
      rw [h0] at hc
      cases hr : costL (B.map g0) with
      | none => rw [hr] at hc; cases hc
      | some kb =>
        rw [hr] at hc
        have hk : k0 + kb = k := Option.some.inj hc
        refine ⟨k0, rfl, by omega, ?_⟩
        cases leadP (g P).1 (g P).2.1 (g P).2.2 with
        | none => rfl
        | some y => show some (y + kb) = some (k - k0 + y); congr 1; omega
  | a :: A, B, P, k, hc, hA, hB => by
    rw [List.cons_append, List.map_cons] at hc ⊢
    unfold costL at hc ⊢
    rw [hA a (by simp)]
    cases h0 : leadP (g0 a).1 (g0 a).2.1 (g0 a).2.2 with
    | none => rw [h0] at hc; cases hc
    | some ka =>
      rw [h0] at hc
      cases hr : costL ((A ++ P :: B).map g0) with
      | none => rw [hr] at hc; cases hc
      | some kr =>
        rw [hr] at hc
        have hk : ka + kr = k := Option.some.inj hc
        obtain ⟨k0, i1, i2, i3⟩ := cost_at hr (fun y hy => hA y (by simp [hy])) hB
        refine ⟨k0, i1, by omega, ?_⟩
        dsimp only
        rw [i3]
        cases leadP (g P).1 (g P).2.1 (g P).2.2 with
        | none => rfl
        | some y => show some (ka + (kr - k0 + y)) = some (k - k0 + y); congr 1; omega
theorem an_m (h : Sn p rs D b K) {x : Pr} (hx : x ∈ dueP p rs D) : anM (fitL p rs D b K) x = canB (costL (numsOf (dueP p rs D) p D (lksOf p D K) [x] [])) b := by
  rw [can_w h (M := [x]) (N := []) (fun _ _ z => by cases z)]
  unfold wMN anM
  rw [pos_any, show okMN [x] [] (dueP p rs D) = fun M => decide (x ∈ M) from funext fun M => ok_m hx M]
theorem an_n (h : Sn p rs D b K) {x : Pr} (hx : x ∈ dueP p rs D) : anN (fitL p rs D b K) x = canB (costL (numsOf (dueP p rs D) p D (lksOf p D K) [] [x])) b := by
  rw [can_w h (M := []) (N := [x]) (fun _ z => by cases z)]
  unfold wMN anN
  rw [pos_any, show okMN [] [x] (dueP p rs D) = fun M => !decide (x ∈ M) from funext fun M => ok_n hx M]
/-- the numbers of parts, with one turning missed or made -/
theorem gone_one {l : List Pr} {x : Pr} (nd : l.Nodup) (hx : x ∈ l) : goneN [x] l = 1 := by
  unfold goneN
  rw [List.countP_eq_length_filter]
  have := filter_eq_one nd hx
  rw [← this]
  exact congrArg List.length (List.filter_congr fun y _ => Bool.eq_iff_iff.mpr (by simp))
theorem gone_none {l : List Pr} {x : Pr} (hx : x ∉ l) : goneN [x] l = 0 := by
  unfold goneN
  rw [List.countP_eq_zero]
  intro y hy z
  simp at z
  exact hx (z ▸ hy)
theorem gone_nil (l : List Pr) : goneN [] l = 0 := by unfold goneN; simp
theorem free_nil (l : List Pr) : freeN [] [] l = l.length := by unfold freeN; simp [List.countP_eq_length_filter]
theorem free_m (l : List Pr) (x : Pr) : freeN [x] [] l + goneN [x] l = l.length := by
  unfold freeN goneN
  induction l with
  | nil => rfl
  | cons a l ih =>
    rw [List.countP_cons, List.countP_cons, List.length_cons]
    by_cases h : a = x
    · simp [h] at ih ⊢; omega
    · simp [h] at ih ⊢; omega
theorem free_n (l : List Pr) (x : Pr) : freeN [] [x] l + goneN [x] l = l.length := by
  unfold freeN goneN
  induction l with
  | nil => rfl
  | cons a l ih =>
    rw [List.countP_cons, List.countP_cons, List.length_cons]
    by_cases h : a = x
    · simp [h] at ih ⊢; omega
    · simp [h] at ih ⊢; omega
theorem split_part {x : Pr} {P : Nat × Str3} {K : List Lk3} (hK : LooksOk p D K) {U : List Pr} (hP : P ∈ prts U p D K) (hq : qOf P x = true) : ∃ A B, prts U p D K = A ++ P :: B ∧ (∀ y ∈ A, x ∉ U.filter (qOf y)) ∧ (∀ y ∈ B, x ∉ U.filter (qOf y)) := by
  obtain ⟨A, B, e⟩ := List.append_of_mem hP
  have hp := prts_apart (U := U) hK
  rw [e, List.pairwise_append] at hp
  refine ⟨A, B, e, fun y hy hz => ?_, fun y hy hz => ?_⟩
  · exact hp.2.2 y hy P (by simp) x ⟨(List.mem_filter.mp hz).2, hq⟩
  · exact (List.pairwise_cons.mp hp.2.1).1 y hy x ⟨hq, (List.mem_filter.mp hz).2⟩
/-- with no budget to spare a turning is told by its stretch -/
theorem tight {k : Nat} (h : Sn p rs D k K) (hk : cstO p rs D K = some k) {x : Pr} {P : Nat × Str3} (hP : P ∈ prts (dueP p rs D) p D (lksOf p D K)) (hx : x ∈ (dueP p rs D).filter (qOf P)) : anM (fitL p rs D k K) x = isT P.2.2.2 ∧ (isT P.2.2.2 = true → anN (fitL p rs D k K) x = decide (1 < ((dueP p rs D).filter (qOf P)).length)) := by
  obtain ⟨hxU, hxq⟩ := List.mem_filter.mp hx
  obtain ⟨A, B, e, hA, hB⟩ := split_part (lks_ok (p := p) (D := D) K) hP hxq
  let U := dueP p rs D
  let g0 : Nat × Str3 → Nat × Nat × Option Bool := fun y => (goneN [] (U.filter (qOf y)), freeN [] [] (U.filter (qOf y)), y.2.2.2)
  let g1 : Nat × Str3 → Nat × Nat × Option Bool := fun y => (goneN [x] (U.filter (qOf y)), freeN [x] [] (U.filter (qOf y)), y.2.2.2)
  let g2 : Nat × Str3 → Nat × Nat × Option Bool := fun y => (goneN [] (U.filter (qOf y)), freeN [] [x] (U.filter (qOf y)), y.2.2.2)
  have s1 : ∀ y, x ∉ U.filter (qOf y) → g1 y = g0 y := fun y hy => by
    have a := gone_none hy
    have c := free_m (U.filter (qOf y)) x
    show (_, _, _) = (_, _, _)
    rw [a, gone_nil, free_nil, show freeN [x] [] (U.filter (qOf y)) = (U.filter (qOf y)).length by omega]
  have s2 : ∀ y, x ∉ U.filter (qOf y) → g2 y = g0 y := fun y hy => by
    have a := gone_none hy
    have c := free_n (U.filter (qOf y)) x
    show (_, _, _) = (_, _, _)
    rw [gone_nil, free_nil, show freeN [] [x] (U.filter (qOf y)) = (U.filter (qOf y)).length by omega]
  have hc : costL ((A ++ P :: B).map g0) = some k := by rw [← e]; exact hk
  obtain ⟨k0, i1, i2, i3⟩ := cost_at (g := g1) hc (fun y hy => s1 y (hA y hy)) (fun y hy => s1 y (hB y hy))
  obtain ⟨k0', j1, j2, j3⟩ := cost_at (g := g2) hc (fun y hy => s2 y (hA y hy)) (fun y hy => s2 y (hB y hy))
  have hg := gone_one ((dueP_nodup (p := p) (rs := rs) D).filter (qOf P)) hx
  have hfm := free_m ((dueP p rs D).filter (qOf P)) x
  have hfn := free_n ((dueP p rs D).filter (qOf P)) x
  have l0 : leadP (g0 P).1 (g0 P).2.1 (g0 P).2.2 = leadP 0 (U.filter (qOf P)).length P.2.2.2 := by show leadP (goneN [] _) (freeN [] [] _) _ = _; rw [gone_nil, free_nil]
  have l1 : leadP (g1 P).1 (g1 P).2.1 (g1 P).2.2 = leadP 1 ((U.filter (qOf P)).length - 1) P.2.2.2 := by
    show leadP (goneN [x] (U.filter (qOf P))) (freeN [x] [] (U.filter (qOf P))) _ = _
    rw [show goneN [x] (U.filter (qOf P)) = 1 from hg, show freeN [x] [] (U.filter (qOf P)) = (U.filter (qOf P)).length - 1 by show freeN [x] [] ((dueP p rs D).filter (qOf P)) = ((dueP p rs D).filter (qOf P)).length - 1; omega]
  have l2 : leadP (g2 P).1 (g2 P).2.1 (g2 P).2.2 = leadP 0 ((U.filter (qOf P)).length - 1) P.2.2.2 := by
    show leadP (goneN [] (U.filter (qOf P))) (freeN [] [x] (U.filter (qOf P))) _ = _
    rw [gone_nil, show freeN [] [x] (U.filter (qOf P)) = (U.filter (qOf P)).length - 1 by show freeN [] [x] ((dueP p rs D).filter (qOf P)) = ((dueP p rs D).filter (qOf P)).length - 1; omega]
  rw [l0] at i1 j1
  rw [l1] at i3
  rw [l2] at j3
  rw [an_m h hxU, an_n h hxU]
  have n1 : numsOf (dueP p rs D) p D (lksOf p D K) [x] [] = (A ++ P :: B).map g1 := by rw [← e]; rfl
  have n2 : numsOf (dueP p rs D) p D (lksOf p D K) [] [x] = (A ++ P :: B).map g2 := by rw [← e]; rfl
  rw [n1, n2, i3, j3]
  have hlp : 0 < (U.filter (qOf P)).length := List.length_pos_of_mem hx
  show canB _ k = _ ∧ (_ → canB _ k = decide (1 < (U.filter (qOf P)).length))
  generalize (U.filter (qOf P)).length = n at i1 j1 hlp ⊢
  generalize P.2.2.2 = o at i1 j1 ⊢
  rw [leadP_isE] at i1 j1 ⊢
  rw [leadP_isE]
  cases o with
  | none =>
    simp [isE] at i1 j1
    subst i1
    refine ⟨?_, fun z => by cases z⟩
    show decide (k - 0 + 1 ≤ k) = false
    exact decide_eq_false (by omega)
  | some c =>
    cases c with
    | false =>
      simp [isE] at i1 j1
      subst i1
      refine ⟨?_, fun z => by cases z⟩
      simp only [isE]
      by_cases hn : n - 1 = 0
      · simp [hn, canB, isT]
      · simp [hn, canB, isT] <;> omega
    | true =>
      simp [isE, Nat.pos_iff_ne_zero.mp hlp] at i1 j1
      subst i1
      refine ⟨?_, fun _ => ?_⟩
      · simp [isE, canB, isT] <;> omega
      · simp only [isE]
        by_cases hn : n - 1 = 0
        · have : ¬ 1 < n := by omega
          simp [hn, canB, this]
        · have : 1 < n := by omega
          subst j1
          simp [hn, canB, this] <;> omega
end Dl
namespace Dl
open PySem PySem.Spec PyProof.Rows L2
/-! ### even days on a ring, as mathematics -/
/-- the least whole number that is at least a fraction -/
def cd (a n : Nat) : Nat := (a + n - 1) / n
theorem cd_le {a n k : Nat} (hn : 0 < n) : cd a n ≤ k ↔ a ≤ k * n := by
  unfold cd
  rw [← Nat.lt_succ_iff, Nat.div_lt_iff_lt_mul hn, Nat.succ_mul]
  omega
theorem cd_self {a n : Nat} (hn : 0 < n) : a ≤ cd a n * n := (cd_le hn).mp (Nat.le_refl _)
theorem cd_int {a n : Nat} (hn : 0 < n) : -(-(a : Int) / (n : Int)) = ((cd a n : Nat) : Int) := by
  have h1 := cd_self (a := a) hn
  have h2 : ¬ cd a n ≤ cd a n - 1 ∨ cd a n = 0 := by omega
  have key : -(a : Int) / (n : Int) = -((cd a n : Nat) : Int) := by
    have hn' : (0 : Int) < (n : Int) := by omega
    apply Int.le_antisymm
    · rw [← Int.lt_add_one_iff, Int.ediv_lt_iff_lt_mul hn']
      rcases h2 with h2 | h2
      · rw [cd_le hn] at h2
        have h3 : ((cd a n - 1) * n : Nat) < a := by omega
        have h4 : (((cd a n - 1) * n : Nat) : Int) < (a : Int) := by omega
        by_cases z : cd a n = 0
        · rw [z] at h1; omega
        · have h5 : (((cd a n - 1) * n : Nat) : Int) = ((cd a n : Int) - 1) * (n : Int) := by
            rw [Int.natCast_mul]; congr 1; omega
          rw [h5] at h4
          have h6 : (-((cd a n : Nat) : Int) + 1) * (n : Int) = -(((cd a n : Int) - 1) * (n : Int)) := by
            rw [← Int.neg_mul]; congr 1; omega
          rw [h6]; omega
      · rw [h2] at h1 ⊢
        have : a = 0 := by omega
        subst this
        simp; omega
    · rw [Int.le_ediv_iff_mul_le hn']
      have h3 : ((cd a n * n : Nat) : Int) = (cd a n : Int) * (n : Int) := Int.natCast_mul _ _
      rw [Int.neg_mul, ← h3]; omega
  rw [key]; omega
variable {D : List Nat} {P : Nat}
/-! ### the walk's mirrors -/
theorem neg_mul_ok {ρ : En} {ma mb mn : Mi Dt} {a b n : Nat} (h1 : ma ρ = .ok (nD a) ρ) (h2 : mb ρ = .ok (nD b) ρ) (h3 : mn ρ = .ok (nD n) ρ) (hb : b < 1000000000000000000) (hn : 0 < n) (hn2 : n < 1000000000000000000) : m1 fNeg (m2 fDiv (m2 fMulI (m1 fNeg ma) mb) mn) ρ = .ok (nD (cd (a * b) n)) ρ := by
  refine m1_ok (x := .int (-((a * b : Nat) : Int) / (n : Int))) (m2_ok (x := .int (-((a * b : Nat) : Int))) (y := nD n) (m2_ok (x := .int (-(a : Int))) (y := nD b) (m1_ok (x := nD a) h1 rfl) h2 (fMul_of (.inr ⟨ge64 b, lt64 hb⟩) (by rw [Int.natCast_mul, Int.neg_mul]))) h3 ?_) ?_
  · show (if CDivX _ (n : Int) then some (Dt.int (-((a * b : Nat) : Int) / (n : Int))) else none) = _
    rw [if_pos ⟨by omega, by omega⟩]
  · show some (Dt.int (-(-((a * b : Nat) : Int) / (n : Int)))) = _
    rw [cd_int hn]
theorem least_gap_ok {P n : Nat} (m : Nat) (hP : P < 1000000000000000000) (hn : 0 < n) (hn2 : n < 1000000000000000000) : m_least_gap [nD P, nD n, nD m] = .ret (nD (cd ((m + 1) * P) n)) .non := by
  let E : En := [vl (nD P), vl (nD n), vl (nD m)]
  refine runF_rt (ρ := E) ?_ rfl
  unfold b_least_gap
  exact ret_ok (neg_mul_ok (a := m + 1) (m2_ok (x := nD m) (y := nD 1) rfl rfl (fAdd_nat m 1)) rfl rfl hP hn hn2)
end Dl
namespace Dl
open PySem PySem.Spec PyProof.Rows L2
variable {D D1 D2 : List Nat} {P : Nat}
/-! ### days on a ring, compared -/
theorem ring_pos (h : Ring D P) : 0 < P := by
  have := h.lt _ (List.getElem_mem h.n0)
  omega
def leG (D1 D2 : List Nat) (P m : Nat) : Bool := decide (gp D1 P m ≤ gp D2 P m)
def nlB (D1 D2 : List Nat) (P : Nat) : Bool := if D1.length < D2.length then false else (List.range (Nat.lcm D1.length D2.length)).all (leG D1 D2 P)
/-! ### days moved on -/
/-! ### the mirrors -/
theorem sh_go (a b : Nat) : ∀ (n l r : Nat), r < n → whGo (mB (m2 fGt (mVar 3) (mPure (.int 0)))) (sPars [2, 3] [false, false] (mCons (mVar 3) (mCons (m2 fMod (mVar 2) (mPeek 3)) (mPure [])))) n [vl (nD a), vl (nD b), vl (nD l), vl (nD r)] = .nx [vl (nD a), vl (nD b), vl (nD (Nat.gcd l r)), vl (nD 0)]
  | 0, _, _, h => by omega
  | n + 1, l, r, h => by
    by_cases h0 : r = 0
    · subst h0
      rw [Nat.gcd_zero_right]
      exact wh_f (tb_ok (m2_ok (x := nD 0) (y := nD 0) rfl rfl (gt_f (by omega))))
    · have hm := Nat.mod_lt l (show 0 < r by omega)
      have ih := sh_go a b n r (l % r) (by omega)
      rw [show Nat.gcd l r = Nat.gcd r (l % r) by rw [Nat.gcd_comm, Nat.gcd_rec, Nat.gcd_comm]]
      exact wh_t (ρ1 := [vl (nD a), vl (nD b), vl (nD l), vl (nD r)]) (tb_ok (m2_ok (x := nD r) (y := nD 0) rfl rfl (gt_t (by omega)))) (pars2_ok (x := nD r) (y := nD (l % r)) (ρ1 := [vl (nD a), vl (nD b), vl (nD l), vl (nD r)]) (cons_ok rfl (cons_ok (m2_ok (x := nD l) (y := nD r) rfl rfl (fMod_nat l r (by omega))) rfl)) rfl rfl) ih
theorem shared_ok {a b : Nat} (ha : 0 < a) (ha2 : a < 1000) (hb : b < 1000) : m_shared_length [nD a, nD b] = .ret (nD (Nat.lcm a b)) .non := by
  refine runF_rt (ρ := [vl (nD a), vl (nD b), vl (nD (Nat.gcd a b)), vl (nD 0)]) ?_ rfl
  unfold b_shared_length
  have hg : 0 < Nat.gcd a b := Nat.gcd_pos_of_pos_left _ ha
  have hg2 : Nat.gcd a b ≤ a := Nat.gcd_le_left _ ha
  refine seq_nx (ρ' := [vl (nD a), vl (nD b), vl (nD a), vl (nD b)]) (pars_ok (ds := [nD a, nD b]) (ρ1 := [vl (nD a), vl (nD b), none, none]) rfl rfl) (seq_nx (sh_go a b 1000 a b hb) (ret_ok (m2_ok (x := nD (a * b)) (y := nD (Nat.gcd a b)) (m2_ok (x := nD a) (y := nD b) rfl rfl (fMul_nat _ _ (.inl (by omega)))) rfl (fDiv_nat _ _ hg (by omega)))))
theorem chk_go {E : Option Dt → En} {g : Dt → En → Option En} {bd : En → So} {c : Nat → Bool} : ∀ (xs : List Nat) (s : Option Dt), (∀ x ∈ xs, ∀ s, g (nD x) (E s) = some (E (some (nD x)))) → (∀ x ∈ xs, bd (E (some (nD x))) = if c x = true then .nx (E (some (nD x))) else .rt (.bl false) (E (some (nD x)))) → ∃ s', forGo g bd (xs.map nD) (E s) = if xs.all c = true then .nx (E s') else .rt (.bl false) (E s')
  | [], s, _, _ => ⟨s, by rw [List.all_nil, if_pos rfl]; rfl⟩
  | x :: xs, s, hg, hb => by
    have h1 := hg x List.mem_cons_self s
    have h2 := hb x List.mem_cons_self
    rw [List.map_cons, List.all_cons]
    unfold forGo
    rw [h1]; dsimp only
    rw [h2]
    cases hc : c x with
    | true =>
      rw [if_pos rfl, Bool.true_and]
      exact chk_go xs (some (nD x)) (fun y hy => hg y (List.mem_cons_of_mem _ hy)) (fun y hy => hb y (List.mem_cons_of_mem _ hy))
    | false =>
      rw [if_neg Bool.false_ne_true, Bool.false_and]
      exact ⟨some (nD x), by rw [if_neg Bool.false_ne_true]⟩
abbrev stL (D : List Nat) (P : Nat) : Dt := .tup ((List.range D.length).map fun s => nD (gp D P s))
theorem stL_eq (D : List Nat) (P : Nat) : stL D P = .tup (((List.range D.length).map (gp D P)).map nD) := by rw [List.map_map]; rfl
theorem stair_gp (h : Ring D P) (hl : D.length < 1000) (hP : P < 1000000000000000000) (m : Nat) : m_stair [stL D P, nD P, nD m] = .ret (nD (gp D P m)) .non := by
  rw [stL_eq]
  have e := stair_ok (R := P) ((List.range D.length).map (gp D P)) m (by rw [List.length_map, List.length_range]; exact h.n0) (by rw [List.length_map, List.length_range]; omega) hP
  rw [List.length_map, List.length_range, steps_get h.n0, ← gp_div h] at e
  exact e
theorem len_st (D : List Nat) (P : Nat) {ρ : En} {i : Nat} (h : mPeek i ρ = .ok (stL D P) ρ) : m1 fLen (mPeek i) ρ = .ok (nD D.length) ρ := m1_ok h (by rw [stL_eq, len_tup, List.length_map, List.length_range])
theorem never_ok (h1 : Ring D1 P) (h2 : Ring D2 P) (l1 : D1.length < 1000) (l2 : D2.length < 1000) (hP : P < 1000000000000000000) : m_is_never_longer [stL D1 P, nD P, stL D2 P, nD P] = .ret (.bl (nlB D1 D2 P)) .non := by
  have hP0 := ring_pos h1
  let E (s : Option Dt) : En := [vl (stL D1 P), vl (nD P), vl (stL D2 P), vl (nD P), lv s]
  have e0 : mB (m2 fGt (m2 fMulI (mVar 1) (m1 fLen (mPeek 2))) (m2 fMulI (mVar 3) (m1 fLen (mPeek 0)))) (E none) = .ok (decide (D1.length < D2.length)) (E none) := by
    refine tb_ok (m2_ok (x := nD (P * D2.length)) (y := nD (P * D1.length)) (m2_ok (x := nD P) (y := nD D2.length) rfl (len_st D2 P rfl) (fMul_nat _ _ (.inr hP))) (m2_ok (x := nD P) (y := nD D1.length) rfl (len_st D1 P rfl) (fMul_nat _ _ (.inr hP))) ?_)
    rw [gt_nat]
    congr 2
    exact decide_eq_decide.mpr (Nat.mul_lt_mul_left hP0)
  unfold m_is_never_longer nlB
  by_cases hlt : D1.length < D2.length
  · rw [if_pos hlt]
    rw [decide_eq_true hlt] at e0
    refine runF_rt (ρ := E none) ?_ rfl
    unfold b_is_never_longer
    exact seq_rt (if_t e0 (ret_ok rfl))
  · rw [if_neg hlt]
    rw [decide_eq_false hlt] at e0
    have hlcm : Nat.lcm D1.length D2.length < 1000000 := by
      have a1 : Nat.lcm D1.length D2.length ≤ D1.length * D2.length := by unfold Nat.lcm; exact Nat.div_le_self _ _
      have a2 : D1.length * D2.length ≤ 999 * 999 := Nat.mul_le_mul (by omega) (by omega)
      omega
    obtain ⟨s', g⟩ := chk_go (E := E) (g := gV 4) (bd := (sIf (mB (m2 fGt (mCall 3 m_stair (mCons (mVar 0) (mCons (mVar 1) (mCons (mVar 4) (mPure []))))) (mCall 3 m_stair (mCons (mVar 2) (mCons (mVar 3) (mCons (mVar 4) (mPure []))))))) (sRet (mPure (.bl false))) (fun ρ => .nx ρ))) (c := leG D1 D2 P) (List.range (Nat.lcm D1.length D2.length)) none (fun x _ s => by cases s <;> rfl) (fun x _ => by
      have et : mB (m2 fGt (mCall 3 m_stair (mCons (mVar 0) (mCons (mVar 1) (mCons (mVar 4) (mPure []))))) (mCall 3 m_stair (mCons (mVar 2) (mCons (mVar 3) (mCons (mVar 4) (mPure [])))))) (E (some (nD x))) = .ok (decide (gp D2 P x < gp D1 P x)) (E (some (nD x))) := tb_ok (m2_ok (callP (ds := [stL D1 P, nD P, nD x]) (stair_gp h1 l1 hP x) rfl rfl) (callP (ds := [stL D2 P, nD P, nD x]) (stair_gp h2 l2 hP x) rfl rfl) (gt_nat _ _))
      unfold leG
      by_cases q : gp D1 P x ≤ gp D2 P x
      · rw [if_pos (decide_eq_true q)]
        rw [decide_eq_false (by omega)] at et
        exact if_f et rfl
      · rw [if_neg (by simpa using q)]
        rw [decide_eq_true (by omega)] at et
        exact if_t et (ret_ok rfl))
    have er := rngN_ok (ms := mCons (mCall 2 m_shared_length (mCons (m1 fLen (mPeek 0)) (mCons (m1 fLen (mPeek 2)) (mPure [])))) (mPure [])) (N := Nat.lcm D1.length D2.length) (ρ := E none) (ρ1 := E none) (cons_ok (callP (ds := [nD D1.length, nD D2.length]) (shared_ok h1.n0 l1 l2) (cons_ok (len_st D1 P rfl) (cons_ok (len_st D2 P rfl) rfl)) rfl) rfl) hlcm
    refine runF_rt (ρ := E s') ?_ rfl
    unfold b_is_never_longer
    refine seq_nx (if_f e0 rfl) ?_
    cases hq : (List.range (Nat.lcm D1.length D2.length)).all (leG D1 D2 P) with
    | true => rw [hq, if_pos rfl] at g; exact seq_nx (for_ok er g) (ret_ok rfl)
    | false => rw [hq, if_neg Bool.false_ne_true] at g; exact seq_rt (for_ok er g)
theorem no_longer_ok (c1 c2 : Bool) {L1 L2 : List Nat} (h1 : Ring (sortN L1) P) (h2 : Ring (sortN L2) P) (nd1 : L1.Nodup) (nd2 : L2.Nodup) (l1 : L1.length < 1000) (l2 : L2.length < 1000) (hP : P < 1000000000000000000) : m_no_longer [sqD c1 (L1.map nD), sqD c2 (L2.map nD), nD P] = .ret (.bl (nlB (sortN L1) (sortN L2) P)) .non := by
  have p1 := sortN_perm L1
  have p2 := sortN_perm L2
  have a1 := need_days_ok c1 L1 P (by rw [← p1.length_eq]; exact h1.n0) l1 nd1 (fun x hx => h1.lt x (p1.mem_iff.mpr hx))
  have a2 := need_days_ok c2 L2 P (by rw [← p2.length_eq]; exact h2.n0) l2 nd2 (fun x hx => h2.lt x (p2.mem_iff.mpr hx))
  have s1 := longest_ok h1 (by rw [p1.length_eq]; exact l1)
  have s2 := longest_ok h2 (by rw [p2.length_eq]; exact l2)
  have n := never_ok h1 h2 (by rw [p1.length_eq]; exact l1) (by rw [p2.length_eq]; exact l2) hP
  let E (s : Option Dt) : En := [vl (sqD c1 (L1.map nD)), vl (sqD c2 (L2.map nD)), vl (nD P), lv s]
  refine runF_rt (ρ := E (some (stL (sortN L1) P))) ?_ rfl
  unfold b_no_longer
  refine seq_nx (ρ' := E (some (stL (sortN L1) P))) (set_ok (ρ1 := E none) (callP (ds := [.tup ((sortN L1).map nD), nD P]) s1 (cons_ok (callP (ds := [sqD c1 (L1.map nD), nD P]) a1 rfl rfl) rfl) rfl) rfl) ?_
  exact ret_ok (callP (ds := [stL (sortN L1) P, nD P, stL (sortN L2) P, nD P]) n (cons_ok rfl (cons_ok rfl (cons_ok (callP (ds := [.tup ((sortN L2).map nD), nD P]) s2 (cons_ok (callP (ds := [sqD c2 (L2.map nD), nD P]) a2 rfl rfl) rfl) rfl) rfl))) rfl)
def beB (D : List Nat) (P : Nat) : Bool := (List.range D.length).all fun m => decide (gp D P m = cd ((m + 1) * P) D.length)
theorem is_best_ok (c : Bool) {L : List Nat} (h : Ring (sortN L) P) (nd : L.Nodup) (l : L.length < 1000) (hP : P < 1000000000000000000) : m_is_best [sqD c (L.map nD), nD P] = .ret (.bl (beB (sortN L) P)) .non := by
  have p := sortN_perm L
  have hl : (sortN L).length < 1000 := by rw [p.length_eq]; exact l
  have a := need_days_ok c L P (by rw [← p.length_eq]; exact h.n0) l nd (fun x hx => h.lt x (p.mem_iff.mpr hx))
  have s := longest_ok h hl
  let D := sortN L
  let E (s : Option Dt) : En := [vl (sqD c (L.map nD)), vl (nD P), lv s, none, none]
  refine runF_rt (ρ := E (some (stL D P))) ?_ rfl
  unfold b_is_best
  refine seq_nx (ρ' := E (some (stL D P))) (set_ok (ρ1 := E none) (callP (ds := [.tup (D.map nD), nD P]) s (cons_ok (callP (ds := [sqD c (L.map nD), nD P]) a rfl rfl) rfl) rfl) rfl) (ret_ok (all_ok ?_))
  refine lcM2 (ρ := E (some (stL D P))) nD (fun m => nD (gp D P m)) (fun m => .bl (decide (gp D P m = cd ((m + 1) * P) D.length))) (List.range D.length) ⟨none, rfl⟩ ⟨none, rfl⟩ (by decide) ?_ (fun m _ => m2_ok (x := nD (gp D P m)) (y := nD (cd ((m + 1) * P) D.length)) rfl (callP (ds := [nD P, nD D.length, nD m]) (least_gap_ok m hP h.n0 (Nat.lt_of_lt_of_le hl (by decide))) (cons_ok rfl (cons_ok (len_st D P rfl) (cons_ok rfl rfl))) rfl) (feq_nat _ _)) (by rw [List.length_range]; exact Nat.le_trans (Nat.le_of_lt hl) (by decide))
  refine bind_ok (a := stL D P) rfl ?_
  rw [stL_eq]
  show mPure (enumD 0 (((List.range D.length).map (gp D P)).map nD)) _ = _
  rw [enum_map' nD, zipIdx_range, List.map_map]
  rfl
end Dl
namespace Dl
open PySem PySem.Spec PyProof.Rows L2
/-! ### the first thing that is no day -/
/-- bad: no day of a ring of P days behind the days pre -/
def BadD (bad : Dt) (ks : List Nat) (P : Nat) : Prop :=
  m_is_integer [bad] = .ret (.bl false) .non ∨ (∃ z : Int, bad = .int z ∧ (z < 0 ∨ (P : Int) ≤ z)) ∨ ∃ x, x ∈ ks ∧ bad = nD x
def ndW : En → So := (sSeq (sIf (mOr (mNot (mB (mCall 1 m_is_integer (mCons (mVar 4) (mPure []))))) (mOr (mNot (mB (mChain fLe fLt (mPure (.int 0)) (mVar 4) (mPeek 1)))) (mB (m2 fDin (mVar 4) (mPeek 2))))) (sRaise 24 (mVar 3)) (fun ρ => .nx ρ))
  (sDput 2 (mVar 4) (mPure (.bl true))))
def ndE (Q : Dt) (P : Nat) (ks : List Nat) (vs : List Dt) (s3 s4 : Option Dt) : En := [vl Q, vl (nD P), ow (.dic false (ks.map nD) vs), lv s3, lv s4]
theorem look_some {y : Nat} : ∀ (ks : List Nat) (ds : List Dt), ks.length ≤ ds.length → y ∈ ks → (dLook keyEq (nD y) (ks.map nD) ds).isSome = true
  | [], _, _, h => by cases h
  | k :: ks, [], l, _ => by simp at l
  | k :: ks, d :: ds, l, h => by
    show (if keyEq (nD k) (nD y) = true then some d else dLook keyEq (nD y) (ks.map nD) ds).isSome = true
    rw [keyEq_nat]
    by_cases e : k = y
    · rw [if_pos (by simp [e])]; rfl
    · rw [if_neg (by simp [e])]
      exact look_some ks ds (by simpa using l) (by
        rcases List.mem_cons.mp h with z | z
        · exact absurd z.symm e
        · exact z)
theorem nd_step {Q : Dt} {P : Nat} {ks : List Nat} {vs : List Dt} {s3 : Option Dt} {x : Nat} (hx : x ∉ ks) (hxP : x < P) (hpl : ks.length < 1000) : ndW (ndE Q P ks vs s3 (some (nD x))) = .nx (ndE Q P (ks ++ [x]) (vs ++ [.bl true]) s3 (some (nD x))) := by
  unfold ndW
  refine seq_nx (ρ' := ndE Q P ks vs s3 (some (nD x))) (if_f (ρ1 := ndE Q P ks vs s3 (some (nD x))) (or_f (ρ1 := ndE Q P ks vs s3 (some (nD x))) (not_ok (b := true) (tb_ok (call_ok (ds := [nD x]) (r := .non) (by cases s3 <;> rfl) rfl rfl))) (or_f (ρ1 := ndE Q P ks vs s3 (some (nD x))) (not_ok (b := true) (tb_ok ?_)) (tb_ok (m2_ok (y := .dic false (ks.map nD) vs) rfl rfl ?_)))) rfl) ?_
  · refine chain_t (x := .int 0) (y := nD x) (z := nD P) rfl rfl ?_ rfl (by rw [fLt_nat, decide_eq_true hxP])
    show some (Dt.bl (decide ((0 : Int) ≤ (x : Int)))) = _
    rw [decide_eq_true (by omega)]
  · show some (Dt.bl (dLook keyEq (nD x) (ks.map nD) vs).isSome) = _
    rw [look_none ks vs hx]; rfl
  · refine dput_ok (ρ1 := ndE Q P ks vs s3 (some (nD x))) (ρ2 := ndE Q P ks vs s3 (some (nD x))) (x := nD x) rfl rfl ?_
    have ep : putD 2 (nD x) (.bl true) (ndE Q P ks vs s3 (some (nD x))) = .ok () (ndE Q P (ks ++ [x]) (vs ++ [.bl true]) s3 (some (nD x))) := by
      show (if (ks.map nD).length < sizeLine then Ou.ok () [vl Q, vl (nD P), ow (.dic false (dPut keyEq (nD x) (.bl true) (ks.map nD) vs).1 (dPut keyEq (nD x) (.bl true) (ks.map nD) vs).2), _, _] else .bad) = _
      rw [if_pos (by rw [List.length_map]; exact sl_lt (by omega)), put_new hx]
      rfl
    exact ep
theorem nd_bad {Q : Dt} {P i : Nat} {ks : List Nat} {vs : List Dt} {bad : Dt} (hv : ks.length ≤ vs.length) (lt : ∀ x ∈ ks, x < P) (hb : BadD bad ks P) : ndW (ndE Q P ks vs (some (nD i)) (some bad)) = .exc ⟨24, [nD i]⟩ (ndE Q P ks vs (some (nD i)) (some bad)) := by
  let E := ndE Q P ks vs (some (nD i)) (some bad)
  have hr : sRaise 24 (mVar 3) E = .exc ⟨24, [nD i]⟩ E := rfl
  have fin : ∀ {c : Mi Bool}, c E = .ok true E → sSeq (sIf c (sRaise 24 (mVar 3)) (fun ρ => .nx ρ)) (sDput 2 (mVar 4) (mPure (.bl true))) E = .exc ⟨24, [nD i]⟩ E := fun {c} hc => by
    unfold sSeq
    rw [if_t (o := .exc ⟨24, [nD i]⟩ E) hc hr]
  unfold ndW
  refine fin ?_
  have chn : ∀ z : Int, bad = .int z → (z < 0 ∨ (P : Int) ≤ z) → mNot (mB (mChain fLe fLt (mPure (.int 0)) (mVar 4) (mPeek 1))) E = .ok true E := fun z e hz => by
    subst e
    refine not_ok (b := false) (tb_ok ?_)
    by_cases h0 : (0 : Int) ≤ z
    · refine chain_t (x := .int 0) (y := .int z) (z := nD P) (ρ1 := E) (ρ2 := E) rfl rfl ?_ rfl ?_
      · show some (Dt.bl (decide ((0 : Int) ≤ z))) = _
        rw [decide_eq_true h0]
      · show some (Dt.bl (decide (z < (P : Int)))) = _
        rw [decide_eq_false (by rcases hz with h | h <;> omega)]
    · refine chain_f (x := .int 0) (y := .int z) (ρ1 := E) (ρ2 := E) rfl rfl ?_
      show some (Dt.bl (decide ((0 : Int) ≤ z))) = _
      rw [decide_eq_false h0]
  have isI : ∀ z : Int, bad = .int z → mNot (mB (mCall 1 m_is_integer (mCons (mVar 4) (mPure [])))) E = .ok false E := fun z e => by
    subst e
    exact not_ok (b := true) (tb_ok (call_ok (ds := [.int z]) (r := .non) rfl rfl rfl))
  rcases hb with h | ⟨z, e, hz⟩ | ⟨x, hx, e⟩
  · exact or_t (not_ok (b := false) (tb_ok (call_ok (ds := [bad]) (r := .non) rfl rfl h)))
  · exact or_f (isI z e) (or_t (chn z e hz))
  · have hxP := lt x hx
    refine or_f (isI x e) (or_f (ρ1 := E) (not_ok (b := true) (tb_ok ?_)) (tb_ok (m2_ok (x := nD x) (y := .dic false (ks.map nD) vs) (ρ1 := E) (by subst e; rfl) rfl ?_)))
    · subst e
      refine chain_t (x := .int 0) (y := nD x) (z := nD P) (ρ1 := E) (ρ2 := E) rfl rfl ?_ rfl (by rw [fLt_nat, decide_eq_true hxP])
      show some (Dt.bl (decide ((0 : Int) ≤ (x : Int)))) = _
      rw [decide_eq_true (by omega)]
    · show some (Dt.bl (dLook keyEq (nD x) (ks.map nD) vs).isSome) = _
      rw [look_some ks vs hv hx]
theorem nd_loop {Q : Dt} {P : Nat} {bad : Dt} {post : List Dt} : ∀ (pre ks : List Nat) (vs : List Dt) (s3 s4 : Option Dt) (i : Nat), (ks ++ pre).Nodup → (∀ x ∈ ks ++ pre, x < P) → (ks ++ pre).length < 1000 → ks.length ≤ vs.length → BadD bad (ks ++ pre) P →
    ∃ ρ', forGo (gT (gsC (gV 3) (gsC (gV 4) gsN)) 2) ndW (enumD i (pre.map nD ++ bad :: post)) (ndE Q P ks vs s3 s4) = .exc ⟨24, [nD (i + pre.length)]⟩ ρ'
  | [], ks, vs, s3, s4, i, nd, lt, hl, hv, hb => by
    rw [List.append_nil] at lt hb
    refine ⟨ndE Q P ks vs (some (nD i)) (some bad), ?_⟩
    show (match gT (gsC (gV 3) (gsC (gV 4) gsN)) 2 (.tup [.int i, bad]) (ndE Q P ks vs s3 s4) with
      | none => So.bad
      | some ρ1 => match ndW ρ1 with
        | .nx ρ2 => forGo (gT (gsC (gV 3) (gsC (gV 4) gsN)) 2) ndW (enumD (i + 1) post) ρ2
        | .ct ρ2 => forGo (gT (gsC (gV 3) (gsC (gV 4) gsN)) 2) ndW (enumD (i + 1) post) ρ2
        | .bk ρ2 => .nx ρ2
        | o => o) = _
    rw [show gT (gsC (gV 3) (gsC (gV 4) gsN)) 2 (.tup [.int i, bad]) (ndE Q P ks vs s3 s4) = some (ndE Q P ks vs (some (nD i)) (some bad)) from by cases s3 <;> cases s4 <;> rfl]
    dsimp only
    rw [nd_bad hv lt hb]
    rfl
  | x :: pre, ks, vs, s3, s4, i, nd, lt, hl, hv, hb => by
    have e1 : ks ++ x :: pre = (ks ++ [x]) ++ pre := by simp
    have hx : x ∉ ks := fun z => by
      rw [List.nodup_append] at nd
      exact nd.2.2 x z x (by simp) rfl
    obtain ⟨ρ', h⟩ := nd_loop (Q := Q) (post := post) pre (ks ++ [x]) (vs ++ [.bl true]) (some (nD i)) (some (nD x)) (i + 1) (e1 ▸ nd) (e1 ▸ lt) (e1 ▸ hl) (by simpa using hv) (e1 ▸ hb)
    refine ⟨ρ', ?_⟩
    show (match gT (gsC (gV 3) (gsC (gV 4) gsN)) 2 (.tup [.int i, nD x]) (ndE Q P ks vs s3 s4) with
      | none => So.bad
      | some ρ1 => match ndW ρ1 with
        | .nx ρ2 => forGo (gT (gsC (gV 3) (gsC (gV 4) gsN)) 2) ndW (enumD (i + 1) (pre.map nD ++ bad :: post)) ρ2
        | .ct ρ2 => forGo (gT (gsC (gV 3) (gsC (gV 4) gsN)) 2) ndW (enumD (i + 1) (pre.map nD ++ bad :: post)) ρ2
        | .bk ρ2 => .nx ρ2
        | o => o) = _
    rw [show gT (gsC (gV 3) (gsC (gV 4) gsN)) 2 (.tup [.int i, nD x]) (ndE Q P ks vs s3 s4) = some (ndE Q P ks vs (some (nD i)) (some (nD x))) from by cases s3 <;> cases s4 <;> rfl]
    dsimp only
    rw [nd_step hx (lt x (by simp)) (by simp at hl; omega)]
    dsimp only
    rw [h, List.length_cons, show i + 1 + pre.length = i + (pre.length + 1) by omega]
theorem runF_exc {k : Nat} {body : En → So} {ds : List Dt} {x : Ex} {ρ : En} (h : body (argE false ds ++ List.replicate (k - ds.length) none) = .exc x ρ) : runF k false false body ds = .exc x .non := by
  unfold runF; rw [h]; rfl
theorem need_bad (b : Bool) {pre : List Nat} {bad : Dt} {post : List Dt} {P : Nat} (nd : pre.Nodup) (lt : ∀ x ∈ pre, x < P) (hl : pre.length < 1000) (hb : BadD bad pre P) : m_need_days_k52 [sqD b (pre.map nD ++ bad :: post), nD P] = .exc ⟨24, [nD pre.length]⟩ .non := by
  let Q : Dt := sqD b (pre.map nD ++ bad :: post)
  let E0 : En := [vl Q, vl (nD P), none, none, none]
  obtain ⟨ρ', h⟩ := nd_loop (Q := Q) (post := post) pre [] [] none none 0 (by simpa using nd) (by simpa using lt) (by simpa using hl) (Nat.le_refl _) (by simpa using hb)
  refine runF_exc (ρ := ρ') ?_
  unfold b_need_days_k52
  have hln : m1 fLen (mPeek 0) E0 = .ok (.int ((pre.map nD ++ bad :: post).length : Nat)) E0 := m1_ok (x := Q) rfl (by cases b <;> rfl)
  refine seq_nx (ρ' := E0) (if_f (ρ1 := E0) (or_f (ρ1 := E0) (not_ok (b := true) (tb_ok (call_ok (ds := [Q]) (r := .non) rfl rfl (by cases b <;> rfl)))) (tb_ok (m2_ok (x := .int ((pre.map nD ++ bad :: post).length : Nat)) (y := .int 0) (ρ1 := E0) hln rfl (by rw [feq_int, decide_eq_false (by simp; omega)])))) rfl) ?_
  refine seq_nx (ρ' := ndE Q P [] [] none none) rfl ?_
  have hf : sFor (mEnumI (mVar 0)) (gT (gsC (gV 3) (gsC (gV 4) gsN)) 2) ndW (ndE Q P [] [] none none) = .exc ⟨24, [nD pre.length]⟩ ρ' := by
    rw [Nat.zero_add] at h
    refine for_ok (ds := enumD 0 (pre.map nD ++ bad :: post)) (ρ1 := ndE Q P [] [] none none) (by cases b <;> rfl) h
  exact seq_exc hf
end Dl
namespace Dl
open PySem PySem.Spec PyProof.Rows L2
/-! ### what is raised goes on -/
theorem set_exc {i : Nat} {m : Mi Dt} {ρ ρ1 : En} {x : Ex} (h : m ρ = .exc x ρ1) : sSet i m ρ = .exc x ρ1 := by unfold sSet sBind; rw [h]
theorem ret_exc {m : Mi Dt} {ρ ρ1 : En} {x : Ex} (h : m ρ = .exc x ρ1) : sRet m ρ = .exc x ρ1 := by unfold sRet sBind; rw [h]
theorem cons_exc {m : Mi Dt} {ms : Mi (List Dt)} {ρ ρ1 : En} {x : Ex} (h : m ρ = .exc x ρ1) : mCons m ms ρ = .exc x ρ1 := by unfold mCons mBind; rw [h]
theorem cons_exc2 {m : Mi Dt} {ms : Mi (List Dt)} {ρ ρ1 ρ2 : En} {d : Dt} {x : Ex} (h : m ρ = .ok d ρ1) (k : ms ρ1 = .exc x ρ2) : mCons m ms ρ = .exc x ρ2 := by unfold mCons mBind; rw [h]; dsimp only; rw [k]
theorem call_exc {n : Nat} {f : List Dt → Fo} {ms : Mi (List Dt)} {ρ ρ1 : En} {ds : List Dt} {x : Ex} {r : Dt} (h : ms ρ = .ok ds ρ1) (hl : ds.length = n) (hf : f ds = .exc x r) : mCall n f ms ρ = .exc x ρ1 := by unfold mCall mBind; rw [h]; dsimp only; rw [if_pos hl, hf]
theorem call_excA {n : Nat} {f : List Dt → Fo} {ms : Mi (List Dt)} {ρ ρ1 : En} {x : Ex} (h : ms ρ = .exc x ρ1) : mCall n f ms ρ = .exc x ρ1 := by unfold mCall mBind; rw [h]
variable {v g o a : Dt} {P : Nat} {x : Ex}
theorem rg_exc (h : m_need_days_k52 [v, nD P] = .exc x .non) : m_ring_gap_k52 [v, nD P, a] = .exc x .non := by
  refine runF_exc (ρ := [vl v, vl (nD P), vl a, none]) ?_
  unfold b_ring_gap_k52
  exact seq_exc (set_exc (call_exc (ds := [v, nD P]) (r := .non) rfl rfl h))
theorem ib_exc (h : m_need_days_k52 [v, nD P] = .exc x .non) : m_is_best_k52 [v, nD P] = .exc x .non := by
  refine runF_exc (ρ := [vl v, vl (nD P), none, none, none]) ?_
  unfold b_is_best_k52
  exact seq_exc (set_exc (call_excA (cons_exc (call_exc (ds := [v, nD P]) (r := .non) rfl rfl h))))
theorem nl_exc (h : m_need_days_k52 [v, nD P] = .exc x .non) : m_no_longer_k52 [v, o, nD P] = .exc x .non := by
  refine runF_exc (ρ := [vl v, vl o, vl (nD P), none]) ?_
  unfold b_no_longer_k52
  exact seq_exc (set_exc (call_excA (cons_exc (call_exc (ds := [v, nD P]) (r := .non) rfl rfl h))))
theorem nl_exc2 {dg dl r1 r2 : Dt} (h1 : m_need_days_k52 [g, nD P] = .ret dg r1) (h2 : m_longest_steps [dg, nD P] = .ret dl r2) (h : m_need_days_k52 [v, nD P] = .exc x .non) : m_no_longer_k52 [g, v, nD P] = .exc x .non := by
  let E0 : En := [vl g, vl v, vl (nD P), none]
  let E1 : En := [vl g, vl v, vl (nD P), vl dl]
  refine runF_exc (ρ := E1) ?_
  unfold b_no_longer_k52
  refine seq_nx (ρ' := E1) (set_ok (d := dl) (ρ1 := E0) (call_ok (ds := [dg, nD P]) (r := r2) (cons_ok (ρ1 := E0) (call_ok (ds := [g, nD P]) (r := r1) rfl rfl h1) rfl) rfl h2) rfl) ?_
  refine ret_exc (call_excA (cons_exc2 (d := dl) (ρ1 := E1) rfl (cons_exc2 (d := nD P) (ρ1 := E1) rfl (cons_exc (call_excA (cons_exc (call_exc (ds := [v, nD P]) (r := .non) (ρ1 := E1) rfl rfl h)))))))
/-! ### what is heard -/
theorem heard_ret (d r : Dt) : m_law_heard (.ret d r) = .ret (.str "let") .non := by
  unfold m_law_heard b_law_heard
  simp [runF, sSeq, sSet, sTry, sDrop, sBind, mPure, sPut, setSl, argE, act_ret, List.replicate, sRet, mVar, ioOut]
theorem heard_exc (d r : Dt) : m_law_heard (.exc ⟨24, [d]⟩ r) = .ret d .non := by
  unfold m_law_heard b_law_heard
  simp [runF, sSeq, sSet, sTry, sDrop, sBind, mPure, sPut, setSl, argE, act_exc, List.replicate, sRet, mVar, ioOut, hdGo, qTab, List.lookup, mIfE, mAnd, mB, mNot, mXf, mXis, mBind, mOpt, mBad, afterE]
theorem lam_run {kk : Nat} {q : Str} {is : List Nat} {ml : Mi Dt} {ρ : En} {ds : List Dt} {d r : Dt} {fm : Fo → Fo} (h1 : ρ[kk]? = some (some (.own true (.tbl q)))) (h2 : grab ρ is = some ds) (h3 : fm (outF (ml (cloE ρ.length is ds))) = .ret d r) : mLam kk q is ml fm ρ = .ok d ρ := by
  unfold mLam
  rw [h1]
  dsimp only
  rw [if_pos rfl, h2]
  dsimp only
  rw [h3]
/-- what the four calls tell -/
def AnsD : Fo → Dt → Prop := fun f d => (∃ x r, f = .ret x r ∧ d = .str "let") ∨ ∃ r, f = .exc ⟨24, [d]⟩ r
theorem heard_ans {n : Nat} {f : List Dt → Fo} {ms : Mi (List Dt)} {ρ : En} {ds : List Dt} {d : Dt} (h : ms ρ = .ok ds ρ) (hl : ds.length = n) (ha : AnsD (f ds) d) : m_law_heard (outF (mCall n f ms ρ)) = .ret d .non := by
  rcases ha with ⟨x, r, e, rfl⟩ | ⟨r, e⟩
  · rw [call_ok h hl e]; exact heard_ret _ _
  · rw [call_exc h hl e]; exact heard_exc _ _
theorem runFU_rt {k kk : Nat} {q q' : Str} {body : En → So} {ds : List Dt} {d : Dt} {ρ ρ0 : En} (h0 : (argE false ds ++ List.replicate (k - ds.length) none).set kk (some (.own true (.tbl q))) = ρ0) (h : body ρ0 = .rt d ρ) (ht : ρ[kk]? = some (some (.own true (.tbl q')))) : runFU k kk q body ds = .ret d (.tbl q') := by
  unfold runFU; rw [h0, h]; dsimp only; unfold tabOut; rw [ht]
theorem all_heard_ok {d1 d2 d3 d4 : Dt} (h1 : AnsD (m_ring_gap_k52 [v, nD P, .int 1]) d1) (h2 : AnsD (m_is_best_k52 [v, nD P]) d2) (h3 : AnsD (m_no_longer_k52 [v, g, nD P]) d3) (h4 : AnsD (m_no_longer_k52 [g, v, nD P]) d4) :
    m_law_all_heard [v, nD P, g] = .ret (.lst [d1, d2, d3, d4]) (.tbl q_law_all_heard) := by
  let E (s : Option Sl) : En := [vl v, vl (nD P), vl g, s, some (.own true (.tbl q_law_all_heard))]
  have hb : b_law_all_heard (E none) = .rt (.lst [d1, d2, d3, d4]) (E (vl (.lst [d1, d2, d3, d4]))) := by
    unfold b_law_all_heard
    refine seq_nx (ρ' := E (ow (.lst [d1]))) (setN_ok (d := .lst [d1]) (ρ1 := E none) (lst_ok (cons_ok (ρ1 := E none) (lam_run (ds := [v, nD P]) (r := .non) rfl rfl (heard_ans (ds := [v, nD P, .int 1]) rfl rfl h1)) rfl) (sl_le (by simp))) rfl) ?_
    refine seq_nx (ρ' := E (ow (.lst [d1, d2]))) (drop_ok (append_ok (es := [d1]) (ds := [d1]) (d := d2) (ρ1 := E (ow (.lst [d1]))) rfl (lam_run (ds := [v, nD P]) (r := .non) rfl rfl (heard_ans (ds := [v, nD P]) rfl rfl h2)) rfl (by simp) rfl)) ?_
    refine seq_nx (ρ' := E (ow (.lst [d1, d2, d3]))) (drop_ok (append_ok (es := [d1, d2]) (ds := [d1, d2]) (d := d3) (ρ1 := E (ow (.lst [d1, d2]))) rfl (lam_run (ds := [v, nD P, g]) (r := .non) rfl rfl (heard_ans (ds := [v, g, nD P]) rfl rfl h3)) rfl (by simp) rfl)) ?_
    refine seq_nx (ρ' := E (ow (.lst [d1, d2, d3, d4]))) (drop_ok (append_ok (es := [d1, d2, d3]) (ds := [d1, d2, d3]) (d := d4) (ρ1 := E (ow (.lst [d1, d2, d3]))) rfl (lam_run (ds := [v, nD P, g]) (r := .non) rfl rfl (heard_ans (ds := [g, v, nD P]) rfl rfl h4)) rfl (by simp) rfl)) ?_
    exact ret_ok rfl
  unfold m_law_all_heard
  exact runFU_rt (ρ0 := E none) (q' := q_law_all_heard) rfl hb rfl
end Dl
namespace Dl
open PySem PySem.Spec PyProof.Rows L2
/-! ### what is cut and picked -/
section
variable {ρ ρ1 ρ2 ρ' : En} {i n : Nat} {m ma mb : Mi Dt} {l xs ys : List Dt}
theorem s52_take (h : ρ[i]? = some (vl (.lst l))) (hm : m ρ = .ok (nD n) ρ) (hn : n ≤ l.length) : hasSl i (mSlV i (mPure none) (mPart m)) ρ = .ok (.lst (l.take n)) ρ := by
  have hp : mPeek i ρ = .ok (.lst l) ρ := by unfold mPeek; rw [h]
  unfold hasSl
  rw [h]
  show mSlV i (mPure none) (mPart m) ρ = _
  refine bind_ok (a := none) rfl (bind_ok (a := some (n : Int)) (ρ1 := ρ) (bind_ok hm rfl) (bind_ok hp ?_))
  show mOpt (some (Dt.lst (cutD l none (some (n : Int))))) _ = _
  rw [cut_to _ _ hn]; rfl
theorem s52_drop (h : ρ[i]? = some (vl (.lst l))) (hm : m ρ = .ok (nD n) ρ) (hn : n ≤ l.length) : hasSl i (mSlV i (mPart m) (mPure none)) ρ = .ok (.lst (l.drop n)) ρ := by
  have hp : mPeek i ρ = .ok (.lst l) ρ := by unfold mPeek; rw [h]
  unfold hasSl
  rw [h]
  show mSlV i (mPart m) (mPure none) ρ = _
  refine bind_ok (a := some (n : Int)) (ρ1 := ρ) (bind_ok hm rfl) (bind_ok (a := none) rfl (bind_ok hp ?_))
  show mOpt (some (Dt.lst (cutD l (some (n : Int)) none))) _ = _
  rw [cut_from _ _ hn]; rfl
theorem s52_add (ha : ma ρ = .ok (.lst xs) ρ) (hb : mb ρ = .ok (.lst ys) ρ) (hl : xs.length + ys.length ≤ 1000) : m2 fAdd ma mb ρ = .ok (.lst (xs ++ ys)) ρ :=
  m2_ok ha hb (by
    show (if xs.length + ys.length ≤ sizeLine then some (Dt.lst (xs ++ ys)) else none) = _
    rw [if_pos (sl_le (by omega))])
theorem callT_ok {n : Nat} {f : List Dt → Fo} {q : Str} {ms : Mi (List Dt)} {ds : List Dt} {r o : Dt} (h : ms ρ = .ok ds ρ1) (hi : ρ1[i]? = some (some (.own true (.tbl q)))) (hl : ds.length = n) (hf : f ds = .ret r o) (hr : ρ1.set i (some (.own true o)) = ρ2) : mCallT n f i q ms ρ = .ok r ρ2 := by
  unfold mCallT mBind
  rw [h]; dsimp only; rw [hi]; dsimp only; rw [if_pos rfl, if_pos hl, hf]; dsimp only; rw [hr]
theorem rep52 {ma mb : Mi Dt} {x : Dt} (ha : ma ρ = .ok (.lst [x]) ρ) (hb : mb ρ = .ok (.int 4) ρ) : mRep ma mb ρ = .ok (.lst [x, x, x, x]) ρ := rep_ok (n := 4) ha hb (by decide)
end
theorem pick52 (q : Int × Int) (xs : List Dt) (h0 : 0 < xs.length) (h1 : xs.length < 1000000) : ∃ x q', x ∈ xs ∧ m_law_pick_v2 [cxD q, .lst xs] = .ret x (cxD q') := by
  obtain ⟨d, q', h2, h4⟩ := takeC_nat q xs.length h0 (by omega)
  refine ⟨xs[d], q', List.getElem_mem h2, ?_⟩
  refine runF_rt (ρ := [io (cxD q'), vl (.lst xs)]) (ret_ok ?_) rfl
  show hasSl 1 (mIxV 1 (mCallIo 2 m_law_take_v2 0 (mCons (m1 fLen (mPeek 1)) (mPure [])))) [io (cxD q), vl (.lst xs)] = _
  show mIxV 1 (mCallIo 2 m_law_take_v2 0 (mCons (m1 fLen (mPeek 1)) (mPure []))) [io (cxD q), vl (.lst xs)] = _
  refine bind_ok (callIo_ok (d0 := cxD q) (io0 := true) (io := true) (d1 := cxD q) rfl (cons_ok (m1_ok rfl rfl) rfl) rfl rfl h4 rfl) ?_
  refine bind_ok (a := .lst xs) (ρ1 := [io (cxD q'), vl (.lst xs)]) rfl ?_
  show mOpt (fIx (.lst xs) (.int (d : Int))) _ = _
  rw [show fIx (.lst xs) (.int (d : Int)) = atI xs (d : Int) from rfl, atI_nat, List.getElem?_eq_getElem h2]
  rfl
/-! ### the odd values -/
def deep : Nat → Dt
  | 0 => .int 0
  | n + 1 => .lst [deep n]
def vals0 : List Dt := [.non, .int 0, .bl true, .str "", .str "012", .lst [], .tup [], .int 100000000000000000000, deep 8]
def odds : List Dt := [.non, .bl true, .bl false, .str "0", .str "", .tup [.int 0], .lst [.int 0], .int (-1), .int (-3), .int 100000000000000000000, .lst [], deep 7]
theorem vals0_nd (P : Nat) : ∀ v ∈ vals0, m_need_days_k52 [v, nD P] = .exc ⟨24, [.int 0]⟩ .non := by
  intro v hv
  simp only [vals0, List.mem_cons, List.not_mem_nil, or_false] at hv
  rcases hv with rfl | rfl | rfl | rfl | rfl | rfl | rfl | rfl | rfl <;> kernel_rfl
theorem odds_bad {P : Nat} (hP : P ≤ 30) (ks : List Nat) : ∀ v ∈ odds, BadD v ks P := by
  intro v hv
  simp only [odds, List.mem_cons, List.not_mem_nil, or_false] at hv
  rcases hv with rfl | rfl | rfl | rfl | rfl | rfl | rfl | rfl | rfl | rfl | rfl | rfl
  · exact .inl (by kernel_rfl)
  · exact .inl (by kernel_rfl)
  · exact .inl (by kernel_rfl)
  · exact .inl (by kernel_rfl)
  · exact .inl (by kernel_rfl)
  · exact .inl (by kernel_rfl)
  · exact .inl (by kernel_rfl)
  · exact .inr (.inl ⟨_, rfl, .inl (by decide)⟩)
  · exact .inr (.inl ⟨_, rfl, .inl (by decide)⟩)
  · exact .inr (.inl ⟨_, rfl, .inr (by omega)⟩)
  · exact .inl (by kernel_rfl)
  · exact .inl (by kernel_rfl)
/-! ### a good row -/
structure Gud (L : List Nat) (P : Nat) : Prop where
  n0 : 0 < L.length
  len : L.length ≤ 8
  nd : L.Nodup
  lt : ∀ x ∈ L, x < P
  hP : P ≤ 30
section
variable {L : List Nat} {P : Nat} (G : Gud L P)
include G
theorem Gud.ring : Ring (sortN L) P := ring_of G.n0 G.nd G.lt
theorem Gud.need : m_need_days_k52 [.lst (L.map nD), nD P] = .ret (.tup ((sortN L).map nD)) .non := rf_need_days_k52_of_need_days.ret (need_days_ok false L P G.n0 (by have := G.len; omega) G.nd G.lt)
theorem Gud.long : ∃ d, m_longest_steps [.tup ((sortN L).map nD), nD P] = .ret d .non := ⟨_, longest_ok G.ring (by rw [(sortN_perm L).length_eq]; have := G.len; omega)⟩
theorem Gud.all_bad {v d : Dt} (h : m_need_days_k52 [v, nD P] = .exc ⟨24, [d]⟩ .non) : m_law_all_heard [v, nD P, .lst (L.map nD)] = .ret (.lst [d, d, d, d]) (.tbl q_law_all_heard) := by
  obtain ⟨dl, hl⟩ := G.long
  exact all_heard_ok (.inr ⟨_, rg_exc h⟩) (.inr ⟨_, ib_exc h⟩) (.inr ⟨_, nl_exc h⟩) (.inr ⟨_, nl_exc2 G.need hl h⟩)
theorem Gud.all_let : m_law_all_heard [.lst (L.map nD), nD P, .lst (L.map nD)] = .ret (.lst [.str "let", .str "let", .str "let", .str "let"]) (.tbl q_law_all_heard) := by
  have hl : L.length < 1000 := by have := G.len; omega
  have hP : P < 1000000000000000000 := by have := G.hP; omega
  have n1 := rf_no_longer_k52_of_no_longer.ret (no_longer_ok false false G.ring G.ring G.nd G.nd hl hl hP)
  exact all_heard_ok (.inl ⟨_, _, rf_ring_gap_k52_of_ring_gap.ret (ring_gap_ok false L G.ring G.nd hl hP 1), rfl⟩) (.inl ⟨_, _, rf_is_best_k52_of_is_best.ret (is_best_ok false G.ring G.nd hl hP), rfl⟩) (.inl ⟨_, _, n1, rfl⟩) (.inl ⟨_, _, n1, rfl⟩)
end
/-! ### the turns -/
def tb1 : Option Sl := some (.own true (.tbl q_law))
def tb2 : Option Sl := some (.own true (.tbl q_law_all_heard))
def bc52 : Option (Int × Int) → Option Sl
  | none => none
  | some q => ow (cxD q)
def e52 (ns : List Int) (k : Option Dt) (q : Option (Int × Int)) (s4 s5 s6 s7 s8 s9 s10 : Option Dt) : En := [vl (.scr ns), vl (.lst odds), lv k, bc52 q, lv s4, lv s5, lv s6, lv s7, lv s8, lv s9, lv s10, tb1, tb2]
theorem take52 {i : Nat} {ρ ρ' : En} {q q' : Int × Int} {m : Mi Dt} {b d : Nat} (h2 : ρ[i]? = some (ow (cxD q))) (hm : m ρ = .ok (nD b) ρ) (t : m_law_take_v2 [cxD q, nD b] = .ret (nD d) (cxD q')) (hr : ρ.set i (ow (cxD q')) = ρ') : mCallIo 2 m_law_take_v2 i (mCons m (mPure [])) ρ = .ok (nD d) ρ' :=
  callIo_ok (d0 := cxD q) (io0 := false) (io := false) (d1 := cxD q) h2 (cons_ok hm rfl) h2 rfl t hr
theorem val52 (ns : List Int) {L : List Nat} {P : Nat} (G : Gud L P) (k : Option Dt) (q : Option (Int × Int)) (s7 s8 s9 s10 : Option Dt) {v : Dt} (hv : v ∈ vals0) : lp_law_0 (e52 ns k q (some (nD P)) (some (.lst (L.map nD))) (some v) s7 s8 s9 s10) = .nx (e52 ns k q (some (nD P)) (some (.lst (L.map nD))) (some v) s7 s8 s9 s10) := by
  unfold lp_law_0
  exact if_f (tb_ok (m2_ok (callT_ok (ds := [v, nD P, .lst (L.map nD)]) rfl rfl rfl (G.all_bad (vals0_nd P v hv)) rfl) (rep52 (x := .int 0) rfl rfl) (by kernel_rfl))) rfl
theorem turn52 (ns : List Int) {L : List Nat} {P : Nat} (G : Gud L P) (k : Option Dt) (q : Int × Int) (s6 s7 s8 s9 s10 : Option Dt) : Run lp_law_1 (e52 ns k (some q) (some (nD P)) (some (.lst (L.map nD))) s6 s7 s8 s9 s10) (fun ρ => ∃ q s6 s8 s9 s10, ρ = e52 ns k (some q) (some (nD P)) (some (.lst (L.map nD))) s6 s7 s8 s9 s10) := by
  have hlen := G.len
  have hP := G.hP
  obtain ⟨a, q1, ha, t1⟩ := takeC_nat q (L.length + 1) (by omega) (by omega)
  have ha' : a ≤ L.length := by omega
  let gd : Dt := .lst (L.map nD)
  let E (q : Int × Int) (s8 s9 s10 : Option Dt) : En := e52 ns k (some q) (some (nD P)) (some gd) s6 s7 s8 s9 s10
  let some_ : List Dt := (odds ++ [nD P, nD (P + 5)]) ++ (L.map nD).take a
  have hsl : some_.length ≤ 30 := by
    show ((odds ++ [nD P, nD (P + 5)]) ++ (L.map nD).take a).length ≤ 30
    rw [List.length_append, List.length_append, List.length_take, List.length_map]
    show 12 + 2 + min a L.length ≤ 30
    omega
  have hs0 : 0 < some_.length := by
    show 0 < ((odds ++ [nD P, nD (P + 5)]) ++ (L.map nD).take a).length
    rw [List.length_append, List.length_append]
    show 0 < 12 + 2 + _
    omega
  obtain ⟨bad, q2, hbad, t2⟩ := pick52 q1 some_ hs0 (by omega)
  let pre := L.take a
  have hpl : pre.length = a := by show (L.take a).length = a; rw [List.length_take]; omega
  have hpm : ∀ x ∈ pre, x ∈ L := fun x hx => List.mem_of_mem_take hx
  have hBad : BadD bad pre P := by
    rcases List.mem_append.mp hbad with h | h
    · rcases List.mem_append.mp h with h | h
      · exact odds_bad hP pre bad h
      · rcases List.mem_cons.mp h with h | h
        · exact .inr (.inl ⟨_, h, .inr (by omega)⟩)
        · exact .inr (.inl ⟨_, List.mem_singleton.mp h, .inr (by omega)⟩)
    · rw [← List.map_take] at h
      obtain ⟨x, hx, e⟩ := List.mem_map.mp h
      exact .inr (.inr ⟨x, hx, e.symm⟩)
  let post : List Dt := (L.drop a).map nD ++ [.str "late"]
  let bent : List Dt := pre.map nD ++ bad :: post
  have hnd : ∀ b, m_need_days_k52 [sqD b bent, nD P] = .exc ⟨24, [nD a]⟩ .non := fun b => by
    have := need_bad b (pre := pre) (bad := bad) (post := post) (P := P) (G.nd.sublist (List.take_sublist _ _)) (fun x hx => G.lt x (hpm x hx)) (by omega) hBad
    rw [hpl] at this
    exact this
  have a8 : sSet 8 (mCallIo 2 m_law_take_v2 3 (mCons (m2 fAdd (m1 fLen (mPeek 5)) (mPure (.int 1))) (mPure []))) (E q s8 s9 s10) = .nx (E q1 (some (nD a)) s9 s10) :=
    set_ok (ρ1 := E q1 s8 s9 s10) (take52 (b := L.length + 1) rfl (m2_ok (x := nD L.length) (y := nD 1) (ρ1 := E q s8 s9 s10) (m1_ok (x := gd) rfl (len_lst nD L)) rfl (fAdd_nat _ _)) t1 rfl) (sl_lv (s := s8) rfl)
  have tk : ∀ q s9 s10, hasSl 5 (mSlV 5 (mPure none) (mPart (mVar 8))) (E q (some (nD a)) s9 s10) = .ok (.lst ((L.map nD).take a)) (E q (some (nD a)) s9 s10) := fun q s9 s10 => s52_take (l := L.map nD) (n := a) rfl rfl (by rw [List.length_map]; exact ha')
  have dr : ∀ q s9 s10, hasSl 5 (mSlV 5 (mPart (mVar 8)) (mPure none)) (E q (some (nD a)) s9 s10) = .ok (.lst ((L.map nD).drop a)) (E q (some (nD a)) s9 s10) := fun q s9 s10 => s52_drop (l := L.map nD) (n := a) rfl rfl (by rw [List.length_map]; exact ha')
  have ltk : ((L.map nD).take a).length ≤ 8 := by rw [List.length_take, List.length_map]; omega
  have ldr : ((L.map nD).drop a).length ≤ 8 := by rw [List.length_drop, List.length_map]; omega
  have a9 : sSet 9 (mCallIo 2 m_law_pick_v2 3 (mCons (m2 fAdd (m2 fAdd (mVar 1) (mLst (mCons (mVar 4) (mCons (m2 fAdd (mVar 4) (mPure (.int 5))) (mPure []))))) (hasSl 5 (mSlV 5 (mPure none) (mPart (mVar 8))))) (mPure []))) (E q1 (some (nD a)) s9 s10) = .nx (E q2 (some (nD a)) (some bad) s10) := by
    refine set_ok (d := bad) (ρ1 := E q2 (some (nD a)) s9 s10) (callIo_ok (d0 := cxD q1) (io0 := false) (io := false) (d1 := cxD q1) (ds := [.lst some_]) rfl (cons_ok (ρ1 := E q1 (some (nD a)) s9 s10) (s52_add (s52_add (xs := odds) (ys := [nD P, nD (P + 5)]) rfl (lst_ok (cons_ok (ρ1 := E q1 (some (nD a)) s9 s10) rfl (cons_ok (ρ1 := E q1 (some (nD a)) s9 s10) (m2_ok (x := nD P) (y := nD 5) (ρ1 := E q1 (some (nD a)) s9 s10) rfl rfl (fAdd_nat _ _)) rfl)) (sl_le (by simp))) (by show 12 + 2 ≤ 1000; omega)) (tk q1 s9 s10) (by
      rw [List.length_append]
      show 12 + 2 + _ ≤ 1000
      omega)) rfl) rfl rfl t2 rfl) (sl_lv (s := s9) rfl)
  have a10 : sSet 10 (m2 fAdd (m2 fAdd (m2 fAdd (hasSl 5 (mSlV 5 (mPure none) (mPart (mVar 8)))) (mLst (mCons (mVar 9) (mPure [])))) (hasSl 5 (mSlV 5 (mPart (mVar 8)) (mPure none)))) (mLst (mCons (mPure (.str "late")) (mPure [])))) (E q2 (some (nD a)) (some bad) s10) = .nx (E q2 (some (nD a)) (some bad) (some (.lst bent))) := by
    have e : (((L.map nD).take a ++ [bad]) ++ (L.map nD).drop a) ++ [Dt.str "late"] = bent := by
      show _ = (L.take a).map nD ++ bad :: ((L.drop a).map nD ++ [.str "late"])
      rw [List.map_take, List.map_drop]
      simp
    refine set_ok (d := .lst bent) (ρ1 := E q2 (some (nD a)) (some bad) s10) ?_ (sl_lv (s := s10) rfl)
    rw [← e]
    refine s52_add (s52_add (s52_add (tk q2 _ _) (lst_ok (ds := [bad]) rfl (sl_le (by simp))) (by simp; omega)) (dr q2 _ _) (by simp; omega)) (lst_ok (ds := [.str "late"]) rfl (sl_le (by simp))) (by simp; omega)
  let F : En := E q2 (some (nD a)) (some bad) (some (.lst bent))
  have neq : ∀ n : Nat, fNe (.lst [nD n, nD n, nD n, nD n]) (.lst [nD n, nD n, nD n, nD n]) = some (.bl false) := fun n => by
    have := fne_self (k := 5) (d := .lst (([n, n, n, n] : List Nat).map nD)) (.lst (flt_nats _)) (by decide)
    exact this
  have c1 : mB (m2 fNe (mCallT 3 m_law_all_heard 12 q_law_all_heard (mCons (mVar 10) (mCons (mVar 4) (mCons (mVar 5) (mPure []))))) (mRep (mLst (mCons (mVar 8) (mPure []))) (mPure (.int 4)))) F = .ok false F :=
    tb_ok (m2_ok (ρ1 := F) (callT_ok (ds := [.lst bent, nD P, gd]) (ρ1 := F) rfl rfl rfl (G.all_bad (hnd false)) rfl) (rep52 (x := nD a) rfl rfl) (neq a))
  have c2 : mB (m2 fNe (mCallT 3 m_law_all_heard 12 q_law_all_heard (mCons (m1 fTuple (mPeek 10)) (mCons (mVar 4) (mCons (mVar 5) (mPure []))))) (mRep (mLst (mCons (mVar 8) (mPure []))) (mPure (.int 4)))) F = .ok false F :=
    tb_ok (m2_ok (ρ1 := F) (callT_ok (ds := [.tup bent, nD P, gd]) (ρ1 := F) rfl rfl rfl (G.all_bad (hnd true)) rfl) (rep52 (x := nD a) rfl rfl) (neq a))
  have c3 : mB (m2 fNe (mLam 11 q_law [4, 10] (mCall 3 m_no_longer_k52 (mCons (mVar 10) (mCons (mLst (mPure [])) (mCons (mVar 4) (mPure []))))) m_law_heard) (mPeek 8)) F = .ok false F :=
    tb_ok (m2_ok (x := nD a) (y := nD a) (ρ1 := F) (lam_run (ds := [nD P, .lst bent]) (r := .non) rfl rfl (heard_ans (ds := [.lst bent, .lst [], nD P]) rfl rfl (.inr ⟨_, nl_exc (hnd false)⟩))) rfl (fne_self (k := 5) (.int _) (by decide)))
  have c4 : mB (m2 fNe (mCallT 3 m_law_all_heard 12 q_law_all_heard (mCons (mVar 5) (mCons (mVar 4) (mCons (mVar 5) (mPure []))))) (mRep (mLst (mCons (mPure (.str "let")) (mPure []))) (mPure (.int 4)))) F = .ok false F :=
    tb_ok (m2_ok (ρ1 := F) (callT_ok (ds := [gd, nD P, gd]) (ρ1 := F) rfl rfl rfl G.all_let rfl) (rep52 (x := .str "let") rfl rfl) (by kernel_rfl))
  unfold lp_law_1
  exact run_seq a8 (run_seq a9 (run_seq a10 (run_if (or_f c1 c2) (run_if c3 (run_eif c4 ⟨q2, s6, _, _, _, rfl⟩)))))
theorem cell52 (ns : List Int) (k : Nat) (q : Option (Int × Int)) (s4 s5 s6 s7 s8 s9 s10 : Option Dt) : Run lp_law_2 (e52 ns (some (nD k)) q s4 s5 s6 s7 s8 s9 s10) (fun ρ => ∃ k q s4 s5 s6 s7 s8 s9 s10, ρ = e52 ns k q s4 s5 s6 s7 s8 s9 s10) := by
  obtain ⟨q0, e0⟩ := boxC_any ns k 52
  obtain ⟨d, q1, hd, t1⟩ := takeC_nat q0 30 (by decide) (by decide)
  let P := 1 + d
  obtain ⟨L, q2, h0, hl, nd, lt, t2⟩ := daysC_any q1 P 8 (by omega) (by omega) (by decide) (by decide)
  have G : Gud L P := ⟨h0, hl, nd, lt, by omega⟩
  let K : Option Dt := some (nD k)
  let gd : Dt := .lst (L.map nD)
  unfold lp_law_2
  refine run_seq (ρ1 := e52 ns K (some q0) s4 s5 s6 s7 s8 s9 s10) (setN_ok (d := cxD q0) (callP (ds := [.scr ns, nD k, .int 52]) e0 rfl rfl) (by cases q <;> rfl)) ?_
  refine run_seq (ρ1 := e52 ns K (some q1) (some (nD P)) s5 s6 s7 s8 s9 s10) (set_ok (d := nD P) (ρ1 := e52 ns K (some q1) s4 s5 s6 s7 s8 s9 s10) (m2_ok (x := nD 1) (y := nD d) (ρ1 := e52 ns K (some q0) s4 s5 s6 s7 s8 s9 s10) rfl (take52 (b := 30) rfl rfl t1 rfl) (fAdd_nat _ _)) (sl_lv (s := s4) rfl)) ?_
  refine run_seq (ρ1 := e52 ns K (some q2) (some (nD P)) (some gd) s6 s7 s8 s9 s10) (set_ok (d := gd) (ρ1 := e52 ns K (some q2) (some (nD P)) s5 s6 s7 s8 s9 s10) (callIo_ok (d0 := cxD q1) (io0 := false) (io := false) (d1 := cxD q1) (ds := [nD P, nD 8]) rfl rfl rfl rfl t2 rfl) (sl_lv (s := s5) rfl)) ?_
  obtain ⟨ρ3, g3, s6', rfl⟩ := forGo_all (g := gV 6) (bd := lp_law_0) id (fun ρ => ∃ s6, ρ = e52 ns K (some q2) (some (nD P)) (some gd) s6 s7 s8 s9 s10) vals0 (e52 ns K (some q2) (some (nD P)) (some gd) s6 s7 s8 s9 s10) ⟨s6, rfl⟩ (by
    rintro v hv ρ ⟨s6, rfl⟩
    exact ⟨_, sl_lv (i := 6) (s := s6) rfl, _, .inl (val52 ns G K (some q2) s7 s8 s9 s10 hv), some v, rfl⟩)
  rw [List.map_id] at g3
  refine run_seq (for_ok (ds := vals0) (ρ1 := e52 ns K (some q2) (some (nD P)) (some gd) s6 s7 s8 s9 s10) (by kernel_rfl) g3) ?_
  obtain ⟨ρ4, g4, q4, t6, t7, t8, t9, t10, rfl⟩ := forGo_all (g := gV 7) (bd := lp_law_1) nD (fun ρ => ∃ q s6 s7 s8 s9 s10, ρ = e52 ns K (some q) (some (nD P)) (some gd) s6 s7 s8 s9 s10) (List.range 8) (e52 ns K (some q2) (some (nD P)) (some gd) s6' s7 s8 s9 s10) ⟨q2, s6', s7, s8, s9, s10, rfl⟩ (by
    rintro t ht ρ ⟨q, s6, s7, s8, s9, s10, rfl⟩
    obtain ⟨ρ2, z, q', r6, r8, r9, r10, rfl⟩ := turn52 ns G K q s6 (some (nD t)) s8 s9 s10
    exact ⟨_, sl_lv (i := 7) (s := s7) rfl, _, z, q', r6, some (nD t), r8, r9, r10, rfl⟩)
  exact run_end (for_ok (rngN_ok (N := 8) rfl (by decide)) g4) ⟨K, some q4, some (nD P), some gd, t6, t7, t8, t9, t10, rfl⟩
theorem runFT2_rt {k k1 k2 : Nat} {q1 q2 : Str} {body : En → So} {ds : List Dt} {d : Dt} {ρ ρ0 : En} (h0 : ((argE false ds ++ List.replicate (k - ds.length) none).set k1 (some (.own true (.tbl q1)))).set k2 (some (.own true (.tbl q2))) = ρ0) (h : body ρ0 = .rt d ρ) : runFT2 k k1 k2 q1 q2 body ds = .ret d .non := by
  unfold runFT2; rw [h0, h]
theorem law_true (ns : List Int) (hn : ns.length ≤ 63) : m_law [.scr ns] = .ret (.bl true) .non := by
  let E0 : En := [vl (.scr ns), none, none, none, none, none, none, none, none, none, none, tb1, tb2]
  have a0 : st_law_0 E0 = .nx (e52 ns none none none none none none none none none) := by kernel_rfl
  obtain ⟨ρ', h1, k, q, s4, s5, s6, s7, s8, s9, s10, rfl⟩ := forGo_all (g := gV 2) (bd := lp_law_2) nD (fun ρ => ∃ k q s4 s5 s6 s7 s8 s9 s10, ρ = e52 ns k q s4 s5 s6 s7 s8 s9 s10) (List.range (cellN ns)) (e52 ns none none none none none none none none none) ⟨none, none, none, none, none, none, none, none, none, rfl⟩ (by
    rintro k _ ρ ⟨k0, q, s4, s5, s6, s7, s8, s9, s10, rfl⟩
    exact ⟨_, sl_lv (i := 2) (s := k0) rfl, cell52 ns k q s4 s5 s6 s7 s8 s9 s10⟩)
  have a1 : st_law_1 (e52 ns none none none none none none none none none) = .nx (e52 ns k q s4 s5 s6 s7 s8 s9 s10) := by
    unfold st_law_1
    exact for_ok (cells_ok rfl) h1
  have hb : b_law E0 = .rt (.bl true) (e52 ns k q s4 s5 s6 s7 s8 s9 s10) := by
    unfold b_law
    exact seq_nx a0 (seq_nx a1 rfl)
  unfold m_law
  exact runFT2_rt (ρ0 := E0) rfl hb
end Dl
namespace Dl
open PySem PySem.Spec PyProof.Rows L2
/-! ### what the top has written -/
theorem all_mk {P : Program} {w : World} {K : PySem.W.Frag} {h : Heap} {mg : Str → Option Value} {fa : Addr} (X : K.In h) (G : h.Ns mainGlobals mg) (hfa : mg "law" = some (.ref fa))
    {E_TurnError : Addr}
    {E_InvalidMisses : Addr}
    {E_InvalidDays : Addr}
    {R_TurnError : Addr}
    {eInvalidDays : Addr} {eodInvalidDays eanInvalidDays : Option Addr} {eslInvalidDays : Array (Option Value)} {eocInvalidDays ekVInvalidDays edcInvalidDays epmInvalidDays ecdInvalidDays ectInvalidDays : Value} {xnmInvalidDays : Str} {xqInvalidDays : Str} {xNInvalidDays : Addr} {xbsInvalidDays xbmInvalidDays : List Value} {xsnInvalidDays : _} {xsubInvalidDays : _} {xabInvalidDays xcolInvalidDays : _} {xddInvalidDays : _} {xk0InvalidDays xk1InvalidDays xk2InvalidDays xk3InvalidDays xk5InvalidDays : _}
    {f0 : Addr} {od0 an0 : Option Addr} {sl0 : Array (Option Value)} {oc0 kV0 dc0 pm0 cd0 ct0 : Value}
    {f1 : Addr} {od1 an1 : Option Addr} {sl1 : Array (Option Value)} {oc1 kV1 dc1 pm1 cd1 ct1 : Value}
    {f2 : Addr} {od2 an2 : Option Addr} {sl2 : Array (Option Value)} {oc2 kV2 dc2 pm2 cd2 ct2 : Value}
    {f3 : Addr} {od3 an3 : Option Addr} {sl3 : Array (Option Value)} {oc3 kV3 dc3 pm3 cd3 ct3 : Value}
    {f4 : Addr} {od4 an4 : Option Addr} {sl4 : Array (Option Value)} {oc4 kV4 dc4 pm4 cd4 ct4 : Value}
    {f5 : Addr} {od5 an5 : Option Addr} {sl5 : Array (Option Value)} {oc5 kV5 dc5 pm5 cd5 ct5 : Value}
    {f6 : Addr} {od6 an6 : Option Addr} {sl6 : Array (Option Value)} {oc6 kV6 dc6 pm6 cd6 ct6 : Value}
    {f7 : Addr} {od7 an7 : Option Addr} {sl7 : Array (Option Value)} {oc7 kV7 dc7 pm7 cd7 ct7 : Value}
    {f8 : Addr} {od8 an8 : Option Addr} {sl8 : Array (Option Value)} {oc8 kV8 dc8 pm8 cd8 ct8 : Value}
    {f9 : Addr} {od9 an9 : Option Addr} {sl9 : Array (Option Value)} {oc9 kV9 dc9 pm9 cd9 ct9 : Value}
    {f10 : Addr} {od10 an10 : Option Addr} {sl10 : Array (Option Value)} {oc10 kV10 dc10 pm10 cd10 ct10 : Value}
    {f11 : Addr} {od11 an11 : Option Addr} {sl11 : Array (Option Value)} {oc11 kV11 dc11 pm11 cd11 ct11 : Value}
    {f12 : Addr} {od12 an12 : Option Addr} {sl12 : Array (Option Value)} {oc12 kV12 dc12 pm12 cd12 ct12 : Value}
    {f13 : Addr} {od13 an13 : Option Addr} {sl13 : Array (Option Value)} {oc13 kV13 dc13 pm13 cd13 ct13 : Value}
    {f14 : Addr} {od14 an14 : Option Addr} {sl14 : Array (Option Value)} {oc14 kV14 dc14 pm14 cd14 ct14 : Value}
    {f15 : Addr} {od15 an15 : Option Addr} {sl15 : Array (Option Value)} {oc15 kV15 dc15 pm15 cd15 ct15 : Value}
    {f16 : Addr} {od16 an16 : Option Addr} {sl16 : Array (Option Value)} {oc16 kV16 dc16 pm16 cd16 ct16 : Value}
    {f17 : Addr} {od17 an17 : Option Addr} {sl17 : Array (Option Value)} {oc17 kV17 dc17 pm17 cd17 ct17 : Value}
    {ct Pt : Addr}
    {ctB PtB : Addr}
    (aE_TurnError : PySem.W.nsIn K mainGlobals "TurnError" = some (some (.ref E_TurnError)))
    (hdE_TurnError : PySem.W.hasDictIn K E_TurnError = true)
    (tyE_TurnError : PySem.W.typeIn K (.ref E_TurnError) = some (.type "type"))
    (sfE_TurnError : PySem.W.subIn K (.ref E_TurnError) (.ref E_TurnError) = some true)
    (aE_InvalidMisses : PySem.W.nsIn K mainGlobals "InvalidMisses" = some (some (.ref E_InvalidMisses)))
    (hdE_InvalidMisses : PySem.W.hasDictIn K E_InvalidMisses = true)
    (tyE_InvalidMisses : PySem.W.typeIn K (.ref E_InvalidMisses) = some (.type "type"))
    (sfE_InvalidMisses : PySem.W.subIn K (.ref E_InvalidMisses) (.ref E_InvalidMisses) = some true)
    (aE_InvalidDays : PySem.W.nsIn K mainGlobals "InvalidDays" = some (some (.ref E_InvalidDays)))
    (hdE_InvalidDays : PySem.W.hasDictIn K E_InvalidDays = true)
    (tyE_InvalidDays : PySem.W.typeIn K (.ref E_InvalidDays) = some (.type "type"))
    (sfE_InvalidDays : PySem.W.subIn K (.ref E_InvalidDays) (.ref E_InvalidDays) = some true)
    (su_InvalidDays_InvalidDays : PySem.W.subIn K (.ref E_InvalidDays) (.ref E_InvalidDays) = some true)
    (su_InvalidDays_InvalidMisses : PySem.W.subIn K (.ref E_InvalidDays) (.ref E_InvalidMisses) = some false)
    (su_InvalidDays_TurnError : PySem.W.subIn K (.ref E_InvalidDays) (.ref E_TurnError) = some true)
    (aR_TurnError : PySem.W.nsIn K mainGlobals "TurnError" = some (some (.ref R_TurnError)))
    (rdR_TurnError : PySem.W.readsIn K R_TurnError (.type "type") = true)
    (gaR_TurnError : PySem.W.specialIn K (.ref R_TurnError) "__getattribute__" = some (some (.builtin "type.__getattribute__")))
    (inR_TurnError : PySem.W.findCls K (.ref R_TurnError) (.type "type") "__init__" = some (.val (.builtin "ValueError.__init__")))
    (xa_InvalidDays : PySem.W.findIn K (.ref E_InvalidDays) "__init__" = some (some (.ref eInvalidDays)))
    (xi_InvalidDays : PySem.W.typeIn K (.ref eInvalidDays) = some (.type "function"))
    (xl_InvalidDays : K.lookup eInvalidDays = some ⟨eocInvalidDays, eodInvalidDays, .func (PySem.W.fnOf "__init__" "InvalidDays.__init__" (defArgs s_InvalidDays_init) (defBody s_InvalidDays_init) (defScope s_InvalidDays_init) .none ekVInvalidDays edcInvalidDays epmInvalidDays eanInvalidDays ecdInvalidDays ectInvalidDays), eslInvalidDays⟩)
    (xc_InvalidDays : PySem.W.codeIn K ecdInvalidDays "InvalidDays.__init__" = true)
    (xk_InvalidDays : PySem.W.keepIn K (.ref eInvalidDays) = true)
    (xo_InvalidDays : K.lookup E_InvalidDays = some (excClassObj xnmInvalidDays xqInvalidDays E_InvalidDays xNInvalidDays xbsInvalidDays xbmInvalidDays true xsnInvalidDays xsubInvalidDays xabInvalidDays xcolInvalidDays xddInvalidDays xk0InvalidDays xk1InvalidDays xk2InvalidDays xk3InvalidDays xk5InvalidDays "ValueError.__new__"))
    (xv_InvalidDays : PySem.HandSPX.refsVE xbmInvalidDays = true)
    (xs_InvalidDays : PySem.W.findIn K (.ref E_InvalidDays) "__setattr__" = some (some (.builtin "object.__setattr__")))
    (xb_InvalidDays : PySem.W.subIn K (.ref E_InvalidDays) (.type "BaseException") = some true)
    (xp_InvalidDays : PySem.W.keepIn K (.ref E_InvalidDays) = true)
    (xg_InvalidDays : PySem.W.findIn K (.ref E_InvalidDays) "__getattribute__" = some (some (.builtin "BaseException.__getattribute__")))
    (xh_InvalidDays : PySem.W.findIn K (.ref E_InvalidDays) "__getattr__" = some none)
    (xd_InvalidDays : PySem.W.findIn K (.ref E_InvalidDays) "__class__" = some (some (.builtin "object.__class__")))
    (xe_InvalidDays : PySem.W.specialIn K (.builtin "object.__class__") "__get__" = some (some (.builtin "getset_descriptor.__get__")))
    (xt_InvalidDays : PySem.W.takesIn K (.builtin "object.__class__") = some true)
    (xm_InvalidDays : PySem.W.mroIn K E_InvalidDays (.type "object") = some true)
    (xn_InvalidDays : PySem.W.findIn K (.ref E_InvalidDays) "at" = some none)
    (a0 : PySem.W.nsIn K mainGlobals "is_integer" = some (some (.ref f0)))
    (l0 : K.lookup f0 = some ⟨oc0, od0, .func (PySem.W.fnOf "is_integer" "is_integer" (defArgs s_is_integer) (defBody s_is_integer) (defScope s_is_integer) .none kV0 dc0 pm0 an0 cd0 ct0), sl0⟩)
    (c0 : PySem.W.codeIn K cd0 "is_integer" = true)
    (k0 : PySem.W.keepIn K (.ref f0) = true)
    (a1 : PySem.W.nsIn K mainGlobals "is_sequence" = some (some (.ref f1)))
    (l1 : K.lookup f1 = some ⟨oc1, od1, .func (PySem.W.fnOf "is_sequence" "is_sequence" (defArgs s_is_sequence) (defBody s_is_sequence) (defScope s_is_sequence) .none kV1 dc1 pm1 an1 cd1 ct1), sl1⟩)
    (c1 : PySem.W.codeIn K cd1 "is_sequence" = true)
    (k1 : PySem.W.keepIn K (.ref f1) = true)
    (a2 : PySem.W.nsIn K mainGlobals "longest_steps" = some (some (.ref f2)))
    (l2 : K.lookup f2 = some ⟨oc2, od2, .func (PySem.W.fnOf "longest_steps" "longest_steps" (defArgs s_longest_steps) (defBody s_longest_steps) (defScope s_longest_steps) .none kV2 dc2 pm2 an2 cd2 ct2), sl2⟩)
    (c2 : PySem.W.codeIn K cd2 "longest_steps" = true)
    (k2 : PySem.W.keepIn K (.ref f2) = true)
    (a3 : PySem.W.nsIn K mainGlobals "stair" = some (some (.ref f3)))
    (l3 : K.lookup f3 = some ⟨oc3, od3, .func (PySem.W.fnOf "stair" "stair" (defArgs s_stair) (defBody s_stair) (defScope s_stair) .none kV3 dc3 pm3 an3 cd3 ct3), sl3⟩)
    (c3 : PySem.W.codeIn K cd3 "stair" = true)
    (k3 : PySem.W.keepIn K (.ref f3) = true)
    (a4 : PySem.W.nsIn K mainGlobals "least_gap" = some (some (.ref f4)))
    (l4 : K.lookup f4 = some ⟨oc4, od4, .func (PySem.W.fnOf "least_gap" "least_gap" (defArgs s_least_gap) (defBody s_least_gap) (defScope s_least_gap) .none kV4 dc4 pm4 an4 cd4 ct4), sl4⟩)
    (c4 : PySem.W.codeIn K cd4 "least_gap" = true)
    (k4 : PySem.W.keepIn K (.ref f4) = true)
    (a5 : PySem.W.nsIn K mainGlobals "shared_length" = some (some (.ref f5)))
    (l5 : K.lookup f5 = some ⟨oc5, od5, .func (PySem.W.fnOf "shared_length" "shared_length" (defArgs s_shared_length) (defBody s_shared_length) (defScope s_shared_length) .none kV5 dc5 pm5 an5 cd5 ct5), sl5⟩)
    (c5 : PySem.W.codeIn K cd5 "shared_length" = true)
    (k5 : PySem.W.keepIn K (.ref f5) = true)
    (a6 : PySem.W.nsIn K mainGlobals "_law_box" = some (some (.ref f6)))
    (l6 : K.lookup f6 = some ⟨oc6, od6, .func (PySem.W.fnOf "_law_box" "_law_box" (defArgs s_law_box) (defBody s_law_box) (defScope s_law_box) .none kV6 dc6 pm6 an6 cd6 ct6), sl6⟩)
    (c6 : PySem.W.codeIn K cd6 "_law_box" = true)
    (k6 : PySem.W.keepIn K (.ref f6) = true)
    (a7 : PySem.W.nsIn K mainGlobals "_law_take" = some (some (.ref f7)))
    (l7 : K.lookup f7 = some ⟨oc7, od7, .func (PySem.W.fnOf "_law_take" "_law_take" (defArgs s_law_take) (defBody s_law_take) (defScope s_law_take) .none kV7 dc7 pm7 an7 cd7 ct7), sl7⟩)
    (c7 : PySem.W.codeIn K cd7 "_law_take" = true)
    (k7 : PySem.W.keepIn K (.ref f7) = true)
    (a8 : PySem.W.nsIn K mainGlobals "_law_heard" = some (some (.ref f8)))
    (l8 : K.lookup f8 = some ⟨oc8, od8, .func (PySem.W.fnOf "_law_heard" "_law_heard" (defArgs s_law_heard) (defBody s_law_heard) (defScope s_law_heard) .none kV8 dc8 pm8 an8 cd8 ct8), sl8⟩)
    (c8 : PySem.W.codeIn K cd8 "_law_heard" = true)
    (k8 : PySem.W.keepIn K (.ref f8) = true)
    (a9 : PySem.W.nsIn K mainGlobals "is_never_longer" = some (some (.ref f9)))
    (l9 : K.lookup f9 = some ⟨oc9, od9, .func (PySem.W.fnOf "is_never_longer" "is_never_longer" (defArgs s_is_never_longer) (defBody s_is_never_longer) (defScope s_is_never_longer) .none kV9 dc9 pm9 an9 cd9 ct9), sl9⟩)
    (c9 : PySem.W.codeIn K cd9 "is_never_longer" = true)
    (k9 : PySem.W.keepIn K (.ref f9) = true)
    (a10 : PySem.W.nsIn K mainGlobals "_law_pick" = some (some (.ref f10)))
    (l10 : K.lookup f10 = some ⟨oc10, od10, .func (PySem.W.fnOf "_law_pick" "_law_pick" (defArgs s_law_pick) (defBody s_law_pick) (defScope s_law_pick) .none kV10 dc10 pm10 an10 cd10 ct10), sl10⟩)
    (c10 : PySem.W.codeIn K cd10 "_law_pick" = true)
    (k10 : PySem.W.keepIn K (.ref f10) = true)
    (a11 : PySem.W.nsIn K mainGlobals "_law_days" = some (some (.ref f11)))
    (l11 : K.lookup f11 = some ⟨oc11, od11, .func (PySem.W.fnOf "_law_days" "_law_days" (defArgs s_law_days) (defBody s_law_days) (defScope s_law_days) .none kV11 dc11 pm11 an11 cd11 ct11), sl11⟩)
    (c11 : PySem.W.codeIn K cd11 "_law_days" = true)
    (k11 : PySem.W.keepIn K (.ref f11) = true)
    (a12 : PySem.W.nsIn K mainGlobals "need_days" = some (some (.ref f12)))
    (l12 : K.lookup f12 = some ⟨oc12, od12, .func (PySem.W.fnOf "need_days" "need_days" (defArgs s_need_days) (defBody s_need_days) (defScope s_need_days) .none kV12 dc12 pm12 an12 cd12 ct12), sl12⟩)
    (c12 : PySem.W.codeIn K cd12 "need_days" = true)
    (k12 : PySem.W.keepIn K (.ref f12) = true)
    (a13 : PySem.W.nsIn K mainGlobals "ring_gap" = some (some (.ref f13)))
    (l13 : K.lookup f13 = some ⟨oc13, od13, .func (PySem.W.fnOf "ring_gap" "ring_gap" (defArgs s_ring_gap) (defBody s_ring_gap) (defScope s_ring_gap) .none kV13 dc13 pm13 an13 cd13 ct13), sl13⟩)
    (c13 : PySem.W.codeIn K cd13 "ring_gap" = true)
    (k13 : PySem.W.keepIn K (.ref f13) = true)
    (a14 : PySem.W.nsIn K mainGlobals "is_best" = some (some (.ref f14)))
    (l14 : K.lookup f14 = some ⟨oc14, od14, .func (PySem.W.fnOf "is_best" "is_best" (defArgs s_is_best) (defBody s_is_best) (defScope s_is_best) .none kV14 dc14 pm14 an14 cd14 ct14), sl14⟩)
    (c14 : PySem.W.codeIn K cd14 "is_best" = true)
    (k14 : PySem.W.keepIn K (.ref f14) = true)
    (a15 : PySem.W.nsIn K mainGlobals "no_longer" = some (some (.ref f15)))
    (l15 : K.lookup f15 = some ⟨oc15, od15, .func (PySem.W.fnOf "no_longer" "no_longer" (defArgs s_no_longer) (defBody s_no_longer) (defScope s_no_longer) .none kV15 dc15 pm15 an15 cd15 ct15), sl15⟩)
    (c15 : PySem.W.codeIn K cd15 "no_longer" = true)
    (k15 : PySem.W.keepIn K (.ref f15) = true)
    (a16 : PySem.W.nsIn K mainGlobals "_law_all_heard" = some (some (.ref f16)))
    (l16 : K.lookup f16 = some ⟨oc16, od16, .func (PySem.W.fnOf "_law_all_heard" "_law_all_heard" (defArgs s_law_all_heard) (defBody s_law_all_heard) (defScope s_law_all_heard) .none kV16 dc16 pm16 an16 cd16 ct16), sl16⟩)
    (c16 : PySem.W.codeIn K cd16 "_law_all_heard" = true)
    (k16 : PySem.W.keepIn K (.ref f16) = true)
    (a17 : PySem.W.nsIn K mainGlobals "law" = some (some (.ref f17)))
    (l17 : K.lookup f17 = some ⟨oc17, od17, .func (PySem.W.fnOf "law" "law" (defArgs s_law) (defBody s_law) (defScope s_law) .none kV17 dc17 pm17 an17 cd17 ct17), sl17⟩)
    (c17 : PySem.W.codeIn K cd17 "law" = true)
    (k17 : PySem.W.keepIn K (.ref f17) = true)
    (z0 : PySem.W.nsIn K mainGlobals "abs" = some none)
    (z1 : PySem.W.nsIn K mainGlobals "all" = some none)
    (z2 : PySem.W.nsIn K mainGlobals "bool" = some none)
    (z3 : PySem.W.nsIn K mainGlobals "enumerate" = some none)
    (z4 : PySem.W.nsIn K mainGlobals "int" = some none)
    (z5 : PySem.W.nsIn K mainGlobals "isinstance" = some none)
    (z6 : PySem.W.nsIn K mainGlobals "len" = some none)
    (z7 : PySem.W.nsIn K mainGlobals "list" = some none)
    (z8 : PySem.W.nsIn K mainGlobals "max" = some none)
    (z9 : PySem.W.nsIn K mainGlobals "min" = some none)
    (z10 : PySem.W.nsIn K mainGlobals "range" = some none)
    (z11 : PySem.W.nsIn K mainGlobals "sorted" = some none)
    (z12 : PySem.W.nsIn K mainGlobals "tuple" = some none)
    (hct : cd17 = .ref ct)
    (hcp : PySem.W.codeHdIn K ct Pt = true)
    (hctB : cd16 = .ref ctB)
    (hcpB : PySem.W.codeHdIn K ctB PtB = true)
    (hPP : Pt ≠ PtB)
    : ∃ (fd : FuncData) (cl : Nat → Option (Addr × List Str)), (∀ (s : Shared) (v : Value), BindsTo s fd ⟨[v], []⟩ [("_law_script", v)]) ∧ ∀ base : Heap, K.In base → base.Ns mainGlobals mg → LamX.TabB base mg ct Pt → LamX.TabB base mg ctB PtB → FnOk P w K mg base (L2.CX P w) 8 fa fd ["_law_script"] (spT2 ⟨K, cl⟩ Pt PtB m_law) := by
  have e := hfa.symm.trans (PySem.W.mg_of X G a17)
  cases e
  have F0 := fun_mk (st := s_is_integer) l0 c0 k0
  have b0 := F0.binds (ps := ["value"]) fun _ _ _ _ _ _ us hl => match us, hl with | [_], _ => rfl
  have F1 := fun_mk (st := s_is_sequence) l1 c1 k1
  have b1 := F1.binds (ps := ["value"]) fun _ _ _ _ _ _ us hl => match us, hl with | [_], _ => rfl
  have F2 := fun_mk (st := s_longest_steps) l2 c2 k2
  have b2 := F2.binds (ps := ["order", "period"]) fun _ _ _ _ _ _ us hl => match us, hl with | [_, _], _ => rfl
  have F3 := fun_mk (st := s_stair) l3 c3 k3
  have b3 := F3.binds (ps := ["steps", "period", "misses"]) fun _ _ _ _ _ _ us hl => match us, hl with | [_, _, _], _ => rfl
  have F4 := fun_mk (st := s_least_gap) l4 c4 k4
  have b4 := F4.binds (ps := ["period", "turnings", "misses"]) fun _ _ _ _ _ _ us hl => match us, hl with | [_, _, _], _ => rfl
  have F5 := fun_mk (st := s_shared_length) l5 c5 k5
  have b5 := F5.binds (ps := ["one", "other"]) fun _ _ _ _ _ _ us hl => match us, hl with | [_, _], _ => rfl
  have F6 := fun_mk (st := s_law_box) l6 c6 k6
  have b6 := F6.binds (ps := ["_law_script", "_law_k", "_law_own"]) fun _ _ _ _ _ _ us hl => match us, hl with | [_, _, _], _ => rfl
  have F7 := fun_mk (st := s_law_take) l7 c7 k7
  have b7 := F7.binds (ps := ["_law_box_here", "_law_limit"]) fun _ _ _ _ _ _ us hl => match us, hl with | [_, _], _ => rfl
  have F8 := fun_mk (st := s_law_heard) l8 c8 k8
  have b8 := F8.binds (ps := ["_law_work"]) fun _ _ _ _ _ _ us hl => match us, hl with | [_], _ => rfl
  have F9 := fun_mk (st := s_is_never_longer) l9 c9 k9
  have b9 := F9.binds (ps := ["steps", "period", "others", "round_length"]) fun _ _ _ _ _ _ us hl => match us, hl with | [_, _, _, _], _ => rfl
  have F10 := fun_mk (st := s_law_pick) l10 c10 k10
  have b10 := F10.binds (ps := ["_law_box_here", "_law_some"]) fun _ _ _ _ _ _ us hl => match us, hl with | [_, _], _ => rfl
  have F11 := fun_mk (st := s_law_days) l11 c11 k11
  have b11 := F11.binds (ps := ["_law_box_here", "_law_period", "_law_most"]) fun _ _ _ _ _ _ us hl => match us, hl with | [_, _, _], _ => rfl
  have F12 := fun_mk (st := s_need_days) l12 c12 k12
  have b12 := F12.binds (ps := ["days", "period"]) fun _ _ _ _ _ _ us hl => match us, hl with | [_, _], _ => rfl
  have F13 := fun_mk (st := s_ring_gap) l13 c13 k13
  have b13 := F13.binds (ps := ["days", "period", "misses"]) fun _ _ _ _ _ _ us hl => match us, hl with | [_, _, _], _ => rfl
  have F14 := fun_mk (st := s_is_best) l14 c14 k14
  have b14 := F14.binds (ps := ["days", "period"]) fun _ _ _ _ _ _ us hl => match us, hl with | [_, _], _ => rfl
  have F15 := fun_mk (st := s_no_longer) l15 c15 k15
  have b15 := F15.binds (ps := ["days", "others", "period"]) fun _ _ _ _ _ _ us hl => match us, hl with | [_, _, _], _ => rfl
  have F16 := fun_mk (st := s_law_all_heard) l16 c16 k16
  have b16 := F16.binds (ps := ["_law_days_here", "_law_period", "_law_good"]) fun _ _ _ _ _ _ us hl => match us, hl with | [_, _, _], _ => rfl
  have F17 := fun_mk (st := s_law) l17 c17 k17
  have b17 := F17.binds (ps := ["_law_script"]) fun _ _ _ _ _ _ us hl => match us, hl with | [_], _ => rfl
  have FE_InvalidDays := fun_mk (st := s_InvalidDays_init) xl_InvalidDays xc_InvalidDays xk_InvalidDays
  have bE_InvalidDays := FE_InvalidDays.binds (ps := ["self", "at"]) fun _ _ _ _ _ _ us hl => match us, hl with | [_, _], _ => rfl
  let D : Dfs K mg := { f_is_integer := f0, fd_is_integer := _, F_is_integer := F0, b_is_integer := b0, g_is_integer := PySem.W.mg_of X G a0, f_is_sequence := f1, fd_is_sequence := _, F_is_sequence := F1, b_is_sequence := b1, g_is_sequence := PySem.W.mg_of X G a1, f_longest_steps := f2, fd_longest_steps := _, F_longest_steps := F2, b_longest_steps := b2, g_longest_steps := PySem.W.mg_of X G a2, f_stair := f3, fd_stair := _, F_stair := F3, b_stair := b3, g_stair := PySem.W.mg_of X G a3, f_least_gap := f4, fd_least_gap := _, F_least_gap := F4, b_least_gap := b4, g_least_gap := PySem.W.mg_of X G a4, f_shared_length := f5, fd_shared_length := _, F_shared_length := F5, b_shared_length := b5, g_shared_length := PySem.W.mg_of X G a5, f_law_box := f6, fd_law_box := _, F_law_box := F6, b_law_box := b6, g_law_box := PySem.W.mg_of X G a6, f_law_take := f7, fd_law_take := _, F_law_take := F7, b_law_take := b7, g_law_take := PySem.W.mg_of X G a7, f_law_heard := f8, fd_law_heard := _, F_law_heard := F8, b_law_heard := b8, g_law_heard := PySem.W.mg_of X G a8, f_is_never_longer := f9, fd_is_never_longer := _, F_is_never_longer := F9, b_is_never_longer := b9, g_is_never_longer := PySem.W.mg_of X G a9, f_law_pick := f10, fd_law_pick := _, F_law_pick := F10, b_law_pick := b10, g_law_pick := PySem.W.mg_of X G a10, f_law_days := f11, fd_law_days := _, F_law_days := F11, b_law_days := b11, g_law_days := PySem.W.mg_of X G a11, f_need_days := f12, fd_need_days := _, F_need_days := F12, b_need_days := b12, g_need_days := PySem.W.mg_of X G a12, f_ring_gap := f13, fd_ring_gap := _, F_ring_gap := F13, b_ring_gap := b13, g_ring_gap := PySem.W.mg_of X G a13, f_is_best := f14, fd_is_best := _, F_is_best := F14, b_is_best := b14, g_is_best := PySem.W.mg_of X G a14, f_no_longer := f15, fd_no_longer := _, F_no_longer := F15, b_no_longer := b15, g_no_longer := PySem.W.mg_of X G a15, f_law_all_heard := f16, fd_law_all_heard := _, F_law_all_heard := F16, b_law_all_heard := b16, g_law_all_heard := PySem.W.mg_of X G a16, f_law := fa, fd_law := _, F_law := F17, b_law := b17, g_law := PySem.W.mg_of X G a17, E_TurnError := E_TurnError, kl_TurnError := ⟨PySem.W.mg_of X G aE_TurnError, hdE_TurnError, tyE_TurnError, sfE_TurnError⟩, E_InvalidMisses := E_InvalidMisses, kl_InvalidMisses := ⟨PySem.W.mg_of X G aE_InvalidMisses, hdE_InvalidMisses, tyE_InvalidMisses, sfE_InvalidMisses⟩, E_InvalidDays := E_InvalidDays, kl_InvalidDays := ⟨PySem.W.mg_of X G aE_InvalidDays, hdE_InvalidDays, tyE_InvalidDays, sfE_InvalidDays⟩, su_InvalidDays_InvalidDays := su_InvalidDays_InvalidDays, su_InvalidDays_InvalidMisses := su_InvalidDays_InvalidMisses, su_InvalidDays_TurnError := su_InvalidDays_TurnError, R_TurnError := R_TurnError, rg_TurnError := PySem.W.mg_of X G aR_TurnError, rt_TurnError := ⟨rdR_TurnError, gaR_TurnError, inR_TurnError⟩, f_InvalidDays_init := eInvalidDays, fd_InvalidDays_init := _, F_InvalidDays_init := FE_InvalidDays, b_InvalidDays_init := bE_InvalidDays, er_InvalidDays := ⟨⟨⟨_, _, _, _, _, _, _, _, _, _, _, _, _, _, _, xo_InvalidDays, xv_InvalidDays⟩, xs_InvalidDays, xb_InvalidDays, tyE_InvalidDays, xp_InvalidDays⟩, ⟨xg_InvalidDays, xh_InvalidDays, xb_InvalidDays, hdE_InvalidDays, xd_InvalidDays, xe_InvalidDays, xt_InvalidDays, xm_InvalidDays⟩, ⟨xg_InvalidDays, xh_InvalidDays, xb_InvalidDays, hdE_InvalidDays⟩, xa_InvalidDays, xi_InvalidDays, PySem.W.mg_of X G aE_InvalidDays⟩, na_InvalidDays := xn_InvalidDays, z_abs := PySem.W.mg_none_of X G z0, z_all := PySem.W.mg_none_of X G z1, z_bool := PySem.W.mg_none_of X G z2, z_enumerate := PySem.W.mg_none_of X G z3, z_int := PySem.W.mg_none_of X G z4, z_isinstance := PySem.W.mg_none_of X G z5, z_len := PySem.W.mg_none_of X G z6, z_list := PySem.W.mg_none_of X G z7, z_max := PySem.W.mg_none_of X G z8, z_min := PySem.W.mg_none_of X G z9, z_range := PySem.W.mg_none_of X G z10, z_sorted := PySem.W.mg_none_of X G z11, z_tuple := PySem.W.mg_none_of X G z12 }
  exact ⟨D.fd_law, D.cl, fun s v => .of_eq rfl, fun base _ _ TB TB2 => ok_law D ct Pt TB hct ctB PtB TB2 hctB hPP⟩
end Dl
open PySem PySem.W PyProof.Rows
theorem Dl.cx_none {P : Program} {w : World} {H : L2.Hp} {s : Shared} {e : Value} {s' : Shared} (h : L2.CX P w [] H s (fun _ _ _ => False) e s') : False := by
  obtain ⟨_, _, _, _, _, _, _, _, _, _, _, _, z⟩ := h
  exact z
set_option maxHeartbeats 0 in
theorem PySem.Challenge.cw_turnrota_k52_days_refused_holds : PySem.Challenge.rw_turnrota_k52_days_refused.Holds := by
  w_on; o_law; k_head; (case hw => w_witness2)
  k_fill
  refine LamX.walk_ofTs (l := PySem.Challenge.rw_turnrota_k52_days_refused) (n := 63) (k := 8) (x := "_law_script") (CX := fun w => L2.CX PySem.Challenge.rw_turnrota_k52_days_refused.prog w) rfl (by decide) rfl ⟨rfl, by decide, by decide⟩ (fun w h Y => PySem.W.km_in_of Y) ?F (fun _ _ _ _ _ h => Dl.cx_none h)
  case F =>
    intro w mg fa h Y KX G hmg
    have hT := PySem.W.km_tabs_of Y
    refine' Exists.elim (Dl.all_mk KX G hmg ?aE_TurnError ?hdE_TurnError ?tyE_TurnError ?sfE_TurnError ?aE_InvalidMisses ?hdE_InvalidMisses ?tyE_InvalidMisses ?sfE_InvalidMisses ?aE_InvalidDays ?hdE_InvalidDays ?tyE_InvalidDays ?sfE_InvalidDays ?su_InvalidDays_InvalidDays ?su_InvalidDays_InvalidMisses ?su_InvalidDays_TurnError ?aR_TurnError ?rdR_TurnError ?gaR_TurnError ?inR_TurnError ?xa_InvalidDays ?xi_InvalidDays ?xl_InvalidDays ?xc_InvalidDays ?xk_InvalidDays ?xo_InvalidDays ?xv_InvalidDays ?xs_InvalidDays ?xb_InvalidDays ?xp_InvalidDays ?xg_InvalidDays ?xh_InvalidDays ?xd_InvalidDays ?xe_InvalidDays ?xt_InvalidDays ?xm_InvalidDays ?xn_InvalidDays ?a0 ?l0 ?c0 ?k0 ?a1 ?l1 ?c1 ?k1 ?a2 ?l2 ?c2 ?k2 ?a3 ?l3 ?c3 ?k3 ?a4 ?l4 ?c4 ?k4 ?a5 ?l5 ?c5 ?k5 ?a6 ?l6 ?c6 ?k6 ?a7 ?l7 ?c7 ?k7 ?a8 ?l8 ?c8 ?k8 ?a9 ?l9 ?c9 ?k9 ?a10 ?l10 ?c10 ?k10 ?a11 ?l11 ?c11 ?k11 ?a12 ?l12 ?c12 ?k12 ?a13 ?l13 ?c13 ?k13 ?a14 ?l14 ?c14 ?k14 ?a15 ?l15 ?c15 ?k15 ?a16 ?l16 ?c16 ?k16 ?a17 ?l17 ?c17 ?k17 ?z0 ?z1 ?z2 ?z3 ?z4 ?z5 ?z6 ?z7 ?z8 ?z9 ?z10 ?z11 ?z12 ?hct ?hcp ?hctB ?hcpB ?hPP) ?fin
    (case aE_TurnError => k_is); (case aE_InvalidMisses => k_is); (case aE_InvalidDays => k_is); (case hdE_TurnError => k_is); (case tyE_TurnError => k_is); (case sfE_TurnError => k_is); (case hdE_InvalidMisses => k_is); (case tyE_InvalidMisses => k_is); (case sfE_InvalidMisses => k_is); (case hdE_InvalidDays => k_is); (case tyE_InvalidDays => k_is); (case sfE_InvalidDays => k_is); (case su_InvalidDays_InvalidDays => k_is); (case su_InvalidDays_InvalidMisses => k_is); (case su_InvalidDays_TurnError => k_is); (case aR_TurnError => k_is); (case rdR_TurnError => k_is); (case gaR_TurnError => k_is); (case inR_TurnError => k_is); (case xa_InvalidDays => k_is); (case xi_InvalidDays => k_is); (case xl_InvalidDays => k_is); (case xc_InvalidDays => k_is); (case xk_InvalidDays => k_is); (case xo_InvalidDays => k_is); (case xv_InvalidDays => decide +kernel); (case xs_InvalidDays => k_is); (case xb_InvalidDays => k_is); (case xp_InvalidDays => k_is); (case xg_InvalidDays => k_is); (case xh_InvalidDays => k_is); (case xd_InvalidDays => k_is); (case xe_InvalidDays => k_is); (case xt_InvalidDays => k_is); (case xm_InvalidDays => k_is); (case xn_InvalidDays => k_is); (case a0 => k_is); (case l0 => k_is); (case c0 => k_is); (case k0 => k_is); (case a1 => k_is); (case l1 => k_is); (case c1 => k_is); (case k1 => k_is); (case a2 => k_is); (case l2 => k_is); (case c2 => k_is); (case k2 => k_is); (case a3 => k_is); (case l3 => k_is); (case c3 => k_is); (case k3 => k_is); (case a4 => k_is); (case l4 => k_is); (case c4 => k_is); (case k4 => k_is); (case a5 => k_is); (case l5 => k_is); (case c5 => k_is); (case k5 => k_is); (case a6 => k_is); (case l6 => k_is); (case c6 => k_is); (case k6 => k_is); (case a7 => k_is); (case l7 => k_is); (case c7 => k_is); (case k7 => k_is); (case a8 => k_is); (case l8 => k_is); (case c8 => k_is); (case k8 => k_is); (case a9 => k_is); (case l9 => k_is); (case c9 => k_is); (case k9 => k_is); (case a10 => k_is); (case l10 => k_is); (case c10 => k_is); (case k10 => k_is); (case a11 => k_is); (case l11 => k_is); (case c11 => k_is); (case k11 => k_is); (case a12 => k_is); (case l12 => k_is); (case c12 => k_is); (case k12 => k_is); (case a13 => k_is); (case l13 => k_is); (case c13 => k_is); (case k13 => k_is); (case a14 => k_is); (case l14 => k_is); (case c14 => k_is); (case k14 => k_is); (case a15 => k_is); (case l15 => k_is); (case c15 => k_is); (case k15 => k_is); (case a16 => k_is); (case l16 => k_is); (case c16 => k_is); (case k16 => k_is); (case a17 => k_is); (case l17 => k_is); (case c17 => k_is); (case k17 => k_is); (case z0 => k_is); (case z1 => k_is); (case z2 => k_is); (case z3 => k_is); (case z4 => k_is); (case z5 => k_is); (case z6 => k_is); (case z7 => k_is); (case z8 => k_is); (case z9 => k_is); (case z10 => k_is); (case z11 => k_is); (case z12 => k_is); (case hct => rfl); (case hctB => rfl)
    (case fin => rintro fd ⟨cl, hb, hF⟩; exact Dl.lawAt_of2 (hT _ (List.mem_cons_of_mem _ List.mem_cons_self)) (by kernel_rfl) (PySem.W.codeHd_of_K KX (by kernel_rfl)) (hT _ List.mem_cons_self) (by kernel_rfl) (PySem.W.codeHd_of_K KX (by kernel_rfl)) hb hF Dl.law_true)
    (case hcp => kernel_rfl)
    (case hcpB => kernel_rfl)
    (case hPP => decide)
