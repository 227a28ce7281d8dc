import PyProof.Rows.All
import Wide.All
import OpenK.AllK
import Wide.FinOn
import HandS.ForMost
import HandS.Star
import HandS.IsInst
import HandS.SortInts
import HandS.Wide
import HandS.WordsExc
import HandS.Walk
import HandS.Flow
import HandS.CallSlots
import KE.KeyNested
import KE.KDictWalk
import HandS.Lambda
import HandS.ExcInit
import HandS.Deep
import HandS.WordsDict
import HandS.TupAny
import KE.GoesMore
import HandS.Style
import HandS.FStr
import HandS.DictComp
import HandS.Comp
import HandS.DictTup
import HandS.List
import PyProof.P3In
import HandS.Defaults
import HandS.Conv
import HandS.RaiseMore
import HandS.OwnEq
import HandS.TupMul
import HandS.SortRule
import HandS.Iter
import KE.KDictDisplayH
import PyProof.Rows.SumAny
import KE.KDictCopyH
import KE.KDictList
import HandS.TupLen
import HandS.More
import HandS.Codes
import PyProof.InstNe
import HandS.SetFor
import HandS.SetKeys
import PyProof.Rows.SetFrom
import PyProof.SetRoads
import HandS.TupLe
import HandS.TryOnly
import HandS.Text
import HandS.ExcField
import HandS.ExcIs
import KE.KExcIs
import HandS.TryMany
import PyProof.StrBlock2
import HandS.ClsMeth
import HandS.NoneIn
import HandS.MakeKw
import HandS.HeadHook3
import HandS.ReplaceLit
import HandS.SortOrd
import HandS.NamedTupSort
import KE.SortData
import KE.GoesEnumKw
import PyProof.ZipIter
import KE.KDictKeyed
import HandS.Zip
import HandS.EndTab
import HandS.ExcOwn
import KE.KNestM
import PySem.Challenge.RW_turnrota_k01_errors
import PyProof.Rows.StrJoinMade
import PyProof.Rows.SetFoldBridge
set_option Elab.async false
set_option linter.all false
set_option maxRecDepth 100000
set_option maxHeartbeats 4000000
namespace NK
open PySem PySem.Spec PyProof.Rows L2
/-! ### dicts whose keys are an int and a tuple of ints -/
abbrev NKey := Int × List Int
def nk (k : NKey) : NestedKey := .tup [.num k.1, .tup (k.2.map .num)]
def nHash (k : NKey) : Int := reduceHash (Builtin.Tuple.tupleHashOf [hashInt k.1, reduceHash (Builtin.Tuple.tupleHashOf (k.2.map hashInt))])
/-- where a key is -/
def KAt (K : PySem.W.Frag) (H : Hp) (ka : Addr) (k : NKey) : Prop := ∃ b, H ka = some (.tup [.int k.1, .ref b]) ∧ (H b = some (.tup (k.2.map V.int)) ∨ (k.2 = [] ∧ SqT K H b []))
/-! ### entries -/
abbrev NE := NKey × Addr × V
def ent (p : NE) (u : Value) : DictEntry := ⟨nHash p.1, .ref p.2.1, u⟩
def xsOf : List NE → List Value → List (NestedKey × Addr × Value) := List.zipWith fun p u => (nk p.1, p.2.1, u)
/-- one value of an object each -/
abbrev Vs (kvs : List NE) (us : List Value) : Prop := Vals (kvs.map (·.2.2)) us
/-! ### the dict on the heap -/
def DFit (a : Addr) (o : Obj) (kvs : List NE) : Prop := kvs.length ≤ sizeLine ∧ (a == sysModules) = false ∧ (kvs.map (·.1)).Nodup ∧ ∃ (us : List Value) (es : Array DictEntry) (ep : Nat), Vs kvs us ∧ o.ExactDict ∧ o.data = .dict es ep ∧ es.toList = List.zipWith ent kvs us
/-- the dict at a: its object, its keys with where they are -/
def DN (a : Addr) (o : Obj) (kvs : List NE) : HO := .ext fun h => h.get? a = some o ∧ DFit a o kvs
def DKs (K : PySem.W.Frag) (H : Hp) (kvs : List NE) : Prop := ∀ p ∈ kvs, KAt K H p.2.1 p.1
structure Held (X : Cx) (s : Shared) (a : Addr) (ob : Obj) (kvs : List NE) (us : List Value) (es : Array DictEntry) (ep : Nat) : Prop where
  sz : kvs.length ≤ sizeLine
  ns : (a == sysModules) = false
  nd : (kvs.map (·.1)).Nodup
  vs : Vs kvs us
  raw : s.heap.DictRaw a es ep
  dat : ob.data = .dict es ep
  ent : es.toList = List.zipWith NK.ent kvs us
  dic : s.heap.DictOfH (nestedKind X.prog X.w) a (xsOf kvs us)
end NK
namespace Dl
open PySem PySem.Spec PyProof.Rows L2
/-! ### data -/
inductive Dt where
  | non | bl (b : Bool) | int (i : Int) | str (x : Str) | ty (n : String)
  | scr (ns : List Int) | lst (xs : List Dt) | tup (xs : List Dt) | dic (t : Bool) (ks vs : List Dt) | ins (c : Nat) (vs : List Dt)
  /-- a list of an inner list of ints, held by it alone, and an int -/
  | deal (cs : List Int) (bl : Int)
  /-- a class of the text; an instance of which it is known where it is -/
  | cls (c : Nat) | obj (a c : Nat) (vs : List Dt)
  /-- a dict whose keys are an int and a tuple of ints -/
  | dcn (ks vs : List Dt)
  /-- a table of code objects of the name q; a lambda's function object: its code, and what its maker's names held -/
  | tbl (q : Str) | lam (f c : Addr) (q : Str) (σ : List (Option V)) (is : List Nat) (ds : List Dt)
  /-- whatever stands at a; an exception that is no more than a value: its class, its fields -/
  | adr (a : Addr) | exv (c : Nat) (ds : List Dt)
/-- a parameter that the caller goes on holding: where it is, and what it holds alone -/
abbrev Pin := Addr × List Addr
/-- the classes of the text: their addresses, their fields in order -/
structure Tx where
  K : PySem.W.Frag
  cl : Nat → Option (Addr × List Str)
def kD : Key → Dt
  | .inl i => .int i
  | .inr x => .str x
def nkD (k : NK.NKey) : Dt := .tup [.int k.1, .tup (k.2.map .int)]
abbrev Le (F H : Hp) : Prop := ∀ a o, F a = some o → H a = some o
mutual
inductive Rep (T : Tx) (F : Hp) : V → Dt → Prop
  | non : Rep T F .non .non
  | bl (b : Bool) : Rep T F (.bl b) (.bl b)
  | int (i : Int) : Rep T F (.int i) (.int i)
  | str (x : Str) : Rep T F (.str x) (.str x)
  | ty (n : String) : Rep T F (.ty n) (.ty n)
  | scr {a : Addr} {ns : List Int} : SqL T.K F a (ns.map V.int) → Rep T F (.ref a) (.scr ns)
  | lst {a : Addr} {vs : List V} {ds : List Dt} : F a = some (.lst vs) → Reps T F vs ds → Rep T F (.ref a) (.lst ds)
  | tup {a : Addr} {vs : List V} {ds : List Dt} : F a = some (.tup vs) → Reps T F vs ds → Rep T F (.ref a) (.tup ds)
  | tup0 {a : Addr} : SqT T.K F a [] → Rep T F (.ref a) (.tup [])
  | dicK {a : Addr} {ks : List Key} {vs : List V} {ds : List Dt} : F a = some (.dK (ks.zip vs)) → ks.length = vs.length → Reps T F vs ds → Rep T F (.ref a) (.dic false (ks.map kD) ds)
  | dicT {a : Addr} {ks : List (List Key)} {vs : List V} {ds : List Dt} : F a = some (.dT (ks.zip vs)) → ks.length = vs.length → Reps T F vs ds → Rep T F (.ref a) (.dic true (ks.map fun l => .tup (l.map kD)) ds)
  | ins {a C dx : Addr} {c : Nat} {ns : List Str} {vs : List V} {ds : List Dt} : T.cl c = some (C, ns) → F a = some (.ins C dx (ns.zip vs)) → vs.length ≤ ns.length → Reps T F vs ds → Rep T F (.ref a) (.ins c ds)
  | deal {a b : Addr} {cs : List Int} {bl : Int} : F a = some (.lst [.ref b, .int bl]) → F b = some (.lst (cs.map V.int)) → Rep T F (.ref a) (.deal cs bl)
  | cls {C : Addr} {c : Nat} {ns : List Str} : T.cl c = some (C, ns) → Rep T F (.ref C) (.cls c)
  | obj {a C dx : Addr} {c : Nat} {ns : List Str} {vs : List V} {ds : List Dt} : T.cl c = some (C, ns) → F a = some (.ins C dx (ns.zip vs)) → vs.length ≤ ns.length → Reps T F vs ds → Rep T F (.ref a) (.obj a c ds)
  | dcn {a : Addr} {ob : Obj} {kvs : List NK.NE} {ds : List Dt} : F a = some (NK.DN a ob kvs) → NK.DKs T.K F kvs → Reps T F (kvs.map (·.2.2)) ds → Rep T F (.ref a) (.dcn (kvs.map fun p => nkD p.1) ds)
  | tbl {a : Addr} {ps : Array Value} {q : Str} : F a = some (.tbl ps) → Rep T F (.ref a) (.tbl q)
  | lam {f c : Addr} {q : Str} {σ : List (Option V)} {is : List Nat} {vs : List V} {ds : List Dt} : F c = some (LamX.CodeO c q) → vs.length = is.length → (∀ (j i : Nat) (v : V), is[j]? = some i → vs[j]? = some v → σ[i]? = some (some v)) → Reps T F vs ds → Rep T F (.ref f) (.lam f c q σ is ds)
  | adr (a : Addr) : Rep T F (.ref a) (.adr a)
  | exv0 {a C : Addr} {c : Nat} : T.cl c = some (C, []) → F a = some (exo a C none) → Rep T F (.ref a) (.exv c [])
  | exv {a C dx : Addr} {c : Nat} {ns : List Str} {vs : List V} {ds : List Dt} : T.cl c = some (C, ns) → F a = some (exo a C (some dx)) → F dx = some (exd dx (ns.zip vs)) → vs.length = ns.length → Reps T F vs ds → Rep T F (.ref a) (.exv c ds)
inductive Reps (T : Tx) (F : Hp) : List V → List Dt → Prop
  | nil : Reps T F [] []
  | cons {v : V} {vs : List V} {d : Dt} {ds : List Dt} : Rep T F v d → Reps T F vs ds → Reps T F (v :: vs) (d :: ds)
end
theorem le_refl (H : Hp) : Le H H := fun _ _ h => h
theorem le_trans {A B C : Hp} (h : Le A B) (k : Le B C) : Le A C := fun a o e => k a o (h a o e)
theorem le_new {H : Hp} {p : Addr} {o : HO} (h : H p = none) : Le H (upd H p o) := fun a u e => by
  rw [upd_ne (ne_of_none e h)]; exact e
theorem sql_mono {K : PySem.W.Frag} {H H' : Hp} {a : Addr} {xs : List V} (e : Le H H') (h : SqL K H a xs) : SqL K H' a xs := Same.seq e h
theorem sqt_mono {K : PySem.W.Frag} {H H' : Hp} {a : Addr} {xs : List V} (e : Le H H') (h : SqT K H a xs) : SqT K H' a xs := by
  rcases h with (h | ⟨o, h⟩) | h
  · exact .inl (.inl (e _ _ h))
  · exact .inl (.inr ⟨o, e _ _ h⟩)
  · exact .inr h
theorem kat_mono {K : PySem.W.Frag} {F F' : Hp} (e : Le F F') {a : Addr} {k : NK.NKey} (h : NK.KAt K F a k) : NK.KAt K F' a k := let ⟨b, h1, h2⟩ := h; ⟨b, e _ _ h1, h2.elim (fun z => .inl (e _ _ z)) fun z => .inr ⟨z.1, sqt_mono e z.2⟩⟩
theorem dks_mono {K : PySem.W.Frag} {F F' : Hp} (e : Le F F') {kvs : List NK.NE} (h : NK.DKs K F kvs) : NK.DKs K F' kvs := fun p hp => kat_mono e (h p hp)
section
variable {T : Tx} {F F' : Hp}
mutual
theorem Rep.mono (e : Le F F') : ∀ {v : V} {d : Dt}, Rep T F v d → Rep T F' v d
  | _, _, .non => .non
  | _, _, .bl b => .bl b
  | _, _, .int i => .int i
  | _, _, .str x => .str x
  | _, _, .ty n => .ty n
  | _, _, .scr h => .scr (sql_mono e h)
  | _, _, .lst h r => .lst (e _ _ h) (Reps.mono e r)
  | _, _, .tup h r => .tup (e _ _ h) (Reps.mono e r)
  | _, _, .tup0 h => .tup0 (sqt_mono e h)
  | _, _, .dicK h l r => .dicK (e _ _ h) l (Reps.mono e r)
  | _, _, .dicT h l r => .dicT (e _ _ h) l (Reps.mono e r)
  | _, _, .ins c h l r => .ins c (e _ _ h) l (Reps.mono e r)
  | _, _, .deal h l => .deal (e _ _ h) (e _ _ l)
  | _, _, .cls h => .cls h
  | _, _, .obj c h l r => .obj c (e _ _ h) l (Reps.mono e r)
  | _, _, .dcn h l r => .dcn (e _ _ h) (dks_mono e l) (Reps.mono e r)
  | _, _, .tbl h => .tbl (e _ _ h)
  | _, _, .lam h l g r => .lam (e _ _ h) l g (Reps.mono e r)
  | _, _, .adr a => .adr a
  | _, _, .exv0 c h => .exv0 c (e _ _ h)
  | _, _, .exv c h k l r => .exv c (e _ _ h) (e _ _ k) l (Reps.mono e r)
theorem Reps.mono (e : Le F F') : ∀ {vs : List V} {ds : List Dt}, Reps T F vs ds → Reps T F' vs ds
  | _, _, .nil => .nil
  | _, _, .cons h r => .cons (Rep.mono e h) (Reps.mono e r)
end
theorem Reps.length : ∀ {vs : List V} {ds : List Dt}, Reps T F vs ds → vs.length = ds.length
  | _, _, .nil => rfl
  | _, _, .cons _ r => by rw [List.length_cons, List.length_cons, Reps.length r]
theorem Reps.get : ∀ {vs : List V} {ds : List Dt} {i : Nat} {d : Dt}, Reps T F vs ds → ds[i]? = some d → ∃ v, vs[i]? = some v ∧ Rep T F v d
  | _, _, _, _, .nil, e => by simp at e
  | _, _, 0, _, .cons h _, e => by simp at e; subst e; exact ⟨_, rfl, h⟩
  | _, _, i + 1, d, .cons _ r, e => by
    obtain ⟨v, h1, h2⟩ := Reps.get (i := i) (d := d) r (by simpa using e)
    exact ⟨v, by simpa using h1, h2⟩
theorem Reps.append : ∀ {vs ws : List V} {ds es : List Dt}, Reps T F vs ds → Reps T F ws es → Reps T F (vs ++ ws) (ds ++ es)
  | _, _, _, _, .nil, s => s
  | _, _, _, _, .cons h r, s => .cons h (Reps.append r s)
theorem Reps.set {v : V} {d : Dt} (h : Rep T F v d) : ∀ {vs : List V} {ds : List Dt} (i : Nat), Reps T F vs ds → Reps T F (vs.set i v) (ds.set i d)
  | _, _, _, .nil => .nil
  | _, _, 0, .cons _ r => .cons h r
  | _, _, i + 1, .cons q r => .cons q (Reps.set h i r)
theorem Reps.take : ∀ {vs : List V} {ds : List Dt} (n : Nat), Reps T F vs ds → Reps T F (vs.take n) (ds.take n)
  | _, _, 0, _ => .nil
  | _, _, _ + 1, .nil => .nil
  | _, _, n + 1, .cons h r => .cons h (Reps.take n r)
theorem Reps.drop : ∀ {vs : List V} {ds : List Dt} (n : Nat), Reps T F vs ds → Reps T F (vs.drop n) (ds.drop n)
  | _, _, 0, h => h
  | _, _, _ + 1, .nil => .nil
  | _, _, n + 1, .cons _ r => Reps.drop n r
theorem Reps.mk : ∀ {vs : List V} {ds : List Dt}, vs.length = ds.length → (∀ (i : Nat) v d, vs[i]? = some v → ds[i]? = some d → Rep T F v d) → Reps T F vs ds
  | [], [], _, _ => .nil
  | [], _ :: _, h, _ => by simp at h
  | _ :: _, [], h, _ => by simp at h
  | v :: vs, d :: ds, h, f => .cons (f 0 v d rfl rfl) (Reps.mk (by simpa using h) fun i w e a b => f (i + 1) w e (by simpa using a) (by simpa using b))
end
theorem Rep.tup_inv {T : Tx} {F : Hp} {v : V} {ds : List Dt} (h : Rep T F v (.tup ds)) : ∃ a vs, v = .ref a ∧ SqT T.K F a vs ∧ Reps T F vs ds := by
  cases h with
  | tup e r => exact ⟨_, _, rfl, SqT.of e, r⟩
  | tup0 e => exact ⟨_, _, rfl, e, .nil⟩
/-- an object that one slot holds alone: it stands in H, not among the frozen ones -/
def OwnAt (T : Tx) (F H : Hp) (a : Addr) : Dt → Prop
  | .lst ds => ∃ vs, H a = some (.lst vs) ∧ Reps T F vs ds
  | .dic false ks ds => ∃ (kk : List Key) (vs : List V), H a = some (.dK (kk.zip vs)) ∧ kk.length = vs.length ∧ ks = kk.map kD ∧ Reps T F vs ds
  | .dic true ks ds => ∃ (kk : List (List Key)) (vs : List V), H a = some (.dT (kk.zip vs)) ∧ kk.length = vs.length ∧ (ks = kk.map fun l => .tup (l.map kD)) ∧ Reps T F vs ds
  | .ins c ds => ∃ (C dx : Addr) (ns : List Str) (vs : List V), T.cl c = some (C, ns) ∧ H a = some (.ins C dx (ns.zip vs)) ∧ vs.length ≤ ns.length ∧ Reps T F vs ds
  | .deal cs bl => ∃ b, H a = some (.lst [.ref b, .int bl]) ∧ H b = some (.lst (cs.map V.int)) ∧ b ≠ a
  | .dcn ks ds => ∃ (ob : Obj) (kvs : List NK.NE), H a = some (NK.DN a ob kvs) ∧ NK.DKs T.K F kvs ∧ (ks = kvs.map fun p => nkD p.1) ∧ Reps T F (kvs.map (·.2.2)) ds
  | .tbl q => ∃ ps : Array Value, H a = some (.tbl ps) ∧ TriplesOk ps.toList ∧ ∀ (pos : Pos) (cv : Value), codeAmong pos ps.toList = some cv → ∃ c, cv = .ref c ∧ F c = some (LamX.CodeO c q)
  | _ => False
/-- what a slot's own object holds alone -/
def inH (H : Hp) (a : Addr) : Dt → List Addr
  | .deal _ _ => (match H a with | some (.lst (.ref b :: _)) => [b] | _ => [])
  | _ => []
theorem OwnAt.has {T : Tx} {F H : Hp} {a : Addr} {d : Dt} (h : OwnAt T F H a d) : ∃ o, H a = some o ∧ ∀ vs, o ≠ .tup vs := by
  cases d with
  | lst ds => obtain ⟨_, e, _⟩ := h; exact ⟨_, e, fun _ z => nomatch z⟩
  | dic t ks ds =>
    cases t with
    | false => obtain ⟨_, _, e, _⟩ := h; exact ⟨_, e, fun _ z => nomatch z⟩
    | true => obtain ⟨_, _, e, _⟩ := h; exact ⟨_, e, fun _ z => nomatch z⟩
  | ins c ds => obtain ⟨_, _, _, _, _, e, _⟩ := h; exact ⟨_, e, fun _ z => nomatch z⟩
  | deal cs bl => obtain ⟨_, e, _⟩ := h; exact ⟨_, e, fun _ z => nomatch z⟩
  | dcn ks ds => obtain ⟨_, _, e, _⟩ := h; exact ⟨_, e, fun _ z => nomatch z⟩
  | tbl q => obtain ⟨_, e, _⟩ := h; exact ⟨_, e, fun _ z => nomatch z⟩
  | _ => exact h.elim
theorem inH_deal {H : Hp} {a b : Addr} {cs : List Int} {bl bl' : Int} (h : H a = some (.lst [.ref b, .int bl])) : inH H a (.deal cs bl') = [b] := by
  unfold inH; dsimp only; rw [h]
theorem OwnAt.hasI {T : Tx} {F H : Hp} {a x : Addr} {d : Dt} (h : OwnAt T F H a d) (hx : x = a ∨ x ∈ inH H a d) : ∃ o, H x = some o ∧ ∀ vs, o ≠ .tup vs := by
  rcases hx with hx | hx
  · rw [hx]; exact h.has
  · cases d with
    | deal cs bl => obtain ⟨b, e1, e2, e3⟩ := h; rw [inH_deal e1] at hx; rw [List.mem_singleton.mp hx]; exact ⟨_, e2, fun _ z => nomatch z⟩
    | _ => cases hx
theorem OwnAt.same {T : Tx} {F H H' : Hp} {a : Addr} {d : Dt} (h : OwnAt T F H a d) (ha : ∀ o, H a = some o → H' a = some o) : inH H' a d = inH H a d := by
  cases d with
  | deal cs bl => obtain ⟨b, e1, e2, e3⟩ := h; rw [inH_deal e1, inH_deal (ha _ e1)]
  | _ => rfl
theorem OwnAt.mono {T : Tx} {F F' H H' : Hp} {a : Addr} {d : Dt} (e : Le F F') (ha : ∀ x, (x = a ∨ x ∈ inH H a d) → ∀ o, H x = some o → H' x = some o) (h : OwnAt T F H a d) : OwnAt T F' H' a d := by
  have ha0 := ha a (.inl rfl)
  cases d with
  | lst ds => obtain ⟨vs, x, r⟩ := h; exact ⟨vs, ha0 _ x, r.mono e⟩
  | dic t ks ds =>
    cases t with
    | false => obtain ⟨kk, vs, x, l, k, r⟩ := h; exact ⟨kk, vs, ha0 _ x, l, k, r.mono e⟩
    | true => obtain ⟨kk, vs, x, l, k, r⟩ := h; exact ⟨kk, vs, ha0 _ x, l, k, r.mono e⟩
  | ins c ds => obtain ⟨C, dx, ns, vs, c1, x, l, r⟩ := h; exact ⟨C, dx, ns, vs, c1, ha0 _ x, l, r.mono e⟩
  | deal cs bl => obtain ⟨b, e1, e2, e3⟩ := h; exact ⟨b, ha0 _ e1, ha b (.inr (by rw [inH_deal e1]; exact List.mem_singleton.mpr rfl)) _ e2, e3⟩
  | dcn ks ds => obtain ⟨ob, kvs, x, l, k, r⟩ := h; exact ⟨ob, kvs, ha0 _ x, dks_mono e l, k, r.mono e⟩
  | tbl q => obtain ⟨ps, x, l, r⟩ := h; exact ⟨ps, ha0 _ x, l, fun pos cv z => let ⟨c, h1, h2⟩ := r pos cv z; ⟨c, h1, e _ _ h2⟩⟩
  | _ => exact h.elim
/-- it is frozen -/
theorem OwnAt.frozen {T : Tx} {F H : Hp} {a : Addr} {d : Dt} (h : OwnAt T F H a d) (le : Le F H) (hf : F a = none) (hi : ∀ x ∈ inH H a d, F x = none) :
    ∃ F', Le F F' ∧ Le F' H ∧ (∀ y, y ≠ a → y ∉ inH H a d → F' y = F y) ∧ Rep T F' (.ref a) d := by
  have one : ∀ o, H a = some o → Le F (upd F a o) ∧ Le (upd F a o) H ∧ ∀ y, y ≠ a → upd F a o y = F y := fun o ho =>
    ⟨le_new hf, fun y u z => by
      by_cases zz : y = a
      · subst zz; rw [upd_same] at z; cases z; exact ho
      · rw [upd_ne zz] at z; exact le y u z, fun y hy => upd_ne hy⟩
  cases d with
  | lst ds =>
    obtain ⟨vs, x, r⟩ := h; obtain ⟨e1, e2, e3⟩ := one _ x
    exact ⟨_, e1, e2, fun y hy _ => e3 y hy, .lst upd_same (r.mono e1)⟩
  | dic t ks ds =>
    cases t with
    | false =>
      obtain ⟨kk, vs, x, l, k, r⟩ := h; obtain ⟨e1, e2, e3⟩ := one _ x; subst k
      exact ⟨_, e1, e2, fun y hy _ => e3 y hy, .dicK upd_same l (r.mono e1)⟩
    | true =>
      obtain ⟨kk, vs, x, l, k, r⟩ := h; obtain ⟨e1, e2, e3⟩ := one _ x; subst k
      exact ⟨_, e1, e2, fun y hy _ => e3 y hy, .dicT upd_same l (r.mono e1)⟩
  | ins c ds =>
    obtain ⟨C, dx, ns, vs, c1, x, l, r⟩ := h; obtain ⟨e1, e2, e3⟩ := one _ x
    exact ⟨_, e1, e2, fun y hy _ => e3 y hy, .ins c1 upd_same l (r.mono e1)⟩
  | deal cs bl =>
    obtain ⟨b, g1, g2, g3⟩ := h
    obtain ⟨e1, e2, e3⟩ := one _ g1
    rw [inH_deal g1] at hi ⊢
    have hb : F b = none := hi b (List.mem_singleton.mpr rfl)
    have hb2 : upd F a (.lst [.ref b, .int bl]) b = none := by rw [upd_ne g3]; exact hb
    refine ⟨upd (upd F a (.lst [.ref b, .int bl])) b (.lst (cs.map V.int)), le_trans e1 (le_new hb2), fun y u z => ?_, fun y hy hyi => ?_, .deal (b := b) ?_ upd_same⟩
    · by_cases zz : y = b
      · subst zz; rw [upd_same] at z; cases z; exact g2
      · rw [upd_ne zz] at z; exact e2 y u z
    · rw [upd_ne (fun z => hyi (List.mem_singleton.mpr z))]; exact e3 y hy
    · rw [upd_ne (fun z => g3 z.symm)]; exact upd_same
  | dcn ks ds =>
    obtain ⟨ob, kvs, x, l, k, r⟩ := h; obtain ⟨e1, e2, e3⟩ := one _ x; subst k
    exact ⟨_, e1, e2, fun y hy _ => e3 y hy, .dcn upd_same (dks_mono e1 l) (r.mono e1)⟩
  | tbl q => obtain ⟨ps, x, l, r⟩ := h; obtain ⟨e1, e2, e3⟩ := one _ x; exact ⟨_, e1, e2, fun y hy _ => e3 y hy, .tbl upd_same⟩
  | _ => exact h.elim
/-- to be read: frozen, or a slot's own -/
def RepS (T : Tx) (F H : Hp) (v : V) (d : Dt) : Prop := Rep T F v d ∨ ∃ a, v = .ref a ∧ OwnAt T F H a d
theorem Rep.s {T : Tx} {F H : Hp} {v : V} {d : Dt} (h : Rep T F v d) : RepS T F H v d := .inl h
/-! ### slots -/
inductive Sl where
  | val (d : Dt)
  /-- held alone; io: a parameter that the caller goes on holding -/
  | own (io : Bool) (d : Dt)
abbrev En := List (Option Sl)
def IsOwn (H : Hp) (σ : L2.St) (ρ : En) (x : Addr) : Prop := ∃ (i : Nat) (io : Bool) (d : Dt) (a : Addr), ρ[i]? = some (some (.own io d)) ∧ σ[i]? = some (some (.ref a)) ∧ (x = a ∨ x ∈ inH H a d)
structure Ok (T : Tx) (π : Nat → Option Pin) (A : Addr → Prop) (F H : Hp) (σ : L2.St) (ρ : En) : Prop where
  le : Le F H
  len : σ.length = ρ.length
  val : ∀ (i : Nat) d, ρ[i]? = some (some (.val d)) → ∃ v, σ[i]? = some (some v) ∧ Rep T F v d
  own : ∀ (i : Nat) io d, ρ[i]? = some (some (.own io d)) → ∃ a, σ[i]? = some (some (.ref a)) ∧ F a = none ∧ OwnAt T F H a d ∧ A a ∧ (io = true → π i = some (a, inH H a d)) ∧ ∀ x ∈ inH H a d, F x = none ∧ A x
  dis : ∀ (i j : Nat) io jo d e a b x, ρ[i]? = some (some (.own io d)) → ρ[j]? = some (some (.own jo e)) → σ[i]? = some (some (.ref a)) → σ[j]? = some (some (.ref b)) → (x = a ∨ x ∈ inH H a d) → (x = b ∨ x ∈ inH H b e) → i = j
structure Fr (A : Addr → Prop) (F H F' H' : Hp) : Prop where
  f : Le F F'
  h : ∀ a o, ¬ A a → H a = some o → H' a = some o
  n : ∀ a o, ¬ A a → H a = some o → (∀ vs, o ≠ .tup vs) → F' a = F a
  t : ∀ a, H' a = none → H a = none
theorem Fr.refl {A : Addr → Prop} {F H : Hp} : Fr A F H F H := ⟨le_refl F, fun _ _ _ e => e, fun _ _ _ _ _ => rfl, fun _ e => e⟩
theorem Fr.trans {A : Addr → Prop} {F H F1 H1 F2 H2 : Hp} (a : Fr A F H F1 H1) (b : Fr A F1 H1 F2 H2) : Fr A F H F2 H2 :=
  ⟨le_trans a.f b.f, fun x o hx e => b.h x o hx (a.h x o hx e), fun x o hx e t => by
    rw [b.n x o hx (a.h x o hx e) t, a.n x o hx e t], fun x e => a.t x (b.t x e)⟩
theorem up_none {H : Hp} {p x : Addr} {o : HO} (e : upd H p o x = none) : H x = none := by
  by_cases z : x = p
  · subst z; rw [upd_same] at e; cases e
  · rw [upd_ne z] at e; exact e
/-- a new object, frozen at once -/
theorem Fr.new {A : Addr → Prop} {F H : Hp} {p : Addr} {o : HO} (hf : Le F H) (hp : H p = none) : Fr A F H (upd F p o) (upd H p o) := by
  have fp : F p = none := by
    cases q : F p with
    | none => rfl
    | some u => rw [hf p u q] at hp; cases hp
  refine ⟨le_new fp, fun a u _ e => le_new hp a u e, fun a o _ e _ => ?_, fun a e => up_none e⟩
  rw [upd_ne fun z => by rw [z, hp] at e; cases e]
theorem f_none {F H : Hp} {p : Addr} (hf : Le F H) (hp : H p = none) : F p = none := by
  cases q : F p with
  | none => rfl
  | some u => rw [hf p u q] at hp; cases hp
/-- a new object, not frozen -/
theorem Fr.newO {A : Addr → Prop} {F H : Hp} {p : Addr} {o : HO} (hp : H p = none) : Fr A F H F (upd H p o) := ⟨le_refl F, fun a u _ e => le_new hp a u e, fun _ _ _ _ _ => rfl, fun a e => up_none e⟩
section
variable {T : Tx} {π : Nat → Option Pin} {A : Addr → Prop} {F H F' H' : Hp} {σ : L2.St} {ρ : En}
/-- what stands is kept, the frozen part grows -/
theorem Ok.grow (k : Ok T π A F H σ ρ) (hf : Le F F') (hl : Le F' H') (hn : ∀ a, IsOwn H σ ρ a → F' a = none) (hh : ∀ a o, IsOwn H σ ρ a → H a = some o → H' a = some o) : Ok T π A F' H' σ ρ := by
  have sm : ∀ (i : Nat) io d a, ρ[i]? = some (some (.own io d)) → σ[i]? = some (some (.ref a)) → inH H' a d = inH H a d := fun i io d a e s => by
    obtain ⟨b, h1, h2, h3, h4, h5, h6⟩ := k.own i io d e
    rw [s] at h1
    cases h1
    exact h3.same fun o q => hh a o ⟨i, io, d, a, e, s, .inl rfl⟩ q
  refine ⟨hl, k.len, fun i d e => ?_, fun i io d e => ?_, fun i j io jo d e a b x h1 h2 h3 h4 h5 h6 => k.dis i j io jo d e a b x h1 h2 h3 h4 (by rw [← sm i io d a h1 h3]; exact h5) (by rw [← sm j jo e b h2 h4]; exact h6)⟩
  · obtain ⟨v, h1, h2⟩ := k.val i d e
    exact ⟨v, h1, h2.mono hf⟩
  · obtain ⟨a, h1, h2, h3, h4, h5, h6⟩ := k.own i io d e
    have w : ∀ x, (x = a ∨ x ∈ inH H a d) → IsOwn H σ ρ x := fun x hx => ⟨i, io, d, a, e, h1, hx⟩
    rw [← sm i io d a e h1] at h5 h6
    exact ⟨a, h1, hn a (w a (.inl rfl)), h3.mono hf fun x hx o q => hh x o (w x hx) q, h4, h5, fun x hx => ⟨hn x (w x (.inr (by rw [← sm i io d a e h1]; exact hx))), (h6 x hx).2⟩⟩
/-- the slots' own things are the same where what stands is kept -/
theorem Ok.sameOwn (k : Ok T π A F H σ ρ) (hh : ∀ a o, IsOwn H σ ρ a → H a = some o → H' a = some o) {x : Addr} : IsOwn H' σ ρ x ↔ IsOwn H σ ρ x := by
  have sm : ∀ (i : Nat) io d a, ρ[i]? = some (some (.own io d)) → σ[i]? = some (some (.ref a)) → inH H' a d = inH H a d := fun i io d a e s => by
    obtain ⟨b, h1, h2, h3, h4, h5, h6⟩ := k.own i io d e
    rw [s] at h1
    cases h1
    exact h3.same fun o q => hh a o ⟨i, io, d, a, e, s, .inl rfl⟩ q
  constructor
  · rintro ⟨i, io, d, a, e, s, hx⟩
    exact ⟨i, io, d, a, e, s, by rw [← sm i io d a e s]; exact hx⟩
  · rintro ⟨i, io, d, a, e, s, hx⟩
    exact ⟨i, io, d, a, e, s, by rw [sm i io d a e s]; exact hx⟩
theorem Ok.ownT (k : Ok T π A F H σ ρ) {a : Addr} (w : IsOwn H σ ρ a) : A a ∧ F a = none ∧ ∃ o, H a = some o ∧ ∀ vs, o ≠ .tup vs := by
  obtain ⟨i, io, d, b, e, s, hx⟩ := w
  obtain ⟨c, h1, h2, h3, h4, h5, h6⟩ := k.own i io d e
  rw [s] at h1
  cases h1
  refine ⟨?_, ?_, h3.hasI hx⟩
  · rcases hx with hx | hx
    · rw [hx]; exact h4
    · exact (h6 a hx).2
  · rcases hx with hx | hx
    · rw [hx]; exact h2
    · exact (h6 a hx).1
theorem Ok.ownH (k : Ok T π A F H σ ρ) {a : Addr} (w : IsOwn H σ ρ a) : A a ∧ F a = none ∧ ∃ o, H a = some o := by
  obtain ⟨h1, h2, o, h3, _⟩ := k.ownT w
  exact ⟨h1, h2, o, h3⟩
theorem Ok.new (k : Ok T π A F H σ ρ) {p : Addr} {o : HO} (hp : H p = none) : Ok T π A (upd F p o) (upd H p o) σ ρ := by
  have ne : ∀ a, IsOwn H σ ρ a → a ≠ p := fun a w z => by
    obtain ⟨_, _, u, e⟩ := k.ownH w
    rw [z, hp] at e; cases e
  refine k.grow (le_new (f_none k.le hp)) (fun a u e => ?_) (fun a w => ?_) fun a u w e => ?_
  · by_cases z : a = p
    · subst z; rw [upd_same] at e ⊢; exact e
    · rw [upd_ne z] at e ⊢; exact k.le a u e
  · rw [upd_ne (ne a w)]; exact (k.ownH w).2.1
  · rw [upd_ne (ne a w)]; exact e
theorem Ok.newO (k : Ok T π A F H σ ρ) {p : Addr} {o : HO} (hp : H p = none) : Ok T π A F (upd H p o) σ ρ := by
  refine k.grow (le_refl F) (le_trans k.le (le_new hp)) (fun a w => (k.ownH w).2.1) fun a u w e => ?_
  rw [upd_ne fun z => by rw [z, hp] at e; cases e]; exact e
end
/-! ### results -/
/-- an exception: its class's number, its fields -/
structure Ex where
  c : Nat
  fs : List Dt
inductive Ou (α : Type) where
  | ok (a : α) (ρ : En)
  | exc (x : Ex) (ρ : En)
  | bad
abbrev Mi (α : Type) := En → Ou α
def mPure {α : Type} (a : α) : Mi α := fun ρ => .ok a ρ
def mBad {α : Type} : Mi α := fun _ => .bad
def mBind {α β : Type} (m : Mi α) (k : α → Mi β) : Mi β := fun ρ => match m ρ with
  | .ok a ρ' => k a ρ'
  | .exc x ρ' => .exc x ρ'
  | .bad => .bad
def mOpt {α : Type} : Option α → Mi α
  | some a => mPure a
  | none => mBad
/-- what is known of a flying exception (filled in where exceptions are) -/
def RepX (T : Tx) (F H : Hp) (cls : Value) (d : Option Addr) (x : Ex) : Prop :=
  ∃ (C dx : Addr) (ns : List Str) (vs : List V), T.cl x.c = some (C, ns) ∧ cls = .ref C ∧ vs.length = ns.length ∧ Reps T F vs x.fs ∧
    ((ns = [] ∧ d = none) ∨ (d = some dx ∧ H dx = some (.xd (ns.zip vs))))
def Post {α : Type} (T : Tx) (π : Nat → Option Pin) (W : WX) (σ : L2.St) (A : Addr → Prop) (F H : Hp) (P : α → En → Hp → Hp → Prop) : Ou α → Prop
  | .ok a ρ' => ∀ F' H', Ok T π A F' H' σ ρ' → Fr A F H F' H' → P a ρ' F' H'
  | .exc x ρ' => ∀ F' H' cls d, Ok T π A F' H' σ ρ' → Fr A F H F' H' → RepX T F' H' cls d x → W cls d σ H'
  | .bad => False
section
variable {T : Tx} {π : Nat → Option Pin} {W : WX} {A : Addr → Prop} {F H : Hp} {σ : L2.St} {α β : Type}
theorem Post.imp {P P' : α → En → Hp → Hp → Prop} {o : Ou α} (h : Post T π W σ A F H P o) (f : ∀ a ρ' F' H', Ok T π A F' H' σ ρ' → Fr A F H F' H' → P a ρ' F' H' → P' a ρ' F' H') : Post T π W σ A F H P' o := by
  cases o with
  | ok a ρ' => exact fun F' H' k r => f a ρ' F' H' k r (h F' H' k r)
  | exc x ρ' => exact h
  | bad => exact h
theorem Post.bind {P : β → En → Hp → Hp → Prop} {m : Mi α} {k : α → Mi β} {ρ : En} (h : Post T π W σ A F H P (mBind m k ρ)) :
    Post T π W σ A F H (fun a ρ1 F1 H1 => Post T π W σ A F1 H1 P (k a ρ1)) (m ρ) := by
  unfold mBind at h
  cases e : m ρ with
  | ok a ρ1 =>
    rw [e] at h
    intro F1 H1 k1 r1
    dsimp only at h
    cases e2 : k a ρ1 with
    | ok b ρ2 =>
      rw [e2] at h
      exact fun F2 H2 k2 r2 => h F2 H2 k2 (r1.trans r2)
    | exc x ρ2 =>
      rw [e2] at h
      exact fun F2 H2 c d k2 r2 => h F2 H2 c d k2 (r1.trans r2)
    | bad => rw [e2] at h; exact h.elim
  | exc x ρ1 => rw [e] at h; exact h
  | bad => rw [e] at h; exact h.elim
theorem Post.pure {P : α → En → Hp → Hp → Prop} {a : α} {ρ : En} (h : Post T π W σ A F H P (mPure a ρ)) (k : Ok T π A F H σ ρ) : P a ρ F H := h F H k .refl
theorem Post.opt {P : α → En → Hp → Hp → Prop} {o : Option α} {ρ : En} (h : Post T π W σ A F H P (mOpt o ρ)) : ∃ a, o = some a ∧ Post T π W σ A F H P (mPure a ρ) := by
  cases o with
  | none => exact h.elim
  | some a => exact ⟨a, rfl, h⟩
end
/-! ### the readings of mirrors -/
section
variable (T : Tx) (π : Nat → Option Pin) (W : WX)
/-- a value that may be kept -/
def TMe (m : Mi Dt) : TE := fun σ H Q => ∃ A F ρ, Ok T π A F H σ ρ ∧ Post T π W σ A F H (fun d _ F' H' => ∀ v, Rep T F' v d → Q v H') (m ρ)
/-- a value to be read at once -/
def TMp (m : Mi Dt) : TE := fun σ H Q => ∃ A F ρ, Ok T π A F H σ ρ ∧ Post T π W σ A F H (fun d _ F' H' => ∀ v, RepS T F' H' v d → Q v H') (m ρ)
/-- a new object that nobody else holds -/
def TMn (m : Mi Dt) : TE := fun σ H Q => ∃ A F ρ, Ok T π A F H σ ρ ∧ Post T π W σ A F H (fun d ρ' F' H' => ∀ p, F' p = none → ¬ IsOwn H' σ ρ' p → H p = none → OwnAt T F' H' p d → (∀ x ∈ inH H' p d, F' x = none ∧ ¬ IsOwn H' σ ρ' x ∧ H x = none) → Q (.ref p) H') (m ρ)
def TMt (m : Mi Bool) : TT := fun σ H Q => ∃ A F ρ, Ok T π A F H σ ρ ∧ Post T π W σ A F H (fun b _ _ H' => Q b H') (m ρ)
def TMa (m : Mi (List Dt)) : TA := fun σ H Q => ∃ A F ρ, Ok T π A F H σ ρ ∧ Post T π W σ A F H (fun ds _ F' H' => ∀ vs, Reps T F' vs ds → Q vs H') (m ρ)
end
end Dl
namespace Dl
open PySem PySem.Spec PyProof.Rows L2
theorem _root_.L2.PE.imp {X : Cx} {e : Expr} {t t' : TE} (h : PE X e t) (f : ∀ σ H Q, t' σ H Q → t σ H Q) : PE X e t' := ⟨fun pins s σ H Q I q => h.run pins s σ H Q I (f σ H Q q)⟩
theorem _root_.L2.PT.imp {X : Cx} {e : Expr} {t t' : TT} (h : PT X e t) (f : ∀ σ H Q, t' σ H Q → t σ H Q) : PT X e t' := ⟨fun pins s σ H Q I q => h.run pins s σ H Q I (f σ H Q q)⟩
theorem _root_.L2.PA.imp {X : Cx} {e : List Expr} {t t' : TA} (h : PA X e t) (f : ∀ σ H Q, t' σ H Q → t σ H Q) : PA X e t' := ⟨fun pos pins s σ H Q I q => h.run pos pins s σ H Q I (f σ H Q q)⟩
theorem _root_.L2.PS.imp {X : Cx} {e : Stmt} {t t' : TS} (h : PS X e t) (f : ∀ D σ H, t' D σ H → t D σ H) : PS X e t' := ⟨fun pins s σ H D I q => h.run pins s σ H D I (f D σ H q)⟩
theorem _root_.L2.PSs.imp {X : Cx} {e : List Stmt} {t t' : TS} (h : PSs X e t) (f : ∀ D σ H, t' D σ H → t D σ H) : PSs X e t' := ⟨fun pins s σ H D I q => h.run pins s σ H D I (f D σ H q)⟩
theorem _root_.L2.PG.imp {X : Cx} {e : Expr} {t t' : TG} (h : PG X e t) (f : ∀ v σ H Q, t' v σ H Q → t v σ H Q) : PG X e t' := ⟨fun pins s σ H v u Q I r q => h.run pins s σ H v u Q I r (f v σ H Q q)⟩
theorem _root_.L2.PI.imp {X : Cx} {tg e : Expr} {t t' : TI} (h : PI X tg e t) (f : ∀ σ H Q, t' σ H Q → t σ H Q) : PI X tg e t' := ⟨fun pins s σ H Q I q => h.run pins s σ H Q I (f σ H Q q)⟩
theorem Post.imp2 {T : Tx} {π : Nat → Option Pin} {W : WX} {A : Addr → Prop} {F H : Hp} {σ : L2.St} {α : Type} {P P' : α → En → Hp → Hp → Prop} {o : Ou α} (h : Post T π W σ A F H P o)
    (f : ∀ a ρ', (∀ F' H', Ok T π A F' H' σ ρ' → Fr A F H F' H' → P a ρ' F' H') → ∀ F' H', Ok T π A F' H' σ ρ' → Fr A F H F' H' → P' a ρ' F' H') : Post T π W σ A F H P' o := by
  cases o with
  | ok a ρ' => exact f a ρ' h
  | exc x ρ' => exact h
  | bad => exact h
section
variable {X : Cx} {T : Tx} {π : Nat → Option Pin} {W : WX} {a b c e : Expr} {es : List Expr} {pos : Pos} {m ma mb mc : Mi Dt}
/-! ### from one kind of value to another -/
theorem _root_.L2.PE.peek (h : PE X e (TMe T π W m)) : PE X e (TMp T π W m) := h.imp fun σ H Q ⟨A, F, ρ, k, p⟩ => ⟨A, F, ρ, k, p.imp fun d ρ' F' H' _ _ q v r => q v r.s⟩
theorem _root_.L2.PE.keep (h : PE X e (TMn T π W m)) : PE X e (TMe T π W m) := h.imp fun σ H Q ⟨A, F, ρ, k, p⟩ => ⟨A, F, ρ, k, p.imp2 fun d ρ' q F' H' k' r' x hx nx hp ho hi => by
  obtain ⟨F2, e1, e2, e3, e4⟩ := ho.frozen k'.le hx (fun y hy => (hi y hy).1)
  have ne : ∀ y, IsOwn H' σ ρ' y → F2 y = F' y := fun y w => e3 y (fun z => nx (z ▸ w)) fun z => (hi y z).2.1 w
  have k2 : Ok T π A F2 H' σ ρ' := k'.grow e1 e2 (fun y w => by rw [ne y w]; exact (k'.ownH w).2.1) fun y u w z => z
  refine q F2 H' k2 ⟨le_trans r'.f e1, r'.h, fun y o hy z t => ?_, r'.t⟩ _ e4
  rw [e3 y (fun zz => by rw [zz, hp] at z; cases z) fun zz => by rw [(hi y zz).2.2] at z; cases z]
  exact r'.n y o hy z t⟩
/-! ### names -/
def mVar (i : Nat) : Mi Dt := fun ρ => match ρ[i]? with
  | some (some (.val d)) => .ok d ρ
  | some (some (.own false d)) => .ok d (ρ.set i (some (.val d)))
  | _ => .bad
def mPeek (i : Nat) : Mi Dt := fun ρ => match ρ[i]? with
  | some (some (.val d)) => .ok d ρ
  | some (some (.own _ d)) => .ok d ρ
  | _ => .bad
/-- a slot's own object is frozen -/
theorem Ok.freeze {A : Addr → Prop} {F H : Hp} {σ : L2.St} {ρ : En} (k : Ok T π A F H σ ρ) {i : Nat} {io : Bool} {d : Dt} (e : ρ[i]? = some (some (.own io d))) :
    ∃ a F', σ[i]? = some (some (.ref a)) ∧ Ok T π A F' H σ (ρ.set i (some (.val d))) ∧ Rep T F' (.ref a) d ∧ Fr A F H F' H := by
  obtain ⟨a, h1, h2, h3, h4, h5, h6⟩ := k.own i io d e
  obtain ⟨F2, e1, e2, e3, e4⟩ := h3.frozen k.le h2 (fun y hy => (h6 y hy).1)
  have hi : i < ρ.length := (List.getElem?_eq_some_iff.mp e).1
  have old : ∀ {j : Nat} {jo : Bool} {dj : Dt}, (ρ.set i (some (Sl.val d)))[j]? = some (some (.own jo dj)) → ρ[j]? = some (some (.own jo dj)) ∧ i ≠ j := fun {j jo dj} ej => by
    by_cases hj : i = j
    · subst hj; rw [List.getElem?_set_self hi] at ej; cases ej
    · rw [List.getElem?_set_ne hj] at ej; exact ⟨ej, hj⟩
  refine ⟨a, F2, h1, ⟨e2, by simpa using k.len, fun j dj ej => ?_, fun j jo dj ej => ?_, fun j l jo lo dj dl b c x ej el => k.dis j l jo lo dj dl b c x (old ej).1 (old el).1⟩, e4, ⟨e1, fun _ _ _ z => z, fun b o hb _ _ => e3 b (fun z => hb (by rw [z]; exact h4)) fun z => hb (h6 b z).2, fun _ z => z⟩⟩
  · by_cases hj : i = j
    · subst hj
      rw [List.getElem?_set_self hi] at ej
      cases ej
      exact ⟨.ref a, h1, e4⟩
    · rw [List.getElem?_set_ne hj] at ej
      obtain ⟨v, q1, q2⟩ := k.val j dj ej
      exact ⟨v, q1, q2.mono e1⟩
  · obtain ⟨ej, hj⟩ := old ej
    obtain ⟨b, q1, q2, q3, q4, q5, q6⟩ := k.own j jo dj ej
    have ne : ∀ x, (x = b ∨ x ∈ inH H b dj) → F2 x = F x := fun x hx => e3 x (fun z => hj (k.dis i j io jo d dj a b x e ej h1 q1 (.inl z) hx)) fun z => hj (k.dis i j io jo d dj a b x e ej h1 q1 (.inr z) hx)
    exact ⟨b, q1, by rw [ne b (.inl rfl)]; exact q2, q3.mono e1 fun _ _ _ z => z, q4, q5, fun x hx => ⟨by rw [ne x (.inr hx)]; exact (q6 x hx).1, (q6 x hx).2⟩⟩
theorem de_var {i : Nat} {x : Str} (h : PE X (.Name x pos) (tVar i)) : PE X (.Name x pos) (TMe T π W (mVar i)) := h.imp fun σ H Q ⟨A, F, ρ, k, p⟩ => by
  unfold mVar at p
  cases e : ρ[i]? with
  | none => rw [e] at p; exact p.elim
  | some s =>
    cases s with
    | none => rw [e] at p; exact p.elim
    | some s =>
      cases s with
      | val d =>
        rw [e] at p
        obtain ⟨v, h1, h2⟩ := k.val i d e
        exact ⟨v, h1, p F H k .refl v h2⟩
      | own io d =>
        cases io with
        | true => rw [e] at p; exact p.elim
        | false =>
          rw [e] at p
          obtain ⟨a, F', h1, h5, h6, h7⟩ := k.freeze e
          exact ⟨.ref a, h1, p F' H h5 h7 _ h6⟩
theorem dp_var {i : Nat} {x : Str} (h : PE X (.Name x pos) (tVar i)) : PE X (.Name x pos) (TMp T π W (mPeek i)) := h.imp fun σ H Q ⟨A, F, ρ, k, p⟩ => by
  unfold mPeek at p
  cases e : ρ[i]? with
  | none => rw [e] at p; exact p.elim
  | some s =>
    cases s with
    | none => rw [e] at p; exact p.elim
    | some s =>
      cases s with
      | val d =>
        rw [e] at p
        obtain ⟨v, h1, h2⟩ := k.val i d e
        exact ⟨v, h1, p F H k .refl v h2.s⟩
      | own io d =>
        rw [e] at p
        obtain ⟨a, h1, h2, h3, h4, h5⟩ := k.own i io d e
        exact ⟨.ref a, h1, p F H k .refl _ (.inr ⟨a, rfl, h3⟩)⟩
/-! ### constants -/
theorem de_c {v : V} {d : Dt} (h : PE X e (tC v)) (r : ∀ F, Rep T F v d) : PE X e (TMe T π W (mPure d)) := h.imp fun σ H Q ⟨A, F, ρ, k, p⟩ => p.pure k v (r F)
theorem de_int {i j} : PE X (.Constant (.int i) j pos) (TMe T π W (mPure (.int i))) := de_c pe_int fun _ => .int i
theorem de_bl {i j} : PE X (.Constant (.bool i) j pos) (TMe T π W (mPure (.bl i))) := de_c pe_bl fun _ => .bl i
theorem de_non {j} : PE X (.Constant .none j pos) (TMe T π W (mPure .non)) := de_c pe_non fun _ => .non
theorem de_str {i j} : PE X (.Constant (.str i) j pos) (TMe T π W (mPure (.str i))) := de_c pe_str fun _ => .str i
/-! ### operators -/
def OpS (T : Tx) (r : R2) (f : Dt → Dt → Option Dt) : Prop := ∀ (π : Nat → Option Pin) (A : Addr → Prop) (F H : Hp) (σ : L2.St) (ρ : En) (v w : V) (d e z : Dt) (Q : VK), Ok T π A F H σ ρ → RepS T F H v d → RepS T F H w e → f d e = some z →
  (∀ F' H' u, Ok T π A F' H' σ ρ → Fr A F H F' H' → Rep T F' u z → Q u H') → r v w H Q
def UnS (T : Tx) (r : V → Hp → VK → Prop) (f : Dt → Option Dt) : Prop := ∀ (π : Nat → Option Pin) (A : Addr → Prop) (F H : Hp) (σ : L2.St) (ρ : En) (v : V) (d z : Dt) (Q : VK), Ok T π A F H σ ρ → RepS T F H v d → f d = some z →
  (∀ F' H' u, Ok T π A F' H' σ ρ → Fr A F H F' H' → Rep T F' u z → Q u H') → r v H Q
def m2 (f : Dt → Dt → Option Dt) (ma mb : Mi Dt) : Mi Dt := mBind ma fun x => mBind mb fun y => mOpt (f x y)
def m1 (f : Dt → Option Dt) (m : Mi Dt) : Mi Dt := mBind m fun x => mOpt (f x)
theorem de_tOp {r : R2} {f : Dt → Dt → Option Dt} (h : PE X e (tOp r (TMe T π W ma) (TMp T π W mb))) (hs : OpS T r f) : PE X e (TMe T π W (m2 f ma mb)) := h.imp fun σ H Q ⟨A, F, ρ, k, p⟩ =>
  ⟨A, F, ρ, k, p.bind.imp fun x ρ1 F1 H1 k1 r1 p1 v rv => ⟨A, F1, ρ1, k1, p1.bind.imp fun y ρ2 F2 H2 k2 r2 p2 w rw => by
    obtain ⟨z, e, p3⟩ := p2.opt
    exact hs π A F2 H2 σ ρ2 v w x y z Q k2 (rv.mono r2.f).s rw e fun F' H' u k' r' ru => p3 F' H' k' r' u ru⟩⟩
theorem de_bin {op : Operator} {r : R2} {f : Dt → Dt → Option Dt} (ho : OpR X (binaryOp op) r) (hs : OpS T r f) (ha : PE X a (TMe T π W ma)) (hb : PE X b (TMp T π W mb)) : PE X (.BinOp a op b pos) (TMe T π W (m2 f ma mb)) :=
  de_tOp (pe_op ho ha hb) hs
theorem de_cmp {op : CmpOp} {r : R2} {f : Dt → Dt → Option Dt} (ho : OpR X (compareOp op) r) (hs : OpS T r f) (ha : PE X a (TMe T π W ma)) (hb : PE X b (TMp T π W mb)) (hm : behindInMarks op b = false) : PE X (.Compare a [op] [b] pos) (TMe T π W (m2 f ma mb)) :=
  de_tOp (pe_cmpR ho ha hb hm) hs
theorem de_un {op : UnaryOp} {r : V → Hp → VK → Prop} {f : Dt → Option Dt} (ho : UnR X (unaryOp op) r) (hs : UnS T r f) (ha : PE X a (TMp T π W ma)) : PE X (.UnaryOp op a pos) (TMe T π W (m1 f ma)) :=
  (pe_un ho ha).imp fun σ H Q ⟨A, F, ρ, k, p⟩ => ⟨A, F, ρ, k, p.bind.imp fun x ρ1 F1 H1 k1 r1 p1 v rv => by
    obtain ⟨z, e, p3⟩ := p1.opt
    exact hs π A F1 H1 σ ρ1 v x z Q k1 rv e fun F' H' u k' r' ru => p3 F' H' k' r' u ru⟩
/-! ### tests -/
def mB (m : Mi Dt) : Mi Bool := mBind m fun d => match d with
  | .bl b => mPure b
  | _ => mBad
theorem Rep.bl_inv {F : Hp} {v : V} {b : Bool} (h : Rep T F v (.bl b)) : v = .bl b := by cases h; rfl
theorem Rep.int_inv {F : Hp} {v : V} {b : Int} (h : Rep T F v (.int b)) : v = .int b := by cases h; rfl
theorem Rep.str_inv {F : Hp} {v : V} {b : Str} (h : Rep T F v (.str b)) : v = .str b := by cases h; rfl
theorem RepS.flat {F H : Hp} {v : V} {d : Dt} (h : RepS T F H v d) (hd : match d with | .lst _ => False | .dic _ _ _ => False | .ins _ _ => False | .deal _ _ => False | .dcn _ _ => False | .tbl _ => False | _ => True) : Rep T F v d := by
  rcases h with h | ⟨a, e, h⟩
  · exact h
  · cases d <;> first | exact hd.elim | exact h.elim
theorem dt_val (h : PE X e (TMe T π W m)) (he : ∀ whole, isTrue e X.env whole = (do let v ← whole; standAt e.pos; holding [v] (truthy v)) := by intro _; rfl) : PT X e (TMt T π W (mB m)) :=
  (pt_val h he).imp fun σ H Q ⟨A, F, ρ, k, p⟩ => ⟨A, F, ρ, k, p.bind.imp fun d ρ1 F1 H1 k1 r1 p1 v rv => by
    cases d with
    | bl b => exact ⟨b, rv.bl_inv, p1.pure k1⟩
    | _ => exact p1.elim⟩
theorem dt_tOp {r : R2} {f : Dt → Dt → Option Dt} (h : PT X e (tTest (tOp r (TMe T π W ma) (TMp T π W mb)))) (hs : OpS T r f) : PT X e (TMt T π W (mB (m2 f ma mb))) := h.imp fun σ H Q ⟨A, F, ρ, k, p⟩ => by
  have p' := p.bind
  exact ⟨A, F, ρ, k, p'.bind.imp fun x ρ1 F1 H1 k1 r1 p1 v rv => ⟨A, F1, ρ1, k1, p1.bind.imp fun y ρ2 F2 H2 k2 r2 p2 w rw => by
    obtain ⟨z, e, p3⟩ := p2.opt
    refine hs π A F2 H2 σ ρ2 v w x y z _ k2 (rv.mono r2.f).s rw e fun F' H' u k' r' ru => ?_
    have p4 := p3 F' H' k' r'
    cases z with
    | bl b => exact ⟨b, ru.bl_inv, p4 F' H' k' .refl⟩
    | _ => exact p4.elim⟩⟩
theorem dt_cmp {op : CmpOp} {r : R2} {f : Dt → Dt → Option Dt} (ho : OpR X (compareOp op) r) (hs : OpS T r f) (ha : PE X a (TMe T π W ma)) (hb : PE X b (TMp T π W mb)) (hm : behindInMarks op b = false) : PT X (.Compare a [op] [b] pos) (TMt T π W (mB (m2 f ma mb))) :=
  dt_tOp (pt_cmpR ho ha hb hm) hs
variable {ta tb : Mi Bool} {rest : List Expr}
def mAnd (s t : Mi Bool) : Mi Bool := mBind s fun b => match b with | true => t | false => mPure false
def mOr (s t : Mi Bool) : Mi Bool := mBind s fun b => match b with | true => mPure true | false => t
def mNot (s : Mi Bool) : Mi Bool := mBind s fun b => mPure (!b)
theorem _root_.L2.PW.imp {t t' : TT} (h : PW X e t) (f : ∀ σ H Q, t' σ H Q → t σ H Q) : PW X e t' := ⟨fun wh pins s σ H Q I q => h.run wh pins s σ H Q I (f σ H Q q)⟩
theorem dw_or1 (ha : PT X a (TMt T π W ta)) : PW X (.BoolOp .Or [a] pos) (TMt T π W ta) := pw_or1 ha
theorem dw_or (ha : PT X a (TMt T π W ta)) (hb : PW X (.BoolOp .Or (b :: rest) pos) (TMt T π W tb)) : PW X (.BoolOp .Or (a :: b :: rest) pos) (TMt T π W (mOr ta tb)) :=
  PW.imp (pw_or ha hb) fun σ H Q ⟨A, F, ρ, k, p⟩ => ⟨A, F, ρ, k, p.bind.imp fun c ρ1 F1 H1 k1 r1 p1 => by
    cases c with
    | false => exact iteF ⟨A, F1, ρ1, k1, p1⟩
    | true => exact iteT (p1.pure k1)⟩
theorem dt_not (ha : PT X a (TMt T π W ta)) : PT X (.UnaryOp .Not a pos) (TMt T π W (mNot ta)) := (pt_not ha).imp fun σ H Q ⟨A, F, ρ, k, p⟩ => ⟨A, F, ρ, k, p.bind.imp fun c ρ1 F1 H1 k1 r1 p1 => p1.pure k1⟩
/-! ### and, or, not as values -/
/-- a if t else b -/
def mIfE (t : Mi Bool) (ma mb : Mi Dt) : Mi Dt := mBind t fun b => match b with | true => ma | false => mb
theorem de_ifExp (hc : PT X c (TMt T π W ta)) (ha : PE X a (TMe T π W ma)) (hb : PE X b (TMe T π W mb)) : PE X (.IfExp c a b pos) (TMe T π W (mIfE ta ma mb)) :=
  (pe_ifExp hc ha hb).imp fun σ H Q ⟨A, F, ρ, k, p⟩ => ⟨A, F, ρ, k, p.bind.imp fun c ρ1 F1 H1 k1 r1 p1 => by
    cases c with
    | true => exact iteT ⟨A, F1, ρ1, k1, p1⟩
    | false => exact iteF ⟨A, F1, ρ1, k1, p1⟩⟩
/-! ### displays -/
def mCons (m : Mi Dt) (ms : Mi (List Dt)) : Mi (List Dt) := mBind m fun d => mBind ms fun ds => mPure (d :: ds)
variable {ms : Mi (List Dt)}
theorem da_nil : PA X [] (TMa T π W (mPure [])) := pa_nil.imp fun σ H Q ⟨A, F, ρ, k, p⟩ => p.pure k [] .nil
theorem da_cons (he : PE X e (TMe T π W m)) (hr : PA X es (TMa T π W ms)) (hs : starEach (e :: es) X.env = (false, eval e X.env) :: starEach es X.env := by rfl) : PA X (e :: es) (TMa T π W (mCons m ms)) :=
  (pa_cons he hr hs).imp fun σ H Q ⟨A, F, ρ, k, p⟩ => ⟨A, F, ρ, k, p.bind.imp fun d ρ1 F1 H1 k1 r1 p1 v rv => ⟨A, F1, ρ1, k1, p1.bind.imp fun ds ρ2 F2 H2 k2 r2 p2 vs rvs => p2.pure k2 (v :: vs) (.cons (rv.mono r2.f) rvs)⟩⟩
theorem RepS.seq {F H : Hp} {v : V} {d : Dt} {xs : List Dt} (h : RepS T F H v d) (le : Le F H) (hd : d = .lst xs ∨ d = .tup xs) : ∃ p vs, v = .ref p ∧ (SqL T.K H p vs ∨ SqT T.K H p vs) ∧ Reps T F vs xs ∧ (d = .lst xs → SqL T.K H p vs) ∧ (d = .tup xs → SqT T.K H p vs) := by
  rcases h with h | ⟨a, e, h⟩
  · rcases hd with rfl | rfl
    · cases h with
      | lst q r => exact ⟨_, _, rfl, .inl (SqL.of (le _ _ q)), r, fun _ => SqL.of (le _ _ q), fun z => by cases z⟩
    · obtain ⟨a, vs, e, q, r⟩ := h.tup_inv
      exact ⟨a, vs, e, .inr (sqt_mono le q), r, (fun z => by cases z), fun _ => sqt_mono le q⟩
  · rcases hd with rfl | rfl
    · obtain ⟨vs, q, r⟩ := h
      exact ⟨a, vs, e, .inl (SqL.of q), r, fun _ => SqL.of q, fun z => by cases z⟩
    · exact h.elim
def mTup (ms : Mi (List Dt)) : Mi Dt := mBind ms fun ds => if ds.length ≤ sizeLine then mPure (.tup ds) else mBad
def mLst (ms : Mi (List Dt)) : Mi Dt := mBind ms fun ds => if ds.length ≤ sizeLine then mPure (.lst ds) else mBad
theorem de_tup {x1} (h : PA X es (TMa T π W ms)) : PE X (.Tuple es x1 pos) (TMe T π W (mTup ms)) := (pe_tup h).imp fun σ H Q ⟨A, F, ρ, k, p⟩ => ⟨A, F, ρ, k, p.bind.imp fun ds ρ1 F1 H1 k1 r1 p1 vs rvs => by
  split at p1
  · rename_i hl
    refine ⟨by rw [rvs.length]; exact hl, fun x hx => ?_⟩
    exact p1 (upd F1 x (.tup vs)) (upd H1 x (.tup vs)) (k1.new hx) (.new k1.le hx) _ (.tup upd_same (rvs.mono (le_new (f_none k1.le hx))))
  · exact p1.elim⟩
/-- a fresh address is no slot's own -/
theorem Ok.fresh_own {A : Addr → Prop} {F H : Hp} {σ : L2.St} {ρ : En} (k : Ok T π A F H σ ρ) {p : Addr} (hp : H p = none) : ¬ IsOwn H σ ρ p := fun w => by
  obtain ⟨_, _, o, e⟩ := k.ownH w
  rw [hp] at e; cases e
theorem Ok.fresh_new {A : Addr → Prop} {F H : Hp} {σ : L2.St} {ρ : En} (k : Ok T π A F H σ ρ) {p : Addr} {o : HO} (hp : H p = none) : ¬ IsOwn (upd H p o) σ ρ p := fun w =>
  k.fresh_own hp ((k.sameOwn fun a u _ e => le_new hp a u e).mp w)
end
end Dl
namespace Dl
open PySem PySem.Spec PyProof.Rows L2
section
variable {X : Cx} {T : Tx} {π : Nat → Option Pin} {W : WX} {a b c e : Expr} {es : List Expr} {pos : Pos} {m ma mb mc : Mi Dt} {ms : Mi (List Dt)} {A A' : Addr → Prop} {F H F' H' F0 H0 : Hp} {σ : L2.St} {ρ : En}
theorem Ok.weak (k : Ok T π A F H σ ρ) (h : ∀ a, A a → A' a) : Ok T π A' F H σ ρ := ⟨k.le, k.len, k.val, fun i io d e => by
  obtain ⟨x, h1, h2, h3, h4, h5⟩ := k.own i io d e
  exact ⟨x, h1, h2, h3, h _ h4, h5.1, fun y hy => ⟨(h5.2 y hy).1, h _ (h5.2 y hy).2⟩⟩, k.dis⟩
theorem Ok.tight (k : Ok T π A F H σ ρ) : Ok T π (IsOwn H σ ρ) F H σ ρ := ⟨k.le, k.len, k.val, fun i io d e => by
  obtain ⟨x, h1, h2, h3, h4, h5⟩ := k.own i io d e
  exact ⟨x, h1, h2, h3, ⟨i, io, d, x, e, h1, .inl rfl⟩, h5.1, fun y hy => ⟨(h5.2 y hy).1, ⟨i, io, d, x, e, h1, .inr hy⟩⟩⟩, k.dis⟩
theorem Fr.weak (r : Fr A F H F' H') (h : ∀ a, A a → A' a) : Fr A' F H F' H' := ⟨r.f, fun a o n e => r.h a o (fun z => n (h a z)) e, fun a o n e t => r.n a o (fun z => n (h a z)) e t, r.t⟩
theorem Post.weak {α : Type} {P : α → En → Hp → Hp → Prop} {o : Ou α} (p : Post T π W σ A F H P o) (h : ∀ a, A' a → A a) : Post T π W σ A' F H P o := by
  cases o with
  | ok a ρ' => exact fun F' H' k r => p F' H' (k.weak h) (r.weak h)
  | exc x ρ' => exact fun F' H' c d k r => p F' H' c d (k.weak h) (r.weak h)
  | bad => exact p
theorem Ok.ownA (k : Ok T π A F H σ ρ) {a : Addr} (w : IsOwn H σ ρ a) : A a := (k.ownH w).1
/-- [..]: a new list -/
theorem dn_lst (h : PA X es (TMa T π W ms)) : PE X (.List es pos) (TMn T π W (mLst ms)) := (pe_lst h).imp fun σ H Q ⟨A, F, ρ, k, p⟩ => ⟨A, F, ρ, k, p.bind.imp fun ds ρ1 F1 H1 k1 r1 p1 vs rvs => by
  split at p1
  · rename_i hl
    refine ⟨by rw [rvs.length]; exact hl, fun x hx => ?_⟩
    exact p1 F1 (upd H1 x (.lst vs)) (k1.newO hx) (.newO hx) x (f_none k1.le hx) (k1.fresh_new hx) (r1.t x hx) ⟨vs, upd_same, rvs⟩ (fun _ z => nomatch z)
  · exact p1.elim⟩
/-! ### several values, some of them new objects -/
inductive Gk (T : Tx) (F H : Hp) (A : Addr → Prop) : List Bool → List V → List Dt → List Addr → Prop
  | nil : Gk T F H A [] [] [] []
  | val {v : V} {d : Dt} {ks : List Bool} {vs : List V} {ds : List Dt} {as : List Addr} : Rep T F v d → Gk T F H A ks vs ds as → Gk T F H A (false :: ks) (v :: vs) (d :: ds) as
  | own {p : Addr} {d : Dt} {ks : List Bool} {vs : List V} {ds : List Dt} {as : List Addr} : F p = none → ¬ A p → OwnAt T F H p d → p ∉ as → (∀ x ∈ inH H p d, F x = none ∧ ¬ A x ∧ x ∉ as) → Gk T F H A ks vs ds as → Gk T F H A (true :: ks) (.ref p :: vs) (d :: ds) (p :: (inH H p d ++ as))
variable {ks : List Bool}
/-! ### statements -/
inductive So where
  | nx (ρ : En) | rt (d : Dt) (ρ : En) | rtN (d : Dt) (ρ : En) | bk (ρ : En) | ct (ρ : En) | exc (x : Ex) (ρ : En) | bad
structure StOk (T : Tx) (π : Nat → Option Pin) (A : Addr → Prop) (F0 H0 F H : Hp) (σ : L2.St) (ρ : En) : Prop where
  ok : Ok T π (fun a => A a ∨ H0 a = none) F H σ ρ
  fr : Fr A F0 H0 F H
theorem StOk.step {σ' : L2.St} {ρ' : En} (s : StOk T π A F0 H0 F H σ ρ) (k : Ok T π (fun a => A a ∨ H0 a = none) F' H' σ' ρ') (r : Fr (fun a => A a ∨ H0 a = none) F H F' H') : StOk T π A F0 H0 F' H' σ' ρ' :=
  ⟨k, le_trans s.fr.f r.f, fun a o n e => r.h a o (fun z => z.elim n fun z => by rw [z] at e; cases e) (s.fr.h a o n e), fun a o n e t => by
    rw [r.n a o (fun z => z.elim n fun z => by rw [z] at e; cases e) (s.fr.h a o n e) t, s.fr.n a o n e t], fun a e => s.fr.t a (r.t a e)⟩
theorem StOk.start (s : StOk T π A F0 H0 F H σ ρ) {σ' : L2.St} {ρ' : En} (k : Ok T π (fun a => A a ∨ H0 a = none) F H σ' ρ') : StOk T π (fun a => A a ∨ H0 a = none) F H F H σ' ρ' := ⟨k.weak fun _ z => .inl z, .refl⟩
theorem StOk.rebase {σ' : L2.St} {ρ' : En} (s : StOk T π A F0 H0 F H σ ρ) (k : StOk T π (fun a => A a ∨ H0 a = none) F H F' H' σ' ρ') : StOk T π A F0 H0 F' H' σ' ρ' :=
  s.step (k.ok.weak fun a z => z.elim id fun z => .inr (s.fr.t a z)) k.fr
def PostS (T : Tx) (π : Nat → Option Pin) (W : WX) (A : Addr → Prop) (F0 H0 : Hp) (D : Ends) : So → Prop
  | .nx ρ' => ∀ σ' F' H', StOk T π A F0 H0 F' H' σ' ρ' → D.nx σ' H'
  | .bk ρ' => ∀ σ' F' H', StOk T π A F0 H0 F' H' σ' ρ' → D.bk σ' H'
  | .ct ρ' => ∀ σ' F' H', StOk T π A F0 H0 F' H' σ' ρ' → D.ct σ' H'
  | .rt d ρ' => ∀ σ' F' H' v, StOk T π A F0 H0 F' H' σ' ρ' → Rep T F' v d → D.rt v H'
  | .rtN d ρ' => ∀ σ' F' H' p, StOk T π A F0 H0 F' H' σ' ρ' → F' p = none → ¬ IsOwn H' σ' ρ' p → (A p ∨ H0 p = none) → OwnAt T F' H' p d → (∀ x ∈ inH H' p d, F' x = none ∧ ¬ IsOwn H' σ' ρ' x ∧ (A x ∨ H0 x = none)) → D.rt (.ref p) H'
  | .exc x ρ' => ∀ σ' F' H' cls d, StOk T π A F0 H0 F' H' σ' ρ' → RepX T F' H' cls d x → W cls d σ' H'
  | .bad => False
def TMs (T : Tx) (π : Nat → Option Pin) (W : WX) (s : En → So) : TS := fun D σ H => ∃ A F0 H0 F ρ, StOk T π A F0 H0 F H σ ρ ∧ PostS T π W A F0 H0 D (s ρ)
def sBind {α : Type} (m : Mi α) (k : α → En → So) : En → So := fun ρ => match m ρ with
  | .ok a ρ' => k a ρ'
  | .exc x ρ' => .exc x ρ'
  | .bad => .bad
theorem PostS.bind {α : Type} {D : Ends} {m : Mi α} {k : α → En → So} (p : PostS T π W A F0 H0 D (sBind m k ρ)) (s : StOk T π A F0 H0 F H σ ρ) :
    Post T π W σ (fun a => A a ∨ H0 a = none) F H (fun a ρ1 F1 H1 => StOk T π A F0 H0 F1 H1 σ ρ1 ∧ PostS T π W A F0 H0 D (k a ρ1)) (m ρ) := by
  unfold sBind at p
  cases e : m ρ with
  | ok x ρ1 =>
    rw [e] at p
    exact fun F1 H1 k1 r1 => ⟨s.step k1 r1, p⟩
  | exc x ρ1 =>
    rw [e] at p
    exact fun F1 H1 c d k1 r1 x => p σ F1 H1 c d (s.step k1 r1) x
  | bad => rw [e] at p; exact p.elim
variable {s t : En → So} {st : Stmt} {rest : List Stmt}
def sSeq (s t : En → So) : En → So := fun ρ => match s ρ with
  | .nx ρ' => t ρ'
  | o => o
theorem dss_cons (h1 : PS X st (TMs T π W s)) (h2 : PSs X rest (TMs T π W t)) : PSs X (st :: rest) (TMs T π W (sSeq s t)) := (pss_cons h1 h2).imp fun D σ H ⟨A, F0, H0, F, ρ, k, p⟩ => ⟨A, F0, H0, F, ρ, k, by
  unfold sSeq at p
  cases e : s ρ with
  | nx ρ' => rw [e] at p; exact fun σ' F' H' k' => ⟨A, F0, H0, F', ρ', k', p⟩
  | rt d ρ' => rw [e] at p; exact p
  | rtN d ρ' => rw [e] at p; exact p
  | bk ρ' => rw [e] at p; exact p
  | ct ρ' => rw [e] at p; exact p
  | exc d ρ' => rw [e] at p; exact p
  | bad => rw [e] at p; exact p⟩
theorem dss_one (h1 : PS X st (TMs T π W s)) : PSs X [st] (TMs T π W s) := pss_one h1
theorem dss_nil : PSs X [] (TMs T π W (fun ρ => .nx ρ)) := pss_nil.imp fun D σ H ⟨A, F0, H0, F, ρ, k, p⟩ => p σ F H k
def sIf (c : Mi Bool) (s t : En → So) : En → So := sBind c fun b => match b with | true => s | false => t
theorem ds_if {x y : List Stmt} {mc : Mi Bool} (hc : PT X c (TMt T π W mc)) (ha : PSs X x (TMs T π W s)) (hb : PSs X y (TMs T π W t)) : PS X (.If c x y pos) (TMs T π W (sIf mc s t)) :=
  (ps_if hc ha hb).imp fun D σ H ⟨A, F0, H0, F, ρ, k, p⟩ => ⟨_, F, ρ, k.ok, (p.bind k).imp fun b ρ1 F1 H1 _ _ ⟨k1, p1⟩ => by
    cases b with
    | true => exact iteT ⟨A, F0, H0, F1, ρ1, k1, p1⟩
    | false => exact iteF ⟨A, F0, H0, F1, ρ1, k1, p1⟩⟩
def sRet (m : Mi Dt) : En → So := sBind m fun d ρ => .rt d ρ
def sRetN (m : Mi Dt) : En → So := sBind m fun d ρ => .rtN d ρ
def sDrop (m : Mi Dt) : En → So := sBind m fun _ ρ => .nx ρ
theorem ds_ret (he : PE X e (TMe T π W m)) : PS X (.Return (some e) pos) (TMs T π W (sRet m)) := (ps_ret he).imp fun D σ H ⟨A, F0, H0, F, ρ, k, p⟩ => ⟨_, F, ρ, k.ok, (p.bind k).imp fun d ρ1 F1 H1 _ _ ⟨k1, p1⟩ v rv => p1 σ F1 H1 v k1 rv⟩
theorem ds_retN (he : PE X e (TMn T π W m)) : PS X (.Return (some e) pos) (TMs T π W (sRetN m)) := (ps_ret he).imp fun D σ H ⟨A, F0, H0, F, ρ, k, p⟩ => ⟨_, F, ρ, k.ok, (p.bind k).imp fun d ρ1 F1 H1 _ _ ⟨k1, p1⟩ x h1 h2 h3 h4 h5 =>
  p1 σ F1 H1 x k1 h1 h2 (.inr (k.fr.t x h3)) h4 fun y hy => ⟨(h5 y hy).1, (h5 y hy).2.1, .inr (k.fr.t y (h5 y hy).2.2)⟩⟩
theorem ds_expr (he : PE X e (TMe T π W m)) (hs : swapsWith e none pos.line X.env = pure false := by rfl) : PS X (.Expr e pos) (TMs T π W (sDrop m)) := (ps_expr he hs).imp fun D σ H ⟨A, F0, H0, F, ρ, k, p⟩ => ⟨_, F, ρ, k.ok, (p.bind k).imp fun d ρ1 F1 H1 _ _ ⟨k1, p1⟩ v rv => p1 σ F1 H1 k1⟩
/-! ### names are stored -/
def setSl (i : Nat) (s : Sl) (ρ : En) : Option En := match ρ[i]? with
  | some (some (.own true _)) => none
  | some _ => some (ρ.set i (some s))
  | none => none
theorem setSl_inv {i : Nat} {s : Sl} {ρ ρ' : En} (h : setSl i s ρ = some ρ') : i < ρ.length ∧ ρ' = ρ.set i (some s) ∧ ∀ d, ρ[i]? ≠ some (some (.own true d)) := by
  unfold setSl at h
  split at h
  · cases h
  · rename_i x hn hx
    cases h
    exact ⟨(List.getElem?_eq_some_iff.mp hx).1, rfl, fun d z => hn d (Option.some.inj (hx.symm.trans z))⟩
  · cases h
theorem Ok.set {i : Nat} {v : V} {d : Dt} {ρ' : En} (k : Ok T π A F H σ ρ) (r : Rep T F v d) (h : setSl i (.val d) ρ = some ρ') : Ok T π A F H (σ.set i (some v)) ρ' := by
  obtain ⟨hi, rfl, hio⟩ := setSl_inv h
  have hσ : i < σ.length := by rw [k.len]; exact hi
  have ol : ∀ (j : Nat) jo dj, (ρ.set i (some (.val d)))[j]? = some (some (.own jo dj)) → i ≠ j ∧ ρ[j]? = some (some (.own jo dj)) := fun j jo dj ej => by
    by_cases hj : i = j
    · subst hj; rw [List.getElem?_set_self hi] at ej; cases ej
    · rw [List.getElem?_set_ne hj] at ej; exact ⟨hj, ej⟩
  refine ⟨k.le, by simpa using k.len, fun j dj ej => ?_, fun j jo dj ej => ?_, fun j l jo lo dj dl a b x ej el sj sl => ?_⟩
  · by_cases hj : i = j
    · subst hj
      rw [List.getElem?_set_self hi] at ej
      cases ej
      exact ⟨v, List.getElem?_set_self hσ, r⟩
    · rw [List.getElem?_set_ne hj] at ej
      rw [List.getElem?_set_ne hj]
      exact k.val j dj ej
  · obtain ⟨hj, q⟩ := ol j jo dj ej
    rw [List.getElem?_set_ne hj]
    exact k.own j jo dj q
  · obtain ⟨hj, q⟩ := ol j jo dj ej
    obtain ⟨hl, q2⟩ := ol l lo dl el
    rw [List.getElem?_set_ne hj] at sj
    rw [List.getElem?_set_ne hl] at sl
    exact k.dis j l jo lo dj dl a b x q q2 sj sl
theorem Ok.setN {i : Nat} {p : Addr} {d : Dt} {ρ' : En} (k : Ok T π A F H σ ρ) (hf : F p = none) (hn : ¬ IsOwn H σ ρ p) (hA : A p) (ho : OwnAt T F H p d) (hI : ∀ x ∈ inH H p d, F x = none ∧ ¬ IsOwn H σ ρ x ∧ A x) (h : setSl i (.own false d) ρ = some ρ') : Ok T π A F H (σ.set i (some (.ref p))) ρ' := by
  obtain ⟨hi, rfl, hio⟩ := setSl_inv h
  have hσ : i < σ.length := by rw [k.len]; exact hi
  have nI : ∀ x, (x = p ∨ x ∈ inH H p d) → ¬ IsOwn H σ ρ x := fun x hx => hx.elim (fun z => z ▸ hn) fun z => (hI x z).2.1
  refine ⟨k.le, by simpa using k.len, fun j dj ej => ?_, fun j jo dj ej => ?_, fun j l jo lo dj dl a b x ej el sj sl xj xl => ?_⟩
  · by_cases hj : i = j
    · subst hj
      rw [List.getElem?_set_self hi] at ej
      cases ej
    · rw [List.getElem?_set_ne hj] at ej
      rw [List.getElem?_set_ne hj]
      exact k.val j dj ej
  · by_cases hj : i = j
    · subst hj
      rw [List.getElem?_set_self hi] at ej
      cases ej
      exact ⟨p, List.getElem?_set_self hσ, hf, ho, hA, (fun z => by cases z), fun x hx => ⟨(hI x hx).1, (hI x hx).2.2⟩⟩
    · rw [List.getElem?_set_ne hj] at ej
      rw [List.getElem?_set_ne hj]
      exact k.own j jo dj ej
  · by_cases hj : i = j
    · by_cases hl : i = l
      · rw [← hj, ← hl]
      · subst hj
        rw [List.getElem?_set_ne hl] at el sl
        rw [List.getElem?_set_self hσ] at sj
        rw [List.getElem?_set_self hi] at ej
        cases sj; cases ej
        exact absurd ⟨l, lo, dl, b, el, sl, xl⟩ (nI x xj)
    · by_cases hl : i = l
      · subst hl
        rw [List.getElem?_set_ne hj] at ej sj
        rw [List.getElem?_set_self hσ] at sl
        rw [List.getElem?_set_self hi] at el
        cases sl; cases el
        exact absurd ⟨j, jo, dj, a, ej, sj, xj⟩ (nI x xl)
      · rw [List.getElem?_set_ne hj] at ej sj
        rw [List.getElem?_set_ne hl] at el sl
        exact k.dis j l jo lo dj dl a b x ej el sj sl xj xl
def sPut (i : Nat) (s : Sl) : En → So := fun ρ => match setSl i s ρ with
  | some ρ' => .nx ρ'
  | none => .bad
def sSet (i : Nat) (m : Mi Dt) : En → So := sBind m fun d => sPut i (.val d)
def sSetN (i : Nat) (m : Mi Dt) : En → So := sBind m fun d => sPut i (.own false d)
theorem ds_asgV {i : Nat} (h : PS X st (tAsg (TMe T π W m) (gName i))) : PS X st (TMs T π W (sSet i m)) := h.imp fun D σ H ⟨A, F0, H0, F, ρ, k, p⟩ => ⟨_, F, ρ, k.ok, (p.bind k).imp fun d ρ1 F1 H1 _ _ ⟨k1, p1⟩ v rv => by
  unfold sPut at p1
  cases e : setSl i (.val d) ρ1 with
  | none => rw [e] at p1; exact p1.elim
  | some ρ' => rw [e] at p1; exact p1 _ F1 H1 ⟨k1.ok.set rv e, k1.fr⟩⟩
theorem ds_asgN {i : Nat} (h : PS X st (tAsg (TMn T π W m) (gName i))) : PS X st (TMs T π W (sSetN i m)) := h.imp fun D σ H ⟨A, F0, H0, F, ρ, k, p⟩ => ⟨_, F, ρ, k.ok, (p.bind k).imp fun d ρ1 F1 H1 _ _ ⟨k1, p1⟩ x h1 h2 h3 h4 h5 => by
  unfold sPut at p1
  cases e : setSl i (.own false d) ρ1 with
  | none => rw [e] at p1; exact p1.elim
  | some ρ' => rw [e] at p1; exact p1 _ F1 H1 ⟨k1.ok.setN h1 h2 (.inr (k.fr.t x h3)) h4 (fun y hy => ⟨(h5 y hy).1, (h5 y hy).2.1, .inr (k.fr.t y (h5 y hy).2.2)⟩) e, k1.fr⟩⟩
/-! ### targets -/
def TMg (T : Tx) (π : Nat → Option Pin) (g : Dt → En → Option En) (sl : List Nat) : TG := fun v σ H Q => ∃ A F ρ d ρ', Ok T π A F H σ ρ ∧ Rep T F v d ∧ g d ρ = some ρ' ∧
  ∀ σ', Ok T π A F H σ' ρ' → σ'.length = σ.length → (∀ i, i ∉ sl → σ'[i]? = σ[i]?) → Q σ' H
def TMgs (T : Tx) (π : Nat → Option Pin) (g : List Dt → En → Option En) (sl : List Nat) : TGs := fun vs σ H Q => ∃ A F ρ ds ρ', Ok T π A F H σ ρ ∧ Reps T F vs ds ∧ g ds ρ = some ρ' ∧
  ∀ σ', Ok T π A F H σ' ρ' → σ'.length = σ.length → (∀ i, i ∉ sl → σ'[i]? = σ[i]?) → Q σ' H
theorem _root_.L2.PGs.imp {ts : List Expr} {t t' : TGs} (h : PGs X ts t) (f : ∀ v σ H Q, t' v σ H Q → t v σ H Q) : PGs X ts t' := ⟨fun pins s σ H v u Q I r q => h.run pins s σ H v u Q I r (f v σ H Q q)⟩
def gV (i : Nat) : Dt → En → Option En := fun d => setSl i (.val d)
theorem dg_name {i : Nat} (h : PG X e (gName i)) : PG X e (TMg T π (gV i) [i]) := h.imp fun v σ H Q ⟨A, F, ρ, d, ρ', k, r, e, q⟩ => q _ (k.set r e) (by simp) fun j hj => List.getElem?_set_ne (fun z => hj (by simp [z]))
def gsN : List Dt → En → Option En
  | [], ρ => some ρ
  | _, _ => none
def gsC (g : Dt → En → Option En) (gs : List Dt → En → Option En) : List Dt → En → Option En
  | d :: ds, ρ => (g d ρ).bind (gs ds)
  | [], _ => none
theorem dgs_nil : PGs X [] (TMgs T π gsN []) := pgs_nil.imp fun vs σ H Q ⟨A, F, ρ, ds, ρ', k, r, e, q⟩ => by
  cases ds with
  | nil => cases r; cases e; exact ⟨rfl, q σ k rfl fun _ _ => rfl⟩
  | cons _ _ => cases e
theorem dgs_cons {g : Dt → En → Option En} {gs : List Dt → En → Option En} {sl sls : List Nat} (h1 : PG X e (TMg T π g sl)) (h2 : PGs X es (TMgs T π gs sls)) (hs : (assignEach (e :: es) X.env).map (·.2) = assign e X.env :: (assignEach es X.env).map (·.2) := by rfl) :
    PGs X (e :: es) (TMgs T π (gsC g gs) (sl ++ sls)) := (pgs_cons h1 h2 hs).imp fun vs σ H Q ⟨A, F, ρ, ds, ρ', k, r, e, q⟩ => by
  cases ds with
  | nil => cases e
  | cons d ds =>
    cases r with
    | @cons v vs _ _ rv rvs =>
      have e' : (g d ρ).bind (gs ds) = some ρ' := e
      cases e1 : g d ρ with
      | none => rw [e1] at e'; cases e'
      | some ρ1 =>
        rw [e1] at e'
        exact ⟨v, vs, rfl, A, F, ρ, d, ρ1, k, rv, e1, fun σ1 k1 l1 s1 => ⟨A, F, ρ1, ds, ρ', k1, rvs, e', fun σ2 k2 l2 s2 => q σ2 k2 (l2.trans l1) fun i hi => by
          rw [List.mem_append, not_or] at hi
          rw [s2 i hi.2, s1 i hi.1]⟩⟩
def gT (gs : List Dt → En → Option En) (n : Nat) : Dt → En → Option En
  | .tup ds, ρ => if ds.length = n then gs ds ρ else none
  | _, _ => none
theorem dg_tup {k : Nat} {gs : List Dt → En → Option En} {sl : List Nat} {n : Nat} (hK : X.K = T.K) (hc : X.calm = true) (h : PGs X es (TMgs T π gs sl))
    (hn : (assignEach es X.env).length = n := by rfl) (hst : (assignEach es X.env).findIdx? (·.1) = none := by rfl) : PG X (.Tuple es k pos) (TMg T π (gT gs n) sl) := (pg_tup hc h hn hst).imp fun v σ H Q ⟨A, F, ρ, d, ρ', k, r, e, q⟩ => by
  cases d with
  | tup ds =>
    obtain ⟨a, vs, ev, hq, rs⟩ := r.tup_inv
    have e' : (if ds.length = n then gs ds ρ else none) = some ρ' := e
    by_cases hl : ds.length = n
    · rw [if_pos hl] at e'
      exact ⟨a, vs, ev, by rw [hK]; exact sqt_mono k.le hq, by rw [rs.length]; exact hl, A, F, ρ, ds, ρ', k, rs, e', q⟩
    · rw [if_neg hl] at e'; cases e'
  | _ => cases e
def sAsg (m : Mi Dt) (g : Dt → En → Option En) : En → So := sBind m fun d ρ => match g d ρ with
  | some ρ' => .nx ρ'
  | none => .bad
/-! ### loops -/
/-- J walks ds while what is frozen in F stands -/
structure Wk (T : Tx) (J : It) (ds : List Dt) (F : Hp) : Prop where
  goes : ∀ i H, i < ds.length → Le F H → J.go i H
  stops : ∀ H, Le F H → J.stop ds.length H
  yields : ∀ i H x H' d, ds[i]? = some d → Le F H → J.yld i H x H' → (H' = H ∧ Rep T F x d) ∨ ∃ p vs es, H p = none ∧ H' = upd H p (.tup vs) ∧ x = .ref p ∧ Reps T F vs es ∧ d = .tup es
def TMi (T : Tx) (π : Nat → Option Pin) (W : WX) (m : Mi (List Dt)) : TI := fun σ H R => ∃ A F ρ, Ok T π A F H σ ρ ∧ Post T π W σ A F H (fun ds _ F' H' => ∀ J, Wk T J ds F' → R J H') (m ρ)
/-- what a turn yields, frozen -/
theorem Wk.turn {J : It} {ds : List Dt} {Fs : Hp} (w : Wk T J ds Fs) {i : Nat} {x : V} {d : Dt} (hd : ds[i]? = some d) (k : Ok T π A F H σ ρ) (le : Le Fs F) (y : J.yld i H x H') :
    ∃ F', Ok T π A F' H' σ ρ ∧ Fr A F H F' H' ∧ Rep T F' x d ∧ Le Fs F' := by
  rcases w.yields i H x H' d hd (le_trans le k.le) y with ⟨rfl, r⟩ | ⟨p, vs, es, hp, rfl, rfl, rs, rfl⟩
  · exact ⟨F, k, .refl, r.mono le, le⟩
  · exact ⟨upd F p (.tup vs), k.new hp, .new k.le hp, .tup upd_same ((rs.mono le).mono (le_new (f_none k.le hp))), le_trans le (le_new (f_none k.le hp))⟩
def forGo (g : Dt → En → Option En) (b : En → So) : List Dt → En → So
  | [], ρ => .nx ρ
  | d :: ds, ρ => match g d ρ with
    | none => .bad
    | some ρ1 => match b ρ1 with
      | .nx ρ2 => forGo g b ds ρ2
      | .ct ρ2 => forGo g b ds ρ2
      | .bk ρ2 => .nx ρ2
      | o => o
def sFor (m : Mi (List Dt)) (g : Dt → En → Option En) (b : En → So) : En → So := sBind m (forGo g b)
theorem walk_of_wk {J : It} {ds : List Dt} {Fs : Hp} (w : Wk T J ds Fs) : Walk J ds.length (fun H => Le Fs H) (fun i H x H' => J.yld i H x H') := ⟨fun i H hi h => w.goes i H hi h, fun H h => w.stops H h, fun _ _ _ _ _ _ y => y⟩
theorem ds_for {tg iter : Expr} {body : List Stmt} {g : Dt → En → Option En} {sl : List Nat} {bm : En → So} (hp : PassesOwn (model X.prog X.w) X.A X.env X.xe) (hc : X.calm = true) (hi : PI X tg iter (TMi T π W ms)) (hg : PG X tg (TMg T π g sl)) (hb : PSs X body (TMs T π W bm))
    (hs : ∀ x, foldedSetIterable iter X.env x = pure x := by intro _; rfl) : PS X (.For tg iter body [] pos) (TMs T π W (sFor ms g bm)) := (ps_for hp hc hi hg hb hs).imp fun D σ H ⟨A, F0, H0, F, ρ, k, p⟩ =>
  ⟨_, F, ρ, k.ok, (p.bind k).imp fun ds ρ1 F1 H1 _ _ ⟨k1, p1⟩ J w => by
    refine for_it (walk_of_wk w) (fun i σ H => ∃ F ρ, StOk T π A F0 H0 F H σ ρ ∧ Le F1 F ∧ PostS T π W A F0 H0 D (forGo g bm (ds.drop i) ρ)) ⟨F1, ρ1, k1, le_refl F1, p1⟩ (fun i σ H _ ⟨F, ρ, k, l, _⟩ => le_trans l k.ok.le) (fun i x σ H H' hi ⟨F, ρ, k, l, p⟩ y => ?_) (fun σ H ⟨F, ρ, k, l, p⟩ => ?_)
    · have hd : ds[i]? = some ds[i] := List.getElem?_eq_getElem hi
      obtain ⟨F', k', r', rx, l'⟩ := w.turn hd k.ok l y
      rw [List.drop_eq_getElem_cons hi] at p
      unfold forGo at p
      cases e : g ds[i] ρ with
      | none => rw [e] at p; exact p.elim
      | some ρ2 =>
        rw [e] at p
        have k0 := k.step k' r'
        refine ⟨_, F', ρ, ds[i], ρ2, k', rx, e, fun σ2 k2 _ _ => ⟨_, F', H', F', ρ2, k0.start k2, ?_⟩⟩
        dsimp only at p
        cases eb : bm ρ2 with
        | nx ρ3 => rw [eb] at p; exact fun σ3 F3 H3 k3 => ⟨F3, ρ3, k0.rebase k3, le_trans l' k3.fr.f, p⟩
        | ct ρ3 => rw [eb] at p; exact fun σ3 F3 H3 k3 => ⟨F3, ρ3, k0.rebase k3, le_trans l' k3.fr.f, p⟩
        | bk ρ3 => rw [eb] at p; exact fun σ3 F3 H3 k3 => p σ3 F3 H3 (k0.rebase k3)
        | rt d ρ3 => rw [eb] at p; exact fun σ3 F3 H3 v k3 => p σ3 F3 H3 v (k0.rebase k3)
        | rtN d ρ3 => rw [eb] at p; exact fun σ3 F3 H3 v k3 h1 h2 h3 h4 h5 => p σ3 F3 H3 v (k0.rebase k3) h1 h2 (h3.elim id fun z => .inr (k0.fr.t v z)) h4 fun y hy => ⟨(h5 y hy).1, (h5 y hy).2.1, (h5 y hy).2.2.elim id fun z => .inr (k0.fr.t y z)⟩
        | exc x ρ3 => rw [eb] at p; exact fun σ3 F3 H3 c d k3 => p σ3 F3 H3 c d (k0.rebase k3)
        | bad => rw [eb] at p; exact p.elim
    · have e : ds.drop ds.length = [] := List.drop_length
      rw [e] at p
      exact p σ _ H k⟩
end
end Dl
namespace Dl
open PySem PySem.Spec PyProof.Rows L2
section
variable {X : Cx} {T : Tx} {π : Nat → Option Pin} {W : WX} {a b c e : Expr} {es : List Expr} {pos : Pos} {m ma mb mc : Mi Dt} {ms : Mi (List Dt)} {A A' : Addr → Prop} {F H F' H' F0 H0 : Hp} {σ : L2.St} {ρ : En}
/-! ### while -/
/-! ### comprehensions -/
def wipeE (ρ : En) : List Nat → En
  | [] => ρ
  | v :: vs => (wipeE ρ vs).set v none
def restE (ρ0 ρ : En) : List Nat → En
  | [] => ρ
  | v :: vs => (restE ρ0 ρ vs).set v (ρ0[v]?.getD none)
def ownAny (ρ : En) : List Nat → Bool
  | [] => false
  | v :: vs => (match ρ[v]? with | some (some (.own _ _)) => true | _ => false) || ownAny ρ vs
theorem wipeE_len (ρ : En) : ∀ vs, (wipeE ρ vs).length = ρ.length
  | [] => rfl
  | v :: vs => by unfold wipeE; rw [List.length_set, wipeE_len ρ vs]
theorem restE_len (ρ0 ρ : En) : ∀ vs, (restE ρ0 ρ vs).length = ρ.length
  | [] => rfl
  | v :: vs => by unfold restE; rw [List.length_set, restE_len ρ0 ρ vs]
theorem wipeE_some {ρ : En} {i : Nat} {x : Sl} : ∀ {vs : List Nat}, (wipeE ρ vs)[i]? = some (some x) → ρ[i]? = some (some x) ∧ i ∉ vs
  | [], h => ⟨h, by simp⟩
  | v :: vs, h => by
    unfold wipeE at h
    by_cases hi : v = i
    · subst hi
      by_cases hv : v < (wipeE ρ vs).length
      · rw [List.getElem?_set_self hv] at h; cases h
      · rw [List.getElem?_eq_none (by simpa using hv)] at h; cases h
    · rw [List.getElem?_set_ne hi] at h
      obtain ⟨h1, h2⟩ := wipeE_some h
      exact ⟨h1, by simp only [List.mem_cons, not_or]; exact ⟨fun e => hi e.symm, h2⟩⟩
theorem restE_out {ρ0 ρ : En} {i : Nat} : ∀ {vs : List Nat}, i ∉ vs → (restE ρ0 ρ vs)[i]? = ρ[i]?
  | [], _ => rfl
  | v :: vs, h => by
    simp only [List.mem_cons, not_or] at h
    unfold restE
    rw [List.getElem?_set_ne fun e => h.1 e.symm]
    exact restE_out h.2
theorem restE_in {ρ0 ρ : En} {i : Nat} {x : Sl} : ∀ {vs : List Nat}, i ∈ vs → (restE ρ0 ρ vs)[i]? = some (some x) → ρ0[i]? = some (some x)
  | [], h, _ => nomatch h
  | v :: vs, h, e => by
    unfold restE at e
    by_cases hi : v = i
    · subst hi
      by_cases hv : v < (restE ρ0 ρ vs).length
      · rw [List.getElem?_set_self hv] at e
        cases q : ρ0[v]? with
        | none => rw [q] at e; cases e
        | some s => rw [q] at e; exact e
      · rw [List.getElem?_eq_none (by simpa using hv)] at e; cases e
    · rw [List.getElem?_set_ne hi] at e
      cases h with
      | head => exact absurd rfl hi
      | tail _ h => exact restE_in h e
theorem ownAny_no {ρ : En} {i : Nat} {io : Bool} {d : Dt} : ∀ {vs : List Nat}, ownAny ρ vs = false → i ∈ vs → ρ[i]? ≠ some (some (.own io d))
  | [], _, q, _ => nomatch q
  | v :: vs, h, q, e => by
    unfold ownAny at h
    rcases List.mem_cons.mp q with q | q
    · subst q
      rw [e] at h
      cases h
    · exact ownAny_no (Bool.or_eq_false_iff.mp h).2 q e
theorem wipe_ext {σ σ' : L2.St} (hl : σ'.length = σ.length) : ∀ {vs : List Nat}, (∀ i, i ∉ vs → σ'[i]? = σ[i]?) → wipe σ' vs = wipe σ vs := fun {vs} h => by
  apply List.ext_getElem?
  intro i
  by_cases hi : i ∈ vs
  · have hw : ∀ τ : L2.St, i < τ.length → (wipe τ vs)[i]? = some none := fun τ ht => by
      have hlt : i < (wipe τ vs).length := by rw [wipe_length]; exact ht
      cases q : (wipe τ vs)[i]? with
      | none => rw [List.getElem?_eq_none_iff] at q; omega
      | some s =>
        cases s with
        | none => rfl
        | some v => exact absurd hi (wipe_some q).2
    by_cases hs : i < σ.length
    · rw [hw σ hs, hw σ' (by omega)]
    · rw [List.getElem?_eq_none (by rw [wipe_length]; omega), List.getElem?_eq_none (by rw [wipe_length]; omega)]
  · rw [wipe_out hi, wipe_out hi]
    exact h i hi
theorem wipe_wipe (σ : L2.St) (vs : List Nat) : wipe (wipe σ vs) vs = wipe σ vs := wipe_ext (wipe_length σ vs) fun i hi => wipe_out hi
theorem Ok.wipe (k : Ok T π A F H σ ρ) (vs : List Nat) : Ok T π A F H (L2.wipe σ vs) (wipeE ρ vs) := by
  refine ⟨k.le, by rw [wipe_length, wipeE_len]; exact k.len, fun i d e => ?_, fun i io d e => ?_, fun i j io jo d e a b x ei ej si sj => ?_⟩
  · obtain ⟨h1, h2⟩ := wipeE_some e
    rw [wipe_out h2]
    exact k.val i d h1
  · obtain ⟨h1, h2⟩ := wipeE_some e
    rw [wipe_out h2]
    exact k.own i io d h1
  · obtain ⟨h1, h2⟩ := wipeE_some ei
    obtain ⟨h3, h4⟩ := wipeE_some ej
    rw [wipe_out h2] at si
    rw [wipe_out h4] at sj
    exact k.dis i j io jo d e a b x h1 h3 si sj
/-- behind the block -/
theorem Ok.rest {ρ0 : En} {vs : List Nat} (k0 : Ok T π A F0 H0 σ ρ0) (no : ownAny ρ0 vs = false) (f : Le F0 F) (k : Ok T π A F H (L2.wipe σ vs) ρ) : Ok T π A F H σ (restE ρ0 ρ vs) := by
  have ol : ∀ (i : Nat) io d, (restE ρ0 ρ vs)[i]? = some (some (.own io d)) → i ∉ vs ∧ ρ[i]? = some (some (.own io d)) := fun i io d e => by
    by_cases hi : i ∈ vs
    · exact absurd (restE_in hi e) (ownAny_no no hi)
    · rw [restE_out hi] at e; exact ⟨hi, e⟩
  refine ⟨k.le, by rw [restE_len, ← k.len, wipe_length], fun i d e => ?_, fun i io d e => ?_, fun i j io jo d e a b x ei ej si sj => ?_⟩
  · by_cases hi : i ∈ vs
    · obtain ⟨v, h1, h2⟩ := k0.val i d (restE_in hi e)
      exact ⟨v, h1, h2.mono f⟩
    · rw [restE_out hi] at e
      obtain ⟨v, h1, h2⟩ := k.val i d e
      rw [wipe_out hi] at h1
      exact ⟨v, h1, h2⟩
  · obtain ⟨hi, e⟩ := ol i io d e
    obtain ⟨x, h1, h2⟩ := k.own i io d e
    rw [wipe_out hi] at h1
    exact ⟨x, h1, h2⟩
  · obtain ⟨hi, ei⟩ := ol i io d ei
    obtain ⟨hj, ej⟩ := ol j jo e ej
    exact k.dis i j io jo d e a b x ei ej (by rw [wipe_out hi]; exact si) (by rw [wipe_out hj]; exact sj)
def lcGo (g : Dt → En → Option En) (t : Mi Bool) (e : Mi Dt) (vs : List Nat) : List Dt → List Dt → En → Ou (List Dt)
  | [], acc, ρ => .ok acc ρ
  | d :: ds, acc, ρ => match g d ρ with
    | none => .bad
    | some ρ1 => match t ρ1 with
      | .ok true ρ2 => (match e ρ2 with
        | .ok y ρ3 => if acc.length < sizeLine then lcGo g t e vs ds (acc ++ [y]) (wipeE ρ3 vs) else .bad
        | _ => .bad)
      | .ok false ρ2 => lcGo g t e vs ds acc (wipeE ρ2 vs)
      | _ => .bad
def mLc (mi : Mi (List Dt)) (g : Dt → En → Option En) (t : Mi Bool) (e : Mi Dt) (vs : List Nat) : Mi Dt := mBind mi fun ds ρ =>
  if ownAny ρ vs then .bad else match lcGo g t e vs ds [] (wipeE ρ vs) with
    | .ok acc ρ' => .ok (.lst acc) (restE ρ ρ' vs)
    | _ => .bad
def W0 : WX := fun _ _ _ _ => False
theorem tme_tmn {Q : VK} (h : TMe T π W m σ H Q) : TMn T π W m σ H Q := by
  obtain ⟨A, F, ρ, k, p⟩ := h
  refine ⟨A, F, ρ, k, p.imp2 fun d ρ' q F' H' k' r' x hx nx hp ho hi => ?_⟩
  obtain ⟨F2, e1, e2, e3, e4⟩ := ho.frozen k'.le hx (fun y hy => (hi y hy).1)
  have ne : ∀ y, IsOwn H' σ ρ' y → F2 y = F' y := fun y w => e3 y (fun z => nx (z ▸ w)) fun z => (hi y z).2.1 w
  have k2 : Ok T π A F2 H' σ ρ' := k'.grow e1 e2 (fun y w => by rw [ne y w]; exact (k'.ownH w).2.1) fun y u w z => z
  refine q F2 H' k2 ⟨le_trans r'.f e1, r'.h, fun y o hy z t => ?_, r'.t⟩ _ e4
  rw [e3 y (fun zz => by rw [zz, hp] at z; cases z) fun zz => by rw [(hi y zz).2.2] at z; cases z]
  exact r'.n y o hy z t
/-- an object that is none of the slots' own changes -/
theorem Ok.upd_other {p : Addr} {o : HO} (k : Ok T π A F H σ ρ) (hf : F p = none) (hn : ¬ A p) : Ok T π A F (upd H p o) σ ρ := by
  refine k.grow (le_refl F) (fun a u e => ?_) (fun a w => (k.ownH w).2.1) fun a u w e => ?_
  · rw [upd_ne fun z => by rw [z, hf] at e; cases e]; exact k.le a u e
  · rw [upd_ne fun z => hn (by rw [← z]; exact k.ownA w)]; exact e
theorem tlc_of {g : Dt → En → Option En} {sl vs : List Nat} {mt : Mi Bool} {me : Mi Dt} {Q : VK} (hsl : ∀ i ∈ sl, i ∈ vs) (h : TMn T π W (mLc ms g mt me vs) σ H Q) : tLc (TMi T π W ms) (TMg T π g sl) (TMt T π W0 mt) (TMe T π W0 me) vs σ H Q := by
  obtain ⟨A0, F, ρ, k, p⟩ := h
  refine ⟨IsOwn H σ ρ, F, ρ, k.tight, ((p.weak (A' := IsOwn H σ ρ) fun a z => k.ownA z).bind).imp fun ds ρ1 F1 H1 k1 r1 p1 J w D hD => ?_⟩
  have nA : ¬ IsOwn H σ ρ D := k.fresh_own (r1.t D hD)
  by_cases hown : ownAny ρ1 vs = true
  · rw [if_pos hown] at p1; exact p1.elim
  · rw [if_neg hown] at p1
    have hown : ownAny ρ1 vs = false := by simpa using hown
    cases el : lcGo g mt me vs ds [] (wipeE ρ1 vs) with
    | exc x r => rw [el] at p1; exact p1.elim
    | bad => rw [el] at p1; exact p1.elim
    | ok accF ρF =>
      rw [el] at p1
      refine lc_it (walk_of_wk w) (fun i Hc => ∃ F ρ' acc vacc, Ok T π (IsOwn H σ ρ) F Hc (wipe σ vs) ρ' ∧ Fr (IsOwn H σ ρ) F1 H1 F Hc ∧ F D = none ∧ Hc D = some (.lst vacc) ∧ Reps T F vacc acc ∧ lcGo g mt me vs (ds.drop i) acc ρ' = .ok accF ρF)
        ⟨F1, wipeE ρ1 vs, [], [], (k1.newO hD).wipe vs, .newO hD, f_none k1.le hD, upd_same, .nil, el⟩ (fun i Hc _ ⟨F, _, _, _, k, r, _⟩ => le_trans r.f k.le) (fun i x Hc H' hi ⟨F2, ρ', acc, vacc, k2, r2, fD, hDc, rs, eg⟩ y => ?_) (fun Hc ⟨F2, ρ', acc, vacc, k2, r2, fD, hDc, rs, eg⟩ => ?_)
      · have hd : ds[i]? = some ds[i] := List.getElem?_eq_getElem hi
        obtain ⟨F3, k3, r3, rx, l3⟩ := w.turn hd k2 r2.f y
        rw [List.drop_eq_getElem_cons hi] at eg
        unfold lcGo at eg
        cases e1 : g ds[i] ρ' with
        | none => rw [e1] at eg; cases eg
        | some ρ2 =>
          rw [e1] at eg
          dsimp only at eg
          refine ⟨_, F3, ρ', ds[i], ρ2, k3, rx, e1, fun σ2 k4 l4 s4 => ?_⟩
          have ew : wipe σ2 vs = wipe σ vs := by
            rw [wipe_ext (σ := wipe σ vs) (σ' := σ2) l4 fun i hi => s4 i fun z => hi (hsl i z), wipe_wipe]
          refine ⟨ew, _, F3, ρ2, k4, ?_⟩
          have keep : ∀ {F5 H5 : Hp} {ρ5 : En}, Ok T π (IsOwn H σ ρ) F5 H5 σ2 ρ5 → Fr (IsOwn H σ ρ) F3 H' F5 H5 → H5 D = some (.lst vacc) ∧ F5 D = none ∧ Reps T F5 vacc acc ∧ Fr (IsOwn H σ ρ) F1 H1 F5 H5 ∧ Ok T π (IsOwn H σ ρ) F5 H5 (wipe σ vs) (wipeE ρ5 vs) := fun {F5 H5 ρ5} k5 r5 => by
            have rr := r3.trans r5
            refine ⟨rr.h D _ nA hDc, ?_, rs.mono rr.f, r2.trans rr, by rw [← ew]; exact k5.wipe vs⟩
            rw [rr.n D _ nA hDc (fun _ z => nomatch z)]; exact fD
          cases e2 : mt ρ2 with
          | exc x r => rw [e2] at eg; cases eg
          | bad => rw [e2] at eg; cases eg
          | ok b ρ3 =>
            rw [e2] at eg
            intro F5 H5 k5 r5
            cases b with
            | false =>
              obtain ⟨q1, q2, q3, q4, q5⟩ := keep k5 r5
              exact iteF ⟨F5, _, acc, vacc, q5, q4, q2, q1, q3, eg⟩
            | true =>
              dsimp only at eg
              refine iteT ⟨_, F5, ρ3, k5, ?_⟩
              cases e3 : me ρ3 with
              | exc x r => rw [e3] at eg; cases eg
              | bad => rw [e3] at eg; cases eg
              | ok yv ρ4 =>
                rw [e3] at eg
                dsimp only at eg
                intro F6 H6 k6 r6 v rv
                obtain ⟨q1, q2, q3, q4, q5⟩ := keep k6 (r5.trans r6)
                by_cases hz : acc.length < sizeLine
                · rw [if_pos hz] at eg
                  refine ⟨vacc, q1, by rw [rs.length]; exact hz, F6, _, acc ++ [yv], vacc ++ [v], q5.upd_other q2 nA, ?_, q2, upd_same, q3.append (.cons rv .nil), eg⟩
                  exact ⟨q4.f, fun a o n e => by
                    rw [upd_ne fun z => by rw [z, hD] at e; cases e]; exact q4.h a o n e, q4.n, fun a e => q4.t a (up_none e)⟩
                · rw [if_neg hz] at eg; cases eg
      · have e : ds.drop ds.length = [] := List.drop_length
        rw [e] at eg
        unfold lcGo at eg
        cases eg
        have k5 := k1.rest hown r2.f k2
        exact p1 F2 Hc k5 r2 D fD (fun z => nA (k5.ownA z)) (r1.t D hD) ⟨vacc, hDc, rs⟩ (fun _ z => nomatch z)
theorem dn_lc {elt tg iter : Expr} {ifs : List Expr} {scope : Scope} {own : List (Str × Nat)} {g : Dt → En → Option En} {sl : List Nat} {mt : Mi Bool} {me : Mi Dt} (h : PE X (.ListComp elt [⟨tg, iter, ifs, 0⟩] scope pos) (tLc (TMi T π W ms) (TMg T π g sl) (TMt T π W0 mt) (TMe T π W0 me) (own.map (·.2)))) (hsl : ∀ i ∈ sl, i ∈ own.map (·.2)) :
    PE X (.ListComp elt [⟨tg, iter, ifs, 0⟩] scope pos) (TMn T π W (mLc ms g mt me (own.map (·.2)))) := h.imp fun σ H Q q => tlc_of hsl q
theorem ds_setLcV {i : Nat} {g : Dt → En → Option En} {sl vs : List Nat} {st : Stmt} {mt : Mi Bool} {me : Mi Dt} (h : PS X st (tAsg (tLc (TMi T π W ms) (TMg T π g sl) (TMt T π W0 mt) (TMe T π W0 me) vs) (gName i))) (hsl : ∀ i ∈ sl, i ∈ vs) : PS X st (TMs T π W (sSet i (mLc ms g mt me vs))) :=
  ds_asgV (h.imp fun D σ H q => tlc_of hsl (tme_tmn q))
theorem dts_nil : PTs X [] (TMt T π W (mPure true)) := ⟨fun pins s σ H Q I ⟨A, F, ρ, k, p⟩ => pts_nil.run pins s σ H Q I (p.pure k)⟩
end
end Dl
namespace Dl
open PySem PySem.Spec PyProof.Rows L2
/-! ### what a def promises -/
inductive Fo where
  | ret (d o : Dt) | exc (x : Ex) (o : Dt) | bad
def pinA (π0 : Option Pin) : Addr → Prop := fun x => ∃ q, π0 = some q ∧ (x = q.1 ∨ x ∈ q.2)
def ArgsOk (T : Tx) (F H : Hp) : Bool → List V → List Dt → Option Pin → Prop
  | false, vs, ds, π0 => Reps T F vs ds ∧ π0 = none
  | true, vs, ds, π0 => ∃ a vr d dr, vs = .ref a :: vr ∧ ds = d :: dr ∧ F a = none ∧ OwnAt T F H a d ∧ Reps T F vr dr ∧ π0 = some (a, inH H a d) ∧ ∀ x ∈ inH H a d, F x = none
def RetOk (T : Tx) (H F' H' : Hp) (v : V) (d : Dt) : Bool → Prop
  | false => Rep T F' v d
  | true => ∃ p, v = .ref p ∧ F' p = none ∧ H p = none ∧ OwnAt T F' H' p d ∧ ∀ x ∈ inH H' p d, F' x = none ∧ H x = none
def IoOk (T : Tx) (F' H' : Hp) (π0 : Option Pin) (o : Dt) : Prop := ∀ q, π0 = some q → F' q.1 = none ∧ OwnAt T F' H' q.1 o ∧ inH H' q.1 o = q.2 ∧ ∀ x ∈ q.2, F' x = none
def FoOk (T : Tx) (rn : Bool) (π0 : Option Pin) (F H : Hp) (Q : VK) (E : XK) : Fo → Prop
  | .ret d o => ∀ F' H' v, Le F' H' → Fr (pinA π0) F H F' H' → IoOk T F' H' π0 o → RetOk T H F' H' v d rn → Q v H'
  | .exc x o => ∀ F' H' cls dx, Le F' H' → Fr (pinA π0) F H F' H' → IoOk T F' H' π0 o → RepX T F' H' cls dx x → E cls dx H'
  | .bad => False
def spM (T : Tx) (n : Nat) (io rn : Bool) (f : List Dt → Fo) : Sp := fun vs H Q E => ∃ F ds π0, vs.length = n ∧ Le F H ∧ ArgsOk T F H io vs ds π0 ∧ FoOk T rn π0 F H Q E (f ds)
def argE : Bool → List Dt → En
  | true, d :: r => some (.own true d) :: r.map fun d => some (.val d)
  | _, ds => ds.map fun d => some (.val d)
def ioOut (io : Bool) (ρ : En) : Option Dt := match io with
  | true => (match ρ[0]? with | some (some (Sl.own true d)) => some d | _ => none)
  | false => some .non
def runF (k : Nat) (io rn : Bool) (body : En → So) (ds : List Dt) : Fo := match body (argE io ds ++ List.replicate (k - ds.length) none) with
  | .nx ρ => (match ioOut io ρ with | some o => (match rn with | false => .ret .non o | true => .bad) | none => .bad)
  | .rt d ρ => (match ioOut io ρ with | some o => (match rn with | false => .ret d o | true => .bad) | none => .bad)
  | .rtN d ρ => (match ioOut io ρ with | some o => (match rn with | true => .ret d o | false => .bad) | none => .bad)
  | .exc x ρ => (match ioOut io ρ with | some o => .exc x o | none => .bad)
  | _ => .bad
theorem Reps.slots {T : Tx} {F : Hp} : ∀ {vs : List V} {ds : List Dt} {i : Nat} {d : Dt}, Reps T F vs ds → (ds.map fun d => (some (Sl.val d)))[i]? = some (some (.val d)) → ∃ v, vs[i]? = some v ∧ Rep T F v d := fun {vs ds i d} r e => by
  rw [List.getElem?_map] at e
  cases q : ds[i]? with
  | none => rw [q] at e; cases e
  | some d' =>
    rw [q] at e
    cases e
    exact r.get q
theorem noown (ds : List Dt) (i : Nat) (io : Bool) (d : Dt) : (ds.map fun d => (some (Sl.val d)))[i]? ≠ some (some (.own io d)) := fun e => by
  rw [List.getElem?_map] at e
  cases q : ds[i]? with
  | none => rw [q] at e; cases e
  | some d' => rw [q] at e; cases e
theorem app_some {ρ : En} {n : Nat} {i : Nat} {s : Sl} (h : (ρ ++ List.replicate n none)[i]? = some (some s)) : ρ[i]? = some (some s) ∧ i < ρ.length := by
  by_cases hi : i < ρ.length
  · rw [List.getElem?_append_left hi] at h; exact ⟨h, hi⟩
  · rw [List.getElem?_append_right (by omega), List.getElem?_replicate] at h
    split at h
    · cases h
    · cases h
theorem argsOk_len {T : Tx} {F H : Hp} {io : Bool} {vs : List V} {ds : List Dt} {π0 : Option Pin} (h : ArgsOk T F H io vs ds π0) : vs.length = ds.length := by
  cases io with
  | false => exact h.1.length
  | true =>
    obtain ⟨a, vr, d, dr, rfl, rfl, _, _, r, _⟩ := h
    rw [List.length_cons, List.length_cons, r.length]
def pi0 (π0 : Option Pin) : Nat → Option Pin
  | 0 => π0
  | _ + 1 => none
theorem ok_start {T : Tx} {N : List Str} {F H : Hp} {io : Bool} {vs : List V} {ds : List Dt} {π0 : Option Pin} (hl : vs.length ≤ N.length) (le : Le F H) (h : ArgsOk T F H io vs ds π0) :
    StOk T (pi0 π0) (pinA π0) F H F H (L2.start N vs) (argE io ds ++ List.replicate (N.length - ds.length) none) := by
  have hn := argsOk_len h
  have sl : ∀ (i : Nat) v, vs[i]? = some v → (L2.start N vs)[i]? = some (some v) := fun i v e => by
    unfold L2.start
    rw [List.getElem?_append_left (by rw [List.length_map]; exact (List.getElem?_eq_some_iff.mp e).1), List.getElem?_map, e]
    rfl
  refine ⟨⟨le, ?_, fun i d e => ?_, fun i jo d e => ?_, fun i j jo lo d e a b x ei ej si sj _ _ => ?_⟩, .refl⟩
  · unfold L2.start
    cases io with
    | false => unfold argE; simp; omega
    | true =>
      obtain ⟨a, vr, d, dr, rfl, rfl, _, _, r, _⟩ := h
      have := r.length
      unfold argE; simp at hl ⊢; omega
  · obtain ⟨e, hi⟩ := app_some e
    cases io with
    | false =>
      obtain ⟨v, h1, h2⟩ := h.1.slots (show (ds.map fun d => (some (Sl.val d)))[i]? = _ from e)
      exact ⟨v, sl i v h1, h2⟩
    | true =>
      obtain ⟨a, vr, d0, dr, rfl, rfl, h1, h2, r, h3⟩ := h
      cases i with
      | zero => cases e
      | succ i =>
        obtain ⟨v, q1, q2⟩ := r.slots (show (dr.map fun d => (some (Sl.val d)))[i]? = _ from e)
        exact ⟨v, sl (i + 1) v q1, q2⟩
  · obtain ⟨e, hi⟩ := app_some e
    cases io with
    | false => exact absurd e (noown ds i jo d)
    | true =>
      obtain ⟨a, vr, d0, dr, rfl, rfl, h1, h2, r, h3⟩ := h
      cases i with
      | succ i => exact absurd (show (dr.map fun d => (some (Sl.val d)))[i]? = _ from e) (noown dr i jo d)
      | zero =>
        cases e
        exact ⟨a, sl 0 _ rfl, h1, h2, .inl ⟨_, h3.1, .inl rfl⟩, (fun _ => h3.1), fun x hx => ⟨h3.2 x hx, .inl ⟨_, h3.1, .inr hx⟩⟩⟩
  · obtain ⟨ei, _⟩ := app_some ei
    obtain ⟨ej, _⟩ := app_some ej
    cases io with
    | false => exact absurd ei (noown ds i jo d)
    | true =>
      obtain ⟨a, vr, d0, dr, rfl, rfl, h1, h2, r, h3⟩ := h
      cases i with
      | succ i => exact absurd (show (dr.map fun d => (some (Sl.val d)))[i]? = _ from ei) (noown dr i jo d)
      | zero =>
        cases j with
        | succ j => exact absurd (show (dr.map fun d => (some (Sl.val d)))[j]? = _ from ej) (noown dr j lo e)
        | zero => rfl
theorem io_end {T : Tx} {F H F' H' : Hp} {io : Bool} {vs : List V} {ds : List Dt} {π0 : Option Pin} {σ : L2.St} {ρ : En} {o : Dt} (h : ArgsOk T F H io vs ds π0) (k : StOk T (pi0 π0) (pinA π0) F H F' H' σ ρ) (e : ioOut io ρ = some o) : IoOk T F' H' π0 o := fun a ha => by
  cases io with
  | false => rw [h.2] at ha; cases ha
  | true =>
    unfold ioOut at e
    dsimp only at e
    split at e
    · rename_i d hd
      cases e
      obtain ⟨b, h1, h2, h3, h4, h5⟩ := k.ok.own 0 true _ hd
      have e2 : π0 = some (b, _) := h5.1 rfl
      rw [ha] at e2
      cases e2
      exact ⟨h2, h3, rfl, fun x hx => (h5.2 x hx).1⟩
    · cases e
section
variable {P : Program} {w : World} {K : PySem.W.Frag} {mg : Str → Option Value} {base : Heap}
/-- a def keeps the promise of its mirror -/
theorem rtn_new {T : Tx} {F H F' H' : Hp} {io : Bool} {vs : List V} {ds : List Dt} {π0 : Option Pin} {σ : L2.St} {ρ : En} {o : Dt} {p : Addr} (h : ArgsOk T F H io vs ds π0) (k : StOk T (pi0 π0) (pinA π0) F H F' H' σ ρ) (e : ioOut io ρ = some o) (hn : ¬ IsOwn H' σ ρ p) (hp : pinA π0 p ∨ H p = none) : H p = none := by
  rcases hp with hp | hp
  · exfalso
    cases io with
    | false => obtain ⟨q, hq, _⟩ := hp; rw [h.2] at hq; cases hq
    | true =>
      unfold ioOut at e
      dsimp only at e
      split at e
      · rename_i d q
        obtain ⟨a, h1, _, _, _, h5⟩ := k.ok.own 0 true d q
        have h6 : π0 = some (a, inH H' a d) := h5.1 rfl
        obtain ⟨r, hr, hx⟩ := hp
        rw [h6] at hr
        cases hr
        exact hn ⟨0, true, d, a, q, h1, hx⟩
      · cases e
  · exact hp
theorem fun_ok {x qual : Str} {st : Stmt} {f : Addr} {fd : FuncData} {N ps : List Str} {k : Nat} {cl : Nat → Option (Addr × List Str)} {io rn : Bool} {body : En → So} (F : Fun K x qual st f fd) (S : FnScope N ps (defScope st)) (hN : ps.length ≤ N.length)
    (hb : ∀ (cdv : Value) (A : Around) (outer : List Env) (s : Shared) (H : Hp) (E : XK) (π : Nat → Option Pin), Room k (A.deeper (envOfC qual (defScope st) s.heap.objs.size f cdv)) →
      PSs (cxOf (L2.CX P w) P w K mg base N qual (defScope st) f cdv A outer s H E) (defBody st) (TMs ⟨K, cl⟩ π (fun cls d _ H => E cls d H) body)) :
    FnOk P w K mg base (L2.CX P w) (k + 1) f fd ps (spM ⟨K, cl⟩ ps.length io rn (runF N.length io rn body)) := by
  refine F.okX S (fun vs H Q E h => ?_) (fun cdv A outer s H vs Q E hr h => ?_)
  · obtain ⟨F, ds, π0, hl, _⟩ := h
    exact hl
  · obtain ⟨F0, ds, π0, hl, le, ha, q⟩ := h
    refine ⟨_, hb cdv A outer s H E (pi0 π0) hr, _, F0, H, F0, _, ok_start (by rw [hl]; exact hN) le ha, ?_⟩
    unfold runF at q
    cases eb : body (argE io ds ++ List.replicate (N.length - ds.length) none) with
    | nx ρ =>
      rw [eb] at q
      dsimp only at q
      cases eo : ioOut io ρ with
      | none => rw [eo] at q; exact q.elim
      | some o =>
        rw [eo] at q
        cases rn with
        | true => exact q.elim
        | false => exact fun σ' F' H' k' => q F' H' .non k'.ok.le k'.fr (io_end ha k' eo) .non
    | rt d ρ =>
      rw [eb] at q
      dsimp only at q
      cases eo : ioOut io ρ with
      | none => rw [eo] at q; exact q.elim
      | some o =>
        rw [eo] at q
        cases rn with
        | true => exact q.elim
        | false => exact fun σ' F' H' v k' rv => q F' H' v k'.ok.le k'.fr (io_end ha k' eo) rv
    | rtN d ρ =>
      rw [eb] at q
      dsimp only at q
      cases eo : ioOut io ρ with
      | none => rw [eo] at q; exact q.elim
      | some o =>
        rw [eo] at q
        cases rn with
        | false => exact q.elim
        | true => exact fun σ' F' H' p k' h1 h2 h3 h4 h5 => q F' H' (.ref p) k'.ok.le k'.fr (io_end ha k' eo) ⟨p, rfl, h1, rtn_new ha k' eo h2 h3, h4, fun y hy => ⟨(h5 y hy).1, rtn_new ha k' eo (h5 y hy).2.1 (h5 y hy).2.2⟩⟩
    | exc x ρ =>
      rw [eb] at q
      dsimp only at q
      cases eo : ioOut io ρ with
      | none => rw [eo] at q; exact q.elim
      | some o =>
        rw [eo] at q
        exact fun σ' F' H' c d k' rx => q F' H' c d k'.ok.le k'.fr (io_end ha k' eo) rx
    | bk ρ => rw [eb] at q; exact q.elim
    | ct ρ => rw [eb] at q; exact q.elim
    | bad => rw [eb] at q; exact q.elim
end
section
variable {P : Program} {w : World} {K : PySem.W.Frag} {mg : Str → Option Value} {base : Heap}
theorem fun_ok2 {x qual : Str} {st : Stmt} {f : Addr} {fd : FuncData} {N ps : List Str} {k n : Nat} {cl : Nat → Option (Addr × List Str)} {io rn : Bool} {body : En → So} {fm : List Dt → Fo} (F : Fun K x qual st f fd) (S : FnScope N ps (defScope st)) (hN : ps.length ≤ N.length) (hn : n = ps.length) (hm : fm = runF N.length io rn body)
    (hb : ∀ (cdv : Value) (A : Around) (outer : List Env) (s : Shared) (H : Hp) (E : XK) (π : Nat → Option Pin), Room k (A.deeper (envOfC qual (defScope st) s.heap.objs.size f cdv)) →
      PSs (cxOf (L2.CX P w) P w K mg base N qual (defScope st) f cdv A outer s H E) (defBody st) (TMs ⟨K, cl⟩ π (fun cls d _ H => E cls d H) body)) :
    FnOk P w K mg base (L2.CX P w) (k + 1) f fd ps (spM ⟨K, cl⟩ n io rn fm) := by
  subst hn hm
  exact fun_ok F S hN hb
end
section
variable {X : Cx} {T : Tx} {π : Nat → Option Pin} {W : WX} {a b c e o : Expr} {es : List Expr} {pos : Pos} {m ma mb mc : Mi Dt} {ms : Mi (List Dt)} {A A' : Addr → Prop} {F H F' H' F0 H0 : Hp} {σ : L2.St} {ρ : En}
/-! ### a def is called -/
def mCall (n : Nat) (f : List Dt → Fo) (ms : Mi (List Dt)) : Mi Dt := mBind ms fun ds ρ => if ds.length = n then (match f ds with
  | .ret d _ => .ok d ρ
  | .exc x _ => .exc x ρ
  | .bad => .bad) else .bad
/-- behind a call that changes none of the slots' own objects -/
theorem Ok.called (k : Ok T π A F H σ ρ) (le : Le F' H') (r : Fr (pinA none) F H F' H') : Ok T π A F' H' σ ρ :=
  k.grow r.f le (fun a w => by
    obtain ⟨_, h2, o, h3, h4⟩ := k.ownT w
    rw [r.n a o (fun ⟨_, z, _⟩ => nomatch z) h3 h4]; exact h2) fun a o w e => r.h a o (fun ⟨_, z, _⟩ => nomatch z) e
theorem sp_call {n : Nat} {rn : Bool} {f : List Dt → Fo} {Q : VK} {vs : List V} {ds : List Dt} {P : Dt → En → Hp → Hp → Prop} (k : Ok T π A F H σ ρ) (r : Reps T F vs ds)
    (p : Post T π W σ A F H P (if ds.length = n then (match f ds with | .ret d _ => Ou.ok d ρ | .exc x _ => .exc x ρ | .bad => .bad) else .bad))
    (q : ∀ d F' H' v, Ok T π A F' H' σ ρ → Fr (pinA none) F H F' H' → RetOk T H F' H' v d rn → P d ρ F' H' → Q v H') : spM T n false rn f vs H Q (WE W σ) := by
  by_cases hl : ds.length = n
  · rw [if_pos hl] at p
    refine ⟨F, ds, none, by rw [r.length]; exact hl, k.le, ⟨r, rfl⟩, ?_⟩
    cases e : f ds with
    | ret d o =>
      rw [e] at p
      exact fun F' H' v le fr _ rv => q d F' H' v (k.called le fr) fr rv (p F' H' (k.called le fr) (fr.weak fun a ⟨_, z, _⟩ => nomatch z))
    | exc x o =>
      rw [e] at p
      exact fun F' H' c d le fr _ rx => p F' H' c d (k.called le fr) (fr.weak fun a ⟨_, z, _⟩ => nomatch z) rx
    | bad => rw [e] at p; exact p.elim
  · rw [if_neg hl] at p; exact p.elim
variable {k n : Nat} {f : Addr} {fd : FuncData} {ps : List Str} {x : Str} {p : Pos} {fm : List Dt → Fo}
theorem de_call (G : FnOk X.prog X.w X.K X.mg X.base (L2.CX X.prog X.w) k f fd ps (spM T n false false fm)) (hr : Room k X.A) (hg : Gl X x) (hm : X.mg x = some (.ref f)) (hk : PySem.W.keepIn X.K (.ref f) = true) (hb : Binds X.K fd ps []) (tk : Takes X W) (ha : PA X (e :: es) (TMa T π W ms))
    (hdb : (x == ("__debug__" : Str)) = false := by decide) (he : starEach (e :: es) X.env = (false, eval e X.env) :: starEach es X.env := by rfl) (hpl : (backTo pos (starEach es X.env)).any (·.1) = false := by rfl) :
    PE X (.Call (.Name x p) (e :: es) [] pos) (TMe T π W (mCall n fm ms)) := (pe_callSD (E := WE W) G hr hg hm hk hb .nil (fun σ => passAt tk σ) ha hdb he hpl).imp fun σ H Q ⟨A, F, ρ, k, p⟩ => ⟨A, F, ρ, k, p.bind.imp fun ds ρ1 F1 H1 k1 r1 p1 vs rvs => by
  show spM T n false false fm (vs ++ []) H1 Q (WE W σ)
  rw [List.append_nil]
  exact sp_call k1 rvs p1 fun d F' H' v _ _ rv q => q v rv⟩
theorem dn_call (G : FnOk X.prog X.w X.K X.mg X.base (L2.CX X.prog X.w) k f fd ps (spM T n false true fm)) (hr : Room k X.A) (hg : Gl X x) (hm : X.mg x = some (.ref f)) (hk : PySem.W.keepIn X.K (.ref f) = true) (hb : Binds X.K fd ps []) (tk : Takes X W) (ha : PA X (e :: es) (TMa T π W ms))
    (hdb : (x == ("__debug__" : Str)) = false := by decide) (he : starEach (e :: es) X.env = (false, eval e X.env) :: starEach es X.env := by rfl) (hpl : (backTo pos (starEach es X.env)).any (·.1) = false := by rfl) :
    PE X (.Call (.Name x p) (e :: es) [] pos) (TMn T π W (mCall n fm ms)) := (pe_callSD (E := WE W) G hr hg hm hk hb .nil (fun σ => passAt tk σ) ha hdb he hpl).imp fun σ H Q ⟨A, F, ρ, k, p⟩ => ⟨A, F, ρ, k, p.bind.imp fun ds ρ1 F1 H1 k1 r1 p1 vs rvs => by
  show spM T n false true fm (vs ++ []) H1 Q (WE W σ)
  rw [List.append_nil]
  exact sp_call k1 rvs p1 fun d F' H' v k' r' ⟨p, e, h1, h2, h3, h4⟩ q => by
    rw [e]
    have no : ∀ y, H1 y = none → ¬ IsOwn H' σ ρ1 y := fun y hy w => by
      have w' : IsOwn H1 σ ρ1 y := (k1.sameOwn fun a o w e => r'.h a o (fun ⟨_, z, _⟩ => nomatch z) e).mp w
      obtain ⟨_, _, o, ho⟩ := k1.ownH w'
      rw [hy] at ho; cases ho
    exact q p h1 (no p h2) (r1.t p h2) h3 fun y hy => ⟨(h4 y hy).1, no y (h4 y hy).2, r1.t y (h4 y hy).2⟩⟩
/-! ### a slot's own list is changed -/
/-- the slot's object changes, and what it holds alone -/
theorem Ok.putG {i : Nat} {io : Bool} {d d' : Dt} {a : Addr} {H' : Hp} (k : Ok T π A F H σ ρ) (e : ρ[i]? = some (some (.own io d))) (s : σ[i]? = some (some (.ref a))) (hH : ∀ b, b ≠ a → b ∉ inH H a d → H' b = H b) (ho : OwnAt T F H' a d') (hin : inH H' a d' = inH H a d) : Ok T π A F H' σ (ρ.set i (some (.own io d'))) := by
  have hi : i < ρ.length := (List.getElem?_eq_some_iff.mp e).1
  obtain ⟨a', h1, h2, h3, h4, h5⟩ := k.own i io d e
  rw [s] at h1
  cases h1
  have oth : ∀ (j : Nat) jo dj b, i ≠ j → ρ[j]? = some (some (.own jo dj)) → σ[j]? = some (some (.ref b)) → ∀ x, (x = b ∨ x ∈ inH H b dj) → H' x = H x := fun j jo dj b hj ej sj x hx =>
    hH x (fun z => hj (k.dis i j io jo d dj a b x e ej s sj (.inl z) hx)) fun z => hj (k.dis i j io jo d dj a b x e ej s sj (.inr z) hx)
  have smj : ∀ (j : Nat) jo dj b, i ≠ j → ρ[j]? = some (some (.own jo dj)) → σ[j]? = some (some (.ref b)) → inH H' b dj = inH H b dj := fun j jo dj b hj ej sj => by
    obtain ⟨b', q1, q2, q3, q4, q5⟩ := k.own j jo dj ej
    rw [sj] at q1
    cases q1
    exact q3.same fun o q => by rw [oth j jo dj b hj ej sj b (.inl rfl)]; exact q
  refine ⟨fun b u z => ?_, by simpa using k.len, fun j dj ej => ?_, fun j jo dj ej => ?_, fun j l jo lo dj dl b c x ej el sj sl xj xl => ?_⟩
  · rw [hH b (fun q => by rw [q, h2] at z; cases z) fun q => by rw [(h5.2 b q).1] at z; cases z]; exact k.le b u z
  · by_cases hj : i = j
    · subst hj; rw [List.getElem?_set_self hi] at ej; cases ej
    · rw [List.getElem?_set_ne hj] at ej; exact k.val j dj ej
  · by_cases hj : i = j
    · subst hj
      rw [List.getElem?_set_self hi] at ej
      cases ej
      exact ⟨a, s, h2, ho, h4, by rw [hin]; exact h5⟩
    · rw [List.getElem?_set_ne hj] at ej
      obtain ⟨b, q1, q2, q3, q4, q5⟩ := k.own j jo dj ej
      exact ⟨b, q1, q2, q3.mono (le_refl F) fun x hx u q => by rw [oth j jo dj b hj ej q1 x hx]; exact q, q4, by rw [smj j jo dj b hj ej q1]; exact q5⟩
  · have back : ∀ (j : Nat) jo dj b, (ρ.set i (some (.own io d')))[j]? = some (some (.own jo dj)) → σ[j]? = some (some (.ref b)) → ∃ jo dk, ρ[j]? = some (some (.own jo dk)) ∧ inH H b dk = inH H' b dj := fun j jo dj b ej sj => by
      by_cases hj : i = j
      · subst hj; rw [List.getElem?_set_self hi] at ej; cases ej; rw [s] at sj; cases sj; exact ⟨io, d, e, hin.symm⟩
      · rw [List.getElem?_set_ne hj] at ej; exact ⟨jo, dj, ej, (smj j jo dj b hj ej sj).symm⟩
    obtain ⟨_, _, gj, ij⟩ := back j jo dj b ej sj
    obtain ⟨_, _, gl, il⟩ := back l lo dl c el sl
    exact k.dis j l _ _ _ _ b c x gj gl sj sl (by rw [ij]; exact xj) (by rw [il]; exact xl)
/-- the slot's object changes -/
theorem Ok.put {i : Nat} {io : Bool} {d d' : Dt} {a : Addr} {o : HO} (k : Ok T π A F H σ ρ) (e : ρ[i]? = some (some (.own io d))) (s : σ[i]? = some (some (.ref a))) (ho : OwnAt T F (upd H a o) a d') (hin : inH (upd H a o) a d' = inH H a d := by rfl) : Ok T π A F (upd H a o) σ (ρ.set i (some (.own io d'))) :=
  k.putG e s (fun b hb _ => upd_ne hb) ho hin
theorem Fr.put {i : Nat} {io : Bool} {d : Dt} {a : Addr} {o : HO} (k : Ok T π A F H σ ρ) (e : ρ[i]? = some (some (.own io d))) (s : σ[i]? = some (some (.ref a))) : Fr A F H F (upd H a o) := by
  have hA : A a := k.ownA ⟨i, io, d, a, e, s, .inl rfl⟩
  exact ⟨le_refl F, fun b u n q => by rw [upd_ne fun z => n (by rw [z]; exact hA)]; exact q, fun _ _ _ _ _ => rfl, fun _ z => up_none z⟩
/-- the list in slot i, changed by f of the list and a value -/
def mMut (i : Nat) (f : List Dt → Option (Dt × List Dt)) : Mi Dt := fun ρ => match ρ[i]? with
  | some (some (.own io (.lst ds))) => (match f ds with
    | some (r, es) => .ok r (ρ.set i (some (.own io (.lst es))))
    | none => .bad)
  | _ => .bad
theorem mMut_inv {i : Nat} {f : List Dt → Option (Dt × List Dt)} {P : Dt → En → Hp → Hp → Prop} (p : Post T π W σ A F H P (mMut i f ρ)) (k : Ok T π A F H σ ρ) :
    ∃ io ds r es a vs, ρ[i]? = some (some (.own io (.lst ds))) ∧ f ds = some (r, es) ∧ σ[i]? = some (some (.ref a)) ∧ H a = some (.lst vs) ∧ Reps T F vs ds ∧
      ∀ vs', Reps T F vs' es → P r (ρ.set i (some (.own io (.lst es)))) F (upd H a (.lst vs')) := by
  unfold mMut at p
  split at p
  · rename_i io ds e
    split at p
    · rename_i r es ef
      obtain ⟨a, h1, h2, ⟨vs, h3, h4⟩, _⟩ := k.own i io _ e
      exact ⟨io, ds, r, es, a, vs, e, ef, h1, h3, h4, fun vs' rv => p F (upd H a (.lst vs')) (k.put e h1 ⟨vs', upd_same, rv⟩) (.put k e h1)⟩
    · exact p.elim
  · exact p.elim
def mExtend (i : Nat) (m : Mi Dt) : Mi Dt := mBind m fun y => mMut i fun ds => match y with
  | .lst es => if ds.length + es.length ≤ sizeLine then some (.non, ds ++ es) else none
  | _ => none
/-- the slot's own list is there, whatever comes -/
theorem own_first {i : Nat} {io : Bool} {ds : List Dt} (hK : X.K = T.K) (k : Ok T π A F H σ ρ) (e : ρ[i]? = some (some (.own io (.lst ds)))) : ∃ a, σ[i]? = some (some (.ref a)) ∧ tyV X.K "list" (.ref a) H := by
  obtain ⟨a, h1, h2, ⟨vs, h3, h4⟩, _⟩ := k.own i io _ e
  exact ⟨a, h1, .inl ⟨rfl, vs, SqL.of h3⟩⟩
def ownLst (i : Nat) (m : Mi Dt) : Mi Dt := fun ρ => match ρ[i]? with
  | some (some (.own _ (.lst _))) => m ρ
  | _ => .bad
theorem de_extend {i : Nat} (hK : X.K = T.K) (h : PE X o (tBM X.K "list" rExtend (tVar i) (tCons (TMn T π W m) tNil))) : PE X o (TMe T π W (ownLst i (mExtend i m))) := h.imp fun σ H Q ⟨A, F, ρ, k, p⟩ => by
  unfold ownLst at p
  split at p
  · rename_i io ds e
    obtain ⟨a, h1, h2⟩ := own_first hK k e
    refine ⟨.ref a, h1, h2, A, F, ρ, k, p.bind.imp fun y ρ1 F1 H1 k1 r1 p1 x h5 h6 h7 h8 _ => ?_⟩
    obtain ⟨io1, ds1, r, es, a1, vs, e1, ef, s1, h3, h4, q⟩ := mMut_inv p1 k1
    rw [h1] at s1
    cases s1
    cases y with
    | lst zs =>
      dsimp only at ef
      obtain ⟨ws, h9, h10⟩ := h8
      by_cases hz : ds1.length + zs.length ≤ sizeLine
      · rw [if_pos hz] at ef
        cases ef
        exact ⟨a, x, vs, ws, rfl, rfl, h3, h9, by rw [h4.length, h10.length]; exact hz, q _ (h4.append h10) _ .non⟩
      · rw [if_neg hz] at ef; cases ef
    | _ => cases ef
  · exact p.elim
end
end Dl
namespace Dl
open PySem PySem.Spec PyProof.Rows L2
section
variable {X : Cx} {T : Tx} {π : Nat → Option Pin} {W : WX} {a b c e o : Expr} {es : List Expr} {pos : Pos} {m ma mb mc : Mi Dt} {ms : Mi (List Dt)} {A A' : Addr → Prop} {F H F' H' F0 H0 : Hp} {σ : L2.St} {ρ : En}
theorem ops_pure {r : R2} {f : Dt → Dt → Option Dt} (h : ∀ F H v w d e z (Q : VK), Le F H → RepS T F H v d → RepS T F H w e → f d e = some z → (∀ u, Rep T F u z → Q u H) → r v w H Q) : OpS T r f :=
  fun π A F H σ ρ v w d e z Q k rv rw ef q => h F H v w d e z Q k.le rv rw ef fun u ru => q F H u k .refl ru
theorem uns_pure {r : V → Hp → VK → Prop} {f : Dt → Option Dt} (h : ∀ F H v d z (Q : VK), Le F H → RepS T F H v d → f d = some z → (∀ u, Rep T F u z → Q u H) → r v H Q) : UnS T r f :=
  fun π A F H σ ρ v d z Q k rv ef q => h F H v d z Q k.le rv ef fun u ru => q F H u k .refl ru
theorem RepS.int_inv {v : V} {i : Int} (h : RepS T F H v (.int i)) : v = .int i := (h.flat trivial).int_inv
theorem RepS.str_inv {v : V} {i : Str} (h : RepS T F H v (.str i)) : v = .str i := (h.flat trivial).str_inv
theorem RepS.bl_inv {v : V} {i : Bool} (h : RepS T F H v (.bl i)) : v = .bl i := (h.flat trivial).bl_inv
/-! ### whole numbers -/
def fI (g : Int → Int → Option Dt) : Dt → Dt → Option Dt
  | .int i, .int j => g i j
  | _, _ => none
theorem fI_inv {g : Int → Int → Option Dt} {d e z : Dt} (h : fI g d e = some z) : ∃ i j, d = .int i ∧ e = .int j ∧ g i j = some z := by
  unfold fI at h
  split at h
  · exact ⟨_, _, rfl, rfl, h⟩
  · cases h
theorem os_I0 {g : Int → Int → V} {gd : Int → Int → Dt} (hg : ∀ F i j, Rep T F (g i j) (gd i j)) : OpS T (rI0 g) (fI fun i j => some (gd i j)) := ops_pure fun F H v w d e z Q le rv rw ef q => by
  obtain ⟨i, j, rfl, rfl, h⟩ := fI_inv ef
  cases h
  exact ⟨i, j, rv.int_inv, rw.int_inv, q _ (hg F i j)⟩
theorem os_I {C : Int → Int → Prop} [∀ i j, Decidable (C i j)] {g : Int → Int → V} {gd : Int → Int → Dt} (hg : ∀ F i j, Rep T F (g i j) (gd i j)) : OpS T (rI C g) (fI fun i j => if C i j then some (gd i j) else none) := ops_pure fun F H v w d e z Q le rv rw ef q => by
  obtain ⟨i, j, rfl, rfl, h⟩ := fI_inv ef
  split at h
  · rename_i hc
    cases h
    exact ⟨i, j, rv.int_inv, rw.int_inv, hc, q _ (hg F i j)⟩
  · cases h
instance (i j : Int) : Decidable (CMul i j) := by unfold CMul; exact inferInstance
/-- // by a positive divisor below 2 ^ 100 -/
def CDivX (_ j : Int) : Prop := 0 < j ∧ j < 1267650600228229401496703205376
instance (i j : Int) : Decidable (CDivX i j) := by unfold CDivX; exact inferInstance
theorem CDivX.w {i j : Int} (h : CDivX i j) : CDivW i j := wide_div (b := 100) h.1 (by have h1 := h.1; have h2 := h.2; omega) (by decide) (by decide)
instance (i j : Int) : Decidable (CPow i j) := by unfold CPow; exact inferInstance
def fSub : Dt → Dt → Option Dt := fI fun i j => some (.int (i - j))
def fMulI : Dt → Dt → Option Dt := fI fun i j => if CMul i j then some (.int (i * j)) else none
def fDiv : Dt → Dt → Option Dt := fI fun i j => if CDivX i j then some (.int (i / j)) else none
def fMod : Dt → Dt → Option Dt := fI fun i j => if 0 < j then some (.int (i % j)) else none
def fPow : Dt → Dt → Option Dt := fI fun i j => if CPow i j then some (.int (i ^ j.toNat)) else none
def fLt : Dt → Dt → Option Dt := fI fun i j => some (.bl (decide (i < j)))
def fLe : Dt → Dt → Option Dt := fI fun i j => some (.bl (decide (i ≤ j)))
def fGt : Dt → Dt → Option Dt := fI fun i j => some (.bl (decide (j < i)))
def fGe : Dt → Dt → Option Dt := fI fun i j => some (.bl (decide (j ≤ i)))
theorem os_mulI : OpS T (rI CMul fun i j => .int (i * j)) fMulI := os_I fun F i j => .int _
theorem rI_mono {C C' : Int → Int → Prop} {g : Int → Int → V} {x y : V} {H : Hp} {Q : VK} (hC : ∀ i j, C' i j → C i j) (h : rI C' g x y H Q) : rI C g x y H Q := by
  obtain ⟨i, j, h1, h2, h3, h4⟩ := h
  exact ⟨i, j, h1, h2, hC i j h3, h4⟩
theorem os_div : OpS T (rI CDivW fun i j => .int (i / j)) fDiv := fun π A F H σ ρ v w d e z Q k rv rw ef q => rI_mono (fun _ _ => CDivX.w) (os_I (T := T) (C := CDivX) (g := fun i j => .int (i / j)) (gd := fun i j => .int (i / j)) (fun F i j => .int _) π A F H σ ρ v w d e z Q k rv rw ef q)
theorem os_mod : OpS T (rI (fun _ j => 0 < j) fun i j => .int (i % j)) fMod := os_I fun F i j => .int _
theorem os_pow : OpS T (rI CPow fun i j => .int (i ^ j.toNat)) fPow := os_I fun F i j => .int _
theorem os_lt : OpS T (rI0 fun i j => .bl (decide (i < j))) fLt := os_I0 fun F i j => .bl _
theorem os_gt : OpS T (rI0 fun i j => .bl (decide (j < i))) fGt := os_I0 fun F i j => .bl _
theorem os_ge : OpS T (rI0 fun i j => .bl (decide (j ≤ i))) fGe := os_I0 fun F i j => .bl _
def fNeg : Dt → Option Dt
  | .int i => some (.int (-i))
  | _ => none
theorem us_neg : UnS T (rU fun i => .int (-i)) fNeg := uns_pure fun F H v d z Q le rv ef q => by
  cases d with
  | int i => cases ef; exact ⟨i, rv.int_inv, q _ (.int _)⟩
  | _ => cases ef
/-! ### + of numbers, texts, lists, tuples -/
def fAdd : Dt → Dt → Option Dt
  | .int i, .int j => some (.int (i + j))
  | .str x, .str y => if x.length + y.length ≤ sizeLine then some (.str (x ++ y)) else none
  | .lst xs, .lst ys => if xs.length + ys.length ≤ sizeLine then some (.lst (xs ++ ys)) else none
  | .tup xs, .tup ys => if xs.length + ys.length ≤ sizeLine then some (.tup (xs ++ ys)) else none
  | _, _ => none
def rAddS : R2 := fun x y H Q => ∃ i j, x = V.str i ∧ y = V.str j ∧ i.length + j.length ≤ sizeLine ∧ Q (.str (i ++ j)) H
def rAdd (K : PySem.W.Frag) : R2 := fun x y H Q => rI0 (fun i j => .int (i + j)) x y H Q ∨ (rAddS x y H Q ∨ (rCat x y H Q ∨ rCatA K x y H Q))
theorem op_addA : OpR X (binaryOp .Add) (rAdd X.K) := OpR.or op_add (OpR.or op_add_str (OpR.or op_cat op_catA))
theorem RepS.lst_inv {v : V} {ds : List Dt} (r : RepS T F H v (.lst ds)) (le : Le F H) : ∃ a vs, v = .ref a ∧ H a = some (.lst vs) ∧ Reps T F vs ds := by
  rcases r with r | ⟨a, e, vs, h, r⟩
  · cases r with
    | lst h r => exact ⟨_, _, rfl, le _ _ h, r⟩
  · exact ⟨a, vs, e, h, r⟩
theorem os_add : OpS T (rAdd T.K) fAdd := fun π A F H σ ρ v w d e z Q k rv rw ef q => by
  unfold fAdd at ef
  split at ef
  · cases ef
    exact .inl ⟨_, _, rv.int_inv, rw.int_inv, q F H _ k .refl (.int _)⟩
  · split at ef
    · cases ef
      exact .inr (.inl ⟨_, _, rv.str_inv, rw.str_inv, by assumption, q F H _ k .refl (.str _)⟩)
    · cases ef
  · split at ef
    · rename_i hz
      cases ef
      obtain ⟨a, vs, e1, h1, r1⟩ := rv.lst_inv k.le
      obtain ⟨b, ws, e2, h2, r2⟩ := rw.lst_inv k.le
      refine .inr (.inr (.inl ⟨a, b, vs, ws, e1, e2, h1, h2, by rw [r1.length, r2.length]; exact hz, fun p hp => ?_⟩))
      exact q (upd F p (.lst (vs ++ ws))) _ (.ref p) (k.new hp) (.new k.le hp) (.lst upd_same ((r1.append r2).mono (le_new (f_none k.le hp))))
    · cases ef
  · rename_i xs ys
    split at ef
    · rename_i hz
      cases ef
      have rv' := rv.flat trivial
      have rw' := rw.flat trivial
      obtain ⟨a, vs, e1, h1, r1⟩ := rv'.tup_inv
      obtain ⟨b, ws, e2, h2, r2⟩ := rw'.tup_inv
      refine .inr (.inr (.inr ⟨a, b, vs, ws, e1, e2, sqt_mono k.le h1, sqt_mono k.le h2, by rw [r1.length, r2.length]; exact hz, fun z => ?_, fun z1 z2 => ?_, fun z1 z2 p hp => ?_⟩))
      · subst z
        cases r1
        exact q F H _ k .refl (by rw [← e2]; exact rw')
      · subst z2
        cases r2
        rw [List.append_nil] at q
        exact q F H _ k .refl (by rw [← e1]; exact rv')
      · exact q (upd F p (.tup (vs ++ ws))) _ (.ref p) (k.new hp) (.new k.le hp) (.tup upd_same ((r1.append r2).mono (le_new (f_none k.le hp))))
    · cases ef
  · cases ef
/-! ### == -/
mutual
def toPy : Dt → Option PyData
  | .non => some .none
  | .bl b => some (.bool b)
  | .int i => some (.int i)
  | .str x => some (.str x)
  | .lst xs => (toPys xs).map .list
  | .tup xs => (toPys xs).map .tuple
  | _ => none
def toPys : List Dt → Option (List PyData)
  | [] => some []
  | d :: ds => match toPy d, toPys ds with
    | some p, some ps => some (p :: ps)
    | _, _ => none
end
mutual
theorem dp_of (le : Le F H) : ∀ {d : Dt} {v : V} {p : PyData}, Rep T F v d → toPy d = some p → Dp T.K H v p
  | .non, _, _, r, e => by cases r; cases e; exact .non
  | .bl _, _, _, r, e => by cases r; cases e; exact .bl _
  | .int _, _, _, r, e => by cases r; cases e; exact .int _
  | .str _, _, _, r, e => by cases r; cases e; exact .str _
  | .ty _, _, _, r, e => by cases e
  | .scr _, _, _, r, e => by cases e
  | .dic _ _ _, _, _, r, e => by cases e
  | .ins _ _, _, _, r, e => by cases e
  | .lst xs, _, _, r, e => by
    cases r with
    | lst h rs =>
      unfold toPy at e
      cases q : toPys xs with
      | none => rw [q] at e; cases e
      | some ps => rw [q] at e; cases e; exact .lst (SqL.of (le _ _ h)) (dps_of le rs q)
  | .tup xs, _, _, r, e => by
    obtain ⟨a, vs, ev, h, rs⟩ := r.tup_inv
    subst ev
    unfold toPy at e
    cases q : toPys xs with
    | none => rw [q] at e; cases e
    | some ps => rw [q] at e; cases e; exact .tup (sqt_mono le h) (dps_of le rs q)
theorem dps_of (le : Le F H) : ∀ {ds : List Dt} {vs : List V} {ps : List PyData}, Reps T F vs ds → toPys ds = some ps → DpAll T.K H vs ps
  | [], _, _, r, e => by cases r; cases e; exact .nil
  | d :: ds, _, _, r, e => by
    cases r with
    | cons r rs =>
      unfold toPys at e
      cases q : toPy d with
      | none => rw [q] at e; cases e
      | some p =>
        cases q2 : toPys ds with
        | none => rw [q, q2] at e; cases e
        | some ps => rw [q, q2] at e; cases e; exact .cons (dp_of le r q) (dps_of le rs q2)
end
theorem dp_ofS (le : Le F H) {d : Dt} {v : V} {p : PyData} (r : RepS T F H v d) (e : toPy d = some p) : Dp T.K H v p := by
  rcases r with r | ⟨a, ev, ho⟩
  · exact dp_of le r e
  · subst ev
    cases d with
    | lst xs =>
      obtain ⟨vs, h, rs⟩ := ho
      unfold toPy at e
      cases q : toPys xs with
      | none => rw [q] at e; cases e
      | some ps => rw [q] at e; cases e; exact .lst (SqL.of h) (dps_of le rs q)
    | _ => first | exact ho.elim | cases e
def dEq (d e : Dt) : Option Bool := match toPy d, toPy e with
  | some p, some q => if SeqAt.shaped p && SeqAt.shaped q then some (PyData.eqv p q) else none
  | _, _ => none
def fEq (d e : Dt) : Option Dt := (dEq d e).map .bl
def fNe (d e : Dt) : Option Dt := (dEq d e).map fun b => .bl (!b)
theorem dEq_inv {d e : Dt} {b : Bool} (h : dEq d e = some b) : ∃ p q, toPy d = some p ∧ toPy e = some q ∧ SeqAt.shaped p = true ∧ SeqAt.shaped q = true ∧ PyData.eqv p q = b := by
  unfold dEq at h
  split at h
  · rename_i p q e1 e2
    split at h
    · rename_i hs
      cases h
      exact ⟨p, q, e1, e2, (Bool.and_eq_true_iff.mp hs).1, (Bool.and_eq_true_iff.mp hs).2, rfl⟩
    · cases h
  · cases h
theorem os_eq : OpS T (rEqD T.K) fEq := ops_pure fun F H v w d e z Q le rv rw ef q => by
  unfold fEq at ef
  cases h : dEq d e with
  | none => rw [h] at ef; cases ef
  | some b =>
    rw [h] at ef
    cases ef
    obtain ⟨p, p', h1, h2, h3, h4, h5⟩ := dEq_inv h
    subst h5
    exact ⟨p, p', dp_ofS le rv h1, dp_ofS le rw h2, h3, h4, q _ (.bl _)⟩
theorem os_ne : OpS T (rNeD T.K) fNe := ops_pure fun F H v w d e z Q le rv rw ef q => by
  unfold fNe at ef
  cases h : dEq d e with
  | none => rw [h] at ef; cases ef
  | some b =>
    rw [h] at ef
    cases ef
    obtain ⟨p, p', h1, h2, h3, h4, h5⟩ := dEq_inv h
    subst h5
    exact ⟨p, p', dp_ofS le rv h1, dp_ofS le rw h2, h3, h4, q _ (.bl _)⟩
/-- a < b < c -/
def mChain (f g : Dt → Dt → Option Dt) (ma mb mc : Mi Dt) : Mi Dt := mBind ma fun x => mBind mb fun y => mBind (mOpt (f x y)) fun z => match z with
  | .bl true => mBind mc fun w => mOpt (g y w)
  | .bl false => mPure (.bl false)
  | _ => mBad
/-! ### subscripts -/
theorem RepS.scr_inv {v : V} {ns : List Int} (r : RepS T F H v (.scr ns)) (le : Le F H) : ∃ a, v = .ref a ∧ SqL T.K H a (ns.map V.int) := by
  cases r.flat trivial with
  | scr h => exact ⟨_, rfl, sql_mono le h⟩
def fIx : Dt → Dt → Option Dt
  | .scr ns, .int i => (atI ns i).map .int
  | .lst xs, .int i => atI xs i
  | .tup xs, .int i => atI xs i
  | .str z, .int i => if z.length ≤ sizeLine then (atI z.cps.toList i).map fun c => .str ⟨#[c]⟩ else none
  | _, _ => none
theorem Reps.at {vs : List V} {ds : List Dt} {i : Int} {d : Dt} (r : Reps T F vs ds) (h : atI ds i = some d) : ∃ v, atI vs i = some v ∧ Rep T F v d := by
  unfold atI at h ⊢
  rw [r.length]
  cases q : ixN ds.length i with
  | none => rw [q] at h; cases h
  | some j =>
    rw [q] at h
    exact r.get h
theorem at_map {α β : Type} (f : α → β) (l : List α) (i : Int) : atI (l.map f) i = (atI l i).map f := by
  unfold atI
  rw [List.length_map]
  cases ixN l.length i with
  | none => rfl
  | some j => simp
theorem os_ix : OpS T (rIx T.K) fIx := ops_pure fun F H v w d e z Q le rv rw ef q => by
  unfold fIx at ef
  split at ef
  · rename_i ns i
    cases h : atI ns i with
    | none => rw [h] at ef; cases ef
    | some j =>
      rw [h] at ef
      cases ef
      obtain ⟨p, e1, hl⟩ := rv.scr_inv le
      exact .inl ⟨p, _, _, .int j, e1, rw.int_inv, hl, by rw [at_map, h]; rfl, q _ (.int _)⟩
  · obtain ⟨p, vs, e1, _, r, hl, _⟩ := rv.seq le (.inl rfl)
    obtain ⟨u, h1, h2⟩ := r.at ef
    exact .inl ⟨p, vs, _, u, e1, rw.int_inv, hl rfl, h1, q u h2⟩
  · obtain ⟨p, vs, e1, _, r, _, hl⟩ := rv.seq le (.inr rfl)
    obtain ⟨u, h1, h2⟩ := r.at ef
    exact .inr (.inl ⟨p, vs, _, u, e1, rw.int_inv, hl rfl, h1, q u h2⟩)
  · rename_i s i
    split at ef
    · rename_i hz
      cases h : atI s.cps.toList i with
      | none => rw [h] at ef; cases ef
      | some c =>
        rw [h] at ef
        cases ef
        exact .inr (.inr ⟨s, i, c, rv.str_inv, rw.int_inv, hz, h, q _ (.str _)⟩)
    · cases ef
  · cases ef
/-- o[i], o a name that may hold its own object: it is read behind i -/
def mIxV (i : Nat) (m : Mi Dt) : Mi Dt := mBind m fun y => mBind (mPeek i) fun x => mOpt (fIx x y)
theorem mPeek_inv {i : Nat} {P : Dt → En → Hp → Hp → Prop} (p : Post T π W σ A F H P (mPeek i ρ)) (k : Ok T π A F H σ ρ) : ∃ d v, σ[i]? = some (some v) ∧ RepS T F H v d ∧ P d ρ F H := by
  unfold mPeek at p
  split at p
  · rename_i d e
    obtain ⟨v, h1, h2⟩ := k.val i d e
    exact ⟨d, v, h1, h2.s, p F H k .refl⟩
  · rename_i io d e
    obtain ⟨a, h1, h2, h3, _⟩ := k.own i io d e
    exact ⟨d, .ref a, h1, .inr ⟨a, rfl, h3⟩, p F H k .refl⟩
  · exact p.elim
def hasSl (i : Nat) (m : Mi Dt) : Mi Dt := fun ρ => match ρ[i]? with
  | some (some _) => m ρ
  | _ => .bad
theorem de_ixV {i : Nat} (h : PE X e (tOp (rIx T.K) (tVar i) (TMe T π W m))) : PE X e (TMe T π W (hasSl i (mIxV i m))) := h.imp fun σ H Q ⟨A, F, ρ, k, p⟩ => by
  unfold hasSl at p
  split at p
  · rename_i s es
    have hv : ∃ v, σ[i]? = some (some v) := by
      cases s with
      | val d => obtain ⟨v, h1, _⟩ := k.val i d es; exact ⟨v, h1⟩
      | own io d => obtain ⟨a, h1, _⟩ := k.own i io d es; exact ⟨_, h1⟩
    obtain ⟨v, hv⟩ := hv
    refine ⟨v, hv, A, F, ρ, k, p.bind.imp fun y ρ1 F1 H1 k1 r1 p1 w rw => ?_⟩
    obtain ⟨d, v', h1, h2, p2⟩ := mPeek_inv p1.bind k1
    rw [hv] at h1
    cases h1
    obtain ⟨z, ez, p3⟩ := p2.opt
    exact os_ix π A F1 H1 σ ρ1 v w d y z Q k1 h2 rw.s ez fun F' H' u k' r' ru => p3 F' H' k' r' u ru
  · exact p.elim
/-! ### built-in functions of one argument -/
def CaS (T : Tx) (r : List V → Hp → VK → Prop) (f : Dt → Option Dt) : Prop := UnS T (fun v H Q => r [v] H Q) f
theorem de_call1 {r : List V → Hp → VK → Prop} {f : Dt → Option Dt} (h : PE X e (tCB r (tCons (TMp T π W m) tNil))) (hs : CaS T r f) : PE X e (TMe T π W (m1 f m)) := h.imp fun σ H Q ⟨A, F, ρ, k, p⟩ => ⟨A, F, ρ, k, p.bind.imp fun x ρ1 F1 H1 k1 r1 p1 v rv => by
  obtain ⟨z, ez, p3⟩ := p1.opt
  exact hs π A F1 H1 σ ρ1 v x z Q k1 rv ez fun F' H' u k' r' ru => p3 F' H' k' r' u ru⟩
def m1N (f : Dt → Option (List Dt)) (m : Mi Dt) : Mi Dt := mBind m fun x => mOpt ((f x).map .lst)
def fLen : Dt → Option Dt
  | .scr ns => some (.int ns.length)
  | .lst xs => some (.int xs.length)
  | .tup xs => some (.int xs.length)
  | .str z => if z.length ≤ sizeLine then some (.int z.length) else none
  | .dic false ks _ => some (.int ks.length)
  | _ => none
def rLenA (K : PySem.W.Frag) : List V → Hp → VK → Prop := fun xs H Q => (∃ p ys, xs = [.ref p] ∧ (SqL K H p ys ∨ SqT K H p ys) ∧ Q (.int ys.length) H) ∨ (∃ z, xs = [.str z] ∧ z.length ≤ sizeLine ∧ Q (.int z.length) H) ∨ (∃ a kvs, xs = [V.ref a] ∧ H a = some (.dK kvs) ∧ Q (.int kvs.length) H)
theorem cr_lenA : CallR X (.builtin "len") (rLenA X.K) := CallR.or call_len_seq (CallR.or call_len_str call_lenD)
theorem RepS.dicK_inv {v : V} {ks ds : List Dt} (r : RepS T F H v (.dic false ks ds)) (le : Le F H) : ∃ (a : Addr) (kk : List Key) (vs : List V), v = .ref a ∧ H a = some (.dK (kk.zip vs)) ∧ kk.length = vs.length ∧ ks = kk.map kD ∧ Reps T F vs ds := by
  rcases r with r | ⟨a, ev, kk, vs, h1, h2, h3, h4⟩
  · cases r with
    | dicK h l r => exact ⟨_, _, _, rfl, le _ _ h, l, rfl, r⟩
  · exact ⟨a, kk, vs, ev, h1, h2, h3, h4⟩
theorem cs_len : CaS T (rLenA T.K) fLen := uns_pure fun F H v d z Q le rv ef q => by
  unfold fLen at ef
  split at ef
  · cases ef
    obtain ⟨p, e1, hl⟩ := rv.scr_inv le
    exact .inl ⟨p, _, by rw [e1], .inl hl, q _ (by rw [List.length_map]; exact .int _)⟩
  · cases ef
    obtain ⟨p, vs, e1, h, r, _⟩ := rv.seq le (.inl rfl)
    exact .inl ⟨p, vs, by rw [e1], h, q _ (by rw [r.length]; exact .int _)⟩
  · cases ef
    obtain ⟨p, vs, e1, h, r, _⟩ := rv.seq le (.inr rfl)
    exact .inl ⟨p, vs, by rw [e1], h, q _ (by rw [r.length]; exact .int _)⟩
  · split at ef
    · cases ef
      exact .inr (.inl ⟨_, by rw [rv.str_inv], by assumption, q _ (.int _)⟩)
    · cases ef
  · cases ef
    obtain ⟨a, kk, vs, e1, h1, h2, h3, h4⟩ := rv.dicK_inv le
    refine .inr (.inr ⟨a, _, by rw [e1], h1, q _ ?_⟩)
    rw [List.length_zip, ← h2, Nat.min_self, h3, List.length_map]
    exact .int _
  · cases ef
def fInt : Dt → Option Dt
  | .int i => some (.int i)
  | .bl b => some (.int (if b then 1 else 0))
  | _ => none
theorem cs_int : CaS T (fun xs H Q => (∃ i, xs = [V.int i] ∧ Q (.int i) H) ∨ ∃ k, xs = [V.bl k] ∧ Q (.int (if k then 1 else 0)) H) fInt := uns_pure fun F H v d z Q le rv ef q => by
  unfold fInt at ef
  split at ef
  · cases ef; exact .inl ⟨_, by rw [rv.int_inv], q _ (.int _)⟩
  · cases ef; exact .inr ⟨_, by rw [rv.bl_inv], q _ (.int _)⟩
  · cases ef
def fAbs : Dt → Option Dt
  | .int i => some (.int (if i < 0 then -i else i))
  | _ => none
theorem cs_abs : CaS T (fun xs H Q => ∃ i, xs = [V.int i] ∧ Q (.int (if i < 0 then -i else i)) H) fAbs := uns_pure fun F H v d z Q le rv ef q => by
  unfold fAbs at ef
  split at ef
  · cases ef; exact ⟨_, by rw [rv.int_inv], q _ (.int _)⟩
  · cases ef
end
end Dl
namespace Dl
open PySem PySem.Spec PyProof.Rows L2
/-! ### enumerate of a tuple -/
abbrev tupItO (t : Addr) : Obj := { cls := .type "tuple_iterator", data := .fields #[.ref t, .int 0 0] }
abbrev enumO (i : Addr) : Obj := { cls := .type "enumerate", data := .fields #[.none, .bool false, .ref i, rawInt 0, .none, .none] }
open AutoSeq1 (wpAny_loadPart') in
theorem meets_enumT (t : Addr) (items : Array Value) (n : Nat) (dd : Option Addr) (sl : Array (Option Value)) :
    Meets (Builtin.«enumerate.__new__» ⟨[.type "enumerate", .ref t], []⟩) (fun _ R s => s.heap.get? t = some { cls := .type "tuple", dict := dd, data := .seq items n, slots := sl } ∧
      R (.ok (.ret (.ref (s.heap.push (tupItO t)).objs.size))) { s with heap := (s.heap.push (tupItO t)).push (enumO s.heap.objs.size) }) :=
  .of_wp fun prog w A R s h => by
    obtain ⟨hp, g, d, tk, os⟩ := s; obtain ⟨hl, h⟩ := h
    have sb := sub_enumerate
    have hT : Heap.IsTuple (Shared.heap ⟨hp, g, d, tk, os⟩) t items := ⟨_, hl, rfl, n, rfl⟩
    wp_walk using wpAny_loadPart' hl
    refine wpAny_stack_any fun _ => wpAny_pure ?_; split
    · rename_i c _ _ _ _ _; cases (c == Value.type "enumerate") <;> (wp_walk using wpAny_loadPart' hl, wpAny_pyIter_tuple hT; exact ⟨_, rfl, h⟩)
    · wp_walk using wpAny_loadPart' hl, wpAny_pyIter_tuple hT; exact ⟨_, rfl, h⟩
theorem call_enumT {prog : Program} {w : World} {A : Around} {E : Value → Shared → Prop} {s : Shared} {t : Addr} {items : Array Value} {Q : Value → Shared → Prop} (hT : s.heap.IsTuple t items)
    (h : ∀ h', IsEnum h' (s.heap.objs.size + 1) s.heap.objs.size 0 .none → h'.IsTupleIter s.heap.objs.size t 0 → (∀ b o, s.heap.get? b = some o → h'.get? b = some o) → Q (.ref (s.heap.objs.size + 1)) { s with heap := h' }) :
    wpAny (model prog w) A (call (.type "enumerate") [.ref t]) Q E s := by
  obtain ⟨⟨c, dd, dt, sl⟩, hl, hc, n, hd⟩ := hT
  obtain rfl : c = .type "tuple" := hc
  obtain rfl : dt = .seq items n := hd
  refine callType_new F.called_enumerate (by decide) (F.typeCall_enumerate_1 _) (F.newCall_enumerate_1 _) (fun ob => F.args_object_init_2 ob _) F.entry_enumerate_new (meets_enumT t items n dd sl) ⟨hl, ?_⟩
  have hz : (s.heap.push (tupItO t)).objs.size = s.heap.objs.size + 1 := Heap.size_push ..
  have he : IsEnum ((s.heap.push (tupItO t)).push (enumO s.heap.objs.size)) (s.heap.objs.size + 1) s.heap.objs.size 0 .none := by
    have q := Heap.get?_push_size (s.heap.push (tupItO t)) (o := enumO s.heap.objs.size) rfl
    rw [hz] at q; exact q
  show _ ∧ _
  rw [hz]
  exact ⟨⟨_, he, rfl⟩, h _ he ⟨_, Heap.get?_push_of_some _ (Heap.get?_push_size _ rfl), rfl, rfl⟩ fun b o x => Heap.get?_push_of_some _ (Heap.get?_push_of_some _ x)⟩
/-- each item of the tuple at a in a new pair -/
def Iet (K : PySem.W.Frag) (a : Addr) : It :=
  ⟨fun i H => ∃ (xs : List V) (x : V), SqT K H a xs ∧ xs[i]? = some x, fun i H v H' => ∃ q x, v = .ref q ∧ H q = none ∧ H' = upd H q (.tup [.int (i : Nat), x]) ∧ ∀ xs, SqT K H a xs → xs[i]? = some x, fun i H => ∃ xs : List V, SqT K H a xs ∧ xs.length = i⟩
theorem turn_enumT {P : Program} {w : World} {K : PySem.W.Frag} {elts : List Expr} {kk : Nat} {tpos : Pos} (a e it : Addr) :
    Turn P w K (.Tuple elts kk tpos) (Iet K a) [e, it] e (fun i h => (∃ old, IsEnum h e it ((i : Nat) : Int) old) ∧ h.IsTupleIter it a i ∧ e ≠ it ∧ e ≠ a ∧ it ≠ a) where
  mem := by simp
  obj := fun i h st b hb => by
    obtain ⟨⟨old, he⟩, ⟨o, ho, hc, hd⟩, _⟩ := st
    rcases (show b = e ∨ b = it by simpa using hb) with rfl | rfl
    · exact ⟨_, he, fun v q => nomatch q⟩
    · exact ⟨o, ho, fun v q => by rw [hd] at q; cases q⟩
  keep := fun i h h' ⟨⟨old, he⟩, hi, hn⟩ k => ⟨⟨old, k e (by simp) _ he⟩, hi.at fun o q => k it (by simp) o q, hn⟩
  item := by
    intro X hP hw hK hc i pins s σ H E I hf ⟨⟨old, he⟩, hit, hne, nea, nia⟩ hg
    subst hP hw hK
    obtain ⟨xs, x, hq, hx⟩ := hg
    obtain ⟨its, rv, p, hz⟩ := I.tuple hq
    obtain ⟨u, hu, ru⟩ := rv.get hx
    have hel : e < s.heap.objs.size := Heap.lt_size he
    have hil : it < s.heap.objs.size := by obtain ⟨_, q, _⟩ := hit; exact Heap.lt_size q
    have hlen : i < its.length := (List.getElem?_eq_some_iff.mp hu).1
    have hT : s.heap.IsTuple a its.toArray := p
    refine wpAny_pyNext_enum_itemD (Draws.tuple (by first | exact I.ok.hd hc | (simpa using I.ok.hd hc)) it a (Ne.symm nia) its.toArray) he ⟨hit, hT⟩ (by simpa using hlen) hne (by simp [hne, nea]) fun y h' tk hy ho hst hT2 hsz hk => ?_
    have hyu : y = u := by
      have : its[i]? = some y := by simpa using hy
      rw [hu] at this; exact (Option.some.inj this).symm
    subst hyu
    refine ⟨_, rfl, wpAny_letOwnedTupleGo_enum (s := { s with heap := h', toks := tk + 1 }) ho fun h'' he' sb => ?_⟩
    have hT3 : h''.get? s.heap.objs.size = some { cls := .type "tuple", data := .seq #[.int i tk, y] } := (sb.2 _ (Nat.ne_of_gt hel)).trans hT2
    have nw : ObjOk X.prog X.w (upd H s.heap.objs.size (.tup [.int (i : Nat), x])) h'' s.heap.objs.size (.tup [.int (i : Nat), x]) :=
      ⟨by show 2 ≤ sizeLine; decide, [.int i tk, y], .cons ⟨_, rfl⟩ (.cons ru .nil), ⟨_, hT3, rfl, _, rfl⟩⟩
    have I1 : Inv X pins σ (upd H s.heap.objs.size (.tup [.int (i : Nat), x])) { s with heap := h'', toks := tk + 1 } :=
      I.turnedNew (ch := [e, it]) (fun b ob hb q => (sb.2 b (fun z => hb (by simp [z]))).trans (hk b ob (fun z => hb (by simp [z])) (fun z => hb (by simp [z])) q)) hf (Nat.le_refl _) nw
    refine ⟨.ref s.heap.objs.size, _, I1, rfl, ⟨_, x, rfl, I.hok.fresh (Nat.le_refl _), rfl, fun ys hy => by rw [I.tuple_inj hy hq]; exact hx⟩, ⟨⟨y, ?_⟩, hst.1.at fun o q => (sb.2 it (Ne.symm hne)).trans q, hne, nea, nia⟩, fun b hb => ?_⟩
    · rw [show ((i + 1 : Nat) : Int) = (i : Int) + 1 by omega]; exact he'
    · have hb' : b < s.heap.objs.size := by
        rcases (show b = e ∨ b = it by simpa using hb) with z | z <;> (rw [z]; assumption)
      rw [upd_ne (Nat.ne_of_lt hb')]; exact (hf b hb).1
  done := by
    intro X hP hw hK hc i pins s σ H E I hf ⟨⟨old, he⟩, hit, hne, nea, nia⟩ hg
    subst hP hw hK
    obtain ⟨xs, hq, hx⟩ := hg
    obtain ⟨its, rv, p, hz⟩ := I.tuple hq
    obtain ⟨f0, f1, f2, f3, f4, f5⟩ := hf it (by simp)
    have hl := rv.length
    have hT : s.heap.IsTuple a its.toArray := p
    have ei : i = its.toArray.size := by simp; omega
    refine wpAny_pyNext_enum_endD (Draws.tuple (by first | exact I.ok.hd hc | (simpa using I.ok.hd hc)) it a (Ne.symm nia) its.toArray) he ?_ fun h' eb => ⟨rfl, I.turned (t' := s.toks) (fun b o hb q => eb b o hb q) f0 f1 f3 f4 f5⟩
    rw [← ei]; exact ⟨hit, hT⟩
  self := fun A i s Q E ⟨⟨_, he⟩, _⟩ h => wpAny_pyIter_enum he h
section
variable {X : Cx} {T : Tx} {π : Nat → Option Pin} {W : WX} {a b c e o l : Expr} {es : List Expr} {pos p tpos : Pos} {m ma mb mc : Mi Dt} {ms : Mi (List Dt)} {A A' : Addr → Prop} {F H F' H' F0 H0 : Hp} {σ : L2.St} {ρ : En} {tg : Expr} {elts : List Expr} {kk : Nat}
def iEnumA (K : PySem.W.Frag) (ta : TA) : TI := fun σ H R => ta σ H fun vs H1 => ∃ a, vs = [.ref a] ∧ (((∃ xs, SqL K H1 a xs) ∧ R (Ite K a) H1) ∨ ((∃ xs, SqT K H1 a xs) ∧ R (Iet K a) H1))
theorem pi_enumA {ta : TA} (hg : Gl X "enumerate") (hm : X.mg "enumerate" = none) (ha : PA X [e] ta) (hs : starEach [e] X.env = [(false, eval e X.env)] := by rfl) :
    PI X (.Tuple elts kk tpos) (.Call (.Name "enumerate" p) [e] [] pos) (iEnumA X.K ta) := ⟨fun pins s σ H R I h => by
  refine Call_ (ld_blt I hg hm boot_enumerate (PyProof.Rows.callWith_type1 (thn (ha.run pos pins s σ H _ I h) fun us s1 ⟨vs, H1, I1, r1, a, ex, q1⟩ => ?_) hs rfl))
  subst ex
  cases r1 with
  | cons r rr =>
    cases rr
    cases r
    have fp : ∀ b, b ∈ [s1.heap.objs.size + 1, s1.heap.objs.size] → FpOk X pins H1 b := fun b hb => by
      have hle : s1.heap.objs.size ≤ b := by
        rcases (show b = s1.heap.objs.size + 1 ∨ b = s1.heap.objs.size by simpa using hb) with z | z <;> omega
      exact I1.fpOk hle (I1.hok.fresh hle)
    rcases q1 with ⟨⟨xs, hq⟩, q⟩ | ⟨⟨xs, hq⟩, q⟩
    · obtain ⟨its, rv, p', hz⟩ := I1.list hq
      refine call_enumerate_list p'.isList fun h' he hit hsz hk => wpAny_pyIter_enum he ⟨s1.heap.objs.size + 1, [s1.heap.objs.size + 1, s1.heap.objs.size], _, _, H1, rfl, I1.kept (t' := s1.toks) hk, turn_enum a _ _, ⟨⟨.none, he⟩, hit, Nat.succ_ne_self _⟩, fp, q⟩
    · obtain ⟨its, rv, p', hz⟩ := I1.tuple hq
      have ha : a < s1.heap.objs.size := by obtain ⟨o, ho, _⟩ := p'; exact Heap.lt_size ho
      refine call_enumT (show s1.heap.IsTuple a its.toArray from p') fun h' he hit hk => wpAny_pyIter_enum he ⟨s1.heap.objs.size + 1, [s1.heap.objs.size + 1, s1.heap.objs.size], _, _, H1, rfl, I1.kept (t' := s1.toks) hk, turn_enumT a _ _, ⟨⟨.none, he⟩, hit, Nat.succ_ne_self _, Nat.ne_of_gt (Nat.lt_succ_of_lt ha), Nat.ne_of_gt ha⟩, fp, q⟩⟩
end
end Dl
namespace Dl
open PySem PySem.Spec PyProof.Rows L2
section
variable {X : Cx} {T : Tx} {π : Nat → Option Pin} {W : WX} {a b c e o l : Expr} {es : List Expr} {pos p tpos : Pos} {m ma mb mc : Mi Dt} {ms : Mi (List Dt)} {A A' : Addr → Prop} {F H F' H' F0 H0 : Hp} {σ : L2.St} {ρ : En} {tg : Expr} {elts : List Expr} {kk : Nat}
/-! ### what is walked -/
def enumD (k : Nat) : List Dt → List Dt
  | [] => []
  | d :: ds => .tup [.int k, d] :: enumD (k + 1) ds
theorem enumD_len : ∀ (k : Nat) (ds : List Dt), (enumD k ds).length = ds.length
  | _, [] => rfl
  | k, d :: ds => by unfold enumD; rw [List.length_cons, enumD_len, List.length_cons]
theorem enumD_get : ∀ (k : Nat) (ds : List Dt) (i : Nat) (d : Dt), (enumD k ds)[i]? = some d → ∃ x, ds[i]? = some x ∧ d = .tup [.int ((k + i : Nat) : Int), x]
  | _, [], _, _, h => by simp [enumD] at h
  | k, x :: ds, 0, d, h => by simp [enumD] at h; exact ⟨x, rfl, by rw [← h]; rfl⟩
  | k, x :: ds, i + 1, d, h => by
    obtain ⟨y, h1, h2⟩ := enumD_get (k + 1) ds i d (by simpa [enumD] using h)
    exact ⟨y, by simpa using h1, by rw [h2, show k + 1 + i = k + (i + 1) by omega]⟩
theorem wk_enumL {a : Addr} {vs : List V} {ds : List Dt} (h : SqL T.K F a vs) (r : Reps T F vs ds) : Wk T (Ite T.K a) (enumD 0 ds) F where
  goes := fun i H hi le => ⟨vs, vs[i]'(by rw [r.length, ← enumD_len 0]; exact hi), sql_mono le h, by rw [enumD_len] at hi; simp [r.length, hi]⟩
  stops := fun H le => ⟨vs, sql_mono le h, by rw [r.length, enumD_len]; exact Nat.le_refl _⟩
  yields := fun i H x H' d hd le y => by
    obtain ⟨q, w, e1, e2, e3, y⟩ := y
    obtain ⟨z, h1, h2⟩ := enumD_get 0 ds i d hd
    obtain ⟨v, h3, h4⟩ := r.get h1
    rw [y vs (sql_mono le h)] at h3
    cases h3
    exact .inr ⟨q, [.int (i : Nat), w], _, e2, e3, e1, .cons (.int _) (.cons h4 .nil), by rw [h2, Nat.zero_add]⟩
theorem wk_enumT {a : Addr} {vs : List V} {ds : List Dt} (h : SqT T.K F a vs) (r : Reps T F vs ds) : Wk T (Iet T.K a) (enumD 0 ds) F where
  goes := fun i H hi le => ⟨vs, vs[i]'(by rw [r.length, ← enumD_len 0]; exact hi), sqt_mono le h, by rw [enumD_len] at hi; simp [r.length, hi]⟩
  stops := fun H le => ⟨vs, sqt_mono le h, by rw [r.length, enumD_len]⟩
  yields := fun i H x H' d hd le y => by
    obtain ⟨q, w, e1, e2, e3, y⟩ := y
    obtain ⟨z, h1, h2⟩ := enumD_get 0 ds i d hd
    obtain ⟨v, h3, h4⟩ := r.get h1
    rw [y vs (sqt_mono le h)] at h3
    cases h3
    exact .inr ⟨q, [.int (i : Nat), w], _, e2, e3, e1, .cons (.int _) (.cons h4 .nil), by rw [h2, Nat.zero_add]⟩
def rngD (lo : Int) : Nat → List Dt
  | 0 => []
  | n + 1 => .int lo :: rngD (lo + 1) n
theorem rngD_len : ∀ (lo : Int) (n : Nat), (rngD lo n).length = n
  | _, 0 => rfl
  | lo, n + 1 => by unfold rngD; rw [List.length_cons, rngD_len]
theorem rngD_get : ∀ (lo : Int) (n i : Nat) (d : Dt), (rngD lo n)[i]? = some d → d = .int (lo + i)
  | _, 0, _, _, h => by simp [rngD] at h
  | lo, n + 1, 0, d, h => by simp [rngD] at h; rw [← h]; simp
  | lo, n + 1, i + 1, d, h => by
    have := rngD_get (lo + 1) n i d (by simpa [rngD] using h)
    rw [this, show lo + 1 + (i : Int) = lo + ((i + 1 : Nat) : Int) by omega]
theorem wk_rng (lo : Int) (n : Nat) : Wk T (Itr lo n) (rngD lo n) F where
  goes := fun i H hi le => by rw [rngD_len] at hi; exact hi
  stops := fun H le => by rw [rngD_len]; exact Nat.le_refl _
  yields := fun i H x H' d hd le y => by
    obtain ⟨e, y⟩ := y
    rw [rngD_get lo n i d hd, y]
    exact .inl ⟨e, .int _⟩
def mSeqI (m : Mi Dt) : Mi (List Dt) := mBind m fun d => match d with
  | .scr ns => mPure (ns.map .int)
  | .lst xs => mPure xs
  | .tup xs => mPure xs
  | _ => mBad
def mEnumI (m : Mi Dt) : Mi (List Dt) := mBind m fun d => match d with
  | .lst xs => mPure (enumD 0 xs)
  | .tup xs => mPure (enumD 0 xs)
  | _ => mBad
theorem di_enum (hK : X.K = T.K) (hg : Gl X "enumerate") (hm : X.mg "enumerate" = none) (h : PE X e (TMe T π W m)) (hs : starEach [e] X.env = [(false, eval e X.env)] := by rfl) :
    PI X (.Tuple elts kk tpos) (.Call (.Name "enumerate" p) [e] [] pos) (TMi T π W (mEnumI m)) := (pi_enumA hg hm (pa_cons h pa_nil hs) hs).imp fun σ H R ⟨A, F, ρ, k, p⟩ => ⟨A, F, ρ, k, p.bind.imp fun d ρ1 F1 H1 k1 r1 p1 v rv => by
  rw [hK]
  cases d with
  | lst xs =>
    cases rv with
    | lst h r => exact ⟨_, rfl, .inl ⟨⟨_, SqL.of (k1.le _ _ h)⟩, p1.pure k1 _ (wk_enumL (SqL.of h) r)⟩⟩
  | tup xs =>
    obtain ⟨a, vs, e1, h, r⟩ := rv.tup_inv
    exact ⟨a, by rw [e1], .inr ⟨⟨_, sqt_mono k1.le h⟩, p1.pure k1 _ (wk_enumT h r)⟩⟩
  | _ => exact p1.elim⟩
def mRng1 (ms : Mi (List Dt)) : Mi (List Dt) := mBind ms fun ds => match ds with
  | [.int j] => if -(2 ^ 62) ≤ j ∧ j < 2 ^ 62 then mPure (rngD 0 j.toNat) else mBad
  | _ => mBad
theorem di_rng1 (hg : Gl X "range") (hm : X.mg "range" = none) (h : PA X [a] (TMa T π W ms)) (hs : starEach [a] X.env = [(false, eval a X.env)] := by rfl) : PI X tg (.Call (.Name "range" p) [a] [] pos) (TMi T π W (mRng1 ms)) :=
  (pi_range1 hg hm h hs).imp fun σ H R ⟨A, F, ρ, k, p⟩ => ⟨A, F, ρ, k, p.bind.imp fun ds ρ1 F1 H1 k1 r1 p1 vs rvs => by
    split at p1
    · split at p1
      · rename_i hj
        cases rvs with
        | cons h r =>
          cases r
          exact ⟨_, by rw [h.int_inv], hj.1, hj.2, p1.pure k1 _ (wk_rng 0 _)⟩
      · exact p1.elim
    · exact p1.elim⟩
/-! ### isinstance against built-in classes -/
inductive Ty5 where
  | int | bool | str | list | tuple
def Ty5.nm : Ty5 → String
  | .int => "int" | .bool => "bool" | .str => "str" | .list => "list" | .tuple => "tuple"
theorem RepS.grow {v : V} {d : Dt} (r : RepS T F H v d) (hf : Le F F') (hh : ∀ a o, H a = some o → H' a = some o) : RepS T F' H' v d := by
  rcases r with r | ⟨a, e, ho⟩
  · exact .inl (r.mono hf)
  · exact .inr ⟨a, e, ho.mono hf fun x _ o q => hh x o q⟩
/-! ### dicts -/
variable {κ : Type} [DecidableEq κ] {emb : κ → Dt} {q : Dt → Dt → Bool}
end
end Dl
namespace Dl
open PySem PySem.Spec PyProof.Rows L2
section
variable {X : Cx} {T : Tx} {π : Nat → Option Pin} {W : WX} {a b c e o l : Expr} {es : List Expr} {pos p tpos : Pos} {m ma mb mc : Mi Dt} {ms : Mi (List Dt)} {A A' A0 : Addr → Prop} {F H F' H' F0 H0 : Hp} {σ : L2.St} {ρ : En} {tg : Expr} {elts : List Expr} {kk : Nat}
/-! ### several names at once -/
def slK : Bool → Dt → Sl
  | false, d => .val d
  | true, d => .own false d
def putSls : List Nat → List Bool → List Dt → En → Option En
  | i :: is, k :: ks, d :: ds, ρ => (setSl i (slK k d) ρ).bind (putSls is ks ds)
  | [], [], [], ρ => some ρ
  | _, _, _, _ => none
theorem Ok.there {x : Addr} (k : Ok T π A F H σ ρ) (w : IsOwn H σ ρ x) : H x ≠ none := fun e => by
  obtain ⟨_, _, o, q⟩ := k.ownH w
  rw [e] at q
  cases q
def sPars (is : List Nat) (ks : List Bool) (ms : Mi (List Dt)) : En → So := sBind ms fun ds ρ => match putSls is ks ds ρ with
  | some ρ' => .nx ρ'
  | none => .bad
end
end Dl
namespace Dl
open PySem PySem.Spec PyProof.Rows L2
section
variable {X : Cx} {T : Tx} {π : Nat → Option Pin} {W : WX} {a b c e o l : Expr} {es : List Expr} {pos p tpos : Pos} {m ma mb mc : Mi Dt} {ms : Mi (List Dt)} {A A' A0 : Addr → Prop} {F H F' H' F0 H0 : Hp} {σ : L2.St} {ρ : En} {tg : Expr} {elts : List Expr} {kk : Nat}
/-! ### xs[i] = y, xs a slot's own list -/
def putL (i : Nat) (x y : Dt) : Mi Dt := mMut i fun ds => match x with
  | .int k => (ixN ds.length k).map fun j => (.non, ds.set j y)
  | _ => none
def sLput (i : Nat) (mk mv : Mi Dt) : En → So := sBind mv fun y => sBind (hasSl i mk) fun x => sBind (putL i x y) fun _ ρ => .nx ρ
theorem ds_lput {st : Stmt} {i : Nat} {mk mv : Mi Dt} (h : PS X st (tAsg (TMe T π W mv) (gSub (tVar i) (TMe T π W mk) rSetL))) : PS X st (TMs T π W (sLput i mk mv)) := h.imp fun D σ H ⟨A, F0, H0, F, ρ, k, p⟩ => ⟨_, F, ρ, k.ok, (p.bind k).imp fun y ρ1 F1 H1 _ _ ⟨k1, p1⟩ vy ry => by
  have p1' := p1.bind k1
  unfold hasSl at p1'
  split at p1'
  · rename_i s es
    have hv : ∃ v, σ[i]? = some (some v) := by
      cases s with
      | val d => obtain ⟨v, h1, _⟩ := k1.ok.val i d es; exact ⟨v, h1⟩
      | own io d => obtain ⟨a, h1, _⟩ := k1.ok.own i io d es; exact ⟨_, h1⟩
    obtain ⟨v, hv⟩ := hv
    refine ⟨v, hv, _, F1, ρ1, k1.ok, p1'.imp fun x ρ2 F2 H2 _ r2 ⟨k2, p2⟩ vx rx => ?_⟩
    obtain ⟨io1, ds1, r, es1, a1, vs, e1, ef, s1, h3, h4, q⟩ := mMut_inv (p2.bind k2) k2.ok
    rw [hv] at s1
    cases s1
    cases x with
    | int kx =>
      dsimp only at ef
      cases hj : ixN ds1.length kx with
      | none => rw [hj] at ef; cases ef
      | some j =>
        rw [hj] at ef
        cases ef
        obtain ⟨k3, p3⟩ := q _ (h4.set (ry.mono r2.f) j)
        exact ⟨a1, vs, kx, j, rfl, rx.int_inv, h3, by rw [h4.length]; exact hj, p3 σ F2 _ k3⟩
    | _ => cases ef
  · exact p1'.elim⟩
/-! ### a def that changes its first argument -/
def mCallIo (n : Nat) (f : List Dt → Fo) (i : Nat) (ms : Mi (List Dt)) : Mi Dt := fun ρ => match ρ[i]? with
  | some (some (.own _ _)) => mBind ms (fun ds ρ1 => match ρ1[i]? with
    | some (some (.own io d)) => if ds.length + 1 = n then (match f (d :: ds) with
      | .ret r o => .ok r (ρ1.set i (some (.own io o)))
      | .exc x o => .exc x (ρ1.set i (some (.own io o)))
      | .bad => .bad) else .bad
    | _ => .bad) ρ
  | _ => .bad
theorem Ok.calledIo {i : Nat} {io : Bool} {d o : Dt} {a : Addr} (k : Ok T π A F H σ ρ) (e : ρ[i]? = some (some (.own io d))) (s : σ[i]? = some (some (.ref a))) (le : Le F' H') (r : Fr (pinA (some (a, inH H a d))) F H F' H') (io' : IoOk T F' H' (some (a, inH H a d)) o) :
    Ok T π A F' H' σ (ρ.set i (some (.own io o))) ∧ Fr A F H F' H' := by
  have hi : i < ρ.length := (List.getElem?_eq_some_iff.mp e).1
  obtain ⟨i1, i2, i3, i4⟩ := io' _ rfl
  dsimp only at i1 i2 i3 i4
  have hA : ∀ x, pinA (some (a, inH H a d)) x → A x := fun x ⟨q, hq, hx⟩ => by
    cases hq
    exact k.ownA ⟨i, io, d, a, e, s, hx⟩
  have ne : ∀ (j : Nat) jo dj b, i ≠ j → ρ[j]? = some (some (.own jo dj)) → σ[j]? = some (some (.ref b)) → ∀ x, (x = b ∨ x ∈ inH H b dj) → ¬ pinA (some (a, inH H a d)) x := fun j jo dj b hj ej sj x hx ⟨q, hq, hz⟩ => by
    cases hq
    exact hj (k.dis i j io jo d dj a b x e ej s sj hz hx)
  have smj : ∀ (j : Nat) jo dj b, i ≠ j → ρ[j]? = some (some (.own jo dj)) → σ[j]? = some (some (.ref b)) → inH H' b dj = inH H b dj := fun j jo dj b hj ej sj => by
    obtain ⟨b', q1, q2, q3, q4, q5⟩ := k.own j jo dj ej
    rw [sj] at q1
    cases q1
    exact q3.same fun o q => r.h b o (ne j jo dj b hj ej sj b (.inl rfl)) q
  refine ⟨⟨le, by simpa using k.len, fun j dj ej => ?_, fun j jo dj ej => ?_, fun j l jo lo dj dl b c x ej el sj sl xj xl => ?_⟩, r.weak hA⟩
  · by_cases hj : i = j
    · subst hj; rw [List.getElem?_set_self hi] at ej; cases ej
    · rw [List.getElem?_set_ne hj] at ej
      obtain ⟨v, h1, h2⟩ := k.val j dj ej
      exact ⟨v, h1, h2.mono r.f⟩
  · by_cases hj : i = j
    · subst hj
      rw [List.getElem?_set_self hi] at ej
      cases ej
      obtain ⟨b, h1, _, _, h4, h5⟩ := k.own i _ d e
      rw [s] at h1
      cases h1
      exact ⟨a, s, i1, i2, h4, by rw [i3]; exact h5.1, fun x hx => by rw [i3] at hx; exact ⟨i4 x hx, (h5.2 x hx).2⟩⟩
    · rw [List.getElem?_set_ne hj] at ej
      obtain ⟨b, q1, q2, q3, q4, q5, q6⟩ := k.own j jo dj ej
      have fe : ∀ x, (x = b ∨ x ∈ inH H b dj) → F' x = F x := fun x hx => by
        obtain ⟨ob, hob, ht⟩ := q3.hasI hx
        exact r.n x ob (ne j jo dj b hj ej q1 x hx) hob ht
      exact ⟨b, q1, by rw [fe b (.inl rfl)]; exact q2, q3.mono r.f fun x hx u q => r.h x u (ne j jo dj b hj ej q1 x hx) q, q4, by rw [smj j jo dj b hj ej q1]; exact q5, fun x hx => by
        rw [smj j jo dj b hj ej q1] at hx
        exact ⟨by rw [fe x (.inr hx)]; exact (q6 x hx).1, (q6 x hx).2⟩⟩
  · have back : ∀ (j : Nat) jo dj b, (ρ.set i (some (.own io o)))[j]? = some (some (.own jo dj)) → σ[j]? = some (some (.ref b)) → ∃ jo dk, ρ[j]? = some (some (.own jo dk)) ∧ inH H b dk = inH H' b dj := fun j jo dj b ej sj => by
      by_cases hj : i = j
      · subst hj; rw [List.getElem?_set_self hi] at ej; cases ej; rw [s] at sj; cases sj; exact ⟨io, d, e, i3.symm⟩
      · rw [List.getElem?_set_ne hj] at ej; exact ⟨jo, dj, ej, (smj j jo dj b hj ej sj).symm⟩
    obtain ⟨_, _, gj, ij⟩ := back j jo dj b ej sj
    obtain ⟨_, _, gl, il⟩ := back l lo dl c el sl
    exact k.dis j l _ _ _ _ b c x gj gl sj sl (by rw [ij]; exact xj) (by rw [il]; exact xl)
theorem sp_callIo {n i : Nat} {rn : Bool} {f : List Dt → Fo} {Q : VK} {vs : List V} {ds : List Dt} {a : Addr} {P : Dt → En → Hp → Hp → Prop} (k : Ok T π A F H σ ρ) (s : σ[i]? = some (some (.ref a))) (r : Reps T F vs ds)
    (p : Post T π W σ A F H P (match ρ[i]? with
      | some (some (.own io d)) => if ds.length + 1 = n then (match f (d :: ds) with
        | .ret r o => Ou.ok r (ρ.set i (some (.own io o)))
        | .exc x o => .exc x (ρ.set i (some (.own io o)))
        | .bad => .bad) else .bad
      | _ => .bad))
    (q : ∀ d ρ' F' H' v, Ok T π A F' H' σ ρ' → RetOk T H F' H' v d rn → P d ρ' F' H' → Q v H') : spM T n true rn f (.ref a :: vs) H Q (WE W σ) := by
  split at p
  · rename_i io d e
    by_cases hl : ds.length + 1 = n
    · rw [if_pos hl] at p
      obtain ⟨a', h1, h2, h3, h4, h5⟩ := k.own i io d e
      rw [s] at h1
      cases h1
      refine ⟨F, d :: ds, some (a, inH H a d), by rw [List.length_cons, r.length]; exact hl, k.le, ⟨a, vs, d, ds, rfl, rfl, h2, h3, r, rfl, fun x hx => (h5.2 x hx).1⟩, ?_⟩
      cases ef : f (d :: ds) with
      | ret rr oo =>
        rw [ef] at p
        exact fun F' H' v le fr io' rv => by
          obtain ⟨k', r'⟩ := k.calledIo e s le fr io'
          exact q rr _ F' H' v k' rv (p F' H' k' r')
      | exc x oo =>
        rw [ef] at p
        exact fun F' H' cc dd le fr io' rx => by
          obtain ⟨k', r'⟩ := k.calledIo e s le fr io'
          exact p F' H' cc dd k' r' rx
      | bad => rw [ef] at p; exact p.elim
    · rw [if_neg hl] at p; exact p.elim
  · exact p.elim
variable {k n i : Nat} {f : Addr} {fd : FuncData} {ps : List Str} {x : Str} {fm : List Dt → Fo}
theorem de_callIo {v : Str} {pv_ : Pos} (G : FnOk X.prog X.w X.K X.mg X.base (L2.CX X.prog X.w) k f fd ps (spM T n true false fm)) (hr : Room k X.A) (hg : Gl X x) (hm : X.mg x = some (.ref f)) (hk : PySem.W.keepIn X.K (.ref f) = true) (hb : Binds X.K fd ps []) (tk : Takes X W) (hv : PE X (.Name v pv_) (tVar i)) (ha : PA X es (TMa T π W ms))
    (hdb : (x == ("__debug__" : Str)) = false := by decide) (he : starEach (.Name v pv_ :: es) X.env = (false, eval (.Name v pv_) X.env) :: starEach es X.env := by rfl) (hpl : (backTo pos (starEach es X.env)).any (·.1) = false := by rfl) :
    PE X (.Call (.Name x p) (.Name v pv_ :: es) [] pos) (TMe T π W (mCallIo n fm i ms)) := (pe_callSD (E := WE W) G hr hg hm hk hb .nil (fun σ => passAt tk σ) (pa_cons hv ha he) hdb he hpl).imp fun σ H Q ⟨A, F, ρ, k, p⟩ => by
  unfold mCallIo at p
  split at p
  · rename_i io d e
    obtain ⟨a, h1, h2⟩ := k.own i io d e
    refine ⟨.ref a, h1, A, F, ρ, k, p.bind.imp fun ds ρ1 F1 H1 k1 r1 p1 vs rvs => ?_⟩
    show spM T n true false fm ((.ref a :: vs) ++ []) H1 Q (WE W σ)
    rw [List.append_nil]
    exact sp_callIo k1 h1 rvs p1 fun d ρ' F' H' v _ rv q => q v rv
  · exact p.elim
/-! ### instances -/
/-- o.m(..), o any value of the class (not changed) -/
def mMeth (c n : Nat) (f : List Dt → Fo) (m : Mi Dt) (ms : Mi (List Dt)) : Mi Dt := mBind m fun d => match d with
  | .ins c' vs => if c' = c then mBind ms fun ds ρ => if (Dt.ins c' vs :: ds).length = n then (match f (.ins c' vs :: ds) with
    | .ret d _ => .ok d ρ
    | .exc x _ => .exc x ρ
    | .bad => .bad) else .bad else mBad
  | _ => mBad
/-! ### texts -/
/-! ### x in a list or tuple of flat things -/
end
end Dl
namespace Dl
open PySem PySem.Spec PyProof.Rows L2
section
variable {X : Cx} {T : Tx} {π : Nat → Option Pin} {W : WX} {a b c e o l : Expr} {es : List Expr} {pos p tpos : Pos} {m ma mb mc : Mi Dt} {ms : Mi (List Dt)} {A A' A0 : Addr → Prop} {F H F' H' F0 H0 : Hp} {σ : L2.St} {ρ : En} {tg : Expr} {elts : List Expr} {kk : Nat}
/-! ### {k: v for ..}, keys whole numbers and texts -/
/-! ### max, min of two whole numbers -/
def fMax2 : Dt → Dt → Option Dt := fI fun i j => some (.int (if j > i then j else i))
def fMin2 : Dt → Dt → Option Dt := fI fun i j => some (.int (if j < i then j else i))
theorem de_mm2 {g : Int → Int → Int} (h : PE X e (tCB (fun xs H Q => ∃ i j, xs = [V.int i, V.int j] ∧ Q (.int (g i j)) H) (tCons (TMe T π W ma) (tCons (TMe T π W mb) tNil)))) : PE X e (TMe T π W (m2 (fI fun i j => some (.int (g i j))) ma mb)) := h.imp fun σ H Q ⟨A, F, ρ, k, p⟩ =>
  ⟨A, F, ρ, k, p.bind.imp fun x ρ1 F1 H1 k1 r1 p1 v rv => ⟨A, F1, ρ1, k1, p1.bind.imp fun y ρ2 F2 H2 k2 r2 p2 w rw => by
    obtain ⟨z, ez, p3⟩ := p2.opt
    obtain ⟨i, j, e1, e2, e3⟩ := fI_inv ez
    subst e1 e2
    cases e3
    exact ⟨i, j, by rw [rv.int_inv, rw.int_inv], p3.pure k2 _ (.int _)⟩⟩⟩
end
end Dl
namespace Dl
open PySem PySem.Spec PyProof.Rows L2
/-! ### {k: v for ..}, keys of either kind -/
section
variable {X : Cx} {T : Tx} {π : Nat → Option Pin} {W : WX} {a b c e o l : Expr} {es : List Expr} {pos p tpos : Pos} {m ma mb mc : Mi Dt} {ms : Mi (List Dt)} {A A' A0 : Addr → Prop} {F H F' H' F0 H0 : Hp} {σ : L2.St} {ρ : En} {tg : Expr}
/-! ### x in a list or tuple of data -/
def itemsD : Dt → Option (List Dt)
  | .lst xs => some xs
  | .tup xs => some xs
  | _ => none
def dIn (x d : Dt) : Option Bool := match toPy x, (itemsD d).bind toPys with
  | some p, some ps => if SeqAt.shaped p && decide (p.depth ≤ 60) && SeqAt.shaped (.list ps) then some (ps.any fun z => PyData.eqv z p) else none
  | _, _ => none
def fInA (x d : Dt) : Option Dt := (dIn x d).map .bl
/-! ### pop -/
end
end Dl
namespace Dl
open PySem PySem.Spec PyProof.Rows L2
section
variable {X : Cx} {T : Tx} {π : Nat → Option Pin} {W : WX} {a b c e tg : Expr} {es : List Expr} {pos p p2 : Pos} {m ma mb mc : Mi Dt} {ms : Mi (List Dt)} {A A' : Addr → Prop} {F H F' H' F0 H0 : Hp} {σ : L2.St} {ρ : En} {i : Nat}
/-! ### slices -/
theorem _root_.L2.PO.imp {e : Option Expr} {t t' : TO} (h : PO X e t) (f : ∀ σ H Q, t' σ H Q → t σ H Q) : PO X e t' := ⟨fun pins s σ H Q I q => h.run pins s σ H Q I (f σ H Q q)⟩
/-! ### list(range(..)) -/
def rgD (a b : Int) : List Dt := (List.range (b - a).toNat).map fun i => Dt.int (a + (i : Nat))
instance (a b : Int) : Decidable (RgOk a b) := by unfold RgOk; exact inferInstance
def mLstRg (m : Mi Dt) : Mi Dt := mBind m fun d => match d with
  | .int n => if RgOk 0 n then mPure (.lst (rgD 0 n)) else mBad
  | _ => mBad
/-! ### range(a, b, c) walked -/
/-! ### a < b < c as a value -/
/-! ### three names at once -/
theorem Gk.length {ks : List Bool} {vs : List V} {ds : List Dt} {as : List Addr} (g : Gk T F H A ks vs ds as) : vs.length = ks.length := by
  induction g with
  | nil => rfl
  | val _ _ ih => rw [List.length_cons, List.length_cons, ih]
  | own _ _ _ _ _ _ ih => rw [List.length_cons, List.length_cons, ih]
theorem Gk.mono {ks : List Bool} {vs : List V} {ds : List Dt} {as : List Addr} (g : Gk T F H A ks vs ds as) (hh : ∀ a o, H a = some o → H' a = some o) : Gk T F H' A ks vs ds as := by
  induction g with
  | nil => exact .nil
  | val r _ ih => exact .val r ih
  | own h1 h2 h3 h4 h5 _ ih =>
    have sm := h3.same fun o q => hh _ o q
    rw [← sm] at h5 ⊢
    exact .own h1 h2 (h3.mono (le_refl _) fun x _ o q => hh x o q) h4 h5 ih
/-! ### xs * n -/
def mRep (ma mb : Mi Dt) : Mi Dt := mBind ma fun x => mBind mb fun y => match x, y with
  | .lst ds, .int n => if -(2 ^ 63) ≤ n ∧ n < 2 ^ 63 ∧ ds.length * n.toNat ≤ sizeLine then mPure (.lst (List.replicate n.toNat ds).flatten) else mBad
  | _, _ => mBad
theorem Reps.flat {vs : List V} {ds : List Dt} (r : Reps T F vs ds) : ∀ n, Reps T F (List.replicate n vs).flatten (List.replicate n ds).flatten
  | 0 => .nil
  | n + 1 => by
    rw [List.replicate_succ, List.replicate_succ, List.flatten_cons, List.flatten_cons]
    exact r.append (Reps.flat r n)
theorem dn_rep (ha : PE X a (TMe T π W ma)) (hb : PE X b (TMp T π W mb)) : PE X (.BinOp a .Mult b pos) (TMn T π W (mRep ma mb)) := (pe_op op_rep ha hb).imp fun σ H Q ⟨A, F, ρ, k, p⟩ =>
  ⟨A, F, ρ, k, p.bind.imp fun x ρ1 F1 H1 k1 r1 p1 v rv => ⟨A, F1, ρ1, k1, p1.bind.imp fun y ρ2 F2 H2 k2 r2 p2 w rw => by
    cases x with
    | lst ds =>
      cases y with
      | int n =>
        dsimp only at p2
        split at p2
        · rename_i hn
          obtain ⟨a, vs, e, h, r⟩ := (rv.mono r2.f).s.lst_inv k2.le
          exact ⟨a, n, vs, e, rw.int_inv, h, hn.1, hn.2.1, by rw [r.length]; exact hn.2.2, fun q hq => p2 F2 _ (k2.newO hq) (.newO hq) q (f_none k2.le hq) (k2.fresh_new hq) (r1.t q (r2.t q hq)) ⟨_, upd_same, r.flat _⟩ (fun _ z => nomatch z)⟩
        · exact p2.elim
      | _ => exact p2.elim
    | _ => exact p2.elim⟩⟩
end
end Dl
namespace Dl
open PySem PySem.Spec PyProof.Rows L2
-- k01
def b_law_box : En → So :=
  (sSeq (sSet 3 (m2 fAdd (m2 fAdd (m2 fMulI (mPure (.int 7727)) (mPeek 1)) (m2 fMulI (mPure (.int 104729)) (mPeek 2))) (mPure (.int 43))))
  (sSeq (sIf (mB (m2 fLt (mVar 1) (m1 fLen (mPeek 0)))) (sSet 3 (m1 fAbs (hasSl 0 (mIxV 0 (mVar 1))))) (sIf (mB (m2 fGt (m1 fLen (mPeek 0)) (mPure (.int 0)))) (sSet 3 (m2 fAdd (mVar 3) (m2 fMulI (m2 fMod (m1 fInt (m1 fAbs (hasSl 0 (mIxV 0 (m2 fMod (m1 fInt (mPeek 1)) (m1 fLen (mPeek 0))))))) (mPure (.int 2147483629))) (mPure (.int 69623))))) (fun ρ => .nx ρ)))
  (sSeq (sSet 4 (m2 fAdd (m2 fMod (m1 fInt (m2 fAdd (m2 fMulI (m2 fMod (m1 fInt (mPeek 3)) (mPure (.int 2147483629))) (mPure (.int 48271))) (m2 fMulI (mPure (.int 40692)) (m2 fAdd (mVar 1) (m2 fMulI (mPure (.int 11)) (mPeek 2)))))) (mPure (.int 2147483629))) (mPure (.int 1))))
  (sRetN (mLst (mCons (m2 fIx (mLst (mCons (mPure (.int 0)) (mCons (mVar 3) (mPure [])))) (m1 fInt (m2 fGe (mVar 3) (m2 fPow (mPure (.int 10)) (mPure (.int 18)))))) (mCons (mVar 4) (mCons (mPure (.int 0)) (mPure [])))))))))
def m_law_box : List Dt → Fo := runF 5 false true b_law_box
-- k01
def b_law_take : En → So :=
  (sSeq (sIf (mB (m2 fGt (hasSl 0 (mIxV 0 (mPure (.int 0)))) (mPure (.int 0)))) (sSeq (sSet 2 (m2 fMod (m1 fInt (hasSl 0 (mIxV 0 (mPure (.int 0))))) (mPeek 1)))
  (sSeq (sLput 0 (mPure (.int 0)) (m2 fDiv (hasSl 0 (mIxV 0 (mPure (.int 0)))) (mPeek 1)))
  (sRet (mVar 2)))) (fun ρ => .nx ρ))
  (sSeq (sLput 0 (mPure (.int 2)) (m2 fAdd (hasSl 0 (mIxV 0 (mPure (.int 2)))) (mPure (.int 1))))
  (sSeq (sSet 3 (m2 fMod (m1 fInt (m2 fMulI (m2 fAdd (hasSl 0 (mIxV 0 (mPure (.int 1)))) (m2 fMulI (mPure (.int 104729)) (hasSl 0 (mIxV 0 (mPure (.int 2)))))) (mPure (.int 69623)))) (mPure (.int 2147483647))))
  (sSeq (sLput 0 (mPure (.int 1)) (m2 fAdd (m2 fMod (m1 fInt (m2 fAdd (m2 fMulI (mVar 3) (mPure (.int 48271))) (mPure (.int 30103)))) (mPure (.int 2147483629))) (mPure (.int 1))))
  (sSeq (sIf (mB (m2 fLt (mVar 1) (m2 fPow (mPure (.int 2)) (mPure (.int 40))))) (sRet (m2 fMod (m1 fInt (m2 fDiv (m2 fAdd (m2 fMulI (mVar 3) (mPure (.int 2147483647))) (hasSl 0 (mIxV 0 (mPure (.int 1))))) (mPure (.int 8191)))) (mPeek 1))) (fun ρ => .nx ρ))
  (sSeq (sSet 4 (m2 fMulI (m2 fAdd (m2 fMulI (mVar 3) (mPure (.int 2147483647))) (hasSl 0 (mIxV 0 (mPure (.int 1))))) (m2 fPow (mPure (.int 2147483629)) (mPure (.int 3)))))
  (sRet (m2 fMod (m1 fInt (m2 fAdd (m2 fAdd (mVar 4) (m2 fMulI (m2 fPow (hasSl 0 (mIxV 0 (mPure (.int 1)))) (mPure (.int 3))) (mPure (.int 8191)))) (mPeek 3))) (mPeek 1)))))))))
def m_law_take : List Dt → Fo := runF 5 true false b_law_take
-- k01
def b_law_pick : En → So :=
  (sRet (hasSl 1 (mIxV 1 (mCallIo 2 m_law_take 0 (mCons (m1 fLen (mPeek 1)) (mPure []))))))
def m_law_pick : List Dt → Fo := runF 2 true false b_law_pick
-- k01
def b_law_value : En → So :=
  (sSeq (sSet 1 (mLst (mCons (mPure (.int 0)) (mCons (m1 fNeg (mPure (.int 3))) (mCons (m2 fPow (mPure (.int 10)) (mPure (.int 9))) (mCons (mPure (.str "")) (mCons (mPure (.str "turn")) (mCons (mPure .non) (mCons (mPure (.bl true)) (mCons (mPure (.bl false)) (mCons (mLst (mPure [])) (mCons (mLst (mCons (mPure (.int 1)) (mCons (mPure (.str "move")) (mPure [])))) (mCons (mTup (mCons (mPure (.int 0)) (mCons (mPure .non) (mPure [])))) (mCons (mTup (mPure [])) (mPure [])))))))))))))))
  (sSeq (sSet 1 (m2 fAdd (mVar 1) (mLst (mCons (mPure (.str "none")) (mCons (mPure (.int 2)) (mCons (mPure (.str "x y")) (mCons (mLst (mCons (mPure (.str "0")) (mPure []))) (mCons (mTup (mCons (mPure (.int 1)) (mCons (mPure (.int 0)) (mPure [])))) (mCons (mPure (.int 1)) (mPure []))))))))))
  (sSeq (sSet 2 (mTup (mPure [])))
  (sSeq (sFor (mRng1 (mCons (mPure (.int 7)) (mPure []))) (gV 3) (sSet 2 (mIfE (mB (m2 fEq (m2 fMod (mVar 3) (mPure (.int 2))) (mPure (.int 0)))) (mLst (mCons (mVar 2) (mCons (mPure (.int 1)) (mPure [])))) (mTup (mCons (mVar 2) (mPure []))))))
  (sRet (mCallIo 2 m_law_pick 0 (mCons (m2 fAdd (mVar 1) (mLst (mCons (mVar 2) (mPure [])))) (mPure []))))))))
def m_law_value : List Dt → Fo := runF 4 true false b_law_value
-- k02
-- k02
-- k02
-- k02
-- k02
-- k06
-- k15
-- k15
-- k18
-- k67
-- k67
-- k67
-- k67
-- k67
end Dl
namespace Dl
open PySem PySem.Spec PyProof.Rows L2
/-! ### sorted() of pairs of numbers -/
def PLe (a b : Int × Int) : Prop := a.1 < b.1 ∨ (a.1 = b.1 ∧ a.2 ≤ b.2)
instance (a b : Int × Int) : Decidable (PLe a b) := by unfold PLe; infer_instance
theorem PLe.refl (a : Int × Int) : PLe a a := .inr ⟨rfl, Int.le_refl _⟩
theorem PLe.trans {a b c : Int × Int} (h : PLe a b) (k : PLe b c) : PLe a c := by unfold PLe at *; omega
end Dl
namespace Dl
open PySem PySem.Spec PyProof.Rows L2
/-! ### return of what a slot holds alone -/
section
variable {X : Cx} {T : Tx} {π : Nat → Option Pin} {W : WX} {e : Expr} {m : Mi Dt} {A A' : Addr → Prop} {F H F1 H1 : Hp} {σ : L2.St} {ρ : En} {pos : Pos} {α : Type}
theorem Ok.drop (k : Ok T π A F H σ ρ) (i : Nat) : Ok T π A F H σ (ρ.set i none) := by
  have old : ∀ {j : Nat} {s : Sl}, (ρ.set i none)[j]? = some (some s) → ρ[j]? = some (some s) ∧ j ≠ i := fun {j s} h => by
    by_cases hj : i = j
    · subst hj
      rw [List.getElem?_set_self'] at h
      cases hq : ρ[i]? with
      | none => rw [hq] at h; cases h
      | some z => rw [hq] at h; cases h
    · rw [List.getElem?_set_ne hj] at h; exact ⟨h, fun z => hj z.symm⟩
  exact ⟨k.le, by rw [List.length_set]; exact k.len, fun j d h => k.val j d (old h).1, fun j io d h => k.own j io d (old h).1, fun j l io jo d e a b x h1 h2 => k.dis j l io jo d e a b x (old h1).1 (old h2).1⟩
theorem Post.base {P : α → En → Hp → Hp → Prop} {o : Ou α} (p : Post T π W σ A F H P o) (r : Fr A F H F1 H1) (h : ∀ a, A' a → A a) : Post T π W σ A' F1 H1 P o := by
  cases o with
  | ok a ρ' => exact fun F' H' k r' => p F' H' (k.weak h) (r.trans (r'.weak h))
  | exc x ρ' => exact fun F' H' c d k r' => p F' H' c d (k.weak h) (r.trans (r'.weak h))
  | bad => exact p
end
/-! ### {k: v}, the key a tuple -/
/-! ### sum of a tuple of ints -/
end Dl
namespace PySem
end PySem
namespace PySem
end PySem
namespace Dl
open PySem PySem.Spec PyProof.Rows L2
/-! ### pairs of small numbers have unlike hashes -/
def hP (i j : Int) : Int := reduceHash (Builtin.Tuple.tupleHashOf [hashInt i, hashInt j])
def hN (n : Nat) : Int := hP ((n / 8 : Nat) : Int) ((n % 8 : Nat) : Int)
end Dl
namespace PySem
open PyProof.Rows L2 PySem.W
end PySem
namespace Dl
open PySem PySem.Spec PyProof.Rows L2
-- k25
-- k25
-- k25
-- k25
-- k25
-- k25
def b_law_due : En → So :=
  (sSeq (sAsg (mVar 0) (gT (gsC (gV 2) (gsC (gV 3) gsN)) 2))
  (sSeq (sPars [4, 5] [false, true] (mCons (mLstRg (mVar 2)) (mCons (mLst (mPure [])) (mPure []))))
  (sSeq (sFor (mRng1 (mCons (mVar 1) (mPure []))) (gV 6) (sSeq (sAsg (hasSl 3 (mIxV 3 (m2 fMod (m1 fInt (mPeek 6)) (m1 fLen (mPeek 3))))) (gT (gsC (gV 7) (gsC (gV 8) gsN)) 2))
  (sSeq (sDrop (ownLst 5 (mExtend 5 (mLc (mRng1 (mCons (mVar 2) (mPure []))) (gV 9) (mB (m2 fInA (hasSl 4 (mIxV 4 (mVar 9))) (mPeek 7))) (mTup (mCons (mVar 6) (mCons (mVar 9) (mPure [])))) [9]))))
  (sSet 4 (mLc (mSeqI (mVar 4)) (gV 10) (mPure true) (hasSl 8 (mIxV 8 (mVar 10))) [10])))))
  (sRet (mVar 5)))))
def m_law_due : List Dt → Fo := runF 11 false false b_law_due
-- k25
-- k25
-- k25
-- k25
-- k25
-- k26
-- k26
-- k27
-- k43
-- k90
-- k90
-- k90
end Dl
namespace Dl
open PySem PySem.Spec PyProof.Rows L2
/-! ### a def that is entered where no repr is under way -/
structure FnG (P : Program) (w : World) (K : PySem.W.Frag) (mg : Str → Option Value) (base : Heap) (C : CXT) (k : Nat) (f : Addr) (fd : FuncData) (ps : List Str) (sp : Sp) : Prop where
  ln : ∀ xs H R E, sp xs H R E → xs.length = ps.length
  go : ∀ (A : Around) (st : List Env) (s : Shared) (H : Hp) (ar : Args) (us : List Value) (xs : List V) (R : VK) (E : XK), Room k A → A.guards = some [] → Env0 P w K mg base A st s H → BindsTo s fd ar (ps.zip us) → Vals xs us → sp xs H R E → codeAny (model P w) A (.call (.ref f) ar) (CR C st P w H s R E) s
theorem FnG.imp {P : Program} {w : World} {K : PySem.W.Frag} {mg : Str → Option Value} {base : Heap} {C : CXT} {k : Nat} {f : Addr} {fd : FuncData} {ps : List Str} {sp sq : Sp} (G : FnG P w K mg base C k f fd ps sp)
    (h : ∀ xs H R E, sq xs H R E → sp xs H R E) : FnG P w K mg base C k f fd ps sq :=
  ⟨fun xs H R E q => G.ln xs H R E (h _ _ _ _ q), fun A st s H ar us xs R E hr hg he hb hv hs => G.go A st s H ar us xs R E hr hg he hb hv (h _ _ _ _ hs)⟩
theorem fnG_of {C : CXT} {P : Program} {w : World} {K : PySem.W.Frag} {mg : Str → Option Value} {base : Heap} {k : Nat} {f : Addr} {nm qu : Str} {pa : Arguments} {bo : List Stmt} {sc : Scope} {dV kV doc pm cdv ct oc : Value} {an od : Option Addr} {osl : Array (Option Value)} {N ps : List Str} {sp : Sp}
    (lk : K.lookup f = some ⟨oc, od, .func (PySem.W.fnOf nm qu pa bo sc dV kV doc pm an cdv ct), osl⟩) (hcd : PySem.W.codeIn K cdv qu = true) (S : FnScope N ps sc) (ln : ∀ xs H R E, sp xs H R E → xs.length = ps.length)
    (hbo : ∀ (A : Around) (st : List Env) (s : Shared) (H : Hp) (xs : List V) (R : VK) (E : XK), Room k (A.deeper (envOfC qu sc s.heap.objs.size f cdv)) → (A.deeper (envOfC qu sc s.heap.objs.size f cdv)).guards = some [] → sp xs H R E →
      ∃ t, PSs (cxOf C P w K mg base N qu sc f cdv A st s H E) bo t ∧ t { nx := fun _ H' => R .non H', rt := R } (start N xs) H) : FnG P w K mg base C (k + 1) f (PySem.W.fnOf nm qu pa bo sc dV kV doc pm an cdv ct) ps sp := by
  refine ⟨ln, fun A st s H ar us xs R E hr hg e0 hb r hs => ?_⟩
  have hl := ln _ _ _ _ hs
  have KX : K.In s.heap := e0.mod.kin.keeps (fun b o e => (e0.bs b o e).1)
  have lim : s.heap.NoLimit := e0.mod.nolimit.keeps (fun b o e => (e0.bs b o e).1)
  have kinds : ∀ y ∈ ps.zip us, sc.names.lookup y.1 = some .local ∨ (sc.names.lookup y.1 = some .cell ∧ ((cellsFrom (s.heap.objs.size + 1) sc.names []).lookup y.1).isSome = true) := by
    rintro ⟨n, v⟩ hy
    rcases S.par n (List.of_mem_zip hy).1 with q | q
    · exact .inl q
    · exact .inr ⟨q, PySem.W.cellsFrom_some _ _ _ (.inl q)⟩
  refine codeAny_call_function hr.depth (KX _ _ lk) rfl S.co S.gen rfl (PySem.W.codeRec_of KX hcd) (hb _ _ _ _ (wpAny_newFunctionEnv_cells S.kind kinds fun env he s1 x => ?_))
  subst he
  refine ⟨lim.keeps x.toInCall.keep, codeAny_func ?_⟩
  obtain ⟨t, ht, hq⟩ := hbo A st s H xs R E (hr.deeper _) hg hs
  have I : Inv (cxOf C P w K mg base N qu sc f cdv A st s H E) [] (start N xs) H s1 := inv_start S hr.hd e0 hl r x
  refine wpAny_mono (ht.run [] s1 (start N xs) H _ I hq) (fun fl s' z => ?_) fun _ _ z => z
  have fin : ∀ {σ' : L2.St} {H' : Hp} {v : V} {u : Value}, Inv (cxOf C P w K mg base N qu sc f cdv A st s H E) [] σ' H' s' → RelV v u → R v H' → CE st P w H s R u s' :=
    fun {σ' H' v u} J rv q => ⟨v, H', J.os, J.bare, J.base, J.hok, rv, q⟩
  cases fl with
  | ret u => exact let ⟨v, σ', H', J, rv, q⟩ := z; fin J rv q
  | next => exact let ⟨σ', H', J, q⟩ := z; fin (v := V.non) (u := Value.none) J rfl q
  | brk => exact let ⟨_, _, _, q⟩ := z; q.elim
  | cont => exact let ⟨_, _, _, q⟩ := z; q.elim
theorem FunG.okX {P : Program} {w : World} {K : PySem.W.Frag} {mg : Str → Option Value} {base : Heap} {x qual : Str} {st : Stmt} {f : Addr} {fd : FuncData} {N ps : List Str} {k : Nat} {sp : Sp} (F : Fun K x qual st f fd) (S : FnScope N ps (defScope st)) (ln : ∀ vs H Q E, sp vs H Q E → vs.length = ps.length)
    (hbo : ∀ (cdv : Value) (A : Around) (out : List Env) (s : Shared) (H : Hp) (xs : List V) (R : VK) (E : XK), Room k (A.deeper (envOfC qual (defScope st) s.heap.objs.size f cdv)) → (A.deeper (envOfC qual (defScope st) s.heap.objs.size f cdv)).guards = some [] → sp xs H R E →
      ∃ t, PSs (cxOf (L2.CX P w) P w K mg base N qual (defScope st) f cdv A out s H E) (defBody st) t ∧ t { nx := fun _ H' => R .non H', rt := R } (start N xs) H) : FnG P w K mg base (L2.CX P w) (k + 1) f fd ps sp := by
  obtain ⟨oc, od, kV, doc, pm, an, cdv, ct, osl, rfl, lk, hcd⟩ := F.ex
  exact fnG_of lk hcd S ln fun A out s H xs R E hr hg hs => hbo cdv A out s H xs R E hr hg hs
section
variable {P : Program} {w : World} {K : PySem.W.Frag} {mg : Str → Option Value} {base : Heap}
/-- as fun_ok2 -/
theorem fun_okG {x qual : Str} {st : Stmt} {f : Addr} {fd : FuncData} {N ps : List Str} {k n : Nat} {cl : Nat → Option (Addr × List Str)} {io rn : Bool} {body : En → So} {fm : List Dt → Fo} (F : Fun K x qual st f fd) (S : FnScope N ps (defScope st)) (hN : ps.length ≤ N.length) (hn : n = ps.length) (hm : fm = runF N.length io rn body)
    (hb : ∀ (cdv : Value) (A : Around) (outer : List Env) (s : Shared) (H : Hp) (E : XK) (π : Nat → Option Pin), Room k (A.deeper (envOfC qual (defScope st) s.heap.objs.size f cdv)) → (A.deeper (envOfC qual (defScope st) s.heap.objs.size f cdv)).guards = some [] →
      PSs (cxOf (L2.CX P w) P w K mg base N qual (defScope st) f cdv A outer s H E) (defBody st) (TMs ⟨K, cl⟩ π (fun cls d _ H => E cls d H) body)) :
    FnG P w K mg base (L2.CX P w) (k + 1) f fd ps (spM ⟨K, cl⟩ n io rn fm) := by
  subst hn hm
  refine FunG.okX F S (fun vs H Q E h => ?_) (fun cdv A outer s H vs Q E hr hg h => ?_)
  · obtain ⟨F, ds, π0, hl, _⟩ := h
    exact hl
  · obtain ⟨F0, ds, π0, hl, le, ha, q⟩ := h
    refine ⟨_, hb cdv A outer s H E (pi0 π0) hr hg, _, F0, H, F0, _, ok_start (by rw [hl]; exact hN) le ha, ?_⟩
    unfold runF at q
    cases eb : body (argE io ds ++ List.replicate (N.length - ds.length) none) with
    | nx ρ =>
      rw [eb] at q
      dsimp only at q
      cases eo : ioOut io ρ with
      | none => rw [eo] at q; exact q.elim
      | some o =>
        rw [eo] at q
        cases rn with
        | true => exact q.elim
        | false => exact fun σ' F' H' k' => q F' H' .non k'.ok.le k'.fr (io_end ha k' eo) .non
    | rt d ρ =>
      rw [eb] at q
      dsimp only at q
      cases eo : ioOut io ρ with
      | none => rw [eo] at q; exact q.elim
      | some o =>
        rw [eo] at q
        cases rn with
        | true => exact q.elim
        | false => exact fun σ' F' H' v k' rv => q F' H' v k'.ok.le k'.fr (io_end ha k' eo) rv
    | rtN d ρ =>
      rw [eb] at q
      dsimp only at q
      cases eo : ioOut io ρ with
      | none => rw [eo] at q; exact q.elim
      | some o =>
        rw [eo] at q
        cases rn with
        | false => exact q.elim
        | true => exact fun σ' F' H' p k' h1 h2 h3 h4 h5 => q F' H' (.ref p) k'.ok.le k'.fr (io_end ha k' eo) ⟨p, rfl, h1, rtn_new ha k' eo h2 h3, h4, fun y hy => ⟨(h5 y hy).1, rtn_new ha k' eo (h5 y hy).2.1 (h5 y hy).2.2⟩⟩
    | exc x ρ =>
      rw [eb] at q
      dsimp only at q
      cases eo : ioOut io ρ with
      | none => rw [eo] at q; exact q.elim
      | some o =>
        rw [eo] at q
        exact fun σ' F' H' c d k' rx => q F' H' c d k'.ok.le k'.fr (io_end ha k' eo) rx
    | bk ρ => rw [eb] at q; exact q.elim
    | ct ρ => rw [eb] at q; exact q.elim
    | bad => rw [eb] at q; exact q.elim
end
/-! ### repr() of data -/
section
variable {X : Cx} {T : Tx} {F H : Hp}
/-- what can be shown -/
def shOk (p : PyData) : Bool := p.showable && (!p.hasDict && (decide (p.depth ≤ 40) && decide (p.shown.length ≤ sizeLine)))
def rReprP (K : PySem.W.Frag) : List V → Hp → VK → Prop := fun xs H Q => ∃ x p, xs = [x] ∧ Dp K H x p ∧ shOk p = true ∧ Q (.str p.shown) H
theorem cr_reprP (hg : X.A.guards = some []) {k : Nat} (hr : Room k X.A) : CallR X (.builtin "repr") (rReprP X.K) := by
  intro pins s σ H xs us Q I r h
  obtain ⟨x, p, rfl, hd, hp, q⟩ := h
  obtain ⟨u, rfl, rx⟩ := vals1 r
  unfold shOk at hp
  simp only [Bool.and_eq_true, Bool.not_eq_true', decide_eq_true_eq] at hp
  obtain ⟨h1, h2, h3, h4⟩ := hp
  have hu := hr.un
  obtain ⟨as, hR⟩ := Dp.reads I p x u hd rx
  cases hR with
  | none => exact PySem.P.repr_of_none ⟨.str _, H, I.tok _, ⟨_, rfl⟩, by simp only [PyData.shown] at q; exact q⟩
  | bool b => exact PySem.P.repr_of_bool ⟨.str _, H, I.tok _, ⟨_, rfl⟩, by simp only [PyData.shown] at q; exact q⟩
  | int i t => exact SkE.call_repr_int (X := X) pins s σ H [.int i] _ Q I (.cons ⟨t, rfl⟩ .nil) ⟨i, rfl, by simpa [PyData.showable] using h1, by simp only [PyData.shown] at q; exact q⟩
  | str y t => exact PySem.P.repr_of_str ⟨.str _, H, I.tok _, ⟨_, rfl⟩, by simp only [PyData.shown] at q; exact q⟩ (by simpa only [PyData.shown] using h4)
  | list a1 a2 a3 a4 => exact repr_of_reads' (.list a1 a2 a3 a4) h1 (PyData.noDict_hsm h2) hg (by omega) (fun _ _ e => e) (fun h' u tk hk => ⟨.str _, H, I.kept hk, ⟨_, rfl⟩, q⟩) h4
  | tuple a1 a2 a3 a4 => exact repr_of_reads' (.tuple a1 a2 a3 a4) h1 (PyData.noDict_hsm h2) hg (by omega) (fun _ _ e => e) (fun h' u tk hk => ⟨.str _, H, I.kept hk, ⟨_, rfl⟩, q⟩) h4
  | dict a1 a2 a3 a4 a5 => exact absurd h2 (by simp [PyData.hasDict])
def fReprD (d : Dt) : Option Dt := match toPy d with
  | some p => if shOk p = true then some (.str p.shown) else none
  | none => none
theorem cs_reprD : CaS T (rReprP T.K) fReprD := uns_pure fun F H v d z Q le rv ef q => by
  unfold fReprD at ef
  split at ef
  · rename_i p e
    split at ef
    · rename_i hp
      cases ef
      exact ⟨v, p, rfl, dp_ofS le rv e, hp, q _ (.str _)⟩
    · cases ef
  · cases ef
end
/-! ### the law is called -/
theorem callG {P : Program} {w : World} {K : PySem.W.Frag} {mg mb : Str → Option Value} {C : CXT} {k : Nat} {f a : Addr} {fd : FuncData} {x : Str} {sp : Sp} {t : Shared} {its : List Value} {ns : List Int}
    (KX : K.In t.heap) (hns : t.heap.Ns mainGlobals mg) (hb : t.heap.Ns builtinsNs mb) (hbb : ∀ x : Str, x ≠ "__name__" → mb x = bootBuiltins x) (hlim : t.heap.NoLimit) (hg : t.gens = #[]) (ha : t.heap.get? a = some { cls := .type "list", data := .seq its.toArray }) (hi : IntsAre its ns) (hl : ns.length ≤ sizeLine) (hr : Room k callerA)
    (G : ∀ base : Heap, K.In base → base.Ns mainGlobals mg → FnG P w K mg base C k f fd [x] sp) (hbind : ∀ (s : Shared) (u : Value), BindsTo s fd ⟨[u], []⟩ [(x, u)])
    (hsp : ∀ H : Hp, Only H → SqL K H a (ns.map V.int) → sp [.ref a] H (fun v _ => v = .bl true) fun _ _ _ => False) (hC : ∀ H e s', C [] H t (fun _ _ _ => False) e s' → False) :
    codeAny (model P w) callerA (.call (.ref f) ⟨[.ref a], []⟩) (fun r s' => r = .ok (.ret (.bool true)) ∧ OldK t.heap s'.heap ∧ s'.os = t.os ∧ AllBare s'.gens) t := by
  have rv := vals_ints hi
  have hlen := hi.length
  have main : ∀ H : Hp, Only H → SqL K H a (ns.map V.int) → HOk P w H t.heap → (∀ b, H b ≠ none → b = a) → (H a ≠ none → K.lookup a = none) → codeAny (model P w) callerA (.call (.ref f) ⟨[.ref a], []⟩) (fun r s' => r = .ok (.ret (.bool true)) ∧ OldK t.heap s'.heap ∧ s'.os = t.os ∧ AllBare s'.gens) t := by
    intro H hO hS hok hA hK
    have at_a : ∀ {b : Addr} {u : HO}, H b = some u → b = a := fun {b u} q => hA b (by rw [q]; exact fun z => nomatch z)
    have low : ∀ {b : Addr} {o : Obj}, t.heap.get? b = some o → H b = none → (hidT t.heap H).get? b = some o := fun e n => hidT_get e n
    have nod : ∀ {b : Addr} {o : Obj} {es : Array DictEntry} {ep : Nat}, t.heap.get? b = some o → o.data = .dict es ep → H b = none := by
      intro b o es ep e d
      cases q : H b with
      | none => rfl
      | some u =>
        cases at_a q
        rw [ha] at e
        cases e
        cases (show Data.seq its.toArray _ = Data.dict es ep from d)
    have ns' : ∀ {b : Addr} {m : Str → Option Value}, t.heap.Ns b m → (hidT t.heap H).Ns b m := by
      rintro b m ⟨o, es, ep, e, d, r⟩
      exact ⟨o, es, ep, low e (nod e d), d, r⟩
    have kin : K.In (hidT t.heap H) := by
      intro b o e
      refine low (KX b o e) ?_
      cases q : H b with
      | none => rfl
      | some u =>
        cases at_a q
        rw [hK (by rw [q]; exact fun z => nomatch z)] at e
        cases e
    obtain ⟨mc, c1, c2⟩ := hlim
    have hM : Mod K mg (hidT t.heap H) := ⟨kin, ns' hns, ⟨mb, ns' hb, hbb⟩, ⟨mc, ns' c1, c2⟩⟩
    have e0 : Env0 P w K mg (hidT t.heap H) callerA [] t H := ⟨rfl, hM, fun b o e => of_hidT e, Nat.le_of_eq (hidT_size _ _), trivial, (fun b z => nomatch (show b ∈ ([] : List Addr) from z)), hok, .of_eq hg⟩
    refine codeAny_mono ((G _ kin (ns' hns)).go callerA [] t H ⟨[.ref a], []⟩ [.ref a] [.ref a] _ _ hr rfl e0 (hbind t (.ref a)) (.cons rfl .nil) (hsp H hO hS)) fun r s' h => ?_
    match r, h with
    | .error e, h => exact (hC H e s' h).elim
    | .ok .next, h => exact False.elim h
    | .ok .brk, h => exact False.elim h
    | .ok .cont, h => exact False.elim h
    | .ok (.ret u), h =>
      obtain ⟨v, H', os, bare, un, hok', r', q⟩ := h
      cases (show v = .bl true from q)
      cases (show u = Value.bool true from r')
      refine ⟨rfl, OldK.of_keep (fun b o e => ?_), os, bare⟩
      cases q : H b with
      | none => exact un.keep b o e q (fun z => nomatch (show b ∈ ([] : List Addr) from z)) (fun z => nomatch z)
      | some u =>
        rcases hO b with z | ⟨ob, xs, z⟩
        · rw [q] at z; cases z
        · obtain ⟨e1, _⟩ := hok b _ z
          obtain ⟨e2, _⟩ := hok' b _ (un.frzs b ob _ z)
          rw [e] at e1
          cases e1
          exact e2
  cases hk : K.lookup a with
  | some o =>
    have e := KX a o hk
    rw [ha] at e
    cases e
    exact main (fun _ => none) (fun _ => .inl rfl) (.inr ⟨_, its.toArray, _, hk, rfl, rfl, rfl, by rw [List.size_toArray, hlen]; exact hl, by simpa using rv⟩) (fun b u z => by cases (show (none : Option HO) = some u from z)) (fun b z => absurd rfl z) (fun z => absurd rfl z)
  | none =>
    refine main (fun b => if b = a then some (.frz { cls := .type "list", data := .seq its.toArray } (.lst (ns.map V.int))) else none) (fun b => ?_) (.inl (.inr ⟨{ cls := .type "list", data := .seq its.toArray }, if_pos rfl⟩)) (fun b u z => ?_) (fun b z => ?_) (fun _ => hk)
    · by_cases e : b = a
      · exact .inr ⟨_, _, if_pos e⟩
      · exact .inl (if_neg e)
    · by_cases e : b = a
      · cases (if_pos e).symm.trans z
        cases e
        exact ⟨ha, by rw [List.length_map]; exact hl, its, _, rv, ha⟩
      · cases (if_neg e).symm.trans z
    · by_cases e : b = a
      · exact e
      · exact absurd (if_neg e) z
theorem walkG {l : PySem.W.OpenLaw} {n k : Nat} {q : Program} {loose : List Str} {XP : (Str → Option Value) → Heap → Prop} {YP : World → Heap → Prop} {d : DefRec} {K : Params → PySem.W.Frag} {CX : World → CXT} {sp : World → Sp} {x : Str} (hn : l.most = some n) (hn2 : n ≤ sizeLine) (hdf : d.params.defaults = []) (hr : Room k callerA) (hY : ∀ (w : World) (h : Heap), YP w h → (K w.params).In h)
    (G : ∀ (w : World) (mg : Str → Option Value) (fa : Addr) (h : Heap), (K w.params).In h → h.Ns mainGlobals mg → mg d.name = some (.ref fa) → ∃ fd : FuncData, (∀ (s : Shared) (u : Value), BindsTo s fd ⟨[u], []⟩ [(x, u)]) ∧ ∀ base : Heap, (K w.params).In base → base.Ns mainGlobals mg → FnG l.prog w (K w.params) mg base (CX w) k fa fd [x] (sp w))
    (hsp : ∀ (w : World) (H : Hp) (a : Addr) (ns : List Int), ns.length ≤ n → Only H → SqL (K w.params) H a (ns.map V.int) → sp w [.ref a] H (fun v _ => v = .bl true) fun _ _ _ => False) (hC : ∀ (w : World) (H : Hp) (s : Shared) (e : Value) (s' : Shared), CX w [] H s (fun _ _ _ => False) e s' → False) :
    PySem.W.WalkO q loose XP YP l.row.toRowW d [] (fun f vs => PySem.call f vs) := by
  refine Att.attach_call hn hdf (fun w s₀ s₁ mg mb fa o pm cd doc a vs ns J Y ho hd hcd hmg hobj hints hlen hg => ?_)
  have KX := hY w _ Y
  obtain ⟨fd, hb, hF⟩ := G w mg fa _ KX J.T.g hmg
  exact callG KX J.T.g J.T.b J.T.builtins J.T.nolimit hg hobj hints (Nat.le_trans hlen hn2) hr hF hb (fun H hO hS => hsp w H a ns hlen hO hS) (fun H e s' => hC w H s₁ e s')
end Dl
namespace Dl
open PySem PySem.Spec PyProof.Rows L2
/-! ### within an except suite: the caught error is known -/
section
variable {T : Tx} {π : Nat → Option Pin} {A : Addr → Prop} {F H F' H' : Hp} {σ : L2.St} {ρ : En} {i : Nat} {a : Addr} {cls : Value} {d : Option Addr}
/-- slot i has the caught error at a; x tells what it is; its dict is not A's to change -/
structure Got (T : Tx) (A : Addr → Prop) (F H : Hp) (σ : L2.St) (i : Nat) (a : Addr) (cls : Value) (d : Option Addr) (x : Ex) : Prop where
  sl : σ[i]? = some (some (.ref a))
  rep : RepX T F H cls d x
  no : ∀ dx, d = some dx → ¬ A dx
theorem Got.go {x : Ex} (g : Got T A F H σ i a cls d x) (r : Fr A F H F' H') : Got T A F' H' σ i a cls d x := by
  obtain ⟨s, ⟨C, dx, ns, vs, h1, h2, h3, h4, h5⟩, n⟩ := g
  refine ⟨s, ⟨C, dx, ns, vs, h1, h2, h3, h4.mono r.f, ?_⟩, n⟩
  rcases h5 with h5 | ⟨e, h5⟩
  · exact .inl h5
  · exact .inr ⟨e, r.h dx _ (n dx e) h5⟩
variable {X : Cx} {e ea eb ec : Expr} {es rest : List Expr} {pos : Pos} {m : Mi Dt} {k ka kb : Ex → Mi Dt} {kt kt' : Ex → Mi Bool} {ks : Ex → Mi (List Dt)}
/-! ### e.f -/
/-! ### isinstance(e, C) -/
end
end Dl
namespace Dl
open PySem PySem.Spec PyProof.Rows L2
/-! ### the package's errors: made by the def __init__, which calls TurnError.__init__ -/
/-- what the written part says of the class whose __init__ is called by name -/
structure Root (K : PySem.W.Frag) (C : Addr) : Prop where
  rd : PySem.W.readsIn K C (.type "type") = true
  ga : PySem.W.specialIn K (.ref C) "__getattribute__" = some (some (.builtin "type.__getattribute__"))
  ini : PySem.W.findCls K (.ref C) (.type "type") "__init__" = some (.val (.builtin "ValueError.__init__"))
section
variable {X : Cx} {e : Expr} {es : List Expr} {ta : TA} {x : Str} {C : Addr} {p1 p2 pos : Pos}
theorem pe_rootInit {pl : Sem Bool} (S : Root X.K C) (hg : Gl X x) (hm : X.mg x = some (.ref C)) (ha : PA X (e :: es) ta)
    (hc : eval (.Call (.Attribute (.Name x p1) "__init__" p2) (e :: es) [] pos) X.env = (do
      let ov ← eval (.Name x p1) X.env
      standAt p2.atName
      let (f, first) ← holding [ov] (getMethod ov "__init__" pl)
      callWith pos f first (backTo pos (starEach (e :: es) X.env)) (backToKw pos (keywordEach [] X.env))) := by rfl)
    (hdb : (x == ("__debug__" : Str)) = false := by decide) (he : starEach (e :: es) X.env = (false, eval e X.env) :: starEach es X.env := by rfl) (hpl : (backTo pos (starEach es X.env)).any (·.1) = false := by rfl) :
    PE X (.Call (.Attribute (.Name x p1) "__init__" p2) (e :: es) [] pos) (tVeI X.K ta) := ⟨fun pins s σ H Q I h => by
  refine PySem.W.methodCall_KW (ld_glob I hg hm ?_ hdb) hc
  refine PySem.W.method_cls I.kIn S.ga (PySem.W.cls_value I.kIn S.rd S.ini rfl ?_)
  refine PyProof.Rows.callWith_method1 (thn (ha.run pos pins _ σ H _ (I.tok _) h) fun us s1 ⟨vs, H1, I1, r1, a, D, ws, ev, hl, O, ea, q⟩ => ?_) he hpl
  rw [ev] at r1
  obtain ⟨u0, ur, rfl, ra, rr⟩ : ∃ u0 ur, us = u0 :: ur ∧ RelV (.ref a) u0 ∧ Vals ws ur := by cases r1 with | cons h t => exact ⟨_, _, rfl, h, t⟩
  obtain rfl : u0 = Value.ref a := ra
  exact oinit_ok O I1 ea (by have := rr.length; rw [sizeLine_eq]; omega) fun s' J => ⟨.non, H1, J, rfl, q⟩⟩
end
/-- .. of an error with one field -/
def spI (C : Addr) (f : Str) : Sp := fun vs H Q E => ∃ a y, vs = [.ref a, y] ∧ H a = some (exo a C none) ∧ ∀ dx, H dx = none → dx ≠ a → Q .non (upd (upd H dx (exd dx [(f, y)])) a (exo a C (some dx)))
/-- .. of one without -/
def spI0 (C : Addr) : Sp := fun vs H Q E => ∃ a, vs = [.ref a] ∧ H a = some (exo a C none) ∧ Q .non H
/-- an error's class -/
structure Err (K : PySem.W.Frag) (mg : Str → Option Value) (x : Str) (C fI : Addr) : Prop where
  oex : OexC K C
  exc : ExcC K C
  xf : XfC K C
  ini : PySem.W.findIn K (.ref C) "__init__" = some (some (.ref fI))
  tI : PySem.W.typeIn K (.ref fI) = some (.type "function")
  g : mg x = some (.ref C)
section
variable {P : Program} {w : World} {K : PySem.W.Frag} {mg : Str → Option Value} {base : Heap}
theorem err_init {x qual f z : Str} {st : Stmt} {fI C : Addr} {fd : FuncData} (txt : Str) (F : Fun K x qual st fI fd) (S : FnScope [("self" : Str), z] [("self" : Str), z] (defScope st)) (O : OexC K C) (hno : PySem.W.findIn K (.ref C) f = some none)
    (hb : ∀ (cdv : Value) (A : Around) (outer : List Env) (s : Shared) (H : Hp) (E : XK), PSs (cxOf (L2.CX P w) P w K mg base [("self" : Str), z] qual (defScope st) fI cdv A outer s H E) (defBody st)
      (tSeq (tDrop (tVeI K (tCons (tVar 0) (tCons (tC (.str txt)) tNil)))) (tOst K f (tVar 0) (tVar 1)))) :
    FnOk P w K mg base (L2.CX P w) 1 fI fd [("self" : Str), z] (spI C f) := by
  refine F.okX S (fun vs H Q E h => ?_) (fun cdv A outer s H vs Q E hr h => ?_)
  · obtain ⟨a, y, rfl, _⟩ := h; rfl
  · obtain ⟨a, y, rfl, ha, q⟩ := h
    exact ⟨_, hb cdv A outer s H E, .ref a, rfl, a, C, [.str txt], rfl, (by show 1 ≤ 1000; decide), O, ha, y, rfl, .ref a, rfl, a, C, rfl, O, hno, .inl ⟨ha, fun dx h1 h2 => q dx h1 h2⟩⟩
end
/-! ### raise C(e) -/
end Dl
namespace Dl
open PySem PySem.Spec PyProof.Rows L2
/-- a class that is named in except clauses and in isinstance -/
structure Kls (K : PySem.W.Frag) (mg : Str → Option Value) (x : Str) (C : Addr) : Prop where
  g : mg x = some (.ref C)
  hd : PySem.W.hasDictIn K C = true
  ty : PySem.W.typeIn K (.ref C) = some (.type "type")
  sf : PySem.W.subIn K (.ref C) (.ref C) = some true
section
variable {K : PySem.W.Frag} {mg : Str → Option Value} {x : Str} {C D : Addr} {b : Bool}
theorem Kls.kit (h : Kls K mg x C) (s : PySem.W.subIn K (.ref D) (.ref C) = some b) : PySem.W.kitOne K (.ref D) (.ref C) = some b := by
  by_cases e : D = C
  · subst e
    rw [h.sf] at s
    cases s
    unfold PySem.W.kitOne
    rw [if_pos (beq_self_eq_true _)]
  · obtain ⟨cd, hc, _⟩ := PySem.W.any_some h.hd
    have z : (Value.ref D == Value.ref C) = false := Bool.eq_false_iff.mpr fun q => e (Value.ref.inj (beq_iff_eq.mp q))
    unfold PySem.W.kitOne
    rw [z, if_neg Bool.false_ne_true]
    show (if ((PySem.W.clsIn K C).isSome && PySem.W.typeIn K (.ref C) == some (.type "type")) = true then PySem.W.subIn K (.ref D) (.ref C) else none) = some b
    rw [if_pos (by rw [hc, h.ty]; rfl)]
    exact s
end
theorem passes_no {X : Cx} : Passes (L2.CX X.prog X.w) X (fun _ _ _ => False) := fun _ _ _ _ _ _ _ ⟨_, _, _, _, _, _, _, _, _, _, _, _, z⟩ => z.elim
end Dl
namespace Dl
open PySem PySem.Spec PyProof.Rows L2
/-! ### several named clauses: an error that came, clause by clause -/
section
variable {X : Cx} {pn : List (Addr × Obj)} {σ : L2.St} {H : Hp} {a : Addr} {cls : Value} {d : Option Addr} {t : Shared}
/-- the error a flies over t; what stands without it is as σ and H say -/
structure Came (X : Cx) (pn : List (Addr × Obj)) (σ : L2.St) (H : Hp) (a : Addr) (cls : Value) (d : Option Addr) (t : Shared) : Prop where
  fly : ∃ (G : Heap) (bare : Shared), Inv X pn σ H bare ∧ (∀ x o, bare.heap.get? x = some o → x ∉ frs X.stack → G.get? x = some o) ∧ HandSPX.FlyingZ G X.stack a (Zc cls d) t.heap ∧ bare.heap.UpToSlots t.heap ∧ t.os = bare.os
  free : H a = none
  gens : AllBare t.gens
/-- the error's object, apart from all frames -/
theorem Came.obj (c : Came X pn σ H a cls d t) (hs : X.stack = X.env :: X.outer) (hf : X.env.frame = some X.env.locals) : ∃ ob vs, t.heap.get? a = some ob ∧ Zc cls d ob ∧ ob.data = .fields vs ∧ a ≠ X.env.locals ∧ a ∉ X.fs := by
  obtain ⟨G, bare, _, _, f, _, _⟩ := c.fly
  obtain ⟨ob, vs, h1, h2, h3⟩ := f.there
  have apart : a ∉ frs X.stack := fun m => by
    obtain ⟨_, o2, h4, h5⟩ := f.2.2.1.mem m
    rw [h1] at h4
    injection h4 with h4
    rw [← h4] at h5
    exact h5 _ h3
  refine ⟨ob, vs, h1, h2, h3, fun z => apart ?_, fun m => apart ?_⟩
  · rw [hs, z]
    exact List.mem_filterMap.mpr ⟨X.env, .head _, hf⟩
  · rw [hs]
    obtain ⟨e, m1, m2⟩ := List.mem_filterMap.mp m
    exact List.mem_filterMap.mpr ⟨e, .tail _ m1, m2⟩
/-- what the clauses hds do with an error: w is what they wish of it -/
def Meets (X : Cx) (hds : List ExceptHandler) (w : Ends → WX) : Prop := ∀ (pn : List (Addr × Obj)) (σ : L2.St) (H : Hp) (a : Addr) (cls : Value) (d : Option Addr) (t : Shared) (D : Ends),
  Came X pn σ H a cls d t → w D cls d σ H → wpAny (model X.prog X.w) X.A (handleBy (.ref a) X.env hds) (SP X pn D) X.xe t
variable {W : WX}
variable {x n : Str} {cv : Value} {i : Nat} {b₀ : Stmt} {suite : List Stmt} {np p1 : Pos} {s : Addr → Value → Option Addr → TS} {w : Ends → WX} {hds : List ExceptHandler}
variable {body : List Stmt} {h₀ : ExceptHandler} {pos : Pos} {tb : WX → TS}
end
/-! ### over data -/
end Dl
namespace Dl
open PySem PySem.Spec PyProof.Rows L2
/-! ### errors that have no field -/
section
variable {P : Program} {w : World} {K : PySem.W.Frag} {mg : Str → Option Value} {base : Heap}
theorem err_init0 {x qual : Str} {st : Stmt} {fI C : Addr} {fd : FuncData} (txt : Str) (F : Fun K x qual st fI fd) (S : FnScope [("self" : Str)] [("self" : Str)] (defScope st)) (O : OexC K C)
    (hb : ∀ (cdv : Value) (A : Around) (outer : List Env) (s : Shared) (H : Hp) (E : XK), PSs (cxOf (L2.CX P w) P w K mg base [("self" : Str)] qual (defScope st) fI cdv A outer s H E) (defBody st) (tDrop (tVeI K (tCons (tVar 0) (tCons (tC (.str txt)) tNil))))) :
    FnOk P w K mg base (L2.CX P w) 1 fI fd [("self" : Str)] (spI0 C) := by
  refine F.okX S (fun vs H Q E h => ?_) (fun cdv A outer s H vs Q E hr h => ?_)
  · obtain ⟨a, rfl, _⟩ := h; rfl
  · obtain ⟨a, rfl, ha, q⟩ := h
    exact ⟨_, hb cdv A outer s H E, .ref a, rfl, a, C, [.str txt], rfl, (by show 1 ≤ 1000; decide), O, ha, q⟩
end
end Dl
namespace Dl
open PySem PySem.Spec PyProof.Rows L2
/-! ### isinstance of values among which own objects may be -/
/-- an own class that is of no built-in sort -/
structure IcB (K : PySem.W.Frag) (C : Addr) : Prop where
  ic : C8.InsC K C
  no : ∀ n : Ty5, PySem.W.subIn K (.ref C) (.type n.nm) = some false
theorem IcB.kit {K : PySem.W.Frag} {C : Addr} (h : IcB K C) (n : Ty5) : PySem.W.kitOne K (.ref C) (.type n.nm) = some false := by
  unfold PySem.W.kitOne
  have z : (Value.ref C == Value.type n.nm) = false := Bool.eq_false_iff.mpr fun q => nomatch beq_iff_eq.mp q
  rw [z, if_neg Bool.false_ne_true]
  show (if PySem.W.kitMeta n.nm = true then PySem.W.subIn K (.ref C) (.type n.nm) else none) = some false
  rw [if_pos (by cases n <;> decide +kernel)]
  exact h.no n
section
variable {X : Cx} {T : Tx} {π : Nat → Option Pin} {W : WX} {e : Expr} {m : Mi Dt} {F H : Hp}
/-! ### isinstance against an own class, of any value -/
def tys8 : List String := ["NoneType", "bool", "int", "str", "list", "tuple", "dict"]
/-- what isinstance(.., C) asks of the other classes -/
structure IsA (T : Tx) (c : Nat) (C : Addr) : Prop where
  hd : PySem.W.hasDictIn T.K C = true
  ty : PySem.W.typeIn T.K (.ref C) = some (.type "type")
  bt : ∀ t ∈ tys8, PySem.W.subIn T.K (.type t) (.ref C) = some false
  ot : ∀ c' C' ns, (c' = 0 ∨ c' = 1) → T.cl c' = some (C', ns) → C8.InsC T.K C' ∧ (C' ≠ C → PySem.W.subIn T.K (.ref C') (.ref C) = some false) ∧ (C' = C ↔ c' = c)
theorem IsA.cls {c : Nat} {C : Addr} (h : IsA T c C) {t : Value} {b : Bool} (ne : t ≠ .ref C) (s : PySem.W.subIn T.K t (.ref C) = some b) : PySem.W.kitOne T.K t (.ref C) = some b := by
  obtain ⟨cd, hc, _⟩ := PySem.W.any_some h.hd
  unfold PySem.W.kitOne
  have z : (t == Value.ref C) = false := Bool.eq_false_iff.mpr fun q => ne (beq_iff_eq.mp q)
  rw [z, if_neg Bool.false_ne_true]
  show (if ((PySem.W.clsIn T.K C).isSome && PySem.W.typeIn T.K (.ref C) == some (.type "type")) = true then PySem.W.subIn T.K t (.ref C) else none) = some b
  rw [if_pos (by rw [hc, h.ty]; rfl)]
  exact s
end
end Dl
namespace L2
open PySem PySem.Spec PyProof.Rows
end L2
namespace L2
open PySem PySem.Spec PyProof.Rows
/-! ### list.count, flat items -/
end L2
namespace L2
open PySem PySem.Spec PyProof.Rows
section
variable {X : Cx} {CX : CXT} {k : Nat} {f : Addr} {fd : FuncData} {ps ks : List Str} {sp : Sp} {E : XK} {x : Str} {p pos : Pos} {kws : List Keyword} {tk : TA} {g : List Value → List Value → List Value} {gV : List V → List V → List V}
theorem PK.imp {t u : TA} (h : PK X kws t) (i : ∀ σ H Q, u σ H Q → t σ H Q) : PK X kws u := ⟨fun pos pins s σ H Q I q => h.run pos pins s σ H Q I (i σ H Q q)⟩
variable {ES : St → XK}
end
end L2
namespace Dl
open PySem PySem.Spec PyProof.Rows L2
section
variable {X : Cx} {T : Tx} {π : Nat → Option Pin} {W : WX} {e : Expr} {nm : Option Str} {kpos pos p : Pos} {kws : List Keyword} {m : Mi Dt} {ms : Mi (List Dt)} {F : Hp} {k n : Nat} {f : Addr} {fd : FuncData} {ps ks : List Str} {x : Str} {fm : List Dt → Fo} {g : List Value → List Value → List Value} {pm : List Nat}
theorem dkw_nil : PK X [] (TMa T π W (mPure [])) := pk_nil.imp fun σ H Q ⟨A, F, ρ, k, p⟩ => p.pure k [] .nil
theorem dkw_cons (he : PE X e (TMe T π W m)) (hr : PK X kws (TMa T π W ms)) : PK X (⟨nm, e, kpos⟩ :: kws) (TMa T π W (mCons m ms)) :=
  (pk_cons he hr).imp fun σ H Q ⟨A, F, ρ, k, p⟩ => ⟨A, F, ρ, k, p.bind.imp fun d ρ1 F1 H1 k1 r1 p1 v rv => ⟨A, F1, ρ1, k1, p1.bind.imp fun ds ρ2 F2 H2 k2 r2 p2 vs rvs => p2.pure k2 (v :: vs) (.cons (rv.mono r2.f) rvs)⟩⟩
def permL {α : Type} (pm : List Nat) (d : α) (xs : List α) : List α := pm.map fun i => xs.getD i d
theorem vals_perm {zs : List V} {ws : List Value} (r : Vals zs ws) : ∀ (pm : List Nat), (∀ i ∈ pm, i < zs.length) → Vals (permL pm .non zs) (permL pm .none ws)
  | [], _ => .nil
  | i :: pm, h => by
    have hi := h i List.mem_cons_self
    obtain ⟨w, h1, h2⟩ := r.get (List.getElem?_eq_getElem hi)
    have e1 : zs.getD i .non = zs[i] := by rw [List.getD_eq_getElem?_getD, List.getElem?_eq_getElem hi]; rfl
    have e2 : ws.getD i .none = w := by rw [List.getD_eq_getElem?_getD, h1]; rfl
    show Vals (zs.getD i .non :: permL pm .non zs) (ws.getD i .none :: permL pm .none ws)
    rw [e1, e2]
    exact .cons h2 (vals_perm r pm fun j hj => h j (List.mem_cons_of_mem _ hj))
end
end Dl
namespace Dl
open PySem PySem.Spec PyProof.Rows L2
/-! ### one value by place (the new object, the receiver, the class), the others by name -/
structure KB1 (K : PySem.W.Frag) (fd : FuncData) (ps ks : List Str) (pm : List Nat) : Prop where
  to : ∀ (s : Shared) (u : Value) (ws : List Value), K.In s.heap → ws.length = ks.length → BindsTo s fd ⟨[u], ks.zip ws⟩ (ps.zip (u :: permL pm .none ws))
  ix : ∀ i ∈ pm, i < ks.length
section
variable {K : PySem.W.Frag} {x qual : Str} {f : Addr} {fd : FuncData} {ps ks : List Str} {pm : List Nat}
theorem kb1_of {st : Stmt} (F : Fun K x qual st f fd) (hpm : ∀ i ∈ pm, i < ks.length)
    (h : ∀ (kV doc m : Value) (an : Option Addr) (cdv ct u : Value) (ws : List Value), ws.length = ks.length → bindArgs (PySem.W.fnOf x qual (defArgs st) (defBody st) (defScope st) .none kV doc m an cdv ct) ⟨[u], ks.zip ws⟩ = pure (ps.zip (u :: permL pm .none ws))) :
    KB1 K fd ps ks pm := by
  obtain ⟨oc, od, kV, doc, m, an, cdv, ct, osl, rfl, lk, hcd⟩ := F.ex
  exact ⟨fun s u ws _ hl => .of_eq (h kV doc m an cdv ct u ws hl), hpm⟩
end
end Dl
namespace Dl
open PySem PySem.Spec PyProof.Rows L2
/-! ### sorted() of lots of pairs, any number of them, the first one empty -/
def flP : List (Int × Int) → List Int
  | [] => []
  | x :: r => x.1 :: x.2 :: flP r
end Dl
namespace Dl
open PySem PySem.Spec PyProof.Rows L2
/-! ### lots in order -/
def LLe (a b : List (Int × Int)) : Prop := HT.lexLt (flP b) (flP a) = false
instance (a b : List (Int × Int)) : Decidable (LLe a b) := by unfold LLe; infer_instance
theorem LLe.refl (a : List (Int × Int)) : LLe a a := by
  unfold LLe
  cases e : HT.lexLt (flP a) (flP a) with
  | false => rfl
  | true => have := NtL.lex_asym _ _ e; rw [e] at this; cases this
theorem LLe.trans {a b c : List (Int × Int)} (h : LLe a b) (k : LLe b c) : LLe a c := NtL.lex_tr _ _ _ h k
/-! ### as a rule -/
end Dl
namespace HNt
open PySem PySem.SeqAt PySem.Spec PyProof.Rows L2
open AutoSeq1 (wpAny_loadPart')
open MeetsSeq MeetsSeq2 MeetsSeq3 SeqRoads2
/-! ### tuple != tuple, whose things are equal pair by pair, own objects among them -/
end HNt
namespace HNl
open PySem PySem.SeqAt PySem.Spec PyProof.Rows L2
/-! ### xs != [], whatever stands in the list -/
end HNl
namespace Dl
open PySem PySem.Spec PyProof.Rows L2
/-! ### a slot's own list, lent to some statements, and held alone again behind them -/
section
variable {X : Cx} {T : Tx} {π : Nat → Option Pin} {W : WX} {c e : Expr} {pos : Pos} {m : Mi Dt} {mc : Mi Bool} {A : Addr → Prop} {F H F0 H0 : Hp} {σ : L2.St} {ρ : En} {s t : En → So} {st : Stmt} {rest : List Stmt} {ws : List Nat} {i : Nat}
def Keeps (ws : List Nat) (σ0 σ : L2.St) : Prop := σ.length = σ0.length ∧ ∀ j, j ∉ ws → σ[j]? = σ0[j]?
/-- as PostS, but of all names outside ws it is known that they stay -/
def PostF (T : Tx) (π : Nat → Option Pin) (W : WX) (A : Addr → Prop) (F0 H0 : Hp) (ws : List Nat) (σ0 : L2.St) (D : Ends) : So → Prop
  | .nx ρ' => ∀ σ' F' H', Keeps ws σ0 σ' → StOk T π A F0 H0 F' H' σ' ρ' → D.nx σ' H'
  | .rt d ρ' => ∀ σ' F' H' v, StOk T π A F0 H0 F' H' σ' ρ' → Rep T F' v d → D.rt v H'
  | .exc x ρ' => ∀ σ' F' H' cls d, StOk T π A F0 H0 F' H' σ' ρ' → RepX T F' H' cls d x → W cls d σ' H'
  | _ => False
theorem PostF.bind {α : Type} {D : Ends} {σ0 : L2.St} {m : Mi α} {k : α → En → So} (p : PostF T π W A F0 H0 ws σ0 D (sBind m k ρ)) (s : StOk T π A F0 H0 F H σ ρ) :
    Post T π W σ (fun a => A a ∨ H0 a = none) F H (fun a ρ1 F1 H1 => StOk T π A F0 H0 F1 H1 σ ρ1 ∧ PostF T π W A F0 H0 ws σ0 D (k a ρ1)) (m ρ) := by
  unfold sBind at p
  cases e : m ρ with
  | ok x ρ1 =>
    rw [e] at p
    exact fun F1 H1 k1 r1 => ⟨s.step k1 r1, p⟩
  | exc x ρ1 =>
    rw [e] at p
    exact fun F1 H1 c d k1 r1 x => p σ F1 H1 c d (s.step k1 r1) x
  | bad => rw [e] at p; exact p.elim
end
end Dl
namespace NK
open PySem PySem.Spec PyProof.Rows L2
/-! ### d[k], k in d, d[k] = v, {}, for k in d: keys an int and a tuple of ints -/
/-! ### the walk -/
theorem Held.size {X : Cx} {s : Shared} {a : Addr} {ob : Obj} {kvs : List NE} {us : List Value} {es : Array DictEntry} {ep : Nat} (h : Held X s a ob kvs us es ep) : es.size = kvs.length := by
  have := congrArg List.length h.ent
  rw [Array.length_toList, List.length_zipWith] at this
  have l : us.length = kvs.length := by
    have := h.vs.length
    rw [List.length_map] at this
    omega
  omega
end NK
namespace Dl
open PySem PySem.Spec PyProof.Rows L2
/-! ### rows of two new lists each, that are changed behind some statements -/
/-- a tuple of two lists that are new since H0 -/
def Nw (H0 F : Hp) (v : V) : Prop := ∃ t b1 b2 us1 us2, v = .ref t ∧ F t = some (.tup [.ref b1, .ref b2]) ∧ F b1 = some (.lst us1) ∧ F b2 = some (.lst us2) ∧ H0 b1 = none ∧ H0 b2 = none ∧ b1 ≠ b2
theorem Nw.mono {H0 F F' : Hp} {v : V} (l : Le F F') (h : Nw H0 F v) : Nw H0 F' v := by
  obtain ⟨t, b1, b2, us1, us2, h1, h2, h3, h4, h5⟩ := h
  exact ⟨t, b1, b2, us1, us2, h1, l _ _ h2, l _ _ h3, l _ _ h4, h5⟩
end Dl
/-! ### an error's class called by name: C(f = v) -/
namespace Exk
open PySem PySem.Spec PySem.Calls PySem.HandSPX PySem.Builtin PySem.Builtin.ObjectAttr
section
variable {M : Model} {Ar : Around} {Er : Value → Shared → Prop} {hp : Heap} {gs : Array GenState} {dr : Drawn} {tk : Nat} {os : OsState}
variable {nm qn : Str} {C N : Addr} {bs bm bmB : List Value} {hd : Bool} {sn : List Str} {su : List Value} {ab : Bool} {co : Option Bool} {dd : Option Addr} {k0 k1 k2 k3 k5 : Option Value} {B nI iI : String} {kw : List (Str × Value)}
theorem new_checked (F : ExcBaseFacts B nI iI bmB) (same : ∀ Y : String, bm.contains (.type Y) = bmB.contains (.type Y)) {Q : Unit → Shared → Prop} (at_ : hp.get? C = some (excClassObj nm qn C N bs bm hd sn su ab co dd k0 k1 k2 k3 k5 nI))
    (go : Q () ⟨hp, gs, dr, tk, os⟩) : wpAny M Ar (checkBuiltinCall nI ⟨[.ref C], kw⟩) Q Er ⟨hp, gs, dr, tk, os⟩ := by
  have c1 : (Value.ref C :: bm).contains (.type B) = true := by rw [List.contains_cons, same, F.hasB]; simp
  simp only [checkBuiltinCall, F.newSplit, F.newRow, F.newKind]
  repeat (first | refine wpAny_loadPart_at at_ ?_ | (refine wpAny_isSubtype_exc at_ ?_; rw [c1]) | refine wpAny_staticBase_exc at_ ?_ | refine wpAny_madeBy_exc at_ ?_ | simp only [Bool.false_eq_true, if_false, bne_self_eq_false] | wp_step)
  rw [if_pos F.noStar]
  refine wpAny_pure (wpAny_bind (PyProof.Rows.printed_name F.noStar ?_))
  refine wpAny_onRaise ?_
  unfold Bind.check
  dsimp only
  exact wpAny_pure go
theorem call_checked {Q : Unit → Shared → Prop} (at_ : hp.get? C = some (excClassObj nm qn C N bs bm hd sn su ab co dd k0 k1 k2 k3 k5 nI)) (go : Q () ⟨hp, gs, dr, tk, os⟩) : wpAny M Ar (checkBuiltinCall "type.__call__" ⟨[.ref C], kw⟩) Q Er ⟨hp, gs, dr, tk, os⟩ := by
  have s1 := tc_sub
  have ty : (⟨hp, gs, dr, tk, os⟩ : Shared).TypeIs (.ref C) "type" := ⟨_, at_, rfl⟩
  simp only [checkBuiltinCall, tc_split, tc_kind]
  repeat (any_goals (first | assumption | with_reducible refine wpAny_onRaise ?_ | with_reducible refine wpAny_map ?_ | with_reducible refine wpAny_loadPart_at at_ ?_ | wp_step))
end
section
variable {pr : Program} {w : World} {Ar : Around} {Er : Value → Shared → Prop} {R : Result → Shared → Prop} {hp : Heap} {gs : Array GenState} {dr : Drawn} {tk : Nat} {os : OsState}
variable {nm qn : Str} {C N : Addr} {bs bm bmB : List Value} {hd : Bool} {sn : List Str} {su : List Value} {ab : Bool} {co : Option Bool} {dd : Option Addr} {k0 k1 k2 k3 k5 : Option Value} {B nI iI : String} {kw : List (Str × Value)}
/-- the new error has no arguments: what is told by name goes to __init__ alone -/
theorem new_kw (F : ExcBaseFacts B nI iI bmB) (same : ∀ Y : String, bm.contains (.type Y) = bmB.contains (.type Y)) (at_ : hp.get? C = some (excClassObj nm qn C N bs bm hd sn su ab co dd k0 k1 k2 k3 k5 nI))
    (go : R (.ok (.ret (.ref (hp.objs.size + 1)))) ⟨(hp.push (W.kdv_tup [])).push (excO C hp.objs.size), gs, dr, tk, os⟩) : codeAny (model pr w) Ar (.builtin nI ⟨[.ref C], kw⟩) R ⟨hp, gs, dr, tk, os⟩ := by
  have e := F.ends
  have c1 : (Value.ref C :: bm).contains (.type B) = true := by rw [List.contains_cons, same, F.hasB]; simp
  have c2 : (Value.ref C :: bm).contains (.type "NameError") = false := by rw [List.contains_cons, same, F.noName]; rfl
  have c3 : (Value.ref C :: bm).contains (.type "AttributeError") = false := by rw [List.contains_cons, same, F.noAttr]; rfl
  refine codeAny_builtinAt F.entry ?_
  unfold Builtin.«BaseException.__new__»
  refine PySem.wpAt_bind ?_
  show PySem.wpAt _ _ _ (stack >>= _) _ _ _
  refine PySem.wpAt_bind (wpAt_stack fun p b => wpAt_of_wpAny ?_)
  wp_walk
  refine wpAt_of_wpAny ?_
  rw [F.owner]
  repeat (first | with_reducible refine wpAny_loadPart_at at_ ?_ | with_reducible refine wpAny_madeHere_exc F.canon at_ ?_ | (with_reducible refine wpAny_isSubtype_exc at_ ?_; first | rw [c1] | rw [c3] | rw [c2]) | wp_step)
  show R _ _
  rw [Heap.size_push]
  exact go
theorem typeCall_kw (F : ExcBaseFacts B nI iI bmB) (same : ∀ Y : String, bm.contains (.type Y) = bmB.contains (.type Y)) {fI : Addr} {Q : Fin → Shared → Prop} (at_ : hp.get? C = some (excClassObj nm qn C N bs bm hd sn su ab co dd k0 k1 k2 k3 k5 nI))
    (ini : W.Looks (model pr w) hp (typeLookup (.ref C) "__init__") (some (.ref fI))) (bnd : ∀ o, W.Looks (model pr w) hp (bindSpecial (.ref fI) o) (.ref fI, [o]))
    (go : codeAny (model pr w) Ar (.call (.ref fI) ⟨[.ref (hp.objs.size + 1)], kw⟩) (fun r s' => match r with | .ok (.ret v) => v = .none ∧ Q (.done (.ret (.ref (hp.objs.size + 1)))) s' | .ok _ => False | .error e => Er e s')
      ⟨(hp.push (W.kdv_tup [])).push (excO C hp.objs.size), gs, dr, tk, os⟩) : wpAny (model pr w) Ar (Builtin.«type.__call__» ⟨[.ref C], kw⟩) Q Er ⟨hp, gs, dr, tk, os⟩ := by
  repeat (first | with_reducible refine wpAny_madeBy_exc at_ ?_ | with_reducible refine wpAny_loadPart_at at_ ?_ | wp_step)
  refine codeAny_call_builtin_code (Code.quiet_builtin _ F.quiet) (new_checked F same at_ ?_)
  refine new_kw F same at_ ?_
  show wpAny _ _ _ _ _ _
  have kp : ∀ b o, hp.get? b = some o → ((hp.push (W.kdv_tup [])).push (excO C hp.objs.size)).get? b = some o := fun b o z => Heap.get?_push_of_some _ (Heap.get?_push_of_some _ z)
  have at2 := kp _ _ at_
  have new : ((hp.push (W.kdv_tup [])).push (excO C hp.objs.size)).get? (hp.objs.size + 1) = some (excO C hp.objs.size) := by heap_get
  have cC : (Value.ref C :: bm).contains (.ref C) = true := by simp
  unfold isInstance
  repeat (first | with_reducible refine wpAny_loadPart_at new ?_ | (with_reducible refine wpAny_isSubtype_exc at2 ?_; rw [cC]) | wp_step)
  show wpAny _ _ (typeLookup (.ref C) _) _ _ _
  refine (ini.keeps kp).at ?_
  refine wpAny_holding (wpAny_bind (((bnd (.ref (hp.objs.size + 1))).keeps kp).at ?_))
  refine wpAny_bind (wpAny_call (codeAny_mono go fun r s' z => ?_))
  match r, z with
  | .error e, z => exact z
  | .ok (.ret v), ⟨ev, z⟩ =>
    subst ev
    first
    | exact wpAny_pure (wpAny_pure z)
    | (wp_walk; exact z)
theorem call_kw (F : ExcBaseFacts B nI iI bmB) (same : ∀ Y : String, bm.contains (.type Y) = bmB.contains (.type Y)) {fI : Addr} (at_ : hp.get? C = some (excClassObj nm qn C N bs bm hd sn su ab co dd k0 k1 k2 k3 k5 nI))
    (ini : W.Looks (model pr w) hp (typeLookup (.ref C) "__init__") (some (.ref fI))) (bnd : ∀ o, W.Looks (model pr w) hp (bindSpecial (.ref fI) o) (.ref fI, [o]))
    (go : codeAny (model pr w) (Ar.under (.builtin "type.__call__" ⟨[.ref C], kw⟩)) (.call (.ref fI) ⟨[.ref (hp.objs.size + 1)], kw⟩) (W.InitBack (hp.objs.size + 1) R) ⟨(hp.push (W.kdv_tup [])).push (excO C hp.objs.size), gs, dr, tk, os⟩) :
    codeAny (model pr w) Ar (.call (.ref C) ⟨[], kw⟩) R ⟨hp, gs, dr, tk, os⟩ := by
  have f1 := tc_lookup
  have f2 := tc_bind (.ref C)
  have ty : (⟨hp, gs, dr, tk, os⟩ : Shared).TypeIs (.ref C) "type" := ⟨_, at_, rfl⟩
  refine codeAny_of_tree ?_
  show wpAny _ _ (callAny (.ref C) _) _ _ _
  repeat (any_goals (first | assumption | with_reducible refine wpAny_loadPart_at at_ ?_ | wp_step))
  refine ⟨rfl, ?_⟩
  refine codeAny_call_builtin_at (Code.quiet_builtin _ (by decide +kernel)) entry_typeCall (call_checked at_ (typeCall_kw F same at_ ini bnd ?_))
  refine codeAny_mono go fun r s' z => ?_
  match r, z with
  | .error e, z => exact z
  | .ok (.ret v), z => exact z
  | .ok .next, z => exact z
  | .ok .brk, z => exact z
  | .ok .cont, z => exact z
end
end Exk
namespace Dl
open PySem PySem.Spec PyProof.Rows L2
/-! ### errors that are no more than values -/
section
variable {X : Cx} {pins : List (Addr × Obj)} {σ : L2.St} {H : Hp} {s : Shared} {Q : VK} {k : Nat} {fI C : Addr} {fd : FuncData} {ps ks : List Str} {pm : List Nat} {sp : Sp} {vs zs : List V} {us ws : List Value} {x f : Str} {e : Expr} {es : List Expr} {te : TE} {ta tk : TA} {p pos : Pos} {kws : List Keyword}
/-- what __init__ does to the new error -/
def tExv (C : Addr) (sp : Sp) (zs : List V) (Q : VK) (H : Hp) : Prop := ∀ a, H a = none → sp (.ref a :: zs) (upd H a (exo a C none)) (fun v H2 => v = .non ∧ Q (.ref a) H2) (fun _ _ _ => False)
theorem exv_at (O : OexC X.K C) (iC : PySem.W.findIn X.K (.ref C) "__init__" = some (some (.ref fI))) (tI : PySem.W.typeIn X.K (.ref fI) = some (.type "function")) (G : FnOk X.prog X.w X.K X.mg X.base (L2.CX X.prog X.w) k fI fd ps sp) (room : Room (k + 1) X.A) (bi : Binds X.K fd ps []) (nox : Passes (L2.CX X.prog X.w) X (fun _ _ _ => False))
    (I : Inv X pins σ H s) (r : Vals vs us) (hl : vs.length ≤ 1000) (h : tExv C sp vs Q H) : wpAny (model X.prog X.w) X.A (call (.ref C) us) (EP X pins σ Q) X.xe s := by
  obtain ⟨nm, qn, N, bs, bm, sn, su, ab, co, dd, k0, k1, k2, k3, k5, at_, tl⟩ := O.cls
  obtain ⟨hp, gs, dr, tok, os⟩ := s
  have new : Inv X pins σ (upd H (hp.objs.size + 1) (exo (hp.objs.size + 1) C none)) ⟨(hp.push (PySem.W.kdv_tup us)).push (PySem.HandSPX.excO C hp.objs.size), gs, dr, tok, os⟩ :=
    I.laid (t' := tok) (a := hp.objs.size + 1) (o := exo (hp.objs.size + 1) C none) (h' := (hp.push (PySem.W.kdv_tup us)).push (PySem.HandSPX.excO C hp.objs.size)) (fun b o e => Heap.get?_push_of_some _ (Heap.get?_push_of_some _ e)) (Nat.le_succ _) (exo_ok (by heap_get))
  have in_ := h (hp.objs.size + 1) (I.hok.fresh (Nat.le_succ _))
  have rel : Vals (V.ref (hp.objs.size + 1) :: vs) (Value.ref (hp.objs.size + 1) :: us) := .cons rfl r
  have len := G.len _ _ _ _ in_
  have lu : us.length ≤ sizeLine := by
    have := r.length
    rw [sizeLine_eq]
    omega
  have bd := bi _ (Value.ref (hp.objs.size + 1) :: us) new.kIn (by
    rw [List.append_nil, ← rel.length]
    exact len)
  rw [List.append_nil] at bd
  apply wpAny_call
  refine PySem.HandSPX.call_own F.excBase_ValueError (fun Y => PySem.HandSPX.refsVE_contains Y bm tl) (I.kIn _ _ at_) (PySem.W.looks_findIn I.kIn iC) (fun o => PySem.W.bind_fn I.kIn o tI) lu ?_
  refine codeAny_mono (G.run _ X.stack _ _ ⟨Value.ref (hp.objs.size + 1) :: us, []⟩ (Value.ref (hp.objs.size + 1) :: us) _ _ (fun _ _ _ => False) (room.make C us []) (new.env0.make C us []) bd rel in_) fun r s2 z => ?_
  match r, z with
  | .error er, z => exact nox pins σ _ _ er s2 new z
  | .ok (.ret u), z =>
    obtain ⟨v, H2, I2, rv, ev, q⟩ := new.after z
    subst ev
    exact ⟨rv, V.ref (hp.objs.size + 1), H2, I2, rfl, q⟩
  | .ok .next, z => exact z.elim
  | .ok .brk, z => exact z.elim
  | .ok .cont, z => exact z.elim
theorem exv_atK (O : OexC X.K C) (iC : PySem.W.findIn X.K (.ref C) "__init__" = some (some (.ref fI))) (tI : PySem.W.typeIn X.K (.ref fI) = some (.type "function")) (G : FnOk X.prog X.w X.K X.mg X.base (L2.CX X.prog X.w) k fI fd ps sp) (room : Room (k + 1) X.A) (bi : KB1 X.K fd ps ks pm) (nox : Passes (L2.CX X.prog X.w) X (fun _ _ _ => False))
    (I : Inv X pins σ H s) (r : Vals zs ws) (hl : zs.length = ks.length) (h : tExv C sp (permL pm .non zs) Q H) : wpAny (model X.prog X.w) X.A (call (.ref C) [] (ks.zip ws)) (EP X pins σ Q) X.xe s := by
  obtain ⟨nm, qn, N, bs, bm, sn, su, ab, co, dd, k0, k1, k2, k3, k5, at_, tl⟩ := O.cls
  obtain ⟨hp, gs, dr, tok, os⟩ := s
  have new : Inv X pins σ (upd H (hp.objs.size + 1) (exo (hp.objs.size + 1) C none)) ⟨(hp.push (PySem.W.kdv_tup [])).push (PySem.HandSPX.excO C hp.objs.size), gs, dr, tok, os⟩ :=
    I.laid (t' := tok) (a := hp.objs.size + 1) (o := exo (hp.objs.size + 1) C none) (h' := (hp.push (PySem.W.kdv_tup [])).push (PySem.HandSPX.excO C hp.objs.size)) (fun b o e => Heap.get?_push_of_some _ (Heap.get?_push_of_some _ e)) (Nat.le_succ _) (exo_ok (by heap_get))
  have in_ := h (hp.objs.size + 1) (I.hok.fresh (Nat.le_succ _))
  have rel : Vals (V.ref (hp.objs.size + 1) :: permL pm .non zs) (Value.ref (hp.objs.size + 1) :: permL pm .none ws) := .cons rfl (vals_perm r pm fun i hi => by rw [hl]; exact bi.ix i hi)
  have bd := bi.to _ (Value.ref (hp.objs.size + 1)) ws new.kIn (by rw [← r.length]; exact hl)
  apply wpAny_call
  refine Exk.call_kw F.excBase_ValueError (fun Y => PySem.HandSPX.refsVE_contains Y bm tl) (I.kIn _ _ at_) (PySem.W.looks_findIn I.kIn iC) (fun o => PySem.W.bind_fn I.kIn o tI) ?_
  refine codeAny_mono (G.run _ X.stack _ _ ⟨[Value.ref (hp.objs.size + 1)], ks.zip ws⟩ (Value.ref (hp.objs.size + 1) :: permL pm .none ws) _ _ (fun _ _ _ => False) (room.make C [] (ks.zip ws)) (new.env0.make C [] (ks.zip ws)) bd rel in_) fun r s2 z => ?_
  match r, z with
  | .error er, z => exact nox pins σ _ _ er s2 new z
  | .ok (.ret u), z =>
    obtain ⟨v, H2, I2, rv, ev, q⟩ := new.after z
    subst ev
    exact ⟨rv, V.ref (hp.objs.size + 1), H2, I2, rfl, q⟩
  | .ok .next, z => exact z.elim
  | .ok .brk, z => exact z.elim
  | .ok .cont, z => exact z.elim
theorem pe_exv (S : Err X.K X.mg x C fI) (G : FnOk X.prog X.w X.K X.mg X.base (L2.CX X.prog X.w) k fI fd ps sp) (room : Room (k + 1) X.A) (bi : Binds X.K fd ps []) (nox : Passes (L2.CX X.prog X.w) X (fun _ _ _ => False)) (gl : Gl X x) (ha : PA X (e :: es) ta)
    (hdb : (x == ("__debug__" : Str)) = false := by decide) (he : starEach (e :: es) X.env = (false, eval e X.env) :: starEach es X.env := by rfl) (hpl : (backTo pos (starEach es X.env)).any (·.1) = false := by rfl) :
    PE X (.Call (.Name x p) (e :: es) [] pos) (fun σ H Q => ta σ H fun vs H1 => vs.length ≤ 1000 ∧ tExv C sp vs Q H1) :=
  ⟨fun pn s σ H Q I h => wpAny_Call_Name_kw (ld_glob I gl S.g (PySem.W.callWith_K (h₀ := X.base) I.ok.mod.kin S.oex.kC (thn (ha.run pos pn s σ H _ I h) fun us s1 ⟨vs, H1, I1, r1, hl, q⟩ => ⟨I1.kIn, exv_at S.oex S.ini S.tI G room bi nox I1 r1 hl q⟩) he hpl) hdb)⟩
theorem pe_exv0 (S : Err X.K X.mg x C fI) (G : FnOk X.prog X.w X.K X.mg X.base (L2.CX X.prog X.w) k fI fd ps sp) (room : Room (k + 1) X.A) (bi : Binds X.K fd ps []) (nox : Passes (L2.CX X.prog X.w) X (fun _ _ _ => False)) (gl : Gl X x)
    (hdb : (x == ("__debug__" : Str)) = false := by decide) : PE X (.Call (.Name x p) [] [] pos) (fun σ H Q => tExv C sp [] Q H) :=
  ⟨fun pn s σ H Q I h => wpAny_Call_Name_kw (ld_glob I gl S.g (PySem.W.callWith_K0 I.kIn S.oex.kC (exv_at S.oex S.ini S.tI G room bi nox I .nil (Nat.zero_le _) h)) hdb)⟩
theorem pe_exvK (S : Err X.K X.mg x C fI) (G : FnOk X.prog X.w X.K X.mg X.base (L2.CX X.prog X.w) k fI fd ps sp) (room : Room (k + 1) X.A) (bi : KB1 X.K fd ps ks pm) (nox : Passes (L2.CX X.prog X.w) X (fun _ _ _ => False)) (gl : Gl X x) (hkw : PK X kws tk)
    (hall : (backToKw pos (keywordEach kws X.env)).all (·.1.isSome) = true := by rfl) (hks : (backToKw pos (keywordEach kws X.env)).filterMap (·.1) = ks := by rfl)
    (hdb : (x == ("__debug__" : Str)) = false := by decide)
    (hpl : ((backTo pos (starEach [] X.env)).any (·.1) || (backToKw pos (keywordEach kws X.env)).any (·.1.isNone)) = false := by rfl) :
    PE X (.Call (.Name x p) [] kws pos) (fun σ H Q => tk σ H fun zs H1 => zs.length = ks.length ∧ tExv C sp (permL pm .non zs) Q H1) := by
  refine ⟨fun pn s σ H Q I h => wpAny_Call_Name_kw (ld_glob I gl S.g ?_ hdb)⟩
  refine PySem.W.callWith_KW0 (h₀ := X.base) I.ok.mod.kin S.oex.kC hall (thn (hkw.run pos pn s σ H _ I h) fun ws s2 ⟨zs, H2, I2, rz, hl, q2⟩ => ⟨I2.kIn, ?_⟩) hpl
  rw [hks]
  exact exv_atK S.oex S.ini S.tI G room bi nox I2 rz hl q2
/-! ### isinstance(v, C), v.f -/
def rIsV (K : PySem.W.Frag) : List V → Hp → VK → Prop := fun xs H Q => ∃ (a D : Addr) (d : Option Addr) (c : V) (cv : Value) (b : Bool), xs = [.ref a, c] ∧ ClsV c cv ∧ ExcC K D ∧ PySem.W.kitOne K (.ref D) cv = some b ∧ H a = some (exo a D d) ∧ (∀ dd, d = some dd → ∃ fs, H dd = some (exd dd fs)) ∧ Q (.bl b) H
theorem call_isV : CallR X (.builtin "isinstance") (rIsV X.K) := by
  intro pins s σ H xs us Q I r ⟨a, D, d, c, cv, b, ex, hcv, S, e, ha, hd, q⟩
  subst ex
  obtain ⟨u1, us1, rfl, r1, r2⟩ : ∃ u1 us1, us = u1 :: us1 ∧ RelV (.ref a) u1 ∧ Vals [c] us1 := by cases r with | cons h t => exact ⟨_, _, rfl, h, t⟩
  obtain ⟨u2, rfl, r3⟩ : ∃ u2, us1 = [u2] ∧ RelV c u2 := by cases r2 with | cons h t => cases t; exact ⟨_, rfl, h⟩
  obtain rfl : u1 = Value.ref a := r1
  have e2 := hcv.eq r3
  subst e2
  obtain ⟨t0, ho⟩ := exo_at I.hok ha
  have J : ∃ od, PySem.W.InstAt s.heap a ({ cls := .ref D, dict := d, data := .fields #[.ref t0, .none, .none, .none, .bool false, .none] } : Obj) D od := by
    cases d with
    | none => exact ⟨none, ho, rfl, rfl, trivial⟩
    | some dd =>
      obtain ⟨fs, hfs⟩ := hd dd rfl
      obtain ⟨mA, hns, _⟩ := exd_at I.hok hfs
      obtain ⟨od, hod, _⟩ := lookIn_ns hns
      exact ⟨some od, ho, rfl, rfl, hod⟩
  obtain ⟨od, J⟩ := J
  obtain ⟨cd, hcd, _⟩ := PySem.W.any_some S.hd
  exact PySem.W.kia_one (PySem.W.kitx_exc (by rw [hcd]; rfl) S.hg S.hk S.hs S.ha S.hn S.ht S.hm) I.kIn J e (fun z => nomatch z) fun tk => ⟨.bl b, H, I.kept (t' := tk) fun _ _ z => z, rfl, q⟩
theorem pe_xfv {n : Str} (he : PE X e te) (hb : attributeBase e n X.env (eval e X.env) = eval e X.env := by rfl) :
    PE X (.Attribute e n pos) (fun σ H Q => te σ H fun x H1 => ∃ (a C dx : Addr) (fs : List (Str × V)) (v : V), x = .ref a ∧ XfC X.K C ∧ PySem.W.findIn X.K (.ref C) n = some none ∧ H1 a = some (exo a C (some dx)) ∧ H1 dx = some (exd dx fs) ∧ fs.lookup n = some v ∧ Q v H1) :=
  ⟨fun pn s σ H Q I h => attr_of hb (thn (he.run pn s σ H _ I h) fun u s1 ⟨x, H1, I1, rx, a, C, dx, fs, v, ex, S, hno, ea, ed, l, q⟩ => by
    subst ex
    obtain rfl : u = Value.ref a := rx
    obtain ⟨t0, ho⟩ := exo_at I1.hok ea
    obtain ⟨mA, hns, hr⟩ := exd_at I1.hok ed
    obtain ⟨od, hod, hl⟩ := lookIn_ns hns
    obtain ⟨u, hu, ru⟩ := RelO.some_of (v := v) (o := mA n) (by rw [← l]; exact hr n)
    exact HandSPX.exc_get I1.kIn ⟨ho, rfl, rfl, hod⟩ S.ga S.gg S.exC (PySem.W.findObj_own S.hdC hno rfl (by rw [hl, hu])) (handed_of ru) ⟨v, H1, I1.tok _, ru, q⟩)⟩
end
/-! ### as data -/
section
variable {X : Cx} {T : Tx} {π : Nat → Option Pin} {W : WX} {e : Expr} {m : Mi Dt} {ms : Mi (List Dt)} {x f z n : Str} {C fI : Addr} {fd : FuncData} {p pos : Pos} {c : Nat} {ks : List Str} {kws : List Keyword}
def mMkx (c : Nat) (m : Mi Dt) : Mi Dt := mBind m fun d => mPure (.exv c [d])
def mMkxK (c : Nat) (ms : Mi (List Dt)) : Mi Dt := mBind ms fun ds => match ds with
  | [d] => mPure (.exv c [d])
  | _ => mBad
theorem exv_rep {A : Addr → Prop} {F H : Hp} {σ : L2.St} {ρ : En} {v : V} {d : Dt} {Q : VK} (hc : T.cl c = some (C, [f])) (k : Ok T π A F H σ ρ) (rv : Rep T F v d) (q : ∀ F' H' u, Ok T π A F' H' σ ρ → Fr A F H F' H' → Rep T F' u (.exv c [d]) → Q u H') : tExv C (spI C f) [v] Q H := fun a ha => ⟨a, v, rfl, upd_same, fun dx h1 hne => by
  have hdx : H dx = none := by rw [upd_ne hne] at h1; exact h1
  have ea : upd (upd (upd H a (exo a C none)) dx (exd dx [(f, v)])) a (exo a C (some dx)) = upd (upd H dx (exd dx [(f, v)])) a (exo a C (some dx)) := by
    funext b
    by_cases hb : b = a
    · rw [hb, upd_same, upd_same]
    · rw [upd_ne hb, upd_ne hb]
      by_cases hbd : b = dx
      · rw [hbd, upd_same, upd_same]
      · rw [upd_ne hbd, upd_ne hbd, upd_ne hb]
  rw [ea]
  have ha2 : (upd H dx (exd dx [(f, v)])) a = none := by rw [upd_ne (Ne.symm hne)]; exact ha
  have k2 := k.new (o := exd dx [(f, v)]) hdx
  have k3 := k2.new (o := exo a C (some dx)) ha2
  have l2 := le_new (o := exd dx [(f, v)]) (f_none k.le hdx)
  have l3 := le_new (o := exo a C (some dx)) (f_none k2.le ha2)
  exact ⟨rfl, q _ _ _ k3 ((Fr.new k.le hdx).trans (.new k2.le ha2)) (.exv hc upd_same (by rw [upd_ne hne]; exact upd_same) rfl (.cons ((rv.mono l2).mono l3) .nil))⟩⟩
theorem de_mkx (S : Err X.K X.mg x C fI) (hc : T.cl c = some (C, [f])) (G : FnOk X.prog X.w X.K X.mg X.base (L2.CX X.prog X.w) 1 fI fd [("self" : Str), z] (spI C f)) (hr : Room 2 X.A) (hb : Binds X.K fd [("self" : Str), z] [])
    (hx : Passes (L2.CX X.prog X.w) X (fun _ _ _ => False)) (hg : Gl X x) (he : PE X e (TMe T π W m)) (hdb : (x == ("__debug__" : Str)) = false := by decide) (hs : starEach [e] X.env = (false, eval e X.env) :: starEach [] X.env := by rfl) (hpl : (backTo pos (starEach [] X.env)).any (·.1) = false := by rfl) :
    PE X (.Call (.Name x p) [e] [] pos) (TMe T π W (mMkx c m)) := (pe_exv S G hr hb hx hg (pa_cons he pa_nil hs) hdb hs hpl).imp fun σ H Q ⟨A, F, ρ, k, q⟩ =>
  ⟨A, F, ρ, k, q.bind.imp fun d ρ1 F1 H1 k1 r1 p1 v rv => ⟨(by show 1 ≤ 1000; decide), exv_rep hc k1 rv fun F' H' u k' r' ru => p1 F' H' k' r' u ru⟩⟩
theorem de_mkxK (S : Err X.K X.mg x C fI) (hc : T.cl c = some (C, [f])) (G : FnOk X.prog X.w X.K X.mg X.base (L2.CX X.prog X.w) 1 fI fd [("self" : Str), z] (spI C f)) (hr : Room 2 X.A) (hb : KB1 X.K fd [("self" : Str), z] ks [0])
    (hx : Passes (L2.CX X.prog X.w) X (fun _ _ _ => False)) (hg : Gl X x) (ha : PK X kws (TMa T π W ms)) (hall : (backToKw pos (keywordEach kws X.env)).all (·.1.isSome) = true := by rfl) (hks : (backToKw pos (keywordEach kws X.env)).filterMap (·.1) = ks := by rfl) (hk1 : ks.length = 1 := by rfl)
    (hdb : (x == ("__debug__" : Str)) = false := by decide)
    (hpl : ((backTo pos (starEach [] X.env)).any (·.1) || (backToKw pos (keywordEach kws X.env)).any (·.1.isNone)) = false := by rfl) :
    PE X (.Call (.Name x p) [] kws pos) (TMe T π W (mMkxK c ms)) := (pe_exvK S G hr hb hx hg ha hall hks hdb hpl).imp fun σ H Q ⟨A, F, ρ, k, q⟩ =>
  ⟨A, F, ρ, k, q.bind.imp fun ds ρ1 F1 H1 k1 r1 p1 vs rvs => by
    match ds, p1, rvs with
    | [d], p1, .cons rv .nil => exact ⟨by rw [hk1]; rfl, exv_rep hc k1 rv fun F' H' u k' r' ru => p1 F' H' k' r' u ru⟩⟩
theorem de_mkx0 (S : Err X.K X.mg x C fI) (hc : T.cl c = some (C, [])) (G : FnOk X.prog X.w X.K X.mg X.base (L2.CX X.prog X.w) 1 fI fd [("self" : Str)] (spI0 C)) (hr : Room 2 X.A) (hb : Binds X.K fd [("self" : Str)] [])
    (hx : Passes (L2.CX X.prog X.w) X (fun _ _ _ => False)) (hg : Gl X x) (hdb : (x == ("__debug__" : Str)) = false := by decide) :
    PE X (.Call (.Name x p) [] [] pos) (TMe T π W (mPure (.exv c []))) := (pe_exv0 S G hr hb hx hg hdb).imp fun σ H Q ⟨A, F, ρ, k, q⟩ a ha =>
  ⟨a, rfl, upd_same, rfl, q _ _ (k.new ha) (.new k.le ha) _ (.exv0 hc upd_same)⟩
/-- the classes cs, held against cv -/
def fIsV (cs : List Nat) (g : Nat → Bool) : Dt → Option Dt
  | .exv c _ => if c ∈ cs then some (.bl (g c)) else none
  | _ => none
def fXv (cs : List Nat) : Dt → Option Dt
  | .exv c [d] => if c ∈ cs then some d else none
  | _ => none
theorem de_isV {cs : List Nat} {g : Nat → Bool} {v : V} {cv : Value} (hv : ClsV v cv) (hK : X.K = T.K) (hk : ∀ c ∈ cs, ∀ C ns, T.cl c = some (C, ns) → ExcC T.K C ∧ PySem.W.kitOne T.K (.ref C) cv = some (g c))
    (h : PE X e (tCB (rIsV X.K) (tCons (TMe T π W m) (tCons (tC v) tNil)))) : PE X e (TMe T π W (m1 (fIsV cs g) m)) := h.imp fun σ H Q ⟨A, F, ρ, k, p⟩ => ⟨A, F, ρ, k, p.bind.imp fun d ρ1 F1 H1 k1 r1 p1 u ru => by
  obtain ⟨y, ey, p2⟩ := p1.opt
  unfold fIsV at ey
  split at ey
  · rename_i c0 ds
    by_cases hc : c0 ∈ cs
    · rw [if_pos hc] at ey
      cases ey
      cases ru with
      | exv0 h1 h2 =>
        obtain ⟨S, kk⟩ := hk _ hc _ _ h1
        exact ⟨_, _, none, v, cv, g c0, rfl, hv, by rw [hK]; exact S, by rw [hK]; exact kk, k1.le _ _ h2, (fun _ z => nomatch z), p2.pure k1 _ (.bl _)⟩
      | exv h1 h2 h3 h4 h5 =>
        obtain ⟨S, kk⟩ := hk _ hc _ _ h1
        exact ⟨_, _, some _, v, cv, g c0, rfl, hv, by rw [hK]; exact S, by rw [hK]; exact kk, k1.le _ _ h2, (fun dd z => by cases z; exact ⟨_, k1.le _ _ h3⟩), p2.pure k1 _ (.bl _)⟩
    · rw [if_neg hc] at ey; cases ey
  · cases ey⟩
theorem de_xfv {cs : List Nat} (hK : X.K = T.K) (hk : ∀ c ∈ cs, ∀ C ns, T.cl c = some (C, ns) → ns = [n] ∧ XfC T.K C ∧ PySem.W.findIn T.K (.ref C) n = some none) (h : PE X e (TMe T π W m)) (hb : attributeBase e n X.env (eval e X.env) = eval e X.env := by rfl) : PE X (.Attribute e n pos) (TMe T π W (m1 (fXv cs) m)) := (pe_xfv h hb).imp fun σ H Q ⟨A, F, ρ, k, p⟩ => ⟨A, F, ρ, k, p.bind.imp fun d ρ1 F1 H1 k1 r1 p1 u ru => by
  obtain ⟨y, ey, p2⟩ := p1.opt
  unfold fXv at ey
  split at ey
  · rename_i c0 d0
    by_cases hc : c0 ∈ cs
    · rw [if_pos hc] at ey
      cases ey
      cases ru with
      | exv h1 h2 h3 h4 h5 =>
        obtain ⟨e1, S, hno⟩ := hk _ hc _ _ h1
        subst e1
        cases h5 with
        | cons rv rn =>
          cases rn
          exact ⟨_, _, _, _, _, rfl, by rw [hK]; exact S, by rw [hK]; exact hno, k1.le _ _ h2, k1.le _ _ h3, by simp [List.lookup], p2.pure k1 _ rv⟩
    · rw [if_neg hc] at ey; cases ey
  · cases ey⟩
end
end Dl
namespace Dl
open PySem PySem.Spec PyProof.Rows L2
/-! ### a list that errors hold is changed behind: held = f([row] * n); if g(held) != ..: return ..; row.append(2); if g(held) != ..: return .. -/
theorem kit_ty {K : PySem.W.Frag} {C : Addr} (h : PySem.W.subIn K (.ref C) (.type "ValueError") = some true) : PySem.W.kitOne K (.ref C) (.type "ValueError") = some true := by
  unfold PySem.W.kitOne
  have z : (Value.ref C == Value.type "ValueError") = false := Bool.eq_false_iff.mpr fun q => nomatch (beq_iff_eq.mp q)
  rw [z, if_neg Bool.false_ne_true]
  unfold PySem.W.kitCls
  dsimp only
  rw [if_pos (by decide +kernel)]
  exact h
section
variable {X : Cx} {T : Tx} {π : Nat → Option Pin} {W : WX} {c e : Expr} {pos : Pos} {mL mR1 mR2 : Mi Dt} {A : Addr → Prop} {F H F0 H0 : Hp} {σ : L2.St} {ρ : En} {sA sb1 sb2 : En → So} {i j : Nat} {a : Addr}
def isAdr (a : Addr) : Dt → Bool
  | .adr b => decide (b = a)
  | _ => false
theorem isAdr_eq {d : Dt} (h : isAdr a d = true) : d = .adr a := by
  cases d with
  | adr b => rw [of_decide_eq_true h]
  | _ => cases h
/-- xs != ys, xs a list of the same list over and over, which is ds -/
def mNeA (a : Addr) (ds : List Dt) (mL mR : Mi Dt) : Mi Bool := mBind mL fun x => mBind mR fun y => match x with
  | .lst xs => if xs.all (isAdr a) = true then (match fNe (.lst (xs.map fun _ => .lst ds)) y with | some (.bl b) => mPure b | _ => mBad) else mBad
  | _ => mBad
theorem reps_same {F' : Hp} {us : List V} {ds : List Dt} (le : Le F F') (ha : F' a = some (.lst us)) (ru : Reps T F' us ds) : ∀ {vs : List V} {xs : List Dt}, Reps T F vs xs → xs.all (isAdr a) = true → Reps T F' vs (xs.map fun _ => .lst ds)
  | _, _, .nil, _ => .nil
  | _, _, .cons (d := d) r rs, h => by
    rw [List.all_cons, Bool.and_eq_true] at h
    have e := isAdr_eq h.1
    subst e
    cases r with
    | adr => exact .cons (.lst ha ru) (reps_same le ha ru rs h.2)
/-- the env of the block: the list is known by its address, what holds it stands in slot j -/
def alE (i j : Nat) (a : Addr) (h : Dt) (ρ : En) : En := (ρ.set i (some (.val (.adr a)))).set j (some (.val h))
def alC (i j : Nat) (ds : List Dt) (sA : En → So) (mL mR1 mR2 : Mi Dt) (ρ : En) (a : Addr) : Prop := ∃ h, sA (ρ.set i (some (.val (.adr a)))) = .nx (alE i j a h ρ) ∧ mNeA a ds mL mR1 (alE i j a h ρ) = .ok false (alE i j a h ρ) ∧ mNeA a (ds ++ [.int 2]) mL mR2 (alE i j a h ρ) = .ok false (alE i j a h ρ)
noncomputable def sAlias (i j : Nat) (sA : En → So) (mL mR1 mR2 : Mi Dt) : En → So := fun ρ => match ρ[i]? with
  | some (some (.own false (.lst ds))) => @ite _ (i ≠ j ∧ ds.length < 1000 ∧ (∃ o, ρ[j]? = some o ∧ (∀ io d, o ≠ some (.own io d))) ∧ ∀ a, alC i j ds sA mL mR1 mR2 ρ a) (Classical.propDecidable _) (.nx ((ρ.set i none).set j none)) .bad
  | _ => .bad
theorem sAlias_ok {ds : List Dt} {o : Option Sl} (h : ρ[i]? = some (some (.own false (.lst ds)))) (hj : i ≠ j) (hl : ds.length < 1000) (ho : ρ[j]? = some o) (hn : ∀ io d, o ≠ some (.own io d)) (hc : ∀ a, alC i j ds sA mL mR1 mR2 ρ a) : sAlias i j sA mL mR1 mR2 ρ = .nx ((ρ.set i none).set j none) := by
  unfold sAlias
  rw [h]
  exact if_pos ⟨hj, hl, ⟨o, ho, hn⟩, hc⟩
/-- the test, where the list stands at a -/
theorem alias_test {B : Addr → Prop} {ds : List Dt} {us : List V} {E : En} {Q : Bool → Hp → Prop} (k : Ok T π B F H σ E) (nB : ¬ B a) (fa : F a = none) (ha : H a = some (.lst us)) (ru : Reps T F us ds) (e : mNeA a ds mL mR1 E = .ok false E)
    (q : ∀ F' H', Ok T π B F' H' σ E → Fr B F H F' H' → Q false H') : tTest (tOp (rNeD T.K) (TMe T π W mL) (TMp T π W mR1)) σ H Q := by
  unfold mNeA mBind at e
  cases e1 : mL E with
  | exc x r => rw [e1] at e; cases e
  | bad => rw [e1] at e; cases e
  | ok x E1 =>
    rw [e1] at e
    dsimp only at e
    refine ⟨B, F, E, k, ?_⟩
    rw [e1]
    intro F1 H1 k1 r1 v rv
    cases e2 : mR1 E1 with
    | exc x r => rw [e2] at e; cases e
    | bad => rw [e2] at e; cases e
    | ok y E2 =>
      rw [e2] at e
      dsimp only at e
      refine ⟨B, F1, E1, k1, ?_⟩
      rw [e2]
      intro F2 H2 k2 r2 w rw'
      cases x with
      | lst xs =>
        dsimp only at e
        by_cases hall : xs.all (isAdr a) = true
        · rw [if_pos hall] at e
          cases hne : fNe (.lst (xs.map fun _ => .lst ds)) y with
          | none => rw [hne] at e; cases e
          | some zz =>
          rw [hne] at e
          cases zz with
          | bl b =>
            have e3 : Ou.ok b E2 = Ou.ok false E := e
            injection e3 with e4 e5
            subst e4 e5
            have r12 := r1.trans r2
            have ha2 : H2 a = some (.lst us) := r12.h a _ nB ha
            have fa2 : F2 a = none := by rw [r12.n a _ nB ha (fun _ z => nomatch z)]; exact fa
            have l4 : Le F2 (upd F2 a (.lst us)) := le_new fa2
            have le4 : Le (upd F2 a (.lst us)) H2 := fun b u z => by
              by_cases nb : b = a
              · rw [nb, upd_same] at z; cases z; rw [nb]; exact ha2
              · rw [upd_ne nb] at z; exact k2.le _ _ z
            have ru4 := (ru.mono r12.f).mono l4
            have k0 : Ok T (fun _ => none) (fun _ => False) (upd F2 a (.lst us)) H2 [] [] := ⟨le4, rfl, fun i d z => by simp at z, fun i io d z => by simp at z, fun i j io jo d e a b x z => by simp at z⟩
            have rv4 : Rep T (upd F2 a (.lst us)) v (.lst (xs.map fun _ => .lst ds)) := by
              cases rv with
              | lst h1 h2 => exact .lst (l4 _ _ (r2.f _ _ h1)) (reps_same (F := F1) (le_trans r2.f l4) upd_same ru4 h2 hall)
            have rw4 : RepS T (upd F2 a (.lst us)) H2 w y := by
              rcases rw' with z | ⟨b, ez, ow⟩
              · exact .inl (z.mono l4)
              · exact .inr ⟨b, ez, ow.mono l4 fun _ _ _ z => z⟩
            refine os_ne (T := T) (fun _ => none) (fun _ => False) (upd F2 a (.lst us)) H2 [] [] v w _ y (.bl false) _ k0 rv4.s rw4 hne fun F' H' u k' r' ru' => ⟨false, ru'.bl_inv, ?_⟩
            have hh : ∀ b o, H2 b = some o → H' b = some o := fun b o z => r'.h b o (fun z => z) z
            have k5 : Ok T π B F2 H' σ E2 := k2.grow (le_refl _) (fun b u z => hh _ _ (k2.le _ _ z)) (fun b w => (k2.ownH w).2.1) fun b u w z => hh _ _ z
            exact q F2 H' k5 (r12.trans ⟨le_refl _, fun b o _ z => hh _ _ z, fun _ _ _ _ _ => rfl, fun b z => r'.t b z⟩)
          | _ => cases e
        · rw [if_neg hall] at e; cases e
      | _ => cases e
theorem al_get {h : Dt} {ρ : En} (hi : i < ρ.length) (hij : i ≠ j) : (alE i j a h ρ)[i]? = some (some (.val (.adr a))) := by
  unfold alE
  rw [List.getElem?_set_ne (Ne.symm hij), List.getElem?_set_self hi]
theorem dss_alias {s1 s2 s3 s4 : Stmt} (hK : X.K = T.K) (hA : PS X s1 (TMs T π W sA)) (hB : PS X s2 (tIfS (tTest (tOp (rNeD X.K) (TMe T π W mL) (TMp T π W mR1))) (TMs T π W sb1) tNext))
    (hC : PS X s3 (tDrop (tBM X.K "list" rAppend (tVar i) (tCons (tC (.int 2)) tNil)))) (hD : PS X s4 (tIfS (tTest (tOp (rNeD X.K) (TMe T π W mL) (TMp T π W mR2))) (TMs T π W sb2) tNext)) :
    PSs X [s1, s2, s3, s4] (TMs T π W (sAlias i j sA mL mR1 mR2)) := (pss_cons hA (pss_cons hB (pss_cons hC (pss_one hD)))).imp fun D σ H ⟨A, F0, H0, F, ρ, k, p⟩ => by
  unfold sAlias at p
  split at p
  · rename_i ds ei
    by_cases hc : i ≠ j ∧ ds.length < 1000 ∧ (∃ o, ρ[j]? = some o ∧ (∀ io d, o ≠ some (.own io d))) ∧ ∀ a, alC i j ds sA mL mR1 mR2 ρ a
    · rw [if_pos hc] at p
      obtain ⟨hij, hlen, ⟨oj, hoj, hnj⟩, hall⟩ := hc
      have hi : i < ρ.length := (List.getElem?_eq_some_iff.mp ei).1
      have hj : j < ρ.length := (List.getElem?_eq_some_iff.mp hoj).1
      obtain ⟨a, s1_, hFa, ⟨us, hHa, rus⟩, hAa, _, _⟩ := k.ok.own i false _ ei
      obtain ⟨h, eA, eB, eD⟩ := hall a
      obtain ⟨ρ0, eρ0⟩ : ∃ ρ0, ρ0 = ρ.set i (some (Sl.val (.adr a))) := ⟨_, rfl⟩
      rw [← eρ0] at eA
      have old : ∀ {m : Nat} {io : Bool} {d : Dt}, ρ0[m]? = some (some (.own io d)) → m ≠ i ∧ ρ[m]? = some (some (.own io d)) := fun {m io d} z => by
        rw [eρ0] at z
        by_cases hm : m = i
        · rw [hm, List.getElem?_set_self hi] at z; cases z
        · rw [List.getElem?_set_ne (Ne.symm hm)] at z; exact ⟨hm, z⟩
      have own0 : ∀ {b : Addr}, IsOwn H σ ρ0 b → IsOwn H σ ρ b := fun {b} w => by
        obtain ⟨m, io, d, b', z1, z2, z3⟩ := w
        exact ⟨m, io, d, b', (old z1).2, z2, z3⟩
      have na0 : ¬ IsOwn H σ ρ0 a := fun w => by
        obtain ⟨m, io, d, b', z1, z2, z3⟩ := w
        obtain ⟨hm, z1⟩ := old z1
        exact hm (k.ok.dis m i io false d (.lst ds) b' a a z1 ei z2 s1_ z3 (.inl rfl))
      have k0 : Ok T π (IsOwn H σ ρ0) F H σ ρ0 := by
        refine ⟨k.ok.le, by rw [eρ0, List.length_set]; exact k.ok.len, fun m d z => ?_, fun m io d z => ?_, fun m l io lo d1 d2 b1 b2 x z1 z2 z3 z4 z5 z6 => ?_⟩
        · rw [eρ0] at z
          by_cases hm : i = m
          · subst hm
            rw [List.getElem?_set_self hi] at z
            cases z
            exact ⟨_, s1_, .adr a⟩
          · rw [List.getElem?_set_ne hm] at z
            exact k.ok.val m d z
        · obtain ⟨hm, z2⟩ := old z
          obtain ⟨b, q1, q2, q3, q4, q5, q6⟩ := k.ok.own m io d z2
          exact ⟨b, q1, q2, q3, ⟨m, io, d, b, z, q1, .inl rfl⟩, q5, fun x hx => ⟨(q6 x hx).1, ⟨m, io, d, b, z, q1, .inr hx⟩⟩⟩
        · exact k.ok.dis m l io lo d1 d2 b1 b2 x (old z1).2 (old z2).2 z3 z4 z5 z6
      refine ⟨IsOwn H σ ρ0, F, H, F, ρ0, ⟨k0.weak fun _ z => .inl z, .refl⟩, ?_⟩
      rw [eA]
      intro σ1 F1 H1 st1
      have nA1 : ¬ (fun b => IsOwn H σ ρ0 b ∨ H b = none) a := fun z => z.elim na0 fun z => by rw [hHa] at z; cases z
      have ha1 : H1 a = some (.lst us) := st1.fr.h a _ na0 hHa
      have fa1 : F1 a = none := by rw [st1.fr.n a _ na0 hHa (fun _ z => nomatch z)]; exact hFa
      change tIfS (tTest (tOp (rNeD X.K) (TMe T π W mL) (TMp T π W mR1))) (TMs T π W sb1) tNext _ σ1 H1
      unfold tIfS
      rw [hK]
      refine alias_test st1.ok nA1 fa1 ha1 (rus.mono st1.fr.f) eB fun F2 H2 k2 r2 => iteF ?_
      change tDrop (tBM _ "list" rAppend (tVar i) (tCons (tC (.int 2)) tNil)) _ σ1 H2
      have ha2 : H2 a = some (.lst us) := r2.h a _ nA1 ha1
      have fa2 : F2 a = none := by rw [r2.n a _ nA1 ha1 (fun _ z => nomatch z)]; exact fa1
      obtain ⟨v, sv, rv⟩ := k2.val i _ (al_get hi hij)
      cases rv
      have hul : us.length < sizeLine := by
        rw [rus.length, sizeLine_eq]; omega
      refine ⟨.ref a, sv, .inl ⟨rfl, _, SqL.of ha2⟩, a, us, .int 2, rfl, rfl, ha2, hul, ?_⟩
      have k3 := k2.upd_other (o := .lst (us ++ [.int 2])) fa2 nA1
      have k3t := k3.tight
      have na3 : ¬ IsOwn (upd H2 a (.lst (us ++ [.int 2]))) σ1 (alE i j a h ρ) a := fun w => nA1 (k3.ownA w)
      change tTest (tOp (rNeD _) (TMe T π W mL) (TMp T π W mR2)) σ1 _ _
      try rw [hK]
      refine alias_test k3t na3 fa2 upd_same ((rus.mono (le_trans st1.fr.f r2.f)).append (.cons (.int 2) .nil)) eD fun F4 H4 k4 r4 => iteF ?_
      -- all is as ahead, but for the two names
      have up2 : ∀ {b : Addr}, b ≠ a → (upd H2 a (.lst (us ++ [.int 2]))) b = H2 b := fun z => upd_ne z
      have own3 : ∀ {b : Addr}, IsOwn (upd H2 a (.lst (us ++ [.int 2]))) σ1 (alE i j a h ρ) b → (A b ∨ H0 b = none) := fun {b} w => by
        rcases k3.ownA w with z | z
        · exact k.ok.ownA (own0 z)
        · exact .inr (k.fr.t b z)
      have fr5 : Fr (fun b => A b ∨ H0 b = none) F H F4 H4 := by
        refine ⟨le_trans st1.fr.f (le_trans r2.f r4.f), fun b o nb z => ?_, fun b o nb z ht => ?_, fun b z => ?_⟩
        · have nba : b ≠ a := fun y => nb (by rw [y]; exact hAa)
          have n1 : ¬ IsOwn H σ ρ0 b := fun w => nb (k.ok.ownA (own0 w))
          have z1 := st1.fr.h b o n1 z
          have z2 := r2.h b o (fun w => w.elim n1 fun y => by rw [y] at z; cases z) z1
          exact r4.h b o (fun w => nb (own3 w)) (by rw [up2 nba]; exact z2)
        · have nba : b ≠ a := fun y => nb (by rw [y]; exact hAa)
          have n1 : ¬ IsOwn H σ ρ0 b := fun w => nb (k.ok.ownA (own0 w))
          have z1 := st1.fr.h b o n1 z
          have n2 : ¬ (IsOwn H σ ρ0 b ∨ H b = none) := fun w => w.elim n1 fun y => by rw [y] at z; cases z
          have z2 := r2.h b o n2 z1
          rw [r4.n b o (fun w => nb (own3 w)) (by rw [up2 nba]; exact z2) ht, r2.n b o n2 z1 ht, st1.fr.n b o n1 z ht]
        · exact st1.fr.t b (r2.t b (up_none (r4.t b z)))
      have getF : ∀ {m : Nat} {sl : Sl}, ((ρ.set i none).set j none)[m]? = some (some sl) → (alE i j a h ρ)[m]? = some (some sl) := fun {m sl} z => by
        unfold alE
        by_cases hmj : j = m
        · rw [hmj, List.getElem?_set_self (by rw [List.length_set]; omega)] at z; cases z
        · rw [List.getElem?_set_ne hmj] at z ⊢
          by_cases hmi : i = m
          · rw [hmi, List.getElem?_set_self (by omega)] at z; cases z
          · rw [List.getElem?_set_ne hmi] at z ⊢
            exact z
      have k5 : Ok T π (fun b => A b ∨ H0 b = none) F4 H4 σ1 ((ρ.set i none).set j none) := by
        refine ⟨k4.le, ?_, fun m d z => k4.val m d (getF z), fun m io d z => ?_, fun m l io lo d1 d2 b1 b2 x z1 z2 z3 z4 z5 z6 => k4.dis m l io lo d1 d2 b1 b2 x (getF z1) (getF z2) z3 z4 z5 z6⟩
        · have := k4.len
          unfold alE at this
          rw [List.length_set, List.length_set] at this ⊢
          exact this
        · obtain ⟨b, q1, q2, q3, q4, q5, q6⟩ := k4.own m io d (getF z)
          exact ⟨b, q1, q2, q3, own3 q4, q5, fun x hx => ⟨(q6 x hx).1, own3 (q6 x hx).2⟩⟩
      exact p σ1 F4 H4 (k.step k5 fr5)
    · rw [if_neg hc] at p; exact p.elim
  · exact p.elim
end
end Dl
namespace Dl
open PySem PySem.Spec PyProof.Rows L2
noncomputable section
/-! ### the mirrors -/
def b_law_sorts : En → So :=
  (sSeq (sSetN 1 (mLst (mCons (m1 (fIsV [20, 21, 22, 23, 24, 26, 27, 29, 30, 28, 25] (fun c => decide (c = 20))) (mVar 0)) (mCons (m1 (fIsV [20, 21, 22, 23, 24, 26, 27, 29, 30, 28, 25] (fun c => decide (c = 21))) (mVar 0)) (mCons (m1 (fIsV [20, 21, 22, 23, 24, 26, 27, 29, 30, 28, 25] (fun c => decide (c = 22))) (mVar 0)) (mPure []))))))
  (sSeq (sDrop (ownLst 1 (mExtend 1 (mLst (mCons (m1 (fIsV [20, 21, 22, 23, 24, 26, 27, 29, 30, 28, 25] (fun c => decide (c = 23))) (mVar 0)) (mCons (m1 (fIsV [20, 21, 22, 23, 24, 26, 27, 29, 30, 28, 25] (fun c => decide (c = 24))) (mVar 0)) (mCons (m1 (fIsV [20, 21, 22, 23, 24, 26, 27, 29, 30, 28, 25] (fun c => decide (c = 26))) (mVar 0)) (mPure []))))))))
  (sSeq (sDrop (ownLst 1 (mExtend 1 (mLst (mCons (m1 (fIsV [20, 21, 22, 23, 24, 26, 27, 29, 30, 28, 25] (fun c => decide (c = 27))) (mVar 0)) (mCons (m1 (fIsV [20, 21, 22, 23, 24, 26, 27, 29, 30, 28, 25] (fun c => decide (c = 29))) (mVar 0)) (mCons (m1 (fIsV [20, 21, 22, 23, 24, 26, 27, 29, 30, 28, 25] (fun c => decide (c = 30))) (mVar 0)) (mPure []))))))))
  (sRet (m2 fAdd (mVar 1) (mLst (mCons (m1 (fIsV [20, 21, 22, 23, 24, 26, 27, 29, 30, 28, 25] (fun c => decide (c = 28))) (mVar 0)) (mCons (m1 (fIsV [20, 21, 22, 23, 24, 26, 27, 29, 30, 28, 25] (fun c => decide (c = 25))) (mVar 0)) (mPure [])))))))))
def m_law_sorts : List Dt → Fo := runF 2 false false b_law_sorts
def b_law_errors : En → So :=
  (sSeq (sSetN 1 (mLst (mCons (mMkx 20 (hasSl 0 (mIxV 0 (mPure (.int 0))))) (mCons (mMkx 21 (hasSl 0 (mIxV 0 (mPure (.int 1))))) (mCons (mMkx 22 (hasSl 0 (mIxV 0 (mPure (.int 2))))) (mCons (mMkx 23 (hasSl 0 (mIxV 0 (mPure (.int 3))))) (mPure [])))))))
  (sSeq (sDrop (ownLst 1 (mExtend 1 (mLst (mCons (mMkx 24 (hasSl 0 (mIxV 0 (mPure (.int 4))))) (mCons (mMkx 26 (hasSl 0 (mIxV 0 (mPure (.int 5))))) (mCons (mMkx 27 (hasSl 0 (mIxV 0 (mPure (.int 6))))) (mCons (mMkx 29 (hasSl 0 (mIxV 0 (mPure (.int 7))))) (mPure [])))))))))
  (sRet (m2 fAdd (mVar 1) (mLst (mCons (mMkx 30 (hasSl 0 (mIxV 0 (mPure (.int 8))))) (mCons (mPure (.exv 28 [])) (mCons (mPure (.exv 25 [])) (mPure [])))))))))
def m_law_errors : List Dt → Fo := runF 2 false false b_law_errors
def b_law_named : En → So :=
  (sSeq (sSetN 1 (mLst (mCons (mMkxK 20 (mCons (hasSl 0 (mIxV 0 (mPure (.int 0)))) (mPure []))) (mCons (mMkxK 21 (mCons (hasSl 0 (mIxV 0 (mPure (.int 1)))) (mPure []))) (mCons (mMkxK 22 (mCons (hasSl 0 (mIxV 0 (mPure (.int 2)))) (mPure []))) (mPure []))))))
  (sSeq (sDrop (ownLst 1 (mExtend 1 (mLst (mCons (mMkxK 23 (mCons (hasSl 0 (mIxV 0 (mPure (.int 3)))) (mPure []))) (mCons (mMkxK 24 (mCons (hasSl 0 (mIxV 0 (mPure (.int 4)))) (mPure []))) (mCons (mMkxK 26 (mCons (hasSl 0 (mIxV 0 (mPure (.int 5)))) (mPure []))) (mPure []))))))))
  (sRet (m2 fAdd (mVar 1) (mLst (mCons (mMkxK 27 (mCons (hasSl 0 (mIxV 0 (mPure (.int 6)))) (mPure []))) (mCons (mMkxK 29 (mCons (hasSl 0 (mIxV 0 (mPure (.int 7)))) (mPure []))) (mCons (mMkxK 30 (mCons (hasSl 0 (mIxV 0 (mPure (.int 8)))) (mPure []))) (mPure [])))))))))
def m_law_named : List Dt → Fo := runF 2 false false b_law_named
def b_law_held : En → So :=
  (sSeq (sSet 1 (mLst (mCons (m1 (fXv [20, 22]) (hasSl 0 (mIxV 0 (mPure (.int 0))))) (mCons (m1 (fXv [21, 23, 24, 29]) (hasSl 0 (mIxV 0 (mPure (.int 1))))) (mCons (m1 (fXv [20, 22]) (hasSl 0 (mIxV 0 (mPure (.int 2))))) (mCons (m1 (fXv [21, 23, 24, 29]) (hasSl 0 (mIxV 0 (mPure (.int 3))))) (mCons (m1 (fXv [21, 23, 24, 29]) (hasSl 0 (mIxV 0 (mPure (.int 4))))) (mPure []))))))))
  (sRet (m2 fAdd (mVar 1) (mLst (mCons (m1 (fXv [26, 30]) (hasSl 0 (mIxV 0 (mPure (.int 5))))) (mCons (m1 (fXv [27]) (hasSl 0 (mIxV 0 (mPure (.int 6))))) (mCons (m1 (fXv [21, 23, 24, 29]) (hasSl 0 (mIxV 0 (mPure (.int 7))))) (mCons (m1 (fXv [26, 30]) (hasSl 0 (mIxV 0 (mPure (.int 8))))) (mPure [])))))))))
def m_law_held : List Dt → Fo := runF 2 false false b_law_held
def lp_law_0 : En → So :=
  (sSeq (sIf (mB (m2 fNe (mCall 1 m_law_sorts (mCons (mVar 6) (mPure []))) (mLc (mRng1 (mCons (mPure (.int 11)) (mPure []))) (gV 10) (mPure true) (m2 fEq (mVar 10) (mPeek 5)) [10]))) (sRet (mPure (.bl false))) (fun ρ => .nx ρ))
  (sIf (mOr (mNot (mB (m1 (fIsV [20, 21, 22, 23, 24, 26, 27, 29, 30, 28, 25] (fun _ => true)) (mVar 6)))) (mNot (mB (m1 (fIsV [20, 21, 22, 23, 24, 26, 27, 29, 30, 28, 25] (fun _ => true)) (mVar 6))))) (sRet (mPure (.bl false))) (fun ρ => .nx ρ)))
def lp_law_1 : En → So :=
  (sSeq (sSetN 2 (mCall 3 m_law_box (mCons (mVar 0) (mCons (mVar 1) (mCons (mPure (.int 1)) (mPure []))))))
  (sSeq (sSet 3 (mLc (mRng1 (mCons (mPure (.int 9)) (mPure []))) (gV 9) (mPure true) (mCallIo 1 m_law_value 2 (mPure [])) [9]))
  (sSeq (sSet 4 (mCall 1 m_law_errors (mCons (mVar 3) (mPure []))))
  (sSeq (sFor (mEnumI (mVar 4)) (gT (gsC (gV 5) (gsC (gV 6) gsN)) 2) lp_law_0)
  (sSeq (sIf (mOr (mB (m2 fNe (m1 fReprD (mCall 1 m_law_held (mCons (mVar 4) (mPure [])))) (m1 fReprD (mPeek 3)))) (mB (m2 fNe (m1 fReprD (mCall 1 m_law_held (mCons (mCall 1 m_law_named (mCons (mVar 3) (mPure []))) (mPure [])))) (m1 fReprD (mPeek 3))))) (sRet (mPure (.bl false))) (fun ρ => .nx ρ))
  (sSeq (sSetN 7 (mLst (mCons (mPure (.int 1)) (mPure []))))
  (sAlias 7 8 (sSet 8 (mCall 1 m_law_errors (mCons (mRep (mLst (mCons (mVar 7) (mPure []))) (mPure (.int 9))) (mPure [])))) (mCall 1 m_law_held (mCons (mVar 8) (mPure []))) (mRep (mLst (mCons (mLst (mCons (mPure (.int 1)) (mPure []))) (mPure []))) (mPure (.int 9))) (mRep (mLst (mCons (mLst (mCons (mPure (.int 1)) (mCons (mPure (.int 2)) (mPure [])))) (mPure []))) (mPure (.int 9))))))))))
def st_law_0 : En → So :=
  (sFor (mRng1 (mCons (m2 fMax2 (mPure (.int 1)) (m2 fMin2 (mPure (.int 3)) (m1 fLen (mPeek 0)))) (mPure []))) (gV 1) lp_law_1)
def st_law_1 : En → So :=
  (sRet (mPure (.bl true)))
def b_law : En → So :=
  (sSeq st_law_0 st_law_1)
def m_law : List Dt → Fo := runF 11 false false b_law
end
end Dl
namespace Dl
open PySem PySem.Spec PyProof.Rows L2
/-! ### the text -/
def topS (i : Nat) : Stmt := PySem.Challenge.pw_turnrota_k01_errors.main.body.getD i (.Pass ⟨0, 0, 0, 0⟩)
abbrev s_law_box : Stmt := topS 14
theorem sc_law_box : FnScope ["_law_script", "_law_k", "_law_own", "_law_cell", "_law_seed"] ["_law_script", "_law_k", "_law_own"] (defScope s_law_box) := ⟨rfl, rfl, rfl, by decide +kernel, rfl, by decide +kernel, by decide +kernel⟩
abbrev s_law_take : Stmt := topS 15
theorem sc_law_take : FnScope ["_law_box_here", "_law_bound", "_law_digit", "_law_raw", "_law_wide"] ["_law_box_here", "_law_bound"] (defScope s_law_take) := ⟨rfl, rfl, rfl, by decide +kernel, rfl, by decide +kernel, by decide +kernel⟩
abbrev s_law_pick : Stmt := topS 16
theorem sc_law_pick : FnScope ["_law_box_here", "_law_items"] ["_law_box_here", "_law_items"] (defScope s_law_pick) := ⟨rfl, rfl, rfl, by decide +kernel, rfl, by decide +kernel, by decide +kernel⟩
abbrev s_law_value : Stmt := topS 17
theorem sc_law_value : FnScope ["_law_box_here", "_law_some", "_law_deep", "_law_turn"] ["_law_box_here"] (defScope s_law_value) := ⟨rfl, rfl, rfl, by decide +kernel, rfl, by decide +kernel, by decide +kernel⟩
abbrev s_law_sorts : Stmt := topS 18
theorem sc_law_sorts : FnScope ["_law_one", "_law_found"] ["_law_one"] (defScope s_law_sorts) := ⟨rfl, rfl, rfl, by decide +kernel, rfl, by decide +kernel, by decide +kernel⟩
abbrev s_law_errors : Stmt := topS 19
theorem sc_law_errors : FnScope ["_law_some", "_law_found"] ["_law_some"] (defScope s_law_errors) := ⟨rfl, rfl, rfl, by decide +kernel, rfl, by decide +kernel, by decide +kernel⟩
abbrev s_law_named : Stmt := topS 20
theorem sc_law_named : FnScope ["_law_some", "_law_found"] ["_law_some"] (defScope s_law_named) := ⟨rfl, rfl, rfl, by decide +kernel, rfl, by decide +kernel, by decide +kernel⟩
abbrev s_law_held : Stmt := topS 21
theorem sc_law_held : FnScope ["_law_made", "_law_found"] ["_law_made"] (defScope s_law_held) := ⟨rfl, rfl, rfl, by decide +kernel, rfl, by decide +kernel, by decide +kernel⟩
abbrev s_law : Stmt := topS 22
theorem sc_law : FnScope ["_law_script", "_law_k", "_law_box_here", "_law_some", "_law_made", "_law_spot", "_law_one", "_law_row", "_law_held_here", "_law_turn", "_law_other"] ["_law_script"] (defScope s_law) := ⟨rfl, rfl, rfl, by decide +kernel, rfl, by decide +kernel, by decide +kernel⟩
abbrev s_InvalidRota_init : Stmt := inClass (topS 2) 0
theorem sc_InvalidRota_init : FnScope ["self", "word"] ["self", "word"] (defScope s_InvalidRota_init) := ⟨rfl, rfl, rfl, by decide +kernel, rfl, by decide +kernel, by decide +kernel⟩
abbrev s_InvalidText_init : Stmt := inClass (topS 3) 0
theorem sc_InvalidText_init : FnScope ["self", "at"] ["self", "at"] (defScope s_InvalidText_init) := ⟨rfl, rfl, rfl, by decide +kernel, rfl, by decide +kernel, by decide +kernel⟩
abbrev s_InvalidSeason_init : Stmt := inClass (topS 4) 0
theorem sc_InvalidSeason_init : FnScope ["self", "word"] ["self", "word"] (defScope s_InvalidSeason_init) := ⟨rfl, rfl, rfl, by decide +kernel, rfl, by decide +kernel, by decide +kernel⟩
abbrev s_InvalidMisses_init : Stmt := inClass (topS 5) 0
theorem sc_InvalidMisses_init : FnScope ["self", "at"] ["self", "at"] (defScope s_InvalidMisses_init) := ⟨rfl, rfl, rfl, by decide +kernel, rfl, by decide +kernel, by decide +kernel⟩
abbrev s_InvalidDays_init : Stmt := inClass (topS 6) 0
theorem sc_InvalidDays_init : FnScope ["self", "at"] ["self", "at"] (defScope s_InvalidDays_init) := ⟨rfl, rfl, rfl, by decide +kernel, rfl, by decide +kernel, by decide +kernel⟩
abbrev s_NoWheel_init : Stmt := inClass (topS 8) 0
theorem sc_NoWheel_init : FnScope ["self", "value"] ["self", "value"] (defScope s_NoWheel_init) := ⟨rfl, rfl, rfl, by decide +kernel, rfl, by decide +kernel, by decide +kernel⟩
abbrev s_NoTurning_init : Stmt := inClass (topS 9) 0
theorem sc_NoTurning_init : FnScope ["self", "day"] ["self", "day"] (defScope s_NoTurning_init) := ⟨rfl, rfl, rfl, by decide +kernel, rfl, by decide +kernel, by decide +kernel⟩
abbrev s_NoLot_init : Stmt := inClass (topS 11) 0
theorem sc_NoLot_init : FnScope ["self", "at"] ["self", "at"] (defScope s_NoLot_init) := ⟨rfl, rfl, rfl, by decide +kernel, rfl, by decide +kernel, by decide +kernel⟩
abbrev s_Refused_init : Stmt := inClass (topS 12) 0
theorem sc_Refused_init : FnScope ["self", "value"] ["self", "value"] (defScope s_Refused_init) := ⟨rfl, rfl, rfl, by decide +kernel, rfl, by decide +kernel, by decide +kernel⟩
abbrev s_NoFit_init : Stmt := inClass (topS 10) 0
theorem sc_NoFit_init : FnScope ["self"] ["self"] (defScope s_NoFit_init) := ⟨rfl, rfl, rfl, by decide +kernel, rfl, by decide +kernel, by decide +kernel⟩
abbrev s_InvalidCommand_init : Stmt := inClass (topS 7) 0
theorem sc_InvalidCommand_init : FnScope ["self"] ["self"] (defScope s_InvalidCommand_init) := ⟨rfl, rfl, rfl, by decide +kernel, rfl, by decide +kernel, by decide +kernel⟩
/-! ### where they stand -/
set_option genInjectivity false in
set_option genSizeOfSpec false in
set_option genSizeOf false in
structure Dfs (K : PySem.W.Frag) (mg : Str → Option Value) where
  f_law_box : Addr
  fd_law_box : FuncData
  F_law_box : Fun K "_law_box" "_law_box" s_law_box f_law_box fd_law_box
  g_law_box : mg "_law_box" = some (.ref f_law_box)
  b_law_box : Binds K fd_law_box ["_law_script", "_law_k", "_law_own"] []
  f_law_take : Addr
  fd_law_take : FuncData
  F_law_take : Fun K "_law_take" "_law_take" s_law_take f_law_take fd_law_take
  g_law_take : mg "_law_take" = some (.ref f_law_take)
  b_law_take : Binds K fd_law_take ["_law_box_here", "_law_bound"] []
  f_law_pick : Addr
  fd_law_pick : FuncData
  F_law_pick : Fun K "_law_pick" "_law_pick" s_law_pick f_law_pick fd_law_pick
  g_law_pick : mg "_law_pick" = some (.ref f_law_pick)
  b_law_pick : Binds K fd_law_pick ["_law_box_here", "_law_items"] []
  f_law_value : Addr
  fd_law_value : FuncData
  F_law_value : Fun K "_law_value" "_law_value" s_law_value f_law_value fd_law_value
  g_law_value : mg "_law_value" = some (.ref f_law_value)
  b_law_value : Binds K fd_law_value ["_law_box_here"] []
  f_law_sorts : Addr
  fd_law_sorts : FuncData
  F_law_sorts : Fun K "_law_sorts" "_law_sorts" s_law_sorts f_law_sorts fd_law_sorts
  g_law_sorts : mg "_law_sorts" = some (.ref f_law_sorts)
  b_law_sorts : Binds K fd_law_sorts ["_law_one"] []
  f_law_errors : Addr
  fd_law_errors : FuncData
  F_law_errors : Fun K "_law_errors" "_law_errors" s_law_errors f_law_errors fd_law_errors
  g_law_errors : mg "_law_errors" = some (.ref f_law_errors)
  b_law_errors : Binds K fd_law_errors ["_law_some"] []
  f_law_named : Addr
  fd_law_named : FuncData
  F_law_named : Fun K "_law_named" "_law_named" s_law_named f_law_named fd_law_named
  g_law_named : mg "_law_named" = some (.ref f_law_named)
  b_law_named : Binds K fd_law_named ["_law_some"] []
  f_law_held : Addr
  fd_law_held : FuncData
  F_law_held : Fun K "_law_held" "_law_held" s_law_held f_law_held fd_law_held
  g_law_held : mg "_law_held" = some (.ref f_law_held)
  b_law_held : Binds K fd_law_held ["_law_made"] []
  f_law : Addr
  fd_law : FuncData
  F_law : Fun K "law" "law" s_law f_law fd_law
  g_law : mg "law" = some (.ref f_law)
  b_law : Binds K fd_law ["_law_script"] []
  z_ValueError : mg "ValueError" = none
  z_abs : mg "abs" = none
  z_enumerate : mg "enumerate" = none
  z_int : mg "int" = none
  z_isinstance : mg "isinstance" = none
  z_len : mg "len" = none
  z_max : mg "max" = none
  z_min : mg "min" = none
  z_range : mg "range" = none
  z_repr : mg "repr" = none
  E_TurnError : Addr
  E_InvalidRota : Addr
  E_InvalidText : Addr
  E_InvalidSeason : Addr
  E_InvalidMisses : Addr
  E_InvalidDays : Addr
  E_InvalidCommand : Addr
  E_NoWheel : Addr
  E_NoTurning : Addr
  E_NoFit : Addr
  E_NoLot : Addr
  E_Refused : Addr
  kl_TurnError : Kls K mg "TurnError" E_TurnError
  kl_InvalidRota : Kls K mg "InvalidRota" E_InvalidRota
  kl_InvalidText : Kls K mg "InvalidText" E_InvalidText
  kl_InvalidSeason : Kls K mg "InvalidSeason" E_InvalidSeason
  kl_InvalidMisses : Kls K mg "InvalidMisses" E_InvalidMisses
  kl_InvalidDays : Kls K mg "InvalidDays" E_InvalidDays
  kl_InvalidCommand : Kls K mg "InvalidCommand" E_InvalidCommand
  kl_NoWheel : Kls K mg "NoWheel" E_NoWheel
  kl_NoTurning : Kls K mg "NoTurning" E_NoTurning
  kl_NoFit : Kls K mg "NoFit" E_NoFit
  kl_NoLot : Kls K mg "NoLot" E_NoLot
  kl_Refused : Kls K mg "Refused" E_Refused
  su_InvalidCommand_InvalidCommand : PySem.W.subIn K (.ref E_InvalidCommand) (.ref E_InvalidCommand) = some true
  su_InvalidCommand_InvalidDays : PySem.W.subIn K (.ref E_InvalidCommand) (.ref E_InvalidDays) = some false
  su_InvalidCommand_InvalidMisses : PySem.W.subIn K (.ref E_InvalidCommand) (.ref E_InvalidMisses) = some false
  su_InvalidCommand_InvalidRota : PySem.W.subIn K (.ref E_InvalidCommand) (.ref E_InvalidRota) = some false
  su_InvalidCommand_InvalidSeason : PySem.W.subIn K (.ref E_InvalidCommand) (.ref E_InvalidSeason) = some false
  su_InvalidCommand_InvalidText : PySem.W.subIn K (.ref E_InvalidCommand) (.ref E_InvalidText) = some false
  su_InvalidCommand_NoFit : PySem.W.subIn K (.ref E_InvalidCommand) (.ref E_NoFit) = some false
  su_InvalidCommand_NoLot : PySem.W.subIn K (.ref E_InvalidCommand) (.ref E_NoLot) = some false
  su_InvalidCommand_NoTurning : PySem.W.subIn K (.ref E_InvalidCommand) (.ref E_NoTurning) = some false
  su_InvalidCommand_NoWheel : PySem.W.subIn K (.ref E_InvalidCommand) (.ref E_NoWheel) = some false
  su_InvalidCommand_Refused : PySem.W.subIn K (.ref E_InvalidCommand) (.ref E_Refused) = some false
  su_InvalidCommand_TurnError : PySem.W.subIn K (.ref E_InvalidCommand) (.ref E_TurnError) = some true
  su_InvalidDays_InvalidCommand : PySem.W.subIn K (.ref E_InvalidDays) (.ref E_InvalidCommand) = some false
  su_InvalidDays_InvalidDays : PySem.W.subIn K (.ref E_InvalidDays) (.ref E_InvalidDays) = some true
  su_InvalidDays_InvalidMisses : PySem.W.subIn K (.ref E_InvalidDays) (.ref E_InvalidMisses) = some false
  su_InvalidDays_InvalidRota : PySem.W.subIn K (.ref E_InvalidDays) (.ref E_InvalidRota) = some false
  su_InvalidDays_InvalidSeason : PySem.W.subIn K (.ref E_InvalidDays) (.ref E_InvalidSeason) = some false
  su_InvalidDays_InvalidText : PySem.W.subIn K (.ref E_InvalidDays) (.ref E_InvalidText) = some false
  su_InvalidDays_NoFit : PySem.W.subIn K (.ref E_InvalidDays) (.ref E_NoFit) = some false
  su_InvalidDays_NoLot : PySem.W.subIn K (.ref E_InvalidDays) (.ref E_NoLot) = some false
  su_InvalidDays_NoTurning : PySem.W.subIn K (.ref E_InvalidDays) (.ref E_NoTurning) = some false
  su_InvalidDays_NoWheel : PySem.W.subIn K (.ref E_InvalidDays) (.ref E_NoWheel) = some false
  su_InvalidDays_Refused : PySem.W.subIn K (.ref E_InvalidDays) (.ref E_Refused) = some false
  su_InvalidDays_TurnError : PySem.W.subIn K (.ref E_InvalidDays) (.ref E_TurnError) = some true
  su_InvalidMisses_InvalidCommand : PySem.W.subIn K (.ref E_InvalidMisses) (.ref E_InvalidCommand) = some false
  su_InvalidMisses_InvalidDays : PySem.W.subIn K (.ref E_InvalidMisses) (.ref E_InvalidDays) = some false
  su_InvalidMisses_InvalidMisses : PySem.W.subIn K (.ref E_InvalidMisses) (.ref E_InvalidMisses) = some true
  su_InvalidMisses_InvalidRota : PySem.W.subIn K (.ref E_InvalidMisses) (.ref E_InvalidRota) = some false
  su_InvalidMisses_InvalidSeason : PySem.W.subIn K (.ref E_InvalidMisses) (.ref E_InvalidSeason) = some false
  su_InvalidMisses_InvalidText : PySem.W.subIn K (.ref E_InvalidMisses) (.ref E_InvalidText) = some false
  su_InvalidMisses_NoFit : PySem.W.subIn K (.ref E_InvalidMisses) (.ref E_NoFit) = some false
  su_InvalidMisses_NoLot : PySem.W.subIn K (.ref E_InvalidMisses) (.ref E_NoLot) = some false
  su_InvalidMisses_NoTurning : PySem.W.subIn K (.ref E_InvalidMisses) (.ref E_NoTurning) = some false
  su_InvalidMisses_NoWheel : PySem.W.subIn K (.ref E_InvalidMisses) (.ref E_NoWheel) = some false
  su_InvalidMisses_Refused : PySem.W.subIn K (.ref E_InvalidMisses) (.ref E_Refused) = some false
  su_InvalidMisses_TurnError : PySem.W.subIn K (.ref E_InvalidMisses) (.ref E_TurnError) = some true
  su_InvalidRota_InvalidCommand : PySem.W.subIn K (.ref E_InvalidRota) (.ref E_InvalidCommand) = some false
  su_InvalidRota_InvalidDays : PySem.W.subIn K (.ref E_InvalidRota) (.ref E_InvalidDays) = some false
  su_InvalidRota_InvalidMisses : PySem.W.subIn K (.ref E_InvalidRota) (.ref E_InvalidMisses) = some false
  su_InvalidRota_InvalidRota : PySem.W.subIn K (.ref E_InvalidRota) (.ref E_InvalidRota) = some true
  su_InvalidRota_InvalidSeason : PySem.W.subIn K (.ref E_InvalidRota) (.ref E_InvalidSeason) = some false
  su_InvalidRota_InvalidText : PySem.W.subIn K (.ref E_InvalidRota) (.ref E_InvalidText) = some false
  su_InvalidRota_NoFit : PySem.W.subIn K (.ref E_InvalidRota) (.ref E_NoFit) = some false
  su_InvalidRota_NoLot : PySem.W.subIn K (.ref E_InvalidRota) (.ref E_NoLot) = some false
  su_InvalidRota_NoTurning : PySem.W.subIn K (.ref E_InvalidRota) (.ref E_NoTurning) = some false
  su_InvalidRota_NoWheel : PySem.W.subIn K (.ref E_InvalidRota) (.ref E_NoWheel) = some false
  su_InvalidRota_Refused : PySem.W.subIn K (.ref E_InvalidRota) (.ref E_Refused) = some false
  su_InvalidRota_TurnError : PySem.W.subIn K (.ref E_InvalidRota) (.ref E_TurnError) = some true
  su_InvalidSeason_InvalidCommand : PySem.W.subIn K (.ref E_InvalidSeason) (.ref E_InvalidCommand) = some false
  su_InvalidSeason_InvalidDays : PySem.W.subIn K (.ref E_InvalidSeason) (.ref E_InvalidDays) = some false
  su_InvalidSeason_InvalidMisses : PySem.W.subIn K (.ref E_InvalidSeason) (.ref E_InvalidMisses) = some false
  su_InvalidSeason_InvalidRota : PySem.W.subIn K (.ref E_InvalidSeason) (.ref E_InvalidRota) = some false
  su_InvalidSeason_InvalidSeason : PySem.W.subIn K (.ref E_InvalidSeason) (.ref E_InvalidSeason) = some true
  su_InvalidSeason_InvalidText : PySem.W.subIn K (.ref E_InvalidSeason) (.ref E_InvalidText) = some false
  su_InvalidSeason_NoFit : PySem.W.subIn K (.ref E_InvalidSeason) (.ref E_NoFit) = some false
  su_InvalidSeason_NoLot : PySem.W.subIn K (.ref E_InvalidSeason) (.ref E_NoLot) = some false
  su_InvalidSeason_NoTurning : PySem.W.subIn K (.ref E_InvalidSeason) (.ref E_NoTurning) = some false
  su_InvalidSeason_NoWheel : PySem.W.subIn K (.ref E_InvalidSeason) (.ref E_NoWheel) = some false
  su_InvalidSeason_Refused : PySem.W.subIn K (.ref E_InvalidSeason) (.ref E_Refused) = some false
  su_InvalidSeason_TurnError : PySem.W.subIn K (.ref E_InvalidSeason) (.ref E_TurnError) = some true
  su_InvalidText_InvalidCommand : PySem.W.subIn K (.ref E_InvalidText) (.ref E_InvalidCommand) = some false
  su_InvalidText_InvalidDays : PySem.W.subIn K (.ref E_InvalidText) (.ref E_InvalidDays) = some false
  su_InvalidText_InvalidMisses : PySem.W.subIn K (.ref E_InvalidText) (.ref E_InvalidMisses) = some false
  su_InvalidText_InvalidRota : PySem.W.subIn K (.ref E_InvalidText) (.ref E_InvalidRota) = some false
  su_InvalidText_InvalidSeason : PySem.W.subIn K (.ref E_InvalidText) (.ref E_InvalidSeason) = some false
  su_InvalidText_InvalidText : PySem.W.subIn K (.ref E_InvalidText) (.ref E_InvalidText) = some true
  su_InvalidText_NoFit : PySem.W.subIn K (.ref E_InvalidText) (.ref E_NoFit) = some false
  su_InvalidText_NoLot : PySem.W.subIn K (.ref E_InvalidText) (.ref E_NoLot) = some false
  su_InvalidText_NoTurning : PySem.W.subIn K (.ref E_InvalidText) (.ref E_NoTurning) = some false
  su_InvalidText_NoWheel : PySem.W.subIn K (.ref E_InvalidText) (.ref E_NoWheel) = some false
  su_InvalidText_Refused : PySem.W.subIn K (.ref E_InvalidText) (.ref E_Refused) = some false
  su_InvalidText_TurnError : PySem.W.subIn K (.ref E_InvalidText) (.ref E_TurnError) = some true
  su_NoFit_InvalidCommand : PySem.W.subIn K (.ref E_NoFit) (.ref E_InvalidCommand) = some false
  su_NoFit_InvalidDays : PySem.W.subIn K (.ref E_NoFit) (.ref E_InvalidDays) = some false
  su_NoFit_InvalidMisses : PySem.W.subIn K (.ref E_NoFit) (.ref E_InvalidMisses) = some false
  su_NoFit_InvalidRota : PySem.W.subIn K (.ref E_NoFit) (.ref E_InvalidRota) = some false
  su_NoFit_InvalidSeason : PySem.W.subIn K (.ref E_NoFit) (.ref E_InvalidSeason) = some false
  su_NoFit_InvalidText : PySem.W.subIn K (.ref E_NoFit) (.ref E_InvalidText) = some false
  su_NoFit_NoFit : PySem.W.subIn K (.ref E_NoFit) (.ref E_NoFit) = some true
  su_NoFit_NoLot : PySem.W.subIn K (.ref E_NoFit) (.ref E_NoLot) = some false
  su_NoFit_NoTurning : PySem.W.subIn K (.ref E_NoFit) (.ref E_NoTurning) = some false
  su_NoFit_NoWheel : PySem.W.subIn K (.ref E_NoFit) (.ref E_NoWheel) = some false
  su_NoFit_Refused : PySem.W.subIn K (.ref E_NoFit) (.ref E_Refused) = some false
  su_NoFit_TurnError : PySem.W.subIn K (.ref E_NoFit) (.ref E_TurnError) = some true
  su_NoLot_InvalidCommand : PySem.W.subIn K (.ref E_NoLot) (.ref E_InvalidCommand) = some false
  su_NoLot_InvalidDays : PySem.W.subIn K (.ref E_NoLot) (.ref E_InvalidDays) = some false
  su_NoLot_InvalidMisses : PySem.W.subIn K (.ref E_NoLot) (.ref E_InvalidMisses) = some false
  su_NoLot_InvalidRota : PySem.W.subIn K (.ref E_NoLot) (.ref E_InvalidRota) = some false
  su_NoLot_InvalidSeason : PySem.W.subIn K (.ref E_NoLot) (.ref E_InvalidSeason) = some false
  su_NoLot_InvalidText : PySem.W.subIn K (.ref E_NoLot) (.ref E_InvalidText) = some false
  su_NoLot_NoFit : PySem.W.subIn K (.ref E_NoLot) (.ref E_NoFit) = some false
  su_NoLot_NoLot : PySem.W.subIn K (.ref E_NoLot) (.ref E_NoLot) = some true
  su_NoLot_NoTurning : PySem.W.subIn K (.ref E_NoLot) (.ref E_NoTurning) = some false
  su_NoLot_NoWheel : PySem.W.subIn K (.ref E_NoLot) (.ref E_NoWheel) = some false
  su_NoLot_Refused : PySem.W.subIn K (.ref E_NoLot) (.ref E_Refused) = some false
  su_NoLot_TurnError : PySem.W.subIn K (.ref E_NoLot) (.ref E_TurnError) = some true
  su_NoTurning_InvalidCommand : PySem.W.subIn K (.ref E_NoTurning) (.ref E_InvalidCommand) = some false
  su_NoTurning_InvalidDays : PySem.W.subIn K (.ref E_NoTurning) (.ref E_InvalidDays) = some false
  su_NoTurning_InvalidMisses : PySem.W.subIn K (.ref E_NoTurning) (.ref E_InvalidMisses) = some false
  su_NoTurning_InvalidRota : PySem.W.subIn K (.ref E_NoTurning) (.ref E_InvalidRota) = some false
  su_NoTurning_InvalidSeason : PySem.W.subIn K (.ref E_NoTurning) (.ref E_InvalidSeason) = some false
  su_NoTurning_InvalidText : PySem.W.subIn K (.ref E_NoTurning) (.ref E_InvalidText) = some false
  su_NoTurning_NoFit : PySem.W.subIn K (.ref E_NoTurning) (.ref E_NoFit) = some false
  su_NoTurning_NoLot : PySem.W.subIn K (.ref E_NoTurning) (.ref E_NoLot) = some false
  su_NoTurning_NoTurning : PySem.W.subIn K (.ref E_NoTurning) (.ref E_NoTurning) = some true
  su_NoTurning_NoWheel : PySem.W.subIn K (.ref E_NoTurning) (.ref E_NoWheel) = some false
  su_NoTurning_Refused : PySem.W.subIn K (.ref E_NoTurning) (.ref E_Refused) = some false
  su_NoTurning_TurnError : PySem.W.subIn K (.ref E_NoTurning) (.ref E_TurnError) = some true
  su_NoWheel_InvalidCommand : PySem.W.subIn K (.ref E_NoWheel) (.ref E_InvalidCommand) = some false
  su_NoWheel_InvalidDays : PySem.W.subIn K (.ref E_NoWheel) (.ref E_InvalidDays) = some false
  su_NoWheel_InvalidMisses : PySem.W.subIn K (.ref E_NoWheel) (.ref E_InvalidMisses) = some false
  su_NoWheel_InvalidRota : PySem.W.subIn K (.ref E_NoWheel) (.ref E_InvalidRota) = some false
  su_NoWheel_InvalidSeason : PySem.W.subIn K (.ref E_NoWheel) (.ref E_InvalidSeason) = some false
  su_NoWheel_InvalidText : PySem.W.subIn K (.ref E_NoWheel) (.ref E_InvalidText) = some false
  su_NoWheel_NoFit : PySem.W.subIn K (.ref E_NoWheel) (.ref E_NoFit) = some false
  su_NoWheel_NoLot : PySem.W.subIn K (.ref E_NoWheel) (.ref E_NoLot) = some false
  su_NoWheel_NoTurning : PySem.W.subIn K (.ref E_NoWheel) (.ref E_NoTurning) = some false
  su_NoWheel_NoWheel : PySem.W.subIn K (.ref E_NoWheel) (.ref E_NoWheel) = some true
  su_NoWheel_Refused : PySem.W.subIn K (.ref E_NoWheel) (.ref E_Refused) = some false
  su_NoWheel_TurnError : PySem.W.subIn K (.ref E_NoWheel) (.ref E_TurnError) = some true
  su_Refused_InvalidCommand : PySem.W.subIn K (.ref E_Refused) (.ref E_InvalidCommand) = some false
  su_Refused_InvalidDays : PySem.W.subIn K (.ref E_Refused) (.ref E_InvalidDays) = some false
  su_Refused_InvalidMisses : PySem.W.subIn K (.ref E_Refused) (.ref E_InvalidMisses) = some false
  su_Refused_InvalidRota : PySem.W.subIn K (.ref E_Refused) (.ref E_InvalidRota) = some false
  su_Refused_InvalidSeason : PySem.W.subIn K (.ref E_Refused) (.ref E_InvalidSeason) = some false
  su_Refused_InvalidText : PySem.W.subIn K (.ref E_Refused) (.ref E_InvalidText) = some false
  su_Refused_NoFit : PySem.W.subIn K (.ref E_Refused) (.ref E_NoFit) = some false
  su_Refused_NoLot : PySem.W.subIn K (.ref E_Refused) (.ref E_NoLot) = some false
  su_Refused_NoTurning : PySem.W.subIn K (.ref E_Refused) (.ref E_NoTurning) = some false
  su_Refused_NoWheel : PySem.W.subIn K (.ref E_Refused) (.ref E_NoWheel) = some false
  su_Refused_Refused : PySem.W.subIn K (.ref E_Refused) (.ref E_Refused) = some true
  su_Refused_TurnError : PySem.W.subIn K (.ref E_Refused) (.ref E_TurnError) = some true
  f_InvalidRota_init : Addr
  fd_InvalidRota_init : FuncData
  F_InvalidRota_init : Fun K "__init__" "InvalidRota.__init__" s_InvalidRota_init f_InvalidRota_init fd_InvalidRota_init
  b_InvalidRota_init : Binds K fd_InvalidRota_init ["self", "word"] []
  er_InvalidRota : Err K mg "InvalidRota" E_InvalidRota f_InvalidRota_init
  na_InvalidRota : PySem.W.findIn K (.ref E_InvalidRota) "word" = some none
  ve_InvalidRota : PySem.W.subIn K (.ref E_InvalidRota) (.type "ValueError") = some true
  f_InvalidText_init : Addr
  fd_InvalidText_init : FuncData
  F_InvalidText_init : Fun K "__init__" "InvalidText.__init__" s_InvalidText_init f_InvalidText_init fd_InvalidText_init
  b_InvalidText_init : Binds K fd_InvalidText_init ["self", "at"] []
  er_InvalidText : Err K mg "InvalidText" E_InvalidText f_InvalidText_init
  na_InvalidText : PySem.W.findIn K (.ref E_InvalidText) "at" = some none
  ve_InvalidText : PySem.W.subIn K (.ref E_InvalidText) (.type "ValueError") = some true
  f_InvalidSeason_init : Addr
  fd_InvalidSeason_init : FuncData
  F_InvalidSeason_init : Fun K "__init__" "InvalidSeason.__init__" s_InvalidSeason_init f_InvalidSeason_init fd_InvalidSeason_init
  b_InvalidSeason_init : Binds K fd_InvalidSeason_init ["self", "word"] []
  er_InvalidSeason : Err K mg "InvalidSeason" E_InvalidSeason f_InvalidSeason_init
  na_InvalidSeason : PySem.W.findIn K (.ref E_InvalidSeason) "word" = some none
  ve_InvalidSeason : PySem.W.subIn K (.ref E_InvalidSeason) (.type "ValueError") = some true
  f_InvalidMisses_init : Addr
  fd_InvalidMisses_init : FuncData
  F_InvalidMisses_init : Fun K "__init__" "InvalidMisses.__init__" s_InvalidMisses_init f_InvalidMisses_init fd_InvalidMisses_init
  b_InvalidMisses_init : Binds K fd_InvalidMisses_init ["self", "at"] []
  er_InvalidMisses : Err K mg "InvalidMisses" E_InvalidMisses f_InvalidMisses_init
  na_InvalidMisses : PySem.W.findIn K (.ref E_InvalidMisses) "at" = some none
  ve_InvalidMisses : PySem.W.subIn K (.ref E_InvalidMisses) (.type "ValueError") = some true
  f_InvalidDays_init : Addr
  fd_InvalidDays_init : FuncData
  F_InvalidDays_init : Fun K "__init__" "InvalidDays.__init__" s_InvalidDays_init f_InvalidDays_init fd_InvalidDays_init
  b_InvalidDays_init : Binds K fd_InvalidDays_init ["self", "at"] []
  er_InvalidDays : Err K mg "InvalidDays" E_InvalidDays f_InvalidDays_init
  na_InvalidDays : PySem.W.findIn K (.ref E_InvalidDays) "at" = some none
  ve_InvalidDays : PySem.W.subIn K (.ref E_InvalidDays) (.type "ValueError") = some true
  f_NoWheel_init : Addr
  fd_NoWheel_init : FuncData
  F_NoWheel_init : Fun K "__init__" "NoWheel.__init__" s_NoWheel_init f_NoWheel_init fd_NoWheel_init
  b_NoWheel_init : Binds K fd_NoWheel_init ["self", "value"] []
  er_NoWheel : Err K mg "NoWheel" E_NoWheel f_NoWheel_init
  na_NoWheel : PySem.W.findIn K (.ref E_NoWheel) "value" = some none
  ve_NoWheel : PySem.W.subIn K (.ref E_NoWheel) (.type "ValueError") = some true
  f_NoTurning_init : Addr
  fd_NoTurning_init : FuncData
  F_NoTurning_init : Fun K "__init__" "NoTurning.__init__" s_NoTurning_init f_NoTurning_init fd_NoTurning_init
  b_NoTurning_init : Binds K fd_NoTurning_init ["self", "day"] []
  er_NoTurning : Err K mg "NoTurning" E_NoTurning f_NoTurning_init
  na_NoTurning : PySem.W.findIn K (.ref E_NoTurning) "day" = some none
  ve_NoTurning : PySem.W.subIn K (.ref E_NoTurning) (.type "ValueError") = some true
  f_NoLot_init : Addr
  fd_NoLot_init : FuncData
  F_NoLot_init : Fun K "__init__" "NoLot.__init__" s_NoLot_init f_NoLot_init fd_NoLot_init
  b_NoLot_init : Binds K fd_NoLot_init ["self", "at"] []
  er_NoLot : Err K mg "NoLot" E_NoLot f_NoLot_init
  na_NoLot : PySem.W.findIn K (.ref E_NoLot) "at" = some none
  ve_NoLot : PySem.W.subIn K (.ref E_NoLot) (.type "ValueError") = some true
  f_Refused_init : Addr
  fd_Refused_init : FuncData
  F_Refused_init : Fun K "__init__" "Refused.__init__" s_Refused_init f_Refused_init fd_Refused_init
  b_Refused_init : Binds K fd_Refused_init ["self", "value"] []
  er_Refused : Err K mg "Refused" E_Refused f_Refused_init
  na_Refused : PySem.W.findIn K (.ref E_Refused) "value" = some none
  ve_Refused : PySem.W.subIn K (.ref E_Refused) (.type "ValueError") = some true
  f_NoFit_init : Addr
  fd_NoFit_init : FuncData
  F_NoFit_init : Fun K "__init__" "NoFit.__init__" s_NoFit_init f_NoFit_init fd_NoFit_init
  b_NoFit_init : Binds K fd_NoFit_init ["self"] []
  er_NoFit : Err K mg "NoFit" E_NoFit f_NoFit_init
  ve_NoFit : PySem.W.subIn K (.ref E_NoFit) (.type "ValueError") = some true
  f_InvalidCommand_init : Addr
  fd_InvalidCommand_init : FuncData
  F_InvalidCommand_init : Fun K "__init__" "InvalidCommand.__init__" s_InvalidCommand_init f_InvalidCommand_init fd_InvalidCommand_init
  b_InvalidCommand_init : Binds K fd_InvalidCommand_init ["self"] []
  er_InvalidCommand : Err K mg "InvalidCommand" E_InvalidCommand f_InvalidCommand_init
  ve_InvalidCommand : PySem.W.subIn K (.ref E_InvalidCommand) (.type "ValueError") = some true
  R_TurnError : Addr
  rg_TurnError : mg "TurnError" = some (.ref R_TurnError)
  rt_TurnError : Root K R_TurnError
def Dfs.cl {K : PySem.W.Frag} {mg : Str → Option Value} (D : Dfs K mg) : Nat → Option (Addr × List Str)
  | 20 => some (D.E_InvalidRota, ["word"])
  | 21 => some (D.E_InvalidText, ["at"])
  | 22 => some (D.E_InvalidSeason, ["word"])
  | 23 => some (D.E_InvalidMisses, ["at"])
  | 24 => some (D.E_InvalidDays, ["at"])
  | 26 => some (D.E_NoWheel, ["value"])
  | 27 => some (D.E_NoTurning, ["day"])
  | 29 => some (D.E_NoLot, ["at"])
  | 30 => some (D.E_Refused, ["value"])
  | 28 => some (D.E_NoFit, [])
  | 25 => some (D.E_InvalidCommand, [])
  | _ => none
abbrev exvs : List Nat := [20, 21, 22, 23, 24, 26, 27, 29, 30, 28, 25]
theorem isv_InvalidRota {K : PySem.W.Frag} {mg : Str → Option Value} (D : Dfs K mg) : ∀ c ∈ exvs, ∀ C ns, D.cl c = some (C, ns) → ExcC K C ∧ PySem.W.kitOne K (.ref C) (.ref D.E_InvalidRota) = some (decide (c = 20)) := fun c hc C ns h => by
  simp only [exvs, List.mem_cons, List.not_mem_nil, or_false] at hc
  rcases hc with rfl | rfl | rfl | rfl | rfl | rfl | rfl | rfl | rfl | rfl | rfl
  · cases h; exact ⟨D.er_InvalidRota.exc, D.kl_InvalidRota.kit D.su_InvalidRota_InvalidRota⟩
  · cases h; exact ⟨D.er_InvalidText.exc, D.kl_InvalidRota.kit D.su_InvalidText_InvalidRota⟩
  · cases h; exact ⟨D.er_InvalidSeason.exc, D.kl_InvalidRota.kit D.su_InvalidSeason_InvalidRota⟩
  · cases h; exact ⟨D.er_InvalidMisses.exc, D.kl_InvalidRota.kit D.su_InvalidMisses_InvalidRota⟩
  · cases h; exact ⟨D.er_InvalidDays.exc, D.kl_InvalidRota.kit D.su_InvalidDays_InvalidRota⟩
  · cases h; exact ⟨D.er_NoWheel.exc, D.kl_InvalidRota.kit D.su_NoWheel_InvalidRota⟩
  · cases h; exact ⟨D.er_NoTurning.exc, D.kl_InvalidRota.kit D.su_NoTurning_InvalidRota⟩
  · cases h; exact ⟨D.er_NoLot.exc, D.kl_InvalidRota.kit D.su_NoLot_InvalidRota⟩
  · cases h; exact ⟨D.er_Refused.exc, D.kl_InvalidRota.kit D.su_Refused_InvalidRota⟩
  · cases h; exact ⟨D.er_NoFit.exc, D.kl_InvalidRota.kit D.su_NoFit_InvalidRota⟩
  · cases h; exact ⟨D.er_InvalidCommand.exc, D.kl_InvalidRota.kit D.su_InvalidCommand_InvalidRota⟩
theorem isv_InvalidText {K : PySem.W.Frag} {mg : Str → Option Value} (D : Dfs K mg) : ∀ c ∈ exvs, ∀ C ns, D.cl c = some (C, ns) → ExcC K C ∧ PySem.W.kitOne K (.ref C) (.ref D.E_InvalidText) = some (decide (c = 21)) := fun c hc C ns h => by
  simp only [exvs, List.mem_cons, List.not_mem_nil, or_false] at hc
  rcases hc with rfl | rfl | rfl | rfl | rfl | rfl | rfl | rfl | rfl | rfl | rfl
  · cases h; exact ⟨D.er_InvalidRota.exc, D.kl_InvalidText.kit D.su_InvalidRota_InvalidText⟩
  · cases h; exact ⟨D.er_InvalidText.exc, D.kl_InvalidText.kit D.su_InvalidText_InvalidText⟩
  · cases h; exact ⟨D.er_InvalidSeason.exc, D.kl_InvalidText.kit D.su_InvalidSeason_InvalidText⟩
  · cases h; exact ⟨D.er_InvalidMisses.exc, D.kl_InvalidText.kit D.su_InvalidMisses_InvalidText⟩
  · cases h; exact ⟨D.er_InvalidDays.exc, D.kl_InvalidText.kit D.su_InvalidDays_InvalidText⟩
  · cases h; exact ⟨D.er_NoWheel.exc, D.kl_InvalidText.kit D.su_NoWheel_InvalidText⟩
  · cases h; exact ⟨D.er_NoTurning.exc, D.kl_InvalidText.kit D.su_NoTurning_InvalidText⟩
  · cases h; exact ⟨D.er_NoLot.exc, D.kl_InvalidText.kit D.su_NoLot_InvalidText⟩
  · cases h; exact ⟨D.er_Refused.exc, D.kl_InvalidText.kit D.su_Refused_InvalidText⟩
  · cases h; exact ⟨D.er_NoFit.exc, D.kl_InvalidText.kit D.su_NoFit_InvalidText⟩
  · cases h; exact ⟨D.er_InvalidCommand.exc, D.kl_InvalidText.kit D.su_InvalidCommand_InvalidText⟩
theorem isv_InvalidSeason {K : PySem.W.Frag} {mg : Str → Option Value} (D : Dfs K mg) : ∀ c ∈ exvs, ∀ C ns, D.cl c = some (C, ns) → ExcC K C ∧ PySem.W.kitOne K (.ref C) (.ref D.E_InvalidSeason) = some (decide (c = 22)) := fun c hc C ns h => by
  simp only [exvs, List.mem_cons, List.not_mem_nil, or_false] at hc
  rcases hc with rfl | rfl | rfl | rfl | rfl | rfl | rfl | rfl | rfl | rfl | rfl
  · cases h; exact ⟨D.er_InvalidRota.exc, D.kl_InvalidSeason.kit D.su_InvalidRota_InvalidSeason⟩
  · cases h; exact ⟨D.er_InvalidText.exc, D.kl_InvalidSeason.kit D.su_InvalidText_InvalidSeason⟩
  · cases h; exact ⟨D.er_InvalidSeason.exc, D.kl_InvalidSeason.kit D.su_InvalidSeason_InvalidSeason⟩
  · cases h; exact ⟨D.er_InvalidMisses.exc, D.kl_InvalidSeason.kit D.su_InvalidMisses_InvalidSeason⟩
  · cases h; exact ⟨D.er_InvalidDays.exc, D.kl_InvalidSeason.kit D.su_InvalidDays_InvalidSeason⟩
  · cases h; exact ⟨D.er_NoWheel.exc, D.kl_InvalidSeason.kit D.su_NoWheel_InvalidSeason⟩
  · cases h; exact ⟨D.er_NoTurning.exc, D.kl_InvalidSeason.kit D.su_NoTurning_InvalidSeason⟩
  · cases h; exact ⟨D.er_NoLot.exc, D.kl_InvalidSeason.kit D.su_NoLot_InvalidSeason⟩
  · cases h; exact ⟨D.er_Refused.exc, D.kl_InvalidSeason.kit D.su_Refused_InvalidSeason⟩
  · cases h; exact ⟨D.er_NoFit.exc, D.kl_InvalidSeason.kit D.su_NoFit_InvalidSeason⟩
  · cases h; exact ⟨D.er_InvalidCommand.exc, D.kl_InvalidSeason.kit D.su_InvalidCommand_InvalidSeason⟩
theorem isv_InvalidMisses {K : PySem.W.Frag} {mg : Str → Option Value} (D : Dfs K mg) : ∀ c ∈ exvs, ∀ C ns, D.cl c = some (C, ns) → ExcC K C ∧ PySem.W.kitOne K (.ref C) (.ref D.E_InvalidMisses) = some (decide (c = 23)) := fun c hc C ns h => by
  simp only [exvs, List.mem_cons, List.not_mem_nil, or_false] at hc
  rcases hc with rfl | rfl | rfl | rfl | rfl | rfl | rfl | rfl | rfl | rfl | rfl
  · cases h; exact ⟨D.er_InvalidRota.exc, D.kl_InvalidMisses.kit D.su_InvalidRota_InvalidMisses⟩
  · cases h; exact ⟨D.er_InvalidText.exc, D.kl_InvalidMisses.kit D.su_InvalidText_InvalidMisses⟩
  · cases h; exact ⟨D.er_InvalidSeason.exc, D.kl_InvalidMisses.kit D.su_InvalidSeason_InvalidMisses⟩
  · cases h; exact ⟨D.er_InvalidMisses.exc, D.kl_InvalidMisses.kit D.su_InvalidMisses_InvalidMisses⟩
  · cases h; exact ⟨D.er_InvalidDays.exc, D.kl_InvalidMisses.kit D.su_InvalidDays_InvalidMisses⟩
  · cases h; exact ⟨D.er_NoWheel.exc, D.kl_InvalidMisses.kit D.su_NoWheel_InvalidMisses⟩
  · cases h; exact ⟨D.er_NoTurning.exc, D.kl_InvalidMisses.kit D.su_NoTurning_InvalidMisses⟩
  · cases h; exact ⟨D.er_NoLot.exc, D.kl_InvalidMisses.kit D.su_NoLot_InvalidMisses⟩
  · cases h; exact ⟨D.er_Refused.exc, D.kl_InvalidMisses.kit D.su_Refused_InvalidMisses⟩
  · cases h; exact ⟨D.er_NoFit.exc, D.kl_InvalidMisses.kit D.su_NoFit_InvalidMisses⟩
  · cases h; exact ⟨D.er_InvalidCommand.exc, D.kl_InvalidMisses.kit D.su_InvalidCommand_InvalidMisses⟩
theorem isv_InvalidDays {K : PySem.W.Frag} {mg : Str → Option Value} (D : Dfs K mg) : ∀ c ∈ exvs, ∀ C ns, D.cl c = some (C, ns) → ExcC K C ∧ PySem.W.kitOne K (.ref C) (.ref D.E_InvalidDays) = some (decide (c = 24)) := fun c hc C ns h => by
  simp only [exvs, List.mem_cons, List.not_mem_nil, or_false] at hc
  rcases hc with rfl | rfl | rfl | rfl | rfl | rfl | rfl | rfl | rfl | rfl | rfl
  · cases h; exact ⟨D.er_InvalidRota.exc, D.kl_InvalidDays.kit D.su_InvalidRota_InvalidDays⟩
  · cases h; exact ⟨D.er_InvalidText.exc, D.kl_InvalidDays.kit D.su_InvalidText_InvalidDays⟩
  · cases h; exact ⟨D.er_InvalidSeason.exc, D.kl_InvalidDays.kit D.su_InvalidSeason_InvalidDays⟩
  · cases h; exact ⟨D.er_InvalidMisses.exc, D.kl_InvalidDays.kit D.su_InvalidMisses_InvalidDays⟩
  · cases h; exact ⟨D.er_InvalidDays.exc, D.kl_InvalidDays.kit D.su_InvalidDays_InvalidDays⟩
  · cases h; exact ⟨D.er_NoWheel.exc, D.kl_InvalidDays.kit D.su_NoWheel_InvalidDays⟩
  · cases h; exact ⟨D.er_NoTurning.exc, D.kl_InvalidDays.kit D.su_NoTurning_InvalidDays⟩
  · cases h; exact ⟨D.er_NoLot.exc, D.kl_InvalidDays.kit D.su_NoLot_InvalidDays⟩
  · cases h; exact ⟨D.er_Refused.exc, D.kl_InvalidDays.kit D.su_Refused_InvalidDays⟩
  · cases h; exact ⟨D.er_NoFit.exc, D.kl_InvalidDays.kit D.su_NoFit_InvalidDays⟩
  · cases h; exact ⟨D.er_InvalidCommand.exc, D.kl_InvalidDays.kit D.su_InvalidCommand_InvalidDays⟩
theorem isv_NoWheel {K : PySem.W.Frag} {mg : Str → Option Value} (D : Dfs K mg) : ∀ c ∈ exvs, ∀ C ns, D.cl c = some (C, ns) → ExcC K C ∧ PySem.W.kitOne K (.ref C) (.ref D.E_NoWheel) = some (decide (c = 26)) := fun c hc C ns h => by
  simp only [exvs, List.mem_cons, List.not_mem_nil, or_false] at hc
  rcases hc with rfl | rfl | rfl | rfl | rfl | rfl | rfl | rfl | rfl | rfl | rfl
  · cases h; exact ⟨D.er_InvalidRota.exc, D.kl_NoWheel.kit D.su_InvalidRota_NoWheel⟩
  · cases h; exact ⟨D.er_InvalidText.exc, D.kl_NoWheel.kit D.su_InvalidText_NoWheel⟩
  · cases h; exact ⟨D.er_InvalidSeason.exc, D.kl_NoWheel.kit D.su_InvalidSeason_NoWheel⟩
  · cases h; exact ⟨D.er_InvalidMisses.exc, D.kl_NoWheel.kit D.su_InvalidMisses_NoWheel⟩
  · cases h; exact ⟨D.er_InvalidDays.exc, D.kl_NoWheel.kit D.su_InvalidDays_NoWheel⟩
  · cases h; exact ⟨D.er_NoWheel.exc, D.kl_NoWheel.kit D.su_NoWheel_NoWheel⟩
  · cases h; exact ⟨D.er_NoTurning.exc, D.kl_NoWheel.kit D.su_NoTurning_NoWheel⟩
  · cases h; exact ⟨D.er_NoLot.exc, D.kl_NoWheel.kit D.su_NoLot_NoWheel⟩
  · cases h; exact ⟨D.er_Refused.exc, D.kl_NoWheel.kit D.su_Refused_NoWheel⟩
  · cases h; exact ⟨D.er_NoFit.exc, D.kl_NoWheel.kit D.su_NoFit_NoWheel⟩
  · cases h; exact ⟨D.er_InvalidCommand.exc, D.kl_NoWheel.kit D.su_InvalidCommand_NoWheel⟩
theorem isv_NoTurning {K : PySem.W.Frag} {mg : Str → Option Value} (D : Dfs K mg) : ∀ c ∈ exvs, ∀ C ns, D.cl c = some (C, ns) → ExcC K C ∧ PySem.W.kitOne K (.ref C) (.ref D.E_NoTurning) = some (decide (c = 27)) := fun c hc C ns h => by
  simp only [exvs, List.mem_cons, List.not_mem_nil, or_false] at hc
  rcases hc with rfl | rfl | rfl | rfl | rfl | rfl | rfl | rfl | rfl | rfl | rfl
  · cases h; exact ⟨D.er_InvalidRota.exc, D.kl_NoTurning.kit D.su_InvalidRota_NoTurning⟩
  · cases h; exact ⟨D.er_InvalidText.exc, D.kl_NoTurning.kit D.su_InvalidText_NoTurning⟩
  · cases h; exact ⟨D.er_InvalidSeason.exc, D.kl_NoTurning.kit D.su_InvalidSeason_NoTurning⟩
  · cases h; exact ⟨D.er_InvalidMisses.exc, D.kl_NoTurning.kit D.su_InvalidMisses_NoTurning⟩
  · cases h; exact ⟨D.er_InvalidDays.exc, D.kl_NoTurning.kit D.su_InvalidDays_NoTurning⟩
  · cases h; exact ⟨D.er_NoWheel.exc, D.kl_NoTurning.kit D.su_NoWheel_NoTurning⟩
  · cases h; exact ⟨D.er_NoTurning.exc, D.kl_NoTurning.kit D.su_NoTurning_NoTurning⟩
  · cases h; exact ⟨D.er_NoLot.exc, D.kl_NoTurning.kit D.su_NoLot_NoTurning⟩
  · cases h; exact ⟨D.er_Refused.exc, D.kl_NoTurning.kit D.su_Refused_NoTurning⟩
  · cases h; exact ⟨D.er_NoFit.exc, D.kl_NoTurning.kit D.su_NoFit_NoTurning⟩
  · cases h; exact ⟨D.er_InvalidCommand.exc, D.kl_NoTurning.kit D.su_InvalidCommand_NoTurning⟩
theorem isv_NoLot {K : PySem.W.Frag} {mg : Str → Option Value} (D : Dfs K mg) : ∀ c ∈ exvs, ∀ C ns, D.cl c = some (C, ns) → ExcC K C ∧ PySem.W.kitOne K (.ref C) (.ref D.E_NoLot) = some (decide (c = 29)) := fun c hc C ns h => by
  simp only [exvs, List.mem_cons, List.not_mem_nil, or_false] at hc
  rcases hc with rfl | rfl | rfl | rfl | rfl | rfl | rfl | rfl | rfl | rfl | rfl
  · cases h; exact ⟨D.er_InvalidRota.exc, D.kl_NoLot.kit D.su_InvalidRota_NoLot⟩
  · cases h; exact ⟨D.er_InvalidText.exc, D.kl_NoLot.kit D.su_InvalidText_NoLot⟩
  · cases h; exact ⟨D.er_InvalidSeason.exc, D.kl_NoLot.kit D.su_InvalidSeason_NoLot⟩
  · cases h; exact ⟨D.er_InvalidMisses.exc, D.kl_NoLot.kit D.su_InvalidMisses_NoLot⟩
  · cases h; exact ⟨D.er_InvalidDays.exc, D.kl_NoLot.kit D.su_InvalidDays_NoLot⟩
  · cases h; exact ⟨D.er_NoWheel.exc, D.kl_NoLot.kit D.su_NoWheel_NoLot⟩
  · cases h; exact ⟨D.er_NoTurning.exc, D.kl_NoLot.kit D.su_NoTurning_NoLot⟩
  · cases h; exact ⟨D.er_NoLot.exc, D.kl_NoLot.kit D.su_NoLot_NoLot⟩
  · cases h; exact ⟨D.er_Refused.exc, D.kl_NoLot.kit D.su_Refused_NoLot⟩
  · cases h; exact ⟨D.er_NoFit.exc, D.kl_NoLot.kit D.su_NoFit_NoLot⟩
  · cases h; exact ⟨D.er_InvalidCommand.exc, D.kl_NoLot.kit D.su_InvalidCommand_NoLot⟩
theorem isv_Refused {K : PySem.W.Frag} {mg : Str → Option Value} (D : Dfs K mg) : ∀ c ∈ exvs, ∀ C ns, D.cl c = some (C, ns) → ExcC K C ∧ PySem.W.kitOne K (.ref C) (.ref D.E_Refused) = some (decide (c = 30)) := fun c hc C ns h => by
  simp only [exvs, List.mem_cons, List.not_mem_nil, or_false] at hc
  rcases hc with rfl | rfl | rfl | rfl | rfl | rfl | rfl | rfl | rfl | rfl | rfl
  · cases h; exact ⟨D.er_InvalidRota.exc, D.kl_Refused.kit D.su_InvalidRota_Refused⟩
  · cases h; exact ⟨D.er_InvalidText.exc, D.kl_Refused.kit D.su_InvalidText_Refused⟩
  · cases h; exact ⟨D.er_InvalidSeason.exc, D.kl_Refused.kit D.su_InvalidSeason_Refused⟩
  · cases h; exact ⟨D.er_InvalidMisses.exc, D.kl_Refused.kit D.su_InvalidMisses_Refused⟩
  · cases h; exact ⟨D.er_InvalidDays.exc, D.kl_Refused.kit D.su_InvalidDays_Refused⟩
  · cases h; exact ⟨D.er_NoWheel.exc, D.kl_Refused.kit D.su_NoWheel_Refused⟩
  · cases h; exact ⟨D.er_NoTurning.exc, D.kl_Refused.kit D.su_NoTurning_Refused⟩
  · cases h; exact ⟨D.er_NoLot.exc, D.kl_Refused.kit D.su_NoLot_Refused⟩
  · cases h; exact ⟨D.er_Refused.exc, D.kl_Refused.kit D.su_Refused_Refused⟩
  · cases h; exact ⟨D.er_NoFit.exc, D.kl_Refused.kit D.su_NoFit_Refused⟩
  · cases h; exact ⟨D.er_InvalidCommand.exc, D.kl_Refused.kit D.su_InvalidCommand_Refused⟩
theorem isv_NoFit {K : PySem.W.Frag} {mg : Str → Option Value} (D : Dfs K mg) : ∀ c ∈ exvs, ∀ C ns, D.cl c = some (C, ns) → ExcC K C ∧ PySem.W.kitOne K (.ref C) (.ref D.E_NoFit) = some (decide (c = 28)) := fun c hc C ns h => by
  simp only [exvs, List.mem_cons, List.not_mem_nil, or_false] at hc
  rcases hc with rfl | rfl | rfl | rfl | rfl | rfl | rfl | rfl | rfl | rfl | rfl
  · cases h; exact ⟨D.er_InvalidRota.exc, D.kl_NoFit.kit D.su_InvalidRota_NoFit⟩
  · cases h; exact ⟨D.er_InvalidText.exc, D.kl_NoFit.kit D.su_InvalidText_NoFit⟩
  · cases h; exact ⟨D.er_InvalidSeason.exc, D.kl_NoFit.kit D.su_InvalidSeason_NoFit⟩
  · cases h; exact ⟨D.er_InvalidMisses.exc, D.kl_NoFit.kit D.su_InvalidMisses_NoFit⟩
  · cases h; exact ⟨D.er_InvalidDays.exc, D.kl_NoFit.kit D.su_InvalidDays_NoFit⟩
  · cases h; exact ⟨D.er_NoWheel.exc, D.kl_NoFit.kit D.su_NoWheel_NoFit⟩
  · cases h; exact ⟨D.er_NoTurning.exc, D.kl_NoFit.kit D.su_NoTurning_NoFit⟩
  · cases h; exact ⟨D.er_NoLot.exc, D.kl_NoFit.kit D.su_NoLot_NoFit⟩
  · cases h; exact ⟨D.er_Refused.exc, D.kl_NoFit.kit D.su_Refused_NoFit⟩
  · cases h; exact ⟨D.er_NoFit.exc, D.kl_NoFit.kit D.su_NoFit_NoFit⟩
  · cases h; exact ⟨D.er_InvalidCommand.exc, D.kl_NoFit.kit D.su_InvalidCommand_NoFit⟩
theorem isv_InvalidCommand {K : PySem.W.Frag} {mg : Str → Option Value} (D : Dfs K mg) : ∀ c ∈ exvs, ∀ C ns, D.cl c = some (C, ns) → ExcC K C ∧ PySem.W.kitOne K (.ref C) (.ref D.E_InvalidCommand) = some (decide (c = 25)) := fun c hc C ns h => by
  simp only [exvs, List.mem_cons, List.not_mem_nil, or_false] at hc
  rcases hc with rfl | rfl | rfl | rfl | rfl | rfl | rfl | rfl | rfl | rfl | rfl
  · cases h; exact ⟨D.er_InvalidRota.exc, D.kl_InvalidCommand.kit D.su_InvalidRota_InvalidCommand⟩
  · cases h; exact ⟨D.er_InvalidText.exc, D.kl_InvalidCommand.kit D.su_InvalidText_InvalidCommand⟩
  · cases h; exact ⟨D.er_InvalidSeason.exc, D.kl_InvalidCommand.kit D.su_InvalidSeason_InvalidCommand⟩
  · cases h; exact ⟨D.er_InvalidMisses.exc, D.kl_InvalidCommand.kit D.su_InvalidMisses_InvalidCommand⟩
  · cases h; exact ⟨D.er_InvalidDays.exc, D.kl_InvalidCommand.kit D.su_InvalidDays_InvalidCommand⟩
  · cases h; exact ⟨D.er_NoWheel.exc, D.kl_InvalidCommand.kit D.su_NoWheel_InvalidCommand⟩
  · cases h; exact ⟨D.er_NoTurning.exc, D.kl_InvalidCommand.kit D.su_NoTurning_InvalidCommand⟩
  · cases h; exact ⟨D.er_NoLot.exc, D.kl_InvalidCommand.kit D.su_NoLot_InvalidCommand⟩
  · cases h; exact ⟨D.er_Refused.exc, D.kl_InvalidCommand.kit D.su_Refused_InvalidCommand⟩
  · cases h; exact ⟨D.er_NoFit.exc, D.kl_InvalidCommand.kit D.su_NoFit_InvalidCommand⟩
  · cases h; exact ⟨D.er_InvalidCommand.exc, D.kl_InvalidCommand.kit D.su_InvalidCommand_InvalidCommand⟩
theorem isv_TurnError {K : PySem.W.Frag} {mg : Str → Option Value} (D : Dfs K mg) : ∀ c ∈ exvs, ∀ C ns, D.cl c = some (C, ns) → ExcC K C ∧ PySem.W.kitOne K (.ref C) (.ref D.E_TurnError) = some true := fun c hc C ns h => by
  simp only [exvs, List.mem_cons, List.not_mem_nil, or_false] at hc
  rcases hc with rfl | rfl | rfl | rfl | rfl | rfl | rfl | rfl | rfl | rfl | rfl
  · cases h; exact ⟨D.er_InvalidRota.exc, D.kl_TurnError.kit D.su_InvalidRota_TurnError⟩
  · cases h; exact ⟨D.er_InvalidText.exc, D.kl_TurnError.kit D.su_InvalidText_TurnError⟩
  · cases h; exact ⟨D.er_InvalidSeason.exc, D.kl_TurnError.kit D.su_InvalidSeason_TurnError⟩
  · cases h; exact ⟨D.er_InvalidMisses.exc, D.kl_TurnError.kit D.su_InvalidMisses_TurnError⟩
  · cases h; exact ⟨D.er_InvalidDays.exc, D.kl_TurnError.kit D.su_InvalidDays_TurnError⟩
  · cases h; exact ⟨D.er_NoWheel.exc, D.kl_TurnError.kit D.su_NoWheel_TurnError⟩
  · cases h; exact ⟨D.er_NoTurning.exc, D.kl_TurnError.kit D.su_NoTurning_TurnError⟩
  · cases h; exact ⟨D.er_NoLot.exc, D.kl_TurnError.kit D.su_NoLot_TurnError⟩
  · cases h; exact ⟨D.er_Refused.exc, D.kl_TurnError.kit D.su_Refused_TurnError⟩
  · cases h; exact ⟨D.er_NoFit.exc, D.kl_TurnError.kit D.su_NoFit_TurnError⟩
  · cases h; exact ⟨D.er_InvalidCommand.exc, D.kl_TurnError.kit D.su_InvalidCommand_TurnError⟩
theorem isv_ValueError {K : PySem.W.Frag} {mg : Str → Option Value} (D : Dfs K mg) : ∀ c ∈ exvs, ∀ C ns, D.cl c = some (C, ns) → ExcC K C ∧ PySem.W.kitOne K (.ref C) (.type "ValueError") = some true := fun c hc C ns h => by
  simp only [exvs, List.mem_cons, List.not_mem_nil, or_false] at hc
  rcases hc with rfl | rfl | rfl | rfl | rfl | rfl | rfl | rfl | rfl | rfl | rfl
  · cases h; exact ⟨D.er_InvalidRota.exc, kit_ty D.ve_InvalidRota⟩
  · cases h; exact ⟨D.er_InvalidText.exc, kit_ty D.ve_InvalidText⟩
  · cases h; exact ⟨D.er_InvalidSeason.exc, kit_ty D.ve_InvalidSeason⟩
  · cases h; exact ⟨D.er_InvalidMisses.exc, kit_ty D.ve_InvalidMisses⟩
  · cases h; exact ⟨D.er_InvalidDays.exc, kit_ty D.ve_InvalidDays⟩
  · cases h; exact ⟨D.er_NoWheel.exc, kit_ty D.ve_NoWheel⟩
  · cases h; exact ⟨D.er_NoTurning.exc, kit_ty D.ve_NoTurning⟩
  · cases h; exact ⟨D.er_NoLot.exc, kit_ty D.ve_NoLot⟩
  · cases h; exact ⟨D.er_Refused.exc, kit_ty D.ve_Refused⟩
  · cases h; exact ⟨D.er_NoFit.exc, kit_ty D.ve_NoFit⟩
  · cases h; exact ⟨D.er_InvalidCommand.exc, kit_ty D.ve_InvalidCommand⟩
theorem xfv_word {K : PySem.W.Frag} {mg : Str → Option Value} (D : Dfs K mg) : ∀ c ∈ ([20, 22] : List Nat), ∀ C ns, D.cl c = some (C, ns) → ns = [("word" : Str)] ∧ XfC K C ∧ PySem.W.findIn K (.ref C) "word" = some none := fun c hc C ns h => by
  simp only [List.mem_cons, List.not_mem_nil, or_false] at hc
  rcases hc with rfl | rfl
  · cases h; exact ⟨rfl, D.er_InvalidRota.xf, D.na_InvalidRota⟩
  · cases h; exact ⟨rfl, D.er_InvalidSeason.xf, D.na_InvalidSeason⟩
theorem xfv_at {K : PySem.W.Frag} {mg : Str → Option Value} (D : Dfs K mg) : ∀ c ∈ ([21, 23, 24, 29] : List Nat), ∀ C ns, D.cl c = some (C, ns) → ns = [("at" : Str)] ∧ XfC K C ∧ PySem.W.findIn K (.ref C) "at" = some none := fun c hc C ns h => by
  simp only [List.mem_cons, List.not_mem_nil, or_false] at hc
  rcases hc with rfl | rfl | rfl | rfl
  · cases h; exact ⟨rfl, D.er_InvalidText.xf, D.na_InvalidText⟩
  · cases h; exact ⟨rfl, D.er_InvalidMisses.xf, D.na_InvalidMisses⟩
  · cases h; exact ⟨rfl, D.er_InvalidDays.xf, D.na_InvalidDays⟩
  · cases h; exact ⟨rfl, D.er_NoLot.xf, D.na_NoLot⟩
theorem xfv_value {K : PySem.W.Frag} {mg : Str → Option Value} (D : Dfs K mg) : ∀ c ∈ ([26, 30] : List Nat), ∀ C ns, D.cl c = some (C, ns) → ns = [("value" : Str)] ∧ XfC K C ∧ PySem.W.findIn K (.ref C) "value" = some none := fun c hc C ns h => by
  simp only [List.mem_cons, List.not_mem_nil, or_false] at hc
  rcases hc with rfl | rfl
  · cases h; exact ⟨rfl, D.er_NoWheel.xf, D.na_NoWheel⟩
  · cases h; exact ⟨rfl, D.er_Refused.xf, D.na_Refused⟩
theorem xfv_day {K : PySem.W.Frag} {mg : Str → Option Value} (D : Dfs K mg) : ∀ c ∈ ([27] : List Nat), ∀ C ns, D.cl c = some (C, ns) → ns = [("day" : Str)] ∧ XfC K C ∧ PySem.W.findIn K (.ref C) "day" = some none := fun c hc C ns h => by
  simp only [List.mem_cons, List.not_mem_nil, or_false] at hc
  rcases hc with rfl
  · cases h; exact ⟨rfl, D.er_NoTurning.xf, D.na_NoTurning⟩
section
variable {P : Program} {w : World} {K : PySem.W.Frag} {mg : Str → Option Value} {base : Heap}
theorem ok_InvalidRota_init (D : Dfs K mg) : FnOk P w K mg base (L2.CX P w) 1 D.f_InvalidRota_init D.fd_InvalidRota_init ["self", "word"] (spI D.E_InvalidRota "word") := err_init "arguments that make no rota" D.F_InvalidRota_init sc_InvalidRota_init D.er_InvalidRota.oex D.na_InvalidRota fun cdv A outer s H E => pss_cons (ps_expr (pe_rootInit D.rt_TurnError (by rfl) D.rg_TurnError (pa_cons (pv 0) (pa_cons pe_str pa_nil)))) (pss_one (ps_ost (pv 0) (pv 1)))
theorem ok_InvalidText_init (D : Dfs K mg) : FnOk P w K mg base (L2.CX P w) 1 D.f_InvalidText_init D.fd_InvalidText_init ["self", "at"] (spI D.E_InvalidText "at") := err_init "a text that cannot be read" D.F_InvalidText_init sc_InvalidText_init D.er_InvalidText.oex D.na_InvalidText fun cdv A outer s H E => pss_cons (ps_expr (pe_rootInit D.rt_TurnError (by rfl) D.rg_TurnError (pa_cons (pv 0) (pa_cons pe_str pa_nil)))) (pss_one (ps_ost (pv 0) (pv 1)))
theorem ok_InvalidSeason_init (D : Dfs K mg) : FnOk P w K mg base (L2.CX P w) 1 D.f_InvalidSeason_init D.fd_InvalidSeason_init ["self", "word"] (spI D.E_InvalidSeason "word") := err_init "arguments that make no season, or no harm" D.F_InvalidSeason_init sc_InvalidSeason_init D.er_InvalidSeason.oex D.na_InvalidSeason fun cdv A outer s H E => pss_cons (ps_expr (pe_rootInit D.rt_TurnError (by rfl) D.rg_TurnError (pa_cons (pv 0) (pa_cons pe_str pa_nil)))) (pss_one (ps_ost (pv 0) (pv 1)))
theorem ok_InvalidMisses_init (D : Dfs K mg) : FnOk P w K mg base (L2.CX P w) 1 D.f_InvalidMisses_init D.fd_InvalidMisses_init ["self", "at"] (spI D.E_InvalidMisses "at") := err_init "turnings that cannot be missed so" D.F_InvalidMisses_init sc_InvalidMisses_init D.er_InvalidMisses.oex D.na_InvalidMisses fun cdv A outer s H E => pss_cons (ps_expr (pe_rootInit D.rt_TurnError (by rfl) D.rg_TurnError (pa_cons (pv 0) (pa_cons pe_str pa_nil)))) (pss_one (ps_ost (pv 0) (pv 1)))
theorem ok_InvalidDays_init (D : Dfs K mg) : FnOk P w K mg base (L2.CX P w) 1 D.f_InvalidDays_init D.fd_InvalidDays_init ["self", "at"] (spI D.E_InvalidDays "at") := err_init "days that are none of a ring" D.F_InvalidDays_init sc_InvalidDays_init D.er_InvalidDays.oex D.na_InvalidDays fun cdv A outer s H E => pss_cons (ps_expr (pe_rootInit D.rt_TurnError (by rfl) D.rg_TurnError (pa_cons (pv 0) (pa_cons pe_str pa_nil)))) (pss_one (ps_ost (pv 0) (pv 1)))
theorem ok_NoWheel_init (D : Dfs K mg) : FnOk P w K mg base (L2.CX P w) 1 D.f_NoWheel_init D.fd_NoWheel_init ["self", "value"] (spI D.E_NoWheel "value") := err_init "a value that no wheel, or no place, has as its number" D.F_NoWheel_init sc_NoWheel_init D.er_NoWheel.oex D.na_NoWheel fun cdv A outer s H E => pss_cons (ps_expr (pe_rootInit D.rt_TurnError (by rfl) D.rg_TurnError (pa_cons (pv 0) (pa_cons pe_str pa_nil)))) (pss_one (ps_ost (pv 0) (pv 1)))
theorem ok_NoTurning_init (D : Dfs K mg) : FnOk P w K mg base (L2.CX P w) 1 D.f_NoTurning_init D.fd_NoTurning_init ["self", "day"] (spI D.E_NoTurning "day") := err_init "a day on which a wheel is not due to be turned" D.F_NoTurning_init sc_NoTurning_init D.er_NoTurning.oex D.na_NoTurning fun cdv A outer s H E => pss_cons (ps_expr (pe_rootInit D.rt_TurnError (by rfl) D.rg_TurnError (pa_cons (pv 0) (pa_cons pe_str pa_nil)))) (pss_one (ps_ost (pv 0) (pv 1)))
theorem ok_NoLot_init (D : Dfs K mg) : FnOk P w K mg base (L2.CX P w) 1 D.f_NoLot_init D.fd_NoLot_init ["self", "at"] (spI D.E_NoLot "at") := err_init "a number that no lot of misses has" D.F_NoLot_init sc_NoLot_init D.er_NoLot.oex D.na_NoLot fun cdv A outer s H E => pss_cons (ps_expr (pe_rootInit D.rt_TurnError (by rfl) D.rg_TurnError (pa_cons (pv 0) (pa_cons pe_str pa_nil)))) (pss_one (ps_ost (pv 0) (pv 1)))
theorem ok_Refused_init (D : Dfs K mg) : FnOk P w K mg base (L2.CX P w) 1 D.f_Refused_init D.fd_Refused_init ["self", "value"] (spI D.E_Refused "value") := err_init "a look that cannot be" D.F_Refused_init sc_Refused_init D.er_Refused.oex D.na_Refused fun cdv A outer s H E => pss_cons (ps_expr (pe_rootInit D.rt_TurnError (by rfl) D.rg_TurnError (pa_cons (pv 0) (pa_cons pe_str pa_nil)))) (pss_one (ps_ost (pv 0) (pv 1)))
theorem ok_NoFit_init (D : Dfs K mg) : FnOk P w K mg base (L2.CX P w) 1 D.f_NoFit_init D.fd_NoFit_init ["self"] (spI0 D.E_NoFit) := err_init0 "nothing that fits what was seen" D.F_NoFit_init sc_NoFit_init D.er_NoFit.oex fun cdv A outer s H E => pss_one (ps_expr (pe_rootInit D.rt_TurnError (by rfl) D.rg_TurnError (pa_cons (pv 0) (pa_cons pe_str pa_nil))))
theorem ok_InvalidCommand_init (D : Dfs K mg) : FnOk P w K mg base (L2.CX P w) 1 D.f_InvalidCommand_init D.fd_InvalidCommand_init ["self"] (spI0 D.E_InvalidCommand) := err_init0 "a command that a desk does not take" D.F_InvalidCommand_init sc_InvalidCommand_init D.er_InvalidCommand.oex fun cdv A outer s H E => pss_one (ps_expr (pe_rootInit D.rt_TurnError (by rfl) D.rg_TurnError (pa_cons (pv 0) (pa_cons pe_str pa_nil))))
theorem bd_law_box (D : Dfs K mg) (cdv : Value) (A : Around) (outer : List Env) (s : Shared) (H : Hp) (E : XK) (π : Nat → Option Pin) (hr : Room 0 (A.deeper (envOfC "_law_box" (defScope s_law_box) s.heap.objs.size D.f_law_box cdv))) : PSs (cxOf (L2.CX P w) P w K mg base ["_law_script", "_law_k", "_law_own", "_law_cell", "_law_seed"] "_law_box" (defScope s_law_box) D.f_law_box cdv A outer s H E) (defBody s_law_box) (TMs ⟨K, D.cl⟩ π (fun cls d _ H => E cls d H) b_law_box) := by
  have nd := sc_law_box.nd
  have tk : Takes (cxOf (L2.CX P w) P w K mg base ["_law_script", "_law_k", "_law_own", "_law_cell", "_law_seed"] "_law_box" (defScope s_law_box) D.f_law_box cdv A outer s H E) (fun cls d _ H => E cls d H) := takes_of rfl rfl rfl rfl
  have hp : PassesOwn (model P w) (cxOf (L2.CX P w) P w K mg base ["_law_script", "_law_k", "_law_own", "_law_cell", "_law_seed"] "_law_box" (defScope s_law_box) D.f_law_box cdv A outer s H E).A (cxOf (L2.CX P w) P w K mg base ["_law_script", "_law_k", "_law_own", "_law_cell", "_law_seed"] "_law_box" (defScope s_law_box) D.f_law_box cdv A outer s H E).env (cxOf (L2.CX P w) P w K mg base ["_law_script", "_law_k", "_law_own", "_law_cell", "_law_seed"] "_law_box" (defScope s_law_box) D.f_law_box cdv A outer s H E).xe := passes_of rfl
  unfold b_law_box
  exact (dss_cons (ds_asgV (ps_set (i := 3) nd rfl (by first | exact Or.inl rfl | exact Or.inr rfl) (de_bin op_addA os_add (de_bin op_addA os_add (de_bin op_mul os_mulI de_int (dp_var (pv 1))) (de_bin op_mul os_mulI de_int (dp_var (pv 2))).peek) (de_int).peek)))
    (dss_cons (ds_if (dt_cmp op_lt os_lt (de_var (pv 1)) (de_call1 (pe_callB cr_lenA (by rfl) D.z_len (by decide +kernel) (pa_cons (dp_var (pv 0)) pa_nil)) cs_len).peek (nomark _)) (dss_one (ds_asgV (ps_set (i := 3) nd rfl (by first | exact Or.inl rfl | exact Or.inr rfl) (de_call1 (pe_callB call_abs (by rfl) D.z_abs (by decide +kernel) (pa_cons (de_ixV (pe_ix ix_seq (pv 0) (de_var (pv 1)) (fun _ _ => rfl))).peek pa_nil)) cs_abs)))) (dss_one (ds_if (dt_cmp op_gt os_gt (de_call1 (pe_callB cr_lenA (by rfl) D.z_len (by decide +kernel) (pa_cons (dp_var (pv 0)) pa_nil)) cs_len) (de_int).peek (nomark _)) (dss_one (ds_asgV (ps_set (i := 3) nd rfl (by first | exact Or.inl rfl | exact Or.inr rfl) (de_bin op_addA os_add (de_var (pv 3)) (de_bin op_mul os_mulI (de_bin op_mod os_mod (de_call1 (pe_callTy call_int1 (by rfl) D.z_int (by decide +kernel) (pa_cons (de_call1 (pe_callB call_abs (by rfl) D.z_abs (by decide +kernel) (pa_cons (de_ixV (pe_ix ix_seq (pv 0) (de_bin op_mod os_mod (de_call1 (pe_callTy call_int1 (by rfl) D.z_int (by decide +kernel) (pa_cons (dp_var (pv 1)) pa_nil)) cs_int) (de_call1 (pe_callB cr_lenA (by rfl) D.z_len (by decide +kernel) (pa_cons (dp_var (pv 0)) pa_nil)) cs_len).peek) (fun _ _ => rfl))).peek pa_nil)) cs_abs).peek pa_nil)) cs_int) (de_int).peek) (de_int).peek).peek)))) dss_nil)))
    (dss_cons (ds_asgV (ps_set (i := 4) nd rfl (by first | exact Or.inl rfl | exact Or.inr rfl) (de_bin op_addA os_add (de_bin op_mod os_mod (de_call1 (pe_callTy call_int1 (by rfl) D.z_int (by decide +kernel) (pa_cons (de_bin op_addA os_add (de_bin op_mul os_mulI (de_bin op_mod os_mod (de_call1 (pe_callTy call_int1 (by rfl) D.z_int (by decide +kernel) (pa_cons (dp_var (pv 3)) pa_nil)) cs_int) (de_int).peek) (de_int).peek) (de_bin op_mul os_mulI de_int (de_bin op_addA os_add (de_var (pv 1)) (de_bin op_mul os_mulI de_int (dp_var (pv 2))).peek).peek).peek).peek pa_nil)) cs_int) (de_int).peek) (de_int).peek)))
    (dss_one (ds_retN (dn_lst (da_cons (de_tOp (pe_ix ix_seq ((dn_lst (da_cons de_int (da_cons (de_var (pv 3)) da_nil)))).keep (de_call1 (pe_callTy call_int1 (by rfl) D.z_int (by decide +kernel) (pa_cons (de_cmp op_ge os_ge (de_var (pv 3)) (de_bin op_pow os_pow de_int (de_int).peek).peek (nomark _)).peek pa_nil)) cs_int).peek (fun _ _ => rfl)) os_ix) (da_cons (de_var (pv 4)) (da_cons de_int da_nil)))))))))
theorem ok_law_box (D : Dfs K mg) : FnOk P w K mg base (L2.CX P w) 1 D.f_law_box D.fd_law_box ["_law_script", "_law_k", "_law_own"] (spM ⟨K, D.cl⟩ 3 false true m_law_box) :=
  fun_ok2 (cl := D.cl) (n := 3) (fm := m_law_box) D.F_law_box sc_law_box (by decide) (by rfl) (by unfold m_law_box; rfl) (bd_law_box D)
theorem bd_law_take (D : Dfs K mg) (cdv : Value) (A : Around) (outer : List Env) (s : Shared) (H : Hp) (E : XK) (π : Nat → Option Pin) (hr : Room 0 (A.deeper (envOfC "_law_take" (defScope s_law_take) s.heap.objs.size D.f_law_take cdv))) : PSs (cxOf (L2.CX P w) P w K mg base ["_law_box_here", "_law_bound", "_law_digit", "_law_raw", "_law_wide"] "_law_take" (defScope s_law_take) D.f_law_take cdv A outer s H E) (defBody s_law_take) (TMs ⟨K, D.cl⟩ π (fun cls d _ H => E cls d H) b_law_take) := by
  have nd := sc_law_take.nd
  have tk : Takes (cxOf (L2.CX P w) P w K mg base ["_law_box_here", "_law_bound", "_law_digit", "_law_raw", "_law_wide"] "_law_take" (defScope s_law_take) D.f_law_take cdv A outer s H E) (fun cls d _ H => E cls d H) := takes_of rfl rfl rfl rfl
  have hp : PassesOwn (model P w) (cxOf (L2.CX P w) P w K mg base ["_law_box_here", "_law_bound", "_law_digit", "_law_raw", "_law_wide"] "_law_take" (defScope s_law_take) D.f_law_take cdv A outer s H E).A (cxOf (L2.CX P w) P w K mg base ["_law_box_here", "_law_bound", "_law_digit", "_law_raw", "_law_wide"] "_law_take" (defScope s_law_take) D.f_law_take cdv A outer s H E).env (cxOf (L2.CX P w) P w K mg base ["_law_box_here", "_law_bound", "_law_digit", "_law_raw", "_law_wide"] "_law_take" (defScope s_law_take) D.f_law_take cdv A outer s H E).xe := passes_of rfl
  unfold b_law_take
  exact (dss_cons (ds_if (dt_cmp op_gt os_gt (de_ixV (pe_ix ix_seq (pv 0) de_int (fun _ _ => rfl))) (de_int).peek (nomark _)) (dss_cons (ds_asgV (ps_set (i := 2) nd rfl (by first | exact Or.inl rfl | exact Or.inr rfl) (de_bin op_mod os_mod (de_call1 (pe_callTy call_int1 (by rfl) D.z_int (by decide +kernel) (pa_cons (de_ixV (pe_ix ix_seq (pv 0) de_int (fun _ _ => rfl))).peek pa_nil)) cs_int) (dp_var (pv 1)))))
    (dss_cons (ds_lput (ps_asg (de_bin op_fdivW os_div (de_ixV (pe_ix ix_seq (pv 0) de_int (fun _ _ => rfl))) (dp_var (pv 1))) (pg_sub (pv 0) de_int set_list)))
    (dss_one (ds_ret (de_var (pv 2)))))) dss_nil)
    (dss_cons (ds_lput (ps_asg (de_bin op_addA os_add (de_ixV (pe_ix ix_seq (pv 0) de_int (fun _ _ => rfl))) (de_int).peek) (pg_sub (pv 0) de_int set_list)))
    (dss_cons (ds_asgV (ps_set (i := 3) nd rfl (by first | exact Or.inl rfl | exact Or.inr rfl) (de_bin op_mod os_mod (de_call1 (pe_callTy call_int1 (by rfl) D.z_int (by decide +kernel) (pa_cons (de_bin op_mul os_mulI (de_bin op_addA os_add (de_ixV (pe_ix ix_seq (pv 0) de_int (fun _ _ => rfl))) (de_bin op_mul os_mulI de_int (de_ixV (pe_ix ix_seq (pv 0) de_int (fun _ _ => rfl))).peek).peek) (de_int).peek).peek pa_nil)) cs_int) (de_int).peek)))
    (dss_cons (ds_lput (ps_asg (de_bin op_addA os_add (de_bin op_mod os_mod (de_call1 (pe_callTy call_int1 (by rfl) D.z_int (by decide +kernel) (pa_cons (de_bin op_addA os_add (de_bin op_mul os_mulI (de_var (pv 3)) (de_int).peek) (de_int).peek).peek pa_nil)) cs_int) (de_int).peek) (de_int).peek) (pg_sub (pv 0) de_int set_list)))
    (dss_cons (ds_if (dt_cmp op_lt os_lt (de_var (pv 1)) (de_bin op_pow os_pow de_int (de_int).peek).peek (nomark _)) (dss_one (ds_ret (de_bin op_mod os_mod (de_call1 (pe_callTy call_int1 (by rfl) D.z_int (by decide +kernel) (pa_cons (de_bin op_fdivW os_div (de_bin op_addA os_add (de_bin op_mul os_mulI (de_var (pv 3)) (de_int).peek) (de_ixV (pe_ix ix_seq (pv 0) de_int (fun _ _ => rfl))).peek) (de_int).peek).peek pa_nil)) cs_int) (dp_var (pv 1))))) dss_nil)
    (dss_cons (ds_asgV (ps_set (i := 4) nd rfl (by first | exact Or.inl rfl | exact Or.inr rfl) (de_bin op_mul os_mulI (de_bin op_addA os_add (de_bin op_mul os_mulI (de_var (pv 3)) (de_int).peek) (de_ixV (pe_ix ix_seq (pv 0) de_int (fun _ _ => rfl))).peek) (de_bin op_pow os_pow de_int (de_int).peek).peek)))
    (dss_one (ds_ret (de_bin op_mod os_mod (de_call1 (pe_callTy call_int1 (by rfl) D.z_int (by decide +kernel) (pa_cons (de_bin op_addA os_add (de_bin op_addA os_add (de_var (pv 4)) (de_bin op_mul os_mulI (de_bin op_pow os_pow (de_ixV (pe_ix ix_seq (pv 0) de_int (fun _ _ => rfl))) (de_int).peek) (de_int).peek).peek) (dp_var (pv 3))).peek pa_nil)) cs_int) (dp_var (pv 1)))))))))))
theorem ok_law_take (D : Dfs K mg) : FnOk P w K mg base (L2.CX P w) 1 D.f_law_take D.fd_law_take ["_law_box_here", "_law_bound"] (spM ⟨K, D.cl⟩ 2 true false m_law_take) :=
  fun_ok2 (cl := D.cl) (n := 2) (fm := m_law_take) D.F_law_take sc_law_take (by decide) (by rfl) (by unfold m_law_take; rfl) (bd_law_take D)
theorem bd_law_pick (D : Dfs K mg) (cdv : Value) (A : Around) (outer : List Env) (s : Shared) (H : Hp) (E : XK) (π : Nat → Option Pin) (hr : Room 1 (A.deeper (envOfC "_law_pick" (defScope s_law_pick) s.heap.objs.size D.f_law_pick cdv))) : PSs (cxOf (L2.CX P w) P w K mg base ["_law_box_here", "_law_items"] "_law_pick" (defScope s_law_pick) D.f_law_pick cdv A outer s H E) (defBody s_law_pick) (TMs ⟨K, D.cl⟩ π (fun cls d _ H => E cls d H) b_law_pick) := by
  have nd := sc_law_pick.nd
  have tk : Takes (cxOf (L2.CX P w) P w K mg base ["_law_box_here", "_law_items"] "_law_pick" (defScope s_law_pick) D.f_law_pick cdv A outer s H E) (fun cls d _ H => E cls d H) := takes_of rfl rfl rfl rfl
  have hp : PassesOwn (model P w) (cxOf (L2.CX P w) P w K mg base ["_law_box_here", "_law_items"] "_law_pick" (defScope s_law_pick) D.f_law_pick cdv A outer s H E).A (cxOf (L2.CX P w) P w K mg base ["_law_box_here", "_law_items"] "_law_pick" (defScope s_law_pick) D.f_law_pick cdv A outer s H E).env (cxOf (L2.CX P w) P w K mg base ["_law_box_here", "_law_items"] "_law_pick" (defScope s_law_pick) D.f_law_pick cdv A outer s H E).xe := passes_of rfl
  unfold b_law_pick
  exact (dss_one (ds_ret (de_ixV (pe_ix ix_seq (pv 1) (de_callIo (ok_law_take D) (hr.mono (by decide)) (by rfl) D.g_law_take D.F_law_take.kp D.b_law_take tk (pv 0) (da_cons (de_call1 (pe_callB cr_lenA (by rfl) D.z_len (by decide +kernel) (pa_cons (dp_var (pv 1)) pa_nil)) cs_len) da_nil)) (fun _ _ => rfl)))))
theorem ok_law_pick (D : Dfs K mg) : FnOk P w K mg base (L2.CX P w) 2 D.f_law_pick D.fd_law_pick ["_law_box_here", "_law_items"] (spM ⟨K, D.cl⟩ 2 true false m_law_pick) :=
  fun_ok2 (cl := D.cl) (n := 2) (fm := m_law_pick) D.F_law_pick sc_law_pick (by decide) (by rfl) (by unfold m_law_pick; rfl) (bd_law_pick D)
theorem bd_law_value (D : Dfs K mg) (cdv : Value) (A : Around) (outer : List Env) (s : Shared) (H : Hp) (E : XK) (π : Nat → Option Pin) (hr : Room 2 (A.deeper (envOfC "_law_value" (defScope s_law_value) s.heap.objs.size D.f_law_value cdv))) : PSs (cxOf (L2.CX P w) P w K mg base ["_law_box_here", "_law_some", "_law_deep", "_law_turn"] "_law_value" (defScope s_law_value) D.f_law_value cdv A outer s H E) (defBody s_law_value) (TMs ⟨K, D.cl⟩ π (fun cls d _ H => E cls d H) b_law_value) := by
  have nd := sc_law_value.nd
  have tk : Takes (cxOf (L2.CX P w) P w K mg base ["_law_box_here", "_law_some", "_law_deep", "_law_turn"] "_law_value" (defScope s_law_value) D.f_law_value cdv A outer s H E) (fun cls d _ H => E cls d H) := takes_of rfl rfl rfl rfl
  have hp : PassesOwn (model P w) (cxOf (L2.CX P w) P w K mg base ["_law_box_here", "_law_some", "_law_deep", "_law_turn"] "_law_value" (defScope s_law_value) D.f_law_value cdv A outer s H E).A (cxOf (L2.CX P w) P w K mg base ["_law_box_here", "_law_some", "_law_deep", "_law_turn"] "_law_value" (defScope s_law_value) D.f_law_value cdv A outer s H E).env (cxOf (L2.CX P w) P w K mg base ["_law_box_here", "_law_some", "_law_deep", "_law_turn"] "_law_value" (defScope s_law_value) D.f_law_value cdv A outer s H E).xe := passes_of rfl
  unfold b_law_value
  exact (dss_cons (ds_asgV (ps_set (i := 1) nd rfl (by first | exact Or.inl rfl | exact Or.inr rfl) ((dn_lst (da_cons de_int (da_cons (de_un un_neg us_neg (de_int).peek) (da_cons (de_bin op_pow os_pow de_int (de_int).peek) (da_cons de_str (da_cons de_str (da_cons de_non (da_cons de_bl (da_cons de_bl (da_cons ((dn_lst da_nil)).keep (da_cons ((dn_lst (da_cons de_int (da_cons de_str da_nil)))).keep (da_cons (de_tup (da_cons de_int (da_cons de_non da_nil))) (da_cons (de_tup da_nil) da_nil)))))))))))))).keep))
    (dss_cons (ds_asgV (ps_set (i := 1) nd rfl (by first | exact Or.inl rfl | exact Or.inr rfl) (de_bin op_addA os_add (de_var (pv 1)) ((dn_lst (da_cons de_str (da_cons de_int (da_cons de_str (da_cons ((dn_lst (da_cons de_str da_nil))).keep (da_cons (de_tup (da_cons de_int (da_cons de_int da_nil))) (da_cons de_int da_nil)))))))).keep.peek)))
    (dss_cons (ds_asgV (ps_set (i := 2) nd rfl (by first | exact Or.inl rfl | exact Or.inr rfl) (de_tup da_nil)))
    (dss_cons (ds_for hp rfl (di_rng1 (by rfl) D.z_range (da_cons de_int da_nil)) (dg_name (pg_name (i := 3) nd rfl (by first | exact Or.inl rfl | exact Or.inr rfl))) (dss_one (ds_asgV (ps_set (i := 2) nd rfl (by first | exact Or.inl rfl | exact Or.inr rfl) (de_ifExp (dt_cmp (op_eqD hr.units) os_eq (de_bin op_mod os_mod (de_var (pv 3)) (de_int).peek) (de_int).peek (nomark _)) ((dn_lst (da_cons (de_var (pv 2)) (da_cons de_int da_nil)))).keep (de_tup (da_cons (de_var (pv 2)) da_nil)))))))
    (dss_one (ds_ret (de_callIo (ok_law_pick D) (hr.mono (by decide)) (by rfl) D.g_law_pick D.F_law_pick.kp D.b_law_pick tk (pv 0) (da_cons (de_bin op_addA os_add (de_var (pv 1)) ((dn_lst (da_cons (de_var (pv 2)) da_nil))).keep.peek) da_nil))))))))
theorem ok_law_value (D : Dfs K mg) : FnOk P w K mg base (L2.CX P w) 3 D.f_law_value D.fd_law_value ["_law_box_here"] (spM ⟨K, D.cl⟩ 1 true false m_law_value) :=
  fun_ok2 (cl := D.cl) (n := 1) (fm := m_law_value) D.F_law_value sc_law_value (by decide) (by rfl) (by unfold m_law_value; rfl) (bd_law_value D)
theorem bd_law_sorts (D : Dfs K mg) (cdv : Value) (A : Around) (outer : List Env) (s : Shared) (H : Hp) (E : XK) (π : Nat → Option Pin) (hr : Room 2 (A.deeper (envOfC "_law_sorts" (defScope s_law_sorts) s.heap.objs.size D.f_law_sorts cdv))) : PSs (cxOf (L2.CX P w) P w K mg base ["_law_one", "_law_found"] "_law_sorts" (defScope s_law_sorts) D.f_law_sorts cdv A outer s H E) (defBody s_law_sorts) (TMs ⟨K, D.cl⟩ π (fun cls d _ H => E cls d H) b_law_sorts) := by
  have nd := sc_law_sorts.nd
  have tk : Takes (cxOf (L2.CX P w) P w K mg base ["_law_one", "_law_found"] "_law_sorts" (defScope s_law_sorts) D.f_law_sorts cdv A outer s H E) (fun cls d _ H => E cls d H) := takes_of rfl rfl rfl rfl
  have hp : PassesOwn (model P w) (cxOf (L2.CX P w) P w K mg base ["_law_one", "_law_found"] "_law_sorts" (defScope s_law_sorts) D.f_law_sorts cdv A outer s H E).A (cxOf (L2.CX P w) P w K mg base ["_law_one", "_law_found"] "_law_sorts" (defScope s_law_sorts) D.f_law_sorts cdv A outer s H E).env (cxOf (L2.CX P w) P w K mg base ["_law_one", "_law_found"] "_law_sorts" (defScope s_law_sorts) D.f_law_sorts cdv A outer s H E).xe := passes_of rfl
  unfold b_law_sorts
  exact (dss_cons (ds_asgN (ps_set (i := 1) nd rfl (by first | exact Or.inl rfl | exact Or.inr rfl) (dn_lst (da_cons (de_isV (cs := exvs) (g := (fun c => decide (c = 20))) (.own _) rfl (isv_InvalidRota D) (pe_callB call_isV (by rfl) D.z_isinstance (by decide +kernel) (pa_cons (de_var (pv 0)) (pa_cons (pe_glob (by rfl) D.kl_InvalidRota.g rfl) pa_nil)))) (da_cons (de_isV (cs := exvs) (g := (fun c => decide (c = 21))) (.own _) rfl (isv_InvalidText D) (pe_callB call_isV (by rfl) D.z_isinstance (by decide +kernel) (pa_cons (de_var (pv 0)) (pa_cons (pe_glob (by rfl) D.kl_InvalidText.g rfl) pa_nil)))) (da_cons (de_isV (cs := exvs) (g := (fun c => decide (c = 22))) (.own _) rfl (isv_InvalidSeason D) (pe_callB call_isV (by rfl) D.z_isinstance (by decide +kernel) (pa_cons (de_var (pv 0)) (pa_cons (pe_glob (by rfl) D.kl_InvalidSeason.g rfl) pa_nil)))) da_nil))))))
    (dss_cons (ds_expr (de_extend rfl (pe_bm PySem.F.plainAttrs_list PySem.F.slot_list_extend PySem.F.type_list_extend mt_extend (pv 1) (pa_cons (dn_lst (da_cons (de_isV (cs := exvs) (g := (fun c => decide (c = 23))) (.own _) rfl (isv_InvalidMisses D) (pe_callB call_isV (by rfl) D.z_isinstance (by decide +kernel) (pa_cons (de_var (pv 0)) (pa_cons (pe_glob (by rfl) D.kl_InvalidMisses.g rfl) pa_nil)))) (da_cons (de_isV (cs := exvs) (g := (fun c => decide (c = 24))) (.own _) rfl (isv_InvalidDays D) (pe_callB call_isV (by rfl) D.z_isinstance (by decide +kernel) (pa_cons (de_var (pv 0)) (pa_cons (pe_glob (by rfl) D.kl_InvalidDays.g rfl) pa_nil)))) (da_cons (de_isV (cs := exvs) (g := (fun c => decide (c = 26))) (.own _) rfl (isv_NoWheel D) (pe_callB call_isV (by rfl) D.z_isinstance (by decide +kernel) (pa_cons (de_var (pv 0)) (pa_cons (pe_glob (by rfl) D.kl_NoWheel.g rfl) pa_nil)))) da_nil)))) pa_nil))))
    (dss_cons (ds_expr (de_extend rfl (pe_bm PySem.F.plainAttrs_list PySem.F.slot_list_extend PySem.F.type_list_extend mt_extend (pv 1) (pa_cons (dn_lst (da_cons (de_isV (cs := exvs) (g := (fun c => decide (c = 27))) (.own _) rfl (isv_NoTurning D) (pe_callB call_isV (by rfl) D.z_isinstance (by decide +kernel) (pa_cons (de_var (pv 0)) (pa_cons (pe_glob (by rfl) D.kl_NoTurning.g rfl) pa_nil)))) (da_cons (de_isV (cs := exvs) (g := (fun c => decide (c = 29))) (.own _) rfl (isv_NoLot D) (pe_callB call_isV (by rfl) D.z_isinstance (by decide +kernel) (pa_cons (de_var (pv 0)) (pa_cons (pe_glob (by rfl) D.kl_NoLot.g rfl) pa_nil)))) (da_cons (de_isV (cs := exvs) (g := (fun c => decide (c = 30))) (.own _) rfl (isv_Refused D) (pe_callB call_isV (by rfl) D.z_isinstance (by decide +kernel) (pa_cons (de_var (pv 0)) (pa_cons (pe_glob (by rfl) D.kl_Refused.g rfl) pa_nil)))) da_nil)))) pa_nil))))
    (dss_one (ds_ret (de_bin op_addA os_add (de_var (pv 1)) ((dn_lst (da_cons (de_isV (cs := exvs) (g := (fun c => decide (c = 28))) (.own _) rfl (isv_NoFit D) (pe_callB call_isV (by rfl) D.z_isinstance (by decide +kernel) (pa_cons (de_var (pv 0)) (pa_cons (pe_glob (by rfl) D.kl_NoFit.g rfl) pa_nil)))) (da_cons (de_isV (cs := exvs) (g := (fun c => decide (c = 25))) (.own _) rfl (isv_InvalidCommand D) (pe_callB call_isV (by rfl) D.z_isinstance (by decide +kernel) (pa_cons (de_var (pv 0)) (pa_cons (pe_glob (by rfl) D.kl_InvalidCommand.g rfl) pa_nil)))) da_nil)))).keep.peek))))))
theorem ok_law_sorts (D : Dfs K mg) : FnOk P w K mg base (L2.CX P w) 3 D.f_law_sorts D.fd_law_sorts ["_law_one"] (spM ⟨K, D.cl⟩ 1 false false m_law_sorts) :=
  fun_ok2 (cl := D.cl) (n := 1) (fm := m_law_sorts) D.F_law_sorts sc_law_sorts (by decide) (by rfl) (by unfold m_law_sorts; rfl) (bd_law_sorts D)
theorem bd_law_errors (D : Dfs K mg) (cdv : Value) (A : Around) (outer : List Env) (s : Shared) (H : Hp) (E : XK) (π : Nat → Option Pin) (hr : Room 2 (A.deeper (envOfC "_law_errors" (defScope s_law_errors) s.heap.objs.size D.f_law_errors cdv))) : PSs (cxOf (L2.CX P w) P w K mg base ["_law_some", "_law_found"] "_law_errors" (defScope s_law_errors) D.f_law_errors cdv A outer s H E) (defBody s_law_errors) (TMs ⟨K, D.cl⟩ π (fun cls d _ H => E cls d H) b_law_errors) := by
  have nd := sc_law_errors.nd
  have tk : Takes (cxOf (L2.CX P w) P w K mg base ["_law_some", "_law_found"] "_law_errors" (defScope s_law_errors) D.f_law_errors cdv A outer s H E) (fun cls d _ H => E cls d H) := takes_of rfl rfl rfl rfl
  have hp : PassesOwn (model P w) (cxOf (L2.CX P w) P w K mg base ["_law_some", "_law_found"] "_law_errors" (defScope s_law_errors) D.f_law_errors cdv A outer s H E).A (cxOf (L2.CX P w) P w K mg base ["_law_some", "_law_found"] "_law_errors" (defScope s_law_errors) D.f_law_errors cdv A outer s H E).env (cxOf (L2.CX P w) P w K mg base ["_law_some", "_law_found"] "_law_errors" (defScope s_law_errors) D.f_law_errors cdv A outer s H E).xe := passes_of rfl
  unfold b_law_errors
  exact (dss_cons (ds_asgN (ps_set (i := 1) nd rfl (by first | exact Or.inl rfl | exact Or.inr rfl) (dn_lst (da_cons (de_mkx D.er_InvalidRota rfl (ok_InvalidRota_init D) (hr.mono (by decide)) D.b_InvalidRota_init passes_no (by rfl) (de_ixV (pe_ix ix_seq (pv 0) de_int (fun _ _ => rfl)))) (da_cons (de_mkx D.er_InvalidText rfl (ok_InvalidText_init D) (hr.mono (by decide)) D.b_InvalidText_init passes_no (by rfl) (de_ixV (pe_ix ix_seq (pv 0) de_int (fun _ _ => rfl)))) (da_cons (de_mkx D.er_InvalidSeason rfl (ok_InvalidSeason_init D) (hr.mono (by decide)) D.b_InvalidSeason_init passes_no (by rfl) (de_ixV (pe_ix ix_seq (pv 0) de_int (fun _ _ => rfl)))) (da_cons (de_mkx D.er_InvalidMisses rfl (ok_InvalidMisses_init D) (hr.mono (by decide)) D.b_InvalidMisses_init passes_no (by rfl) (de_ixV (pe_ix ix_seq (pv 0) de_int (fun _ _ => rfl)))) da_nil)))))))
    (dss_cons (ds_expr (de_extend rfl (pe_bm PySem.F.plainAttrs_list PySem.F.slot_list_extend PySem.F.type_list_extend mt_extend (pv 1) (pa_cons (dn_lst (da_cons (de_mkx D.er_InvalidDays rfl (ok_InvalidDays_init D) (hr.mono (by decide)) D.b_InvalidDays_init passes_no (by rfl) (de_ixV (pe_ix ix_seq (pv 0) de_int (fun _ _ => rfl)))) (da_cons (de_mkx D.er_NoWheel rfl (ok_NoWheel_init D) (hr.mono (by decide)) D.b_NoWheel_init passes_no (by rfl) (de_ixV (pe_ix ix_seq (pv 0) de_int (fun _ _ => rfl)))) (da_cons (de_mkx D.er_NoTurning rfl (ok_NoTurning_init D) (hr.mono (by decide)) D.b_NoTurning_init passes_no (by rfl) (de_ixV (pe_ix ix_seq (pv 0) de_int (fun _ _ => rfl)))) (da_cons (de_mkx D.er_NoLot rfl (ok_NoLot_init D) (hr.mono (by decide)) D.b_NoLot_init passes_no (by rfl) (de_ixV (pe_ix ix_seq (pv 0) de_int (fun _ _ => rfl)))) da_nil))))) pa_nil))))
    (dss_one (ds_ret (de_bin op_addA os_add (de_var (pv 1)) ((dn_lst (da_cons (de_mkx D.er_Refused rfl (ok_Refused_init D) (hr.mono (by decide)) D.b_Refused_init passes_no (by rfl) (de_ixV (pe_ix ix_seq (pv 0) de_int (fun _ _ => rfl)))) (da_cons (de_mkx0 D.er_NoFit rfl (ok_NoFit_init D) (hr.mono (by decide)) D.b_NoFit_init passes_no (by rfl)) (da_cons (de_mkx0 D.er_InvalidCommand rfl (ok_InvalidCommand_init D) (hr.mono (by decide)) D.b_InvalidCommand_init passes_no (by rfl)) da_nil))))).keep.peek)))))
theorem ok_law_errors (D : Dfs K mg) : FnOk P w K mg base (L2.CX P w) 3 D.f_law_errors D.fd_law_errors ["_law_some"] (spM ⟨K, D.cl⟩ 1 false false m_law_errors) :=
  fun_ok2 (cl := D.cl) (n := 1) (fm := m_law_errors) D.F_law_errors sc_law_errors (by decide) (by rfl) (by unfold m_law_errors; rfl) (bd_law_errors D)
theorem bd_law_named (D : Dfs K mg) (cdv : Value) (A : Around) (outer : List Env) (s : Shared) (H : Hp) (E : XK) (π : Nat → Option Pin) (hr : Room 2 (A.deeper (envOfC "_law_named" (defScope s_law_named) s.heap.objs.size D.f_law_named cdv))) : PSs (cxOf (L2.CX P w) P w K mg base ["_law_some", "_law_found"] "_law_named" (defScope s_law_named) D.f_law_named cdv A outer s H E) (defBody s_law_named) (TMs ⟨K, D.cl⟩ π (fun cls d _ H => E cls d H) b_law_named) := by
  have nd := sc_law_named.nd
  have tk : Takes (cxOf (L2.CX P w) P w K mg base ["_law_some", "_law_found"] "_law_named" (defScope s_law_named) D.f_law_named cdv A outer s H E) (fun cls d _ H => E cls d H) := takes_of rfl rfl rfl rfl
  have hp : PassesOwn (model P w) (cxOf (L2.CX P w) P w K mg base ["_law_some", "_law_found"] "_law_named" (defScope s_law_named) D.f_law_named cdv A outer s H E).A (cxOf (L2.CX P w) P w K mg base ["_law_some", "_law_found"] "_law_named" (defScope s_law_named) D.f_law_named cdv A outer s H E).env (cxOf (L2.CX P w) P w K mg base ["_law_some", "_law_found"] "_law_named" (defScope s_law_named) D.f_law_named cdv A outer s H E).xe := passes_of rfl
  unfold b_law_named
  exact (dss_cons (ds_asgN (ps_set (i := 1) nd rfl (by first | exact Or.inl rfl | exact Or.inr rfl) (dn_lst (da_cons (de_mkxK D.er_InvalidRota rfl (ok_InvalidRota_init D) (hr.mono (by decide)) (kb1_of D.F_InvalidRota_init (ps := ["self", "word"]) (ks := ["word"]) (pm := [0]) (by decide) fun _ _ _ _ _ _ _ ws hl => match ws, hl with | [_], _ => rfl) passes_no (by rfl) (dkw_cons (de_ixV (pe_ix ix_seq (pv 0) de_int (fun _ _ => rfl))) dkw_nil)) (da_cons (de_mkxK D.er_InvalidText rfl (ok_InvalidText_init D) (hr.mono (by decide)) (kb1_of D.F_InvalidText_init (ps := ["self", "at"]) (ks := ["at"]) (pm := [0]) (by decide) fun _ _ _ _ _ _ _ ws hl => match ws, hl with | [_], _ => rfl) passes_no (by rfl) (dkw_cons (de_ixV (pe_ix ix_seq (pv 0) de_int (fun _ _ => rfl))) dkw_nil)) (da_cons (de_mkxK D.er_InvalidSeason rfl (ok_InvalidSeason_init D) (hr.mono (by decide)) (kb1_of D.F_InvalidSeason_init (ps := ["self", "word"]) (ks := ["word"]) (pm := [0]) (by decide) fun _ _ _ _ _ _ _ ws hl => match ws, hl with | [_], _ => rfl) passes_no (by rfl) (dkw_cons (de_ixV (pe_ix ix_seq (pv 0) de_int (fun _ _ => rfl))) dkw_nil)) da_nil))))))
    (dss_cons (ds_expr (de_extend rfl (pe_bm PySem.F.plainAttrs_list PySem.F.slot_list_extend PySem.F.type_list_extend mt_extend (pv 1) (pa_cons (dn_lst (da_cons (de_mkxK D.er_InvalidMisses rfl (ok_InvalidMisses_init D) (hr.mono (by decide)) (kb1_of D.F_InvalidMisses_init (ps := ["self", "at"]) (ks := ["at"]) (pm := [0]) (by decide) fun _ _ _ _ _ _ _ ws hl => match ws, hl with | [_], _ => rfl) passes_no (by rfl) (dkw_cons (de_ixV (pe_ix ix_seq (pv 0) de_int (fun _ _ => rfl))) dkw_nil)) (da_cons (de_mkxK D.er_InvalidDays rfl (ok_InvalidDays_init D) (hr.mono (by decide)) (kb1_of D.F_InvalidDays_init (ps := ["self", "at"]) (ks := ["at"]) (pm := [0]) (by decide) fun _ _ _ _ _ _ _ ws hl => match ws, hl with | [_], _ => rfl) passes_no (by rfl) (dkw_cons (de_ixV (pe_ix ix_seq (pv 0) de_int (fun _ _ => rfl))) dkw_nil)) (da_cons (de_mkxK D.er_NoWheel rfl (ok_NoWheel_init D) (hr.mono (by decide)) (kb1_of D.F_NoWheel_init (ps := ["self", "value"]) (ks := ["value"]) (pm := [0]) (by decide) fun _ _ _ _ _ _ _ ws hl => match ws, hl with | [_], _ => rfl) passes_no (by rfl) (dkw_cons (de_ixV (pe_ix ix_seq (pv 0) de_int (fun _ _ => rfl))) dkw_nil)) da_nil)))) pa_nil))))
    (dss_one (ds_ret (de_bin op_addA os_add (de_var (pv 1)) ((dn_lst (da_cons (de_mkxK D.er_NoTurning rfl (ok_NoTurning_init D) (hr.mono (by decide)) (kb1_of D.F_NoTurning_init (ps := ["self", "day"]) (ks := ["day"]) (pm := [0]) (by decide) fun _ _ _ _ _ _ _ ws hl => match ws, hl with | [_], _ => rfl) passes_no (by rfl) (dkw_cons (de_ixV (pe_ix ix_seq (pv 0) de_int (fun _ _ => rfl))) dkw_nil)) (da_cons (de_mkxK D.er_NoLot rfl (ok_NoLot_init D) (hr.mono (by decide)) (kb1_of D.F_NoLot_init (ps := ["self", "at"]) (ks := ["at"]) (pm := [0]) (by decide) fun _ _ _ _ _ _ _ ws hl => match ws, hl with | [_], _ => rfl) passes_no (by rfl) (dkw_cons (de_ixV (pe_ix ix_seq (pv 0) de_int (fun _ _ => rfl))) dkw_nil)) (da_cons (de_mkxK D.er_Refused rfl (ok_Refused_init D) (hr.mono (by decide)) (kb1_of D.F_Refused_init (ps := ["self", "value"]) (ks := ["value"]) (pm := [0]) (by decide) fun _ _ _ _ _ _ _ ws hl => match ws, hl with | [_], _ => rfl) passes_no (by rfl) (dkw_cons (de_ixV (pe_ix ix_seq (pv 0) de_int (fun _ _ => rfl))) dkw_nil)) da_nil))))).keep.peek)))))
theorem ok_law_named (D : Dfs K mg) : FnOk P w K mg base (L2.CX P w) 3 D.f_law_named D.fd_law_named ["_law_some"] (spM ⟨K, D.cl⟩ 1 false false m_law_named) :=
  fun_ok2 (cl := D.cl) (n := 1) (fm := m_law_named) D.F_law_named sc_law_named (by decide) (by rfl) (by unfold m_law_named; rfl) (bd_law_named D)
theorem bd_law_held (D : Dfs K mg) (cdv : Value) (A : Around) (outer : List Env) (s : Shared) (H : Hp) (E : XK) (π : Nat → Option Pin) (hr : Room 2 (A.deeper (envOfC "_law_held" (defScope s_law_held) s.heap.objs.size D.f_law_held cdv))) : PSs (cxOf (L2.CX P w) P w K mg base ["_law_made", "_law_found"] "_law_held" (defScope s_law_held) D.f_law_held cdv A outer s H E) (defBody s_law_held) (TMs ⟨K, D.cl⟩ π (fun cls d _ H => E cls d H) b_law_held) := by
  have nd := sc_law_held.nd
  have tk : Takes (cxOf (L2.CX P w) P w K mg base ["_law_made", "_law_found"] "_law_held" (defScope s_law_held) D.f_law_held cdv A outer s H E) (fun cls d _ H => E cls d H) := takes_of rfl rfl rfl rfl
  have hp : PassesOwn (model P w) (cxOf (L2.CX P w) P w K mg base ["_law_made", "_law_found"] "_law_held" (defScope s_law_held) D.f_law_held cdv A outer s H E).A (cxOf (L2.CX P w) P w K mg base ["_law_made", "_law_found"] "_law_held" (defScope s_law_held) D.f_law_held cdv A outer s H E).env (cxOf (L2.CX P w) P w K mg base ["_law_made", "_law_found"] "_law_held" (defScope s_law_held) D.f_law_held cdv A outer s H E).xe := passes_of rfl
  unfold b_law_held
  exact (dss_cons (ds_asgV (ps_set (i := 1) nd rfl (by first | exact Or.inl rfl | exact Or.inr rfl) ((dn_lst (da_cons (de_xfv (cs := [20, 22]) rfl (xfv_word D) (de_ixV (pe_ix ix_seq (pv 0) de_int (fun _ _ => rfl)))) (da_cons (de_xfv (cs := [21, 23, 24, 29]) rfl (xfv_at D) (de_ixV (pe_ix ix_seq (pv 0) de_int (fun _ _ => rfl)))) (da_cons (de_xfv (cs := [20, 22]) rfl (xfv_word D) (de_ixV (pe_ix ix_seq (pv 0) de_int (fun _ _ => rfl)))) (da_cons (de_xfv (cs := [21, 23, 24, 29]) rfl (xfv_at D) (de_ixV (pe_ix ix_seq (pv 0) de_int (fun _ _ => rfl)))) (da_cons (de_xfv (cs := [21, 23, 24, 29]) rfl (xfv_at D) (de_ixV (pe_ix ix_seq (pv 0) de_int (fun _ _ => rfl)))) da_nil))))))).keep))
    (dss_one (ds_ret (de_bin op_addA os_add (de_var (pv 1)) ((dn_lst (da_cons (de_xfv (cs := [26, 30]) rfl (xfv_value D) (de_ixV (pe_ix ix_seq (pv 0) de_int (fun _ _ => rfl)))) (da_cons (de_xfv (cs := [27]) rfl (xfv_day D) (de_ixV (pe_ix ix_seq (pv 0) de_int (fun _ _ => rfl)))) (da_cons (de_xfv (cs := [21, 23, 24, 29]) rfl (xfv_at D) (de_ixV (pe_ix ix_seq (pv 0) de_int (fun _ _ => rfl)))) (da_cons (de_xfv (cs := [26, 30]) rfl (xfv_value D) (de_ixV (pe_ix ix_seq (pv 0) de_int (fun _ _ => rfl)))) da_nil)))))).keep.peek))))
theorem ok_law_held (D : Dfs K mg) : FnOk P w K mg base (L2.CX P w) 3 D.f_law_held D.fd_law_held ["_law_made"] (spM ⟨K, D.cl⟩ 1 false false m_law_held) :=
  fun_ok2 (cl := D.cl) (n := 1) (fm := m_law_held) D.F_law_held sc_law_held (by decide) (by rfl) (by unfold m_law_held; rfl) (bd_law_held D)
theorem bd_law (D : Dfs K mg) (cdv : Value) (A : Around) (outer : List Env) (s : Shared) (H : Hp) (E : XK) (π : Nat → Option Pin) (hr : Room 3 (A.deeper (envOfC "law" (defScope s_law) s.heap.objs.size D.f_law cdv))) (hg : (A.deeper (envOfC "law" (defScope s_law) s.heap.objs.size D.f_law cdv)).guards = some []) : PSs (cxOf (L2.CX P w) P w K mg base ["_law_script", "_law_k", "_law_box_here", "_law_some", "_law_made", "_law_spot", "_law_one", "_law_row", "_law_held_here", "_law_turn", "_law_other"] "law" (defScope s_law) D.f_law cdv A outer s H E) (defBody s_law) (TMs ⟨K, D.cl⟩ π (fun cls d _ H => E cls d H) b_law) := by
  have nd := sc_law.nd
  have tk : Takes (cxOf (L2.CX P w) P w K mg base ["_law_script", "_law_k", "_law_box_here", "_law_some", "_law_made", "_law_spot", "_law_one", "_law_row", "_law_held_here", "_law_turn", "_law_other"] "law" (defScope s_law) D.f_law cdv A outer s H E) (fun cls d _ H => E cls d H) := takes_of rfl rfl rfl rfl
  have hp : PassesOwn (model P w) (cxOf (L2.CX P w) P w K mg base ["_law_script", "_law_k", "_law_box_here", "_law_some", "_law_made", "_law_spot", "_law_one", "_law_row", "_law_held_here", "_law_turn", "_law_other"] "law" (defScope s_law) D.f_law cdv A outer s H E).A (cxOf (L2.CX P w) P w K mg base ["_law_script", "_law_k", "_law_box_here", "_law_some", "_law_made", "_law_spot", "_law_one", "_law_row", "_law_held_here", "_law_turn", "_law_other"] "law" (defScope s_law) D.f_law cdv A outer s H E).env (cxOf (L2.CX P w) P w K mg base ["_law_script", "_law_k", "_law_box_here", "_law_some", "_law_made", "_law_spot", "_law_one", "_law_row", "_law_held_here", "_law_turn", "_law_other"] "law" (defScope s_law) D.f_law cdv A outer s H E).xe := passes_of rfl
  unfold b_law st_law_0 st_law_1 lp_law_1 lp_law_0
  exact (dss_cons (ds_for hp rfl (di_rng1 (by rfl) D.z_range (da_cons (de_mm2 (pe_callB (call_max2 rfl) (by rfl) D.z_max (by decide +kernel) (pa_cons de_int (pa_cons (de_mm2 (pe_callB (call_min2 rfl) (by rfl) D.z_min (by decide +kernel) (pa_cons de_int (pa_cons (de_call1 (pe_callB cr_lenA (by rfl) D.z_len (by decide +kernel) (pa_cons (dp_var (pv 0)) pa_nil)) cs_len) pa_nil)))) pa_nil)))) da_nil)) (dg_name (pg_name (i := 1) nd rfl (by first | exact Or.inl rfl | exact Or.inr rfl))) (dss_cons (ds_asgN (ps_set (i := 2) nd rfl (by first | exact Or.inl rfl | exact Or.inr rfl) (dn_call (ok_law_box D) (hr.mono (by decide)) (by rfl) D.g_law_box D.F_law_box.kp D.b_law_box tk (da_cons (de_var (pv 0)) (da_cons (de_var (pv 1)) (da_cons de_int da_nil))))))
    (dss_cons (ds_setLcV (ps_setLc (own := [("_law_turn", 9)]) (i := 3) rfl nd rfl rfl (sw_true rfl rfl rfl (by decide +kernel)) (di_rng1 (by rfl) D.z_range (da_cons de_int da_nil)) (blkOk_by (own := [("_law_turn", 9)]) (N := ["_law_script", "_law_k", "_law_box_here", "_law_some", "_law_made", "_law_spot", "_law_one", "_law_row", "_law_held_here", "_law_turn", "_law_other"]) (sc := defScope s_law) (by decide +kernel)) (fun _ _ _ _ _ => (dg_name (pg_name (i := 9) nd rfl (by first | exact Or.inl rfl | exact Or.inr rfl)))) (fun _ _ _ _ _ => dts_nil) (fun _ _ _ _ _ => (de_callIo (ok_law_value D) (hr.mono (by decide)) (by rfl) D.g_law_value D.F_law_value.kp D.b_law_value takes0 (pv 2) da_nil))) (by decide))
    (dss_cons (ds_asgV (ps_set (i := 4) nd rfl (by first | exact Or.inl rfl | exact Or.inr rfl) (de_call (ok_law_errors D) (hr.mono (by decide)) (by rfl) D.g_law_errors D.F_law_errors.kp D.b_law_errors tk (da_cons (de_var (pv 3)) da_nil))))
    (dss_cons (ds_for hp rfl (di_enum rfl (by rfl) D.z_enumerate (de_var (pv 4))) (dg_tup rfl rfl (dgs_cons (dg_name (pg_name (i := 5) nd rfl (by first | exact Or.inl rfl | exact Or.inr rfl))) (dgs_cons (dg_name (pg_name (i := 6) nd rfl (by first | exact Or.inl rfl | exact Or.inr rfl))) dgs_nil))) (dss_cons (ds_if (dt_cmp (op_neD hr.units) os_ne (de_call (ok_law_sorts D) (hr.mono (by decide)) (by rfl) D.g_law_sorts D.F_law_sorts.kp D.b_law_sorts tk (da_cons (de_var (pv 6)) da_nil)) ((dn_lc (pe_lc (own := [("_law_other", 10)]) rfl nd (di_rng1 (by rfl) D.z_range (da_cons de_int da_nil)) (blkOk_by (own := [("_law_other", 10)]) (N := ["_law_script", "_law_k", "_law_box_here", "_law_some", "_law_made", "_law_spot", "_law_one", "_law_row", "_law_held_here", "_law_turn", "_law_other"]) (sc := defScope s_law) (by decide +kernel)) (fun _ _ _ _ _ => (dg_name (pg_name (i := 10) nd rfl (by first | exact Or.inl rfl | exact Or.inr rfl)))) (fun _ _ _ _ _ => dts_nil) (fun _ _ _ _ _ => (de_cmp (op_eqD hr.units) os_eq (de_var (pv 10)) (dp_var (pv 5)) (nomark _)))) (by decide))).keep.peek (nomark _)) (dss_one (ds_ret de_bl)) dss_nil)
    (dss_one (ds_if (PW.pt (dw_or (dt_not (dt_val (de_isV (cs := exvs) (g := (fun _ => true)) (.own _) rfl (isv_TurnError D) (pe_callB call_isV (by rfl) D.z_isinstance (by decide +kernel) (pa_cons (de_var (pv 6)) (pa_cons (pe_glob (by rfl) D.kl_TurnError.g rfl) pa_nil)))))) (dw_or1 (dt_not (dt_val (de_isV (cs := exvs) (g := (fun _ => true)) (.ty _) rfl (isv_ValueError D) (pe_callB call_isV (by rfl) D.z_isinstance (by decide +kernel) (pa_cons (de_var (pv 6)) (pa_cons (pe_bltn (v := .ty "ValueError") (by rfl) D.z_ValueError (by decide +kernel) rfl) pa_nil))))))))) (dss_one (ds_ret de_bl)) dss_nil))))
    (dss_cons (ds_if (PW.pt (dw_or (dt_cmp (op_neD hr.units) os_ne (de_call1 (pe_callB (cr_reprP hg hr) (by rfl) D.z_repr (by decide +kernel) (pa_cons (de_call (ok_law_held D) (hr.mono (by decide)) (by rfl) D.g_law_held D.F_law_held.kp D.b_law_held tk (da_cons (de_var (pv 4)) da_nil)).peek pa_nil)) cs_reprD) (de_call1 (pe_callB (cr_reprP hg hr) (by rfl) D.z_repr (by decide +kernel) (pa_cons (dp_var (pv 3)) pa_nil)) cs_reprD).peek (nomark _)) (dw_or1 (dt_cmp (op_neD hr.units) os_ne (de_call1 (pe_callB (cr_reprP hg hr) (by rfl) D.z_repr (by decide +kernel) (pa_cons (de_call (ok_law_held D) (hr.mono (by decide)) (by rfl) D.g_law_held D.F_law_held.kp D.b_law_held tk (da_cons (de_call (ok_law_named D) (hr.mono (by decide)) (by rfl) D.g_law_named D.F_law_named.kp D.b_law_named tk (da_cons (de_var (pv 3)) da_nil)) da_nil)).peek pa_nil)) cs_reprD) (de_call1 (pe_callB (cr_reprP hg hr) (by rfl) D.z_repr (by decide +kernel) (pa_cons (dp_var (pv 3)) pa_nil)) cs_reprD).peek (nomark _))))) (dss_one (ds_ret de_bl)) dss_nil)
    (dss_cons (ds_asgN (ps_set (i := 7) nd rfl (by first | exact Or.inl rfl | exact Or.inr rfl) (dn_lst (da_cons de_int da_nil))))
    (dss_alias (i := 7) (j := 8) rfl (ds_asgV (ps_set (i := 8) nd rfl (by first | exact Or.inl rfl | exact Or.inr rfl) (de_call (ok_law_errors D) (hr.mono (by decide)) (by rfl) D.g_law_errors D.F_law_errors.kp D.b_law_errors tk (da_cons ((dn_rep ((dn_lst (da_cons (de_var (pv 7)) da_nil))).keep (de_int).peek)).keep da_nil)))) (ps_if (pt_cmpR (op_neD hr.units) (de_call (ok_law_held D) (hr.mono (by decide)) (by rfl) D.g_law_held D.F_law_held.kp D.b_law_held tk (da_cons (de_var (pv 8)) da_nil)) ((dn_rep ((dn_lst (da_cons ((dn_lst (da_cons de_int da_nil))).keep da_nil))).keep (de_int).peek)).keep.peek (nomark _)) (dss_one (ds_ret de_bl)) pss_nil) (ps_expr (pe_bm PySem.F.plainAttrs_list PySem.F.slot_list_append PySem.F.type_list_append mt_append (pv 7) (pa_cons pe_int pa_nil))) (ps_if (pt_cmpR (op_neD hr.units) (de_call (ok_law_held D) (hr.mono (by decide)) (by rfl) D.g_law_held D.F_law_held.kp D.b_law_held tk (da_cons (de_var (pv 8)) da_nil)) ((dn_rep ((dn_lst (da_cons ((dn_lst (da_cons de_int (da_cons de_int da_nil)))).keep da_nil))).keep (de_int).peek)).keep.peek (nomark _)) (dss_one (ds_ret de_bl)) pss_nil)))))))))
    (dss_one (ds_ret de_bl)))
theorem ok_law (D : Dfs K mg) : FnG P w K mg base (L2.CX P w) 4 D.f_law D.fd_law ["_law_script"] (spM ⟨K, D.cl⟩ 1 false false m_law) :=
  fun_okG (cl := D.cl) (n := 1) (fm := m_law) D.F_law sc_law (by decide) (by rfl) (by unfold m_law; rfl) (bd_law D)
end
end Dl
namespace Dl
open PySem PySem.Spec PyProof.Rows L2
/-! ### steps of a mirror -/
abbrev vl (d : Dt) : Option Sl := some (.val d)
abbrev ow (d : Dt) : Option Sl := some (.own false d)
abbrev io (d : Dt) : Option Sl := some (.own true d)
abbrev nD (n : Nat) : Dt := .int (n : Int)
section
variable {α β : Type} {ρ ρ' ρ1 ρ2 ρ3 : En} {s t : En → So} {o : So} {m ma mb : Mi Dt} {ms : Mi (List Dt)} {d d1 d2 x y z : Dt} {ds es : List Dt} {i j n k : Nat} {f : List Dt → Fo} {c c' : Mi Bool} {b : Bool} {Q : So → Prop}
theorem seq_nx (h : s ρ = .nx ρ') (k : t ρ' = o) : sSeq s t ρ = o := by unfold sSeq; rw [h]; exact k
theorem set_ok (h : m ρ = .ok d ρ1) (k : setSl i (.val d) ρ1 = some ρ2) : sSet i m ρ = .nx ρ2 := by unfold sSet sBind; rw [h]; dsimp only; unfold sPut; rw [k]
theorem setN_ok (h : m ρ = .ok d ρ1) (k : setSl i (.own false d) ρ1 = some ρ2) : sSetN i m ρ = .nx ρ2 := by unfold sSetN sBind; rw [h]; dsimp only; unfold sPut; rw [k]
theorem ret_ok (h : m ρ = .ok d ρ1) : sRet m ρ = .rt d ρ1 := by unfold sRet sBind; rw [h]
theorem drop_ok (h : m ρ = .ok d ρ1) : sDrop m ρ = .nx ρ1 := by unfold sDrop sBind; rw [h]
theorem if_f (h : c ρ = .ok false ρ1) (k : t ρ1 = o) : sIf c s t ρ = o := by unfold sIf sBind; rw [h]; exact k
theorem pars_ok {is : List Nat} {ks : List Bool} (h : ms ρ = .ok ds ρ1) (k : putSls is ks ds ρ1 = some ρ2) : sPars is ks ms ρ = .nx ρ2 := by unfold sPars sBind; rw [h]; dsimp only; rw [k]
theorem for_ok {mi : Mi (List Dt)} {g : Dt → En → Option En} {bd : En → So} (h : mi ρ = .ok ds ρ1) (k : forGo g bd ds ρ1 = o) : sFor mi g bd ρ = o := by unfold sFor sBind; rw [h]; exact k
theorem bind_ok {a : α} {mm : Mi α} {k : α → Mi β} {r : Ou β} (h : mm ρ = .ok a ρ1) (q : k a ρ1 = r) : mBind mm k ρ = r := by unfold mBind; rw [h]; exact q
theorem m2_ok {f : Dt → Dt → Option Dt} (ha : ma ρ = .ok x ρ1) (hb : mb ρ1 = .ok y ρ2) (hf : f x y = some z) : m2 f ma mb ρ = .ok z ρ2 := by unfold m2 mBind; rw [ha]; dsimp only; rw [hb]; dsimp only; rw [hf]; rfl
theorem m1_ok {f : Dt → Option Dt} (ha : ma ρ = .ok x ρ1) (hf : f x = some z) : m1 f ma ρ = .ok z ρ1 := by unfold m1 mBind; rw [ha]; dsimp only; rw [hf]; rfl
theorem m1N_ok {f : Dt → Option (List Dt)} (ha : ma ρ = .ok x ρ1) (hf : f x = some es) : m1N f ma ρ = .ok (.lst es) ρ1 := by unfold m1N mBind; rw [ha]; dsimp only; rw [hf]; rfl
theorem cons_ok (h : m ρ = .ok d ρ1) (k : ms ρ1 = .ok ds ρ2) : mCons m ms ρ = .ok (d :: ds) ρ2 := by unfold mCons mBind; rw [h]; dsimp only; rw [k]; rfl
theorem tup_ok (h : ms ρ = .ok ds ρ1) (hl : ds.length ≤ sizeLine) : mTup ms ρ = .ok (.tup ds) ρ1 := by unfold mTup mBind; rw [h]; dsimp only; rw [if_pos hl]; rfl
theorem lst_ok (h : ms ρ = .ok ds ρ1) (hl : ds.length ≤ sizeLine) : mLst ms ρ = .ok (.lst ds) ρ1 := by unfold mLst mBind; rw [h]; dsimp only; rw [if_pos hl]; rfl
theorem tb_ok (h : m ρ = .ok (.bl b) ρ1) : mB m ρ = .ok b ρ1 := by unfold mB mBind; rw [h]; rfl
theorem not_ok (h : c ρ = .ok b ρ1) : mNot c ρ = .ok (!b) ρ1 := by unfold mNot mBind; rw [h]; rfl
theorem and_t (h : c ρ = .ok true ρ1) (k : c' ρ1 = .ok b ρ2) : mAnd c c' ρ = .ok b ρ2 := by unfold mAnd mBind; rw [h]; exact k
theorem and_f (h : c ρ = .ok false ρ1) : mAnd c c' ρ = .ok false ρ1 := by unfold mAnd mBind; rw [h]; rfl
theorem or_t (h : c ρ = .ok true ρ1) : mOr c c' ρ = .ok true ρ1 := by unfold mOr mBind; rw [h]; rfl
theorem or_f (h : c ρ = .ok false ρ1) (k : c' ρ1 = .ok b ρ2) : mOr c c' ρ = .ok b ρ2 := by unfold mOr mBind; rw [h]; exact k
theorem call_ok {r : Dt} (h : ms ρ = .ok ds ρ1) (hn : ds.length = n) (hf : f ds = .ret d r) : mCall n f ms ρ = .ok d ρ1 := by unfold mCall mBind; rw [h]; dsimp only; rw [if_pos hn, hf]
theorem callIo_ok {io0 io : Bool} {d0 d1 r : Dt} (h0 : ρ[i]? = some (some (.own io0 d0))) (h : ms ρ = .ok ds ρ1) (h1 : ρ1[i]? = some (some (.own io d1))) (hn : ds.length + 1 = n) (hf : f (d1 :: ds) = .ret d r) (hr : ρ1.set i (some (.own io r)) = ρ2) : mCallIo n f i ms ρ = .ok d ρ2 := by
  subst hr
  unfold mCallIo mBind
  rw [h0]; dsimp only; rw [h]; dsimp only; rw [h1]; dsimp only; rw [if_pos hn, hf]
theorem runF_rt {io0 : Bool} {bd : En → So} {r : Dt} (h : bd (argE io0 ds ++ List.replicate (k - ds.length) none) = .rt d ρ) (ho : ioOut io0 ρ = some r) : runF k io0 false bd ds = .ret d r := by unfold runF; rw [h]; dsimp only; rw [ho]
theorem rng1_ok {N : Int} (h : ms ρ = .ok [.int N] ρ1) (l0 : -(2 ^ 62) ≤ N) (l1 : N < 2 ^ 62) : mRng1 ms ρ = .ok (rngD 0 N.toNat) ρ1 := by
  unfold mRng1 mBind
  rw [h]
  simp only
  rw [if_pos ⟨l0, l1⟩]
  rfl
theorem rngD_map : ∀ (lo : Int) (n : Nat), rngD lo n = (List.range n).map fun (i : Nat) => Dt.int (lo + (i : Int))
  | lo, 0 => rfl
  | lo, n + 1 => by
    rw [List.range_succ_eq_map, List.map_cons, List.map_map]
    show Dt.int lo :: rngD (lo + 1) n = _
    rw [rngD_map (lo + 1) n]
    congr 1
    · simp
    · apply List.map_congr_left
      intro i _
      show Dt.int (lo + 1 + (i : Int)) = Dt.int (lo + ((i + 1 : Nat) : Int))
      congr 1
      omega
theorem rngD0 (n : Nat) : rngD 0 n = (List.range n).map nD := by
  rw [rngD_map]; apply List.map_congr_left; intro i _; simp
theorem rngN_ok {N : Nat} (h : ms ρ = .ok [nD N] ρ1) (l : N < 1000000) : mRng1 ms ρ = .ok ((List.range N).map nD) ρ1 := by
  rw [rng1_ok h (by omega) (by omega)]; rw [show ((N : Int)).toNat = N by omega, rngD0]
end
/-! ### loops -/
section
variable {α σ : Type} {g : Dt → En → Option En} {bd : En → So}
/-- a loop that runs through, by what holds between two turns -/
theorem forGo_inv (f : α → Dt) (I : List α → En → Prop) : ∀ (xs pre : List α) (ρ : En), I pre ρ → (∀ (p : List α) (x : α) (q : List α) (ρ : En), pre ++ xs = p ++ x :: q → I p ρ → ∃ ρ1, g (f x) ρ = some ρ1 ∧ ∃ ρ2, (bd ρ1 = .nx ρ2 ∨ bd ρ1 = .ct ρ2) ∧ I (p ++ [x]) ρ2) →
    ∃ ρ', forGo g bd (xs.map f) ρ = .nx ρ' ∧ I (pre ++ xs) ρ'
  | [], pre, ρ, h0, _ => ⟨ρ, rfl, by rw [List.append_nil]; exact h0⟩
  | x :: xs, pre, ρ, h0, h => by
    obtain ⟨ρ1, h1, ρ2, h2, h3⟩ := h pre x xs ρ rfl h0
    obtain ⟨ρ', h4, h5⟩ := forGo_inv f I xs (pre ++ [x]) ρ2 h3 fun p y q r e => h p y q r (by rw [← e, List.append_assoc]; rfl)
    refine ⟨ρ', ?_, by rw [List.append_assoc] at h5; exact h5⟩
    show forGo g bd (f x :: xs.map f) ρ = _
    unfold forGo
    rw [h1]; dsimp only
    rcases h2 with h2 | h2 <;> rw [h2] <;> exact h4
/-- the same where what holds does not hang on the turn -/
theorem forGo_all (f : α → Dt) (I : En → Prop) (xs : List α) (ρ : En) (h0 : I ρ) (h : ∀ x ∈ xs, ∀ ρ, I ρ → ∃ ρ1, g (f x) ρ = some ρ1 ∧ ∃ ρ2, (bd ρ1 = .nx ρ2 ∨ bd ρ1 = .ct ρ2) ∧ I ρ2) :
    ∃ ρ', forGo g bd (xs.map f) ρ = .nx ρ' ∧ I ρ' :=
  forGo_inv f (fun _ => I) xs [] ρ h0 fun p x q r e k => h x (by rw [List.nil_append] at e; rw [e]; simp) r k
end
/-! ### comprehensions -/
section
variable {α : Type} {g : Dt → En → Option En} {t : Mi Bool} {e : Mi Dt} {vs : List Nat}
theorem lcGo_pure (f : α → Dt) (tf : α → Bool) (ef : α → Dt) {ρ : En} : ∀ (xs : List α) (acc : List Dt), (∀ x ∈ xs, ∃ ρ1, g (f x) ρ = some ρ1 ∧ ∃ ρ2, t ρ1 = .ok (tf x) ρ2 ∧ (tf x = false → wipeE ρ2 vs = ρ) ∧ (tf x = true → ∃ ρ3, e ρ2 = .ok (ef x) ρ3 ∧ wipeE ρ3 vs = ρ)) → acc.length + xs.length ≤ 1000000 →
    lcGo g t e vs (xs.map f) acc ρ = .ok (acc ++ (xs.filter tf).map ef) ρ
  | [], acc, _, _ => by simp [lcGo]
  | x :: xs, acc, h, hl => by
    obtain ⟨ρ1, h1, ρ2, h2, h3, h4⟩ := h x (by simp)
    rw [List.length_cons] at hl
    show lcGo g t e vs (f x :: xs.map f) acc ρ = _
    unfold lcGo
    rw [h1]; dsimp only; rw [h2]
    cases hb : tf x with
    | false =>
      dsimp only
      rw [h3 hb, lcGo_pure f tf ef xs acc (fun y hy => h y (by simp [hy])) (by omega), List.filter_cons_of_neg (by rw [hb]; decide)]
    | true =>
      obtain ⟨ρ3, h5, h6⟩ := h4 hb
      dsimp only
      rw [h5]; dsimp only
      rw [if_pos (Nat.lt_of_lt_of_le (show acc.length < 1000000 by omega) (by decide)), h6, lcGo_pure f tf ef xs (acc ++ [ef x]) (fun y hy => h y (by simp [hy])) (by rw [List.length_append]; simp; omega), List.filter_cons_of_pos hb, List.map_cons, List.append_assoc]
      rfl
theorem rest_wipe (ρ : En) : ∀ (vs : List Nat), restE ρ (wipeE ρ vs) vs = ρ := fun vs => by
  apply List.ext_getElem?
  intro i
  by_cases hi : i ∈ vs
  · by_cases hl : i < ρ.length
    · have key : ∀ us : List Nat, i ∈ us → (restE ρ (wipeE ρ vs) us)[i]? = ρ[i]? := fun us => by
        induction us with
        | nil => intro h; cases h
        | cons u us ih =>
          intro h
          unfold restE
          by_cases hu : u = i
          · subst hu
            rw [List.getElem?_set_self (by rw [restE_len, wipeE_len]; exact hl), List.getElem?_eq_getElem hl]
            rfl
          · rw [List.getElem?_set_ne hu]
            cases h with
            | head => exact absurd rfl hu
            | tail _ h => exact ih h
      exact key vs hi
    · rw [List.getElem?_eq_none (by rw [restE_len, wipeE_len]; omega), List.getElem?_eq_none (by omega)]
  · rw [restE_out hi]
    have key : ∀ us : List Nat, i ∉ us → (wipeE ρ us)[i]? = ρ[i]? := fun us => by
      induction us with
      | nil => intro _; rfl
      | cons u us ih =>
        intro h
        simp only [List.mem_cons, not_or] at h
        unfold wipeE
        rw [List.getElem?_set_ne fun z => h.1 z.symm, ih h.2]
    exact key vs hi
theorem lc_ok {mi : Mi (List Dt)} {ρ ρ0 : En} (xs : List α) (f : α → Dt) (tf : α → Bool) (ef : α → Dt) (hi : mi ρ = .ok (xs.map f) ρ0) (ho : ownAny ρ0 vs = false)
    (h : ∀ x ∈ xs, ∃ ρ1, g (f x) (wipeE ρ0 vs) = some ρ1 ∧ ∃ ρ2, t ρ1 = .ok (tf x) ρ2 ∧ (tf x = false → wipeE ρ2 vs = wipeE ρ0 vs) ∧ (tf x = true → ∃ ρ3, e ρ2 = .ok (ef x) ρ3 ∧ wipeE ρ3 vs = wipeE ρ0 vs)) (hl : xs.length ≤ 1000000) :
    mLc mi g t e vs ρ = .ok (.lst ((xs.filter tf).map ef)) ρ0 := by
  unfold mLc mBind
  rw [hi]; dsimp only
  rw [if_neg (by rw [ho]; decide), lcGo_pure f tf ef xs [] h (by simpa using hl)]
  dsimp only
  rw [rest_wipe, List.nil_append]
/-- without an if -/
theorem lc_map {mi : Mi (List Dt)} {ρ ρ0 : En} (xs : List α) (f : α → Dt) (ef : α → Dt) (hi : mi ρ = .ok (xs.map f) ρ0) (ho : ownAny ρ0 vs = false)
    (h : ∀ x ∈ xs, ∃ ρ1, g (f x) (wipeE ρ0 vs) = some ρ1 ∧ ∃ ρ3, e ρ1 = .ok (ef x) ρ3 ∧ wipeE ρ3 vs = wipeE ρ0 vs) (hl : xs.length ≤ 1000000) :
    mLc mi g (mPure true) e vs ρ = .ok (.lst (xs.map ef)) ρ0 := by
  rw [lc_ok xs f (fun _ => true) ef hi ho (fun x hx => by
    obtain ⟨ρ1, h1, ρ3, h2, h3⟩ := h x hx
    exact ⟨ρ1, h1, ρ1, rfl, (fun z => by cases z), fun _ => ⟨ρ3, h2, h3⟩⟩) hl]
  rw [List.filter_eq_self.mpr fun _ _ => rfl]
/-- what a comprehension with draws leaves: by what holds between two turns -/
theorem lcGo_inv (f : α → Dt) (I : List α → List Dt → En → Prop) : ∀ (xs pre : List α) (acc : List Dt) (ρ : En), I pre acc ρ → acc.length + xs.length ≤ 1000000 → (∀ (p : List α) (x : α) (q : List α) (acc : List Dt) (ρ : En), pre ++ xs = p ++ x :: q → I p acc ρ → ∃ ρ1, g (f x) ρ = some ρ1 ∧ ∃ b ρ2, t ρ1 = .ok b ρ2 ∧ (b = false → I (p ++ [x]) acc (wipeE ρ2 vs)) ∧ (b = true → ∃ y ρ3, e ρ2 = .ok y ρ3 ∧ I (p ++ [x]) (acc ++ [y]) (wipeE ρ3 vs))) →
    ∃ acc' ρ', lcGo g t e vs (xs.map f) acc ρ = .ok acc' ρ' ∧ I (pre ++ xs) acc' ρ'
  | [], pre, acc, ρ, h0, _, _ => ⟨acc, ρ, by simp [lcGo], by rw [List.append_nil]; exact h0⟩
  | x :: xs, pre, acc, ρ, h0, hl, h => by
    obtain ⟨ρ1, h1, b, ρ2, h2, h3, h4⟩ := h pre x xs acc ρ rfl h0
    rw [List.length_cons] at hl
    have step : ∀ p y q acc ρ, (pre ++ [x]) ++ xs = p ++ y :: q → I p acc ρ → ∃ ρ1, g (f y) ρ = some ρ1 ∧ ∃ b ρ2, t ρ1 = .ok b ρ2 ∧ (b = false → I (p ++ [y]) acc (wipeE ρ2 vs)) ∧ (b = true → ∃ y' ρ3, e ρ2 = .ok y' ρ3 ∧ I (p ++ [y]) (acc ++ [y']) (wipeE ρ3 vs)) := fun p y q acc ρ ee => h p y q acc ρ (by rw [← ee, List.append_assoc]; rfl)
    cases b with
    | false =>
      obtain ⟨a', ρ', h5, h6⟩ := lcGo_inv f I xs (pre ++ [x]) acc _ (h3 rfl) (by omega) step
      refine ⟨a', ρ', ?_, by rw [List.append_assoc] at h6; exact h6⟩
      show lcGo g t e vs (f x :: xs.map f) acc ρ = _
      unfold lcGo
      rw [h1]; dsimp only; rw [h2]; exact h5
    | true =>
      obtain ⟨y, ρ3, h7, h8⟩ := h4 rfl
      obtain ⟨a', ρ', h5, h6⟩ := lcGo_inv f I xs (pre ++ [x]) (acc ++ [y]) _ h8 (by rw [List.length_append]; simp; omega) step
      refine ⟨a', ρ', ?_, by rw [List.append_assoc] at h6; exact h6⟩
      show lcGo g t e vs (f x :: xs.map f) acc ρ = _
      unfold lcGo
      rw [h1]; dsimp only; rw [h2]; dsimp only; rw [h7]; dsimp only
      rw [if_pos (Nat.lt_of_lt_of_le (show acc.length < 1000000 by omega) (by decide))]; exact h5
end
/-! ### small facts -/
theorem sl_le {n : Nat} (h : n ≤ 1000000) : n ≤ sizeLine := Nat.le_trans h (by decide)
theorem atI_nat {α : Type} (l : List α) (i : Nat) : atI l (i : Int) = l[i]? := by
  by_cases h : i < l.length
  · simp [atI, ixN, h]
  · simp [atI, ixN, h]
/-- a slot that a loop's variable left -/
def lv : Option Dt → Option Sl
  | none => none
  | some d => some (.val d)
theorem feq_int (a b : Int) : fEq (.int a) (.int b) = some (.bl (decide (a = b))) := by
  by_cases h : a = b
  · subst h; simp [fEq, dEq, toPy, SeqAt.shaped, PyData.canLay0, PyData.depth, PyData.eqv]
  · simp [fEq, dEq, toPy, SeqAt.shaped, PyData.canLay0, PyData.depth, PyData.eqv, h]
theorem fne_int (a b : Int) : fNe (.int a) (.int b) = some (.bl (!decide (a = b))) := by
  have h := feq_int a b
  unfold fEq at h
  unfold fNe
  cases q : dEq (.int a) (.int b) with
  | none => rw [q] at h; cases h
  | some v => rw [q] at h; simp at h; rw [h]; rfl
end Dl
namespace Dl
open PySem PySem.Spec PyProof.Rows L2
/-! ### draws (the first sort of law) -/
theorem atI0 {α : Type} (x : α) (l : List α) : atI (x :: l) 0 = some x := by
  simp [atI, ixN]
theorem atI_nn {α : Type} (l : List α) {i : Int} (h0 : 0 ≤ i) (h1 : i < l.length) : atI l i = l[i.toNat]? := by
  simp [atI, ixN, h0, h1]
theorem atI1 {α : Type} (x y : α) (l : List α) : atI (x :: y :: l) 1 = some y := by
  rw [atI_nn _ (by decide) (by simp; omega)]; rfl
theorem atI2 {α : Type} (x y z : α) (l : List α) : atI (x :: y :: z :: l) 2 = some z := by
  rw [atI_nn _ (by decide) (by simp; omega)]; rfl
/-- a box of draws -/
def bxD (b : Int × Int × Int) : Dt := .lst [.int b.1, .int b.2.1, .int b.2.2]
theorem take_pos {c s t b : Int} (hc : 0 < c) (hb : 0 < b) (hb2 : b < 1267650600228229401496703205376) :
    m_law_take [bxD (c, s, t), .int b] = .ret (.int (c % b)) (bxD (c / b, s, t)) := by
  simp [bxD, m_law_take, runF, b_law_take, sSeq, sIf, sBind, mB, m2, m1, mBind, mOpt, mPure, hasSl, mIxV, mPeek, mVar, fI, fIx, fGt, argE, atI0, hc, sSet, sPut, setSl, fMod, hb, fInt, fDiv, CDivX, hb2, sLput, putL, mMut, sRet, ioOut, ixN]
def tRaw (s t : Int) : Int := ((s + 104729 * (t + 1)) * 69623) % 2147483647
def tSeed (s t : Int) : Int := (tRaw s t * 48271 + 30103) % 2147483629 + 1
theorem take_zero {c s t b : Int} (hc : ¬ 0 < c) (hb : 0 < b) (hb2 : b < 1099511627776) :
    m_law_take [bxD (c, s, t), .int b] = .ret (.int ((tRaw s t * 2147483647 + tSeed s t) / 8191 % b)) (bxD (c, tSeed s t, t + 1)) := by
  simp [bxD, m_law_take, runF, b_law_take, sSeq, sIf, sBind, mB, m2, m1, mBind, mOpt, mPure, hasSl, mIxV, mPeek, mVar, fI, fIx, fGt, argE, atI0, atI1, atI2, hc, sSet, sPut, setSl, fMod, hb, fInt, fDiv, CDivX, hb2, sLput, putL, mMut, sRet, ioOut, ixN, fMulI, CMul, fAdd, fPow, CPow, fLt, tRaw, tSeed]
theorem take_wide {c s t b : Int} (hc : ¬ 0 < c) (hb : 0 < b) (hb2 : ¬ b < 1099511627776) :
    m_law_take [bxD (c, s, t), .int b] = .ret (.int (((tRaw s t * 2147483647 + tSeed s t) * 2147483629 ^ 3 + tSeed s t ^ 3 * 8191 + tRaw s t) % b)) (bxD (c, tSeed s t, t + 1)) := by
  have r0 : 0 ≤ tRaw s t := Int.emod_nonneg _ (by decide)
  have r1 : tRaw s t < 2147483647 := Int.emod_lt_of_pos _ (by decide)
  have s0 : 0 ≤ tSeed s t := by
    have := Int.emod_nonneg (tRaw s t * 48271 + 30103) (show (2147483629 : Int) ≠ 0 by decide)
    unfold tSeed; omega
  have s1 : tSeed s t ≤ 2147483629 := by
    have := Int.emod_lt_of_pos (tRaw s t * 48271 + 30103) (show (0 : Int) < 2147483629 by decide)
    unfold tSeed; omega
  have q1 : (tSeed s t).natAbs < 18446744073709551616 := by omega
  have q2 : -18446744073709551616 < tRaw s t * 2147483647 + tSeed s t := by omega
  have q3 : tRaw s t * 2147483647 + tSeed s t < 18446744073709551616 := by omega
  have eR : (s + 104729 * (t + 1)) * 69623 % 2147483647 = tRaw s t := rfl
  have eS : (tRaw s t * 48271 + 30103) % 2147483629 + 1 = tSeed s t := rfl
  generalize hR : tRaw s t = R at *
  generalize hS : tSeed s t = S at *
  simp [bxD, m_law_take, runF, b_law_take, sSeq, sIf, sBind, mB, m2, m1, mBind, mOpt, mPure, hasSl, mIxV, mPeek, mVar, fI, fIx, fGt, argE, atI0, atI1, atI2, hc, sSet, sPut, setSl, fMod, hb, fInt, fDiv, CDivX, hb2, sLput, putL, mMut, sRet, ioOut, ixN, fMulI, CMul, fAdd, fPow, CPow, fLt, eR, eS, q1, q2, q3]
theorem take_any (q : Int × Int × Int) (b : Int) (hb : 0 < b) (hb2 : b < 1267650600228229401496703205376) : ∃ d q', 0 ≤ d ∧ d < b ∧ m_law_take [bxD q, .int b] = .ret (.int d) (bxD q') := by
  obtain ⟨c, s, t⟩ := q
  by_cases hc : 0 < c
  · exact ⟨_, _, Int.emod_nonneg _ (by omega), Int.emod_lt_of_pos _ hb, take_pos hc hb hb2⟩
  · by_cases h : b < 1099511627776
    · exact ⟨_, _, Int.emod_nonneg _ (by omega), Int.emod_lt_of_pos _ hb, take_zero hc hb h⟩
    · exact ⟨_, _, Int.emod_nonneg _ (by omega), Int.emod_lt_of_pos _ hb, take_wide hc hb h⟩
/-- a natural number is drawn -/
theorem take_nat (q : Int × Int × Int) (b : Nat) (hb : 0 < b) (hb2 : b < 1267650600228229401496703205376) : ∃ (d : Nat) (q' : Int × Int × Int), d < b ∧ m_law_take [bxD q, nD b] = .ret (nD d) (bxD q') := by
  obtain ⟨d, q', h1, h2, h3⟩ := take_any q b (by omega) (by omega)
  obtain ⟨n, rfl⟩ : ∃ n : Nat, d = n := ⟨d.toNat, by omega⟩
  exact ⟨n, q', by omega, h3⟩
theorem sl2 : 2 ≤ sizeLine := by decide
theorem sl3 : 3 ≤ sizeLine := by decide
theorem box_any (ns : List Int) (k o : Int) (hk : 0 ≤ k) : ∃ q, m_law_box [.scr ns, .int k, .int o] = .ret (bxD q) .non := by
  have go : (∃ c s, m_law_box [.scr ns, .int k, .int o] = .ret (.lst [.int c, .int s, .int 0]) .non) → ∃ q, m_law_box [.scr ns, .int k, .int o] = .ret (bxD q) .non := fun ⟨c, s, h⟩ => ⟨(c, s, 0), h⟩
  refine go ?_
  by_cases h1 : k < ns.length
  · have hk2 : k.toNat < ns.length := by omega
    by_cases h3 : 1000000000000000000 ≤ (if ns[k.toNat] < 0 then -ns[k.toNat] else ns[k.toNat])
    · simp [m_law_box, runF, b_law_box, sSeq, sIf, sBind, mB, m2, m1, mBind, mOpt, mPure, hasSl, mIxV, mPeek, mVar, fI, fIx, fGt, fGe, argE, sSet, sPut, setSl, fMod, fInt, sRetN, ioOut, fMulI, CMul, fAdd, fPow, CPow, fLt, fLen, mLst, mCons, fAbs, atI0, atI1, sl2, sl3, atI_nn _ hk h1, h1, hk2, h3]
    · simp [m_law_box, runF, b_law_box, sSeq, sIf, sBind, mB, m2, m1, mBind, mOpt, mPure, hasSl, mIxV, mPeek, mVar, fI, fIx, fGt, fGe, argE, sSet, sPut, setSl, fMod, fInt, sRetN, ioOut, fMulI, CMul, fAdd, fPow, CPow, fLt, fLen, mLst, mCons, fAbs, atI0, atI1, sl2, sl3, atI_nn _ hk h1, h1, hk2, h3]
  · by_cases h2 : 0 < ns.length
    · have q1 : 0 ≤ k % (ns.length : Int) := Int.emod_nonneg _ (by omega)
      have q2 : k % (ns.length : Int) < ns.length := Int.emod_lt_of_pos _ (by omega)
      have hk2 : (k % (ns.length : Int)).toNat < ns.length := by omega
      by_cases h3 : 1000000000000000000 ≤ 7727 * k + 104729 * o + 43 + (if ns[(k % (ns.length : Int)).toNat] < 0 then -ns[(k % (ns.length : Int)).toNat] else ns[(k % (ns.length : Int)).toNat]) % 2147483629 * 69623
      · simp [m_law_box, runF, b_law_box, sSeq, sIf, sBind, mB, m2, m1, mBind, mOpt, mPure, hasSl, mIxV, mPeek, mVar, fI, fIx, fGt, fGe, argE, sSet, sPut, setSl, fMod, fInt, sRetN, ioOut, fMulI, CMul, fAdd, fPow, CPow, fLt, fLen, mLst, mCons, fAbs, atI0, atI1, sl2, sl3, h1, h2, atI_nn _ q1 q2, List.getElem?_eq_getElem hk2, h3]
      · simp [m_law_box, runF, b_law_box, sSeq, sIf, sBind, mB, m2, m1, mBind, mOpt, mPure, hasSl, mIxV, mPeek, mVar, fI, fIx, fGt, fGe, argE, sSet, sPut, setSl, fMod, fInt, sRetN, ioOut, fMulI, CMul, fAdd, fPow, CPow, fLt, fLen, mLst, mCons, fAbs, atI0, atI1, sl2, sl3, h1, h2, atI_nn _ q1 q2, List.getElem?_eq_getElem hk2, h3]
    · by_cases h3 : 1000000000000000000 ≤ 7727 * k + 104729 * o + 43
      · simp [m_law_box, runF, b_law_box, sSeq, sIf, sBind, mB, m2, m1, mBind, mOpt, mPure, hasSl, mIxV, mPeek, mVar, fI, fIx, fGt, fGe, argE, sSet, sPut, setSl, fMod, fInt, sRetN, ioOut, fMulI, CMul, fAdd, fPow, CPow, fLt, fLen, mLst, mCons, fAbs, atI0, atI1, sl2, sl3, h1, h2, h3]
      · simp [m_law_box, runF, b_law_box, sSeq, sIf, sBind, mB, m2, m1, mBind, mOpt, mPure, hasSl, mIxV, mPeek, mVar, fI, fIx, fGt, fGe, argE, sSet, sPut, setSl, fMod, fInt, sRetN, ioOut, fMulI, CMul, fAdd, fPow, CPow, fLt, fLen, mLst, mCons, fAbs, atI0, atI1, sl2, sl3, h1, h2, h3]
theorem pick_any (q : Int × Int × Int) (xs : List Dt) (h0 : 0 < xs.length) (h1 : xs.length < 1000000) : ∃ x q', x ∈ xs ∧ m_law_pick [bxD q, .lst xs] = .ret x (bxD q') := by
  obtain ⟨d, q', h2, h4⟩ := take_nat q xs.length h0 (by omega)
  refine ⟨xs[d], q', List.getElem_mem h2, ?_⟩
  refine runF_rt (ρ := [io (bxD q'), vl (.lst xs)]) (ret_ok ?_) rfl
  show hasSl 1 (mIxV 1 (mCallIo 2 m_law_take 0 (mCons (m1 fLen (mPeek 1)) (mPure [])))) [io (bxD q), vl (.lst xs)] = _
  show mIxV 1 (mCallIo 2 m_law_take 0 (mCons (m1 fLen (mPeek 1)) (mPure []))) [io (bxD q), vl (.lst xs)] = _
  refine bind_ok (callIo_ok (d0 := bxD q) (io0 := true) (io := true) (d1 := bxD q) rfl (cons_ok (m1_ok rfl rfl) rfl) rfl rfl h4 rfl) ?_
  refine bind_ok (a := .lst xs) (ρ1 := [io (bxD q'), vl (.lst xs)]) rfl ?_
  show mOpt (fIx (.lst xs) (.int (d : Int))) _ = _
  rw [show fIx (.lst xs) (.int (d : Int)) = atI xs (d : Int) from rfl, atI_nat, List.getElem?_eq_getElem h2]
  rfl
/-! ### a list in another order -/
end Dl
namespace Dl
open PySem PySem.Spec PyProof.Rows L2
/-! ### lists of numbers -/
/-! ### rows -/
structure GoodRow (p : Nat) (r : List Nat × List Nat) : Prop where
  nd : r.1.Nodup
  lt : ∀ x ∈ r.1, x < p
  pm : r.2.Perm (List.range p)
theorem nodup_le : ∀ (p : Nat) (l : List Nat), l.Nodup → (∀ x ∈ l, x < p) → l.length ≤ p
  | 0, [], _, _ => Nat.le_refl _
  | 0, x :: l, _, h => absurd (h x (by simp)) (by omega)
  | p + 1, l, nd, h => by
    by_cases hp : p ∈ l
    · have h1 := nodup_le p (l.erase p) (nd.erase p) fun x hx => by
        have h2 : x ∈ l := List.mem_of_mem_erase hx
        have h3 : x ≠ p := fun z => by rw [z] at hx; exact (List.Nodup.not_mem_erase nd) hx
        have := h x h2
        omega
      rw [List.length_erase_of_mem hp] at h1
      omega
    · have h1 := nodup_le p l nd fun x hx => by
        have := h x hx
        have h3 : x ≠ p := fun z => hp (z ▸ hx)
        omega
      omega
theorem GoodRow.le {p : Nat} {r : List Nat × List Nat} (h : GoodRow p r) : r.1.length ≤ p := nodup_le p r.1 h.nd h.lt
theorem GoodRow.len {p : Nat} {r : List Nat × List Nat} (h : GoodRow p r) : r.2.length = p := by rw [h.pm.length_eq, List.length_range]
section
variable {α : Type} {g : Dt → En → Option En} {t : Mi Bool} {e : Mi Dt} {vs : List Nat}
theorem lc_inv {mi : Mi (List Dt)} {ρ ρ0 : En} (xs : List α) (f : α → Dt) (I : List α → List Dt → En → Prop) (hi : mi ρ = .ok (xs.map f) ρ0) (ho : ownAny ρ0 vs = false) (h0 : I [] [] (wipeE ρ0 vs)) (hl : xs.length ≤ 1000000)
    (h : ∀ (p : List α) (x : α) (q : List α) (acc : List Dt) (ρ : En), xs = p ++ x :: q → I p acc ρ → ∃ ρ1, g (f x) ρ = some ρ1 ∧ ∃ b ρ2, t ρ1 = .ok b ρ2 ∧ (b = false → I (p ++ [x]) acc (wipeE ρ2 vs)) ∧ (b = true → ∃ y ρ3, e ρ2 = .ok y ρ3 ∧ I (p ++ [x]) (acc ++ [y]) (wipeE ρ3 vs))) :
    ∃ acc ρ', mLc mi g t e vs ρ = .ok (.lst acc) (restE ρ0 ρ' vs) ∧ I xs acc ρ' := by
  obtain ⟨acc, ρ', h1, h2⟩ := lcGo_inv (g := g) (t := t) (e := e) (vs := vs) f I xs [] [] (wipeE ρ0 vs) h0 (by simpa using hl) fun p x q acc ρ ee => h p x q acc ρ (by simpa using ee)
  refine ⟨acc, ρ', ?_, h2⟩
  unfold mLc mBind
  rw [hi]; dsimp only
  rw [if_neg (by rw [ho]; decide), h1]
end
/-! ### a drawn rota -/
end Dl
namespace Dl
open PySem PySem.Spec PyProof.Rows L2
/-! ### the ways of wheels, as mathematics -/
abbrev Rw := List Nat × List Nat
def mvR (r : Rw) (s : Nat) : Nat := r.2.getD s 0
def rowAt (rs : List Rw) (d : Nat) : Rw := rs.getD (d % rs.length) ([], [])
def pos (rs : List Rw) (w : Nat) : Nat → Nat
  | 0 => w
  | d + 1 => mvR (rowAt rs d) (pos rs w d)
structure Good (p : Nat) (rs : List Rw) : Prop where
  n0 : 0 < rs.length
  row : ∀ r ∈ rs, GoodRow p r
variable {p : Nat} {rs : List Rw}
theorem Good.at (h : Good p rs) (d : Nat) : GoodRow p (rowAt rs d) := by
  unfold rowAt
  have hd : d % rs.length < rs.length := Nat.mod_lt _ h.n0
  rw [List.getD_eq_getElem?_getD, List.getElem?_eq_getElem hd]
  exact h.row _ (List.getElem_mem hd)
theorem mvR_lt {r : Rw} (h : GoodRow p r) {s : Nat} (hs : s < p) : mvR r s < p ∧ r.2[s]? = some (mvR r s) := by
  have hl : s < r.2.length := by rw [h.len]; exact hs
  unfold mvR
  rw [List.getD_eq_getElem?_getD, List.getElem?_eq_getElem hl]
  exact ⟨List.mem_range.mp (h.pm.mem_iff.mp (List.getElem_mem hl)), rfl⟩
theorem mvR_inj {r : Rw} (h : GoodRow p r) {a b : Nat} (ha : a < p) (hb : b < p) (e : mvR r a = mvR r b) : a = b := by
  have h1 := (mvR_lt h ha).2
  have h2 := (mvR_lt h hb).2
  have nd : r.2.Nodup := h.pm.nodup_iff.mpr List.nodup_range
  have la : a < r.2.length := by rw [h.len]; exact ha
  have lb : b < r.2.length := by rw [h.len]; exact hb
  rw [List.getElem?_eq_getElem la] at h1
  rw [List.getElem?_eq_getElem lb] at h2
  have e3 : r.2[a] = r.2[b] := by rw [Option.some.inj h1, Option.some.inj h2]; exact e
  exact (List.getElem_inj nd).mp e3
theorem pos_lt (h : Good p rs) {w : Nat} (hw : w < p) : ∀ d, pos rs w d < p
  | 0 => hw
  | d + 1 => (mvR_lt (h.at d) (pos_lt h hw d)).1
theorem pos_inj (h : Good p rs) {a b : Nat} (ha : a < p) (hb : b < p) : ∀ d, pos rs a d = pos rs b d → a = b
  | 0, e => e
  | d + 1, e => pos_inj h ha hb d (mvR_inj (h.at d) (pos_lt h ha d) (pos_lt h hb d) e)
theorem pos_shift (w k : Nat) : ∀ d, pos rs (pos rs w (rs.length * k)) d = pos rs w (rs.length * k + d)
  | 0 => rfl
  | d + 1 => by
    show mvR (rowAt rs d) (pos rs (pos rs w (rs.length * k)) d) = mvR (rowAt rs (rs.length * k + d)) (pos rs w (rs.length * k + d))
    rw [pos_shift w k d]
    unfold rowAt
    rw [Nat.mul_add_mod]
theorem pigeon (f : Nat → Nat) (p : Nat) (h : ∀ i, i ≤ p → f i < p) : ∃ i j, i < j ∧ j ≤ p ∧ f i = f j := by
  apply Classical.byContradiction
  intro hn
  have hd : ∀ i j, i < j → j ≤ p → f i ≠ f j := fun i j h1 h2 e => hn ⟨i, j, h1, h2, e⟩
  have nd : ((List.range (p + 1)).map f).Nodup := by
    rw [List.nodup_iff_pairwise_ne, List.pairwise_map]
    refine List.Pairwise.imp_of_mem (fun {a b} ha hb hab => ?_) (List.pairwise_lt_range (n := p + 1))
    have := List.mem_range.mp hb
    exact hd a b hab (by omega)
  have := nodup_le p _ nd fun x hx => by
    obtain ⟨i, hi, rfl⟩ := List.mem_map.mp hx
    have := List.mem_range.mp hi
    exact h i (by omega)
  rw [List.length_map, List.length_range] at this
  omega
theorem back (h : Good p rs) {w : Nat} (hw : w < p) : ∃ j, j < p ∧ pos rs w (rs.length * (j + 1)) = w := by
  obtain ⟨i, j, h1, h2, e⟩ := pigeon (fun k => pos rs w (rs.length * k)) p fun k _ => pos_lt h hw _
  have e2 : pos rs (pos rs w (rs.length * (j - i))) (rs.length * i) = pos rs w (rs.length * i) := by
    rw [pos_shift, ← Nat.mul_add, show j - i + i = j by omega]; exact e.symm
  have e3 := pos_inj h (pos_lt h hw _) hw _ e2
  exact ⟨j - i - 1, by omega, by rw [show j - i - 1 + 1 = j - i by omega]; exact e3⟩
/-! ### due days -/
def isDue (rs : List Rw) (w d : Nat) : Bool := decide (pos rs w d ∈ (rowAt rs d).1)
end Dl
namespace Dl
open PySem PySem.Spec PyProof.Rows L2
variable {p : Nat} {rs : List Rw}
theorem find_one {p : Nat} {f : Nat → Nat} (hf : ∀ a b, a < p → b < p → f a = f b → a = b) {w : Nat} (hw : w < p) : (List.range p).filter (fun v => decide (f v = f w)) = [w] := by
  have h1 : ∀ n, n ≤ p → (List.range n).filter (fun v => decide (f v = f w)) = if w < n then [w] else [] := fun n => by
    induction n with
    | zero => intro _; rfl
    | succ n ih =>
      intro hn
      rw [List.range_succ, List.filter_append, ih (by omega)]
      by_cases e : n = w
      · subst e
        rw [if_neg (by omega), if_pos (by omega)]
        simp
      · have ne : f n ≠ f w := fun z => e (hf n w (by omega) hw z)
        rw [List.filter_cons_of_neg (by simpa using ne)]
        by_cases hlt : w < n
        · rw [if_pos hlt, if_pos (by omega)]; rfl
        · rw [if_neg hlt, if_neg (by omega)]; rfl
  rw [h1 p (Nat.le_refl _), if_pos hw]
end Dl
namespace Dl
open PySem PySem.Spec PyProof.Rows L2
/-! ### data that are compared -/
inductive Flt : Nat → Dt → Prop
  | non {k : Nat} : Flt k .non
  | bl {k : Nat} (b : Bool) : Flt k (.bl b)
  | int {k : Nat} (i : Int) : Flt k (.int i)
  | str {k : Nat} {x : Str} (h : PyData.canLay0 (.str x) = true) : Flt k (.str x)
  | lst {k : Nat} {xs : List Dt} (h : ∀ x ∈ xs, Flt k x) : Flt (k + 1) (.lst xs)
  | tup {k : Nat} {xs : List Dt} (h : ∀ x ∈ xs, Flt k x) : Flt (k + 1) (.tup xs)
structure PyOk (k : Nat) (d : Dt) (p : PyData) : Prop where
  e : toPy d = some p
  lay : p.canLay0 = true
  dep : p.depth ≤ k
  refl : PyData.eqv p p = true
theorem pys_of {k : Nat} : ∀ {xs : List Dt}, (∀ x ∈ xs, ∃ p, PyOk k x p) → ∃ ps, toPys xs = some ps ∧ PyData.canLayAll0 ps = true ∧ PyData.depthAll ps ≤ k ∧ PyData.eqvAll ps ps = true
  | [], _ => ⟨[], rfl, by simp [PyData.canLayAll0], by simp [PyData.depthAll], by simp [PyData.eqvAll]⟩
  | x :: xs, h => by
    obtain ⟨p, h1⟩ := h x (by simp)
    obtain ⟨ps, h2, h3, h4, h5⟩ := pys_of (xs := xs) fun y hy => h y (by simp [hy])
    refine ⟨p :: ps, ?_, ?_, ?_, ?_⟩
    · unfold toPys; rw [h1.e, h2]
    · simp [PyData.canLayAll0, h1.lay, h3]
    · simp only [PyData.depthAll]; have := h1.dep; omega
    · simp [PyData.eqvAll, h1.refl, h5]
theorem Flt.py {k : Nat} {d : Dt} (h : Flt k d) : ∃ p, PyOk k d p := by
  induction h with
  | non => exact ⟨.none, rfl, by simp [PyData.canLay0], by simp [PyData.depth], by simp [PyData.eqv]⟩
  | bl b => exact ⟨.bool b, rfl, by simp [PyData.canLay0], by simp [PyData.depth], by simp [PyData.eqv]⟩
  | int i => exact ⟨.int i, rfl, by simp [PyData.canLay0], by simp [PyData.depth], by simp [PyData.eqv]⟩
  | @str k x h => exact ⟨.str x, rfl, h, by simp [PyData.depth], by simp [PyData.eqv]⟩
  | @lst k xs h ih =>
    obtain ⟨ps, h1, h2, h3, h4⟩ := pys_of ih
    exact ⟨.list ps, by unfold toPy; rw [h1]; rfl, by simpa [PyData.canLay0] using h2, by simp only [PyData.depth]; omega, by simpa [PyData.eqv] using h4⟩
  | @tup k xs h ih =>
    obtain ⟨ps, h1, h2, h3, h4⟩ := pys_of ih
    exact ⟨.tuple ps, by unfold toPy; rw [h1]; rfl, by simpa [PyData.canLay0] using h2, by simp only [PyData.depth]; omega, by simpa [PyData.eqv] using h4⟩
theorem PyOk.shaped {k : Nat} {d : Dt} {p : PyData} (h : PyOk k d p) (hk : k ≤ 60) : SeqAt.shaped p = true := by
  unfold SeqAt.shaped
  rw [h.lay, decide_eq_true (by have := h.dep; omega)]; rfl
theorem dEq_self {k : Nat} {d : Dt} (h : Flt k d) (hk : k ≤ 60) : dEq d d = some true := by
  obtain ⟨p, hp⟩ := h.py
  unfold dEq
  rw [hp.e]; dsimp only
  rw [hp.shaped hk, Bool.and_self, if_pos rfl, hp.refl]
theorem feq_self {k : Nat} {d : Dt} (h : Flt k d) (hk : k ≤ 60) : fEq d d = some (.bl true) := by unfold fEq; rw [dEq_self h hk]; rfl
theorem fne_self {k : Nat} {d : Dt} (h : Flt k d) (hk : k ≤ 60) : fNe d d = some (.bl false) := by unfold fNe; rw [dEq_self h hk]; rfl
theorem flt_nats {k : Nat} (l : List Nat) : ∀ x ∈ l.map nD, Flt k x := fun x hx => by
  obtain ⟨n, _, rfl⟩ := List.mem_map.mp hx
  exact .int _
/-! ### the law's own going -/
variable {p : Nat} {rs : List Rw}
def prD (q : Nat × Nat) : Dt := .tup [nD q.1, nD q.2]
def dueAt (p : Nat) (rs : List Rw) (d : Nat) : List (Nat × Nat) := ((List.range p).filter fun w => isDue rs w d).map fun w => (d, w)
def dueP (p : Nat) (rs : List Rw) (D : Nat) : List (Nat × Nat) := (List.range D).flatMap (dueAt p rs)
theorem dueP_succ (D : Nat) : dueP p rs (D + 1) = dueP p rs D ++ dueAt p rs D := by
  unfold dueP; rw [List.range_succ, List.flatMap_append]; simp
theorem dueAt_len (d : Nat) : (dueAt p rs d).length ≤ p := by
  unfold dueAt
  rw [List.length_map]
  have := List.length_filter_le (fun w => isDue rs w d) (List.range p)
  rwa [List.length_range] at this
theorem dueP_len : ∀ D, (dueP p rs D).length ≤ D * p
  | 0 => by simp [dueP]
  | D + 1 => by
    have h1 := dueP_len D
    have h2 := dueAt_len (p := p) (rs := rs) D
    rw [dueP_succ, List.length_append, Nat.succ_mul]
    omega
end Dl
namespace Dl
open PySem PySem.Spec PyProof.Rows L2
/-! ### the cells of a script -/
def cellN (ns : List Int) : Nat := max 1 (min 3 ns.length)
theorem cells_ok {ns : List Int} {ρ : En} (h : ρ[0]? = some (vl (.scr ns))) : mRng1 (mCons (m2 fMax2 (mPure (.int 1)) (m2 fMin2 (mPure (.int 3)) (m1 fLen (mPeek 0)))) (mPure [])) ρ = .ok ((List.range (cellN ns)).map nD) ρ := by
  refine rngN_ok (cons_ok (m2_ok rfl (m2_ok rfl (m1_ok (x := .scr ns) (z := nD ns.length) ?_ rfl) rfl) ?_) rfl) (by unfold cellN; omega)
  · unfold mPeek; rw [h]
  · show some (Dt.int _) = some (Dt.int _)
    congr 2
    unfold cellN
    show (if (if (ns.length : Int) < 3 then (ns.length : Int) else 3) > 1 then (if (ns.length : Int) < 3 then (ns.length : Int) else 3) else 1) = _
    split <;> split <;> omega
/-- a slot with a box, or with none yet -/
def bo : Option (Int × Int × Int) → Option Sl
  | none => none
  | some q => ow (bxD q)
/-- the end of a law whose loop runs through -/
theorem law_end {k : Nat} {s t : En → So} {ds : List Dt} {ρ' : En} (h : s (argE false ds ++ List.replicate (k - ds.length) none) = .nx ρ') (h2 : ∃ ρ2, t ρ' = .rt (.bl true) ρ2) : runF k false false (sSeq s t) ds = .ret (.bl true) .non := by
  obtain ⟨ρ2, h2⟩ := h2
  exact runF_rt (seq_nx h h2) rfl
theorem fSub_nat {a b : Nat} (h : b ≤ a) : fSub (nD a) (nD b) = some (nD (a - b)) := by
  show some (Dt.int _) = some (Dt.int _)
  congr 2; omega
theorem ge_nat (a b : Nat) : fGe (nD a) (nD b) = some (.bl (decide (b ≤ a))) := by
  show some (Dt.bl _) = some (Dt.bl _)
  congr 2
  exact decide_eq_decide.mpr (by omega)
end Dl
namespace Dl
open PySem PySem.Spec PyProof.Rows L2
variable {p : Nat} {rs : List Rw}
/-! ### due days, as mathematics -/
/-! ### the mirrors -/
theorem lt64 {n : Nat} (h : n < 1000000000000000000) : (n : Int) < 2 ^ 64 := Int.lt_trans (Int.ofNat_lt.mpr h) (by decide)
theorem ge64 (n : Nat) : -(2 ^ 64) < (n : Int) := Int.lt_of_lt_of_le (by decide) (Int.natCast_nonneg n)
theorem fMul_of {i j k : Int} (hc : CMul i j) (e : i * j = k) : fMulI (.int i) (.int j) = some (.int k) := by
  subst e
  have e1 : fMulI (.int i) (.int j) = if CMul i j then some (.int (i * j)) else none := rfl
  rw [e1, if_pos hc]
theorem fMul_nat (a b : Nat) (hb : b < 1000000000000000000 ∨ a < 1000000000000000000) : fMulI (nD a) (nD b) = some (nD (a * b)) := by
  have hc : CMul (a : Int) (b : Int) := by
    rcases hb with hb | hb
    · exact .inr ⟨ge64 b, lt64 hb⟩
    · exact .inl ⟨ge64 a, lt64 hb⟩
  exact fMul_of hc (Int.natCast_mul a b).symm
theorem fAdd_nat (a b : Nat) : fAdd (nD a) (nD b) = some (nD (a + b)) := rfl
theorem fLt_nat (a b : Nat) : fLt (nD a) (nD b) = some (.bl (decide (a < b))) := by
  show some (Dt.bl _) = some (Dt.bl _)
  congr 2
  exact decide_eq_decide.mpr (by omega)
theorem len_lst {α : Type} (f : α → Dt) (l : List α) : fLen (.lst (l.map f)) = some (nD l.length) := by
  show some (Dt.int ((l.map f).length : Int)) = _
  rw [List.length_map]
theorem len_tup {α : Type} (f : α → Dt) (l : List α) : fLen (.tup (l.map f)) = some (nD l.length) := by
  show some (Dt.int ((l.map f).length : Int)) = _
  rw [List.length_map]
end Dl
namespace Dl
open PySem PySem.Spec PyProof.Rows L2
/-! ### days on a ring, as mathematics -/
/-- the day with a number, round and round -/
def dd (D : List Nat) (R a : Nat) : Nat := a / D.length * R + D.getD (a % D.length) 0
variable {D : List Nat} {R : Nat}
/-! ### the mirrors -/
end Dl
namespace Dl
open PySem PySem.Spec PyProof.Rows L2
/-! ### texts that are compared -/
theorem strOk_of (s : String) : PyData.canLay0 (.str (Str.ofString s)) = true := by
  have key : ∀ c : Char, c.toNat < 1114112 := fun c => by
    have h1 := c.valid
    rcases h1 with h1 | h1
    · have : c.toNat < 55296 := h1
      omega
    · exact h1.2
  rw [Str.ofString_eq_toList]
  simp only [PyData.canLay0, PyData.strOk]
  rw [List.all_toArray, List.all_map, List.all_eq_true]
  intro c _
  exact decide_eq_true (key c)
theorem flt_str {k : Nat} (s : String) : Flt k (.str (Str.ofString s)) := .str (strOk_of s)
/-! ### drawn days of a ring -/
/-! ### the law's own gap -/
variable {D : List Nat} {R : Nat}
end Dl
namespace Dl
open PySem PySem.Spec PyProof.Rows L2
variable {p : Nat} {rs : List Rw}
theorem pick_w (D w : Nat) (hw : w < p) : ((dueP p rs D).filter fun q => decide (q.2 = w)).map (·.1) = (List.range D).filter (isDue rs w) := by
  induction D with
  | zero => simp [dueP]
  | succ D ih =>
    rw [dueP_succ, List.filter_append, List.map_append, ih, List.range_succ, List.filter_append]
    congr 1
    unfold dueAt
    rw [List.filter_map, List.map_map, List.filter_filter]
    have e3 : (List.range p).filter (fun a => ((fun q : Nat × Nat => decide (q.2 = w)) ∘ fun w => (D, w)) a && isDue rs a D) = ((List.range p).filter fun a => decide (a = w)).filter fun _ => isDue rs w D := by
      rw [List.filter_filter]
      apply List.filter_congr
      intro a _
      by_cases ha : a = w
      · subst ha; simp
      · simp [ha]
    have e4 := find_one (f := fun v => v) (p := p) (fun a b _ _ z => z) hw
    rw [e3, e4]
    cases hd : isDue rs w D <;> simp [hd]
end Dl
namespace Dl
open PySem PySem.Spec PyProof.Rows L2
variable {p : Nat} {rs : List Rw}
/-! ### pairs and triples among others -/
theorem pr_flt {k : Nat} (q : Nat × Nat) : Flt (k + 1) (prD q) := .tup fun x hx => by
  simp only [List.mem_cons, List.not_mem_nil, or_false] at hx
  rcases hx with rfl | rfl <;> exact .int _
/-- a look -/
abbrev Lk := Nat × Nat × Nat
/-! ### dicts with pairs as keys -/
theorem mem_dueP {D : Nat} {q : Nat × Nat} : q ∈ dueP p rs D ↔ q.1 < D ∧ q.2 < p ∧ isDue rs q.2 q.1 = true := by
  unfold dueP dueAt
  rw [List.mem_flatMap]
  constructor
  · rintro ⟨d, hd, h⟩
    obtain ⟨w, hw, rfl⟩ := List.mem_map.mp h
    rw [List.mem_filter, List.mem_range] at hw
    exact ⟨List.mem_range.mp hd, hw.1, hw.2⟩
  · rintro ⟨h1, h2, h3⟩
    exact ⟨q.1, List.mem_range.mpr h1, List.mem_map.mpr ⟨q.2, List.mem_filter.mpr ⟨List.mem_range.mpr h2, h3⟩, rfl⟩⟩
theorem dueP_nodup (D : Nat) : (dueP p rs D).Nodup := by
  unfold dueP
  rw [List.nodup_iff_pairwise_ne, List.pairwise_flatMap]
  refine ⟨fun d _ => ?_, ?_⟩
  · unfold dueAt
    rw [List.pairwise_map]
    exact (List.nodup_iff_pairwise_ne.mp (List.nodup_range.filter _)).imp fun h e => h (by injection e)
  · refine (List.nodup_iff_pairwise_ne.mp List.nodup_range).imp fun h x hx y hy e => h ?_
    unfold dueAt at hx hy
    obtain ⟨a, _, rfl⟩ := List.mem_map.mp hx
    obtain ⟨b, _, e2⟩ := List.mem_map.mp hy
    rw [← e2] at e
    injection e
/-! ### all due turnings -/
end Dl
namespace Dl
open PySem PySem.Spec PyProof.Rows L2
variable {p : Nat} {rs : List Rw}
/-! ### nested comprehensions -/
/-- all looks that can be -/
def allLk (p D : Nat) : List Lk := (List.range (D + 1)).flatMap fun d => (List.range p).flatMap fun w => (List.range 2).flatMap fun s => [(d, w, s)]
theorem mem_allLk {p D : Nat} {q : Lk} : q ∈ allLk p D ↔ q.1 ≤ D ∧ q.2.1 < p ∧ q.2.2 < 2 := by
  obtain ⟨d, w, s⟩ := q
  unfold allLk
  simp only [List.mem_flatMap, List.mem_range, List.mem_cons, List.not_mem_nil, or_false, Prod.mk.injEq]
  constructor
  · rintro ⟨a, ha, b, hb, c, hc, rfl, rfl, rfl⟩
    exact ⟨by omega, hb, hc⟩
  · rintro ⟨h1, h2, h3⟩
    exact ⟨d, by omega, w, h2, s, h3, rfl, rfl, rfl⟩
/-! ### a season is made -/
structure GoodLk (p D : Nat) (q : Lk) : Prop where
  d : q.1 ≤ D
  w : q.2.1 < p
  s : q.2.2 < 2
/-- the looks of a season, ascending -/
def lksOf (p D : Nat) (L : List Lk) : List Lk := (allLk p D).filter fun q => decide (q ∈ L)
end Dl
namespace Dl
open PySem PySem.Spec PyProof.Rows L2
variable {p : Nat} {rs : List Rw} {D b : Nat} {L : List Lk}
/-! ### misses -/
structure Miss (p : Nat) (rs : List Rw) (D : Nat) (M : List (Nat × Nat)) : Prop where
  nd : M.Nodup
  mem : ∀ q ∈ M, q ∈ dueP p rs D
theorem Miss.len {M : List (Nat × Nat)} (h : Miss p rs D M) : M.length ≤ D * p := by
  have h1 : M.length ≤ (dueP p rs D).length := List.Nodup.length_le_of_subset h.nd fun q hq => h.mem q hq
  have h2 := dueP_len (p := p) (rs := rs) D
  omega
/-! ### what was turned -/
/-- the days ahead of one on which a wheel was turned -/
def madeL (rs : List Rw) (D : Nat) (M : List (Nat × Nat)) (w day : Nat) : List Nat := ((List.range D).filter (isDue rs w)).filter fun d => decide (d < day) && !decide ((d, w) ∈ M)
def sideN (rs : List Rw) (D : Nat) (M : List (Nat × Nat)) (day w : Nat) : Nat := (madeL rs D M w day).length % 2
/-! ### looks that break -/
theorem fne_nat (a b : Nat) : fNe (nD a) (nD b) = some (.bl (!decide (a = b))) := by
  rw [fne_int]
  congr 3
  exact decide_eq_decide.mpr (by omega)
theorem fLe_nat (a b : Nat) : fLe (nD a) (nD b) = some (.bl (decide (a ≤ b))) := by
  show some (Dt.bl _) = some (Dt.bl _)
  congr 2
  exact decide_eq_decide.mpr (by omega)
end Dl
namespace Dl
open PySem PySem.Spec PyProof.Rows L2
variable {p : Nat} {rs : List Rw} {D b : Nat} {L : List Lk}
/-! ### a season of the told rota -/
theorem Miss.nil : Miss p rs D [] := ⟨List.nodup_nil, fun q hq => nomatch hq⟩
theorem flt_prs {k : Nat} (M : List (Nat × Nat)) : ∀ x ∈ M.map prD, Flt (k + 1) x := fun x hx => by
  obtain ⟨q, _, rfl⟩ := List.mem_map.mp hx
  exact pr_flt q
end Dl
namespace Dl
open PySem PySem.Spec PyProof.Rows L2
variable {p : Nat} {rs : List Rw} {D : Nat} {M : List (Nat × Nat)}
/-! ### what was turned ahead of a day, by the days themselves -/
/-! ### small steps -/
theorem gt_nat (a b : Nat) : fGt (nD a) (nD b) = some (.bl (decide (b < a))) := by
  show some (Dt.bl _) = some (Dt.bl _)
  congr 2
  exact decide_eq_decide.mpr (by omega)
end Dl
namespace Dl
open PySem PySem.Spec PyProof.Rows L2
variable {p : Nat} {rs : List Rw} {D b : Nat} {M : List (Nat × Nat)} {L K : List Lk}
theorem lks_good (K : List Lk) : ∀ q ∈ lksOf p D K, GoodLk p D q := fun q hq => by
  have := mem_allLk.mp (List.mem_filter.mp hq).1
  exact ⟨this.1, this.2.1, this.2.2⟩
theorem lks_mem {K : List Lk} {q : Lk} (h : q ∈ lksOf p D K) : q ∈ K := of_decide_eq_true (List.mem_filter.mp h).2
theorem mem_lks {K : List Lk} {q : Lk} (h : q ∈ K) (hg : GoodLk p D q) : q ∈ lksOf p D K := List.mem_filter.mpr ⟨mem_allLk.mpr ⟨hg.d, hg.w, hg.s⟩, decide_eq_true h⟩
/-! ### how many looks break -/
theorem filter_eq_one {α : Type} [DecidableEq α] {z : α} : ∀ {l : List α}, l.Nodup → z ∈ l → (l.filter fun x => decide (x = z)).length = 1
  | [], _, h => by cases h
  | x :: l, nd, h => by
    rw [List.nodup_cons] at nd
    by_cases e : x = z
    · subst e
      rw [List.filter_cons_of_pos (by simp), List.length_cons]
      have : l.filter (fun y => decide (y = x)) = [] := by
        rw [List.filter_eq_nil_iff]
        intro y hy
        simp
        intro e2; exact nd.1 (e2 ▸ hy)
      rw [this]; rfl
    · rw [List.filter_cons_of_neg (by simpa using e)]
      exact filter_eq_one nd.2 (by simpa [Ne.symm e] using h)
/-! ### the first miss is made up for -/
theorem meth_ok {c n : Nat} {f : List Dt → Fo} {m : Mi Dt} {ms : Mi (List Dt)} {ρ ρ1 ρ2 : En} {vs ds : List Dt} {d r : Dt} (hm : m ρ = .ok (.ins c vs) ρ1) (h : ms ρ1 = .ok ds ρ2) (hn : ds.length + 1 = n) (hf : f (.ins c vs :: ds) = .ret d r) : mMeth c n f m ms ρ = .ok d ρ2 := by
  unfold mMeth
  refine bind_ok hm ?_
  dsimp only
  rw [if_pos rfl]
  refine bind_ok h ?_
  rw [if_pos (by rw [List.length_cons]; exact hn), hf]
end Dl
namespace Dl
open PySem PySem.Spec PyProof.Rows L2
variable {p : Nat} {rs : List Rw} {D b : Nat} {M : List (Nat × Nat)} {K : List Lk}
/-! ### places by other numbers -/
/-- an order of the places -/
structure Ord (p : Nat) (o : List Nat) : Prop where
  pm : o.Perm (List.range p)
theorem Ord.len {o : List Nat} (h : Ord p o) : o.length = p := by rw [h.pm.length_eq, List.length_range]
theorem Ord.nd {o : List Nat} (h : Ord p o) : o.Nodup := h.pm.nodup_iff.mpr List.nodup_range
def oat (o : List Nat) (w : Nat) : Nat := o.getD w 0
theorem Ord.get {o : List Nat} (h : Ord p o) {w : Nat} (hw : w < p) : o[w]? = some (oat o w) := by
  unfold oat
  rw [List.getD_eq_getElem?_getD, List.getElem?_eq_getElem (by rw [h.len]; exact hw)]; rfl
theorem Ord.lt {o : List Nat} (h : Ord p o) {w : Nat} (hw : w < p) : oat o w < p := List.mem_range.mp (h.pm.mem_iff.mp (List.mem_of_getElem? (h.get hw)))
theorem Ord.inj {o : List Nat} (h : Ord p o) {a b : Nat} (ha : a < p) (hb : b < p) (e : oat o a = oat o b) : a = b := by
  have h1 := h.get ha
  have h2 := h.get hb
  rw [e] at h1
  have la : a < o.length := by rw [h.len]; exact ha
  have lb : b < o.length := by rw [h.len]; exact hb
  rw [List.getElem?_eq_getElem la] at h1
  rw [List.getElem?_eq_getElem lb] at h2
  exact (List.getElem_inj h.nd).mp ((Option.some.inj h1).trans (Option.some.inj h2).symm)
end Dl
namespace Dl
/-! ### lots: all sublists, ascending as tuples -/
section
variable {α : Type}
def lotT : List α → List (List α)
  | [] => []
  | x :: xs => ([] :: lotT xs).map (x :: ·) ++ lotT xs
def lots (xs : List α) : List (List α) := [] :: lotT xs
theorem cnt_cons (p : List α → Bool) (x : α) (xs : List α) : (lots (x :: xs)).countP p = (lots xs).countP (fun L => p (x :: L)) + (lots xs).countP p := by
  unfold lots
  rw [lotT, List.countP_cons, List.countP_append, List.countP_map, List.countP_cons]
  rw [List.countP_cons, List.countP_cons (l := lotT xs) (p := p)]
  simp only [Function.comp_def]
  omega
theorem cnt_nil (p : List α → Bool) : (lots ([] : List α)).countP p = if p [] = true then 1 else 0 := by
  unfold lots lotT; rw [List.countP_cons, List.countP_nil, Nat.zero_add]
theorem mem_lots {L : List α} : ∀ {xs : List α}, L ∈ lots xs ↔ L.Sublist xs
  | [] => by unfold lots lotT; simp
  | x :: xs => by
    have ih := @mem_lots L xs
    have ih2 := fun (M : List α) => @mem_lots M xs
    unfold lots at ih ih2 ⊢
    rw [lotT, List.mem_cons, List.mem_append, List.mem_map]
    constructor
    · rintro (h | ⟨M, h1, h2⟩ | h)
      · subst h; exact List.nil_sublist _
      · subst h2; exact ((ih2 M).mp h1).cons_cons x
      · exact (ih.mp (List.mem_cons_of_mem _ h)).cons x
    · intro h
      cases h with
      | cons _ h =>
        rcases List.mem_cons.mp (ih.mpr h) with e | e
        · exact .inl e
        · exact .inr (.inr e)
      | cons_cons _ h => exact .inr (.inl ⟨_, (ih2 _).mpr h, rfl⟩)
/-- a lot is parted by a test -/
theorem cnt_split (q : α → Bool) : ∀ (xs : List α) (P : List α → List α → Bool),
    (lots xs).countP (fun L => P (L.filter q) (L.filter fun x => !q x)) = ((lots (xs.filter q)).map fun A => (lots (xs.filter fun x => !q x)).countP (P A)).sum
  | [], P => by
    rw [cnt_nil]; simp only [List.filter_nil]
    show _ = ((lots ([] : List α)).map _).sum
    unfold lots lotT
    by_cases h : P [] [] = true
    · simp [List.countP_cons, h]
    · simp [List.countP_cons, h]
  | x :: xs, P => by
    rw [cnt_cons]
    by_cases hx : q x = true
    · have e1 := cnt_split q xs (fun A B => P (x :: A) B)
      have e2 := cnt_split q xs P
      rw [List.filter_cons_of_pos hx, List.filter_cons_of_neg (by simp [hx])]
      simp only [List.filter_cons_of_pos hx, List.filter_cons_of_neg (p := fun x => !q x) (a := x) (by simp [hx])]
      rw [e1, e2]
      have key : ∀ (f : List α → Nat), ((lots (x :: xs.filter q)).map f).sum = ((lots (xs.filter q)).map fun A => f (x :: A)).sum + ((lots (xs.filter q)).map f).sum := by
        intro f
        unfold lots
        rw [lotT]
        simp only [List.map_cons, List.map_append, List.sum_cons, List.sum_append, List.map_map, Function.comp_def]
        omega
      rw [key]
    · have hx' : q x = false := by simpa using hx
      have e1 := cnt_split q xs (fun A B => P A (x :: B))
      have e2 := cnt_split q xs P
      rw [List.filter_cons_of_neg hx, List.filter_cons_of_pos (p := fun x => !q x) (by simp [hx'])]
      simp only [List.filter_cons_of_neg hx, List.filter_cons_of_pos (p := fun x => !q x) (a := x) (by simp [hx'])]
      rw [e1, e2]
      have key : ∀ (l : List (List α)) (f g : List α → Nat), (l.map f).sum + (l.map g).sum = (l.map fun A => f A + g A).sum := by
        intro l f g
        induction l with
        | nil => rfl
        | cons a l ih => simp only [List.map_cons, List.sum_cons]; omega
      rw [key]
      congr 1
      apply List.map_congr_left
      intro A _
      rw [cnt_cons]
end
/-! ### sums by sizes -/
def conv (f g : Nat → Nat) (j : Nat) : Nat := ((List.range (j + 1)).map fun i => f i * g (j - i)).sum
theorem sum_zero {α : Type} {l : List α} {f : α → Nat} (h : ∀ x ∈ l, f x = 0) : (l.map f).sum = 0 := by
  induction l with
  | nil => rfl
  | cons a l ih => rw [List.map_cons, List.sum_cons, h a (by simp), ih fun x hx => h x (List.mem_cons_of_mem _ hx)]
theorem sum_pos {α : Type} {l : List α} {f : α → Nat} {x : α} (hx : x ∈ l) (h : 0 < f x) : 0 < (l.map f).sum := by
  induction l with
  | nil => cases hx
  | cons a l ih =>
    rw [List.map_cons, List.sum_cons]
    rcases List.mem_cons.mp hx with e | e
    · subst e; omega
    · have := ih e; omega
theorem sum_add {α : Type} (l : List α) (f g : α → Nat) : (l.map f).sum + (l.map g).sum = (l.map fun A => f A + g A).sum := by
  induction l with
  | nil => rfl
  | cons a l ih => simp only [List.map_cons, List.sum_cons]; omega
theorem sum_congr {α : Type} {l : List α} {f g : α → Nat} (h : ∀ x ∈ l, f x = g x) : (l.map f).sum = (l.map g).sum := by
  rw [List.map_congr_left h]
/-- a sum over things by their sizes -/
theorem sum_by_size {α : Type} (sz : α → Nat) (ok : α → Bool) (g : Nat → Nat) (j : Nat) : ∀ l : List α,
    (l.map fun A => if ok A = true ∧ sz A ≤ j then g (j - sz A) else 0).sum = conv (fun i => l.countP fun A => ok A && decide (sz A = i)) g j
  | [] => by
    unfold conv
    rw [List.map_nil]
    exact (sum_zero fun i _ => by simp).symm
  | a :: l => by
    rw [List.map_cons, List.sum_cons, sum_by_size sz ok g j l]
    unfold conv
    have e : ((List.range (j + 1)).map fun i => (if (ok a && decide (sz a = i)) = true then 1 else 0) * g (j - i)).sum = if ok a = true ∧ sz a ≤ j then g (j - sz a) else 0 := by
      by_cases ha : ok a = true
      · by_cases hs : sz a ≤ j
        · rw [if_pos ⟨ha, hs⟩]
          have : ∀ n, ((List.range n).map fun i => (if (ok a && decide (sz a = i)) = true then 1 else 0) * g (j - i)).sum = if sz a < n then g (j - sz a) else 0 := by
            intro n
            induction n with
            | zero => rfl
            | succ n ih =>
              rw [List.range_succ, List.map_append, List.sum_append, ih]
              simp only [List.map_cons, List.map_nil, List.sum_cons, List.sum_nil, ha, Bool.true_and, decide_eq_true_eq]
              by_cases h1 : sz a = n
              · subst h1
                simp
              · rw [if_neg h1]
                by_cases h2 : sz a < n
                · rw [if_pos h2, if_pos (by omega)]; omega
                · rw [if_neg h2, if_neg (by omega)]; omega
          rw [this, if_pos (by omega)]
        · rw [if_neg (fun z => hs z.2)]
          exact sum_zero fun i hi => by
            have := List.mem_range.mp hi
            have hne : sz a ≠ i := by omega
            simp [hne]
      · rw [if_neg (fun z => ha z.1)]
        exact sum_zero fun i hi => by simp [ha]
    rw [← e, sum_add]
    apply sum_congr
    intro i _
    dsimp only
    rw [List.countP_cons, Nat.add_mul, Nat.add_comm]
/-- the first size that there is -/
def Lead (f : Nat → Nat) (k : Nat) : Prop := 0 < f k ∧ ∀ i, i < k → f i = 0
theorem conv_lead {f g : Nat → Nat} {a b : Nat} (h1 : Lead f a) (h2 : Lead g b) : Lead (conv f g) (a + b) := by
  constructor
  · unfold conv
    refine sum_pos (x := a) (List.mem_range.mpr (by omega)) ?_
    rw [show a + b - a = b by omega]
    exact Nat.mul_pos h1.1 h2.1
  · intro i hi
    unfold conv
    refine sum_zero fun x hx => ?_
    have hx := List.mem_range.mp hx
    by_cases hxa : x < a
    · rw [h1.2 x hxa, Nat.zero_mul]
    · rw [h2.2 (i - x) (by omega), Nat.mul_zero]
theorem conv_none {f g : Nat → Nat} (h : (∀ i, f i = 0) ∨ ∀ i, g i = 0) (j : Nat) : conv f g j = 0 := by
  unfold conv
  refine sum_zero fun x _ => ?_
  rcases h with h | h
  · rw [h, Nat.zero_mul]
  · rw [h, Nat.mul_zero]
/-! ### Pascal's numbers -/
def ch : Nat → Nat → Nat
  | _, 0 => 1
  | 0, _ + 1 => 0
  | n + 1, k + 1 => ch n k + ch n (k + 1)
theorem ch_zero (n : Nat) : ch n 0 = 1 := by cases n <;> rfl
theorem ch_over : ∀ (n k : Nat), n < k → ch n k = 0
  | _, 0, h => by omega
  | 0, k + 1, _ => rfl
  | n + 1, k + 1, h => by
    show ch n k + ch n (k + 1) = 0
    rw [ch_over n k (by omega), ch_over n (k + 1) (by omega)]
theorem ch_one : ∀ n, ch n 1 = n
  | 0 => rfl
  | n + 1 => by show ch n 0 + ch n 1 = n + 1; rw [ch_zero, ch_one n]; omega
/-- what is wanted of a lot: some are missed, some are made -/
def okMN {α : Type} [DecidableEq α] (M N : List α) (ps L : List α) : Bool := ps.all fun x => (!decide (x ∈ M) || decide (x ∈ L)) && (!decide (x ∈ N) || !decide (x ∈ L))
theorem okMN_iff {α : Type} [DecidableEq α] {M N ps L : List α} : okMN M N ps L = true ↔ ∀ x ∈ ps, (x ∈ M → x ∈ L) ∧ (x ∈ N → x ∉ L) := by
  unfold okMN
  rw [List.all_eq_true]
  constructor
  · intro h x hx
    have := h x hx
    simp only [Bool.and_eq_true, Bool.or_eq_true, Bool.not_eq_true', decide_eq_true_eq, decide_eq_false_iff_not] at this
    exact ⟨fun m => this.1.resolve_left (fun z => z m), fun n => this.2.resolve_left (fun z => z n)⟩
  · intro h x hx
    have := h x hx
    simp only [Bool.and_eq_true, Bool.or_eq_true, Bool.not_eq_true', decide_eq_true_eq, decide_eq_false_iff_not]
    exact ⟨(Decidable.em (x ∈ M)).symm.imp_right this.1, (Decidable.em (x ∈ N)).symm.imp_right this.2⟩
def goneN {α : Type} [DecidableEq α] (M : List α) (ps : List α) : Nat := ps.countP fun x => decide (x ∈ M)
def freeN {α : Type} [DecidableEq α] (M N : List α) (ps : List α) : Nat := ps.countP fun x => !decide (x ∈ M) && !decide (x ∈ N)
theorem cnt_size {α : Type} [DecidableEq α] {M N : List α} (hMN : ∀ x ∈ M, x ∉ N) : ∀ {ps : List α} (_ : ps.Nodup) (j : Nat),
    (lots ps).countP (fun A => okMN M N ps A && decide (A.length = j)) = if goneN M ps ≤ j then ch (freeN M N ps) (j - goneN M ps) else 0
  | [], _, j => by
    rw [cnt_nil]
    unfold okMN goneN freeN
    simp only [List.all_nil, List.length_nil, Bool.true_and, List.countP_nil, Nat.zero_le, if_true, Nat.sub_zero, decide_eq_true_eq]
    cases j with
    | zero => rfl
    | succ j => simp [ch]
  | x :: xs, nd, j => by
    have nd' := (List.nodup_cons.mp nd).2
    have hx := (List.nodup_cons.mp nd).1
    rw [cnt_cons]
    have sub : ∀ L ∈ lots xs, x ∉ L := fun L hL z => hx ((mem_lots.mp hL).subset z)
    have e1 : (lots xs).countP (fun L => okMN M N (x :: xs) (x :: L) && decide ((x :: L).length = j)) = if x ∈ N then 0 else if 0 < j then (lots xs).countP (fun A => okMN M N xs A && decide (A.length = j - 1)) else 0 := by
      have cg : ∀ L ∈ lots xs, (okMN M N (x :: xs) (x :: L) && decide ((x :: L).length = j)) = (if x ∈ N then false else if 0 < j then (okMN M N xs L && decide (L.length = j - 1)) else false) := by
        intro L hL
        have e : okMN M N (x :: xs) (x :: L) = (!decide (x ∈ N) && okMN M N xs L) := by
          unfold okMN
          rw [List.all_cons]
          simp only [List.mem_cons, true_or, decide_true, Bool.or_true, Bool.true_and, Bool.not_true, Bool.or_false]
          congr 1
          rw [Bool.eq_iff_iff, List.all_eq_true, List.all_eq_true]
          constructor
          · intro h y hy
            have hne : y ≠ x := fun z => hx (z ▸ hy)
            have := h y hy
            simpa [hne] using this
          · intro h y hy
            have hne : y ≠ x := fun z => hx (z ▸ hy)
            have := h y hy
            simpa [hne] using this
        rw [e, List.length_cons]
        by_cases hN : x ∈ N
        · simp [hN]
        · rw [if_neg hN]
          by_cases hj : 0 < j
          · rw [if_pos hj]
            have : decide (L.length + 1 = j) = decide (L.length = j - 1) := by
              apply decide_eq_decide.mpr; omega
            rw [this]; simp [hN]
          · rw [if_neg hj]
            have : decide (L.length + 1 = j) = false := by simp; omega
            rw [this, Bool.and_false]
      rw [List.countP_congr fun L hL => by rw [cg L hL]]
      by_cases hN : x ∈ N
      · simp [hN]
      · by_cases hj : 0 < j
        · simp [hN, hj]
        · simp [hN, hj]
    have e2 : (lots xs).countP (fun L => okMN M N (x :: xs) L && decide (L.length = j)) = if x ∈ M then 0 else (lots xs).countP (fun A => okMN M N xs A && decide (A.length = j)) := by
      have cg : ∀ L ∈ lots xs, (okMN M N (x :: xs) L && decide (L.length = j)) = (if x ∈ M then false else (okMN M N xs L && decide (L.length = j))) := by
        intro L hL
        have hxL := sub L hL
        unfold okMN
        rw [List.all_cons]
        by_cases hM : x ∈ M
        · simp [hM, hxL]
        · simp [hM, hxL]
      rw [List.countP_congr fun L hL => by rw [cg L hL]]
      by_cases hM : x ∈ M
      · simp [hM]
      · simp [hM]
    rw [e1, e2, cnt_size hMN nd', cnt_size hMN nd']
    unfold goneN freeN
    rw [List.countP_cons, List.countP_cons]
    by_cases hM : x ∈ M
    · have hN := hMN x hM
      simp only [hM, hN, if_true, if_false, decide_true, Bool.not_true, Bool.false_and, Bool.false_eq_true, Nat.add_zero]
      by_cases hj : 0 < j
      · rw [if_pos hj]
        by_cases h2 : xs.countP (fun x => decide (x ∈ M)) ≤ j - 1
        · rw [if_pos h2, if_pos (by omega)]
          congr 1; omega
        · rw [if_neg h2, if_neg (by omega)]
      · rw [if_neg hj, if_neg (by omega)]
    · by_cases hN : x ∈ N
      · simp [hM, hN]
      · simp only [hM, hN, if_false, decide_false, Bool.not_false, Bool.true_and, if_true, Bool.false_eq_true, Nat.add_zero]
        generalize hg : xs.countP (fun x => decide (x ∈ M)) = g
        generalize hf : xs.countP (fun x => !decide (x ∈ M) && !decide (x ∈ N)) = f
        by_cases hj : 0 < j
        · rw [if_pos hj]
          by_cases h2 : g ≤ j - 1
          · rw [if_pos h2, if_pos (by omega), if_pos (by omega)]
            have : j - g = (j - 1 - g) + 1 := by omega
            rw [this]; rfl
          · rw [if_neg h2, Nat.zero_add]
            by_cases h3 : g ≤ j
            · rw [if_pos h3, if_pos h3]
              have : j - g = 0 := by omega
              rw [this, ch_zero, ch_zero]
            · rw [if_neg h3, if_neg h3]
        · rw [if_neg hj, Nat.zero_add]
          by_cases h3 : g ≤ j
          · rw [if_pos h3, if_pos h3]
            have : j - g = 0 := by omega
            rw [this, ch_zero, ch_zero]
          · rw [if_neg h3, if_neg h3]
end Dl
namespace Dl
/-! ### parts: tests and what is asked of the number of the missed ones -/
section
variable {α : Type} [DecidableEq α]
abbrev Pt (α : Type) := (α → Bool) × (Nat → Bool)
def inAny (pre : List (Pt α)) (x : α) : Bool := pre.any fun t => t.1 x
def cntP (M N xs : List α) (pre : List (Pt α)) (j : Nat) : Nat :=
  (lots (xs.filter (inAny pre))).countP fun L => (okMN M N (xs.filter (inAny pre)) L && pre.all fun t => t.2 (L.countP t.1)) && decide (L.length = j)
def partP (M N xs : List α) (t : Pt α) (i : Nat) : Nat := (lots (xs.filter t.1)).countP fun A => (okMN M N (xs.filter t.1) A && t.2 A.length) && decide (A.length = i)
theorem inAny_app (pre : List (Pt α)) (t : Pt α) (x : α) : inAny (pre ++ [t]) x = (inAny pre x || t.1 x) := by
  unfold inAny; rw [List.any_append, List.any_cons, List.any_nil, Bool.or_false]
theorem cntP_nil (M N xs : List α) (j : Nat) : cntP M N xs [] j = if j = 0 then 1 else 0 := by
  unfold cntP
  have e : xs.filter (inAny ([] : List (Pt α))) = [] := by
    apply List.filter_eq_nil_iff.mpr
    intro x _; simp [inAny]
  rw [e, cnt_nil]
  simp only [okMN, List.all_nil, Bool.true_and, List.length_nil, decide_eq_true_eq]
  by_cases h : j = 0
  · simp [h]
  · rw [if_neg (fun z => h z.symm), if_neg h]
theorem cntP_snoc {M N xs : List α} {pre : List (Pt α)} {t : Pt α} (hd : ∀ x ∈ xs, inAny pre x = true → t.1 x = false) (j : Nat) : cntP M N xs (pre ++ [t]) j = conv (cntP M N xs pre) (partP M N xs t) j := by
  let U := xs.filter (inAny (pre ++ [t]))
  have hU : ∀ x, x ∈ U ↔ x ∈ xs ∧ (inAny pre x = true ∨ t.1 x = true) := fun x => by
    show x ∈ List.filter _ _ ↔ _
    rw [List.mem_filter, inAny_app, Bool.or_eq_true]
  have f1 : U.filter (fun x => !t.1 x) = xs.filter (inAny pre) := by
    show (xs.filter _).filter _ = _
    rw [List.filter_filter]
    apply List.filter_congr
    intro x hx
    rw [inAny_app]
    cases h1 : inAny pre x with
    | true => rw [hd x hx h1]; rfl
    | false => cases t.1 x <;> rfl
  have f2 : U.filter (fun x => !!t.1 x) = xs.filter t.1 := by
    show (xs.filter _).filter _ = _
    rw [List.filter_filter]
    apply List.filter_congr
    intro x hx
    rw [inAny_app]
    cases t.1 x with
    | true => simp
    | false => simp
  let P : List α → List α → Bool := fun B A => (okMN M N (xs.filter (inAny pre)) B && pre.all fun s => s.2 (B.countP s.1)) && ((okMN M N (xs.filter t.1) A && t.2 A.length) && decide (B.length + A.length = j))
  have e0 : cntP M N xs (pre ++ [t]) j = (lots U).countP fun L => P (L.filter fun x => !t.1 x) (L.filter fun x => !!t.1 x) := by
    show (lots U).countP _ = _
    apply List.countP_congr
    intro L hL
    have hLU : ∀ x ∈ L, x ∈ U := fun x hx => (mem_lots.mp hL).subset hx
    have e1 : okMN M N U L = (okMN M N (xs.filter (inAny pre)) (L.filter fun x => !t.1 x) && okMN M N (xs.filter t.1) (L.filter fun x => !!t.1 x)) := by
      rw [Bool.eq_iff_iff, Bool.and_eq_true, okMN_iff, okMN_iff, okMN_iff]
      constructor
      · intro h
        refine ⟨fun x hx => ?_, fun x hx => ?_⟩
        · obtain ⟨h1, h2⟩ := List.mem_filter.mp hx
          have h3 := hd x h1 h2
          have := h x ((hU x).mpr ⟨h1, .inl h2⟩)
          rw [List.mem_filter, h3]
          simpa using this
        · obtain ⟨h1, h2⟩ := List.mem_filter.mp hx
          have := h x ((hU x).mpr ⟨h1, .inr h2⟩)
          rw [List.mem_filter, h2]
          simpa using this
      · rintro ⟨ha, hb⟩ x hx
        obtain ⟨h1, h2 | h2⟩ := (hU x).mp hx
        · have := ha x (List.mem_filter.mpr ⟨h1, h2⟩)
          rw [List.mem_filter, hd x h1 h2] at this
          simpa using this
        · have := hb x (List.mem_filter.mpr ⟨h1, h2⟩)
          rw [List.mem_filter, h2] at this
          simpa using this
    have e2 : ((pre ++ [t]).all fun s => s.2 (L.countP s.1)) = ((pre.all fun s => s.2 ((L.filter fun x => !t.1 x).countP s.1)) && t.2 (L.filter fun x => !!t.1 x).length) := by
      rw [List.all_append, List.all_cons, List.all_nil, Bool.and_true]
      congr 1
      · rw [Bool.eq_iff_iff, List.all_eq_true, List.all_eq_true]
        have : ∀ s ∈ pre, (L.filter fun x => !t.1 x).countP s.1 = L.countP s.1 := by
          intro s hs
          rw [List.countP_filter]
          apply List.countP_congr
          intro x hx
          constructor
          · intro h; exact (Bool.and_eq_true _ _ ▸ h).1
          · intro h
            have : inAny pre x = true := List.any_eq_true.mpr ⟨s, hs, h⟩
            rw [h, hd x ((hU x).mp (hLU x hx)).1 this]; rfl
        exact ⟨fun h s hs => by rw [this s hs]; exact h s hs, fun h s hs => by rw [← this s hs]; exact h s hs⟩
      · rw [List.countP_eq_length_filter]
        congr 2
        simp
    have e3 : L.length = (L.filter fun x => !t.1 x).length + (L.filter fun x => !!t.1 x).length := by
      have h1 := List.length_eq_countP_add_countP (fun x => !t.1 x) (l := L)
      rw [List.countP_eq_length_filter, List.countP_eq_length_filter] at h1
      rw [h1]
      congr 3
      funext x; cases t.1 x <;> rfl
    show ((okMN M N U L && _) && decide (L.length = j)) = true ↔ P _ _ = true
    rw [e1, e2, e3]
    show _ ↔ ((_ && _) && ((_ && _) && _)) = true
    simp only [Bool.and_eq_true]
    constructor
    · rintro ⟨⟨⟨a, b⟩, c, d⟩, e⟩; exact ⟨⟨a, c⟩, ⟨b, d⟩, e⟩
    · rintro ⟨⟨a, c⟩, ⟨b, d⟩, e⟩; exact ⟨⟨⟨a, b⟩, c, d⟩, e⟩
  rw [e0, cnt_split, f1, f2]
  rw [show conv (cntP M N xs pre) (partP M N xs t) j = _ from (sum_by_size (fun B : List α => B.length) (fun B => okMN M N (xs.filter (inAny pre)) B && pre.all fun s => s.2 (B.countP s.1)) (partP M N xs t) j (lots (xs.filter (inAny pre)))).symm]
  apply sum_congr
  intro B _
  by_cases hB : (okMN M N (xs.filter (inAny pre)) B && pre.all fun s => s.2 (B.countP s.1)) = true
  · by_cases hj : B.length ≤ j
    · rw [if_pos ⟨hB, hj⟩]
      unfold partP
      apply List.countP_congr
      intro A _
      show (_ && _) = true ↔ _
      rw [hB, Bool.true_and]
      have : decide (B.length + A.length = j) = decide (A.length = j - B.length) := by
        apply decide_eq_decide.mpr; omega
      rw [this]
    · rw [if_neg (fun z => hj z.2)]
      apply List.countP_eq_zero.mpr
      intro A _
      show ¬ (_ && _) = true
      have : decide (B.length + A.length = j) = false := by simp; omega
      rw [this]; simp
  · rw [if_neg (fun z => hB z.1)]
    apply List.countP_eq_zero.mpr
    intro A _
    show ¬ (_ && _) = true
    rw [Bool.eq_false_iff.mpr hB]; simp
/-- a part by its numbers -/
def parO : Option Bool → Nat → Bool
  | none, _ => true
  | some o, n => decide (n % 2 = 1) == o
def pp (gone free : Nat) (odd : Option Bool) (i : Nat) : Nat := if parO odd i = true then (if gone ≤ i then ch free (i - gone) else 0) else 0
theorem partP_eq {M N xs : List α} (nd : xs.Nodup) (hMN : ∀ x ∈ M, x ∉ N) (q : α → Bool) (odd : Option Bool) (i : Nat) :
    partP M N xs (q, parO odd) i = pp (goneN M (xs.filter q)) (freeN M N (xs.filter q)) odd i := by
  unfold partP pp
  rw [← cnt_size hMN (nd.filter q)]
  by_cases h : parO odd i = true
  · rw [if_pos h]
    apply List.countP_congr
    intro A _
    constructor
    · intro z
      simp only [Bool.and_eq_true, decide_eq_true_eq] at z ⊢
      exact ⟨z.1.1, z.2⟩
    · intro z
      simp only [Bool.and_eq_true, decide_eq_true_eq] at z ⊢
      exact ⟨⟨z.1, by rw [z.2]; exact h⟩, z.2⟩
  · rw [if_neg h]
    apply List.countP_eq_zero.mpr
    intro A _ z
    simp only [Bool.and_eq_true, decide_eq_true_eq] at z
    exact h (z.2 ▸ z.1.2)
end
/-- the first number of misses of a part -/
def leadP (gone free : Nat) (odd : Option Bool) : Option Nat :=
  if odd = none ∨ odd = some (decide (gone % 2 = 1)) then some gone else if free = 0 then none else some (gone + 1)
theorem leadP_ok {gone free : Nat} {odd : Option Bool} : (∀ k, leadP gone free odd = some k → Lead (pp gone free odd) k) ∧ (leadP gone free odd = none → ∀ i, pp gone free odd i = 0) := by
  unfold leadP
  by_cases h : odd = none ∨ odd = some (decide (gone % 2 = 1))
  · rw [if_pos h]
    refine ⟨fun k hk => ?_, fun z => nomatch z⟩
    cases hk
    have hp : parO odd gone = true := by
      rcases h with h | h
      · subst h; rfl
      · subst h; simp [parO]
    refine ⟨?_, fun i hi => ?_⟩
    · unfold pp
      rw [if_pos hp, if_pos (Nat.le_refl _), Nat.sub_self, ch_zero]; decide
    · unfold pp
      rw [if_neg (show ¬ gone ≤ i by omega)]
      split <;> rfl
  · rw [if_neg h]
    have hno : odd = some (!decide (gone % 2 = 1)) := by
      cases odd with
      | none => exact absurd (.inl rfl) h
      | some o =>
        have : o ≠ decide (gone % 2 = 1) := fun z => h (.inr (by rw [z]))
        cases o <;> cases hd : decide (gone % 2 = 1) <;> simp_all
    have p0 : parO odd gone = false := by subst hno; cases hd : decide (gone % 2 = 1) <;> simp_all [parO]
    by_cases hf : free = 0
    · rw [if_pos hf]
      refine ⟨fun k hk => (nomatch hk), fun _ i => ?_⟩
      unfold pp
      by_cases hi : i = gone
      · subst hi; rw [p0]; rfl
      · subst hf
        by_cases h2 : gone ≤ i
        · rw [if_pos h2, ch_over 0 (i - gone) (by omega)]; split <;> rfl
        · rw [if_neg h2]; split <;> rfl
    · rw [if_neg hf]
      refine ⟨fun k hk => ?_, fun z => nomatch z⟩
      cases hk
      have p1 : parO odd (gone + 1) = true := by
        subst hno
        show (decide ((gone + 1) % 2 = 1) == !decide (gone % 2 = 1)) = true
        by_cases h2 : gone % 2 = 1
        · have : ¬ (gone + 1) % 2 = 1 := by omega
          simp [h2, this]
        · have : (gone + 1) % 2 = 1 := by omega
          simp [h2, this]
      refine ⟨?_, fun i hi => ?_⟩
      · unfold pp
        rw [if_pos p1, if_pos (by omega), show gone + 1 - gone = 1 by omega, ch_one]; omega
      · unfold pp
        by_cases hi2 : i = gone
        · subst hi2; rw [p0]; rfl
        · rw [if_neg (show ¬ gone ≤ i by omega)]; split <;> rfl
end Dl
namespace Dl
/-! ### stretches of one wheel: from what was seen -/
abbrev Str3 := Nat × Nat × Option Bool
def sttL (sz : Nat → Nat → Nat) (D : Nat) : List (Nat × List Nat) → Nat → Nat → List Str3
  | [], first, _ => [(first, D, none)]
  | (day, seen) :: g, first, up => (first, day, some (decide ((sz first day + up + seen.headD 0) % 2 = 1))) :: ((if 1 < seen.length then [(day, day, some true)] else []) ++ sttL sz D g day (seen.getLastD 0))
structure SeenOk (D : Nat) (g : List (Nat × List Nat)) : Prop where
  asc : g.Pairwise fun a b => a.1 < b.1
  le : ∀ x ∈ g, x.1 ≤ D
  ne : ∀ x ∈ g, x.2 ≠ []
  lt : ∀ x ∈ g, ∀ s ∈ x.2, s < 2
  two : ∀ x ∈ g, 1 < x.2.length → x.2 = [0, 1]
theorem SeenOk.tail {D : Nat} {x : Nat × List Nat} {g : List (Nat × List Nat)} (h : SeenOk D (x :: g)) : SeenOk D g :=
  ⟨(List.pairwise_cons.mp h.asc).2, fun y hy => h.le y (List.mem_cons_of_mem _ hy), fun y hy => h.ne y (List.mem_cons_of_mem _ hy), fun y hy => h.lt y (List.mem_cons_of_mem _ hy), fun y hy => h.two y (List.mem_cons_of_mem _ hy)⟩
structure Cnt2 (cd cl : Nat → Nat → Nat) : Prop where
  dd : ∀ a b e, a ≤ b → b ≤ e → cd a b + cd b e = cd a e
  ll : ∀ a b e, a ≤ b → b ≤ e → cl a b + cl b e = cl a e
  le : ∀ a b, cl a b ≤ cd a b
  z : ∀ a, cl a a = 0
theorem strs_ok {cd cl : Nat → Nat → Nat} (C : Cnt2 cd cl) {D : Nat} : ∀ (g : List (Nat × List Nat)) (first up : Nat), SeenOk D g → (∀ x ∈ g, first ≤ x.1) → up < 2 → (cd 0 first - cl 0 first) % 2 = up →
    ((∀ x ∈ g, ∀ s ∈ x.2, (cd 0 x.1 - cl 0 x.1) % 2 = s) ↔ ∀ t ∈ sttL cd D g first up, parO t.2.2 (cl t.1 t.2.1) = true)
  | [], first, up, _, _, _, _ => by
    unfold sttL
    constructor
    · intro _ t ht
      rw [List.mem_singleton.mp ht]; rfl
    · intro _ x hx; cases hx
  | (day, seen) :: g, first, up, h, hf, hu, hs => by
    have hday : first ≤ day := hf (day, seen) (by simp)
    have hne : seen ≠ [] := h.ne (day, seen) (by simp)
    have hlt : ∀ s ∈ seen, s < 2 := h.lt (day, seen) (by simp)
    have e1 := C.dd 0 first day (Nat.zero_le _) hday
    have e2 := C.ll 0 first day (Nat.zero_le _) hday
    have l1 := C.le first day
    have l2 := C.le 0 first
    have hhead : seen.headD 0 ∈ seen := by
      cases seen with
      | nil => exact absurd rfl hne
      | cons a l => simp
    have hh := hlt _ hhead
    have key : (cd 0 day - cl 0 day) % 2 = seen.headD 0 ↔ parO (some (decide ((cd first day + up + seen.headD 0) % 2 = 1))) (cl first day) = true := by
      show _ ↔ (decide (cl first day % 2 = 1) == decide ((cd first day + up + seen.headD 0) % 2 = 1)) = true
      rw [beq_iff_eq, decide_eq_decide]
      omega
    unfold sttL
    by_cases h1 : 1 < seen.length
    · have e := h.two (day, seen) (by simp) h1
      dsimp only at e
      subst e
      rw [if_pos h1]
      constructor
      · intro z
        have z0 := z (day, [0, 1]) (by simp) 0 (by simp)
        have z1 := z (day, [0, 1]) (by simp) 1 (by simp)
        dsimp only at z0 z1
        omega
      · intro z
        have := z (day, day, some true) (by simp)
        dsimp only at this
        rw [C.z] at this
        exact absurd this (by decide)
    · rw [if_neg h1]
      obtain ⟨s, rfl⟩ : ∃ s, seen = [s] := by
        cases seen with
        | nil => exact absurd rfl hne
        | cons a l => cases l with
          | nil => exact ⟨a, rfl⟩
          | cons b l => simp at h1
      have hg : ∀ x ∈ g, day ≤ x.1 := fun x hx => Nat.le_of_lt ((List.pairwise_cons.mp h.asc).1 x hx)
      rw [List.nil_append]
      show _ ↔ ∀ t ∈ (first, day, some (decide ((cd first day + up + s) % 2 = 1))) :: sttL cd D g day s, _
      have key' : (cd 0 day - cl 0 day) % 2 = s ↔ parO (some (decide ((cd first day + up + s) % 2 = 1))) (cl first day) = true := key
      constructor
      · intro z
        have z0 := z (day, [s]) (by simp) s (by simp)
        dsimp only at z0
        have ih := strs_ok C g day s h.tail hg hh z0
        intro t ht
        rcases List.mem_cons.mp ht with e | e
        · subst e; exact key'.mp z0
        · exact ih.mp (fun x hx => z x (List.mem_cons_of_mem _ hx)) t e
      · intro z
        have z0 := key'.mpr (z (first, day, some (decide ((cd first day + up + s) % 2 = 1))) (by simp))
        have ih := strs_ok C g day s h.tail hg hh z0
        intro x hx
        rcases List.mem_cons.mp hx with e | e
        · subst e
          intro u hu
          rw [List.mem_singleton.mp hu]; exact z0
        · exact ih.mpr (fun t ht => z t (List.mem_cons_of_mem _ ht)) x e
/-- each day of a wheel is in just one stretch -/
theorem strs_cover {cd : Nat → Nat → Nat} {D : Nat} : ∀ (g : List (Nat × List Nat)) (first up : Nat), SeenOk D g → (∀ x ∈ g, first ≤ x.1) → ∀ d, first ≤ d → d < D → ∃ t ∈ sttL cd D g first up, t.1 ≤ d ∧ d < t.2.1
  | [], first, up, _, _, d, h1, h2 => ⟨(first, D, none), by unfold sttL; simp, h1, h2⟩
  | (day, seen) :: g, first, up, h, hf, d, h1, h2 => by
    by_cases hd : d < day
    · exact ⟨(first, day, _), by unfold sttL; exact List.mem_cons_self .., h1, hd⟩
    · obtain ⟨t, ht, h3⟩ := strs_cover (cd := cd) g day (seen.getLastD 0) h.tail (fun x hx => Nat.le_of_lt ((List.pairwise_cons.mp h.asc).1 x hx)) d (by omega) h2
      exact ⟨t, by unfold sttL; exact List.mem_cons_of_mem _ (List.mem_append_right _ ht), h3⟩
theorem strs_from {cd : Nat → Nat → Nat} {D : Nat} : ∀ (g : List (Nat × List Nat)) (first up : Nat), SeenOk D g → (∀ x ∈ g, first ≤ x.1) → ∀ t ∈ sttL cd D g first up, first ≤ t.1
  | [], first, up, _, _, t, ht => by unfold sttL at ht; rw [List.mem_singleton.mp ht]; exact Nat.le_refl _
  | (day, seen) :: g, first, up, h, hf, t, ht => by
    have hday : first ≤ day := hf (day, seen) (by simp)
    unfold sttL at ht
    rcases List.mem_cons.mp ht with e | e
    · rw [e]; exact Nat.le_refl _
    · rcases List.mem_append.mp e with e | e
      · split at e
        · rw [List.mem_singleton.mp e]; exact hday
        · cases e
      · have := strs_from (cd := cd) g day (seen.getLastD 0) h.tail (fun x hx => Nat.le_of_lt ((List.pairwise_cons.mp h.asc).1 x hx)) t e
        omega
theorem strs_apart {cd : Nat → Nat → Nat} {D : Nat} : ∀ (g : List (Nat × List Nat)) (first up : Nat), SeenOk D g → (∀ x ∈ g, first ≤ x.1) → (sttL cd D g first up).Pairwise fun a b => ∀ d, ¬ ((a.1 ≤ d ∧ d < a.2.1) ∧ b.1 ≤ d ∧ d < b.2.1)
  | [], first, up, _, _ => by unfold sttL; exact List.pairwise_singleton _ _
  | (day, seen) :: g, first, up, h, hf => by
    have hg : ∀ x ∈ g, day ≤ x.1 := fun x hx => Nat.le_of_lt ((List.pairwise_cons.mp h.asc).1 x hx)
    have ih := strs_apart (cd := cd) g day (seen.getLastD 0) h.tail hg
    have fr := strs_from (cd := cd) g day (seen.getLastD 0) h.tail hg
    unfold sttL
    refine List.pairwise_cons.mpr ⟨fun t ht d hd => ?_, List.pairwise_append.mpr ⟨?_, ih, fun a ha b hb d hd => ?_⟩⟩
    · rcases List.mem_append.mp ht with e | e
      · split at e
        · rw [List.mem_singleton.mp e] at hd; dsimp only at hd; omega
        · cases e
      · have := fr t e; dsimp only at hd; omega
    · split
      · exact List.pairwise_singleton _ _
      · exact List.Pairwise.nil
    · split at ha
      · rw [List.mem_singleton.mp ha] at hd; dsimp only at hd; omega
      · cases ha
end Dl
namespace Dl
/-! ### what was seen, day by day -/
def putG (d s : Nat) : List (Nat × List Nat) → List (Nat × List Nat)
  | [] => [(d, [s])]
  | (e, l) :: g => if e = d then (e, l ++ [s]) :: g else (e, l) :: putG d s g
def flatG (g : List (Nat × List Nat)) : List (Nat × Nat) := g.flatMap fun x => x.2.map fun s => (x.1, s)
structure GInv (g : List (Nat × List Nat)) : Prop where
  asc : g.Pairwise fun a b => a.1 < b.1
  ne : ∀ x ∈ g, x.2 ≠ []
  up : ∀ x ∈ g, x.2.Pairwise (· < ·)
theorem putG_keys {d s : Nat} : ∀ {g : List (Nat × List Nat)} {x : Nat × List Nat}, x ∈ putG d s g → x.1 = d ∨ ∃ y ∈ g, y.1 = x.1
  | [], x, h => by rw [putG, List.mem_singleton] at h; rw [h]; exact .inl rfl
  | (e, l) :: g, x, h => by
    rw [putG] at h
    split at h
    · rcases List.mem_cons.mp h with z | z
      · rw [z]; exact .inr ⟨(e, l), by simp, rfl⟩
      · exact .inr ⟨x, List.mem_cons_of_mem _ z, rfl⟩
    · rcases List.mem_cons.mp h with z | z
      · rw [z]; exact .inr ⟨(e, l), by simp, rfl⟩
      · rcases putG_keys z with q | ⟨y, hy, q⟩
        · exact .inl q
        · exact .inr ⟨y, List.mem_cons_of_mem _ hy, q⟩
theorem putG_ok {d s : Nat} : ∀ {g : List (Nat × List Nat)}, GInv g → (∀ x ∈ g, x.1 < d ∨ (x.1 = d ∧ ∀ u ∈ x.2, u < s)) → GInv (putG d s g) ∧ flatG (putG d s g) = flatG g ++ [(d, s)]
  | [], _, _ => ⟨⟨List.pairwise_singleton _ _, fun x hx => by rw [putG, List.mem_singleton] at hx; rw [hx]; simp, fun x hx => by rw [putG, List.mem_singleton] at hx; rw [hx]; exact List.pairwise_singleton _ _⟩, rfl⟩
  | (e, l) :: g, h, hk => by
    have h1 := (List.pairwise_cons.mp h.asc).1
    have hg : GInv g := ⟨(List.pairwise_cons.mp h.asc).2, fun x hx => h.ne x (List.mem_cons_of_mem _ hx), fun x hx => h.up x (List.mem_cons_of_mem _ hx)⟩
    rw [putG]
    by_cases he : e = d
    · rw [if_pos he]
      have gn : g = [] := by
        cases g with
        | nil => rfl
        | cons y g =>
          have a1 := h1 y (by simp)
          have a2 := hk y (by simp)
          dsimp only at a1
          omega
      subst gn
      have hl : ∀ u ∈ l, u < s := by
        rcases hk (e, l) (by simp) with z | z
        · dsimp only at z; omega
        · exact z.2
      refine ⟨⟨List.pairwise_singleton _ _, fun x hx => ?_, fun x hx => ?_⟩, ?_⟩
      · rw [List.mem_singleton.mp hx]; simp
      · rw [List.mem_singleton.mp hx]
        exact List.pairwise_append.mpr ⟨h.up (e, l) (by simp), List.pairwise_singleton _ _, fun a ha b hb => by rw [List.mem_singleton.mp hb]; exact hl a ha⟩
      · unfold flatG; simp [he]
    · rw [if_neg he]
      have hed : e < d := by
        rcases hk (e, l) (by simp) with z | z
        · exact z
        · exact absurd z.1 he
      obtain ⟨i1, i2⟩ := putG_ok (d := d) (s := s) hg fun x hx => hk x (List.mem_cons_of_mem _ hx)
      refine ⟨⟨List.pairwise_cons.mpr ⟨fun x hx => ?_, i1.asc⟩, fun x hx => ?_, fun x hx => ?_⟩, ?_⟩
      · dsimp only
        rcases putG_keys hx with z | ⟨y, hy, z⟩
        · omega
        · have := h1 y hy; dsimp only at this; omega
      · rcases List.mem_cons.mp hx with z | z
        · rw [z]; exact h.ne (e, l) (by simp)
        · exact i1.ne x z
      · rcases List.mem_cons.mp hx with z | z
        · rw [z]; exact h.up (e, l) (by simp)
        · exact i1.up x z
      · show ((l.map fun s => (e, s)) ++ flatG (putG d s g)) = _
        rw [i2]; show _ = ((l.map fun s => (e, s)) ++ flatG g) ++ _
        rw [List.append_assoc]
def grpG (P : List (Nat × Nat)) : List (Nat × List Nat) := P.foldl (fun g q => putG q.1 q.2 g) []
def ltP (a b : Nat × Nat) : Prop := a.1 < b.1 ∨ (a.1 = b.1 ∧ a.2 < b.2)
theorem mem_flat {g : List (Nat × List Nat)} {d s : Nat} : (d, s) ∈ flatG g ↔ ∃ x ∈ g, x.1 = d ∧ s ∈ x.2 := by
  unfold flatG
  rw [List.mem_flatMap]
  constructor
  · rintro ⟨x, hx, h⟩
    obtain ⟨u, hu, e⟩ := List.mem_map.mp h
    cases e
    exact ⟨x, hx, rfl, hu⟩
  · rintro ⟨x, hx, rfl, h⟩
    exact ⟨x, hx, List.mem_map.mpr ⟨s, h, rfl⟩⟩
theorem grp_go : ∀ (P : List (Nat × Nat)) (g : List (Nat × List Nat)), GInv g → (flatG g ++ P).Pairwise ltP → GInv (P.foldl (fun g q => putG q.1 q.2 g) g) ∧ flatG (P.foldl (fun g q => putG q.1 q.2 g) g) = flatG g ++ P
  | [], g, h, _ => ⟨h, by simp⟩
  | (d, s) :: P, g, h, hp => by
    have hk : ∀ x ∈ g, x.1 < d ∨ (x.1 = d ∧ ∀ u ∈ x.2, u < s) := fun x hx => by
      have hlt : ∀ u ∈ x.2, ltP (x.1, u) (d, s) := fun u hu => (List.pairwise_append.mp hp).2.2 (x.1, u) (mem_flat.mpr ⟨x, hx, rfl, hu⟩) (d, s) (by simp)
      by_cases hxd : x.1 < d
      · exact .inl hxd
      · refine .inr ⟨?_, fun u hu => ?_⟩
        · cases hx2 : x.2 with
          | nil => exact absurd hx2 (h.ne x hx)
          | cons u l =>
            have := hlt u (by rw [hx2]; simp)
            unfold ltP at this; dsimp only at this; omega
        · have := hlt u hu
          unfold ltP at this; dsimp only at this; omega
    obtain ⟨i1, i2⟩ := putG_ok h hk
    have := grp_go P (putG d s g) i1 (by rw [i2, List.append_assoc]; exact hp)
    rw [i2, List.append_assoc] at this
    exact this
theorem grp_ok {P : List (Nat × Nat)} (h : P.Pairwise ltP) : GInv (grpG P) ∧ flatG (grpG P) = P := by
  have := grp_go P [] ⟨.nil, fun x hx => (nomatch hx), fun x hx => (nomatch hx)⟩ (by simpa [flatG] using h)
  rw [show flatG ([] : List (Nat × List Nat)) ++ P = P from rfl] at this
  exact this
theorem grp_seen {D : Nat} {P : List (Nat × Nat)} (h : P.Pairwise ltP) (h1 : ∀ q ∈ P, q.1 ≤ D) (h2 : ∀ q ∈ P, q.2 < 2) : SeenOk D (grpG P) := by
  obtain ⟨i1, i2⟩ := grp_ok h
  have mem : ∀ x ∈ grpG P, ∀ s ∈ x.2, (x.1, s) ∈ P := fun x hx s hs => by rw [← i2]; exact mem_flat.mpr ⟨x, hx, rfl, hs⟩
  refine ⟨i1.asc, fun x hx => ?_, i1.ne, fun x hx s hs => h2 _ (mem x hx s hs), fun x hx hl => ?_⟩
  · cases hx2 : x.2 with
    | nil => exact absurd hx2 (i1.ne x hx)
    | cons u l => exact h1 _ (mem x hx u (by rw [hx2]; simp))
  · have hu := i1.up x hx
    have hlt : ∀ s ∈ x.2, s < 2 := fun s hs => h2 _ (mem x hx s hs)
    generalize x.2 = l at hl hu hlt
    match l, hl, hu, hlt with
    | a :: b :: r, _, hu, hlt =>
      have h3 := (List.pairwise_cons.mp hu).1
      have h4 := h3 b (by simp)
      have h5 := hlt a (by simp)
      have h6 := hlt b (by simp)
      have : r = [] := by
        cases r with
        | nil => rfl
        | cons c r =>
          have h7 := (List.pairwise_cons.mp (List.pairwise_cons.mp hu).2).1 c (by simp)
          have h8 := hlt c (by simp)
          omega
      subst this
      rw [show a = 0 by omega, show b = 1 by omega]
/-! ### a season's turnings, looks and parts -/
abbrev Lk3 := Nat × Nat × Nat
def cnW (w a b : Nat) (L : List (Nat × Nat)) : Nat := L.countP fun x => decide (x.2 = w) && (decide (a ≤ x.1) && decide (x.1 < b))
def sdU (U L : List (Nat × Nat)) (w d : Nat) : Nat := (U.countP fun x => decide (x.2 = w) && (decide (x.1 < d) && !decide (x ∈ L))) % 2
def unb (U : List (Nat × Nat)) (K : List Lk3) (L : List (Nat × Nat)) : Bool := K.all fun q => decide (sdU U L q.2.1 q.1 = q.2.2)
def lkW (K : List Lk3) (w : Nat) : List (Nat × Nat) := (K.filter fun q => decide (q.2.1 = w)).map fun q => (q.1, q.2.2)
def stW (U : List (Nat × Nat)) (D : Nat) (K : List Lk3) (w : Nat) : List Str3 := sttL (fun a b => cnW w a b U) D (grpG (lkW K w)) 0 0
def prts (U : List (Nat × Nat)) (p D : Nat) (K : List Lk3) : List (Nat × Str3) := (List.range p).flatMap fun w => (stW U D K w).map fun t => (w, t)
def qOf (x : Nat × Str3) (y : Nat × Nat) : Bool := decide (y.2 = x.1) && (decide (x.2.1 ≤ y.1) && decide (y.1 < x.2.2.1))
def ptOf (x : Nat × Str3) : Pt (Nat × Nat) := (qOf x, parO x.2.2.2)
/-- looks as a season holds them -/
structure LooksOk (p D : Nat) (K : List Lk3) : Prop where
  asc : ∀ w, (lkW K w).Pairwise ltP
  d : ∀ q ∈ K, q.1 ≤ D
  w : ∀ q ∈ K, q.2.1 < p
  s : ∀ q ∈ K, q.2.2 < 2
structure DueOk (p D : Nat) (U : List (Nat × Nat)) : Prop where
  nd : U.Nodup
  d : ∀ x ∈ U, x.1 < D
  w : ∀ x ∈ U, x.2 < p
section
variable {p D : Nat} {U L : List (Nat × Nat)} {K : List Lk3}
theorem mem_lkW {w d s : Nat} : (d, s) ∈ lkW K w ↔ (d, w, s) ∈ K := by
  unfold lkW
  rw [List.mem_map]
  constructor
  · rintro ⟨⟨a, b, c⟩, h, e⟩
    obtain ⟨h1, h2⟩ := List.mem_filter.mp h
    have h3 : b = w := of_decide_eq_true h2
    dsimp only at e
    cases e; subst h3
    exact h1
  · intro h
    exact ⟨(d, w, s), List.mem_filter.mpr ⟨h, by simp⟩, rfl⟩
theorem LooksOk.seen (h : LooksOk p D K) (w : Nat) : SeenOk D (grpG (lkW K w)) := grp_seen (h.asc w) (fun q hq => h.d _ (mem_lkW.mp (show (q.1, q.2) ∈ _ from hq))) fun q hq => h.s _ (mem_lkW.mp (show (q.1, q.2) ∈ _ from hq))
theorem cnW_zero (w a : Nat) (L : List (Nat × Nat)) : cnW w a a L = 0 := by
  unfold cnW
  apply List.countP_eq_zero.mpr
  intro x _ h
  simp only [Bool.and_eq_true, decide_eq_true_eq] at h
  omega
theorem cnW_add (w : Nat) {a b e : Nat} (h1 : a ≤ b) (h2 : b ≤ e) (L : List (Nat × Nat)) : cnW w a b L + cnW w b e L = cnW w a e L := by
  unfold cnW
  induction L with
  | nil => rfl
  | cons x L ih =>
    rw [List.countP_cons, List.countP_cons, List.countP_cons, ← ih]
    by_cases hw : x.2 = w
    · simp only [hw, decide_true, Bool.true_and, Bool.and_eq_true, decide_eq_true_eq]
      by_cases c1 : a ≤ x.1 <;> by_cases c2 : x.1 < b <;> by_cases c3 : x.1 < e <;> by_cases c4 : b ≤ x.1 <;> simp only [c1, c2, c3, c4, and_true, and_false, if_true, if_false, true_and, false_and] <;> omega
    · simp [hw]
theorem cnW_le (w a b : Nat) (h : L.Sublist U) : cnW w a b L ≤ cnW w a b U := h.countP_le
theorem cnt2 (w : Nat) (h : L.Sublist U) : Cnt2 (fun a b => cnW w a b U) (fun a b => cnW w a b L) :=
  ⟨fun a b e h1 h2 => cnW_add w h1 h2 U, fun a b e h1 h2 => cnW_add w h1 h2 L, fun a b => cnW_le w a b h, fun a => cnW_zero w a L⟩
theorem made_cnt (nd : U.Nodup) (h : L.Sublist U) (w d : Nat) : (U.countP fun x => decide (x.2 = w) && (decide (x.1 < d) && !decide (x ∈ L))) = cnW w 0 d U - cnW w 0 d L := by
  have : (U.countP fun x => decide (x.2 = w) && (decide (x.1 < d) && !decide (x ∈ L))) + cnW w 0 d L = cnW w 0 d U := by
    induction h with
    | slnil => rfl
    | @cons l₁ l₂ a h ih =>
      have na := (List.nodup_cons.mp nd).1
      have ih := ih (List.nodup_cons.mp nd).2
      have ha : a ∉ l₁ := fun z => na (h.subset z)
      unfold cnW at ih ⊢
      rw [List.countP_cons, List.countP_cons]
      simp only [ha, not_false_eq_true, decide_false, Bool.not_false, Bool.and_true, Nat.zero_le, decide_true, Bool.true_and] at ih ⊢
      omega
    | @cons_cons l₁ l₂ a h ih =>
      have na := (List.nodup_cons.mp nd).1
      have ih := ih (List.nodup_cons.mp nd).2
      unfold cnW at ih ⊢
      rw [List.countP_cons, List.countP_cons, List.countP_cons]
      have e : l₂.countP (fun x => decide (x.2 = w) && (decide (x.1 < d) && !decide (x ∈ a :: l₁))) = l₂.countP (fun x => decide (x.2 = w) && (decide (x.1 < d) && !decide (x ∈ l₁))) := by
        apply List.countP_congr
        intro x hx
        have : x ≠ a := fun z => na (z ▸ hx)
        simp [this]
      rw [e]
      simp only [List.mem_cons, true_or, decide_true, Bool.not_true, Bool.and_false, Bool.false_eq_true, if_false, Nat.add_zero, Nat.zero_le, Bool.true_and] at ih ⊢
      omega
  omega
theorem sdU_eq (nd : U.Nodup) (h : L.Sublist U) (w d : Nat) : sdU U L w d = (cnW w 0 d U - cnW w 0 d L) % 2 := by
  unfold sdU; rw [made_cnt nd h]
/-- a lot breaks no look just if it fills each part as it is asked -/
theorem unb_parts (hU : DueOk p D U) (hK : LooksOk p D K) (h : L.Sublist U) : unb U K L = (prts U p D K).all fun x => (ptOf x).2 (L.countP (ptOf x).1) := by
  rw [Bool.eq_iff_iff]
  unfold unb
  rw [List.all_eq_true, List.all_eq_true]
  have one : ∀ w, (∀ x ∈ grpG (lkW K w), ∀ s ∈ x.2, (cnW w 0 x.1 U - cnW w 0 x.1 L) % 2 = s) ↔ ∀ t ∈ stW U D K w, parO t.2.2 (cnW w t.1 t.2.1 L) = true := fun w =>
    strs_ok (cnt2 w h) _ 0 0 (hK.seen w) (fun _ _ => Nat.zero_le _) (by decide) (by
      show (cnW w 0 0 U - cnW w 0 0 L) % 2 = 0
      rw [cnW_zero, cnW_zero])
  have flat : ∀ w, (∀ x ∈ grpG (lkW K w), ∀ s ∈ x.2, (cnW w 0 x.1 U - cnW w 0 x.1 L) % 2 = s) ↔ ∀ d s, (d, w, s) ∈ K → sdU U L w d = s := fun w => by
    constructor
    · intro z d s hs
      have : (d, s) ∈ flatG (grpG (lkW K w)) := by rw [(grp_ok (hK.asc w)).2]; exact mem_lkW.mpr hs
      obtain ⟨x, hx, e, hs'⟩ := mem_flat.mp this
      have := z x hx s hs'
      rw [e] at this
      rw [sdU_eq hU.nd h]; exact this
    · intro z x hx s hs
      have : (x.1, s) ∈ flatG (grpG (lkW K w)) := mem_flat.mpr ⟨x, hx, rfl, hs⟩
      rw [(grp_ok (hK.asc w)).2] at this
      have := z x.1 s (mem_lkW.mp this)
      rw [sdU_eq hU.nd h] at this; exact this
  constructor
  · intro z x hx
    unfold prts at hx
    obtain ⟨w, hw, hx⟩ := List.mem_flatMap.mp hx
    obtain ⟨t, ht, e⟩ := List.mem_map.mp hx
    subst e
    exact (one w).mp ((flat w).mpr fun d s hs => of_decide_eq_true (z (d, w, s) hs)) t ht
  · rintro z ⟨d, w, s⟩ hq
    have := (flat w).mp ((one w).mpr fun t ht => z (w, t) (List.mem_flatMap.mpr ⟨w, List.mem_range.mpr (hK.w _ hq), List.mem_map.mpr ⟨t, ht, rfl⟩⟩)) d s hq
    exact decide_eq_true this
theorem prts_cover (hU : DueOk p D U) (hK : LooksOk p D K) {x : Nat × Nat} (hx : x ∈ U) : inAny ((prts U p D K).map ptOf) x = true := by
  obtain ⟨t, ht, h1, h2⟩ := strs_cover (cd := fun a b => cnW x.2 a b U) _ 0 0 (hK.seen x.2) (fun _ _ => Nat.zero_le _) x.1 (Nat.zero_le _) (hU.d x hx)
  refine List.any_eq_true.mpr ⟨ptOf (x.2, t), List.mem_map.mpr ⟨(x.2, t), List.mem_flatMap.mpr ⟨x.2, List.mem_range.mpr (hU.w x hx), List.mem_map.mpr ⟨t, ht, rfl⟩⟩, rfl⟩, ?_⟩
  show (decide (x.2 = x.2) && (decide (t.1 ≤ x.1) && decide (x.1 < t.2.1))) = true
  simp [h1, h2]
theorem prts_apart (hK : LooksOk p D K) : (prts U p D K).Pairwise fun a b => ∀ x, ¬ (qOf a x = true ∧ qOf b x = true) := by
  unfold prts
  have go : ∀ ws : List Nat, ws.Nodup → (ws.flatMap fun w => (stW U D K w).map fun t => (w, t)).Pairwise fun a b => ∀ x, ¬ (qOf a x = true ∧ qOf b x = true) := by
    intro ws
    induction ws with
    | nil => intro _; exact .nil
    | cons w ws ih =>
      intro nd
      rw [List.flatMap_cons]
      refine List.pairwise_append.mpr ⟨?_, ih (List.nodup_cons.mp nd).2, fun a ha b hb x hx => ?_⟩
      · rw [List.pairwise_map]
        refine (strs_apart (cd := fun a b => cnW w a b U) _ 0 0 (hK.seen w) (fun _ _ => Nat.zero_le _)).imp fun {a b} h x hx => ?_
        unfold qOf at hx
        simp only [Bool.and_eq_true, decide_eq_true_eq] at hx
        exact h x.1 ⟨hx.1.2, hx.2.2⟩
      · obtain ⟨t, _, e⟩ := List.mem_map.mp ha
        obtain ⟨v, hv, hb⟩ := List.mem_flatMap.mp hb
        obtain ⟨u, _, e2⟩ := List.mem_map.mp hb
        subst e e2
        unfold qOf at hx
        simp only [Bool.and_eq_true, decide_eq_true_eq] at hx
        have : w = v := by rw [← hx.1.1, ← hx.2.1]
        exact (List.nodup_cons.mp nd).1 (this ▸ hv)
  exact go _ List.nodup_range
/-! ### all parts together -/
def numsOf (U : List (Nat × Nat)) (p D : Nat) (K : List Lk3) (M N : List (Nat × Nat)) : List (Nat × Nat × Option Bool) := (prts U p D K).map fun x => (goneN M (U.filter (qOf x)), freeN M N (U.filter (qOf x)), x.2.2.2)
def polyL (l : List (Nat × Nat × Option Bool)) : Nat → Nat := l.foldl (fun f t => conv f (pp t.1 t.2.1 t.2.2)) (fun j => if j = 0 then 1 else 0)
def costL : List (Nat × Nat × Option Bool) → Option Nat
  | [] => some 0
  | t :: l => match leadP t.1 t.2.1 t.2.2 with
    | none => none
    | some k => (costL l).map (k + ·)
def cntMN (U : List (Nat × Nat)) (K : List Lk3) (M N : List (Nat × Nat)) (j : Nat) : Nat := (lots U).countP fun L => (okMN M N U L && unb U K L) && decide (L.length = j)
theorem cnt_all (hU : DueOk p D U) (hK : LooksOk p D K) {M N : List (Nat × Nat)} (hMN : ∀ x ∈ M, x ∉ N) : cntMN U K M N = polyL (numsOf U p D K M N) := by
  have go : ∀ (l : List (Nat × Str3)) (pre : List (Nat × Str3)), (pre ++ l).Pairwise (fun a b => ∀ x, ¬ (qOf a x = true ∧ qOf b x = true)) →
      cntP M N U ((pre ++ l).map ptOf) = (l.map fun x => (goneN M (U.filter (qOf x)), freeN M N (U.filter (qOf x)), x.2.2.2)).foldl (fun f t => conv f (pp t.1 t.2.1 t.2.2)) (cntP M N U (pre.map ptOf)) := by
    intro l
    induction l with
    | nil => intro pre _; rw [List.append_nil]; rfl
    | cons x l ih =>
      intro pre hp
      have e := ih (pre ++ [x]) (by rw [List.append_assoc]; exact hp)
      rw [List.append_assoc] at e
      rw [show pre ++ x :: l = pre ++ ([x] ++ l) from rfl, e]
      rw [List.map_cons, List.foldl_cons]
      congr 1
      funext j
      rw [List.map_append, List.map_singleton, cntP_snoc]
      · congr 1
        funext i
        exact partP_eq hU.nd hMN (qOf x) x.2.2.2 i
      · intro y hy h
        obtain ⟨t, ht, hty⟩ := List.any_eq_true.mp h
        obtain ⟨z, hz, rfl⟩ := List.mem_map.mp ht
        have := (List.pairwise_append.mp hp).2.2 z hz x (by simp) y
        cases hq : (ptOf x).1 y with
        | false => rfl
        | true => exact absurd ⟨hty, hq⟩ this
  have e := go (prts U p D K) [] (by simpa using prts_apart hK)
  rw [List.nil_append] at e
  unfold polyL numsOf
  have e0 : cntP M N U (([] : List (Nat × Str3)).map ptOf) = fun j => if j = 0 then 1 else 0 := funext fun j => cntP_nil M N U j
  rw [e0] at e
  rw [← e]
  funext j
  unfold cntMN cntP
  have ef : U.filter (inAny ((prts U p D K).map ptOf)) = U := List.filter_eq_self.mpr fun x hx => prts_cover hU hK hx
  rw [ef]
  apply List.countP_congr
  intro L hL
  rw [unb_parts hU hK (mem_lots.mp hL), List.all_map]
  rfl
theorem lead_go : ∀ (l : List (Nat × Nat × Option Bool)) (f : Nat → Nat) (c : Nat), Lead f c →
    (∀ k, costL l = some k → Lead (l.foldl (fun f t => conv f (pp t.1 t.2.1 t.2.2)) f) (c + k)) ∧ (costL l = none → ∀ j, l.foldl (fun f t => conv f (pp t.1 t.2.1 t.2.2)) f j = 0)
  | [], f, c, h => ⟨fun k hk => by cases hk; exact h, fun z => nomatch z⟩
  | t :: l, f, c, h => by
    rw [List.foldl_cons]
    unfold costL
    cases ht : leadP t.1 t.2.1 t.2.2 with
    | none =>
      dsimp only
      refine ⟨fun k hk => (nomatch hk), fun _ => ?_⟩
      have z : ∀ j, conv f (pp t.1 t.2.1 t.2.2) j = 0 := fun j => conv_none (.inr (leadP_ok.2 ht)) j
      have stay : ∀ (l : List (Nat × Nat × Option Bool)) (g : Nat → Nat), (∀ j, g j = 0) → ∀ j, l.foldl (fun f t => conv f (pp t.1 t.2.1 t.2.2)) g j = 0 := by
        intro l
        induction l with
        | nil => intro g hg; exact hg
        | cons t l ih => intro g hg; exact ih _ fun j => conv_none (.inl hg) j
      exact stay l _ z
    | some a =>
      dsimp only
      have := lead_go l _ (c + a) (conv_lead h (leadP_ok.1 a ht))
      refine ⟨fun k hk => ?_, fun hn => ?_⟩
      · cases hc : costL l with
        | none => rw [hc] at hk; cases hk
        | some b =>
          rw [hc] at hk
          cases hk
          have := this.1 b hc
          rw [Nat.add_assoc] at this
          exact this
      · cases hc : costL l with
        | none => exact this.2 hc
        | some b => rw [hc] at hn; cases hn
theorem cost_lead (l : List (Nat × Nat × Option Bool)) : (∀ k, costL l = some k → Lead (polyL l) k) ∧ (costL l = none → ∀ j, polyL l j = 0) := by
  have := lead_go l (fun j => if j = 0 then 1 else 0) 0 ⟨by simp, fun i hi => by omega⟩
  refine ⟨fun k hk => ?_, this.2⟩
  have := this.1 k hk
  rw [Nat.zero_add] at this
  exact this
end
end Dl
namespace Dl
open PySem PySem.Spec PyProof.Rows L2
variable {p : Nat} {rs : List Rw} {D b : Nat} {L : List Lk}
theorem chain_nat {ma mb mc : Mi Dt} {ρ : En} {x y z : Nat} (ha : ma ρ = .ok (nD x) ρ) (hb : mb ρ = .ok (nD y) ρ) (hc : mc ρ = .ok (nD z) ρ) : mB (mChain fLe fLt ma mb mc) ρ = .ok (decide (x ≤ y) && decide (y < z)) ρ := by
  refine tb_ok ?_
  refine bind_ok ha (bind_ok hb ?_)
  rw [fLe_nat]
  by_cases h : x ≤ y
  · rw [decide_eq_true h]
    refine bind_ok (a := .bl true) (ρ1 := ρ) rfl ?_
    rw [Bool.true_and]
    refine bind_ok hc ?_
    rw [fLt_nat]; rfl
  · rw [decide_eq_false h]
    exact bind_ok (a := .bl false) (ρ1 := ρ) rfl rfl
def dayL (rs : List Rw) (D w : Nat) : List Nat := (List.range D).filter (isDue rs w)
theorem ixv {ρ : En} {i : Nat} {m : Mi Dt} {s : Sl} {d y z : Dt} (h1 : ρ[i]? = some (some s)) (h2 : m ρ = .ok y ρ) (h3 : mPeek i ρ = .ok d ρ) (h4 : fIx d y = some z) : hasSl i (mIxV i m) ρ = .ok z ρ := by
  unfold hasSl
  rw [h1]
  exact bind_ok h2 (bind_ok h3 (by rw [h4]; rfl))
end Dl
namespace Dl
open PySem PySem.Spec PyProof.Rows L2
variable {p : Nat} {rs : List Rw} {D b : Nat} {L : List Lk}
theorem due_w {w : Nat} (hw : w < p) : ((dueP p rs D).filter fun q => decide (q.2 = w)) = (dayL rs D w).map fun d => (d, w) := by
  unfold dayL
  rw [← pick_w D w hw, List.map_map]
  have : ∀ l : List (Nat × Nat), (∀ q ∈ l, q.2 = w) → l = l.map ((fun d => (d, w)) ∘ (·.1)) := fun l h => by
    induction l with
    | nil => rfl
    | cons q l ih =>
      rw [List.map_cons, ← ih fun x hx => h x (List.mem_cons_of_mem _ hx)]
      congr 1
      have := h q (by simp)
      show q = (q.1, w)
      rw [← this]
  exact this _ fun q hq => of_decide_eq_true (List.mem_filter.mp hq).2
end Dl
namespace Dl
open PySem PySem.Spec PyProof.Rows L2
variable {p : Nat} {rs : List Rw} {D b : Nat} {L : List Lk}
def nO : Option Nat → Dt
  | none => .non
  | some k => nD k
def isE (g : Nat) (o : Option Bool) : Bool := match o with
  | none => true
  | some o => decide (g % 2 = 1) == o
theorem leadP_isE (g f : Nat) (o : Option Bool) : leadP g f o = if isE g o = true then some g else if f = 0 then none else some (g + 1) := by
  unfold leadP isE
  cases o with
  | none => simp
  | some o =>
    by_cases h : o = decide (g % 2 = 1)
    · rw [if_pos (.inr (by rw [h])), if_pos (by rw [h]; simp)]
    · have h2 : (decide (g % 2 = 1) == o) = false := by
        cases hb : (decide (g % 2 = 1) == o) with
        | false => rfl
        | true => exact absurd (beq_iff_eq.mp hb).symm h
      rw [if_neg (fun z => z.elim (fun z => nomatch z) fun z => h (Option.some.inj z))]
      exact (if_neg (show ¬ (decide (g % 2 = 1) == o) = true by rw [h2]; simp)).symm
def canB (c : Option Nat) (b : Nat) : Bool := match c with
  | none => false
  | some k => decide (k ≤ b)
end Dl
namespace Dl
open PySem PySem.Spec PyProof.Rows L2
variable {p : Nat} {rs : List Rw} {D b : Nat} {K L : List Lk}
/-! ### turnings and looks as a season holds them -/
theorem due_ok : DueOk p D (dueP p rs D) := ⟨dueP_nodup D, fun x hx => (mem_dueP.mp hx).1, fun x hx => (mem_dueP.mp hx).2.1⟩
def lt3 (a c : Lk) : Prop := a.1 < c.1 ∨ (a.1 = c.1 ∧ (a.2.1 < c.2.1 ∨ (a.2.1 = c.2.1 ∧ a.2.2 < c.2.2)))
theorem allLk_asc (p D : Nat) : (allLk p D).Pairwise lt3 := by
  unfold allLk
  rw [List.pairwise_flatMap]
  refine ⟨fun d _ => ?_, List.pairwise_lt_range.imp fun {a c} h x hx y hy => ?_⟩
  · rw [List.pairwise_flatMap]
    refine ⟨fun w _ => ?_, List.pairwise_lt_range.imp fun {a c} h x hx y hy => ?_⟩
    · rw [List.pairwise_flatMap]
      refine ⟨fun s _ => List.pairwise_singleton _ _, List.pairwise_lt_range.imp fun {a c} h x hx y hy => ?_⟩
      rw [List.mem_singleton.mp hx, List.mem_singleton.mp hy]
      exact .inr ⟨rfl, .inr ⟨rfl, h⟩⟩
    · obtain ⟨s, _, hx⟩ := List.mem_flatMap.mp hx
      obtain ⟨t, _, hy⟩ := List.mem_flatMap.mp hy
      rw [List.mem_singleton.mp hx, List.mem_singleton.mp hy]
      exact .inr ⟨rfl, .inl h⟩
  · obtain ⟨u, _, hx⟩ := List.mem_flatMap.mp hx
    obtain ⟨s, _, hx⟩ := List.mem_flatMap.mp hx
    obtain ⟨v, _, hy⟩ := List.mem_flatMap.mp hy
    obtain ⟨t, _, hy⟩ := List.mem_flatMap.mp hy
    rw [List.mem_singleton.mp hx, List.mem_singleton.mp hy]
    exact .inl h
theorem lks_ok (K : List Lk) : LooksOk p D (lksOf p D K) := by
  refine ⟨fun w => ?_, fun q hq => ?_, fun q hq => ?_, fun q hq => ?_⟩
  · unfold lkW
    rw [List.pairwise_map]
    have h1 : (lksOf p D K).Pairwise lt3 := (allLk_asc p D).filter _
    refine (h1.filter _).imp_of_mem fun {a c} ha hc h => ?_
    have e1 : a.2.1 = w := of_decide_eq_true (List.mem_filter.mp ha).2
    have e2 : c.2.1 = w := of_decide_eq_true (List.mem_filter.mp hc).2
    unfold lt3 at h
    unfold ltP
    dsimp only
    omega
  · exact (mem_allLk.mp (List.mem_filter.mp hq).1).1
  · exact (mem_allLk.mp (List.mem_filter.mp hq).1).2.1
  · exact (mem_allLk.mp (List.mem_filter.mp hq).1).2.2
/-! ### what fits -/
abbrev Pr := Nat × Nat
theorem side_sd (M : List Pr) {w : Nat} (hw : w < p) (d : Nat) : sdU (dueP p rs D) M w d = sideN rs D M d w := by
  unfold sdU sideN madeL
  rw [← List.countP_eq_length_filter]
  congr 1
  rw [show ((List.range D).filter (isDue rs w)) = dayL rs D w from rfl]
  have h := due_w (p := p) (rs := rs) (D := D) hw
  have e : (dueP p rs D).countP (fun x => decide (x.2 = w) && (decide (x.1 < d) && !decide (x ∈ M))) = ((dueP p rs D).filter fun q => decide (q.2 = w)).countP fun x => decide (x.1 < d) && !decide (x ∈ M) := by
    rw [List.countP_filter]
    apply List.countP_congr
    intro x _
    simp only [Bool.and_eq_true]
    exact ⟨fun z => ⟨z.2, z.1⟩, fun z => ⟨z.2, z.1⟩⟩
  rw [e, h, List.countP_map]
  rfl
def unK (rs : List Rw) (D : Nat) (K : List Lk) (M : List Pr) : Bool := K.all fun q => decide (sideN rs D M q.1 q.2.1 = q.2.2)
theorem unb_un (hK : ∀ q ∈ K, q.2.1 < p) (M : List Pr) : unb (dueP p rs D) K M = unK rs D K M := by
  unfold unb unK
  rw [Bool.eq_iff_iff, List.all_eq_true, List.all_eq_true]
  exact ⟨fun h q hq => by rw [← side_sd M (hK q hq)]; exact h q hq, fun h q hq => by rw [side_sd M (hK q hq)]; exact h q hq⟩
theorem unK_lks (hK : ∀ q ∈ K, GoodLk p D q) (M : List Pr) : unK rs D (lksOf p D K) M = unK rs D K M := by
  unfold unK
  rw [Bool.eq_iff_iff, List.all_eq_true, List.all_eq_true]
  exact ⟨fun h q hq => h q (mem_lks hq (hK q hq)), fun h q hq => h q (lks_mem hq)⟩
/-- all lots that fit, ascending -/
def fitL (p : Nat) (rs : List Rw) (D b : Nat) (K : List Lk) : List (List Pr) := (lots (dueP p rs D)).filter fun M => unK rs D K M && decide (M.length ≤ b)
theorem mem_fitL {M : List Pr} : M ∈ fitL p rs D b K ↔ M.Sublist (dueP p rs D) ∧ unK rs D K M = true ∧ M.length ≤ b := by
  unfold fitL
  rw [List.mem_filter, mem_lots, Bool.and_eq_true, decide_eq_true_eq]
/-- a season whose looks come of K -/
structure Sn (p : Nat) (rs : List Rw) (D b : Nat) (K : List Lk) : Prop where
  good : Good p rs
  rl : rs.length < 1000
  hp : p < 100
  D0 : 0 < D
  hD : D ≤ 60
  hb : b < 1000
  hK : ∀ q ∈ K, GoodLk p D q
  kl : K.length < 900
theorem Sn.un (h : Sn p rs D b K) (M : List Pr) : unb (dueP p rs D) (lksOf p D K) M = unK rs D K M := by
  rw [unb_un (fun q hq => (lks_good K q hq).w), unK_lks h.hK]
/-- the lots that fit, with some missed and some made -/
def wMN (p : Nat) (rs : List Rw) (D b : Nat) (K : List Lk) (M N : List Pr) : Nat := (fitL p rs D b K).countP (okMN M N (dueP p rs D))
theorem poly_cnt (h : Sn p rs D b K) {M N : List Pr} (hMN : ∀ x ∈ M, x ∉ N) (j : Nat) : polyL (numsOf (dueP p rs D) p D (lksOf p D K) M N) j = (lots (dueP p rs D)).countP fun x => (okMN M N (dueP p rs D) x && unK rs D K x) && decide (x.length = j) := by
  rw [← cnt_all due_ok (lks_ok K) hMN]
  unfold cntMN
  apply List.countP_congr
  intro x _
  rw [h.un]
theorem cost_min (h : Sn p rs D b K) {M N : List Pr} (hMN : ∀ x ∈ M, x ∉ N) :
    (∀ k, costL (numsOf (dueP p rs D) p D (lksOf p D K) M N) = some k → (∃ x, x.Sublist (dueP p rs D) ∧ okMN M N (dueP p rs D) x = true ∧ unK rs D K x = true ∧ x.length = k) ∧ ∀ x, x.Sublist (dueP p rs D) → okMN M N (dueP p rs D) x = true → unK rs D K x = true → k ≤ x.length) ∧
    (costL (numsOf (dueP p rs D) p D (lksOf p D K) M N) = none → ∀ x, x.Sublist (dueP p rs D) → okMN M N (dueP p rs D) x = true → unK rs D K x = false) := by
  obtain ⟨c1, c2⟩ := cost_lead (numsOf (dueP p rs D) p D (lksOf p D K) M N)
  refine ⟨fun k hk => ?_, fun hn x hx ho => ?_⟩
  · obtain ⟨h1, h2⟩ := c1 k hk
    rw [poly_cnt h hMN] at h1
    obtain ⟨x, hx, hP⟩ := List.countP_pos_iff.mp h1
    simp only [Bool.and_eq_true, decide_eq_true_eq] at hP
    refine ⟨⟨x, mem_lots.mp hx, hP.1.1, hP.1.2, hP.2⟩, fun y hy ho hu => ?_⟩
    rcases Nat.lt_or_ge y.length k with hlt | hge
    · have := h2 y.length hlt
      rw [poly_cnt h hMN, List.countP_eq_zero] at this
      exact absurd (show ((okMN M N (dueP p rs D) y && unK rs D K y) && decide (y.length = y.length)) = true by rw [ho, hu]; simp) (this y (mem_lots.mpr hy))
    · exact hge
  · have := c2 hn x.length
    rw [poly_cnt h hMN, List.countP_eq_zero] at this
    have := this x (mem_lots.mpr hx)
    rw [ho] at this
    simpa using this
theorem can_w (h : Sn p rs D b K) {M N : List Pr} (hMN : ∀ x ∈ M, x ∉ N) : canB (costL (numsOf (dueP p rs D) p D (lksOf p D K) M N)) b = decide (0 < wMN p rs D b K M N) := by
  obtain ⟨c1, c2⟩ := cost_min h hMN
  rw [Bool.eq_iff_iff, decide_eq_true_eq]
  unfold wMN
  rw [List.countP_pos_iff]
  cases hc : costL (numsOf (dueP p rs D) p D (lksOf p D K) M N) with
  | none =>
    refine ⟨fun z => (by cases z), fun ⟨x, hx, ho⟩ => ?_⟩
    obtain ⟨h1, h2, h3⟩ := mem_fitL.mp hx
    rw [c2 hc x h1 ho] at h2
    cases h2
  | some k =>
    obtain ⟨⟨x, x1, x2, x3, x4⟩, hmin⟩ := c1 k hc
    show decide (k ≤ b) = true ↔ _
    rw [decide_eq_true_eq]
    refine ⟨fun hk => ⟨x, mem_fitL.mpr ⟨x1, x3, by omega⟩, x2⟩, fun ⟨y, hy, ho⟩ => ?_⟩
    obtain ⟨h1, h2, h3⟩ := mem_fitL.mp hy
    have := hmin y h1 ho h2
    omega
end Dl
namespace Dl
open PySem PySem.Spec PyProof.Rows L2
variable {p : Nat} {rs : List Rw} {D b : Nat} {K L : List Lk}
def sideO (l : List Nat) : Dt := match l with
  | [s] => nD s
  | _ => .non
end Dl
namespace Dl
open PySem PySem.Spec PyProof.Rows L2
/-! ### == [] and != [] -/
/-! ### draws of a deal -/
def dlD (q : List Int × Int) : Dt := .deal q.1 q.2
abbrev Dq := { q : List Int × Int // q.1.length < 900 }
end Dl
namespace Dl
open PySem PySem.Spec PyProof.Rows L2
variable {p : Nat} {rs : List Rw} {D b : Nat} {K : List Lk}
theorem feq_nat (a b : Nat) : fEq (nD a) (nD b) = some (.bl (decide (a = b))) := (feq_int _ _).trans (by congr 2; exact decide_eq_decide.mpr (by omega))
/-! ### the side by the law -/
/-! ### drawn looks -/
/-! ### a season told -/
structure Told (most p : Nat) (rs : List Rw) (D b : Nat) (K : List Lk) : Prop where
  good : Good p rs
  p0 : 0 < p
  p3 : p ≤ 3
  l3 : rs.length ≤ 3
  D0 : 0 < D
  D6 : D ≤ 6
  b9 : b ≤ 18
  hK : ∀ x ∈ K, GoodLk p D x
  k5 : K.length ≤ 4
  due : (dueP p rs D).length ≤ max 3 most
def tC : Mi Bool := mAnd (mB (m2 fGt (m1 fLen (mCall 2 m_law_due (mCons (mVar 2) (mCons (mVar 3) (mPure []))))) (mPeek 1))) (mB (m2 fGt (mVar 3) (mPure (.int 1))))
end Dl
namespace Dl
open PySem PySem.Spec PyProof.Rows L2
variable {p : Nat} {rs : List Rw} {D b : Nat} {K : List Lk} {most : Nat}
theorem Told.n0 (h : Told most p rs D b K) : 0 < rs.length := h.good.n0
abbrev cstO (p : Nat) (rs : List Rw) (D : Nat) (K : List Lk) : Option Nat := costL (numsOf (dueP p rs D) p D (lksOf p D K) [] [])
def oDq : Option Dq → Option Sl
  | none => none
  | some q => ow (dlD q.1)
theorem no_flt {k : Nat} (o : Option Nat) : Flt k (nO o) := by cases o with
  | none => exact .non
  | some n => exact .int _
end Dl
namespace Dl
open PySem PySem.Spec PyProof.Rows L2
variable {p : Nat} {rs : List Rw} {D b : Nat} {K : List Lk} {most : Nat}
/-! ### whether a turning was missed -/
def anM (F : List (List Pr)) (x : Pr) : Bool := F.any fun M => decide (x ∈ M)
def anN (F : List (List Pr)) (x : Pr) : Bool := F.any fun M => !decide (x ∈ M)
theorem ok_m {U : List Pr} {x : Pr} (hx : x ∈ U) (M : List Pr) : okMN [x] [] U M = decide (x ∈ M) := by
  rw [Bool.eq_iff_iff, okMN_iff, decide_eq_true_eq]
  exact ⟨fun h => (h x hx).1 (by simp), fun h y _ => ⟨fun z => by rw [List.mem_singleton.mp z]; exact h, fun z => by cases z⟩⟩
theorem ok_n {U : List Pr} {x : Pr} (hx : x ∈ U) (M : List Pr) : okMN [] [x] U M = !decide (x ∈ M) := by
  rw [Bool.eq_iff_iff, okMN_iff]
  simp only [Bool.not_eq_true', decide_eq_false_iff_not]
  exact ⟨fun h => (h x hx).2 (by simp), fun h y _ => ⟨(fun z => by cases z), (fun z => by rw [List.mem_singleton.mp z]; exact h)⟩⟩
theorem pos_any {F : List (List Pr)} {f : List Pr → Bool} : decide (0 < F.countP f) = F.any f := by
  rw [Bool.eq_iff_iff, decide_eq_true_eq, List.countP_pos_iff, List.any_eq_true]
/-! ### sides shown -/
end Dl
namespace Dl
open PySem PySem.Spec PyProof.Rows L2
/-! ### steps that leave the slots as they are -/
section
variable {ρ ρ1 ρ2 : En} {i j n : Nat} {m ma mb : Mi Dt} {ms : Mi (List Dt)} {d r x y z : Dt} {ds : List Dt} {f : List Dt → Fo} {s : Option Dt} {t : Sl} {io0 : Bool}
theorem sl_lv (h : ρ[i]? = some (lv s)) : setSl i t ρ = some (ρ.set i (some t)) := by unfold setSl; rw [h]; cases s <;> rfl
theorem sl_vl (h : ρ[i]? = some (some (.val d))) : setSl i t ρ = some (ρ.set i (some t)) := by unfold setSl; rw [h]
theorem sl_ow (h : ρ[i]? = some (some (.own false d))) : setSl i t ρ = some (ρ.set i (some t)) := by unfold setSl; rw [h]
theorem sl_no (h : ρ[i]? = some none) : setSl i t ρ = some (ρ.set i (some t)) := by unfold setSl; rw [h]
end
end Dl
namespace Dl
open PySem PySem.Spec PyProof.Rows L2
/-! ### what the step words lean on -/
section
variable {α : Type} {ρ ρ1 ρ2 ρ3 : En} {i j n : Nat} {m ma mb : Mi Dt} {ms : Mi (List Dt)} {d r x y z : Dt} {ds : List Dt} {f : List Dt → Fo} {s : Option Dt} {t : Sl} {io0 : Bool} {c : Mi Bool} {a b : Nat}
theorem var_ok (h : ρ[i]? = some (some (.val d))) : mVar i ρ = .ok d ρ := by unfold mVar; rw [h]
theorem peek_ok (h : ρ[i]? = some (some (.val d))) : mPeek i ρ = .ok d ρ := by unfold mPeek; rw [h]
theorem peek_ow (h : ρ[i]? = some (some (.own io0 d))) : mPeek i ρ = .ok d ρ := by unfold mPeek; rw [h]
theorem pure_ok {a : α} : mPure a ρ = .ok a ρ := rfl
theorem lit_ok {k : Nat} : mPure (Dt.int (OfNat.ofNat k : Int)) ρ = .ok (nD (OfNat.ofNat k)) ρ := rfl
theorem chain_ge {ma mb mc : Mi Dt} {ρ : En} {x y z : Nat} (ha : ma ρ = .ok (nD x) ρ) (hb : mb ρ = .ok (nD y) ρ) (hc : mc ρ = .ok (nD z) ρ) : mB (mChain fGe fGe ma mb mc) ρ = .ok (decide (y ≤ x) && decide (z ≤ y)) ρ := by
  refine tb_ok ?_
  refine bind_ok ha (bind_ok hb ?_)
  rw [ge_nat]
  by_cases h : y ≤ x
  · rw [decide_eq_true h]
    refine bind_ok (a := .bl true) (ρ1 := ρ) rfl ?_
    rw [Bool.true_and]
    refine bind_ok hc ?_
    rw [ge_nat]; rfl
  · rw [decide_eq_false h]
    exact bind_ok (a := .bl false) (ρ1 := ρ) rfl rfl
theorem chain_ge_t {ma mb mc : Mi Dt} {x y z : Nat} (ha : ma ρ = .ok (nD x) ρ) (hb : mb ρ = .ok (nD y) ρ) (hc : mc ρ = .ok (nD z) ρ) (h1 : y ≤ x) (h2 : z ≤ y) : mB (mChain fGe fGe ma mb mc) ρ = .ok true ρ := by
  rw [chain_ge ha hb hc, decide_eq_true h1, decide_eq_true h2]; rfl
theorem chainT {ma mb mc : Mi Dt} {x y z : Nat} (ha : ma ρ = .ok (nD x) ρ) (hb : mb ρ = .ok (nD y) ρ) (hc : mc ρ = .ok (nD z) ρ) (h1 : x ≤ y) (h2 : y < z) : mB (mChain fLe fLt ma mb mc) ρ = .ok true ρ := by
  rw [chain_nat ha hb hc, decide_eq_true h1, decide_eq_true h2]; rfl
theorem callQ' (h : ms ρ = .ok ds ρ1) (hn : ds.length = n) (hf : f ds = .ret d r) : mCall n f ms ρ = .ok d ρ1 := call_ok h hn hf
theorem methQ {c : Nat} {S : Dt} (hm : m ρ = .ok S ρ1) (h : ms ρ1 = .ok ds ρ2) (hn : ds.length + 1 = n) (hf : f (S :: ds) = .ret d r) (hS : ∃ vs, S = .ins c vs) : mMeth c n f m ms ρ = .ok d ρ2 := by
  obtain ⟨vs, rfl⟩ := hS
  exact meth_ok hm h hn hf
theorem callJ {io1 : Bool} (h0 : ρ[i]? = some (some (.own io0 x))) (h : ms ρ = .ok ds ρ1) (h1 : ρ1[i]? = some (some (.own io1 y))) (hn : ds.length + 1 = n) (hf : f (y :: ds) = .ret d r) : mCallIo n f i ms ρ = .ok d (ρ1.set i (some (.own io1 r))) := callIo_ok h0 h h1 hn hf rfl
theorem not_f (h : c ρ = .ok true ρ1) : mNot c ρ = .ok false ρ1 := not_ok h
theorem not_t (h : c ρ = .ok false ρ1) : mNot c ρ = .ok true ρ1 := not_ok h
theorem ixv' {s : Sl} (h1 : ρ[i]? = some (some s)) (h2 : m ρ = .ok y ρ) (h3 : mPeek i ρ = .ok d ρ) (h4 : fIx d y = some z) : hasSl i (mIxV i m) ρ = .ok z ρ := ixv h1 h2 h3 h4
theorem pars2_ok (h : ms ρ = .ok [x, y] ρ1) (k1 : setSl i (.val x) ρ1 = some ρ2) (k2 : setSl j (.val y) ρ2 = some ρ3) : sPars [i, j] [false, false] ms ρ = .nx ρ3 := pars_ok h (by show (setSl i (.val x) ρ1).bind _ = _; rw [k1]; show (setSl j (.val y) ρ2).bind _ = _; rw [k2]; rfl)
theorem lt_f (h : ¬ a < b) : fLt (nD a) (nD b) = some (.bl false) := by rw [fLt_nat, decide_eq_false h]
theorem lt_t (h : a < b) : fLt (nD a) (nD b) = some (.bl true) := by rw [fLt_nat, decide_eq_true h]
theorem le_f (h : ¬ a ≤ b) : fLe (nD a) (nD b) = some (.bl false) := by rw [fLe_nat, decide_eq_false h]
theorem le_t (h : a ≤ b) : fLe (nD a) (nD b) = some (.bl true) := by rw [fLe_nat, decide_eq_true h]
theorem gt_f (h : ¬ b < a) : fGt (nD a) (nD b) = some (.bl false) := by rw [gt_nat, decide_eq_false h]
theorem gt_t (h : b < a) : fGt (nD a) (nD b) = some (.bl true) := by rw [gt_nat, decide_eq_true h]
theorem ge_f (h : ¬ b ≤ a) : fGe (nD a) (nD b) = some (.bl false) := by rw [ge_nat, decide_eq_false h]
theorem ge_t (h : b ≤ a) : fGe (nD a) (nD b) = some (.bl true) := by rw [ge_nat, decide_eq_true h]
theorem eq_f (h : ¬ a = b) : fEq (nD a) (nD b) = some (.bl false) := by rw [feq_nat, decide_eq_false h]
theorem eq_t (h : a = b) : fEq (nD a) (nD b) = some (.bl true) := by rw [feq_nat, decide_eq_true h]
theorem ne_f (h : a = b) : fNe (nD a) (nD b) = some (.bl false) := by rw [fne_nat, decide_eq_true h]; rfl
theorem ne_t (h : ¬ a = b) : fNe (nD a) (nD b) = some (.bl true) := by rw [fne_nat, decide_eq_false h]; rfl
theorem flt_tup_nats {k : Nat} (l : List Nat) : Flt (k + 1) (.tup (l.map nD)) := .tup (flt_nats l)
theorem flt_lst_nats {k : Nat} (l : List Nat) : Flt (k + 1) (.lst (l.map nD)) := .lst (flt_nats l)
theorem flt_side {k : Nat} (l : List Nat) : Flt k (sideO l) := by
  unfold sideO
  split
  · exact .int _
  · exact .non
theorem sl_dq {ρ : En} {i : Nat} {q : Option Dq} {t : Sl} (h : ρ[i]? = some (oDq q)) : setSl i t ρ = some (ρ.set i (some t)) := by unfold setSl; rw [h]; cases q <;> rfl
end
end Dl
namespace Dl
open PySem PySem.Spec PyProof.Rows L2
variable {p : Nat} {rs : List Rw} {D b : Nat} {K : List Lk} {most : Nat}
local macro_rules | `(tactic| array_mem_dec) => `(tactic| first
  | with_reducible assumption
  | with_reducible exact fAdd_nat _ _
  | with_reducible exact fMul_nat _ _ (by omega)
  | with_reducible exact fSub_nat (by first | assumption | omega)
  | with_reducible exact lt_f (by first | assumption | omega)
  | with_reducible exact lt_t (by first | assumption | omega)
  | with_reducible exact le_f (by first | assumption | omega)
  | with_reducible exact le_t (by first | assumption | omega)
  | with_reducible exact gt_f (by first | assumption | omega)
  | with_reducible exact gt_t (by first | assumption | omega)
  | with_reducible exact ge_f (by first | assumption | omega)
  | with_reducible exact ge_t (by first | assumption | omega)
  | with_reducible exact eq_f (by first | assumption | omega)
  | with_reducible exact eq_t (by first | assumption | omega)
  | with_reducible exact ne_f (by first | assumption | omega)
  | with_reducible exact ne_t (by first | assumption | omega)
  | with_reducible exact feq_nat _ _
  | with_reducible exact fne_nat _ _
  | with_reducible exact fLt_nat _ _
  | with_reducible exact fLe_nat _ _
  | with_reducible exact gt_nat _ _
  | with_reducible exact ge_nat _ _
  | with_reducible exact len_lst _ _
  | with_reducible exact len_tup _ _
  | with_reducible exact fne_self (k := 2) (by first | assumption | exact .int _ | exact .bl _ | exact .non | exact flt_tup_nats _ | exact flt_lst_nats _ | exact flt_side _ | exact flt_str _) (by decide)
  | with_reducible exact feq_self (k := 2) (by first | assumption | exact .int _ | exact .bl _ | exact .non | exact flt_tup_nats _ | exact flt_lst_nats _ | exact flt_side _ | exact flt_str _) (by decide)
  | rfl)
local macro_rules | `(tactic| array_get_dec) => `(tactic| first
  | ((with_reducible apply var_ok); rfl)
  | ((with_reducible apply peek_ok); rfl)
  | ((with_reducible apply peek_ow); rfl)
  | with_reducible exact lit_ok
  | with_reducible exact pure_ok
  | ((with_reducible apply cons_ok); array_get_dec; array_get_dec)
  | ((with_reducible apply callQ'); array_get_dec; rfl; with_reducible assumption)
  | ((with_reducible apply methQ); array_get_dec; array_get_dec; rfl; (with_reducible assumption); exact ⟨_, rfl⟩)
  | ((with_reducible apply callJ); rfl; array_get_dec; rfl; rfl; with_reducible assumption)
  | ((with_reducible apply m2_ok); array_get_dec; array_get_dec; array_mem_dec)
  | ((with_reducible apply m1_ok); array_get_dec; array_mem_dec)
  | ((with_reducible apply m1N_ok); array_get_dec; array_mem_dec)
  | ((with_reducible apply tup_ok); array_get_dec; exact sl_le (by simp))
  | ((with_reducible apply lst_ok); array_get_dec; exact sl_le (by simp))
  | ((with_reducible apply chain_ge_t); array_get_dec; array_get_dec; array_get_dec; omega; omega)
  | ((with_reducible apply chainT); array_get_dec; array_get_dec; array_get_dec; omega; omega)
  | ((with_reducible apply tb_ok); array_get_dec)
  | ((with_reducible apply not_f); array_get_dec)
  | ((with_reducible apply not_t); array_get_dec)
  | ((with_reducible apply not_ok); array_get_dec)
  | ((with_reducible apply and_t); array_get_dec; array_get_dec)
  | ((with_reducible apply and_f); array_get_dec)
  | ((with_reducible apply or_f); array_get_dec; array_get_dec)
  | ((with_reducible apply or_t); array_get_dec)
  | ((with_reducible apply ixv'); rfl; array_get_dec; rfl; array_mem_dec)
  | with_reducible assumption)
local macro_rules | `(tactic| decreasing_trivial) => `(tactic| first
  | ((with_reducible apply sl_lv); rfl)
  | ((with_reducible apply sl_vl); rfl)
  | ((with_reducible apply sl_no); rfl)
  | ((with_reducible apply sl_ow); rfl)
  | ((with_reducible apply sl_dq); rfl))
local macro_rules | `(tactic| get_elem_tactic_extensible) => `(tactic| first
  | ((with_reducible apply set_ok); array_get_dec; decreasing_trivial)
  | ((with_reducible apply setN_ok); array_get_dec; decreasing_trivial)
  | ((with_reducible apply pars2_ok); array_get_dec; decreasing_trivial; decreasing_trivial)
  | ((with_reducible apply drop_ok); array_get_dec)
  | ((with_reducible apply if_f (t := fun ρ => So.nx ρ)); array_get_dec; rfl)
  | ((with_reducible apply if_f); array_get_dec; rfl))
/-! ### dicts of pairs by a comprehension -/
/-! ### how long a wheel lay: all cases -/
end Dl
namespace Dl
open PySem PySem.Spec PyProof.Rows L2
variable {p : Nat} {rs : List Rw} {D b : Nat} {K : List Lk} {most : Nat}
local macro_rules | `(tactic| array_mem_dec) => `(tactic| first
  | with_reducible assumption
  | with_reducible exact fAdd_nat _ _
  | with_reducible exact fMul_nat _ _ (by omega)
  | with_reducible exact fSub_nat (by first | assumption | omega)
  | with_reducible exact lt_f (by first | assumption | omega)
  | with_reducible exact lt_t (by first | assumption | omega)
  | with_reducible exact le_f (by first | assumption | omega)
  | with_reducible exact le_t (by first | assumption | omega)
  | with_reducible exact gt_f (by first | assumption | omega)
  | with_reducible exact gt_t (by first | assumption | omega)
  | with_reducible exact ge_f (by first | assumption | omega)
  | with_reducible exact ge_t (by first | assumption | omega)
  | with_reducible exact eq_f (by first | assumption | omega)
  | with_reducible exact eq_t (by first | assumption | omega)
  | with_reducible exact ne_f (by first | assumption | omega)
  | with_reducible exact ne_t (by first | assumption | omega)
  | with_reducible exact feq_nat _ _
  | with_reducible exact fne_nat _ _
  | with_reducible exact fLt_nat _ _
  | with_reducible exact fLe_nat _ _
  | with_reducible exact gt_nat _ _
  | with_reducible exact ge_nat _ _
  | with_reducible exact len_lst _ _
  | with_reducible exact len_tup _ _
  | with_reducible exact fne_self (k := 2) (by first | assumption | exact .int _ | exact .bl _ | exact .non | exact flt_tup_nats _ | exact flt_lst_nats _ | exact flt_side _ | exact flt_str _) (by decide)
  | with_reducible exact feq_self (k := 2) (by first | assumption | exact .int _ | exact .bl _ | exact .non | exact flt_tup_nats _ | exact flt_lst_nats _ | exact flt_side _ | exact flt_str _) (by decide)
  | rfl)
local macro_rules | `(tactic| array_get_dec) => `(tactic| first
  | ((with_reducible apply var_ok); rfl)
  | ((with_reducible apply peek_ok); rfl)
  | ((with_reducible apply peek_ow); rfl)
  | with_reducible exact lit_ok
  | with_reducible exact pure_ok
  | ((with_reducible apply cons_ok); array_get_dec; array_get_dec)
  | ((with_reducible apply callQ'); array_get_dec; rfl; with_reducible assumption)
  | ((with_reducible apply methQ); array_get_dec; array_get_dec; rfl; (with_reducible assumption); exact ⟨_, rfl⟩)
  | ((with_reducible apply callJ); rfl; array_get_dec; rfl; rfl; with_reducible assumption)
  | ((with_reducible apply m2_ok); array_get_dec; array_get_dec; array_mem_dec)
  | ((with_reducible apply m1_ok); array_get_dec; array_mem_dec)
  | ((with_reducible apply m1N_ok); array_get_dec; array_mem_dec)
  | ((with_reducible apply tup_ok); array_get_dec; exact sl_le (by simp))
  | ((with_reducible apply lst_ok); array_get_dec; exact sl_le (by simp))
  | ((with_reducible apply chain_ge_t); array_get_dec; array_get_dec; array_get_dec; omega; omega)
  | ((with_reducible apply chainT); array_get_dec; array_get_dec; array_get_dec; omega; omega)
  | ((with_reducible apply tb_ok); array_get_dec)
  | ((with_reducible apply not_f); array_get_dec)
  | ((with_reducible apply not_t); array_get_dec)
  | ((with_reducible apply not_ok); array_get_dec)
  | ((with_reducible apply and_t); array_get_dec; array_get_dec)
  | ((with_reducible apply and_f); array_get_dec)
  | ((with_reducible apply or_f); array_get_dec; array_get_dec)
  | ((with_reducible apply or_t); array_get_dec)
  | ((with_reducible apply ixv'); rfl; array_get_dec; rfl; array_mem_dec)
  | with_reducible assumption)
local macro_rules | `(tactic| decreasing_trivial) => `(tactic| first
  | ((with_reducible apply sl_lv); rfl)
  | ((with_reducible apply sl_vl); rfl)
  | ((with_reducible apply sl_no); rfl)
  | ((with_reducible apply sl_ow); rfl)
  | ((with_reducible apply sl_dq); rfl))
local macro_rules | `(tactic| get_elem_tactic_extensible) => `(tactic| first
  | ((with_reducible apply set_ok); array_get_dec; decreasing_trivial)
  | ((with_reducible apply setN_ok); array_get_dec; decreasing_trivial)
  | ((with_reducible apply pars2_ok); array_get_dec; decreasing_trivial; decreasing_trivial)
  | ((with_reducible apply drop_ok); array_get_dec)
  | ((with_reducible apply if_f (t := fun ρ => So.nx ρ)); array_get_dec; rfl)
  | ((with_reducible apply if_f); array_get_dec; rfl))
/-! ### the longest case -/
end Dl
namespace Dl
open PySem PySem.Spec PyProof.Rows L2
variable {p : Nat} {rs : List Rw} {D b : Nat} {K : List Lk} {most : Nat}
local macro_rules | `(tactic| array_mem_dec) => `(tactic| first
  | with_reducible assumption
  | with_reducible exact fAdd_nat _ _
  | with_reducible exact fMul_nat _ _ (by omega)
  | with_reducible exact fSub_nat (by first | assumption | omega)
  | with_reducible exact lt_f (by first | assumption | omega)
  | with_reducible exact lt_t (by first | assumption | omega)
  | with_reducible exact le_f (by first | assumption | omega)
  | with_reducible exact le_t (by first | assumption | omega)
  | with_reducible exact gt_f (by first | assumption | omega)
  | with_reducible exact gt_t (by first | assumption | omega)
  | with_reducible exact ge_f (by first | assumption | omega)
  | with_reducible exact ge_t (by first | assumption | omega)
  | with_reducible exact eq_f (by first | assumption | omega)
  | with_reducible exact eq_t (by first | assumption | omega)
  | with_reducible exact ne_f (by first | assumption | omega)
  | with_reducible exact ne_t (by first | assumption | omega)
  | with_reducible exact feq_nat _ _
  | with_reducible exact fne_nat _ _
  | with_reducible exact fLt_nat _ _
  | with_reducible exact fLe_nat _ _
  | with_reducible exact gt_nat _ _
  | with_reducible exact ge_nat _ _
  | with_reducible exact len_lst _ _
  | with_reducible exact len_tup _ _
  | with_reducible exact fne_self (k := 2) (by first | assumption | exact .int _ | exact .bl _ | exact .non | exact flt_tup_nats _ | exact flt_lst_nats _ | exact flt_side _ | exact flt_str _) (by decide)
  | with_reducible exact feq_self (k := 2) (by first | assumption | exact .int _ | exact .bl _ | exact .non | exact flt_tup_nats _ | exact flt_lst_nats _ | exact flt_side _ | exact flt_str _) (by decide)
  | rfl)
local macro_rules | `(tactic| array_get_dec) => `(tactic| first
  | ((with_reducible apply var_ok); rfl)
  | ((with_reducible apply peek_ok); rfl)
  | ((with_reducible apply peek_ow); rfl)
  | with_reducible exact lit_ok
  | with_reducible exact pure_ok
  | ((with_reducible apply cons_ok); array_get_dec; array_get_dec)
  | ((with_reducible apply callQ'); array_get_dec; rfl; with_reducible assumption)
  | ((with_reducible apply methQ); array_get_dec; array_get_dec; rfl; (with_reducible assumption); exact ⟨_, rfl⟩)
  | ((with_reducible apply callJ); rfl; array_get_dec; rfl; rfl; with_reducible assumption)
  | ((with_reducible apply m2_ok); array_get_dec; array_get_dec; array_mem_dec)
  | ((with_reducible apply m1_ok); array_get_dec; array_mem_dec)
  | ((with_reducible apply m1N_ok); array_get_dec; array_mem_dec)
  | ((with_reducible apply tup_ok); array_get_dec; exact sl_le (by simp))
  | ((with_reducible apply lst_ok); array_get_dec; exact sl_le (by simp))
  | ((with_reducible apply chain_ge_t); array_get_dec; array_get_dec; array_get_dec; omega; omega)
  | ((with_reducible apply chainT); array_get_dec; array_get_dec; array_get_dec; omega; omega)
  | ((with_reducible apply tb_ok); array_get_dec)
  | ((with_reducible apply not_f); array_get_dec)
  | ((with_reducible apply not_t); array_get_dec)
  | ((with_reducible apply not_ok); array_get_dec)
  | ((with_reducible apply and_t); array_get_dec; array_get_dec)
  | ((with_reducible apply and_f); array_get_dec)
  | ((with_reducible apply or_f); array_get_dec; array_get_dec)
  | ((with_reducible apply or_t); array_get_dec)
  | ((with_reducible apply ixv'); rfl; array_get_dec; rfl; array_mem_dec)
  | with_reducible assumption)
local macro_rules | `(tactic| decreasing_trivial) => `(tactic| first
  | ((with_reducible apply sl_lv); rfl)
  | ((with_reducible apply sl_vl); rfl)
  | ((with_reducible apply sl_no); rfl)
  | ((with_reducible apply sl_ow); rfl)
  | ((with_reducible apply sl_dq); rfl))
local macro_rules | `(tactic| get_elem_tactic_extensible) => `(tactic| first
  | ((with_reducible apply set_ok); array_get_dec; decreasing_trivial)
  | ((with_reducible apply setN_ok); array_get_dec; decreasing_trivial)
  | ((with_reducible apply pars2_ok); array_get_dec; decreasing_trivial; decreasing_trivial)
  | ((with_reducible apply drop_ok); array_get_dec)
  | ((with_reducible apply if_f (t := fun ρ => So.nx ρ)); array_get_dec; rfl)
  | ((with_reducible apply if_f); array_get_dec; rfl))
end Dl
namespace Dl
open PySem PySem.Spec PyProof.Rows L2
variable {p : Nat} {rs : List Rw} {D b : Nat} {K : List Lk} {most : Nat}
local macro_rules | `(tactic| array_mem_dec) => `(tactic| first
  | with_reducible assumption
  | with_reducible exact fAdd_nat _ _
  | with_reducible exact fMul_nat _ _ (by omega)
  | with_reducible exact fSub_nat (by first | assumption | omega)
  | with_reducible exact lt_f (by first | assumption | omega)
  | with_reducible exact lt_t (by first | assumption | omega)
  | with_reducible exact le_f (by first | assumption | omega)
  | with_reducible exact le_t (by first | assumption | omega)
  | with_reducible exact gt_f (by first | assumption | omega)
  | with_reducible exact gt_t (by first | assumption | omega)
  | with_reducible exact ge_f (by first | assumption | omega)
  | with_reducible exact ge_t (by first | assumption | omega)
  | with_reducible exact eq_f (by first | assumption | omega)
  | with_reducible exact eq_t (by first | assumption | omega)
  | with_reducible exact ne_f (by first | assumption | omega)
  | with_reducible exact ne_t (by first | assumption | omega)
  | with_reducible exact feq_nat _ _
  | with_reducible exact fne_nat _ _
  | with_reducible exact fLt_nat _ _
  | with_reducible exact fLe_nat _ _
  | with_reducible exact gt_nat _ _
  | with_reducible exact ge_nat _ _
  | with_reducible exact len_lst _ _
  | with_reducible exact len_tup _ _
  | ((with_reducible apply fne_self (k := 2)); (first | with_reducible assumption | exact .int _ | exact .bl _ | exact .non | exact flt_tup_nats _ | exact flt_lst_nats _ | exact flt_side _ | exact flt_str _ | exact no_flt _ | exact .tup (flt_prs _) | exact .lst (flt_prs _)); decide)
  | ((with_reducible apply feq_self (k := 2)); (first | with_reducible assumption | exact .int _ | exact .bl _ | exact .non | exact flt_tup_nats _ | exact flt_lst_nats _ | exact flt_side _ | exact flt_str _ | exact no_flt _ | exact .tup (flt_prs _) | exact .lst (flt_prs _)); decide)
  | rfl)
local macro_rules | `(tactic| array_get_dec) => `(tactic| first
  | ((with_reducible apply var_ok); rfl)
  | ((with_reducible apply peek_ok); rfl)
  | ((with_reducible apply peek_ow); rfl)
  | with_reducible exact lit_ok
  | with_reducible exact pure_ok
  | ((with_reducible apply cons_ok); array_get_dec; array_get_dec)
  | ((with_reducible apply callQ'); array_get_dec; rfl; with_reducible assumption)
  | ((with_reducible apply methQ); array_get_dec; array_get_dec; rfl; (with_reducible assumption); exact ⟨_, rfl⟩)
  | ((with_reducible apply callJ); rfl; array_get_dec; rfl; rfl; with_reducible assumption)
  | ((with_reducible apply m2_ok); array_get_dec; array_get_dec; array_mem_dec)
  | ((with_reducible apply m1_ok); array_get_dec; array_mem_dec)
  | ((with_reducible apply m1N_ok); array_get_dec; array_mem_dec)
  | ((with_reducible apply tup_ok); array_get_dec; exact sl_le (by simp))
  | ((with_reducible apply lst_ok); array_get_dec; exact sl_le (by simp))
  | ((with_reducible apply chain_ge_t); array_get_dec; array_get_dec; array_get_dec; omega; omega)
  | ((with_reducible apply chainT); array_get_dec; array_get_dec; array_get_dec; omega; omega)
  | ((with_reducible apply tb_ok); array_get_dec)
  | ((with_reducible apply not_f); array_get_dec)
  | ((with_reducible apply not_t); array_get_dec)
  | ((with_reducible apply not_ok); array_get_dec)
  | ((with_reducible apply and_t); array_get_dec; array_get_dec)
  | ((with_reducible apply and_f); array_get_dec)
  | ((with_reducible apply or_f); array_get_dec; array_get_dec)
  | ((with_reducible apply or_t); array_get_dec)
  | ((with_reducible apply ixv'); rfl; array_get_dec; rfl; array_mem_dec)
  | with_reducible assumption)
local macro_rules | `(tactic| decreasing_trivial) => `(tactic| first
  | ((with_reducible apply sl_lv); rfl)
  | ((with_reducible apply sl_vl); rfl)
  | ((with_reducible apply sl_no); rfl)
  | ((with_reducible apply sl_ow); rfl)
  | ((with_reducible apply sl_dq); rfl))
local macro_rules | `(tactic| get_elem_tactic_extensible) => `(tactic| first
  | ((with_reducible apply set_ok); array_get_dec; decreasing_trivial)
  | ((with_reducible apply setN_ok); array_get_dec; decreasing_trivial)
  | ((with_reducible apply pars2_ok); array_get_dec; decreasing_trivial; decreasing_trivial)
  | ((with_reducible apply drop_ok); array_get_dec)
  | ((with_reducible apply if_f (t := fun ρ => So.nx ρ)); array_get_dec; rfl)
  | ((with_reducible apply if_f); array_get_dec; rfl))
/-! ### the fewest misses with some missed and some made -/
end Dl
namespace Dl
open PySem PySem.Spec PyProof.Rows L2
variable {p : Nat} {rs : List Rw} {D b : Nat} {K L : List Lk} {most : Nat}
local macro_rules | `(tactic| array_mem_dec) => `(tactic| first
  | with_reducible assumption
  | with_reducible exact fAdd_nat _ _
  | with_reducible exact fMul_nat _ _ (by omega)
  | with_reducible exact fSub_nat (by first | assumption | omega)
  | with_reducible exact lt_f (by first | assumption | omega)
  | with_reducible exact lt_t (by first | assumption | omega)
  | with_reducible exact le_f (by first | assumption | omega)
  | with_reducible exact le_t (by first | assumption | omega)
  | with_reducible exact gt_f (by first | assumption | omega)
  | with_reducible exact gt_t (by first | assumption | omega)
  | with_reducible exact ge_f (by first | assumption | omega)
  | with_reducible exact ge_t (by first | assumption | omega)
  | with_reducible exact eq_f (by first | assumption | omega)
  | with_reducible exact eq_t (by first | assumption | omega)
  | with_reducible exact ne_f (by first | assumption | omega)
  | with_reducible exact ne_t (by first | assumption | omega)
  | with_reducible exact feq_nat _ _
  | with_reducible exact fne_nat _ _
  | with_reducible exact fLt_nat _ _
  | with_reducible exact fLe_nat _ _
  | with_reducible exact gt_nat _ _
  | with_reducible exact ge_nat _ _
  | with_reducible exact len_lst _ _
  | with_reducible exact len_tup _ _
  | ((with_reducible apply fne_self (k := 2)); (first | with_reducible assumption | exact .int _ | exact .bl _ | exact .non | exact flt_tup_nats _ | exact flt_lst_nats _ | exact flt_side _ | exact flt_str _ | exact no_flt _ | exact .tup (flt_prs _) | exact .lst (flt_prs _)); decide)
  | ((with_reducible apply feq_self (k := 2)); (first | with_reducible assumption | exact .int _ | exact .bl _ | exact .non | exact flt_tup_nats _ | exact flt_lst_nats _ | exact flt_side _ | exact flt_str _ | exact no_flt _ | exact .tup (flt_prs _) | exact .lst (flt_prs _)); decide)
  | rfl)
local macro_rules | `(tactic| array_get_dec) => `(tactic| first
  | ((with_reducible apply var_ok); rfl)
  | ((with_reducible apply peek_ok); rfl)
  | ((with_reducible apply peek_ow); rfl)
  | with_reducible exact lit_ok
  | with_reducible exact pure_ok
  | ((with_reducible apply cons_ok); array_get_dec; array_get_dec)
  | ((with_reducible apply callQ'); array_get_dec; rfl; with_reducible assumption)
  | ((with_reducible apply methQ); array_get_dec; array_get_dec; rfl; (with_reducible assumption); exact ⟨_, rfl⟩)
  | ((with_reducible apply callJ); rfl; array_get_dec; rfl; rfl; with_reducible assumption)
  | ((with_reducible apply m2_ok); array_get_dec; array_get_dec; array_mem_dec)
  | ((with_reducible apply m1_ok); array_get_dec; array_mem_dec)
  | ((with_reducible apply m1N_ok); array_get_dec; array_mem_dec)
  | ((with_reducible apply tup_ok); array_get_dec; exact sl_le (by simp))
  | ((with_reducible apply lst_ok); array_get_dec; exact sl_le (by simp))
  | ((with_reducible apply chain_ge_t); array_get_dec; array_get_dec; array_get_dec; omega; omega)
  | ((with_reducible apply chainT); array_get_dec; array_get_dec; array_get_dec; omega; omega)
  | ((with_reducible apply tb_ok); array_get_dec)
  | ((with_reducible apply not_f); array_get_dec)
  | ((with_reducible apply not_t); array_get_dec)
  | ((with_reducible apply not_ok); array_get_dec)
  | ((with_reducible apply and_t); array_get_dec; array_get_dec)
  | ((with_reducible apply and_f); array_get_dec)
  | ((with_reducible apply or_f); array_get_dec; array_get_dec)
  | ((with_reducible apply or_t); array_get_dec)
  | ((with_reducible apply ixv'); rfl; array_get_dec; rfl; array_mem_dec)
  | with_reducible assumption)
local macro_rules | `(tactic| decreasing_trivial) => `(tactic| first
  | ((with_reducible apply sl_lv); rfl)
  | ((with_reducible apply sl_vl); rfl)
  | ((with_reducible apply sl_no); rfl)
  | ((with_reducible apply sl_ow); rfl)
  | ((with_reducible apply sl_dq); rfl))
local macro_rules | `(tactic| get_elem_tactic_extensible) => `(tactic| first
  | ((with_reducible apply set_ok); array_get_dec; decreasing_trivial)
  | ((with_reducible apply setN_ok); array_get_dec; decreasing_trivial)
  | ((with_reducible apply pars2_ok); array_get_dec; decreasing_trivial; decreasing_trivial)
  | ((with_reducible apply drop_ok); array_get_dec)
  | ((with_reducible apply if_f (t := fun ρ => So.nx ρ)); array_get_dec; rfl)
  | ((with_reducible apply if_f); array_get_dec; rfl))
end Dl
namespace Dl
open PySem PySem.Spec PyProof.Rows L2
variable {p : Nat} {rs : List Rw} {D b : Nat} {K L : List Lk} {most : Nat}
/-! ### lots among others -/
/-! ### chains -/
theorem chain_le {ma mb mc : Mi Dt} {ρ : En} {x y z : Nat} (ha : ma ρ = .ok (nD x) ρ) (hb : mb ρ = .ok (nD y) ρ) (hc : mc ρ = .ok (nD z) ρ) (h1 : x ≤ y) (h2 : y ≤ z) : mB (mChain fLe fLe ma mb mc) ρ = .ok true ρ := by
  refine tb_ok ?_
  refine bind_ok ha (bind_ok hb ?_)
  rw [fLe_nat, decide_eq_true h1]
  refine bind_ok (a := .bl true) (ρ1 := ρ) rfl ?_
  refine bind_ok hc ?_
  rw [fLe_nat, decide_eq_true h2]; rfl
/-! ### the greatest one of some numbers, step by step -/
end Dl
namespace Dl
open PySem PySem.Spec PyProof.Rows L2
variable {p : Nat} {rs : List Rw} {D b : Nat} {K L : List Lk} {most : Nat}
local macro_rules | `(tactic| array_mem_dec) => `(tactic| first
  | with_reducible assumption
  | with_reducible exact fAdd_nat _ _
  | with_reducible exact fMul_nat _ _ (by omega)
  | with_reducible exact fSub_nat (by first | assumption | omega)
  | with_reducible exact lt_f (by first | assumption | omega)
  | with_reducible exact lt_t (by first | assumption | omega)
  | with_reducible exact le_f (by first | assumption | omega)
  | with_reducible exact le_t (by first | assumption | omega)
  | with_reducible exact gt_f (by first | assumption | omega)
  | with_reducible exact gt_t (by first | assumption | omega)
  | with_reducible exact ge_f (by first | assumption | omega)
  | with_reducible exact ge_t (by first | assumption | omega)
  | with_reducible exact eq_f (by first | assumption | omega)
  | with_reducible exact eq_t (by first | assumption | omega)
  | with_reducible exact ne_f (by first | assumption | omega)
  | with_reducible exact ne_t (by first | assumption | omega)
  | with_reducible exact feq_nat _ _
  | with_reducible exact fne_nat _ _
  | with_reducible exact fLt_nat _ _
  | with_reducible exact fLe_nat _ _
  | with_reducible exact gt_nat _ _
  | with_reducible exact ge_nat _ _
  | with_reducible exact len_lst _ _
  | with_reducible exact len_tup _ _
  | ((with_reducible apply fne_self (k := 2)); (first | with_reducible assumption | exact .int _ | exact .bl _ | exact .non | exact flt_tup_nats _ | exact flt_lst_nats _ | exact flt_side _ | exact flt_str _ | exact no_flt _ | exact .tup (flt_prs _) | exact .lst (flt_prs _)); decide)
  | ((with_reducible apply feq_self (k := 2)); (first | with_reducible assumption | exact .int _ | exact .bl _ | exact .non | exact flt_tup_nats _ | exact flt_lst_nats _ | exact flt_side _ | exact flt_str _ | exact no_flt _ | exact .tup (flt_prs _) | exact .lst (flt_prs _)); decide)
  | rfl)
local macro_rules | `(tactic| array_get_dec) => `(tactic| first
  | ((with_reducible apply var_ok); rfl)
  | ((with_reducible apply peek_ok); rfl)
  | ((with_reducible apply peek_ow); rfl)
  | with_reducible exact lit_ok
  | with_reducible exact pure_ok
  | ((with_reducible apply cons_ok); array_get_dec; array_get_dec)
  | ((with_reducible apply callQ'); array_get_dec; rfl; with_reducible assumption)
  | ((with_reducible apply methQ); array_get_dec; array_get_dec; rfl; (with_reducible assumption); exact ⟨_, rfl⟩)
  | ((with_reducible apply callJ); rfl; array_get_dec; rfl; rfl; with_reducible assumption)
  | ((with_reducible apply m2_ok); array_get_dec; array_get_dec; array_mem_dec)
  | ((with_reducible apply m1_ok); array_get_dec; array_mem_dec)
  | ((with_reducible apply m1N_ok); array_get_dec; array_mem_dec)
  | ((with_reducible apply tup_ok); array_get_dec; exact sl_le (by simp))
  | ((with_reducible apply lst_ok); array_get_dec; exact sl_le (by simp))
  | ((with_reducible apply chain_ge_t); array_get_dec; array_get_dec; array_get_dec; omega; omega)
  | ((with_reducible apply chain_le); array_get_dec; array_get_dec; array_get_dec; omega; omega)
  | ((with_reducible apply chainT); array_get_dec; array_get_dec; array_get_dec; omega; omega)
  | ((with_reducible apply tb_ok); array_get_dec)
  | ((with_reducible apply not_f); array_get_dec)
  | ((with_reducible apply not_t); array_get_dec)
  | ((with_reducible apply not_ok); array_get_dec)
  | ((with_reducible apply and_t); array_get_dec; array_get_dec)
  | ((with_reducible apply and_f); array_get_dec)
  | ((with_reducible apply or_f); array_get_dec; array_get_dec)
  | ((with_reducible apply or_t); array_get_dec)
  | ((with_reducible apply ixv'); rfl; array_get_dec; rfl; array_mem_dec)
  | with_reducible assumption)
local macro_rules | `(tactic| decreasing_trivial) => `(tactic| first
  | ((with_reducible apply sl_lv); rfl)
  | ((with_reducible apply sl_vl); rfl)
  | ((with_reducible apply sl_no); rfl)
  | ((with_reducible apply sl_ow); rfl)
  | ((with_reducible apply sl_dq); rfl))
local macro_rules | `(tactic| get_elem_tactic_extensible) => `(tactic| first
  | ((with_reducible apply set_ok); array_get_dec; decreasing_trivial)
  | ((with_reducible apply setN_ok); array_get_dec; decreasing_trivial)
  | ((with_reducible apply pars2_ok); array_get_dec; decreasing_trivial; decreasing_trivial)
  | ((with_reducible apply drop_ok); array_get_dec)
  | ((with_reducible apply if_f (t := fun ρ => So.nx ρ)); array_get_dec; rfl)
  | ((with_reducible apply if_f); array_get_dec; rfl))
/-! ### lots by their numbers -/
/-! ### the walk -/
end Dl
namespace Dl
open PySem PySem.Spec PyProof.Rows L2
variable {p : Nat} {rs : List Rw} {D b : Nat} {K L : List Lk} {most : Nat}
local macro_rules | `(tactic| array_mem_dec) => `(tactic| first
  | with_reducible assumption
  | with_reducible exact fAdd_nat _ _
  | with_reducible exact fMul_nat _ _ (by omega)
  | with_reducible exact fSub_nat (by first | assumption | omega)
  | with_reducible exact lt_f (by first | assumption | omega)
  | with_reducible exact lt_t (by first | assumption | omega)
  | with_reducible exact le_f (by first | assumption | omega)
  | with_reducible exact le_t (by first | assumption | omega)
  | with_reducible exact gt_f (by first | assumption | omega)
  | with_reducible exact gt_t (by first | assumption | omega)
  | with_reducible exact ge_f (by first | assumption | omega)
  | with_reducible exact ge_t (by first | assumption | omega)
  | with_reducible exact eq_f (by first | assumption | omega)
  | with_reducible exact eq_t (by first | assumption | omega)
  | with_reducible exact ne_f (by first | assumption | omega)
  | with_reducible exact ne_t (by first | assumption | omega)
  | with_reducible exact feq_nat _ _
  | with_reducible exact fne_nat _ _
  | with_reducible exact fLt_nat _ _
  | with_reducible exact fLe_nat _ _
  | with_reducible exact gt_nat _ _
  | with_reducible exact ge_nat _ _
  | with_reducible exact len_lst _ _
  | with_reducible exact len_tup _ _
  | ((with_reducible apply fne_self (k := 2)); (first | with_reducible assumption | exact .int _ | exact .bl _ | exact .non | exact flt_tup_nats _ | exact flt_lst_nats _ | exact flt_side _ | exact flt_str _ | exact no_flt _ | exact .tup (flt_prs _) | exact .lst (flt_prs _)); decide)
  | ((with_reducible apply feq_self (k := 2)); (first | with_reducible assumption | exact .int _ | exact .bl _ | exact .non | exact flt_tup_nats _ | exact flt_lst_nats _ | exact flt_side _ | exact flt_str _ | exact no_flt _ | exact .tup (flt_prs _) | exact .lst (flt_prs _)); decide)
  | rfl)
local macro_rules | `(tactic| array_get_dec) => `(tactic| first
  | ((with_reducible apply var_ok); rfl)
  | ((with_reducible apply peek_ok); rfl)
  | ((with_reducible apply peek_ow); rfl)
  | with_reducible exact lit_ok
  | with_reducible exact pure_ok
  | ((with_reducible apply cons_ok); array_get_dec; array_get_dec)
  | ((with_reducible apply callQ'); array_get_dec; rfl; with_reducible assumption)
  | ((with_reducible apply methQ); array_get_dec; array_get_dec; rfl; (with_reducible assumption); exact ⟨_, rfl⟩)
  | ((with_reducible apply callJ); rfl; array_get_dec; rfl; rfl; with_reducible assumption)
  | ((with_reducible apply m2_ok); array_get_dec; array_get_dec; array_mem_dec)
  | ((with_reducible apply m1_ok); array_get_dec; array_mem_dec)
  | ((with_reducible apply m1N_ok); array_get_dec; array_mem_dec)
  | ((with_reducible apply tup_ok); array_get_dec; exact sl_le (by simp))
  | ((with_reducible apply lst_ok); array_get_dec; exact sl_le (by simp))
  | ((with_reducible apply chain_ge_t); array_get_dec; array_get_dec; array_get_dec; omega; omega)
  | ((with_reducible apply chain_le); array_get_dec; array_get_dec; array_get_dec; omega; omega)
  | ((with_reducible apply chainT); array_get_dec; array_get_dec; array_get_dec; omega; omega)
  | ((with_reducible apply tb_ok); array_get_dec)
  | ((with_reducible apply not_f); array_get_dec)
  | ((with_reducible apply not_t); array_get_dec)
  | ((with_reducible apply not_ok); array_get_dec)
  | ((with_reducible apply and_t); array_get_dec; array_get_dec)
  | ((with_reducible apply and_f); array_get_dec)
  | ((with_reducible apply or_f); array_get_dec; array_get_dec)
  | ((with_reducible apply or_t); array_get_dec)
  | ((with_reducible apply ixv'); rfl; array_get_dec; rfl; array_mem_dec)
  | with_reducible assumption)
local macro_rules | `(tactic| decreasing_trivial) => `(tactic| first
  | ((with_reducible apply sl_lv); rfl)
  | ((with_reducible apply sl_vl); rfl)
  | ((with_reducible apply sl_no); rfl)
  | ((with_reducible apply sl_ow); rfl)
  | ((with_reducible apply sl_dq); rfl))
local macro_rules | `(tactic| get_elem_tactic_extensible) => `(tactic| first
  | ((with_reducible apply set_ok); array_get_dec; decreasing_trivial)
  | ((with_reducible apply setN_ok); array_get_dec; decreasing_trivial)
  | ((with_reducible apply pars2_ok); array_get_dec; decreasing_trivial; decreasing_trivial)
  | ((with_reducible apply drop_ok); array_get_dec)
  | ((with_reducible apply if_f (t := fun ρ => So.nx ρ)); array_get_dec; rfl)
  | ((with_reducible apply if_f); array_get_dec; rfl))
end Dl
namespace Dl
open PySem PySem.Spec PyProof.Rows L2
variable {p : Nat} {rs : List Rw} {D b : Nat} {K L : List Lk} {most : Nat}
local macro_rules | `(tactic| array_mem_dec) => `(tactic| first
  | with_reducible assumption
  | with_reducible exact fAdd_nat _ _
  | with_reducible exact fMul_nat _ _ (by omega)
  | with_reducible exact fSub_nat (by first | assumption | omega)
  | with_reducible exact lt_f (by first | assumption | omega)
  | with_reducible exact lt_t (by first | assumption | omega)
  | with_reducible exact le_f (by first | assumption | omega)
  | with_reducible exact le_t (by first | assumption | omega)
  | with_reducible exact gt_f (by first | assumption | omega)
  | with_reducible exact gt_t (by first | assumption | omega)
  | with_reducible exact ge_f (by first | assumption | omega)
  | with_reducible exact ge_t (by first | assumption | omega)
  | with_reducible exact eq_f (by first | assumption | omega)
  | with_reducible exact eq_t (by first | assumption | omega)
  | with_reducible exact ne_f (by first | assumption | omega)
  | with_reducible exact ne_t (by first | assumption | omega)
  | with_reducible exact feq_nat _ _
  | with_reducible exact fne_nat _ _
  | with_reducible exact fLt_nat _ _
  | with_reducible exact fLe_nat _ _
  | with_reducible exact gt_nat _ _
  | with_reducible exact ge_nat _ _
  | with_reducible exact len_lst _ _
  | with_reducible exact len_tup _ _
  | ((with_reducible apply fne_self (k := 2)); (first | with_reducible assumption | exact .int _ | exact .bl _ | exact .non | exact flt_tup_nats _ | exact flt_lst_nats _ | exact flt_side _ | exact flt_str _ | exact no_flt _ | exact .tup (flt_prs _) | exact .lst (flt_prs _)); decide)
  | ((with_reducible apply feq_self (k := 2)); (first | with_reducible assumption | exact .int _ | exact .bl _ | exact .non | exact flt_tup_nats _ | exact flt_lst_nats _ | exact flt_side _ | exact flt_str _ | exact no_flt _ | exact .tup (flt_prs _) | exact .lst (flt_prs _)); decide)
  | rfl)
local macro_rules | `(tactic| array_get_dec) => `(tactic| first
  | ((with_reducible apply var_ok); rfl)
  | ((with_reducible apply peek_ok); rfl)
  | ((with_reducible apply peek_ow); rfl)
  | with_reducible exact lit_ok
  | with_reducible exact pure_ok
  | ((with_reducible apply cons_ok); array_get_dec; array_get_dec)
  | ((with_reducible apply callQ'); array_get_dec; rfl; with_reducible assumption)
  | ((with_reducible apply methQ); array_get_dec; array_get_dec; rfl; (with_reducible assumption); exact ⟨_, rfl⟩)
  | ((with_reducible apply callJ); rfl; array_get_dec; rfl; rfl; with_reducible assumption)
  | ((with_reducible apply m2_ok); array_get_dec; array_get_dec; array_mem_dec)
  | ((with_reducible apply m1_ok); array_get_dec; array_mem_dec)
  | ((with_reducible apply m1N_ok); array_get_dec; array_mem_dec)
  | ((with_reducible apply tup_ok); array_get_dec; exact sl_le (by simp))
  | ((with_reducible apply lst_ok); array_get_dec; exact sl_le (by simp))
  | ((with_reducible apply chain_ge_t); array_get_dec; array_get_dec; array_get_dec; omega; omega)
  | ((with_reducible apply chain_le); array_get_dec; array_get_dec; array_get_dec; omega; omega)
  | ((with_reducible apply chainT); array_get_dec; array_get_dec; array_get_dec; omega; omega)
  | ((with_reducible apply tb_ok); array_get_dec)
  | ((with_reducible apply not_f); array_get_dec)
  | ((with_reducible apply not_t); array_get_dec)
  | ((with_reducible apply not_ok); array_get_dec)
  | ((with_reducible apply and_t); array_get_dec; array_get_dec)
  | ((with_reducible apply and_f); array_get_dec)
  | ((with_reducible apply or_f); array_get_dec; array_get_dec)
  | ((with_reducible apply or_t); array_get_dec)
  | ((with_reducible apply ixv'); rfl; array_get_dec; rfl; array_mem_dec)
  | with_reducible assumption)
local macro_rules | `(tactic| decreasing_trivial) => `(tactic| first
  | ((with_reducible apply sl_lv); rfl)
  | ((with_reducible apply sl_vl); rfl)
  | ((with_reducible apply sl_no); rfl)
  | ((with_reducible apply sl_ow); rfl)
  | ((with_reducible apply sl_dq); rfl))
local macro_rules | `(tactic| get_elem_tactic_extensible) => `(tactic| first
  | ((with_reducible apply set_ok); array_get_dec; decreasing_trivial)
  | ((with_reducible apply setN_ok); array_get_dec; decreasing_trivial)
  | ((with_reducible apply pars2_ok); array_get_dec; decreasing_trivial; decreasing_trivial)
  | ((with_reducible apply drop_ok); array_get_dec)
  | ((with_reducible apply if_f (t := fun ρ => So.nx ρ)); array_get_dec; rfl)
  | ((with_reducible apply if_f); array_get_dec; rfl))
/-! ### small drawn seasons -/
end Dl
namespace Dl
open PySem PySem.Spec PyProof.Rows L2
variable {p : Nat} {rs : List Rw} {D b : Nat} {K L : List Lk} {most : Nat}
/-! ### stretches, one behind the other -/
/-! ### odd stretches -/
def isT (o : Option Bool) : Bool := decide (o = some true)
/-! ### lots and stretches -/
end Dl
namespace Dl
open PySem PySem.Spec PyProof.Rows L2
variable {p : Nat} {rs : List Rw} {D b : Nat} {K L : List Lk} {most : Nat}
/-! ### sorted numbers and pairs; more misses lie no shorter -/
theorem Sn.bare (h : Sn p rs D b K) : Sn p rs D b [] := ⟨h.good, h.rl, h.hp, h.D0, h.hD, h.hb, (fun _ z => by cases z), by simp⟩
end Dl
namespace Dl
open PySem PySem.Spec PyProof.Rows L2
/-! ### what is shown by repr() -/
inductive Shw : Nat → Nat → Dt → Prop
  | non {k n : Nat} (h : 4 ≤ n) : Shw k n .non
  | bl {k n : Nat} (b : Bool) (h : 5 ≤ n) : Shw k n (.bl b)
  | nat {k n : Nat} {m : Nat} (hm : m < 10 ^ 10) (h : 10 ≤ n) : Shw k n (nD m)
  | tup {k n c l : Nat} {xs : List Dt} (h : ∀ x ∈ xs, Shw k n x) (hl : xs.length ≤ l) (hc : (n + 2) * l + 3 ≤ c) : Shw (k + 1) c (.tup xs)
structure ShP (k n : Nat) (d : Dt) (p : PyData) : Prop where
  e : toPy d = some p
  sh : p.showable = true
  nd : p.hasDict = false
  dep : p.depth ≤ k
  len : p.shown.length ≤ n
  ok : PyData.strOk p.shown = true
theorem ok_of (s : String) : PyData.strOk (Str.ofString s) = true := by simpa [PyData.canLay0] using strOk_of s
theorem ok_app {a b : Str} (ha : PyData.strOk a = true) (hb : PyData.strOk b = true) : PyData.strOk (a ++ b) = true := by
  show (a.cps ++ b.cps).all _ = true
  rw [Array.all_append, Bool.and_eq_true]
  exact ⟨ha, hb⟩
theorem ok_join {s : Str} (hs : PyData.strOk s = true) : ∀ ts : List Str, (∀ t ∈ ts, PyData.strOk t = true) → PyData.strOk (Str.join s ts) = true
  | [], _ => ok_of ""
  | [t], h => h t (by simp)
  | t :: u :: ts, h => by
    show PyData.strOk (t ++ s ++ Str.join s (u :: ts)) = true
    exact ok_app (ok_app (h t (by simp)) hs) (ok_join hs (u :: ts) fun y hy => h y (by simp [hy]))
theorem shp_all {k n : Nat} : ∀ {xs : List Dt}, (∀ x ∈ xs, ∃ p, ShP k n x p) → ∃ ps, toPys xs = some ps ∧ PyData.showableAll ps = true ∧ PyData.hasDictAll ps = false ∧ PyData.depthAll ps ≤ k ∧ (PyData.shownAll ps).length = xs.length ∧ ∀ t ∈ PyData.shownAll ps, t.length ≤ n ∧ PyData.strOk t = true
  | [], _ => ⟨[], rfl, by simp [PyData.showableAll], by simp [PyData.hasDictAll], by simp [PyData.depthAll], by simp [PyData.shownAll], by simp [PyData.shownAll]⟩
  | x :: xs, h => by
    obtain ⟨p, h1⟩ := h x (by simp)
    obtain ⟨ps, h2, h3, h4, h5, h6, h7⟩ := shp_all (xs := xs) fun y hy => h y (by simp [hy])
    refine ⟨p :: ps, ?_, ?_, ?_, ?_, ?_, ?_⟩
    · unfold toPys; rw [h1.e, h2]
    · simp [PyData.showableAll, h1.sh, h3]
    · simp [PyData.hasDictAll, h1.nd, h4]
    · simp only [PyData.depthAll]; have := h1.dep; omega
    · simp [PyData.shownAll, h6]
    · intro t ht
      simp only [PyData.shownAll, List.mem_cons] at ht
      rcases ht with rfl | ht
      · exact ⟨h1.len, h1.ok⟩
      · exact h7 t ht
theorem piled_le {n : Nat} : ∀ (ts : List Str), (∀ t ∈ ts, t.length ≤ n) → piled ts ≤ (n + 2) * ts.length
  | [], _ => by simp [piled]
  | t :: ts, h => by
    have := piled_le ts fun y hy => h y (by simp [hy])
    have h1 := h t (by simp)
    unfold piled at this ⊢
    rw [List.map_cons, List.sum_cons, List.length_cons, Nat.mul_succ]
    omega
theorem tupText_le {n : Nat} {ts : List Str} (h : ∀ t ∈ ts, t.length ≤ n) : (tupleText ts).length ≤ (n + 2) * ts.length + 3 := by
  have hj : (Str.join ", " ts).length ≤ (n + 2) * ts.length := by
    cases ts with
    | nil => exact Nat.le_of_eq rfl
    | cons t r =>
      have := join_length_add (t :: r) (by simp)
      have := piled_le _ h
      omega
  unfold tupleText
  rw [strLen_append, strLen_append]
  have e1 : (("(" : String) : Str).length = 1 := rfl
  have e2 : ((if ts.length == 1 then ",)" else ")" : String) : Str).length ≤ 2 := by split <;> decide
  omega
theorem Shw.py {k n : Nat} {d : Dt} (h : Shw k n d) : ∃ p, ShP k n d p := by
  induction h with
  | non h => exact ⟨.none, rfl, by simp [PyData.showable], by simp [PyData.hasDict], by simp [PyData.depth], by simp only [PyData.shown]; exact h, by simp only [PyData.shown]; exact ok_of _⟩
  | bl b h => exact ⟨.bool b, rfl, by simp [PyData.showable], by simp [PyData.hasDict], by simp [PyData.depth], by simp only [PyData.shown]; cases b <;> exact Nat.le_trans (by decide) h, by simp only [PyData.shown]; cases b <;> exact ok_of _⟩
  | @nat k n m hm h =>
    refine ⟨.int (m : Int), rfl, ?_, by simp [PyData.hasDict], by simp [PyData.depth], ?_, by simp only [PyData.shown]; exact ok_of _⟩
    · simp only [PyData.showable, decide_eq_true_eq]
      have : (m : Int).natAbs.log2 ≤ 34 := by
        rw [Int.natAbs_natCast]
        by_cases z : m = 0
        · subst z; decide
        · exact Nat.le_of_lt_succ ((Nat.log2_lt z).mpr (Nat.lt_trans hm (by decide)))
      omega
    · simp only [PyData.shown]
      exact Nat.le_trans (toString_length_le (by omega) (k := 10) (by decide) (by exact_mod_cast hm)) h
  | @tup k n c l xs h hl hc ih =>
    obtain ⟨ps, h1, h2, h3, h4, h5, h6⟩ := shp_all ih
    refine ⟨.tuple ps, by unfold toPy; rw [h1]; rfl, by simpa [PyData.showable] using h2, by simpa [PyData.hasDict] using h3, by simp only [PyData.depth]; omega, ?_, ?_⟩
    rotate_left
    · simp only [PyData.shown]
      unfold tupleText
      exact ok_app (ok_app (ok_of _) (ok_join (ok_of _) _ fun t ht => (h6 t ht).2)) (ok_of _)
    simp only [PyData.shown]
    have := tupText_le fun t ht => (h6 t ht).1
    rw [h5] at this
    have := Nat.mul_le_mul_left (n + 2) hl
    omega
/-- it is shown by some text -/
def Rp (d : Dt) : Prop := ∃ t, fReprD d = some (.str t) ∧ PyData.strOk t = true
end Dl
namespace Dl
open PySem PySem.Spec PyProof.Rows L2
variable {p : Nat} {rs : List Rw} {D b : Nat} {K L : List Lk} {most : Nat}
/-! ### wheels by themselves -/
/-! ### one turning missed, or made -/
theorem cost_at {α : Type} {g g0 : α → Nat × Nat × Option Bool} : ∀ {A B : List α} {P : α} {k : Nat}, costL ((A ++ P :: B).map g0) = some k → (∀ y ∈ A, g y = g0 y) → (∀ y ∈ B, g y = g0 y) → ∃ k0, leadP (g0 P).1 (g0 P).2.1 (g0 P).2.2 = some k0 ∧ k0 ≤ k ∧ costL ((A ++ P :: B).map g) = (leadP (g P).1 (g P).2.1 (g P).2.2).map fun y => k - k0 + y
  | [], B, P, k, hc, _, hB => by
    rw [List.nil_append, List.map_cons] at hc ⊢
    rw [show B.map g = B.map g0 from List.map_congr_left hB]
    unfold costL at hc ⊢
    cases h0 : leadP (g0 P).1 (g0 P).2.1 (g0 P).2.2 with
    | none => rw [h0] at hc; cases hc
    | some k0 =>
      rw [h0] at hc
      cases hr : costL (B.map g0) with
      | none => rw [hr] at hc; cases hc
      | some kb =>
        rw [hr] at hc
        have hk : k0 + kb = k := Option.some.inj hc
        refine ⟨k0, rfl, by omega, ?_⟩
        cases leadP (g P).1 (g P).2.1 (g P).2.2 with
        | none => rfl
        | some y => show some (y + kb) = some (k - k0 + y); congr 1; omega
  | a :: A, B, P, k, hc, hA, hB => by
    rw [List.cons_append, List.map_cons] at hc ⊢
    unfold costL at hc ⊢
    rw [hA a (by simp)]
    cases h0 : leadP (g0 a).1 (g0 a).2.1 (g0 a).2.2 with
    | none => rw [h0] at hc; cases hc
    | some ka =>
      rw [h0] at hc
      cases hr : costL ((A ++ P :: B).map g0) with
      | none => rw [hr] at hc; cases hc
      | some kr =>
        rw [hr] at hc
        have hk : ka + kr = k := Option.some.inj hc
        obtain ⟨k0, i1, i2, i3⟩ := cost_at hr (fun y hy => hA y (by simp [hy])) hB
        refine ⟨k0, i1, by omega, ?_⟩
        dsimp only
        rw [i3]
        cases leadP (g P).1 (g P).2.1 (g P).2.2 with
        | none => rfl
        | some y => show some (ka + (kr - k0 + y)) = some (k - k0 + y); congr 1; omega
theorem an_m (h : Sn p rs D b K) {x : Pr} (hx : x ∈ dueP p rs D) : anM (fitL p rs D b K) x = canB (costL (numsOf (dueP p rs D) p D (lksOf p D K) [x] [])) b := by
  rw [can_w h (M := [x]) (N := []) (fun _ _ z => by cases z)]
  unfold wMN anM
  rw [pos_any, show okMN [x] [] (dueP p rs D) = fun M => decide (x ∈ M) from funext fun M => ok_m hx M]
theorem an_n (h : Sn p rs D b K) {x : Pr} (hx : x ∈ dueP p rs D) : anN (fitL p rs D b K) x = canB (costL (numsOf (dueP p rs D) p D (lksOf p D K) [] [x])) b := by
  rw [can_w h (M := []) (N := [x]) (fun _ z => by cases z)]
  unfold wMN anN
  rw [pos_any, show okMN [] [x] (dueP p rs D) = fun M => !decide (x ∈ M) from funext fun M => ok_n hx M]
/-- the numbers of parts, with one turning missed or made -/
theorem gone_one {l : List Pr} {x : Pr} (nd : l.Nodup) (hx : x ∈ l) : goneN [x] l = 1 := by
  unfold goneN
  rw [List.countP_eq_length_filter]
  have := filter_eq_one nd hx
  rw [← this]
  exact congrArg List.length (List.filter_congr fun y _ => Bool.eq_iff_iff.mpr (by simp))
theorem gone_none {l : List Pr} {x : Pr} (hx : x ∉ l) : goneN [x] l = 0 := by
  unfold goneN
  rw [List.countP_eq_zero]
  intro y hy z
  simp at z
  exact hx (z ▸ hy)
theorem gone_nil (l : List Pr) : goneN [] l = 0 := by unfold goneN; simp
theorem free_nil (l : List Pr) : freeN [] [] l = l.length := by unfold freeN; simp [List.countP_eq_length_filter]
theorem free_m (l : List Pr) (x : Pr) : freeN [x] [] l + goneN [x] l = l.length := by
  unfold freeN goneN
  induction l with
  | nil => rfl
  | cons a l ih =>
    rw [List.countP_cons, List.countP_cons, List.length_cons]
    by_cases h : a = x
    · simp [h] at ih ⊢; omega
    · simp [h] at ih ⊢; omega
theorem free_n (l : List Pr) (x : Pr) : freeN [] [x] l + goneN [x] l = l.length := by
  unfold freeN goneN
  induction l with
  | nil => rfl
  | cons a l ih =>
    rw [List.countP_cons, List.countP_cons, List.length_cons]
    by_cases h : a = x
    · simp [h] at ih ⊢; omega
    · simp [h] at ih ⊢; omega
theorem split_part {x : Pr} {P : Nat × Str3} {K : List Lk3} (hK : LooksOk p D K) {U : List Pr} (hP : P ∈ prts U p D K) (hq : qOf P x = true) : ∃ A B, prts U p D K = A ++ P :: B ∧ (∀ y ∈ A, x ∉ U.filter (qOf y)) ∧ (∀ y ∈ B, x ∉ U.filter (qOf y)) := by
  obtain ⟨A, B, e⟩ := List.append_of_mem hP
  have hp := prts_apart (U := U) hK
  rw [e, List.pairwise_append] at hp
  refine ⟨A, B, e, fun y hy hz => ?_, fun y hy hz => ?_⟩
  · exact hp.2.2 y hy P (by simp) x ⟨(List.mem_filter.mp hz).2, hq⟩
  · exact (List.pairwise_cons.mp hp.2.1).1 y hy x ⟨hq, (List.mem_filter.mp hz).2⟩
/-- with no budget to spare a turning is told by its stretch -/
theorem tight {k : Nat} (h : Sn p rs D k K) (hk : cstO p rs D K = some k) {x : Pr} {P : Nat × Str3} (hP : P ∈ prts (dueP p rs D) p D (lksOf p D K)) (hx : x ∈ (dueP p rs D).filter (qOf P)) : anM (fitL p rs D k K) x = isT P.2.2.2 ∧ (isT P.2.2.2 = true → anN (fitL p rs D k K) x = decide (1 < ((dueP p rs D).filter (qOf P)).length)) := by
  obtain ⟨hxU, hxq⟩ := List.mem_filter.mp hx
  obtain ⟨A, B, e, hA, hB⟩ := split_part (lks_ok (p := p) (D := D) K) hP hxq
  let U := dueP p rs D
  let g0 : Nat × Str3 → Nat × Nat × Option Bool := fun y => (goneN [] (U.filter (qOf y)), freeN [] [] (U.filter (qOf y)), y.2.2.2)
  let g1 : Nat × Str3 → Nat × Nat × Option Bool := fun y => (goneN [x] (U.filter (qOf y)), freeN [x] [] (U.filter (qOf y)), y.2.2.2)
  let g2 : Nat × Str3 → Nat × Nat × Option Bool := fun y => (goneN [] (U.filter (qOf y)), freeN [] [x] (U.filter (qOf y)), y.2.2.2)
  have s1 : ∀ y, x ∉ U.filter (qOf y) → g1 y = g0 y := fun y hy => by
    have a := gone_none hy
    have c := free_m (U.filter (qOf y)) x
    show (_, _, _) = (_, _, _)
    rw [a, gone_nil, free_nil, show freeN [x] [] (U.filter (qOf y)) = (U.filter (qOf y)).length by omega]
  have s2 : ∀ y, x ∉ U.filter (qOf y) → g2 y = g0 y := fun y hy => by
    have a := gone_none hy
    have c := free_n (U.filter (qOf y)) x
    show (_, _, _) = (_, _, _)
    rw [gone_nil, free_nil, show freeN [] [x] (U.filter (qOf y)) = (U.filter (qOf y)).length by omega]
  have hc : costL ((A ++ P :: B).map g0) = some k := by rw [← e]; exact hk
  obtain ⟨k0, i1, i2, i3⟩ := cost_at (g := g1) hc (fun y hy => s1 y (hA y hy)) (fun y hy => s1 y (hB y hy))
  obtain ⟨k0', j1, j2, j3⟩ := cost_at (g := g2) hc (fun y hy => s2 y (hA y hy)) (fun y hy => s2 y (hB y hy))
  have hg := gone_one ((dueP_nodup (p := p) (rs := rs) D).filter (qOf P)) hx
  have hfm := free_m ((dueP p rs D).filter (qOf P)) x
  have hfn := free_n ((dueP p rs D).filter (qOf P)) x
  have l0 : leadP (g0 P).1 (g0 P).2.1 (g0 P).2.2 = leadP 0 (U.filter (qOf P)).length P.2.2.2 := by show leadP (goneN [] _) (freeN [] [] _) _ = _; rw [gone_nil, free_nil]
  have l1 : leadP (g1 P).1 (g1 P).2.1 (g1 P).2.2 = leadP 1 ((U.filter (qOf P)).length - 1) P.2.2.2 := by
    show leadP (goneN [x] (U.filter (qOf P))) (freeN [x] [] (U.filter (qOf P))) _ = _
    rw [show goneN [x] (U.filter (qOf P)) = 1 from hg, show freeN [x] [] (U.filter (qOf P)) = (U.filter (qOf P)).length - 1 by show freeN [x] [] ((dueP p rs D).filter (qOf P)) = ((dueP p rs D).filter (qOf P)).length - 1; omega]
  have l2 : leadP (g2 P).1 (g2 P).2.1 (g2 P).2.2 = leadP 0 ((U.filter (qOf P)).length - 1) P.2.2.2 := by
    show leadP (goneN [] (U.filter (qOf P))) (freeN [] [x] (U.filter (qOf P))) _ = _
    rw [gone_nil, show freeN [] [x] (U.filter (qOf P)) = (U.filter (qOf P)).length - 1 by show freeN [] [x] ((dueP p rs D).filter (qOf P)) = ((dueP p rs D).filter (qOf P)).length - 1; omega]
  rw [l0] at i1 j1
  rw [l1] at i3
  rw [l2] at j3
  rw [an_m h hxU, an_n h hxU]
  have n1 : numsOf (dueP p rs D) p D (lksOf p D K) [x] [] = (A ++ P :: B).map g1 := by rw [← e]; rfl
  have n2 : numsOf (dueP p rs D) p D (lksOf p D K) [] [x] = (A ++ P :: B).map g2 := by rw [← e]; rfl
  rw [n1, n2, i3, j3]
  have hlp : 0 < (U.filter (qOf P)).length := List.length_pos_of_mem hx
  show canB _ k = _ ∧ (_ → canB _ k = decide (1 < (U.filter (qOf P)).length))
  generalize (U.filter (qOf P)).length = n at i1 j1 hlp ⊢
  generalize P.2.2.2 = o at i1 j1 ⊢
  rw [leadP_isE] at i1 j1 ⊢
  rw [leadP_isE]
  cases o with
  | none =>
    simp [isE] at i1 j1
    subst i1
    refine ⟨?_, fun z => by cases z⟩
    show decide (k - 0 + 1 ≤ k) = false
    exact decide_eq_false (by omega)
  | some c =>
    cases c with
    | false =>
      simp [isE] at i1 j1
      subst i1
      refine ⟨?_, fun z => by cases z⟩
      simp only [isE]
      by_cases hn : n - 1 = 0
      · simp [hn, canB, isT]
      · simp [hn, canB, isT] <;> omega
    | true =>
      simp [isE, Nat.pos_iff_ne_zero.mp hlp] at i1 j1
      subst i1
      refine ⟨?_, fun _ => ?_⟩
      · simp [isE, canB, isT] <;> omega
      · simp only [isE]
        by_cases hn : n - 1 = 0
        · have : ¬ 1 < n := by omega
          simp [hn, canB, this]
        · have : 1 < n := by omega
          subst j1
          simp [hn, canB, this] <;> omega
end Dl
namespace Dl
open PySem PySem.Spec PyProof.Rows L2
/-! ### shown -/
theorem rp_shp1 {k n : Nat} {d : Dt} (h : ∃ p, ShP k n d p) (hk : k ≤ 40) (hn : n ≤ 1000000) : Rp d := by
  obtain ⟨p, hp⟩ := h
  refine ⟨p.shown, ?_, hp.ok⟩
  have ok : shOk p = true := by
    unfold shOk
    rw [hp.sh, hp.nd, decide_eq_true (Nat.le_trans hp.dep hk), decide_eq_true (Nat.le_trans (Nat.le_trans hp.len hn) (by decide))]; rfl
  unfold fReprD
  rw [hp.e]; dsimp only
  rw [if_pos ok]
theorem shp_lst1 {k n c l : Nat} {xs : List Dt} (ih : ∀ x ∈ xs, ∃ p, ShP k n x p) (hl : xs.length ≤ l) (hc : (n + 2) * l + 3 ≤ c) : ∃ p, ShP (k + 1) c (.lst xs) p := by
  obtain ⟨ps, h1, h2, h3, h4, h5, h6⟩ := shp_all ih
  refine ⟨.list ps, by unfold toPy; rw [h1]; rfl, by simpa [PyData.showable] using h2, by simpa [PyData.hasDict] using h3, by simp only [PyData.depth]; omega, ?_, ?_⟩
  rotate_left
  · simp only [PyData.shown]
    rw [listText_eq_join]
    exact ok_app (ok_app (ok_of _) (ok_join (ok_of _) _ fun t ht => (h6 t ht).2)) (ok_of _)
  simp only [PyData.shown]
  have hj : (Str.join ", " (PyData.shownAll ps)).length ≤ (n + 2) * (PyData.shownAll ps).length := by
    have hp := piled_le (PyData.shownAll ps) fun t ht => (h6 t ht).1
    generalize PyData.shownAll ps = ts at hp
    cases ts with
    | nil => exact Nat.le_of_eq rfl
    | cons t r =>
      have := join_length_add (t :: r) (by simp)
      omega
  rw [listText_eq_join, strLen_append, strLen_append]
  have e1 : (("[" : String) : Str).length = 1 := rfl
  have e2 : (("]" : String) : Str).length = 1 := rfl
  rw [h5] at hj
  have := Nat.mul_le_mul_left (n + 2) hl
  omega
/-- what is drawn as any value -/
def g0 (d : Dt) : Dt := .lst [d, .int 1]
def g1 (d : Dt) : Dt := .tup [d]
def deep1 : Dt := g0 (g1 (g0 (g1 (g0 (g1 (g0 (.tup [])))))))
def val1 : List Dt := [.int 0, .int (-3), .int 1000000000, .str "", .str "turn", .non, .bl true, .bl false, .lst [], .lst [.int 1, .str "move"], .tup [.int 0, .non], .tup [], .str "none", .int 2, .str "x y", .lst [.str "0"], .tup [.int 1, .int 0], .int 1]
theorem pick1 (q : Int × Int × Int) : ∃ v q', v ∈ val1 ++ [deep1] ∧ m_law_value [bxD q] = .ret v (bxD q') := by
  obtain ⟨x, q', hx, e1⟩ := pick_any q (val1 ++ [deep1]) (by decide) (by decide)
  refine ⟨x, q', hx, ?_⟩
  let E (s1 s2 s3 : Option Dt) : En := [io (bxD q), lv s1, lv s2, lv s3]
  refine runF_rt (ρ := [io (bxD q'), vl (.lst val1), vl deep1, vl (.int 6)]) ?_ rfl
  show b_law_value (E none none none) = _
  unfold b_law_value
  refine seq_nx (ρ' := E (some (.lst (val1.take 12))) none none) rfl ?_
  refine seq_nx (ρ' := E (some (.lst val1)) none none) rfl ?_
  refine seq_nx (ρ' := E (some (.lst val1)) (some (.tup [])) none) rfl ?_
  refine seq_nx (ρ' := E (some (.lst val1)) (some deep1) (some (.int 6))) rfl ?_
  refine ret_ok (callIo_ok (ρ := E (some (.lst val1)) (some deep1) (some (.int 6))) (ρ1 := E (some (.lst val1)) (some deep1) (some (.int 6))) (d0 := bxD q) (d1 := bxD q) (io0 := true) (io := true) (ds := [.lst (val1 ++ [deep1])]) rfl ?_ rfl rfl e1 rfl)
  rfl
def shB (d : Dt) : Bool := match toPy d with
  | some p => p.showable && (!p.hasDict && (decide (p.depth ≤ 12) && (decide (p.shown.length ≤ 100) && PyData.strOk p.shown)))
  | none => false
theorem shB_ok {d : Dt} (h : shB d = true) : ∃ p, ShP 12 100 d p := by
  unfold shB at h
  split at h
  · rename_i p hp
    simp only [Bool.and_eq_true, Bool.not_eq_true', decide_eq_true_eq] at h
    exact ⟨p, hp, h.1, h.2.1, h.2.2.1, h.2.2.2.1, h.2.2.2.2⟩
  · cases h
theorem val_sh : ∀ v ∈ val1 ++ [deep1], ∃ p, ShP 12 100 v p := by
  have h : (val1 ++ [deep1]).all shB = true := by decide +kernel
  exact fun v hv => shB_ok (List.all_eq_true.mp h v hv)
theorem rp_vals {vs : List Dt} (h : ∀ v ∈ vs, v ∈ val1 ++ [deep1]) (hl : vs.length ≤ 9) : Rp (.lst vs) := rp_shp1 (k := 13) (n := 2000) (shp_lst1 (k := 12) (n := 100) (l := 9) (fun x hx => val_sh x (h x hx)) hl (by decide)) (by decide) (by decide)
/-! ### errors, made and held against their classes -/
section
variable (v0 v1 v2 v3 v4 v5 v6 v7 v8 : Dt)
def nineL : List Dt := [v0, v1, v2, v3, v4, v5, v6, v7, v8]
def errN : List Dt := [.exv 20 [v0], .exv 21 [v1], .exv 22 [v2], .exv 23 [v3], .exv 24 [v4], .exv 26 [v5], .exv 27 [v6], .exv 29 [v7], .exv 30 [v8]]
def errL : List Dt := errN v0 v1 v2 v3 v4 v5 v6 v7 v8 ++ [.exv 28 [], .exv 25 []]
theorem errors_ok : m_law_errors [.lst (nineL v0 v1 v2 v3 v4 v5 v6 v7 v8)] = .ret (.lst (errL v0 v1 v2 v3 v4 v5 v6 v7 v8)) .non := by kernel_rfl
theorem named_ok : m_law_named [.lst (nineL v0 v1 v2 v3 v4 v5 v6 v7 v8)] = .ret (.lst (errN v0 v1 v2 v3 v4 v5 v6 v7 v8)) .non := by kernel_rfl
theorem held_ok : m_law_held [.lst (errL v0 v1 v2 v3 v4 v5 v6 v7 v8)] = .ret (.lst (nineL v0 v1 v2 v3 v4 v5 v6 v7 v8)) .non := by kernel_rfl
theorem held_ok2 : m_law_held [.lst (errN v0 v1 v2 v3 v4 v5 v6 v7 v8)] = .ret (.lst (nineL v0 v1 v2 v3 v4 v5 v6 v7 v8)) .non := by kernel_rfl
end
def boolsL (i : Nat) : Dt := .lst ((List.range 11).map fun o => .bl (decide (o = i)))
/-- an error at its place -/
def AtPl (i : Nat) (e : Dt) : Prop := m_law_sorts [e] = .ret (boolsL i) .non ∧ fIsV [20, 21, 22, 23, 24, 26, 27, 29, 30, 28, 25] (fun _ => true) e = some (.bl true) ∧ i < 11
theorem sorts_ok (v : Dt) : AtPl 0 (.exv 20 [v]) ∧ AtPl 1 (.exv 21 [v]) ∧ AtPl 2 (.exv 22 [v]) ∧ AtPl 3 (.exv 23 [v]) ∧ AtPl 4 (.exv 24 [v]) ∧ AtPl 5 (.exv 26 [v]) ∧ AtPl 6 (.exv 27 [v]) ∧ AtPl 7 (.exv 29 [v]) ∧ AtPl 8 (.exv 30 [v]) ∧ AtPl 9 (.exv 28 []) ∧ AtPl 10 (.exv 25 []) :=
  ⟨⟨by kernel_rfl, rfl, by decide⟩, ⟨by kernel_rfl, rfl, by decide⟩, ⟨by kernel_rfl, rfl, by decide⟩, ⟨by kernel_rfl, rfl, by decide⟩, ⟨by kernel_rfl, rfl, by decide⟩, ⟨by kernel_rfl, rfl, by decide⟩, ⟨by kernel_rfl, rfl, by decide⟩, ⟨by kernel_rfl, rfl, by decide⟩, ⟨by kernel_rfl, rfl, by decide⟩, ⟨by kernel_rfl, rfl, by decide⟩, ⟨by kernel_rfl, rfl, by decide⟩⟩
abbrev e01 (ns : List Int) (s1 : Option Dt) (q : Int × Int × Int) (s3 s4 s5 s6 : Option Dt) (a7 : Option Sl) (s8 s9 s10 : Option Dt) : En :=
  [vl (.scr ns), lv s1, ow (bxD q), lv s3, lv s4, lv s5, lv s6, a7, lv s8, lv s9, lv s10]
theorem spot01 (ns : List Int) (s1 : Option Dt) (q : Int × Int × Int) (s3 s4 : Option Dt) (a7 : Option Sl) (s8 s9 s10 : Option Dt) {i : Nat} {e : Dt} (h : AtPl i e) :
    lp_law_0 (e01 ns s1 q s3 s4 (some (nD i)) (some e) a7 s8 s9 s10) = .nx (e01 ns s1 q s3 s4 (some (nD i)) (some e) a7 s8 s9 s10) := by
  let E := e01 ns s1 q s3 s4 (some (nD i)) (some e) a7 s8 s9 s10
  have e1 : mLc (mRng1 (mCons (mPure (.int 11)) (mPure []))) (gV 10) (mPure true) (m2 fEq (mVar 10) (mPeek 5)) [10] E = .ok (boolsL i) E := by
    refine lc_map (List.range 11) nD _ (rngN_ok (N := 11) rfl (by decide)) (by cases s10 <;> rfl) (fun o ho => ?_) (by decide)
    refine ⟨e01 ns s1 q s3 s4 (some (nD i)) (some e) a7 s8 s9 (some (nD o)), by cases s10 <;> rfl, e01 ns s1 q s3 s4 (some (nD i)) (some e) a7 s8 s9 (some (nD o)), m2_ok (x := nD o) (y := nD i) rfl rfl ?_, by cases s10 <;> rfl⟩
    rw [feq_int]
    have : decide ((o : Int) = (i : Int)) = decide (o = i) := by
      by_cases z : o = i
      · rw [decide_eq_true z, decide_eq_true (by omega)]
      · rw [decide_eq_false z, decide_eq_false (by omega)]
    rw [this]
  have fl : Flt 1 (boolsL i) := .lst fun x hx => by
    obtain ⟨o, _, rfl⟩ := List.mem_map.mp hx
    exact .bl _
  have c0 : m1 (fIsV [20, 21, 22, 23, 24, 26, 27, 29, 30, 28, 25] (fun _ => true)) (mVar 6) E = .ok (.bl true) E := m1_ok (x := e) rfl h.2.1
  exact seq_nx (if_f (tb_ok (m2_ok (x := boolsL i) (y := boolsL i) (call_ok (ds := [e]) (r := .non) rfl rfl h.1) e1 (fne_self fl (by decide)))) rfl) (if_f (or_f (not_ok (b := true) (tb_ok c0)) (not_ok (b := true) (tb_ok c0))) rfl)
theorem drawn01 (ns : List Int) (s1 : Option Dt) (q : Int × Int × Int) (s3 s4 s5 s6 : Option Dt) (a7 : Option Sl) (s8 s9 s10 : Option Dt) : ∃ vs q', vs.length = 9 ∧ (∀ v ∈ vs, v ∈ val1 ++ [deep1]) ∧
    mLc (mRng1 (mCons (mPure (.int 9)) (mPure []))) (gV 9) (mPure true) (mCallIo 1 m_law_value 2 (mPure [])) [9] (e01 ns s1 q s3 s4 s5 s6 a7 s8 s9 s10) = .ok (.lst vs) (e01 ns s1 q' s3 s4 s5 s6 a7 s8 s9 s10) := by
  let E (q : Int × Int × Int) (s9 : Option Dt) : En := e01 ns s1 q s3 s4 s5 s6 a7 s8 s9 s10
  have key := lc_inv (mi := mRng1 (mCons (mPure (.int 9)) (mPure []))) (g := gV 9) (t := mPure true) (e := mCallIo 1 m_law_value 2 (mPure [])) (vs := [9]) (ρ := E q s9) (ρ0 := E q s9) (List.range 9) nD
    (fun pre acc ρ => ∃ q' : Int × Int × Int, acc.length = pre.length ∧ (∀ v ∈ acc, v ∈ val1 ++ [deep1]) ∧ ρ = E q' none) (rngN_ok (N := 9) rfl (by decide)) (by cases s9 <;> rfl) ⟨q, rfl, fun _ h => (nomatch h), rfl⟩ (by decide) (by
    rintro pre r post acc ρ e ⟨q1, h1, h2, rfl⟩
    obtain ⟨v, q2, hv, ev⟩ := pick1 q1
    refine ⟨E q1 (some (nD r)), rfl, true, E q1 (some (nD r)), rfl, fun z => (nomatch z), fun _ => ⟨v, E q2 (some (nD r)), callIo_ok (ρ1 := E q1 (some (nD r))) (d0 := bxD q1) (io0 := false) (io := false) (d1 := bxD q1) (ds := []) rfl rfl rfl rfl ev rfl, q2, ?_, fun x hx => ?_, rfl⟩⟩
    · rw [List.length_append, List.length_append, h1]; rfl
    · rcases List.mem_append.mp hx with hx | hx
      · exact h2 x hx
      · rw [List.mem_singleton.mp hx]; exact hv)
  obtain ⟨acc, ρ', k1, q', h1, h2, rfl⟩ := key
  exact ⟨acc, q', by rw [h1]; rfl, h2, k1⟩
theorem nine_of : ∀ {vs : List Dt}, vs.length = 9 → ∃ v0 v1 v2 v3 v4 v5 v6 v7 v8, vs = nineL v0 v1 v2 v3 v4 v5 v6 v7 v8
  | [a, b, c, d, e, f, g, h, i], _ => ⟨a, b, c, d, e, f, g, h, i, rfl⟩
/-- the list that is changed behind -/
theorem alias01 (ns : List Int) (s1 : Option Dt) (q : Int × Int × Int) (s3 s4 s5 s6 s8 s9 s10 : Option Dt) (a : Addr) :
    alC 7 8 [.int 1] (sSet 8 (mCall 1 m_law_errors (mCons (mRep (mLst (mCons (mVar 7) (mPure []))) (mPure (.int 9))) (mPure [])))) (mCall 1 m_law_held (mCons (mVar 8) (mPure []))) (mRep (mLst (mCons (mLst (mCons (mPure (.int 1)) (mPure []))) (mPure []))) (mPure (.int 9))) (mRep (mLst (mCons (mLst (mCons (mPure (.int 1)) (mCons (mPure (.int 2)) (mPure [])))) (mPure []))) (mPure (.int 9)))
      (e01 ns s1 q s3 s4 s5 s6 (ow (.lst [.int 1])) s8 s9 s10) a := by
  let r : Dt := .adr a
  let L := errL r r r r r r r r r
  let E (s8 : Option Dt) : En := e01 ns s1 q s3 s4 s5 s6 (vl r) s8 s9 s10
  have hh : mCall 1 m_law_held (mCons (mVar 8) (mPure [])) (E (some (.lst L))) = .ok (.lst (nineL r r r r r r r r r)) (E (some (.lst L))) := call_ok (ds := [.lst L]) (r := .non) rfl rfl (held_ok r r r r r r r r r)
  have all : (nineL r r r r r r r r r).all (isAdr a) = true := by
    have : isAdr a r = true := decide_eq_true rfl
    simp [nineL, this]
  have go : ∀ (ds : List Dt) (mR : Mi Dt), (∀ x ∈ ds, ∃ i, x = .int i) → mR (E (some (.lst L))) = .ok (.lst ((nineL r r r r r r r r r).map fun _ => .lst ds)) (E (some (.lst L))) → mNeA a ds (mCall 1 m_law_held (mCons (mVar 8) (mPure []))) mR (E (some (.lst L))) = .ok false (E (some (.lst L))) := fun ds mR hd hR => by
    unfold mNeA
    refine bind_ok hh (bind_ok hR ?_)
    dsimp only
    rw [if_pos all, fne_self (k := 2) (.lst fun x hx => by
      obtain ⟨_, _, rfl⟩ := List.mem_map.mp hx
      exact .lst fun y hy => by
        obtain ⟨i, rfl⟩ := hd y hy
        exact .int i) (by decide)]
    rfl
  refine ⟨.lst L, ?_, ?_, ?_⟩
  · show sSet 8 _ (E s8) = .nx (E (some (.lst L)))
    exact set_ok (ρ1 := E s8) (call_ok (ds := [.lst (nineL r r r r r r r r r)]) (r := .non) rfl rfl (errors_ok r r r r r r r r r)) (by cases s8 <;> rfl)
  · exact go _ _ (fun x hx => ⟨1, List.mem_singleton.mp hx⟩) rfl
  · exact go _ _ (fun x hx => by
      rcases List.mem_cons.mp hx with rfl | hx
      · exact ⟨1, rfl⟩
      · exact ⟨2, List.mem_singleton.mp hx⟩) rfl
def I01 (ns : List Int) (ρ : En) : Prop := ∃ s1 q s3 s4 s5 s6 s8 s9 s10, ρ = [vl (.scr ns), lv s1, bo q, lv s3, lv s4, lv s5, lv s6, none, lv s8, lv s9, lv s10]
theorem cell01 (ns : List Int) (k : Nat) (ρ : En) (hI : I01 ns ρ) : ∃ ρ1, gV 1 (nD k) ρ = some ρ1 ∧ ∃ ρ2, (lp_law_1 ρ1 = .nx ρ2 ∨ lp_law_1 ρ1 = .ct ρ2) ∧ I01 ns ρ2 := by
  obtain ⟨s1, q, s3, s4, s5, s6, s8, s9, s10, rfl⟩ := hI
  obtain ⟨q1, e1⟩ := box_any ns (k : Int) 1 (by omega)
  let E (q : Int × Int × Int) (s3 s4 s5 s6 : Option Dt) (a7 : Option Sl) : En := e01 ns (some (nD k)) q s3 s4 s5 s6 a7 s8 s9 s10
  obtain ⟨vs, q2, hl, hv, ed⟩ := drawn01 ns (some (nD k)) q1 s3 s4 s5 s6 none s8 s9 s10
  obtain ⟨v0, v1, v2, v3, v4, v5, v6, v7, v8, rfl⟩ := nine_of hl
  let V : Dt := .lst (nineL v0 v1 v2 v3 v4 v5 v6 v7 v8)
  let M : Dt := .lst (errL v0 v1 v2 v3 v4 v5 v6 v7 v8)
  obtain ⟨K, ek, ok⟩ := rp_vals hv (Nat.le_of_eq hl)
  have fK : fNe (.str K) (.str K) = some (.bl false) := fne_self (k := 0) (.str (by simpa [PyData.canLay0] using ok)) (by decide)
  have w1 : sSetN 2 (mCall 3 m_law_box (mCons (mVar 0) (mCons (mVar 1) (mCons (mPure (.int 1)) (mPure []))))) [vl (.scr ns), vl (nD k), bo q, lv s3, lv s4, lv s5, lv s6, none, lv s8, lv s9, lv s10] = .nx (E q1 s3 s4 s5 s6 none) :=
    setN_ok (ρ1 := [vl (.scr ns), vl (nD k), bo q, lv s3, lv s4, lv s5, lv s6, none, lv s8, lv s9, lv s10]) (call_ok (ds := [.scr ns, .int k, .int 1]) (r := .non) rfl rfl e1) (by cases q <;> rfl)
  have w2 : sSet 3 (mLc (mRng1 (mCons (mPure (.int 9)) (mPure []))) (gV 9) (mPure true) (mCallIo 1 m_law_value 2 (mPure [])) [9]) (E q1 s3 s4 s5 s6 none) = .nx (E q2 (some V) s4 s5 s6 none) := set_ok ed (by cases s3 <;> rfl)
  have w3 : sSet 4 (mCall 1 m_law_errors (mCons (mVar 3) (mPure []))) (E q2 (some V) s4 s5 s6 none) = .nx (E q2 (some V) (some M) s5 s6 none) :=
    set_ok (ρ1 := E q2 (some V) s4 s5 s6 none) (call_ok (ds := [V]) (r := .non) rfl rfl (errors_ok v0 v1 v2 v3 v4 v5 v6 v7 v8)) (by cases s4 <;> rfl)
  let P : List (Nat × Dt) := [(0, .exv 20 [v0]), (1, .exv 21 [v1]), (2, .exv 22 [v2]), (3, .exv 23 [v3]), (4, .exv 24 [v4]), (5, .exv 26 [v5]), (6, .exv 27 [v6]), (7, .exv 29 [v7]), (8, .exv 30 [v8]), (9, .exv 28 []), (10, .exv 25 [])]
  have hP : ∀ p ∈ P, AtPl p.1 p.2 := fun p hp => by
    simp only [P, List.mem_cons, List.not_mem_nil, or_false] at hp
    rcases hp with rfl | rfl | rfl | rfl | rfl | rfl | rfl | rfl | rfl | rfl | rfl
    · exact (sorts_ok v0).1
    · exact (sorts_ok v1).2.1
    · exact (sorts_ok v2).2.2.1
    · exact (sorts_ok v3).2.2.2.1
    · exact (sorts_ok v4).2.2.2.2.1
    · exact (sorts_ok v5).2.2.2.2.2.1
    · exact (sorts_ok v6).2.2.2.2.2.2.1
    · exact (sorts_ok v7).2.2.2.2.2.2.2.1
    · exact (sorts_ok v8).2.2.2.2.2.2.2.2.1
    · exact (sorts_ok v0).2.2.2.2.2.2.2.2.2.1
    · exact (sorts_ok v0).2.2.2.2.2.2.2.2.2.2
  obtain ⟨ρ', g1, s5', s6', rfl⟩ := forGo_all (g := gT (gsC (gV 5) (gsC (gV 6) gsN)) 2) (bd := lp_law_0) (fun p : Nat × Dt => .tup [nD p.1, p.2]) (fun ρ => ∃ s5 s6, ρ = E q2 (some V) (some M) s5 s6 none) P (E q2 (some V) (some M) s5 s6 none) ⟨s5, s6, rfl⟩ (by
    rintro p hp ρ ⟨s5, s6, rfl⟩
    exact ⟨E q2 (some V) (some M) (some (nD p.1)) (some p.2) none, by cases s5 <;> cases s6 <;> rfl, _, .inl (spot01 ns (some (nD k)) q2 (some V) (some M) none s8 s9 s10 (hP p hp)), some (nD p.1), some p.2, rfl⟩)
  have w4 : sFor (mEnumI (mVar 4)) (gT (gsC (gV 5) (gsC (gV 6) gsN)) 2) lp_law_0 (E q2 (some V) (some M) s5 s6 none) = .nx (E q2 (some V) (some M) s5' s6' none) := for_ok (ds := P.map fun p => .tup [nD p.1, p.2]) rfl g1
  have c1 : mB (m2 fNe (m1 fReprD (mCall 1 m_law_held (mCons (mVar 4) (mPure [])))) (m1 fReprD (mPeek 3))) (E q2 (some V) (some M) s5' s6' none) = .ok false (E q2 (some V) (some M) s5' s6' none) :=
    tb_ok (m2_ok (x := .str K) (y := .str K) (m1_ok (x := V) (call_ok (ds := [M]) (r := .non) rfl rfl (held_ok v0 v1 v2 v3 v4 v5 v6 v7 v8)) ek) (m1_ok (x := V) rfl ek) fK)
  have c2 : mB (m2 fNe (m1 fReprD (mCall 1 m_law_held (mCons (mCall 1 m_law_named (mCons (mVar 3) (mPure []))) (mPure [])))) (m1 fReprD (mPeek 3))) (E q2 (some V) (some M) s5' s6' none) = .ok false (E q2 (some V) (some M) s5' s6' none) :=
    tb_ok (m2_ok (x := .str K) (y := .str K) (m1_ok (x := V) (call_ok (ds := [.lst (errN v0 v1 v2 v3 v4 v5 v6 v7 v8)]) (r := .non) (cons_ok (call_ok (ds := [V]) (r := .non) rfl rfl (named_ok v0 v1 v2 v3 v4 v5 v6 v7 v8)) rfl) rfl (held_ok2 v0 v1 v2 v3 v4 v5 v6 v7 v8)) ek) (m1_ok (x := V) rfl ek) fK)
  refine ⟨[vl (.scr ns), vl (nD k), bo q, lv s3, lv s4, lv s5, lv s6, none, lv s8, lv s9, lv s10], by cases s1 <;> rfl, _, .inl ?_, some (nD k), some q2, some V, some M, s5', s6', none, s9, s10, rfl⟩
  refine seq_nx w1 (seq_nx w2 (seq_nx w3 (seq_nx w4 (seq_nx (if_f (or_f c1 c2) rfl) (seq_nx (ρ' := E q2 (some V) (some M) s5' s6' (ow (.lst [.int 1]))) rfl ?_)))))
  exact sAlias_ok (o := lv s8) rfl (by decide) (by decide) rfl (fun io d z => by cases s8 <;> cases z) fun a => alias01 ns (some (nD k)) q2 (some V) (some M) s5' s6' s8 s9 s10 a
theorem law_true (ns : List Int) (_ : ns.length ≤ 63) : m_law [.scr ns] = .ret (.bl true) .non := by
  unfold m_law b_law
  obtain ⟨ρ', h1, s1, q, s3, s4, s5, s6, s8, s9, s10, rfl⟩ := forGo_all (g := gV 1) (bd := lp_law_1) nD (I01 ns) (List.range (cellN ns)) [vl (.scr ns), none, none, none, none, none, none, none, none, none, none] ⟨none, none, none, none, none, none, none, none, none, rfl⟩ (fun k _ ρ hI => cell01 ns k ρ hI)
  exact law_end (k := 11) (for_ok (cells_ok rfl) h1) ⟨_, rfl⟩
end Dl
namespace Dl
open PySem PySem.Spec PyProof.Rows L2
/-! ### what the top has written -/
def spL (K : PySem.W.Frag) : Sp := fun vs H Q E => ∀ cl : Nat → Option (Addr × List Str), spM ⟨K, cl⟩ 1 false false m_law vs H Q E
theorem all_mk {P : Program} {w : World} {K : PySem.W.Frag} {h : Heap} {mg : Str → Option Value} {fa : Addr} (X : K.In h) (G : h.Ns mainGlobals mg) (hfa : mg "law" = some (.ref fa))
    {E_TurnError : Addr}
    {E_InvalidRota : Addr}
    {E_InvalidText : Addr}
    {E_InvalidSeason : Addr}
    {E_InvalidMisses : Addr}
    {E_InvalidDays : Addr}
    {E_InvalidCommand : Addr}
    {E_NoWheel : Addr}
    {E_NoTurning : Addr}
    {E_NoFit : Addr}
    {E_NoLot : Addr}
    {E_Refused : Addr}
    {R_TurnError : Addr}
    {eInvalidRota : Addr} {eodInvalidRota eanInvalidRota : Option Addr} {eslInvalidRota : Array (Option Value)} {eocInvalidRota ekVInvalidRota edcInvalidRota epmInvalidRota ecdInvalidRota ectInvalidRota : Value} {xnmInvalidRota : Str} {xqInvalidRota : Str} {xNInvalidRota : Addr} {xbsInvalidRota xbmInvalidRota : List Value} {xsnInvalidRota : _} {xsubInvalidRota : _} {xabInvalidRota xcolInvalidRota : _} {xddInvalidRota : _} {xk0InvalidRota xk1InvalidRota xk2InvalidRota xk3InvalidRota xk5InvalidRota : _}
    {eInvalidText : Addr} {eodInvalidText eanInvalidText : Option Addr} {eslInvalidText : Array (Option Value)} {eocInvalidText ekVInvalidText edcInvalidText epmInvalidText ecdInvalidText ectInvalidText : Value} {xnmInvalidText : Str} {xqInvalidText : Str} {xNInvalidText : Addr} {xbsInvalidText xbmInvalidText : List Value} {xsnInvalidText : _} {xsubInvalidText : _} {xabInvalidText xcolInvalidText : _} {xddInvalidText : _} {xk0InvalidText xk1InvalidText xk2InvalidText xk3InvalidText xk5InvalidText : _}
    {eInvalidSeason : Addr} {eodInvalidSeason eanInvalidSeason : Option Addr} {eslInvalidSeason : Array (Option Value)} {eocInvalidSeason ekVInvalidSeason edcInvalidSeason epmInvalidSeason ecdInvalidSeason ectInvalidSeason : Value} {xnmInvalidSeason : Str} {xqInvalidSeason : Str} {xNInvalidSeason : Addr} {xbsInvalidSeason xbmInvalidSeason : List Value} {xsnInvalidSeason : _} {xsubInvalidSeason : _} {xabInvalidSeason xcolInvalidSeason : _} {xddInvalidSeason : _} {xk0InvalidSeason xk1InvalidSeason xk2InvalidSeason xk3InvalidSeason xk5InvalidSeason : _}
    {eInvalidMisses : Addr} {eodInvalidMisses eanInvalidMisses : Option Addr} {eslInvalidMisses : Array (Option Value)} {eocInvalidMisses ekVInvalidMisses edcInvalidMisses epmInvalidMisses ecdInvalidMisses ectInvalidMisses : Value} {xnmInvalidMisses : Str} {xqInvalidMisses : Str} {xNInvalidMisses : Addr} {xbsInvalidMisses xbmInvalidMisses : List Value} {xsnInvalidMisses : _} {xsubInvalidMisses : _} {xabInvalidMisses xcolInvalidMisses : _} {xddInvalidMisses : _} {xk0InvalidMisses xk1InvalidMisses xk2InvalidMisses xk3InvalidMisses xk5InvalidMisses : _}
    {eInvalidDays : Addr} {eodInvalidDays eanInvalidDays : Option Addr} {eslInvalidDays : Array (Option Value)} {eocInvalidDays ekVInvalidDays edcInvalidDays epmInvalidDays ecdInvalidDays ectInvalidDays : Value} {xnmInvalidDays : Str} {xqInvalidDays : Str} {xNInvalidDays : Addr} {xbsInvalidDays xbmInvalidDays : List Value} {xsnInvalidDays : _} {xsubInvalidDays : _} {xabInvalidDays xcolInvalidDays : _} {xddInvalidDays : _} {xk0InvalidDays xk1InvalidDays xk2InvalidDays xk3InvalidDays xk5InvalidDays : _}
    {eNoWheel : Addr} {eodNoWheel eanNoWheel : Option Addr} {eslNoWheel : Array (Option Value)} {eocNoWheel ekVNoWheel edcNoWheel epmNoWheel ecdNoWheel ectNoWheel : Value} {xnmNoWheel : Str} {xqNoWheel : Str} {xNNoWheel : Addr} {xbsNoWheel xbmNoWheel : List Value} {xsnNoWheel : _} {xsubNoWheel : _} {xabNoWheel xcolNoWheel : _} {xddNoWheel : _} {xk0NoWheel xk1NoWheel xk2NoWheel xk3NoWheel xk5NoWheel : _}
    {eNoTurning : Addr} {eodNoTurning eanNoTurning : Option Addr} {eslNoTurning : Array (Option Value)} {eocNoTurning ekVNoTurning edcNoTurning epmNoTurning ecdNoTurning ectNoTurning : Value} {xnmNoTurning : Str} {xqNoTurning : Str} {xNNoTurning : Addr} {xbsNoTurning xbmNoTurning : List Value} {xsnNoTurning : _} {xsubNoTurning : _} {xabNoTurning xcolNoTurning : _} {xddNoTurning : _} {xk0NoTurning xk1NoTurning xk2NoTurning xk3NoTurning xk5NoTurning : _}
    {eNoLot : Addr} {eodNoLot eanNoLot : Option Addr} {eslNoLot : Array (Option Value)} {eocNoLot ekVNoLot edcNoLot epmNoLot ecdNoLot ectNoLot : Value} {xnmNoLot : Str} {xqNoLot : Str} {xNNoLot : Addr} {xbsNoLot xbmNoLot : List Value} {xsnNoLot : _} {xsubNoLot : _} {xabNoLot xcolNoLot : _} {xddNoLot : _} {xk0NoLot xk1NoLot xk2NoLot xk3NoLot xk5NoLot : _}
    {eRefused : Addr} {eodRefused eanRefused : Option Addr} {eslRefused : Array (Option Value)} {eocRefused ekVRefused edcRefused epmRefused ecdRefused ectRefused : Value} {xnmRefused : Str} {xqRefused : Str} {xNRefused : Addr} {xbsRefused xbmRefused : List Value} {xsnRefused : _} {xsubRefused : _} {xabRefused xcolRefused : _} {xddRefused : _} {xk0Refused xk1Refused xk2Refused xk3Refused xk5Refused : _}
    {eNoFit : Addr} {eodNoFit eanNoFit : Option Addr} {eslNoFit : Array (Option Value)} {eocNoFit ekVNoFit edcNoFit epmNoFit ecdNoFit ectNoFit : Value} {xnmNoFit : Str} {xqNoFit : Str} {xNNoFit : Addr} {xbsNoFit xbmNoFit : List Value} {xsnNoFit : _} {xsubNoFit : _} {xabNoFit xcolNoFit : _} {xddNoFit : _} {xk0NoFit xk1NoFit xk2NoFit xk3NoFit xk5NoFit : _}
    {eInvalidCommand : Addr} {eodInvalidCommand eanInvalidCommand : Option Addr} {eslInvalidCommand : Array (Option Value)} {eocInvalidCommand ekVInvalidCommand edcInvalidCommand epmInvalidCommand ecdInvalidCommand ectInvalidCommand : Value} {xnmInvalidCommand : Str} {xqInvalidCommand : Str} {xNInvalidCommand : Addr} {xbsInvalidCommand xbmInvalidCommand : List Value} {xsnInvalidCommand : _} {xsubInvalidCommand : _} {xabInvalidCommand xcolInvalidCommand : _} {xddInvalidCommand : _} {xk0InvalidCommand xk1InvalidCommand xk2InvalidCommand xk3InvalidCommand xk5InvalidCommand : _}
    {f0 : Addr} {od0 an0 : Option Addr} {sl0 : Array (Option Value)} {oc0 kV0 dc0 pm0 cd0 ct0 : Value}
    {f1 : Addr} {od1 an1 : Option Addr} {sl1 : Array (Option Value)} {oc1 kV1 dc1 pm1 cd1 ct1 : Value}
    {f2 : Addr} {od2 an2 : Option Addr} {sl2 : Array (Option Value)} {oc2 kV2 dc2 pm2 cd2 ct2 : Value}
    {f3 : Addr} {od3 an3 : Option Addr} {sl3 : Array (Option Value)} {oc3 kV3 dc3 pm3 cd3 ct3 : Value}
    {f4 : Addr} {od4 an4 : Option Addr} {sl4 : Array (Option Value)} {oc4 kV4 dc4 pm4 cd4 ct4 : Value}
    {f5 : Addr} {od5 an5 : Option Addr} {sl5 : Array (Option Value)} {oc5 kV5 dc5 pm5 cd5 ct5 : Value}
    {f6 : Addr} {od6 an6 : Option Addr} {sl6 : Array (Option Value)} {oc6 kV6 dc6 pm6 cd6 ct6 : Value}
    {f7 : Addr} {od7 an7 : Option Addr} {sl7 : Array (Option Value)} {oc7 kV7 dc7 pm7 cd7 ct7 : Value}
    {f8 : Addr} {od8 an8 : Option Addr} {sl8 : Array (Option Value)} {oc8 kV8 dc8 pm8 cd8 ct8 : Value}
    (aE_TurnError : PySem.W.nsIn K mainGlobals "TurnError" = some (some (.ref E_TurnError)))
    (hdE_TurnError : PySem.W.hasDictIn K E_TurnError = true)
    (tyE_TurnError : PySem.W.typeIn K (.ref E_TurnError) = some (.type "type"))
    (sfE_TurnError : PySem.W.subIn K (.ref E_TurnError) (.ref E_TurnError) = some true)
    (aE_InvalidRota : PySem.W.nsIn K mainGlobals "InvalidRota" = some (some (.ref E_InvalidRota)))
    (hdE_InvalidRota : PySem.W.hasDictIn K E_InvalidRota = true)
    (tyE_InvalidRota : PySem.W.typeIn K (.ref E_InvalidRota) = some (.type "type"))
    (sfE_InvalidRota : PySem.W.subIn K (.ref E_InvalidRota) (.ref E_InvalidRota) = some true)
    (aE_InvalidText : PySem.W.nsIn K mainGlobals "InvalidText" = some (some (.ref E_InvalidText)))
    (hdE_InvalidText : PySem.W.hasDictIn K E_InvalidText = true)
    (tyE_InvalidText : PySem.W.typeIn K (.ref E_InvalidText) = some (.type "type"))
    (sfE_InvalidText : PySem.W.subIn K (.ref E_InvalidText) (.ref E_InvalidText) = some true)
    (aE_InvalidSeason : PySem.W.nsIn K mainGlobals "InvalidSeason" = some (some (.ref E_InvalidSeason)))
    (hdE_InvalidSeason : PySem.W.hasDictIn K E_InvalidSeason = true)
    (tyE_InvalidSeason : PySem.W.typeIn K (.ref E_InvalidSeason) = some (.type "type"))
    (sfE_InvalidSeason : PySem.W.subIn K (.ref E_InvalidSeason) (.ref E_InvalidSeason) = some true)
    (aE_InvalidMisses : PySem.W.nsIn K mainGlobals "InvalidMisses" = some (some (.ref E_InvalidMisses)))
    (hdE_InvalidMisses : PySem.W.hasDictIn K E_InvalidMisses = true)
    (tyE_InvalidMisses : PySem.W.typeIn K (.ref E_InvalidMisses) = some (.type "type"))
    (sfE_InvalidMisses : PySem.W.subIn K (.ref E_InvalidMisses) (.ref E_InvalidMisses) = some true)
    (aE_InvalidDays : PySem.W.nsIn K mainGlobals "InvalidDays" = some (some (.ref E_InvalidDays)))
    (hdE_InvalidDays : PySem.W.hasDictIn K E_InvalidDays = true)
    (tyE_InvalidDays : PySem.W.typeIn K (.ref E_InvalidDays) = some (.type "type"))
    (sfE_InvalidDays : PySem.W.subIn K (.ref E_InvalidDays) (.ref E_InvalidDays) = some true)
    (aE_InvalidCommand : PySem.W.nsIn K mainGlobals "InvalidCommand" = some (some (.ref E_InvalidCommand)))
    (hdE_InvalidCommand : PySem.W.hasDictIn K E_InvalidCommand = true)
    (tyE_InvalidCommand : PySem.W.typeIn K (.ref E_InvalidCommand) = some (.type "type"))
    (sfE_InvalidCommand : PySem.W.subIn K (.ref E_InvalidCommand) (.ref E_InvalidCommand) = some true)
    (aE_NoWheel : PySem.W.nsIn K mainGlobals "NoWheel" = some (some (.ref E_NoWheel)))
    (hdE_NoWheel : PySem.W.hasDictIn K E_NoWheel = true)
    (tyE_NoWheel : PySem.W.typeIn K (.ref E_NoWheel) = some (.type "type"))
    (sfE_NoWheel : PySem.W.subIn K (.ref E_NoWheel) (.ref E_NoWheel) = some true)
    (aE_NoTurning : PySem.W.nsIn K mainGlobals "NoTurning" = some (some (.ref E_NoTurning)))
    (hdE_NoTurning : PySem.W.hasDictIn K E_NoTurning = true)
    (tyE_NoTurning : PySem.W.typeIn K (.ref E_NoTurning) = some (.type "type"))
    (sfE_NoTurning : PySem.W.subIn K (.ref E_NoTurning) (.ref E_NoTurning) = some true)
    (aE_NoFit : PySem.W.nsIn K mainGlobals "NoFit" = some (some (.ref E_NoFit)))
    (hdE_NoFit : PySem.W.hasDictIn K E_NoFit = true)
    (tyE_NoFit : PySem.W.typeIn K (.ref E_NoFit) = some (.type "type"))
    (sfE_NoFit : PySem.W.subIn K (.ref E_NoFit) (.ref E_NoFit) = some true)
    (aE_NoLot : PySem.W.nsIn K mainGlobals "NoLot" = some (some (.ref E_NoLot)))
    (hdE_NoLot : PySem.W.hasDictIn K E_NoLot = true)
    (tyE_NoLot : PySem.W.typeIn K (.ref E_NoLot) = some (.type "type"))
    (sfE_NoLot : PySem.W.subIn K (.ref E_NoLot) (.ref E_NoLot) = some true)
    (aE_Refused : PySem.W.nsIn K mainGlobals "Refused" = some (some (.ref E_Refused)))
    (hdE_Refused : PySem.W.hasDictIn K E_Refused = true)
    (tyE_Refused : PySem.W.typeIn K (.ref E_Refused) = some (.type "type"))
    (sfE_Refused : PySem.W.subIn K (.ref E_Refused) (.ref E_Refused) = some true)
    (su_InvalidCommand_InvalidCommand : PySem.W.subIn K (.ref E_InvalidCommand) (.ref E_InvalidCommand) = some true)
    (su_InvalidCommand_InvalidDays : PySem.W.subIn K (.ref E_InvalidCommand) (.ref E_InvalidDays) = some false)
    (su_InvalidCommand_InvalidMisses : PySem.W.subIn K (.ref E_InvalidCommand) (.ref E_InvalidMisses) = some false)
    (su_InvalidCommand_InvalidRota : PySem.W.subIn K (.ref E_InvalidCommand) (.ref E_InvalidRota) = some false)
    (su_InvalidCommand_InvalidSeason : PySem.W.subIn K (.ref E_InvalidCommand) (.ref E_InvalidSeason) = some false)
    (su_InvalidCommand_InvalidText : PySem.W.subIn K (.ref E_InvalidCommand) (.ref E_InvalidText) = some false)
    (su_InvalidCommand_NoFit : PySem.W.subIn K (.ref E_InvalidCommand) (.ref E_NoFit) = some false)
    (su_InvalidCommand_NoLot : PySem.W.subIn K (.ref E_InvalidCommand) (.ref E_NoLot) = some false)
    (su_InvalidCommand_NoTurning : PySem.W.subIn K (.ref E_InvalidCommand) (.ref E_NoTurning) = some false)
    (su_InvalidCommand_NoWheel : PySem.W.subIn K (.ref E_InvalidCommand) (.ref E_NoWheel) = some false)
    (su_InvalidCommand_Refused : PySem.W.subIn K (.ref E_InvalidCommand) (.ref E_Refused) = some false)
    (su_InvalidCommand_TurnError : PySem.W.subIn K (.ref E_InvalidCommand) (.ref E_TurnError) = some true)
    (su_InvalidDays_InvalidCommand : PySem.W.subIn K (.ref E_InvalidDays) (.ref E_InvalidCommand) = some false)
    (su_InvalidDays_InvalidDays : PySem.W.subIn K (.ref E_InvalidDays) (.ref E_InvalidDays) = some true)
    (su_InvalidDays_InvalidMisses : PySem.W.subIn K (.ref E_InvalidDays) (.ref E_InvalidMisses) = some false)
    (su_InvalidDays_InvalidRota : PySem.W.subIn K (.ref E_InvalidDays) (.ref E_InvalidRota) = some false)
    (su_InvalidDays_InvalidSeason : PySem.W.subIn K (.ref E_InvalidDays) (.ref E_InvalidSeason) = some false)
    (su_InvalidDays_InvalidText : PySem.W.subIn K (.ref E_InvalidDays) (.ref E_InvalidText) = some false)
    (su_InvalidDays_NoFit : PySem.W.subIn K (.ref E_InvalidDays) (.ref E_NoFit) = some false)
    (su_InvalidDays_NoLot : PySem.W.subIn K (.ref E_InvalidDays) (.ref E_NoLot) = some false)
    (su_InvalidDays_NoTurning : PySem.W.subIn K (.ref E_InvalidDays) (.ref E_NoTurning) = some false)
    (su_InvalidDays_NoWheel : PySem.W.subIn K (.ref E_InvalidDays) (.ref E_NoWheel) = some false)
    (su_InvalidDays_Refused : PySem.W.subIn K (.ref E_InvalidDays) (.ref E_Refused) = some false)
    (su_InvalidDays_TurnError : PySem.W.subIn K (.ref E_InvalidDays) (.ref E_TurnError) = some true)
    (su_InvalidMisses_InvalidCommand : PySem.W.subIn K (.ref E_InvalidMisses) (.ref E_InvalidCommand) = some false)
    (su_InvalidMisses_InvalidDays : PySem.W.subIn K (.ref E_InvalidMisses) (.ref E_InvalidDays) = some false)
    (su_InvalidMisses_InvalidMisses : PySem.W.subIn K (.ref E_InvalidMisses) (.ref E_InvalidMisses) = some true)
    (su_InvalidMisses_InvalidRota : PySem.W.subIn K (.ref E_InvalidMisses) (.ref E_InvalidRota) = some false)
    (su_InvalidMisses_InvalidSeason : PySem.W.subIn K (.ref E_InvalidMisses) (.ref E_InvalidSeason) = some false)
    (su_InvalidMisses_InvalidText : PySem.W.subIn K (.ref E_InvalidMisses) (.ref E_InvalidText) = some false)
    (su_InvalidMisses_NoFit : PySem.W.subIn K (.ref E_InvalidMisses) (.ref E_NoFit) = some false)
    (su_InvalidMisses_NoLot : PySem.W.subIn K (.ref E_InvalidMisses) (.ref E_NoLot) = some false)
    (su_InvalidMisses_NoTurning : PySem.W.subIn K (.ref E_InvalidMisses) (.ref E_NoTurning) = some false)
    (su_InvalidMisses_NoWheel : PySem.W.subIn K (.ref E_InvalidMisses) (.ref E_NoWheel) = some false)
    (su_InvalidMisses_Refused : PySem.W.subIn K (.ref E_InvalidMisses) (.ref E_Refused) = some false)
    (su_InvalidMisses_TurnError : PySem.W.subIn K (.ref E_InvalidMisses) (.ref E_TurnError) = some true)
    (su_InvalidRota_InvalidCommand : PySem.W.subIn K (.ref E_InvalidRota) (.ref E_InvalidCommand) = some false)
    (su_InvalidRota_InvalidDays : PySem.W.subIn K (.ref E_InvalidRota) (.ref E_InvalidDays) = some false)
    (su_InvalidRota_InvalidMisses : PySem.W.subIn K (.ref E_InvalidRota) (.ref E_InvalidMisses) = some false)
    (su_InvalidRota_InvalidRota : PySem.W.subIn K (.ref E_InvalidRota) (.ref E_InvalidRota) = some true)
    (su_InvalidRota_InvalidSeason : PySem.W.subIn K (.ref E_InvalidRota) (.ref E_InvalidSeason) = some false)
    (su_InvalidRota_InvalidText : PySem.W.subIn K (.ref E_InvalidRota) (.ref E_InvalidText) = some false)
    (su_InvalidRota_NoFit : PySem.W.subIn K (.ref E_InvalidRota) (.ref E_NoFit) = some false)
    (su_InvalidRota_NoLot : PySem.W.subIn K (.ref E_InvalidRota) (.ref E_NoLot) = some false)
    (su_InvalidRota_NoTurning : PySem.W.subIn K (.ref E_InvalidRota) (.ref E_NoTurning) = some false)
    (su_InvalidRota_NoWheel : PySem.W.subIn K (.ref E_InvalidRota) (.ref E_NoWheel) = some false)
    (su_InvalidRota_Refused : PySem.W.subIn K (.ref E_InvalidRota) (.ref E_Refused) = some false)
    (su_InvalidRota_TurnError : PySem.W.subIn K (.ref E_InvalidRota) (.ref E_TurnError) = some true)
    (su_InvalidSeason_InvalidCommand : PySem.W.subIn K (.ref E_InvalidSeason) (.ref E_InvalidCommand) = some false)
    (su_InvalidSeason_InvalidDays : PySem.W.subIn K (.ref E_InvalidSeason) (.ref E_InvalidDays) = some false)
    (su_InvalidSeason_InvalidMisses : PySem.W.subIn K (.ref E_InvalidSeason) (.ref E_InvalidMisses) = some false)
    (su_InvalidSeason_InvalidRota : PySem.W.subIn K (.ref E_InvalidSeason) (.ref E_InvalidRota) = some false)
    (su_InvalidSeason_InvalidSeason : PySem.W.subIn K (.ref E_InvalidSeason) (.ref E_InvalidSeason) = some true)
    (su_InvalidSeason_InvalidText : PySem.W.subIn K (.ref E_InvalidSeason) (.ref E_InvalidText) = some false)
    (su_InvalidSeason_NoFit : PySem.W.subIn K (.ref E_InvalidSeason) (.ref E_NoFit) = some false)
    (su_InvalidSeason_NoLot : PySem.W.subIn K (.ref E_InvalidSeason) (.ref E_NoLot) = some false)
    (su_InvalidSeason_NoTurning : PySem.W.subIn K (.ref E_InvalidSeason) (.ref E_NoTurning) = some false)
    (su_InvalidSeason_NoWheel : PySem.W.subIn K (.ref E_InvalidSeason) (.ref E_NoWheel) = some false)
    (su_InvalidSeason_Refused : PySem.W.subIn K (.ref E_InvalidSeason) (.ref E_Refused) = some false)
    (su_InvalidSeason_TurnError : PySem.W.subIn K (.ref E_InvalidSeason) (.ref E_TurnError) = some true)
    (su_InvalidText_InvalidCommand : PySem.W.subIn K (.ref E_InvalidText) (.ref E_InvalidCommand) = some false)
    (su_InvalidText_InvalidDays : PySem.W.subIn K (.ref E_InvalidText) (.ref E_InvalidDays) = some false)
    (su_InvalidText_InvalidMisses : PySem.W.subIn K (.ref E_InvalidText) (.ref E_InvalidMisses) = some false)
    (su_InvalidText_InvalidRota : PySem.W.subIn K (.ref E_InvalidText) (.ref E_InvalidRota) = some false)
    (su_InvalidText_InvalidSeason : PySem.W.subIn K (.ref E_InvalidText) (.ref E_InvalidSeason) = some false)
    (su_InvalidText_InvalidText : PySem.W.subIn K (.ref E_InvalidText) (.ref E_InvalidText) = some true)
    (su_InvalidText_NoFit : PySem.W.subIn K (.ref E_InvalidText) (.ref E_NoFit) = some false)
    (su_InvalidText_NoLot : PySem.W.subIn K (.ref E_InvalidText) (.ref E_NoLot) = some false)
    (su_InvalidText_NoTurning : PySem.W.subIn K (.ref E_InvalidText) (.ref E_NoTurning) = some false)
    (su_InvalidText_NoWheel : PySem.W.subIn K (.ref E_InvalidText) (.ref E_NoWheel) = some false)
    (su_InvalidText_Refused : PySem.W.subIn K (.ref E_InvalidText) (.ref E_Refused) = some false)
    (su_InvalidText_TurnError : PySem.W.subIn K (.ref E_InvalidText) (.ref E_TurnError) = some true)
    (su_NoFit_InvalidCommand : PySem.W.subIn K (.ref E_NoFit) (.ref E_InvalidCommand) = some false)
    (su_NoFit_InvalidDays : PySem.W.subIn K (.ref E_NoFit) (.ref E_InvalidDays) = some false)
    (su_NoFit_InvalidMisses : PySem.W.subIn K (.ref E_NoFit) (.ref E_InvalidMisses) = some false)
    (su_NoFit_InvalidRota : PySem.W.subIn K (.ref E_NoFit) (.ref E_InvalidRota) = some false)
    (su_NoFit_InvalidSeason : PySem.W.subIn K (.ref E_NoFit) (.ref E_InvalidSeason) = some false)
    (su_NoFit_InvalidText : PySem.W.subIn K (.ref E_NoFit) (.ref E_InvalidText) = some false)
    (su_NoFit_NoFit : PySem.W.subIn K (.ref E_NoFit) (.ref E_NoFit) = some true)
    (su_NoFit_NoLot : PySem.W.subIn K (.ref E_NoFit) (.ref E_NoLot) = some false)
    (su_NoFit_NoTurning : PySem.W.subIn K (.ref E_NoFit) (.ref E_NoTurning) = some false)
    (su_NoFit_NoWheel : PySem.W.subIn K (.ref E_NoFit) (.ref E_NoWheel) = some false)
    (su_NoFit_Refused : PySem.W.subIn K (.ref E_NoFit) (.ref E_Refused) = some false)
    (su_NoFit_TurnError : PySem.W.subIn K (.ref E_NoFit) (.ref E_TurnError) = some true)
    (su_NoLot_InvalidCommand : PySem.W.subIn K (.ref E_NoLot) (.ref E_InvalidCommand) = some false)
    (su_NoLot_InvalidDays : PySem.W.subIn K (.ref E_NoLot) (.ref E_InvalidDays) = some false)
    (su_NoLot_InvalidMisses : PySem.W.subIn K (.ref E_NoLot) (.ref E_InvalidMisses) = some false)
    (su_NoLot_InvalidRota : PySem.W.subIn K (.ref E_NoLot) (.ref E_InvalidRota) = some false)
    (su_NoLot_InvalidSeason : PySem.W.subIn K (.ref E_NoLot) (.ref E_InvalidSeason) = some false)
    (su_NoLot_InvalidText : PySem.W.subIn K (.ref E_NoLot) (.ref E_InvalidText) = some false)
    (su_NoLot_NoFit : PySem.W.subIn K (.ref E_NoLot) (.ref E_NoFit) = some false)
    (su_NoLot_NoLot : PySem.W.subIn K (.ref E_NoLot) (.ref E_NoLot) = some true)
    (su_NoLot_NoTurning : PySem.W.subIn K (.ref E_NoLot) (.ref E_NoTurning) = some false)
    (su_NoLot_NoWheel : PySem.W.subIn K (.ref E_NoLot) (.ref E_NoWheel) = some false)
    (su_NoLot_Refused : PySem.W.subIn K (.ref E_NoLot) (.ref E_Refused) = some false)
    (su_NoLot_TurnError : PySem.W.subIn K (.ref E_NoLot) (.ref E_TurnError) = some true)
    (su_NoTurning_InvalidCommand : PySem.W.subIn K (.ref E_NoTurning) (.ref E_InvalidCommand) = some false)
    (su_NoTurning_InvalidDays : PySem.W.subIn K (.ref E_NoTurning) (.ref E_InvalidDays) = some false)
    (su_NoTurning_InvalidMisses : PySem.W.subIn K (.ref E_NoTurning) (.ref E_InvalidMisses) = some false)
    (su_NoTurning_InvalidRota : PySem.W.subIn K (.ref E_NoTurning) (.ref E_InvalidRota) = some false)
    (su_NoTurning_InvalidSeason : PySem.W.subIn K (.ref E_NoTurning) (.ref E_InvalidSeason) = some false)
    (su_NoTurning_InvalidText : PySem.W.subIn K (.ref E_NoTurning) (.ref E_InvalidText) = some false)
    (su_NoTurning_NoFit : PySem.W.subIn K (.ref E_NoTurning) (.ref E_NoFit) = some false)
    (su_NoTurning_NoLot : PySem.W.subIn K (.ref E_NoTurning) (.ref E_NoLot) = some false)
    (su_NoTurning_NoTurning : PySem.W.subIn K (.ref E_NoTurning) (.ref E_NoTurning) = some true)
    (su_NoTurning_NoWheel : PySem.W.subIn K (.ref E_NoTurning) (.ref E_NoWheel) = some false)
    (su_NoTurning_Refused : PySem.W.subIn K (.ref E_NoTurning) (.ref E_Refused) = some false)
    (su_NoTurning_TurnError : PySem.W.subIn K (.ref E_NoTurning) (.ref E_TurnError) = some true)
    (su_NoWheel_InvalidCommand : PySem.W.subIn K (.ref E_NoWheel) (.ref E_InvalidCommand) = some false)
    (su_NoWheel_InvalidDays : PySem.W.subIn K (.ref E_NoWheel) (.ref E_InvalidDays) = some false)
    (su_NoWheel_InvalidMisses : PySem.W.subIn K (.ref E_NoWheel) (.ref E_InvalidMisses) = some false)
    (su_NoWheel_InvalidRota : PySem.W.subIn K (.ref E_NoWheel) (.ref E_InvalidRota) = some false)
    (su_NoWheel_InvalidSeason : PySem.W.subIn K (.ref E_NoWheel) (.ref E_InvalidSeason) = some false)
    (su_NoWheel_InvalidText : PySem.W.subIn K (.ref E_NoWheel) (.ref E_InvalidText) = some false)
    (su_NoWheel_NoFit : PySem.W.subIn K (.ref E_NoWheel) (.ref E_NoFit) = some false)
    (su_NoWheel_NoLot : PySem.W.subIn K (.ref E_NoWheel) (.ref E_NoLot) = some false)
    (su_NoWheel_NoTurning : PySem.W.subIn K (.ref E_NoWheel) (.ref E_NoTurning) = some false)
    (su_NoWheel_NoWheel : PySem.W.subIn K (.ref E_NoWheel) (.ref E_NoWheel) = some true)
    (su_NoWheel_Refused : PySem.W.subIn K (.ref E_NoWheel) (.ref E_Refused) = some false)
    (su_NoWheel_TurnError : PySem.W.subIn K (.ref E_NoWheel) (.ref E_TurnError) = some true)
    (su_Refused_InvalidCommand : PySem.W.subIn K (.ref E_Refused) (.ref E_InvalidCommand) = some false)
    (su_Refused_InvalidDays : PySem.W.subIn K (.ref E_Refused) (.ref E_InvalidDays) = some false)
    (su_Refused_InvalidMisses : PySem.W.subIn K (.ref E_Refused) (.ref E_InvalidMisses) = some false)
    (su_Refused_InvalidRota : PySem.W.subIn K (.ref E_Refused) (.ref E_InvalidRota) = some false)
    (su_Refused_InvalidSeason : PySem.W.subIn K (.ref E_Refused) (.ref E_InvalidSeason) = some false)
    (su_Refused_InvalidText : PySem.W.subIn K (.ref E_Refused) (.ref E_InvalidText) = some false)
    (su_Refused_NoFit : PySem.W.subIn K (.ref E_Refused) (.ref E_NoFit) = some false)
    (su_Refused_NoLot : PySem.W.subIn K (.ref E_Refused) (.ref E_NoLot) = some false)
    (su_Refused_NoTurning : PySem.W.subIn K (.ref E_Refused) (.ref E_NoTurning) = some false)
    (su_Refused_NoWheel : PySem.W.subIn K (.ref E_Refused) (.ref E_NoWheel) = some false)
    (su_Refused_Refused : PySem.W.subIn K (.ref E_Refused) (.ref E_Refused) = some true)
    (su_Refused_TurnError : PySem.W.subIn K (.ref E_Refused) (.ref E_TurnError) = some true)
    (aR_TurnError : PySem.W.nsIn K mainGlobals "TurnError" = some (some (.ref R_TurnError)))
    (rdR_TurnError : PySem.W.readsIn K R_TurnError (.type "type") = true)
    (gaR_TurnError : PySem.W.specialIn K (.ref R_TurnError) "__getattribute__" = some (some (.builtin "type.__getattribute__")))
    (inR_TurnError : PySem.W.findCls K (.ref R_TurnError) (.type "type") "__init__" = some (.val (.builtin "ValueError.__init__")))
    (xa_InvalidRota : PySem.W.findIn K (.ref E_InvalidRota) "__init__" = some (some (.ref eInvalidRota)))
    (xi_InvalidRota : PySem.W.typeIn K (.ref eInvalidRota) = some (.type "function"))
    (xl_InvalidRota : K.lookup eInvalidRota = some ⟨eocInvalidRota, eodInvalidRota, .func (PySem.W.fnOf "__init__" "InvalidRota.__init__" (defArgs s_InvalidRota_init) (defBody s_InvalidRota_init) (defScope s_InvalidRota_init) .none ekVInvalidRota edcInvalidRota epmInvalidRota eanInvalidRota ecdInvalidRota ectInvalidRota), eslInvalidRota⟩)
    (xc_InvalidRota : PySem.W.codeIn K ecdInvalidRota "InvalidRota.__init__" = true)
    (xk_InvalidRota : PySem.W.keepIn K (.ref eInvalidRota) = true)
    (xo_InvalidRota : K.lookup E_InvalidRota = some (excClassObj xnmInvalidRota xqInvalidRota E_InvalidRota xNInvalidRota xbsInvalidRota xbmInvalidRota true xsnInvalidRota xsubInvalidRota xabInvalidRota xcolInvalidRota xddInvalidRota xk0InvalidRota xk1InvalidRota xk2InvalidRota xk3InvalidRota xk5InvalidRota "ValueError.__new__"))
    (xv_InvalidRota : PySem.HandSPX.refsVE xbmInvalidRota = true)
    (xs_InvalidRota : PySem.W.findIn K (.ref E_InvalidRota) "__setattr__" = some (some (.builtin "object.__setattr__")))
    (xb_InvalidRota : PySem.W.subIn K (.ref E_InvalidRota) (.type "BaseException") = some true)
    (xp_InvalidRota : PySem.W.keepIn K (.ref E_InvalidRota) = true)
    (xg_InvalidRota : PySem.W.findIn K (.ref E_InvalidRota) "__getattribute__" = some (some (.builtin "BaseException.__getattribute__")))
    (xh_InvalidRota : PySem.W.findIn K (.ref E_InvalidRota) "__getattr__" = some none)
    (xd_InvalidRota : PySem.W.findIn K (.ref E_InvalidRota) "__class__" = some (some (.builtin "object.__class__")))
    (xe_InvalidRota : PySem.W.specialIn K (.builtin "object.__class__") "__get__" = some (some (.builtin "getset_descriptor.__get__")))
    (xt_InvalidRota : PySem.W.takesIn K (.builtin "object.__class__") = some true)
    (xm_InvalidRota : PySem.W.mroIn K E_InvalidRota (.type "object") = some true)
    (xn_InvalidRota : PySem.W.findIn K (.ref E_InvalidRota) "word" = some none)
    (ve_InvalidRota : PySem.W.subIn K (.ref E_InvalidRota) (.type "ValueError") = some true)
    (xa_InvalidText : PySem.W.findIn K (.ref E_InvalidText) "__init__" = some (some (.ref eInvalidText)))
    (xi_InvalidText : PySem.W.typeIn K (.ref eInvalidText) = some (.type "function"))
    (xl_InvalidText : K.lookup eInvalidText = some ⟨eocInvalidText, eodInvalidText, .func (PySem.W.fnOf "__init__" "InvalidText.__init__" (defArgs s_InvalidText_init) (defBody s_InvalidText_init) (defScope s_InvalidText_init) .none ekVInvalidText edcInvalidText epmInvalidText eanInvalidText ecdInvalidText ectInvalidText), eslInvalidText⟩)
    (xc_InvalidText : PySem.W.codeIn K ecdInvalidText "InvalidText.__init__" = true)
    (xk_InvalidText : PySem.W.keepIn K (.ref eInvalidText) = true)
    (xo_InvalidText : K.lookup E_InvalidText = some (excClassObj xnmInvalidText xqInvalidText E_InvalidText xNInvalidText xbsInvalidText xbmInvalidText true xsnInvalidText xsubInvalidText xabInvalidText xcolInvalidText xddInvalidText xk0InvalidText xk1InvalidText xk2InvalidText xk3InvalidText xk5InvalidText "ValueError.__new__"))
    (xv_InvalidText : PySem.HandSPX.refsVE xbmInvalidText = true)
    (xs_InvalidText : PySem.W.findIn K (.ref E_InvalidText) "__setattr__" = some (some (.builtin "object.__setattr__")))
    (xb_InvalidText : PySem.W.subIn K (.ref E_InvalidText) (.type "BaseException") = some true)
    (xp_InvalidText : PySem.W.keepIn K (.ref E_InvalidText) = true)
    (xg_InvalidText : PySem.W.findIn K (.ref E_InvalidText) "__getattribute__" = some (some (.builtin "BaseException.__getattribute__")))
    (xh_InvalidText : PySem.W.findIn K (.ref E_InvalidText) "__getattr__" = some none)
    (xd_InvalidText : PySem.W.findIn K (.ref E_InvalidText) "__class__" = some (some (.builtin "object.__class__")))
    (xe_InvalidText : PySem.W.specialIn K (.builtin "object.__class__") "__get__" = some (some (.builtin "getset_descriptor.__get__")))
    (xt_InvalidText : PySem.W.takesIn K (.builtin "object.__class__") = some true)
    (xm_InvalidText : PySem.W.mroIn K E_InvalidText (.type "object") = some true)
    (xn_InvalidText : PySem.W.findIn K (.ref E_InvalidText) "at" = some none)
    (ve_InvalidText : PySem.W.subIn K (.ref E_InvalidText) (.type "ValueError") = some true)
    (xa_InvalidSeason : PySem.W.findIn K (.ref E_InvalidSeason) "__init__" = some (some (.ref eInvalidSeason)))
    (xi_InvalidSeason : PySem.W.typeIn K (.ref eInvalidSeason) = some (.type "function"))
    (xl_InvalidSeason : K.lookup eInvalidSeason = some ⟨eocInvalidSeason, eodInvalidSeason, .func (PySem.W.fnOf "__init__" "InvalidSeason.__init__" (defArgs s_InvalidSeason_init) (defBody s_InvalidSeason_init) (defScope s_InvalidSeason_init) .none ekVInvalidSeason edcInvalidSeason epmInvalidSeason eanInvalidSeason ecdInvalidSeason ectInvalidSeason), eslInvalidSeason⟩)
    (xc_InvalidSeason : PySem.W.codeIn K ecdInvalidSeason "InvalidSeason.__init__" = true)
    (xk_InvalidSeason : PySem.W.keepIn K (.ref eInvalidSeason) = true)
    (xo_InvalidSeason : K.lookup E_InvalidSeason = some (excClassObj xnmInvalidSeason xqInvalidSeason E_InvalidSeason xNInvalidSeason xbsInvalidSeason xbmInvalidSeason true xsnInvalidSeason xsubInvalidSeason xabInvalidSeason xcolInvalidSeason xddInvalidSeason xk0InvalidSeason xk1InvalidSeason xk2InvalidSeason xk3InvalidSeason xk5InvalidSeason "ValueError.__new__"))
    (xv_InvalidSeason : PySem.HandSPX.refsVE xbmInvalidSeason = true)
    (xs_InvalidSeason : PySem.W.findIn K (.ref E_InvalidSeason) "__setattr__" = some (some (.builtin "object.__setattr__")))
    (xb_InvalidSeason : PySem.W.subIn K (.ref E_InvalidSeason) (.type "BaseException") = some true)
    (xp_InvalidSeason : PySem.W.keepIn K (.ref E_InvalidSeason) = true)
    (xg_InvalidSeason : PySem.W.findIn K (.ref E_InvalidSeason) "__getattribute__" = some (some (.builtin "BaseException.__getattribute__")))
    (xh_InvalidSeason : PySem.W.findIn K (.ref E_InvalidSeason) "__getattr__" = some none)
    (xd_InvalidSeason : PySem.W.findIn K (.ref E_InvalidSeason) "__class__" = some (some (.builtin "object.__class__")))
    (xe_InvalidSeason : PySem.W.specialIn K (.builtin "object.__class__") "__get__" = some (some (.builtin "getset_descriptor.__get__")))
    (xt_InvalidSeason : PySem.W.takesIn K (.builtin "object.__class__") = some true)
    (xm_InvalidSeason : PySem.W.mroIn K E_InvalidSeason (.type "object") = some true)
    (xn_InvalidSeason : PySem.W.findIn K (.ref E_InvalidSeason) "word" = some none)
    (ve_InvalidSeason : PySem.W.subIn K (.ref E_InvalidSeason) (.type "ValueError") = some true)
    (xa_InvalidMisses : PySem.W.findIn K (.ref E_InvalidMisses) "__init__" = some (some (.ref eInvalidMisses)))
    (xi_InvalidMisses : PySem.W.typeIn K (.ref eInvalidMisses) = some (.type "function"))
    (xl_InvalidMisses : K.lookup eInvalidMisses = some ⟨eocInvalidMisses, eodInvalidMisses, .func (PySem.W.fnOf "__init__" "InvalidMisses.__init__" (defArgs s_InvalidMisses_init) (defBody s_InvalidMisses_init) (defScope s_InvalidMisses_init) .none ekVInvalidMisses edcInvalidMisses epmInvalidMisses eanInvalidMisses ecdInvalidMisses ectInvalidMisses), eslInvalidMisses⟩)
    (xc_InvalidMisses : PySem.W.codeIn K ecdInvalidMisses "InvalidMisses.__init__" = true)
    (xk_InvalidMisses : PySem.W.keepIn K (.ref eInvalidMisses) = true)
    (xo_InvalidMisses : K.lookup E_InvalidMisses = some (excClassObj xnmInvalidMisses xqInvalidMisses E_InvalidMisses xNInvalidMisses xbsInvalidMisses xbmInvalidMisses true xsnInvalidMisses xsubInvalidMisses xabInvalidMisses xcolInvalidMisses xddInvalidMisses xk0InvalidMisses xk1InvalidMisses xk2InvalidMisses xk3InvalidMisses xk5InvalidMisses "ValueError.__new__"))
    (xv_InvalidMisses : PySem.HandSPX.refsVE xbmInvalidMisses = true)
    (xs_InvalidMisses : PySem.W.findIn K (.ref E_InvalidMisses) "__setattr__" = some (some (.builtin "object.__setattr__")))
    (xb_InvalidMisses : PySem.W.subIn K (.ref E_InvalidMisses) (.type "BaseException") = some true)
    (xp_InvalidMisses : PySem.W.keepIn K (.ref E_InvalidMisses) = true)
    (xg_InvalidMisses : PySem.W.findIn K (.ref E_InvalidMisses) "__getattribute__" = some (some (.builtin "BaseException.__getattribute__")))
    (xh_InvalidMisses : PySem.W.findIn K (.ref E_InvalidMisses) "__getattr__" = some none)
    (xd_InvalidMisses : PySem.W.findIn K (.ref E_InvalidMisses) "__class__" = some (some (.builtin "object.__class__")))
    (xe_InvalidMisses : PySem.W.specialIn K (.builtin "object.__class__") "__get__" = some (some (.builtin "getset_descriptor.__get__")))
    (xt_InvalidMisses : PySem.W.takesIn K (.builtin "object.__class__") = some true)
    (xm_InvalidMisses : PySem.W.mroIn K E_InvalidMisses (.type "object") = some true)
    (xn_InvalidMisses : PySem.W.findIn K (.ref E_InvalidMisses) "at" = some none)
    (ve_InvalidMisses : PySem.W.subIn K (.ref E_InvalidMisses) (.type "ValueError") = some true)
    (xa_InvalidDays : PySem.W.findIn K (.ref E_InvalidDays) "__init__" = some (some (.ref eInvalidDays)))
    (xi_InvalidDays : PySem.W.typeIn K (.ref eInvalidDays) = some (.type "function"))
    (xl_InvalidDays : K.lookup eInvalidDays = some ⟨eocInvalidDays, eodInvalidDays, .func (PySem.W.fnOf "__init__" "InvalidDays.__init__" (defArgs s_InvalidDays_init) (defBody s_InvalidDays_init) (defScope s_InvalidDays_init) .none ekVInvalidDays edcInvalidDays epmInvalidDays eanInvalidDays ecdInvalidDays ectInvalidDays), eslInvalidDays⟩)
    (xc_InvalidDays : PySem.W.codeIn K ecdInvalidDays "InvalidDays.__init__" = true)
    (xk_InvalidDays : PySem.W.keepIn K (.ref eInvalidDays) = true)
    (xo_InvalidDays : K.lookup E_InvalidDays = some (excClassObj xnmInvalidDays xqInvalidDays E_InvalidDays xNInvalidDays xbsInvalidDays xbmInvalidDays true xsnInvalidDays xsubInvalidDays xabInvalidDays xcolInvalidDays xddInvalidDays xk0InvalidDays xk1InvalidDays xk2InvalidDays xk3InvalidDays xk5InvalidDays "ValueError.__new__"))
    (xv_InvalidDays : PySem.HandSPX.refsVE xbmInvalidDays = true)
    (xs_InvalidDays : PySem.W.findIn K (.ref E_InvalidDays) "__setattr__" = some (some (.builtin "object.__setattr__")))
    (xb_InvalidDays : PySem.W.subIn K (.ref E_InvalidDays) (.type "BaseException") = some true)
    (xp_InvalidDays : PySem.W.keepIn K (.ref E_InvalidDays) = true)
    (xg_InvalidDays : PySem.W.findIn K (.ref E_InvalidDays) "__getattribute__" = some (some (.builtin "BaseException.__getattribute__")))
    (xh_InvalidDays : PySem.W.findIn K (.ref E_InvalidDays) "__getattr__" = some none)
    (xd_InvalidDays : PySem.W.findIn K (.ref E_InvalidDays) "__class__" = some (some (.builtin "object.__class__")))
    (xe_InvalidDays : PySem.W.specialIn K (.builtin "object.__class__") "__get__" = some (some (.builtin "getset_descriptor.__get__")))
    (xt_InvalidDays : PySem.W.takesIn K (.builtin "object.__class__") = some true)
    (xm_InvalidDays : PySem.W.mroIn K E_InvalidDays (.type "object") = some true)
    (xn_InvalidDays : PySem.W.findIn K (.ref E_InvalidDays) "at" = some none)
    (ve_InvalidDays : PySem.W.subIn K (.ref E_InvalidDays) (.type "ValueError") = some true)
    (xa_NoWheel : PySem.W.findIn K (.ref E_NoWheel) "__init__" = some (some (.ref eNoWheel)))
    (xi_NoWheel : PySem.W.typeIn K (.ref eNoWheel) = some (.type "function"))
    (xl_NoWheel : K.lookup eNoWheel = some ⟨eocNoWheel, eodNoWheel, .func (PySem.W.fnOf "__init__" "NoWheel.__init__" (defArgs s_NoWheel_init) (defBody s_NoWheel_init) (defScope s_NoWheel_init) .none ekVNoWheel edcNoWheel epmNoWheel eanNoWheel ecdNoWheel ectNoWheel), eslNoWheel⟩)
    (xc_NoWheel : PySem.W.codeIn K ecdNoWheel "NoWheel.__init__" = true)
    (xk_NoWheel : PySem.W.keepIn K (.ref eNoWheel) = true)
    (xo_NoWheel : K.lookup E_NoWheel = some (excClassObj xnmNoWheel xqNoWheel E_NoWheel xNNoWheel xbsNoWheel xbmNoWheel true xsnNoWheel xsubNoWheel xabNoWheel xcolNoWheel xddNoWheel xk0NoWheel xk1NoWheel xk2NoWheel xk3NoWheel xk5NoWheel "ValueError.__new__"))
    (xv_NoWheel : PySem.HandSPX.refsVE xbmNoWheel = true)
    (xs_NoWheel : PySem.W.findIn K (.ref E_NoWheel) "__setattr__" = some (some (.builtin "object.__setattr__")))
    (xb_NoWheel : PySem.W.subIn K (.ref E_NoWheel) (.type "BaseException") = some true)
    (xp_NoWheel : PySem.W.keepIn K (.ref E_NoWheel) = true)
    (xg_NoWheel : PySem.W.findIn K (.ref E_NoWheel) "__getattribute__" = some (some (.builtin "BaseException.__getattribute__")))
    (xh_NoWheel : PySem.W.findIn K (.ref E_NoWheel) "__getattr__" = some none)
    (xd_NoWheel : PySem.W.findIn K (.ref E_NoWheel) "__class__" = some (some (.builtin "object.__class__")))
    (xe_NoWheel : PySem.W.specialIn K (.builtin "object.__class__") "__get__" = some (some (.builtin "getset_descriptor.__get__")))
    (xt_NoWheel : PySem.W.takesIn K (.builtin "object.__class__") = some true)
    (xm_NoWheel : PySem.W.mroIn K E_NoWheel (.type "object") = some true)
    (xn_NoWheel : PySem.W.findIn K (.ref E_NoWheel) "value" = some none)
    (ve_NoWheel : PySem.W.subIn K (.ref E_NoWheel) (.type "ValueError") = some true)
    (xa_NoTurning : PySem.W.findIn K (.ref E_NoTurning) "__init__" = some (some (.ref eNoTurning)))
    (xi_NoTurning : PySem.W.typeIn K (.ref eNoTurning) = some (.type "function"))
    (xl_NoTurning : K.lookup eNoTurning = some ⟨eocNoTurning, eodNoTurning, .func (PySem.W.fnOf "__init__" "NoTurning.__init__" (defArgs s_NoTurning_init) (defBody s_NoTurning_init) (defScope s_NoTurning_init) .none ekVNoTurning edcNoTurning epmNoTurning eanNoTurning ecdNoTurning ectNoTurning), eslNoTurning⟩)
    (xc_NoTurning : PySem.W.codeIn K ecdNoTurning "NoTurning.__init__" = true)
    (xk_NoTurning : PySem.W.keepIn K (.ref eNoTurning) = true)
    (xo_NoTurning : K.lookup E_NoTurning = some (excClassObj xnmNoTurning xqNoTurning E_NoTurning xNNoTurning xbsNoTurning xbmNoTurning true xsnNoTurning xsubNoTurning xabNoTurning xcolNoTurning xddNoTurning xk0NoTurning xk1NoTurning xk2NoTurning xk3NoTurning xk5NoTurning "ValueError.__new__"))
    (xv_NoTurning : PySem.HandSPX.refsVE xbmNoTurning = true)
    (xs_NoTurning : PySem.W.findIn K (.ref E_NoTurning) "__setattr__" = some (some (.builtin "object.__setattr__")))
    (xb_NoTurning : PySem.W.subIn K (.ref E_NoTurning) (.type "BaseException") = some true)
    (xp_NoTurning : PySem.W.keepIn K (.ref E_NoTurning) = true)
    (xg_NoTurning : PySem.W.findIn K (.ref E_NoTurning) "__getattribute__" = some (some (.builtin "BaseException.__getattribute__")))
    (xh_NoTurning : PySem.W.findIn K (.ref E_NoTurning) "__getattr__" = some none)
    (xd_NoTurning : PySem.W.findIn K (.ref E_NoTurning) "__class__" = some (some (.builtin "object.__class__")))
    (xe_NoTurning : PySem.W.specialIn K (.builtin "object.__class__") "__get__" = some (some (.builtin "getset_descriptor.__get__")))
    (xt_NoTurning : PySem.W.takesIn K (.builtin "object.__class__") = some true)
    (xm_NoTurning : PySem.W.mroIn K E_NoTurning (.type "object") = some true)
    (xn_NoTurning : PySem.W.findIn K (.ref E_NoTurning) "day" = some none)
    (ve_NoTurning : PySem.W.subIn K (.ref E_NoTurning) (.type "ValueError") = some true)
    (xa_NoLot : PySem.W.findIn K (.ref E_NoLot) "__init__" = some (some (.ref eNoLot)))
    (xi_NoLot : PySem.W.typeIn K (.ref eNoLot) = some (.type "function"))
    (xl_NoLot : K.lookup eNoLot = some ⟨eocNoLot, eodNoLot, .func (PySem.W.fnOf "__init__" "NoLot.__init__" (defArgs s_NoLot_init) (defBody s_NoLot_init) (defScope s_NoLot_init) .none ekVNoLot edcNoLot epmNoLot eanNoLot ecdNoLot ectNoLot), eslNoLot⟩)
    (xc_NoLot : PySem.W.codeIn K ecdNoLot "NoLot.__init__" = true)
    (xk_NoLot : PySem.W.keepIn K (.ref eNoLot) = true)
    (xo_NoLot : K.lookup E_NoLot = some (excClassObj xnmNoLot xqNoLot E_NoLot xNNoLot xbsNoLot xbmNoLot true xsnNoLot xsubNoLot xabNoLot xcolNoLot xddNoLot xk0NoLot xk1NoLot xk2NoLot xk3NoLot xk5NoLot "ValueError.__new__"))
    (xv_NoLot : PySem.HandSPX.refsVE xbmNoLot = true)
    (xs_NoLot : PySem.W.findIn K (.ref E_NoLot) "__setattr__" = some (some (.builtin "object.__setattr__")))
    (xb_NoLot : PySem.W.subIn K (.ref E_NoLot) (.type "BaseException") = some true)
    (xp_NoLot : PySem.W.keepIn K (.ref E_NoLot) = true)
    (xg_NoLot : PySem.W.findIn K (.ref E_NoLot) "__getattribute__" = some (some (.builtin "BaseException.__getattribute__")))
    (xh_NoLot : PySem.W.findIn K (.ref E_NoLot) "__getattr__" = some none)
    (xd_NoLot : PySem.W.findIn K (.ref E_NoLot) "__class__" = some (some (.builtin "object.__class__")))
    (xe_NoLot : PySem.W.specialIn K (.builtin "object.__class__") "__get__" = some (some (.builtin "getset_descriptor.__get__")))
    (xt_NoLot : PySem.W.takesIn K (.builtin "object.__class__") = some true)
    (xm_NoLot : PySem.W.mroIn K E_NoLot (.type "object") = some true)
    (xn_NoLot : PySem.W.findIn K (.ref E_NoLot) "at" = some none)
    (ve_NoLot : PySem.W.subIn K (.ref E_NoLot) (.type "ValueError") = some true)
    (xa_Refused : PySem.W.findIn K (.ref E_Refused) "__init__" = some (some (.ref eRefused)))
    (xi_Refused : PySem.W.typeIn K (.ref eRefused) = some (.type "function"))
    (xl_Refused : K.lookup eRefused = some ⟨eocRefused, eodRefused, .func (PySem.W.fnOf "__init__" "Refused.__init__" (defArgs s_Refused_init) (defBody s_Refused_init) (defScope s_Refused_init) .none ekVRefused edcRefused epmRefused eanRefused ecdRefused ectRefused), eslRefused⟩)
    (xc_Refused : PySem.W.codeIn K ecdRefused "Refused.__init__" = true)
    (xk_Refused : PySem.W.keepIn K (.ref eRefused) = true)
    (xo_Refused : K.lookup E_Refused = some (excClassObj xnmRefused xqRefused E_Refused xNRefused xbsRefused xbmRefused true xsnRefused xsubRefused xabRefused xcolRefused xddRefused xk0Refused xk1Refused xk2Refused xk3Refused xk5Refused "ValueError.__new__"))
    (xv_Refused : PySem.HandSPX.refsVE xbmRefused = true)
    (xs_Refused : PySem.W.findIn K (.ref E_Refused) "__setattr__" = some (some (.builtin "object.__setattr__")))
    (xb_Refused : PySem.W.subIn K (.ref E_Refused) (.type "BaseException") = some true)
    (xp_Refused : PySem.W.keepIn K (.ref E_Refused) = true)
    (xg_Refused : PySem.W.findIn K (.ref E_Refused) "__getattribute__" = some (some (.builtin "BaseException.__getattribute__")))
    (xh_Refused : PySem.W.findIn K (.ref E_Refused) "__getattr__" = some none)
    (xd_Refused : PySem.W.findIn K (.ref E_Refused) "__class__" = some (some (.builtin "object.__class__")))
    (xe_Refused : PySem.W.specialIn K (.builtin "object.__class__") "__get__" = some (some (.builtin "getset_descriptor.__get__")))
    (xt_Refused : PySem.W.takesIn K (.builtin "object.__class__") = some true)
    (xm_Refused : PySem.W.mroIn K E_Refused (.type "object") = some true)
    (xn_Refused : PySem.W.findIn K (.ref E_Refused) "value" = some none)
    (ve_Refused : PySem.W.subIn K (.ref E_Refused) (.type "ValueError") = some true)
    (xa_NoFit : PySem.W.findIn K (.ref E_NoFit) "__init__" = some (some (.ref eNoFit)))
    (xi_NoFit : PySem.W.typeIn K (.ref eNoFit) = some (.type "function"))
    (xl_NoFit : K.lookup eNoFit = some ⟨eocNoFit, eodNoFit, .func (PySem.W.fnOf "__init__" "NoFit.__init__" (defArgs s_NoFit_init) (defBody s_NoFit_init) (defScope s_NoFit_init) .none ekVNoFit edcNoFit epmNoFit eanNoFit ecdNoFit ectNoFit), eslNoFit⟩)
    (xc_NoFit : PySem.W.codeIn K ecdNoFit "NoFit.__init__" = true)
    (xk_NoFit : PySem.W.keepIn K (.ref eNoFit) = true)
    (xo_NoFit : K.lookup E_NoFit = some (excClassObj xnmNoFit xqNoFit E_NoFit xNNoFit xbsNoFit xbmNoFit true xsnNoFit xsubNoFit xabNoFit xcolNoFit xddNoFit xk0NoFit xk1NoFit xk2NoFit xk3NoFit xk5NoFit "ValueError.__new__"))
    (xv_NoFit : PySem.HandSPX.refsVE xbmNoFit = true)
    (xs_NoFit : PySem.W.findIn K (.ref E_NoFit) "__setattr__" = some (some (.builtin "object.__setattr__")))
    (xb_NoFit : PySem.W.subIn K (.ref E_NoFit) (.type "BaseException") = some true)
    (xp_NoFit : PySem.W.keepIn K (.ref E_NoFit) = true)
    (xg_NoFit : PySem.W.findIn K (.ref E_NoFit) "__getattribute__" = some (some (.builtin "BaseException.__getattribute__")))
    (xh_NoFit : PySem.W.findIn K (.ref E_NoFit) "__getattr__" = some none)
    (xd_NoFit : PySem.W.findIn K (.ref E_NoFit) "__class__" = some (some (.builtin "object.__class__")))
    (xe_NoFit : PySem.W.specialIn K (.builtin "object.__class__") "__get__" = some (some (.builtin "getset_descriptor.__get__")))
    (xt_NoFit : PySem.W.takesIn K (.builtin "object.__class__") = some true)
    (xm_NoFit : PySem.W.mroIn K E_NoFit (.type "object") = some true)
    (ve_NoFit : PySem.W.subIn K (.ref E_NoFit) (.type "ValueError") = some true)
    (xa_InvalidCommand : PySem.W.findIn K (.ref E_InvalidCommand) "__init__" = some (some (.ref eInvalidCommand)))
    (xi_InvalidCommand : PySem.W.typeIn K (.ref eInvalidCommand) = some (.type "function"))
    (xl_InvalidCommand : K.lookup eInvalidCommand = some ⟨eocInvalidCommand, eodInvalidCommand, .func (PySem.W.fnOf "__init__" "InvalidCommand.__init__" (defArgs s_InvalidCommand_init) (defBody s_InvalidCommand_init) (defScope s_InvalidCommand_init) .none ekVInvalidCommand edcInvalidCommand epmInvalidCommand eanInvalidCommand ecdInvalidCommand ectInvalidCommand), eslInvalidCommand⟩)
    (xc_InvalidCommand : PySem.W.codeIn K ecdInvalidCommand "InvalidCommand.__init__" = true)
    (xk_InvalidCommand : PySem.W.keepIn K (.ref eInvalidCommand) = true)
    (xo_InvalidCommand : K.lookup E_InvalidCommand = some (excClassObj xnmInvalidCommand xqInvalidCommand E_InvalidCommand xNInvalidCommand xbsInvalidCommand xbmInvalidCommand true xsnInvalidCommand xsubInvalidCommand xabInvalidCommand xcolInvalidCommand xddInvalidCommand xk0InvalidCommand xk1InvalidCommand xk2InvalidCommand xk3InvalidCommand xk5InvalidCommand "ValueError.__new__"))
    (xv_InvalidCommand : PySem.HandSPX.refsVE xbmInvalidCommand = true)
    (xs_InvalidCommand : PySem.W.findIn K (.ref E_InvalidCommand) "__setattr__" = some (some (.builtin "object.__setattr__")))
    (xb_InvalidCommand : PySem.W.subIn K (.ref E_InvalidCommand) (.type "BaseException") = some true)
    (xp_InvalidCommand : PySem.W.keepIn K (.ref E_InvalidCommand) = true)
    (xg_InvalidCommand : PySem.W.findIn K (.ref E_InvalidCommand) "__getattribute__" = some (some (.builtin "BaseException.__getattribute__")))
    (xh_InvalidCommand : PySem.W.findIn K (.ref E_InvalidCommand) "__getattr__" = some none)
    (xd_InvalidCommand : PySem.W.findIn K (.ref E_InvalidCommand) "__class__" = some (some (.builtin "object.__class__")))
    (xe_InvalidCommand : PySem.W.specialIn K (.builtin "object.__class__") "__get__" = some (some (.builtin "getset_descriptor.__get__")))
    (xt_InvalidCommand : PySem.W.takesIn K (.builtin "object.__class__") = some true)
    (xm_InvalidCommand : PySem.W.mroIn K E_InvalidCommand (.type "object") = some true)
    (ve_InvalidCommand : PySem.W.subIn K (.ref E_InvalidCommand) (.type "ValueError") = some true)
    (a0 : PySem.W.nsIn K mainGlobals "_law_box" = some (some (.ref f0)))
    (l0 : K.lookup f0 = some ⟨oc0, od0, .func (PySem.W.fnOf "_law_box" "_law_box" (defArgs s_law_box) (defBody s_law_box) (defScope s_law_box) .none kV0 dc0 pm0 an0 cd0 ct0), sl0⟩)
    (c0 : PySem.W.codeIn K cd0 "_law_box" = true)
    (k0 : PySem.W.keepIn K (.ref f0) = true)
    (a1 : PySem.W.nsIn K mainGlobals "_law_take" = some (some (.ref f1)))
    (l1 : K.lookup f1 = some ⟨oc1, od1, .func (PySem.W.fnOf "_law_take" "_law_take" (defArgs s_law_take) (defBody s_law_take) (defScope s_law_take) .none kV1 dc1 pm1 an1 cd1 ct1), sl1⟩)
    (c1 : PySem.W.codeIn K cd1 "_law_take" = true)
    (k1 : PySem.W.keepIn K (.ref f1) = true)
    (a2 : PySem.W.nsIn K mainGlobals "_law_pick" = some (some (.ref f2)))
    (l2 : K.lookup f2 = some ⟨oc2, od2, .func (PySem.W.fnOf "_law_pick" "_law_pick" (defArgs s_law_pick) (defBody s_law_pick) (defScope s_law_pick) .none kV2 dc2 pm2 an2 cd2 ct2), sl2⟩)
    (c2 : PySem.W.codeIn K cd2 "_law_pick" = true)
    (k2 : PySem.W.keepIn K (.ref f2) = true)
    (a3 : PySem.W.nsIn K mainGlobals "_law_value" = some (some (.ref f3)))
    (l3 : K.lookup f3 = some ⟨oc3, od3, .func (PySem.W.fnOf "_law_value" "_law_value" (defArgs s_law_value) (defBody s_law_value) (defScope s_law_value) .none kV3 dc3 pm3 an3 cd3 ct3), sl3⟩)
    (c3 : PySem.W.codeIn K cd3 "_law_value" = true)
    (k3 : PySem.W.keepIn K (.ref f3) = true)
    (a4 : PySem.W.nsIn K mainGlobals "_law_sorts" = some (some (.ref f4)))
    (l4 : K.lookup f4 = some ⟨oc4, od4, .func (PySem.W.fnOf "_law_sorts" "_law_sorts" (defArgs s_law_sorts) (defBody s_law_sorts) (defScope s_law_sorts) .none kV4 dc4 pm4 an4 cd4 ct4), sl4⟩)
    (c4 : PySem.W.codeIn K cd4 "_law_sorts" = true)
    (k4 : PySem.W.keepIn K (.ref f4) = true)
    (a5 : PySem.W.nsIn K mainGlobals "_law_errors" = some (some (.ref f5)))
    (l5 : K.lookup f5 = some ⟨oc5, od5, .func (PySem.W.fnOf "_law_errors" "_law_errors" (defArgs s_law_errors) (defBody s_law_errors) (defScope s_law_errors) .none kV5 dc5 pm5 an5 cd5 ct5), sl5⟩)
    (c5 : PySem.W.codeIn K cd5 "_law_errors" = true)
    (k5 : PySem.W.keepIn K (.ref f5) = true)
    (a6 : PySem.W.nsIn K mainGlobals "_law_named" = some (some (.ref f6)))
    (l6 : K.lookup f6 = some ⟨oc6, od6, .func (PySem.W.fnOf "_law_named" "_law_named" (defArgs s_law_named) (defBody s_law_named) (defScope s_law_named) .none kV6 dc6 pm6 an6 cd6 ct6), sl6⟩)
    (c6 : PySem.W.codeIn K cd6 "_law_named" = true)
    (k6 : PySem.W.keepIn K (.ref f6) = true)
    (a7 : PySem.W.nsIn K mainGlobals "_law_held" = some (some (.ref f7)))
    (l7 : K.lookup f7 = some ⟨oc7, od7, .func (PySem.W.fnOf "_law_held" "_law_held" (defArgs s_law_held) (defBody s_law_held) (defScope s_law_held) .none kV7 dc7 pm7 an7 cd7 ct7), sl7⟩)
    (c7 : PySem.W.codeIn K cd7 "_law_held" = true)
    (k7 : PySem.W.keepIn K (.ref f7) = true)
    (a8 : PySem.W.nsIn K mainGlobals "law" = some (some (.ref f8)))
    (l8 : K.lookup f8 = some ⟨oc8, od8, .func (PySem.W.fnOf "law" "law" (defArgs s_law) (defBody s_law) (defScope s_law) .none kV8 dc8 pm8 an8 cd8 ct8), sl8⟩)
    (c8 : PySem.W.codeIn K cd8 "law" = true)
    (k8 : PySem.W.keepIn K (.ref f8) = true)
    (z0 : PySem.W.nsIn K mainGlobals "ValueError" = some none)
    (z1 : PySem.W.nsIn K mainGlobals "abs" = some none)
    (z2 : PySem.W.nsIn K mainGlobals "enumerate" = some none)
    (z3 : PySem.W.nsIn K mainGlobals "int" = some none)
    (z4 : PySem.W.nsIn K mainGlobals "isinstance" = some none)
    (z5 : PySem.W.nsIn K mainGlobals "len" = some none)
    (z6 : PySem.W.nsIn K mainGlobals "max" = some none)
    (z7 : PySem.W.nsIn K mainGlobals "min" = some none)
    (z8 : PySem.W.nsIn K mainGlobals "range" = some none)
    (z9 : PySem.W.nsIn K mainGlobals "repr" = some none)
    : ∃ fd : FuncData, (∀ (s : Shared) (v : Value), BindsTo s fd ⟨[v], []⟩ [("_law_script", v)]) ∧ ∀ base : Heap, K.In base → base.Ns mainGlobals mg → FnG P w K mg base (L2.CX P w) 4 fa fd ["_law_script"] (spL K) := by
  have e := hfa.symm.trans (PySem.W.mg_of X G a8)
  cases e
  have F0 := fun_mk (st := s_law_box) l0 c0 k0
  have b0 := F0.binds (ps := ["_law_script", "_law_k", "_law_own"]) fun _ _ _ _ _ _ us hl => match us, hl with | [_, _, _], _ => rfl
  have F1 := fun_mk (st := s_law_take) l1 c1 k1
  have b1 := F1.binds (ps := ["_law_box_here", "_law_bound"]) fun _ _ _ _ _ _ us hl => match us, hl with | [_, _], _ => rfl
  have F2 := fun_mk (st := s_law_pick) l2 c2 k2
  have b2 := F2.binds (ps := ["_law_box_here", "_law_items"]) fun _ _ _ _ _ _ us hl => match us, hl with | [_, _], _ => rfl
  have F3 := fun_mk (st := s_law_value) l3 c3 k3
  have b3 := F3.binds (ps := ["_law_box_here"]) fun _ _ _ _ _ _ us hl => match us, hl with | [_], _ => rfl
  have F4 := fun_mk (st := s_law_sorts) l4 c4 k4
  have b4 := F4.binds (ps := ["_law_one"]) fun _ _ _ _ _ _ us hl => match us, hl with | [_], _ => rfl
  have F5 := fun_mk (st := s_law_errors) l5 c5 k5
  have b5 := F5.binds (ps := ["_law_some"]) fun _ _ _ _ _ _ us hl => match us, hl with | [_], _ => rfl
  have F6 := fun_mk (st := s_law_named) l6 c6 k6
  have b6 := F6.binds (ps := ["_law_some"]) fun _ _ _ _ _ _ us hl => match us, hl with | [_], _ => rfl
  have F7 := fun_mk (st := s_law_held) l7 c7 k7
  have b7 := F7.binds (ps := ["_law_made"]) fun _ _ _ _ _ _ us hl => match us, hl with | [_], _ => rfl
  have F8 := fun_mk (st := s_law) l8 c8 k8
  have b8 := F8.binds (ps := ["_law_script"]) fun _ _ _ _ _ _ us hl => match us, hl with | [_], _ => rfl
  have FE_InvalidRota := fun_mk (st := s_InvalidRota_init) xl_InvalidRota xc_InvalidRota xk_InvalidRota
  have bE_InvalidRota := FE_InvalidRota.binds (ps := ["self", "word"]) fun _ _ _ _ _ _ us hl => match us, hl with | [_, _], _ => rfl
  have FE_InvalidText := fun_mk (st := s_InvalidText_init) xl_InvalidText xc_InvalidText xk_InvalidText
  have bE_InvalidText := FE_InvalidText.binds (ps := ["self", "at"]) fun _ _ _ _ _ _ us hl => match us, hl with | [_, _], _ => rfl
  have FE_InvalidSeason := fun_mk (st := s_InvalidSeason_init) xl_InvalidSeason xc_InvalidSeason xk_InvalidSeason
  have bE_InvalidSeason := FE_InvalidSeason.binds (ps := ["self", "word"]) fun _ _ _ _ _ _ us hl => match us, hl with | [_, _], _ => rfl
  have FE_InvalidMisses := fun_mk (st := s_InvalidMisses_init) xl_InvalidMisses xc_InvalidMisses xk_InvalidMisses
  have bE_InvalidMisses := FE_InvalidMisses.binds (ps := ["self", "at"]) fun _ _ _ _ _ _ us hl => match us, hl with | [_, _], _ => rfl
  have FE_InvalidDays := fun_mk (st := s_InvalidDays_init) xl_InvalidDays xc_InvalidDays xk_InvalidDays
  have bE_InvalidDays := FE_InvalidDays.binds (ps := ["self", "at"]) fun _ _ _ _ _ _ us hl => match us, hl with | [_, _], _ => rfl
  have FE_NoWheel := fun_mk (st := s_NoWheel_init) xl_NoWheel xc_NoWheel xk_NoWheel
  have bE_NoWheel := FE_NoWheel.binds (ps := ["self", "value"]) fun _ _ _ _ _ _ us hl => match us, hl with | [_, _], _ => rfl
  have FE_NoTurning := fun_mk (st := s_NoTurning_init) xl_NoTurning xc_NoTurning xk_NoTurning
  have bE_NoTurning := FE_NoTurning.binds (ps := ["self", "day"]) fun _ _ _ _ _ _ us hl => match us, hl with | [_, _], _ => rfl
  have FE_NoLot := fun_mk (st := s_NoLot_init) xl_NoLot xc_NoLot xk_NoLot
  have bE_NoLot := FE_NoLot.binds (ps := ["self", "at"]) fun _ _ _ _ _ _ us hl => match us, hl with | [_, _], _ => rfl
  have FE_Refused := fun_mk (st := s_Refused_init) xl_Refused xc_Refused xk_Refused
  have bE_Refused := FE_Refused.binds (ps := ["self", "value"]) fun _ _ _ _ _ _ us hl => match us, hl with | [_, _], _ => rfl
  have FE_NoFit := fun_mk (st := s_NoFit_init) xl_NoFit xc_NoFit xk_NoFit
  have bE_NoFit := FE_NoFit.binds (ps := ["self"]) fun _ _ _ _ _ _ us hl => match us, hl with | [_], _ => rfl
  have FE_InvalidCommand := fun_mk (st := s_InvalidCommand_init) xl_InvalidCommand xc_InvalidCommand xk_InvalidCommand
  have bE_InvalidCommand := FE_InvalidCommand.binds (ps := ["self"]) fun _ _ _ _ _ _ us hl => match us, hl with | [_], _ => rfl
  let D : Dfs K mg := { f_law_box := f0, fd_law_box := _, F_law_box := F0, b_law_box := b0, g_law_box := PySem.W.mg_of X G a0, f_law_take := f1, fd_law_take := _, F_law_take := F1, b_law_take := b1, g_law_take := PySem.W.mg_of X G a1, f_law_pick := f2, fd_law_pick := _, F_law_pick := F2, b_law_pick := b2, g_law_pick := PySem.W.mg_of X G a2, f_law_value := f3, fd_law_value := _, F_law_value := F3, b_law_value := b3, g_law_value := PySem.W.mg_of X G a3, f_law_sorts := f4, fd_law_sorts := _, F_law_sorts := F4, b_law_sorts := b4, g_law_sorts := PySem.W.mg_of X G a4, f_law_errors := f5, fd_law_errors := _, F_law_errors := F5, b_law_errors := b5, g_law_errors := PySem.W.mg_of X G a5, f_law_named := f6, fd_law_named := _, F_law_named := F6, b_law_named := b6, g_law_named := PySem.W.mg_of X G a6, f_law_held := f7, fd_law_held := _, F_law_held := F7, b_law_held := b7, g_law_held := PySem.W.mg_of X G a7, f_law := fa, fd_law := _, F_law := F8, b_law := b8, g_law := PySem.W.mg_of X G a8, E_TurnError := E_TurnError, kl_TurnError := ⟨PySem.W.mg_of X G aE_TurnError, hdE_TurnError, tyE_TurnError, sfE_TurnError⟩, E_InvalidRota := E_InvalidRota, kl_InvalidRota := ⟨PySem.W.mg_of X G aE_InvalidRota, hdE_InvalidRota, tyE_InvalidRota, sfE_InvalidRota⟩, E_InvalidText := E_InvalidText, kl_InvalidText := ⟨PySem.W.mg_of X G aE_InvalidText, hdE_InvalidText, tyE_InvalidText, sfE_InvalidText⟩, E_InvalidSeason := E_InvalidSeason, kl_InvalidSeason := ⟨PySem.W.mg_of X G aE_InvalidSeason, hdE_InvalidSeason, tyE_InvalidSeason, sfE_InvalidSeason⟩, E_InvalidMisses := E_InvalidMisses, kl_InvalidMisses := ⟨PySem.W.mg_of X G aE_InvalidMisses, hdE_InvalidMisses, tyE_InvalidMisses, sfE_InvalidMisses⟩, E_InvalidDays := E_InvalidDays, kl_InvalidDays := ⟨PySem.W.mg_of X G aE_InvalidDays, hdE_InvalidDays, tyE_InvalidDays, sfE_InvalidDays⟩, E_InvalidCommand := E_InvalidCommand, kl_InvalidCommand := ⟨PySem.W.mg_of X G aE_InvalidCommand, hdE_InvalidCommand, tyE_InvalidCommand, sfE_InvalidCommand⟩, E_NoWheel := E_NoWheel, kl_NoWheel := ⟨PySem.W.mg_of X G aE_NoWheel, hdE_NoWheel, tyE_NoWheel, sfE_NoWheel⟩, E_NoTurning := E_NoTurning, kl_NoTurning := ⟨PySem.W.mg_of X G aE_NoTurning, hdE_NoTurning, tyE_NoTurning, sfE_NoTurning⟩, E_NoFit := E_NoFit, kl_NoFit := ⟨PySem.W.mg_of X G aE_NoFit, hdE_NoFit, tyE_NoFit, sfE_NoFit⟩, E_NoLot := E_NoLot, kl_NoLot := ⟨PySem.W.mg_of X G aE_NoLot, hdE_NoLot, tyE_NoLot, sfE_NoLot⟩, E_Refused := E_Refused, kl_Refused := ⟨PySem.W.mg_of X G aE_Refused, hdE_Refused, tyE_Refused, sfE_Refused⟩, su_InvalidCommand_InvalidCommand := su_InvalidCommand_InvalidCommand, su_InvalidCommand_InvalidDays := su_InvalidCommand_InvalidDays, su_InvalidCommand_InvalidMisses := su_InvalidCommand_InvalidMisses, su_InvalidCommand_InvalidRota := su_InvalidCommand_InvalidRota, su_InvalidCommand_InvalidSeason := su_InvalidCommand_InvalidSeason, su_InvalidCommand_InvalidText := su_InvalidCommand_InvalidText, su_InvalidCommand_NoFit := su_InvalidCommand_NoFit, su_InvalidCommand_NoLot := su_InvalidCommand_NoLot, su_InvalidCommand_NoTurning := su_InvalidCommand_NoTurning, su_InvalidCommand_NoWheel := su_InvalidCommand_NoWheel, su_InvalidCommand_Refused := su_InvalidCommand_Refused, su_InvalidCommand_TurnError := su_InvalidCommand_TurnError, su_InvalidDays_InvalidCommand := su_InvalidDays_InvalidCommand, su_InvalidDays_InvalidDays := su_InvalidDays_InvalidDays, su_InvalidDays_InvalidMisses := su_InvalidDays_InvalidMisses, su_InvalidDays_InvalidRota := su_InvalidDays_InvalidRota, su_InvalidDays_InvalidSeason := su_InvalidDays_InvalidSeason, su_InvalidDays_InvalidText := su_InvalidDays_InvalidText, su_InvalidDays_NoFit := su_InvalidDays_NoFit, su_InvalidDays_NoLot := su_InvalidDays_NoLot, su_InvalidDays_NoTurning := su_InvalidDays_NoTurning, su_InvalidDays_NoWheel := su_InvalidDays_NoWheel, su_InvalidDays_Refused := su_InvalidDays_Refused, su_InvalidDays_TurnError := su_InvalidDays_TurnError, su_InvalidMisses_InvalidCommand := su_InvalidMisses_InvalidCommand, su_InvalidMisses_InvalidDays := su_InvalidMisses_InvalidDays, su_InvalidMisses_InvalidMisses := su_InvalidMisses_InvalidMisses, su_InvalidMisses_InvalidRota := su_InvalidMisses_InvalidRota, su_InvalidMisses_InvalidSeason := su_InvalidMisses_InvalidSeason, su_InvalidMisses_InvalidText := su_InvalidMisses_InvalidText, su_InvalidMisses_NoFit := su_InvalidMisses_NoFit, su_InvalidMisses_NoLot := su_InvalidMisses_NoLot, su_InvalidMisses_NoTurning := su_InvalidMisses_NoTurning, su_InvalidMisses_NoWheel := su_InvalidMisses_NoWheel, su_InvalidMisses_Refused := su_InvalidMisses_Refused, su_InvalidMisses_TurnError := su_InvalidMisses_TurnError, su_InvalidRota_InvalidCommand := su_InvalidRota_InvalidCommand, su_InvalidRota_InvalidDays := su_InvalidRota_InvalidDays, su_InvalidRota_InvalidMisses := su_InvalidRota_InvalidMisses, su_InvalidRota_InvalidRota := su_InvalidRota_InvalidRota, su_InvalidRota_InvalidSeason := su_InvalidRota_InvalidSeason, su_InvalidRota_InvalidText := su_InvalidRota_InvalidText, su_InvalidRota_NoFit := su_InvalidRota_NoFit, su_InvalidRota_NoLot := su_InvalidRota_NoLot, su_InvalidRota_NoTurning := su_InvalidRota_NoTurning, su_InvalidRota_NoWheel := su_InvalidRota_NoWheel, su_InvalidRota_Refused := su_InvalidRota_Refused, su_InvalidRota_TurnError := su_InvalidRota_TurnError, su_InvalidSeason_InvalidCommand := su_InvalidSeason_InvalidCommand, su_InvalidSeason_InvalidDays := su_InvalidSeason_InvalidDays, su_InvalidSeason_InvalidMisses := su_InvalidSeason_InvalidMisses, su_InvalidSeason_InvalidRota := su_InvalidSeason_InvalidRota, su_InvalidSeason_InvalidSeason := su_InvalidSeason_InvalidSeason, su_InvalidSeason_InvalidText := su_InvalidSeason_InvalidText, su_InvalidSeason_NoFit := su_InvalidSeason_NoFit, su_InvalidSeason_NoLot := su_InvalidSeason_NoLot, su_InvalidSeason_NoTurning := su_InvalidSeason_NoTurning, su_InvalidSeason_NoWheel := su_InvalidSeason_NoWheel, su_InvalidSeason_Refused := su_InvalidSeason_Refused, su_InvalidSeason_TurnError := su_InvalidSeason_TurnError, su_InvalidText_InvalidCommand := su_InvalidText_InvalidCommand, su_InvalidText_InvalidDays := su_InvalidText_InvalidDays, su_InvalidText_InvalidMisses := su_InvalidText_InvalidMisses, su_InvalidText_InvalidRota := su_InvalidText_InvalidRota, su_InvalidText_InvalidSeason := su_InvalidText_InvalidSeason, su_InvalidText_InvalidText := su_InvalidText_InvalidText, su_InvalidText_NoFit := su_InvalidText_NoFit, su_InvalidText_NoLot := su_InvalidText_NoLot, su_InvalidText_NoTurning := su_InvalidText_NoTurning, su_InvalidText_NoWheel := su_InvalidText_NoWheel, su_InvalidText_Refused := su_InvalidText_Refused, su_InvalidText_TurnError := su_InvalidText_TurnError, su_NoFit_InvalidCommand := su_NoFit_InvalidCommand, su_NoFit_InvalidDays := su_NoFit_InvalidDays, su_NoFit_InvalidMisses := su_NoFit_InvalidMisses, su_NoFit_InvalidRota := su_NoFit_InvalidRota, su_NoFit_InvalidSeason := su_NoFit_InvalidSeason, su_NoFit_InvalidText := su_NoFit_InvalidText, su_NoFit_NoFit := su_NoFit_NoFit, su_NoFit_NoLot := su_NoFit_NoLot, su_NoFit_NoTurning := su_NoFit_NoTurning, su_NoFit_NoWheel := su_NoFit_NoWheel, su_NoFit_Refused := su_NoFit_Refused, su_NoFit_TurnError := su_NoFit_TurnError, su_NoLot_InvalidCommand := su_NoLot_InvalidCommand, su_NoLot_InvalidDays := su_NoLot_InvalidDays, su_NoLot_InvalidMisses := su_NoLot_InvalidMisses, su_NoLot_InvalidRota := su_NoLot_InvalidRota, su_NoLot_InvalidSeason := su_NoLot_InvalidSeason, su_NoLot_InvalidText := su_NoLot_InvalidText, su_NoLot_NoFit := su_NoLot_NoFit, su_NoLot_NoLot := su_NoLot_NoLot, su_NoLot_NoTurning := su_NoLot_NoTurning, su_NoLot_NoWheel := su_NoLot_NoWheel, su_NoLot_Refused := su_NoLot_Refused, su_NoLot_TurnError := su_NoLot_TurnError, su_NoTurning_InvalidCommand := su_NoTurning_InvalidCommand, su_NoTurning_InvalidDays := su_NoTurning_InvalidDays, su_NoTurning_InvalidMisses := su_NoTurning_InvalidMisses, su_NoTurning_InvalidRota := su_NoTurning_InvalidRota, su_NoTurning_InvalidSeason := su_NoTurning_InvalidSeason, su_NoTurning_InvalidText := su_NoTurning_InvalidText, su_NoTurning_NoFit := su_NoTurning_NoFit, su_NoTurning_NoLot := su_NoTurning_NoLot, su_NoTurning_NoTurning := su_NoTurning_NoTurning, su_NoTurning_NoWheel := su_NoTurning_NoWheel, su_NoTurning_Refused := su_NoTurning_Refused, su_NoTurning_TurnError := su_NoTurning_TurnError, su_NoWheel_InvalidCommand := su_NoWheel_InvalidCommand, su_NoWheel_InvalidDays := su_NoWheel_InvalidDays, su_NoWheel_InvalidMisses := su_NoWheel_InvalidMisses, su_NoWheel_InvalidRota := su_NoWheel_InvalidRota, su_NoWheel_InvalidSeason := su_NoWheel_InvalidSeason, su_NoWheel_InvalidText := su_NoWheel_InvalidText, su_NoWheel_NoFit := su_NoWheel_NoFit, su_NoWheel_NoLot := su_NoWheel_NoLot, su_NoWheel_NoTurning := su_NoWheel_NoTurning, su_NoWheel_NoWheel := su_NoWheel_NoWheel, su_NoWheel_Refused := su_NoWheel_Refused, su_NoWheel_TurnError := su_NoWheel_TurnError, su_Refused_InvalidCommand := su_Refused_InvalidCommand, su_Refused_InvalidDays := su_Refused_InvalidDays, su_Refused_InvalidMisses := su_Refused_InvalidMisses, su_Refused_InvalidRota := su_Refused_InvalidRota, su_Refused_InvalidSeason := su_Refused_InvalidSeason, su_Refused_InvalidText := su_Refused_InvalidText, su_Refused_NoFit := su_Refused_NoFit, su_Refused_NoLot := su_Refused_NoLot, su_Refused_NoTurning := su_Refused_NoTurning, su_Refused_NoWheel := su_Refused_NoWheel, su_Refused_Refused := su_Refused_Refused, su_Refused_TurnError := su_Refused_TurnError, ve_InvalidRota := ve_InvalidRota, ve_InvalidText := ve_InvalidText, ve_InvalidSeason := ve_InvalidSeason, ve_InvalidMisses := ve_InvalidMisses, ve_InvalidDays := ve_InvalidDays, ve_NoWheel := ve_NoWheel, ve_NoTurning := ve_NoTurning, ve_NoLot := ve_NoLot, ve_Refused := ve_Refused, ve_NoFit := ve_NoFit, ve_InvalidCommand := ve_InvalidCommand, R_TurnError := R_TurnError, rg_TurnError := PySem.W.mg_of X G aR_TurnError, rt_TurnError := ⟨rdR_TurnError, gaR_TurnError, inR_TurnError⟩, f_InvalidRota_init := eInvalidRota, fd_InvalidRota_init := _, F_InvalidRota_init := FE_InvalidRota, b_InvalidRota_init := bE_InvalidRota, er_InvalidRota := ⟨⟨⟨_, _, _, _, _, _, _, _, _, _, _, _, _, _, _, xo_InvalidRota, xv_InvalidRota⟩, xs_InvalidRota, xb_InvalidRota, tyE_InvalidRota, xp_InvalidRota⟩, ⟨xg_InvalidRota, xh_InvalidRota, xb_InvalidRota, hdE_InvalidRota, xd_InvalidRota, xe_InvalidRota, xt_InvalidRota, xm_InvalidRota⟩, ⟨xg_InvalidRota, xh_InvalidRota, xb_InvalidRota, hdE_InvalidRota⟩, xa_InvalidRota, xi_InvalidRota, PySem.W.mg_of X G aE_InvalidRota⟩, na_InvalidRota := xn_InvalidRota, f_InvalidText_init := eInvalidText, fd_InvalidText_init := _, F_InvalidText_init := FE_InvalidText, b_InvalidText_init := bE_InvalidText, er_InvalidText := ⟨⟨⟨_, _, _, _, _, _, _, _, _, _, _, _, _, _, _, xo_InvalidText, xv_InvalidText⟩, xs_InvalidText, xb_InvalidText, tyE_InvalidText, xp_InvalidText⟩, ⟨xg_InvalidText, xh_InvalidText, xb_InvalidText, hdE_InvalidText, xd_InvalidText, xe_InvalidText, xt_InvalidText, xm_InvalidText⟩, ⟨xg_InvalidText, xh_InvalidText, xb_InvalidText, hdE_InvalidText⟩, xa_InvalidText, xi_InvalidText, PySem.W.mg_of X G aE_InvalidText⟩, na_InvalidText := xn_InvalidText, f_InvalidSeason_init := eInvalidSeason, fd_InvalidSeason_init := _, F_InvalidSeason_init := FE_InvalidSeason, b_InvalidSeason_init := bE_InvalidSeason, er_InvalidSeason := ⟨⟨⟨_, _, _, _, _, _, _, _, _, _, _, _, _, _, _, xo_InvalidSeason, xv_InvalidSeason⟩, xs_InvalidSeason, xb_InvalidSeason, tyE_InvalidSeason, xp_InvalidSeason⟩, ⟨xg_InvalidSeason, xh_InvalidSeason, xb_InvalidSeason, hdE_InvalidSeason, xd_InvalidSeason, xe_InvalidSeason, xt_InvalidSeason, xm_InvalidSeason⟩, ⟨xg_InvalidSeason, xh_InvalidSeason, xb_InvalidSeason, hdE_InvalidSeason⟩, xa_InvalidSeason, xi_InvalidSeason, PySem.W.mg_of X G aE_InvalidSeason⟩, na_InvalidSeason := xn_InvalidSeason, f_InvalidMisses_init := eInvalidMisses, fd_InvalidMisses_init := _, F_InvalidMisses_init := FE_InvalidMisses, b_InvalidMisses_init := bE_InvalidMisses, er_InvalidMisses := ⟨⟨⟨_, _, _, _, _, _, _, _, _, _, _, _, _, _, _, xo_InvalidMisses, xv_InvalidMisses⟩, xs_InvalidMisses, xb_InvalidMisses, tyE_InvalidMisses, xp_InvalidMisses⟩, ⟨xg_InvalidMisses, xh_InvalidMisses, xb_InvalidMisses, hdE_InvalidMisses, xd_InvalidMisses, xe_InvalidMisses, xt_InvalidMisses, xm_InvalidMisses⟩, ⟨xg_InvalidMisses, xh_InvalidMisses, xb_InvalidMisses, hdE_InvalidMisses⟩, xa_InvalidMisses, xi_InvalidMisses, PySem.W.mg_of X G aE_InvalidMisses⟩, na_InvalidMisses := xn_InvalidMisses, f_InvalidDays_init := eInvalidDays, fd_InvalidDays_init := _, F_InvalidDays_init := FE_InvalidDays, b_InvalidDays_init := bE_InvalidDays, er_InvalidDays := ⟨⟨⟨_, _, _, _, _, _, _, _, _, _, _, _, _, _, _, xo_InvalidDays, xv_InvalidDays⟩, xs_InvalidDays, xb_InvalidDays, tyE_InvalidDays, xp_InvalidDays⟩, ⟨xg_InvalidDays, xh_InvalidDays, xb_InvalidDays, hdE_InvalidDays, xd_InvalidDays, xe_InvalidDays, xt_InvalidDays, xm_InvalidDays⟩, ⟨xg_InvalidDays, xh_InvalidDays, xb_InvalidDays, hdE_InvalidDays⟩, xa_InvalidDays, xi_InvalidDays, PySem.W.mg_of X G aE_InvalidDays⟩, na_InvalidDays := xn_InvalidDays, f_NoWheel_init := eNoWheel, fd_NoWheel_init := _, F_NoWheel_init := FE_NoWheel, b_NoWheel_init := bE_NoWheel, er_NoWheel := ⟨⟨⟨_, _, _, _, _, _, _, _, _, _, _, _, _, _, _, xo_NoWheel, xv_NoWheel⟩, xs_NoWheel, xb_NoWheel, tyE_NoWheel, xp_NoWheel⟩, ⟨xg_NoWheel, xh_NoWheel, xb_NoWheel, hdE_NoWheel, xd_NoWheel, xe_NoWheel, xt_NoWheel, xm_NoWheel⟩, ⟨xg_NoWheel, xh_NoWheel, xb_NoWheel, hdE_NoWheel⟩, xa_NoWheel, xi_NoWheel, PySem.W.mg_of X G aE_NoWheel⟩, na_NoWheel := xn_NoWheel, f_NoTurning_init := eNoTurning, fd_NoTurning_init := _, F_NoTurning_init := FE_NoTurning, b_NoTurning_init := bE_NoTurning, er_NoTurning := ⟨⟨⟨_, _, _, _, _, _, _, _, _, _, _, _, _, _, _, xo_NoTurning, xv_NoTurning⟩, xs_NoTurning, xb_NoTurning, tyE_NoTurning, xp_NoTurning⟩, ⟨xg_NoTurning, xh_NoTurning, xb_NoTurning, hdE_NoTurning, xd_NoTurning, xe_NoTurning, xt_NoTurning, xm_NoTurning⟩, ⟨xg_NoTurning, xh_NoTurning, xb_NoTurning, hdE_NoTurning⟩, xa_NoTurning, xi_NoTurning, PySem.W.mg_of X G aE_NoTurning⟩, na_NoTurning := xn_NoTurning, f_NoLot_init := eNoLot, fd_NoLot_init := _, F_NoLot_init := FE_NoLot, b_NoLot_init := bE_NoLot, er_NoLot := ⟨⟨⟨_, _, _, _, _, _, _, _, _, _, _, _, _, _, _, xo_NoLot, xv_NoLot⟩, xs_NoLot, xb_NoLot, tyE_NoLot, xp_NoLot⟩, ⟨xg_NoLot, xh_NoLot, xb_NoLot, hdE_NoLot, xd_NoLot, xe_NoLot, xt_NoLot, xm_NoLot⟩, ⟨xg_NoLot, xh_NoLot, xb_NoLot, hdE_NoLot⟩, xa_NoLot, xi_NoLot, PySem.W.mg_of X G aE_NoLot⟩, na_NoLot := xn_NoLot, f_Refused_init := eRefused, fd_Refused_init := _, F_Refused_init := FE_Refused, b_Refused_init := bE_Refused, er_Refused := ⟨⟨⟨_, _, _, _, _, _, _, _, _, _, _, _, _, _, _, xo_Refused, xv_Refused⟩, xs_Refused, xb_Refused, tyE_Refused, xp_Refused⟩, ⟨xg_Refused, xh_Refused, xb_Refused, hdE_Refused, xd_Refused, xe_Refused, xt_Refused, xm_Refused⟩, ⟨xg_Refused, xh_Refused, xb_Refused, hdE_Refused⟩, xa_Refused, xi_Refused, PySem.W.mg_of X G aE_Refused⟩, na_Refused := xn_Refused, f_NoFit_init := eNoFit, fd_NoFit_init := _, F_NoFit_init := FE_NoFit, b_NoFit_init := bE_NoFit, er_NoFit := ⟨⟨⟨_, _, _, _, _, _, _, _, _, _, _, _, _, _, _, xo_NoFit, xv_NoFit⟩, xs_NoFit, xb_NoFit, tyE_NoFit, xp_NoFit⟩, ⟨xg_NoFit, xh_NoFit, xb_NoFit, hdE_NoFit, xd_NoFit, xe_NoFit, xt_NoFit, xm_NoFit⟩, ⟨xg_NoFit, xh_NoFit, xb_NoFit, hdE_NoFit⟩, xa_NoFit, xi_NoFit, PySem.W.mg_of X G aE_NoFit⟩, f_InvalidCommand_init := eInvalidCommand, fd_InvalidCommand_init := _, F_InvalidCommand_init := FE_InvalidCommand, b_InvalidCommand_init := bE_InvalidCommand, er_InvalidCommand := ⟨⟨⟨_, _, _, _, _, _, _, _, _, _, _, _, _, _, _, xo_InvalidCommand, xv_InvalidCommand⟩, xs_InvalidCommand, xb_InvalidCommand, tyE_InvalidCommand, xp_InvalidCommand⟩, ⟨xg_InvalidCommand, xh_InvalidCommand, xb_InvalidCommand, hdE_InvalidCommand, xd_InvalidCommand, xe_InvalidCommand, xt_InvalidCommand, xm_InvalidCommand⟩, ⟨xg_InvalidCommand, xh_InvalidCommand, xb_InvalidCommand, hdE_InvalidCommand⟩, xa_InvalidCommand, xi_InvalidCommand, PySem.W.mg_of X G aE_InvalidCommand⟩, z_ValueError := PySem.W.mg_none_of X G z0, z_abs := PySem.W.mg_none_of X G z1, z_enumerate := PySem.W.mg_none_of X G z2, z_int := PySem.W.mg_none_of X G z3, z_isinstance := PySem.W.mg_none_of X G z4, z_len := PySem.W.mg_none_of X G z5, z_max := PySem.W.mg_none_of X G z6, z_min := PySem.W.mg_none_of X G z7, z_range := PySem.W.mg_none_of X G z8, z_repr := PySem.W.mg_none_of X G z9 }
  exact ⟨D.fd_law, fun s v => .of_eq rfl, fun base _ _ => (ok_law D).imp fun vs H Q E h => h D.cl⟩
theorem law_sp {K : PySem.W.Frag} (hm : ∀ ns : List Int, ns.length ≤ 63 → m_law [.scr ns] = .ret (.bl true) .non) (H : Hp) (a : Addr) (ns : List Int) (hl : ns.length ≤ 63) (hS : SqL K H a (ns.map V.int)) : spL K [.ref a] H (fun v _ => v = .bl true) fun _ _ _ => False := by
  intro cl
  refine ⟨H, [.scr ns], none, rfl, le_refl H, ⟨.cons (.scr hS) .nil, rfl⟩, ?_⟩
  rw [hm ns hl]
  exact fun F' H' v _ _ _ r => Rep.bl_inv (show Rep _ _ _ _ from r)
end Dl
open PySem PySem.W PyProof.Rows
theorem Dl.cx_none {P : Program} {w : World} {H : L2.Hp} {s : Shared} {e : Value} {s' : Shared} (h : L2.CX P w [] H s (fun _ _ _ => False) e s') : False := by
  obtain ⟨_, _, _, _, _, _, _, _, _, _, _, _, z⟩ := h
  exact z
set_option maxHeartbeats 0 in
theorem PySem.Challenge.cw_turnrota_k01_errors_holds : PySem.Challenge.rw_turnrota_k01_errors.Holds := by
  w_on; o_law; k_head; (case hw => w_witness2)
  k_fill
  refine Dl.walkG (l := PySem.Challenge.rw_turnrota_k01_errors) (n := 63) (k := 4) (x := "_law_script") (CX := fun w => L2.CX PySem.Challenge.rw_turnrota_k01_errors.prog w) (sp := fun w => Dl.spL _) rfl (by decide) rfl ⟨rfl, by decide, by decide⟩ (fun w h Y => PySem.W.kIn_of Y) ?F (fun _ H a ns hl _ hS => Dl.law_sp Dl.law_true H a ns hl hS) (fun _ _ _ _ _ h => Dl.cx_none h)
  case F =>
    intro w mg fa h KX G hmg
    refine' Dl.all_mk KX G hmg ?aE_TurnError ?hdE_TurnError ?tyE_TurnError ?sfE_TurnError ?aE_InvalidRota ?hdE_InvalidRota ?tyE_InvalidRota ?sfE_InvalidRota ?aE_InvalidText ?hdE_InvalidText ?tyE_InvalidText ?sfE_InvalidText ?aE_InvalidSeason ?hdE_InvalidSeason ?tyE_InvalidSeason ?sfE_InvalidSeason ?aE_InvalidMisses ?hdE_InvalidMisses ?tyE_InvalidMisses ?sfE_InvalidMisses ?aE_InvalidDays ?hdE_InvalidDays ?tyE_InvalidDays ?sfE_InvalidDays ?aE_InvalidCommand ?hdE_InvalidCommand ?tyE_InvalidCommand ?sfE_InvalidCommand ?aE_NoWheel ?hdE_NoWheel ?tyE_NoWheel ?sfE_NoWheel ?aE_NoTurning ?hdE_NoTurning ?tyE_NoTurning ?sfE_NoTurning ?aE_NoFit ?hdE_NoFit ?tyE_NoFit ?sfE_NoFit ?aE_NoLot ?hdE_NoLot ?tyE_NoLot ?sfE_NoLot ?aE_Refused ?hdE_Refused ?tyE_Refused ?sfE_Refused ?su_InvalidCommand_InvalidCommand ?su_InvalidCommand_InvalidDays ?su_InvalidCommand_InvalidMisses ?su_InvalidCommand_InvalidRota ?su_InvalidCommand_InvalidSeason ?su_InvalidCommand_InvalidText ?su_InvalidCommand_NoFit ?su_InvalidCommand_NoLot ?su_InvalidCommand_NoTurning ?su_InvalidCommand_NoWheel ?su_InvalidCommand_Refused ?su_InvalidCommand_TurnError ?su_InvalidDays_InvalidCommand ?su_InvalidDays_InvalidDays ?su_InvalidDays_InvalidMisses ?su_InvalidDays_InvalidRota ?su_InvalidDays_InvalidSeason ?su_InvalidDays_InvalidText ?su_InvalidDays_NoFit ?su_InvalidDays_NoLot ?su_InvalidDays_NoTurning ?su_InvalidDays_NoWheel ?su_InvalidDays_Refused ?su_InvalidDays_TurnError ?su_InvalidMisses_InvalidCommand ?su_InvalidMisses_InvalidDays ?su_InvalidMisses_InvalidMisses ?su_InvalidMisses_InvalidRota ?su_InvalidMisses_InvalidSeason ?su_InvalidMisses_InvalidText ?su_InvalidMisses_NoFit ?su_InvalidMisses_NoLot ?su_InvalidMisses_NoTurning ?su_InvalidMisses_NoWheel ?su_InvalidMisses_Refused ?su_InvalidMisses_TurnError ?su_InvalidRota_InvalidCommand ?su_InvalidRota_InvalidDays ?su_InvalidRota_InvalidMisses ?su_InvalidRota_InvalidRota ?su_InvalidRota_InvalidSeason ?su_InvalidRota_InvalidText ?su_InvalidRota_NoFit ?su_InvalidRota_NoLot ?su_InvalidRota_NoTurning ?su_InvalidRota_NoWheel ?su_InvalidRota_Refused ?su_InvalidRota_TurnError ?su_InvalidSeason_InvalidCommand ?su_InvalidSeason_InvalidDays ?su_InvalidSeason_InvalidMisses ?su_InvalidSeason_InvalidRota ?su_InvalidSeason_InvalidSeason ?su_InvalidSeason_InvalidText ?su_InvalidSeason_NoFit ?su_InvalidSeason_NoLot ?su_InvalidSeason_NoTurning ?su_InvalidSeason_NoWheel ?su_InvalidSeason_Refused ?su_InvalidSeason_TurnError ?su_InvalidText_InvalidCommand ?su_InvalidText_InvalidDays ?su_InvalidText_InvalidMisses ?su_InvalidText_InvalidRota ?su_InvalidText_InvalidSeason ?su_InvalidText_InvalidText ?su_InvalidText_NoFit ?su_InvalidText_NoLot ?su_InvalidText_NoTurning ?su_InvalidText_NoWheel ?su_InvalidText_Refused ?su_InvalidText_TurnError ?su_NoFit_InvalidCommand ?su_NoFit_InvalidDays ?su_NoFit_InvalidMisses ?su_NoFit_InvalidRota ?su_NoFit_InvalidSeason ?su_NoFit_InvalidText ?su_NoFit_NoFit ?su_NoFit_NoLot ?su_NoFit_NoTurning ?su_NoFit_NoWheel ?su_NoFit_Refused ?su_NoFit_TurnError ?su_NoLot_InvalidCommand ?su_NoLot_InvalidDays ?su_NoLot_InvalidMisses ?su_NoLot_InvalidRota ?su_NoLot_InvalidSeason ?su_NoLot_InvalidText ?su_NoLot_NoFit ?su_NoLot_NoLot ?su_NoLot_NoTurning ?su_NoLot_NoWheel ?su_NoLot_Refused ?su_NoLot_TurnError ?su_NoTurning_InvalidCommand ?su_NoTurning_InvalidDays ?su_NoTurning_InvalidMisses ?su_NoTurning_InvalidRota ?su_NoTurning_InvalidSeason ?su_NoTurning_InvalidText ?su_NoTurning_NoFit ?su_NoTurning_NoLot ?su_NoTurning_NoTurning ?su_NoTurning_NoWheel ?su_NoTurning_Refused ?su_NoTurning_TurnError ?su_NoWheel_InvalidCommand ?su_NoWheel_InvalidDays ?su_NoWheel_InvalidMisses ?su_NoWheel_InvalidRota ?su_NoWheel_InvalidSeason ?su_NoWheel_InvalidText ?su_NoWheel_NoFit ?su_NoWheel_NoLot ?su_NoWheel_NoTurning ?su_NoWheel_NoWheel ?su_NoWheel_Refused ?su_NoWheel_TurnError ?su_Refused_InvalidCommand ?su_Refused_InvalidDays ?su_Refused_InvalidMisses ?su_Refused_InvalidRota ?su_Refused_InvalidSeason ?su_Refused_InvalidText ?su_Refused_NoFit ?su_Refused_NoLot ?su_Refused_NoTurning ?su_Refused_NoWheel ?su_Refused_Refused ?su_Refused_TurnError ?aR_TurnError ?rdR_TurnError ?gaR_TurnError ?inR_TurnError ?xa_InvalidRota ?xi_InvalidRota ?xl_InvalidRota ?xc_InvalidRota ?xk_InvalidRota ?xo_InvalidRota ?xv_InvalidRota ?xs_InvalidRota ?xb_InvalidRota ?xp_InvalidRota ?xg_InvalidRota ?xh_InvalidRota ?xd_InvalidRota ?xe_InvalidRota ?xt_InvalidRota ?xm_InvalidRota ?xn_InvalidRota ?ve_InvalidRota ?xa_InvalidText ?xi_InvalidText ?xl_InvalidText ?xc_InvalidText ?xk_InvalidText ?xo_InvalidText ?xv_InvalidText ?xs_InvalidText ?xb_InvalidText ?xp_InvalidText ?xg_InvalidText ?xh_InvalidText ?xd_InvalidText ?xe_InvalidText ?xt_InvalidText ?xm_InvalidText ?xn_InvalidText ?ve_InvalidText ?xa_InvalidSeason ?xi_InvalidSeason ?xl_InvalidSeason ?xc_InvalidSeason ?xk_InvalidSeason ?xo_InvalidSeason ?xv_InvalidSeason ?xs_InvalidSeason ?xb_InvalidSeason ?xp_InvalidSeason ?xg_InvalidSeason ?xh_InvalidSeason ?xd_InvalidSeason ?xe_InvalidSeason ?xt_InvalidSeason ?xm_InvalidSeason ?xn_InvalidSeason ?ve_InvalidSeason ?xa_InvalidMisses ?xi_InvalidMisses ?xl_InvalidMisses ?xc_InvalidMisses ?xk_InvalidMisses ?xo_InvalidMisses ?xv_InvalidMisses ?xs_InvalidMisses ?xb_InvalidMisses ?xp_InvalidMisses ?xg_InvalidMisses ?xh_InvalidMisses ?xd_InvalidMisses ?xe_InvalidMisses ?xt_InvalidMisses ?xm_InvalidMisses ?xn_InvalidMisses ?ve_InvalidMisses ?xa_InvalidDays ?xi_InvalidDays ?xl_InvalidDays ?xc_InvalidDays ?xk_InvalidDays ?xo_InvalidDays ?xv_InvalidDays ?xs_InvalidDays ?xb_InvalidDays ?xp_InvalidDays ?xg_InvalidDays ?xh_InvalidDays ?xd_InvalidDays ?xe_InvalidDays ?xt_InvalidDays ?xm_InvalidDays ?xn_InvalidDays ?ve_InvalidDays ?xa_NoWheel ?xi_NoWheel ?xl_NoWheel ?xc_NoWheel ?xk_NoWheel ?xo_NoWheel ?xv_NoWheel ?xs_NoWheel ?xb_NoWheel ?xp_NoWheel ?xg_NoWheel ?xh_NoWheel ?xd_NoWheel ?xe_NoWheel ?xt_NoWheel ?xm_NoWheel ?xn_NoWheel ?ve_NoWheel ?xa_NoTurning ?xi_NoTurning ?xl_NoTurning ?xc_NoTurning ?xk_NoTurning ?xo_NoTurning ?xv_NoTurning ?xs_NoTurning ?xb_NoTurning ?xp_NoTurning ?xg_NoTurning ?xh_NoTurning ?xd_NoTurning ?xe_NoTurning ?xt_NoTurning ?xm_NoTurning ?xn_NoTurning ?ve_NoTurning ?xa_NoLot ?xi_NoLot ?xl_NoLot ?xc_NoLot ?xk_NoLot ?xo_NoLot ?xv_NoLot ?xs_NoLot ?xb_NoLot ?xp_NoLot ?xg_NoLot ?xh_NoLot ?xd_NoLot ?xe_NoLot ?xt_NoLot ?xm_NoLot ?xn_NoLot ?ve_NoLot ?xa_Refused ?xi_Refused ?xl_Refused ?xc_Refused ?xk_Refused ?xo_Refused ?xv_Refused ?xs_Refused ?xb_Refused ?xp_Refused ?xg_Refused ?xh_Refused ?xd_Refused ?xe_Refused ?xt_Refused ?xm_Refused ?xn_Refused ?ve_Refused ?xa_NoFit ?xi_NoFit ?xl_NoFit ?xc_NoFit ?xk_NoFit ?xo_NoFit ?xv_NoFit ?xs_NoFit ?xb_NoFit ?xp_NoFit ?xg_NoFit ?xh_NoFit ?xd_NoFit ?xe_NoFit ?xt_NoFit ?xm_NoFit ?ve_NoFit ?xa_InvalidCommand ?xi_InvalidCommand ?xl_InvalidCommand ?xc_InvalidCommand ?xk_InvalidCommand ?xo_InvalidCommand ?xv_InvalidCommand ?xs_InvalidCommand ?xb_InvalidCommand ?xp_InvalidCommand ?xg_InvalidCommand ?xh_InvalidCommand ?xd_InvalidCommand ?xe_InvalidCommand ?xt_InvalidCommand ?xm_InvalidCommand ?ve_InvalidCommand ?a0 ?l0 ?c0 ?k0 ?a1 ?l1 ?c1 ?k1 ?a2 ?l2 ?c2 ?k2 ?a3 ?l3 ?c3 ?k3 ?a4 ?l4 ?c4 ?k4 ?a5 ?l5 ?c5 ?k5 ?a6 ?l6 ?c6 ?k6 ?a7 ?l7 ?c7 ?k7 ?a8 ?l8 ?c8 ?k8 ?z0 ?z1 ?z2 ?z3 ?z4 ?z5 ?z6 ?z7 ?z8 ?z9
    (case aE_TurnError => k_is); (case aE_InvalidRota => k_is); (case aE_InvalidText => k_is); (case aE_InvalidSeason => k_is); (case aE_InvalidMisses => k_is); (case aE_InvalidDays => k_is); (case aE_InvalidCommand => k_is); (case aE_NoWheel => k_is); (case aE_NoTurning => k_is); (case aE_NoFit => k_is); (case aE_NoLot => k_is); (case aE_Refused => k_is); (case hdE_TurnError => k_is); (case tyE_TurnError => k_is); (case sfE_TurnError => k_is); (case hdE_InvalidRota => k_is); (case tyE_InvalidRota => k_is); (case sfE_InvalidRota => k_is); (case hdE_InvalidText => k_is); (case tyE_InvalidText => k_is); (case sfE_InvalidText => k_is); (case hdE_InvalidSeason => k_is); (case tyE_InvalidSeason => k_is); (case sfE_InvalidSeason => k_is); (case hdE_InvalidMisses => k_is); (case tyE_InvalidMisses => k_is); (case sfE_InvalidMisses => k_is); (case hdE_InvalidDays => k_is); (case tyE_InvalidDays => k_is); (case sfE_InvalidDays => k_is); (case hdE_InvalidCommand => k_is); (case tyE_InvalidCommand => k_is); (case sfE_InvalidCommand => k_is); (case hdE_NoWheel => k_is); (case tyE_NoWheel => k_is); (case sfE_NoWheel => k_is); (case hdE_NoTurning => k_is); (case tyE_NoTurning => k_is); (case sfE_NoTurning => k_is); (case hdE_NoFit => k_is); (case tyE_NoFit => k_is); (case sfE_NoFit => k_is); (case hdE_NoLot => k_is); (case tyE_NoLot => k_is); (case sfE_NoLot => k_is); (case hdE_Refused => k_is); (case tyE_Refused => k_is); (case sfE_Refused => k_is); (case su_InvalidCommand_InvalidCommand => k_is); (case su_InvalidCommand_InvalidDays => k_is); (case su_InvalidCommand_InvalidMisses => k_is); (case su_InvalidCommand_InvalidRota => k_is); (case su_InvalidCommand_InvalidSeason => k_is); (case su_InvalidCommand_InvalidText => k_is); (case su_InvalidCommand_NoFit => k_is); (case su_InvalidCommand_NoLot => k_is); (case su_InvalidCommand_NoTurning => k_is); (case su_InvalidCommand_NoWheel => k_is); (case su_InvalidCommand_Refused => k_is); (case su_InvalidCommand_TurnError => k_is); (case su_InvalidDays_InvalidCommand => k_is); (case su_InvalidDays_InvalidDays => k_is); (case su_InvalidDays_InvalidMisses => k_is); (case su_InvalidDays_InvalidRota => k_is); (case su_InvalidDays_InvalidSeason => k_is); (case su_InvalidDays_InvalidText => k_is); (case su_InvalidDays_NoFit => k_is); (case su_InvalidDays_NoLot => k_is); (case su_InvalidDays_NoTurning => k_is); (case su_InvalidDays_NoWheel => k_is); (case su_InvalidDays_Refused => k_is); (case su_InvalidDays_TurnError => k_is); (case su_InvalidMisses_InvalidCommand => k_is); (case su_InvalidMisses_InvalidDays => k_is); (case su_InvalidMisses_InvalidMisses => k_is); (case su_InvalidMisses_InvalidRota => k_is); (case su_InvalidMisses_InvalidSeason => k_is); (case su_InvalidMisses_InvalidText => k_is); (case su_InvalidMisses_NoFit => k_is); (case su_InvalidMisses_NoLot => k_is); (case su_InvalidMisses_NoTurning => k_is); (case su_InvalidMisses_NoWheel => k_is); (case su_InvalidMisses_Refused => k_is); (case su_InvalidMisses_TurnError => k_is); (case su_InvalidRota_InvalidCommand => k_is); (case su_InvalidRota_InvalidDays => k_is); (case su_InvalidRota_InvalidMisses => k_is); (case su_InvalidRota_InvalidRota => k_is); (case su_InvalidRota_InvalidSeason => k_is); (case su_InvalidRota_InvalidText => k_is); (case su_InvalidRota_NoFit => k_is); (case su_InvalidRota_NoLot => k_is); (case su_InvalidRota_NoTurning => k_is); (case su_InvalidRota_NoWheel => k_is); (case su_InvalidRota_Refused => k_is); (case su_InvalidRota_TurnError => k_is); (case su_InvalidSeason_InvalidCommand => k_is); (case su_InvalidSeason_InvalidDays => k_is); (case su_InvalidSeason_InvalidMisses => k_is); (case su_InvalidSeason_InvalidRota => k_is); (case su_InvalidSeason_InvalidSeason => k_is); (case su_InvalidSeason_InvalidText => k_is); (case su_InvalidSeason_NoFit => k_is); (case su_InvalidSeason_NoLot => k_is); (case su_InvalidSeason_NoTurning => k_is); (case su_InvalidSeason_NoWheel => k_is); (case su_InvalidSeason_Refused => k_is); (case su_InvalidSeason_TurnError => k_is); (case su_InvalidText_InvalidCommand => k_is); (case su_InvalidText_InvalidDays => k_is); (case su_InvalidText_InvalidMisses => k_is); (case su_InvalidText_InvalidRota => k_is); (case su_InvalidText_InvalidSeason => k_is); (case su_InvalidText_InvalidText => k_is); (case su_InvalidText_NoFit => k_is); (case su_InvalidText_NoLot => k_is); (case su_InvalidText_NoTurning => k_is); (case su_InvalidText_NoWheel => k_is); (case su_InvalidText_Refused => k_is); (case su_InvalidText_TurnError => k_is); (case su_NoFit_InvalidCommand => k_is); (case su_NoFit_InvalidDays => k_is); (case su_NoFit_InvalidMisses => k_is); (case su_NoFit_InvalidRota => k_is); (case su_NoFit_InvalidSeason => k_is); (case su_NoFit_InvalidText => k_is); (case su_NoFit_NoFit => k_is); (case su_NoFit_NoLot => k_is); (case su_NoFit_NoTurning => k_is); (case su_NoFit_NoWheel => k_is); (case su_NoFit_Refused => k_is); (case su_NoFit_TurnError => k_is); (case su_NoLot_InvalidCommand => k_is); (case su_NoLot_InvalidDays => k_is); (case su_NoLot_InvalidMisses => k_is); (case su_NoLot_InvalidRota => k_is); (case su_NoLot_InvalidSeason => k_is); (case su_NoLot_InvalidText => k_is); (case su_NoLot_NoFit => k_is); (case su_NoLot_NoLot => k_is); (case su_NoLot_NoTurning => k_is); (case su_NoLot_NoWheel => k_is); (case su_NoLot_Refused => k_is); (case su_NoLot_TurnError => k_is); (case su_NoTurning_InvalidCommand => k_is); (case su_NoTurning_InvalidDays => k_is); (case su_NoTurning_InvalidMisses => k_is); (case su_NoTurning_InvalidRota => k_is); (case su_NoTurning_InvalidSeason => k_is); (case su_NoTurning_InvalidText => k_is); (case su_NoTurning_NoFit => k_is); (case su_NoTurning_NoLot => k_is); (case su_NoTurning_NoTurning => k_is); (case su_NoTurning_NoWheel => k_is); (case su_NoTurning_Refused => k_is); (case su_NoTurning_TurnError => k_is); (case su_NoWheel_InvalidCommand => k_is); (case su_NoWheel_InvalidDays => k_is); (case su_NoWheel_InvalidMisses => k_is); (case su_NoWheel_InvalidRota => k_is); (case su_NoWheel_InvalidSeason => k_is); (case su_NoWheel_InvalidText => k_is); (case su_NoWheel_NoFit => k_is); (case su_NoWheel_NoLot => k_is); (case su_NoWheel_NoTurning => k_is); (case su_NoWheel_NoWheel => k_is); (case su_NoWheel_Refused => k_is); (case su_NoWheel_TurnError => k_is); (case su_Refused_InvalidCommand => k_is); (case su_Refused_InvalidDays => k_is); (case su_Refused_InvalidMisses => k_is); (case su_Refused_InvalidRota => k_is); (case su_Refused_InvalidSeason => k_is); (case su_Refused_InvalidText => k_is); (case su_Refused_NoFit => k_is); (case su_Refused_NoLot => k_is); (case su_Refused_NoTurning => k_is); (case su_Refused_NoWheel => k_is); (case su_Refused_Refused => k_is); (case su_Refused_TurnError => k_is); (case aR_TurnError => k_is); (case rdR_TurnError => k_is); (case gaR_TurnError => k_is); (case inR_TurnError => k_is); (case xa_InvalidRota => k_is); (case xi_InvalidRota => k_is); (case xl_InvalidRota => k_is); (case xc_InvalidRota => k_is); (case xk_InvalidRota => k_is); (case xo_InvalidRota => k_is); (case xv_InvalidRota => decide +kernel); (case xs_InvalidRota => k_is); (case xb_InvalidRota => k_is); (case xp_InvalidRota => k_is); (case xg_InvalidRota => k_is); (case xh_InvalidRota => k_is); (case xd_InvalidRota => k_is); (case xe_InvalidRota => k_is); (case xt_InvalidRota => k_is); (case xm_InvalidRota => k_is); (case xn_InvalidRota => k_is); (case ve_InvalidRota => k_is); (case xa_InvalidText => k_is); (case xi_InvalidText => k_is); (case xl_InvalidText => k_is); (case xc_InvalidText => k_is); (case xk_InvalidText => k_is); (case xo_InvalidText => k_is); (case xv_InvalidText => decide +kernel); (case xs_InvalidText => k_is); (case xb_InvalidText => k_is); (case xp_InvalidText => k_is); (case xg_InvalidText => k_is); (case xh_InvalidText => k_is); (case xd_InvalidText => k_is); (case xe_InvalidText => k_is); (case xt_InvalidText => k_is); (case xm_InvalidText => k_is); (case xn_InvalidText => k_is); (case ve_InvalidText => k_is); (case xa_InvalidSeason => k_is); (case xi_InvalidSeason => k_is); (case xl_InvalidSeason => k_is); (case xc_InvalidSeason => k_is); (case xk_InvalidSeason => k_is); (case xo_InvalidSeason => k_is); (case xv_InvalidSeason => decide +kernel); (case xs_InvalidSeason => k_is); (case xb_InvalidSeason => k_is); (case xp_InvalidSeason => k_is); (case xg_InvalidSeason => k_is); (case xh_InvalidSeason => k_is); (case xd_InvalidSeason => k_is); (case xe_InvalidSeason => k_is); (case xt_InvalidSeason => k_is); (case xm_InvalidSeason => k_is); (case xn_InvalidSeason => k_is); (case ve_InvalidSeason => k_is); (case xa_InvalidMisses => k_is); (case xi_InvalidMisses => k_is); (case xl_InvalidMisses => k_is); (case xc_InvalidMisses => k_is); (case xk_InvalidMisses => k_is); (case xo_InvalidMisses => k_is); (case xv_InvalidMisses => decide +kernel); (case xs_InvalidMisses => k_is); (case xb_InvalidMisses => k_is); (case xp_InvalidMisses => k_is); (case xg_InvalidMisses => k_is); (case xh_InvalidMisses => k_is); (case xd_InvalidMisses => k_is); (case xe_InvalidMisses => k_is); (case xt_InvalidMisses => k_is); (case xm_InvalidMisses => k_is); (case xn_InvalidMisses => k_is); (case ve_InvalidMisses => k_is); (case xa_InvalidDays => k_is); (case xi_InvalidDays => k_is); (case xl_InvalidDays => k_is); (case xc_InvalidDays => k_is); (case xk_InvalidDays => k_is); (case xo_InvalidDays => k_is); (case xv_InvalidDays => decide +kernel); (case xs_InvalidDays => k_is); (case xb_InvalidDays => k_is); (case xp_InvalidDays => k_is); (case xg_InvalidDays => k_is); (case xh_InvalidDays => k_is); (case xd_InvalidDays => k_is); (case xe_InvalidDays => k_is); (case xt_InvalidDays => k_is); (case xm_InvalidDays => k_is); (case xn_InvalidDays => k_is); (case ve_InvalidDays => k_is); (case xa_NoWheel => k_is); (case xi_NoWheel => k_is); (case xl_NoWheel => k_is); (case xc_NoWheel => k_is); (case xk_NoWheel => k_is); (case xo_NoWheel => k_is); (case xv_NoWheel => decide +kernel); (case xs_NoWheel => k_is); (case xb_NoWheel => k_is); (case xp_NoWheel => k_is); (case xg_NoWheel => k_is); (case xh_NoWheel => k_is); (case xd_NoWheel => k_is); (case xe_NoWheel => k_is); (case xt_NoWheel => k_is); (case xm_NoWheel => k_is); (case xn_NoWheel => k_is); (case ve_NoWheel => k_is); (case xa_NoTurning => k_is); (case xi_NoTurning => k_is); (case xl_NoTurning => k_is); (case xc_NoTurning => k_is); (case xk_NoTurning => k_is); (case xo_NoTurning => k_is); (case xv_NoTurning => decide +kernel); (case xs_NoTurning => k_is); (case xb_NoTurning => k_is); (case xp_NoTurning => k_is); (case xg_NoTurning => k_is); (case xh_NoTurning => k_is); (case xd_NoTurning => k_is); (case xe_NoTurning => k_is); (case xt_NoTurning => k_is); (case xm_NoTurning => k_is); (case xn_NoTurning => k_is); (case ve_NoTurning => k_is); (case xa_NoLot => k_is); (case xi_NoLot => k_is); (case xl_NoLot => k_is); (case xc_NoLot => k_is); (case xk_NoLot => k_is); (case xo_NoLot => k_is); (case xv_NoLot => decide +kernel); (case xs_NoLot => k_is); (case xb_NoLot => k_is); (case xp_NoLot => k_is); (case xg_NoLot => k_is); (case xh_NoLot => k_is); (case xd_NoLot => k_is); (case xe_NoLot => k_is); (case xt_NoLot => k_is); (case xm_NoLot => k_is); (case xn_NoLot => k_is); (case ve_NoLot => k_is); (case xa_Refused => k_is); (case xi_Refused => k_is); (case xl_Refused => k_is); (case xc_Refused => k_is); (case xk_Refused => k_is); (case xo_Refused => k_is); (case xv_Refused => decide +kernel); (case xs_Refused => k_is); (case xb_Refused => k_is); (case xp_Refused => k_is); (case xg_Refused => k_is); (case xh_Refused => k_is); (case xd_Refused => k_is); (case xe_Refused => k_is); (case xt_Refused => k_is); (case xm_Refused => k_is); (case xn_Refused => k_is); (case ve_Refused => k_is); (case xa_NoFit => k_is); (case xi_NoFit => k_is); (case xl_NoFit => k_is); (case xc_NoFit => k_is); (case xk_NoFit => k_is); (case xo_NoFit => k_is); (case xv_NoFit => decide +kernel); (case xs_NoFit => k_is); (case xb_NoFit => k_is); (case xp_NoFit => k_is); (case xg_NoFit => k_is); (case xh_NoFit => k_is); (case xd_NoFit => k_is); (case xe_NoFit => k_is); (case xt_NoFit => k_is); (case xm_NoFit => k_is); (case ve_NoFit => k_is); (case xa_InvalidCommand => k_is); (case xi_InvalidCommand => k_is); (case xl_InvalidCommand => k_is); (case xc_InvalidCommand => k_is); (case xk_InvalidCommand => k_is); (case xo_InvalidCommand => k_is); (case xv_InvalidCommand => decide +kernel); (case xs_InvalidCommand => k_is); (case xb_InvalidCommand => k_is); (case xp_InvalidCommand => k_is); (case xg_InvalidCommand => k_is); (case xh_InvalidCommand => k_is); (case xd_InvalidCommand => k_is); (case xe_InvalidCommand => k_is); (case xt_InvalidCommand => k_is); (case xm_InvalidCommand => k_is); (case ve_InvalidCommand => k_is); (case a0 => k_is); (case l0 => k_is); (case c0 => k_is); (case k0 => k_is); (case a1 => k_is); (case l1 => k_is); (case c1 => k_is); (case k1 => k_is); (case a2 => k_is); (case l2 => k_is); (case c2 => k_is); (case k2 => k_is); (case a3 => k_is); (case l3 => k_is); (case c3 => k_is); (case k3 => k_is); (case a4 => k_is); (case l4 => k_is); (case c4 => k_is); (case k4 => k_is); (case a5 => k_is); (case l5 => k_is); (case c5 => k_is); (case k5 => k_is); (case a6 => k_is); (case l6 => k_is); (case c6 => k_is); (case k6 => k_is); (case a7 => k_is); (case l7 => k_is); (case c7 => k_is); (case k7 => k_is); (case a8 => k_is); (case l8 => k_is); (case c8 => k_is); (case k8 => k_is); (case z0 => k_is); (case z1 => k_is); (case z2 => k_is); (case z3 => k_is); (case z4 => k_is); (case z5 => k_is); (case z6 => k_is); (case z7 => k_is); (case z8 => k_is); (case z9 => k_is)
