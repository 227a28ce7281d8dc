import PyProof.Rows.All
import Wide.All
import OpenK.AllK
import Wide.FinOn
import HandS.ForMost
import HandS.Star
import HandS.IsInst
import HandS.SortInts
import HandS.Wide
import HandS.WordsExc
import HandS.Walk
import HandS.Flow
import HandS.CallSlots
import HandS.Deep
import HandS.WordsDict
import HandS.TupAny
import KE.GoesMore
import HandS.Style
import HandS.FStr
import HandS.DictComp
import HandS.Comp
import HandS.DictTup
import HandS.List
import PyProof.P3In
import HandS.Defaults
import HandS.Conv
import HandS.RaiseMore
import HandS.OwnEq
import HandS.TupMul
import HandS.SortRule
import HandS.Iter
import KE.KDictDisplayH
import PyProof.Rows.SumAny
import KE.KDictCopyH
import KE.KDictList
import HandS.TupLen
import HandS.More
import HandS.Codes
import PyProof.InstNe
import HandS.SetFor
import HandS.SetKeys
import PyProof.Rows.SetFrom
import PyProof.SetRoads
import HandS.TupLe
import HandS.TryOnly
import HandS.Text
import HandS.ExcField
import HandS.ExcIs
import HandS.ExcInit
import KE.KExcIs
import HandS.TryMany
import PyProof.StrBlock2
import HandS.ClsMeth
import HandS.NoneIn
import HandS.MakeKw
import HandS.HeadHook3
import HandS.ReplaceLit
import HandS.SortOrd
import HandS.NamedTupSort
import KE.SortData
import PySem.Challenge.RW_turnrota_k70_looks_taken_back
import PyProof.Rows.StrJoinMade
import PyProof.Rows.SetFoldBridge
set_option Elab.async false
set_option linter.all false
set_option maxRecDepth 100000
set_option maxHeartbeats 4000000
namespace Dl
open PySem PySem.Spec PyProof.Rows L2
/-! ### data -/
inductive Dt where
  | non | bl (b : Bool) | int (i : Int) | str (x : Str) | ty (n : String)
  | scr (ns : List Int) | lst (xs : List Dt) | tup (xs : List Dt) | dic (t : Bool) (ks vs : List Dt) | ins (c : Nat) (vs : List Dt)
  /-- a list of an inner list of ints, held by it alone, and an int -/
  | deal (cs : List Int) (bl : Int)
  /-- a class of the text; an instance of which it is known where it is -/
  | cls (c : Nat) | obj (a c : Nat) (vs : List Dt)
/-- a parameter that the caller goes on holding: where it is, and what it holds alone -/
abbrev Pin := Addr × List Addr
/-- the classes of the text: their addresses, their fields in order -/
structure Tx where
  K : PySem.W.Frag
  cl : Nat → Option (Addr × List Str)
def kD : Key → Dt
  | .inl i => .int i
  | .inr x => .str x
abbrev Le (F H : Hp) : Prop := ∀ a o, F a = some o → H a = some o
mutual
inductive Rep (T : Tx) (F : Hp) : V → Dt → Prop
  | non : Rep T F .non .non
  | bl (b : Bool) : Rep T F (.bl b) (.bl b)
  | int (i : Int) : Rep T F (.int i) (.int i)
  | str (x : Str) : Rep T F (.str x) (.str x)
  | ty (n : String) : Rep T F (.ty n) (.ty n)
  | scr {a : Addr} {ns : List Int} : SqL T.K F a (ns.map V.int) → Rep T F (.ref a) (.scr ns)
  | lst {a : Addr} {vs : List V} {ds : List Dt} : F a = some (.lst vs) → Reps T F vs ds → Rep T F (.ref a) (.lst ds)
  | tup {a : Addr} {vs : List V} {ds : List Dt} : F a = some (.tup vs) → Reps T F vs ds → Rep T F (.ref a) (.tup ds)
  | tup0 {a : Addr} : SqT T.K F a [] → Rep T F (.ref a) (.tup [])
  | dicK {a : Addr} {ks : List Key} {vs : List V} {ds : List Dt} : F a = some (.dK (ks.zip vs)) → ks.length = vs.length → Reps T F vs ds → Rep T F (.ref a) (.dic false (ks.map kD) ds)
  | dicT {a : Addr} {ks : List (List Key)} {vs : List V} {ds : List Dt} : F a = some (.dT (ks.zip vs)) → ks.length = vs.length → Reps T F vs ds → Rep T F (.ref a) (.dic true (ks.map fun l => .tup (l.map kD)) ds)
  | ins {a C dx : Addr} {c : Nat} {ns : List Str} {vs : List V} {ds : List Dt} : T.cl c = some (C, ns) → F a = some (.ins C dx (ns.zip vs)) → vs.length ≤ ns.length → Reps T F vs ds → Rep T F (.ref a) (.ins c ds)
  | deal {a b : Addr} {cs : List Int} {bl : Int} : F a = some (.lst [.ref b, .int bl]) → F b = some (.lst (cs.map V.int)) → Rep T F (.ref a) (.deal cs bl)
  | cls {C : Addr} {c : Nat} {ns : List Str} : T.cl c = some (C, ns) → Rep T F (.ref C) (.cls c)
  | obj {a C dx : Addr} {c : Nat} {ns : List Str} {vs : List V} {ds : List Dt} : T.cl c = some (C, ns) → F a = some (.ins C dx (ns.zip vs)) → vs.length ≤ ns.length → Reps T F vs ds → Rep T F (.ref a) (.obj a c ds)
inductive Reps (T : Tx) (F : Hp) : List V → List Dt → Prop
  | nil : Reps T F [] []
  | cons {v : V} {vs : List V} {d : Dt} {ds : List Dt} : Rep T F v d → Reps T F vs ds → Reps T F (v :: vs) (d :: ds)
end
theorem le_refl (H : Hp) : Le H H := fun _ _ h => h
theorem le_trans {A B C : Hp} (h : Le A B) (k : Le B C) : Le A C := fun a o e => k a o (h a o e)
theorem le_new {H : Hp} {p : Addr} {o : HO} (h : H p = none) : Le H (upd H p o) := fun a u e => by
  rw [upd_ne (ne_of_none e h)]; exact e
theorem sql_mono {K : PySem.W.Frag} {H H' : Hp} {a : Addr} {xs : List V} (e : Le H H') (h : SqL K H a xs) : SqL K H' a xs := Same.seq e h
theorem sqt_mono {K : PySem.W.Frag} {H H' : Hp} {a : Addr} {xs : List V} (e : Le H H') (h : SqT K H a xs) : SqT K H' a xs := by
  rcases h with (h | ⟨o, h⟩) | h
  · exact .inl (.inl (e _ _ h))
  · exact .inl (.inr ⟨o, e _ _ h⟩)
  · exact .inr h
section
variable {T : Tx} {F F' : Hp}
mutual
theorem Rep.mono (e : Le F F') : ∀ {v : V} {d : Dt}, Rep T F v d → Rep T F' v d
  | _, _, .non => .non
  | _, _, .bl b => .bl b
  | _, _, .int i => .int i
  | _, _, .str x => .str x
  | _, _, .ty n => .ty n
  | _, _, .scr h => .scr (sql_mono e h)
  | _, _, .lst h r => .lst (e _ _ h) (Reps.mono e r)
  | _, _, .tup h r => .tup (e _ _ h) (Reps.mono e r)
  | _, _, .tup0 h => .tup0 (sqt_mono e h)
  | _, _, .dicK h l r => .dicK (e _ _ h) l (Reps.mono e r)
  | _, _, .dicT h l r => .dicT (e _ _ h) l (Reps.mono e r)
  | _, _, .ins c h l r => .ins c (e _ _ h) l (Reps.mono e r)
  | _, _, .deal h l => .deal (e _ _ h) (e _ _ l)
  | _, _, .cls h => .cls h
  | _, _, .obj c h l r => .obj c (e _ _ h) l (Reps.mono e r)
theorem Reps.mono (e : Le F F') : ∀ {vs : List V} {ds : List Dt}, Reps T F vs ds → Reps T F' vs ds
  | _, _, .nil => .nil
  | _, _, .cons h r => .cons (Rep.mono e h) (Reps.mono e r)
end
theorem Reps.length : ∀ {vs : List V} {ds : List Dt}, Reps T F vs ds → vs.length = ds.length
  | _, _, .nil => rfl
  | _, _, .cons _ r => by rw [List.length_cons, List.length_cons, Reps.length r]
theorem Reps.get : ∀ {vs : List V} {ds : List Dt} {i : Nat} {d : Dt}, Reps T F vs ds → ds[i]? = some d → ∃ v, vs[i]? = some v ∧ Rep T F v d
  | _, _, _, _, .nil, e => by simp at e
  | _, _, 0, _, .cons h _, e => by simp at e; subst e; exact ⟨_, rfl, h⟩
  | _, _, i + 1, d, .cons _ r, e => by
    obtain ⟨v, h1, h2⟩ := Reps.get (i := i) (d := d) r (by simpa using e)
    exact ⟨v, by simpa using h1, h2⟩
theorem Reps.append : ∀ {vs ws : List V} {ds es : List Dt}, Reps T F vs ds → Reps T F ws es → Reps T F (vs ++ ws) (ds ++ es)
  | _, _, _, _, .nil, s => s
  | _, _, _, _, .cons h r, s => .cons h (Reps.append r s)
theorem Reps.set {v : V} {d : Dt} (h : Rep T F v d) : ∀ {vs : List V} {ds : List Dt} (i : Nat), Reps T F vs ds → Reps T F (vs.set i v) (ds.set i d)
  | _, _, _, .nil => .nil
  | _, _, 0, .cons _ r => .cons h r
  | _, _, i + 1, .cons q r => .cons q (Reps.set h i r)
theorem Reps.take : ∀ {vs : List V} {ds : List Dt} (n : Nat), Reps T F vs ds → Reps T F (vs.take n) (ds.take n)
  | _, _, 0, _ => .nil
  | _, _, _ + 1, .nil => .nil
  | _, _, n + 1, .cons h r => .cons h (Reps.take n r)
theorem Reps.drop : ∀ {vs : List V} {ds : List Dt} (n : Nat), Reps T F vs ds → Reps T F (vs.drop n) (ds.drop n)
  | _, _, 0, h => h
  | _, _, _ + 1, .nil => .nil
  | _, _, n + 1, .cons _ r => Reps.drop n r
theorem Reps.mk : ∀ {vs : List V} {ds : List Dt}, vs.length = ds.length → (∀ (i : Nat) v d, vs[i]? = some v → ds[i]? = some d → Rep T F v d) → Reps T F vs ds
  | [], [], _, _ => .nil
  | [], _ :: _, h, _ => by simp at h
  | _ :: _, [], h, _ => by simp at h
  | v :: vs, d :: ds, h, f => .cons (f 0 v d rfl rfl) (Reps.mk (by simpa using h) fun i w e a b => f (i + 1) w e (by simpa using a) (by simpa using b))
end
theorem Rep.tup_inv {T : Tx} {F : Hp} {v : V} {ds : List Dt} (h : Rep T F v (.tup ds)) : ∃ a vs, v = .ref a ∧ SqT T.K F a vs ∧ Reps T F vs ds := by
  cases h with
  | tup e r => exact ⟨_, _, rfl, SqT.of e, r⟩
  | tup0 e => exact ⟨_, _, rfl, e, .nil⟩
/-- an object that one slot holds alone: it stands in H, not among the frozen ones -/
def OwnAt (T : Tx) (F H : Hp) (a : Addr) : Dt → Prop
  | .lst ds => ∃ vs, H a = some (.lst vs) ∧ Reps T F vs ds
  | .dic false ks ds => ∃ (kk : List Key) (vs : List V), H a = some (.dK (kk.zip vs)) ∧ kk.length = vs.length ∧ ks = kk.map kD ∧ Reps T F vs ds
  | .dic true ks ds => ∃ (kk : List (List Key)) (vs : List V), H a = some (.dT (kk.zip vs)) ∧ kk.length = vs.length ∧ (ks = kk.map fun l => .tup (l.map kD)) ∧ Reps T F vs ds
  | .ins c ds => ∃ (C dx : Addr) (ns : List Str) (vs : List V), T.cl c = some (C, ns) ∧ H a = some (.ins C dx (ns.zip vs)) ∧ vs.length ≤ ns.length ∧ Reps T F vs ds
  | .deal cs bl => ∃ b, H a = some (.lst [.ref b, .int bl]) ∧ H b = some (.lst (cs.map V.int)) ∧ b ≠ a
  | _ => False
/-- what a slot's own object holds alone -/
def inH (H : Hp) (a : Addr) : Dt → List Addr
  | .deal _ _ => (match H a with | some (.lst (.ref b :: _)) => [b] | _ => [])
  | _ => []
theorem OwnAt.has {T : Tx} {F H : Hp} {a : Addr} {d : Dt} (h : OwnAt T F H a d) : ∃ o, H a = some o ∧ ∀ vs, o ≠ .tup vs := by
  cases d with
  | lst ds => obtain ⟨_, e, _⟩ := h; exact ⟨_, e, fun _ z => nomatch z⟩
  | dic t ks ds =>
    cases t with
    | false => obtain ⟨_, _, e, _⟩ := h; exact ⟨_, e, fun _ z => nomatch z⟩
    | true => obtain ⟨_, _, e, _⟩ := h; exact ⟨_, e, fun _ z => nomatch z⟩
  | ins c ds => obtain ⟨_, _, _, _, _, e, _⟩ := h; exact ⟨_, e, fun _ z => nomatch z⟩
  | deal cs bl => obtain ⟨_, e, _⟩ := h; exact ⟨_, e, fun _ z => nomatch z⟩
  | _ => exact h.elim
theorem inH_deal {H : Hp} {a b : Addr} {cs : List Int} {bl bl' : Int} (h : H a = some (.lst [.ref b, .int bl])) : inH H a (.deal cs bl') = [b] := by
  unfold inH; dsimp only; rw [h]
theorem OwnAt.hasI {T : Tx} {F H : Hp} {a x : Addr} {d : Dt} (h : OwnAt T F H a d) (hx : x = a ∨ x ∈ inH H a d) : ∃ o, H x = some o ∧ ∀ vs, o ≠ .tup vs := by
  rcases hx with hx | hx
  · rw [hx]; exact h.has
  · cases d with
    | deal cs bl => obtain ⟨b, e1, e2, e3⟩ := h; rw [inH_deal e1] at hx; rw [List.mem_singleton.mp hx]; exact ⟨_, e2, fun _ z => nomatch z⟩
    | _ => cases hx
theorem OwnAt.same {T : Tx} {F H H' : Hp} {a : Addr} {d : Dt} (h : OwnAt T F H a d) (ha : ∀ o, H a = some o → H' a = some o) : inH H' a d = inH H a d := by
  cases d with
  | deal cs bl => obtain ⟨b, e1, e2, e3⟩ := h; rw [inH_deal e1, inH_deal (ha _ e1)]
  | _ => rfl
theorem OwnAt.mono {T : Tx} {F F' H H' : Hp} {a : Addr} {d : Dt} (e : Le F F') (ha : ∀ x, (x = a ∨ x ∈ inH H a d) → ∀ o, H x = some o → H' x = some o) (h : OwnAt T F H a d) : OwnAt T F' H' a d := by
  have ha0 := ha a (.inl rfl)
  cases d with
  | lst ds => obtain ⟨vs, x, r⟩ := h; exact ⟨vs, ha0 _ x, r.mono e⟩
  | dic t ks ds =>
    cases t with
    | false => obtain ⟨kk, vs, x, l, k, r⟩ := h; exact ⟨kk, vs, ha0 _ x, l, k, r.mono e⟩
    | true => obtain ⟨kk, vs, x, l, k, r⟩ := h; exact ⟨kk, vs, ha0 _ x, l, k, r.mono e⟩
  | ins c ds => obtain ⟨C, dx, ns, vs, c1, x, l, r⟩ := h; exact ⟨C, dx, ns, vs, c1, ha0 _ x, l, r.mono e⟩
  | deal cs bl => obtain ⟨b, e1, e2, e3⟩ := h; exact ⟨b, ha0 _ e1, ha b (.inr (by rw [inH_deal e1]; exact List.mem_singleton.mpr rfl)) _ e2, e3⟩
  | _ => exact h.elim
/-- it is frozen -/
theorem OwnAt.frozen {T : Tx} {F H : Hp} {a : Addr} {d : Dt} (h : OwnAt T F H a d) (le : Le F H) (hf : F a = none) (hi : ∀ x ∈ inH H a d, F x = none) :
    ∃ F', Le F F' ∧ Le F' H ∧ (∀ y, y ≠ a → y ∉ inH H a d → F' y = F y) ∧ Rep T F' (.ref a) d := by
  have one : ∀ o, H a = some o → Le F (upd F a o) ∧ Le (upd F a o) H ∧ ∀ y, y ≠ a → upd F a o y = F y := fun o ho =>
    ⟨le_new hf, fun y u z => by
      by_cases zz : y = a
      · subst zz; rw [upd_same] at z; cases z; exact ho
      · rw [upd_ne zz] at z; exact le y u z, fun y hy => upd_ne hy⟩
  cases d with
  | lst ds =>
    obtain ⟨vs, x, r⟩ := h; obtain ⟨e1, e2, e3⟩ := one _ x
    exact ⟨_, e1, e2, fun y hy _ => e3 y hy, .lst upd_same (r.mono e1)⟩
  | dic t ks ds =>
    cases t with
    | false =>
      obtain ⟨kk, vs, x, l, k, r⟩ := h; obtain ⟨e1, e2, e3⟩ := one _ x; subst k
      exact ⟨_, e1, e2, fun y hy _ => e3 y hy, .dicK upd_same l (r.mono e1)⟩
    | true =>
      obtain ⟨kk, vs, x, l, k, r⟩ := h; obtain ⟨e1, e2, e3⟩ := one _ x; subst k
      exact ⟨_, e1, e2, fun y hy _ => e3 y hy, .dicT upd_same l (r.mono e1)⟩
  | ins c ds =>
    obtain ⟨C, dx, ns, vs, c1, x, l, r⟩ := h; obtain ⟨e1, e2, e3⟩ := one _ x
    exact ⟨_, e1, e2, fun y hy _ => e3 y hy, .ins c1 upd_same l (r.mono e1)⟩
  | deal cs bl =>
    obtain ⟨b, g1, g2, g3⟩ := h
    obtain ⟨e1, e2, e3⟩ := one _ g1
    rw [inH_deal g1] at hi ⊢
    have hb : F b = none := hi b (List.mem_singleton.mpr rfl)
    have hb2 : upd F a (.lst [.ref b, .int bl]) b = none := by rw [upd_ne g3]; exact hb
    refine ⟨upd (upd F a (.lst [.ref b, .int bl])) b (.lst (cs.map V.int)), le_trans e1 (le_new hb2), fun y u z => ?_, fun y hy hyi => ?_, .deal (b := b) ?_ upd_same⟩
    · by_cases zz : y = b
      · subst zz; rw [upd_same] at z; cases z; exact g2
      · rw [upd_ne zz] at z; exact e2 y u z
    · rw [upd_ne (fun z => hyi (List.mem_singleton.mpr z))]; exact e3 y hy
    · rw [upd_ne (fun z => g3 z.symm)]; exact upd_same
  | _ => exact h.elim
/-- to be read: frozen, or a slot's own -/
def RepS (T : Tx) (F H : Hp) (v : V) (d : Dt) : Prop := Rep T F v d ∨ ∃ a, v = .ref a ∧ OwnAt T F H a d
theorem Rep.s {T : Tx} {F H : Hp} {v : V} {d : Dt} (h : Rep T F v d) : RepS T F H v d := .inl h
/-! ### slots -/
inductive Sl where
  | val (d : Dt)
  /-- held alone; io: a parameter that the caller goes on holding -/
  | own (io : Bool) (d : Dt)
abbrev En := List (Option Sl)
def IsOwn (H : Hp) (σ : L2.St) (ρ : En) (x : Addr) : Prop := ∃ (i : Nat) (io : Bool) (d : Dt) (a : Addr), ρ[i]? = some (some (.own io d)) ∧ σ[i]? = some (some (.ref a)) ∧ (x = a ∨ x ∈ inH H a d)
structure Ok (T : Tx) (π : Nat → Option Pin) (A : Addr → Prop) (F H : Hp) (σ : L2.St) (ρ : En) : Prop where
  le : Le F H
  len : σ.length = ρ.length
  val : ∀ (i : Nat) d, ρ[i]? = some (some (.val d)) → ∃ v, σ[i]? = some (some v) ∧ Rep T F v d
  own : ∀ (i : Nat) io d, ρ[i]? = some (some (.own io d)) → ∃ a, σ[i]? = some (some (.ref a)) ∧ F a = none ∧ OwnAt T F H a d ∧ A a ∧ (io = true → π i = some (a, inH H a d)) ∧ ∀ x ∈ inH H a d, F x = none ∧ A x
  dis : ∀ (i j : Nat) io jo d e a b x, ρ[i]? = some (some (.own io d)) → ρ[j]? = some (some (.own jo e)) → σ[i]? = some (some (.ref a)) → σ[j]? = some (some (.ref b)) → (x = a ∨ x ∈ inH H a d) → (x = b ∨ x ∈ inH H b e) → i = j
structure Fr (A : Addr → Prop) (F H F' H' : Hp) : Prop where
  f : Le F F'
  h : ∀ a o, ¬ A a → H a = some o → H' a = some o
  n : ∀ a o, ¬ A a → H a = some o → (∀ vs, o ≠ .tup vs) → F' a = F a
  t : ∀ a, H' a = none → H a = none
theorem Fr.refl {A : Addr → Prop} {F H : Hp} : Fr A F H F H := ⟨le_refl F, fun _ _ _ e => e, fun _ _ _ _ _ => rfl, fun _ e => e⟩
theorem Fr.trans {A : Addr → Prop} {F H F1 H1 F2 H2 : Hp} (a : Fr A F H F1 H1) (b : Fr A F1 H1 F2 H2) : Fr A F H F2 H2 :=
  ⟨le_trans a.f b.f, fun x o hx e => b.h x o hx (a.h x o hx e), fun x o hx e t => by
    rw [b.n x o hx (a.h x o hx e) t, a.n x o hx e t], fun x e => a.t x (b.t x e)⟩
theorem up_none {H : Hp} {p x : Addr} {o : HO} (e : upd H p o x = none) : H x = none := by
  by_cases z : x = p
  · subst z; rw [upd_same] at e; cases e
  · rw [upd_ne z] at e; exact e
/-- a new object, frozen at once -/
theorem Fr.new {A : Addr → Prop} {F H : Hp} {p : Addr} {o : HO} (hf : Le F H) (hp : H p = none) : Fr A F H (upd F p o) (upd H p o) := by
  have fp : F p = none := by
    cases q : F p with
    | none => rfl
    | some u => rw [hf p u q] at hp; cases hp
  refine ⟨le_new fp, fun a u _ e => le_new hp a u e, fun a o _ e _ => ?_, fun a e => up_none e⟩
  rw [upd_ne fun z => by rw [z, hp] at e; cases e]
theorem f_none {F H : Hp} {p : Addr} (hf : Le F H) (hp : H p = none) : F p = none := by
  cases q : F p with
  | none => rfl
  | some u => rw [hf p u q] at hp; cases hp
/-- a new object, not frozen -/
theorem Fr.newO {A : Addr → Prop} {F H : Hp} {p : Addr} {o : HO} (hp : H p = none) : Fr A F H F (upd H p o) := ⟨le_refl F, fun a u _ e => le_new hp a u e, fun _ _ _ _ _ => rfl, fun a e => up_none e⟩
section
variable {T : Tx} {π : Nat → Option Pin} {A : Addr → Prop} {F H F' H' : Hp} {σ : L2.St} {ρ : En}
/-- what stands is kept, the frozen part grows -/
theorem Ok.grow (k : Ok T π A F H σ ρ) (hf : Le F F') (hl : Le F' H') (hn : ∀ a, IsOwn H σ ρ a → F' a = none) (hh : ∀ a o, IsOwn H σ ρ a → H a = some o → H' a = some o) : Ok T π A F' H' σ ρ := by
  have sm : ∀ (i : Nat) io d a, ρ[i]? = some (some (.own io d)) → σ[i]? = some (some (.ref a)) → inH H' a d = inH H a d := fun i io d a e s => by
    obtain ⟨b, h1, h2, h3, h4, h5, h6⟩ := k.own i io d e
    rw [s] at h1
    cases h1
    exact h3.same fun o q => hh a o ⟨i, io, d, a, e, s, .inl rfl⟩ q
  refine ⟨hl, k.len, fun i d e => ?_, fun i io d e => ?_, fun i j io jo d e a b x h1 h2 h3 h4 h5 h6 => k.dis i j io jo d e a b x h1 h2 h3 h4 (by rw [← sm i io d a h1 h3]; exact h5) (by rw [← sm j jo e b h2 h4]; exact h6)⟩
  · obtain ⟨v, h1, h2⟩ := k.val i d e
    exact ⟨v, h1, h2.mono hf⟩
  · obtain ⟨a, h1, h2, h3, h4, h5, h6⟩ := k.own i io d e
    have w : ∀ x, (x = a ∨ x ∈ inH H a d) → IsOwn H σ ρ x := fun x hx => ⟨i, io, d, a, e, h1, hx⟩
    rw [← sm i io d a e h1] at h5 h6
    exact ⟨a, h1, hn a (w a (.inl rfl)), h3.mono hf fun x hx o q => hh x o (w x hx) q, h4, h5, fun x hx => ⟨hn x (w x (.inr (by rw [← sm i io d a e h1]; exact hx))), (h6 x hx).2⟩⟩
/-- the slots' own things are the same where what stands is kept -/
theorem Ok.sameOwn (k : Ok T π A F H σ ρ) (hh : ∀ a o, IsOwn H σ ρ a → H a = some o → H' a = some o) {x : Addr} : IsOwn H' σ ρ x ↔ IsOwn H σ ρ x := by
  have sm : ∀ (i : Nat) io d a, ρ[i]? = some (some (.own io d)) → σ[i]? = some (some (.ref a)) → inH H' a d = inH H a d := fun i io d a e s => by
    obtain ⟨b, h1, h2, h3, h4, h5, h6⟩ := k.own i io d e
    rw [s] at h1
    cases h1
    exact h3.same fun o q => hh a o ⟨i, io, d, a, e, s, .inl rfl⟩ q
  constructor
  · rintro ⟨i, io, d, a, e, s, hx⟩
    exact ⟨i, io, d, a, e, s, by rw [← sm i io d a e s]; exact hx⟩
  · rintro ⟨i, io, d, a, e, s, hx⟩
    exact ⟨i, io, d, a, e, s, by rw [sm i io d a e s]; exact hx⟩
theorem Ok.ownT (k : Ok T π A F H σ ρ) {a : Addr} (w : IsOwn H σ ρ a) : A a ∧ F a = none ∧ ∃ o, H a = some o ∧ ∀ vs, o ≠ .tup vs := by
  obtain ⟨i, io, d, b, e, s, hx⟩ := w
  obtain ⟨c, h1, h2, h3, h4, h5, h6⟩ := k.own i io d e
  rw [s] at h1
  cases h1
  refine ⟨?_, ?_, h3.hasI hx⟩
  · rcases hx with hx | hx
    · rw [hx]; exact h4
    · exact (h6 a hx).2
  · rcases hx with hx | hx
    · rw [hx]; exact h2
    · exact (h6 a hx).1
theorem Ok.ownH (k : Ok T π A F H σ ρ) {a : Addr} (w : IsOwn H σ ρ a) : A a ∧ F a = none ∧ ∃ o, H a = some o := by
  obtain ⟨h1, h2, o, h3, _⟩ := k.ownT w
  exact ⟨h1, h2, o, h3⟩
theorem Ok.new (k : Ok T π A F H σ ρ) {p : Addr} {o : HO} (hp : H p = none) : Ok T π A (upd F p o) (upd H p o) σ ρ := by
  have ne : ∀ a, IsOwn H σ ρ a → a ≠ p := fun a w z => by
    obtain ⟨_, _, u, e⟩ := k.ownH w
    rw [z, hp] at e; cases e
  refine k.grow (le_new (f_none k.le hp)) (fun a u e => ?_) (fun a w => ?_) fun a u w e => ?_
  · by_cases z : a = p
    · subst z; rw [upd_same] at e ⊢; exact e
    · rw [upd_ne z] at e ⊢; exact k.le a u e
  · rw [upd_ne (ne a w)]; exact (k.ownH w).2.1
  · rw [upd_ne (ne a w)]; exact e
theorem Ok.newO (k : Ok T π A F H σ ρ) {p : Addr} {o : HO} (hp : H p = none) : Ok T π A F (upd H p o) σ ρ := by
  refine k.grow (le_refl F) (le_trans k.le (le_new hp)) (fun a w => (k.ownH w).2.1) fun a u w e => ?_
  rw [upd_ne fun z => by rw [z, hp] at e; cases e]; exact e
end
/-! ### results -/
/-- an exception: its class's number, its fields -/
structure Ex where
  c : Nat
  fs : List Dt
inductive Ou (α : Type) where
  | ok (a : α) (ρ : En)
  | exc (x : Ex) (ρ : En)
  | bad
abbrev Mi (α : Type) := En → Ou α
def mPure {α : Type} (a : α) : Mi α := fun ρ => .ok a ρ
def mBad {α : Type} : Mi α := fun _ => .bad
def mBind {α β : Type} (m : Mi α) (k : α → Mi β) : Mi β := fun ρ => match m ρ with
  | .ok a ρ' => k a ρ'
  | .exc x ρ' => .exc x ρ'
  | .bad => .bad
def mOpt {α : Type} : Option α → Mi α
  | some a => mPure a
  | none => mBad
/-- what is known of a flying exception (filled in where exceptions are) -/
def RepX (T : Tx) (F H : Hp) (cls : Value) (d : Option Addr) (x : Ex) : Prop :=
  ∃ (C dx : Addr) (ns : List Str) (vs : List V), T.cl x.c = some (C, ns) ∧ cls = .ref C ∧ vs.length = ns.length ∧ Reps T F vs x.fs ∧
    ((ns = [] ∧ d = none) ∨ (d = some dx ∧ H dx = some (.xd (ns.zip vs))))
def Post {α : Type} (T : Tx) (π : Nat → Option Pin) (W : WX) (σ : L2.St) (A : Addr → Prop) (F H : Hp) (P : α → En → Hp → Hp → Prop) : Ou α → Prop
  | .ok a ρ' => ∀ F' H', Ok T π A F' H' σ ρ' → Fr A F H F' H' → P a ρ' F' H'
  | .exc x ρ' => ∀ F' H' cls d, Ok T π A F' H' σ ρ' → Fr A F H F' H' → RepX T F' H' cls d x → W cls d σ H'
  | .bad => False
section
variable {T : Tx} {π : Nat → Option Pin} {W : WX} {A : Addr → Prop} {F H : Hp} {σ : L2.St} {α β : Type}
theorem Post.imp {P P' : α → En → Hp → Hp → Prop} {o : Ou α} (h : Post T π W σ A F H P o) (f : ∀ a ρ' F' H', Ok T π A F' H' σ ρ' → Fr A F H F' H' → P a ρ' F' H' → P' a ρ' F' H') : Post T π W σ A F H P' o := by
  cases o with
  | ok a ρ' => exact fun F' H' k r => f a ρ' F' H' k r (h F' H' k r)
  | exc x ρ' => exact h
  | bad => exact h
theorem Post.bind {P : β → En → Hp → Hp → Prop} {m : Mi α} {k : α → Mi β} {ρ : En} (h : Post T π W σ A F H P (mBind m k ρ)) :
    Post T π W σ A F H (fun a ρ1 F1 H1 => Post T π W σ A F1 H1 P (k a ρ1)) (m ρ) := by
  unfold mBind at h
  cases e : m ρ with
  | ok a ρ1 =>
    rw [e] at h
    intro F1 H1 k1 r1
    dsimp only at h
    cases e2 : k a ρ1 with
    | ok b ρ2 =>
      rw [e2] at h
      exact fun F2 H2 k2 r2 => h F2 H2 k2 (r1.trans r2)
    | exc x ρ2 =>
      rw [e2] at h
      exact fun F2 H2 c d k2 r2 => h F2 H2 c d k2 (r1.trans r2)
    | bad => rw [e2] at h; exact h.elim
  | exc x ρ1 => rw [e] at h; exact h
  | bad => rw [e] at h; exact h.elim
theorem Post.pure {P : α → En → Hp → Hp → Prop} {a : α} {ρ : En} (h : Post T π W σ A F H P (mPure a ρ)) (k : Ok T π A F H σ ρ) : P a ρ F H := h F H k .refl
theorem Post.opt {P : α → En → Hp → Hp → Prop} {o : Option α} {ρ : En} (h : Post T π W σ A F H P (mOpt o ρ)) : ∃ a, o = some a ∧ Post T π W σ A F H P (mPure a ρ) := by
  cases o with
  | none => exact h.elim
  | some a => exact ⟨a, rfl, h⟩
end
/-! ### the readings of mirrors -/
section
variable (T : Tx) (π : Nat → Option Pin) (W : WX)
/-- a value that may be kept -/
def TMe (m : Mi Dt) : TE := fun σ H Q => ∃ A F ρ, Ok T π A F H σ ρ ∧ Post T π W σ A F H (fun d _ F' H' => ∀ v, Rep T F' v d → Q v H') (m ρ)
/-- a value to be read at once -/
def TMp (m : Mi Dt) : TE := fun σ H Q => ∃ A F ρ, Ok T π A F H σ ρ ∧ Post T π W σ A F H (fun d _ F' H' => ∀ v, RepS T F' H' v d → Q v H') (m ρ)
/-- a new object that nobody else holds -/
def TMn (m : Mi Dt) : TE := fun σ H Q => ∃ A F ρ, Ok T π A F H σ ρ ∧ Post T π W σ A F H (fun d ρ' F' H' => ∀ p, F' p = none → ¬ IsOwn H' σ ρ' p → H p = none → OwnAt T F' H' p d → (∀ x ∈ inH H' p d, F' x = none ∧ ¬ IsOwn H' σ ρ' x ∧ H x = none) → Q (.ref p) H') (m ρ)
def TMt (m : Mi Bool) : TT := fun σ H Q => ∃ A F ρ, Ok T π A F H σ ρ ∧ Post T π W σ A F H (fun b _ _ H' => Q b H') (m ρ)
def TMa (m : Mi (List Dt)) : TA := fun σ H Q => ∃ A F ρ, Ok T π A F H σ ρ ∧ Post T π W σ A F H (fun ds _ F' H' => ∀ vs, Reps T F' vs ds → Q vs H') (m ρ)
end
end Dl
namespace Dl
open PySem PySem.Spec PyProof.Rows L2
theorem _root_.L2.PE.imp {X : Cx} {e : Expr} {t t' : TE} (h : PE X e t) (f : ∀ σ H Q, t' σ H Q → t σ H Q) : PE X e t' := ⟨fun pins s σ H Q I q => h.run pins s σ H Q I (f σ H Q q)⟩
theorem _root_.L2.PT.imp {X : Cx} {e : Expr} {t t' : TT} (h : PT X e t) (f : ∀ σ H Q, t' σ H Q → t σ H Q) : PT X e t' := ⟨fun pins s σ H Q I q => h.run pins s σ H Q I (f σ H Q q)⟩
theorem _root_.L2.PA.imp {X : Cx} {e : List Expr} {t t' : TA} (h : PA X e t) (f : ∀ σ H Q, t' σ H Q → t σ H Q) : PA X e t' := ⟨fun pos pins s σ H Q I q => h.run pos pins s σ H Q I (f σ H Q q)⟩
theorem _root_.L2.PS.imp {X : Cx} {e : Stmt} {t t' : TS} (h : PS X e t) (f : ∀ D σ H, t' D σ H → t D σ H) : PS X e t' := ⟨fun pins s σ H D I q => h.run pins s σ H D I (f D σ H q)⟩
theorem _root_.L2.PSs.imp {X : Cx} {e : List Stmt} {t t' : TS} (h : PSs X e t) (f : ∀ D σ H, t' D σ H → t D σ H) : PSs X e t' := ⟨fun pins s σ H D I q => h.run pins s σ H D I (f D σ H q)⟩
theorem _root_.L2.PG.imp {X : Cx} {e : Expr} {t t' : TG} (h : PG X e t) (f : ∀ v σ H Q, t' v σ H Q → t v σ H Q) : PG X e t' := ⟨fun pins s σ H v u Q I r q => h.run pins s σ H v u Q I r (f v σ H Q q)⟩
theorem _root_.L2.PI.imp {X : Cx} {tg e : Expr} {t t' : TI} (h : PI X tg e t) (f : ∀ σ H Q, t' σ H Q → t σ H Q) : PI X tg e t' := ⟨fun pins s σ H Q I q => h.run pins s σ H Q I (f σ H Q q)⟩
theorem Post.imp2 {T : Tx} {π : Nat → Option Pin} {W : WX} {A : Addr → Prop} {F H : Hp} {σ : L2.St} {α : Type} {P P' : α → En → Hp → Hp → Prop} {o : Ou α} (h : Post T π W σ A F H P o)
    (f : ∀ a ρ', (∀ F' H', Ok T π A F' H' σ ρ' → Fr A F H F' H' → P a ρ' F' H') → ∀ F' H', Ok T π A F' H' σ ρ' → Fr A F H F' H' → P' a ρ' F' H') : Post T π W σ A F H P' o := by
  cases o with
  | ok a ρ' => exact f a ρ' h
  | exc x ρ' => exact h
  | bad => exact h
section
variable {X : Cx} {T : Tx} {π : Nat → Option Pin} {W : WX} {a b c e : Expr} {es : List Expr} {pos : Pos} {m ma mb mc : Mi Dt}
/-! ### from one kind of value to another -/
theorem _root_.L2.PE.peek (h : PE X e (TMe T π W m)) : PE X e (TMp T π W m) := h.imp fun σ H Q ⟨A, F, ρ, k, p⟩ => ⟨A, F, ρ, k, p.imp fun d ρ' F' H' _ _ q v r => q v r.s⟩
theorem _root_.L2.PE.keep (h : PE X e (TMn T π W m)) : PE X e (TMe T π W m) := h.imp fun σ H Q ⟨A, F, ρ, k, p⟩ => ⟨A, F, ρ, k, p.imp2 fun d ρ' q F' H' k' r' x hx nx hp ho hi => by
  obtain ⟨F2, e1, e2, e3, e4⟩ := ho.frozen k'.le hx (fun y hy => (hi y hy).1)
  have ne : ∀ y, IsOwn H' σ ρ' y → F2 y = F' y := fun y w => e3 y (fun z => nx (z ▸ w)) fun z => (hi y z).2.1 w
  have k2 : Ok T π A F2 H' σ ρ' := k'.grow e1 e2 (fun y w => by rw [ne y w]; exact (k'.ownH w).2.1) fun y u w z => z
  refine q F2 H' k2 ⟨le_trans r'.f e1, r'.h, fun y o hy z t => ?_, r'.t⟩ _ e4
  rw [e3 y (fun zz => by rw [zz, hp] at z; cases z) fun zz => by rw [(hi y zz).2.2] at z; cases z]
  exact r'.n y o hy z t⟩
/-! ### names -/
def mVar (i : Nat) : Mi Dt := fun ρ => match ρ[i]? with
  | some (some (.val d)) => .ok d ρ
  | some (some (.own false d)) => .ok d (ρ.set i (some (.val d)))
  | _ => .bad
def mPeek (i : Nat) : Mi Dt := fun ρ => match ρ[i]? with
  | some (some (.val d)) => .ok d ρ
  | some (some (.own _ d)) => .ok d ρ
  | _ => .bad
/-- a slot's own object is frozen -/
theorem Ok.freeze {A : Addr → Prop} {F H : Hp} {σ : L2.St} {ρ : En} (k : Ok T π A F H σ ρ) {i : Nat} {io : Bool} {d : Dt} (e : ρ[i]? = some (some (.own io d))) :
    ∃ a F', σ[i]? = some (some (.ref a)) ∧ Ok T π A F' H σ (ρ.set i (some (.val d))) ∧ Rep T F' (.ref a) d ∧ Fr A F H F' H := by
  obtain ⟨a, h1, h2, h3, h4, h5, h6⟩ := k.own i io d e
  obtain ⟨F2, e1, e2, e3, e4⟩ := h3.frozen k.le h2 (fun y hy => (h6 y hy).1)
  have hi : i < ρ.length := (List.getElem?_eq_some_iff.mp e).1
  have old : ∀ {j : Nat} {jo : Bool} {dj : Dt}, (ρ.set i (some (Sl.val d)))[j]? = some (some (.own jo dj)) → ρ[j]? = some (some (.own jo dj)) ∧ i ≠ j := fun {j jo dj} ej => by
    by_cases hj : i = j
    · subst hj; rw [List.getElem?_set_self hi] at ej; cases ej
    · rw [List.getElem?_set_ne hj] at ej; exact ⟨ej, hj⟩
  refine ⟨a, F2, h1, ⟨e2, by simpa using k.len, fun j dj ej => ?_, fun j jo dj ej => ?_, fun j l jo lo dj dl b c x ej el => k.dis j l jo lo dj dl b c x (old ej).1 (old el).1⟩, e4, ⟨e1, fun _ _ _ z => z, fun b o hb _ _ => e3 b (fun z => hb (by rw [z]; exact h4)) fun z => hb (h6 b z).2, fun _ z => z⟩⟩
  · by_cases hj : i = j
    · subst hj
      rw [List.getElem?_set_self hi] at ej
      cases ej
      exact ⟨.ref a, h1, e4⟩
    · rw [List.getElem?_set_ne hj] at ej
      obtain ⟨v, q1, q2⟩ := k.val j dj ej
      exact ⟨v, q1, q2.mono e1⟩
  · obtain ⟨ej, hj⟩ := old ej
    obtain ⟨b, q1, q2, q3, q4, q5, q6⟩ := k.own j jo dj ej
    have ne : ∀ x, (x = b ∨ x ∈ inH H b dj) → F2 x = F x := fun x hx => e3 x (fun z => hj (k.dis i j io jo d dj a b x e ej h1 q1 (.inl z) hx)) fun z => hj (k.dis i j io jo d dj a b x e ej h1 q1 (.inr z) hx)
    exact ⟨b, q1, by rw [ne b (.inl rfl)]; exact q2, q3.mono e1 fun _ _ _ z => z, q4, q5, fun x hx => ⟨by rw [ne x (.inr hx)]; exact (q6 x hx).1, (q6 x hx).2⟩⟩
theorem de_var {i : Nat} {x : Str} (h : PE X (.Name x pos) (tVar i)) : PE X (.Name x pos) (TMe T π W (mVar i)) := h.imp fun σ H Q ⟨A, F, ρ, k, p⟩ => by
  unfold mVar at p
  cases e : ρ[i]? with
  | none => rw [e] at p; exact p.elim
  | some s =>
    cases s with
    | none => rw [e] at p; exact p.elim
    | some s =>
      cases s with
      | val d =>
        rw [e] at p
        obtain ⟨v, h1, h2⟩ := k.val i d e
        exact ⟨v, h1, p F H k .refl v h2⟩
      | own io d =>
        cases io with
        | true => rw [e] at p; exact p.elim
        | false =>
          rw [e] at p
          obtain ⟨a, F', h1, h5, h6, h7⟩ := k.freeze e
          exact ⟨.ref a, h1, p F' H h5 h7 _ h6⟩
theorem dp_var {i : Nat} {x : Str} (h : PE X (.Name x pos) (tVar i)) : PE X (.Name x pos) (TMp T π W (mPeek i)) := h.imp fun σ H Q ⟨A, F, ρ, k, p⟩ => by
  unfold mPeek at p
  cases e : ρ[i]? with
  | none => rw [e] at p; exact p.elim
  | some s =>
    cases s with
    | none => rw [e] at p; exact p.elim
    | some s =>
      cases s with
      | val d =>
        rw [e] at p
        obtain ⟨v, h1, h2⟩ := k.val i d e
        exact ⟨v, h1, p F H k .refl v h2.s⟩
      | own io d =>
        rw [e] at p
        obtain ⟨a, h1, h2, h3, h4, h5⟩ := k.own i io d e
        exact ⟨.ref a, h1, p F H k .refl _ (.inr ⟨a, rfl, h3⟩)⟩
/-! ### constants -/
theorem de_c {v : V} {d : Dt} (h : PE X e (tC v)) (r : ∀ F, Rep T F v d) : PE X e (TMe T π W (mPure d)) := h.imp fun σ H Q ⟨A, F, ρ, k, p⟩ => p.pure k v (r F)
theorem de_int {i j} : PE X (.Constant (.int i) j pos) (TMe T π W (mPure (.int i))) := de_c pe_int fun _ => .int i
theorem de_bl {i j} : PE X (.Constant (.bool i) j pos) (TMe T π W (mPure (.bl i))) := de_c pe_bl fun _ => .bl i
theorem de_non {j} : PE X (.Constant .none j pos) (TMe T π W (mPure .non)) := de_c pe_non fun _ => .non
theorem de_str {i j} : PE X (.Constant (.str i) j pos) (TMe T π W (mPure (.str i))) := de_c pe_str fun _ => .str i
/-! ### operators -/
def OpS (T : Tx) (r : R2) (f : Dt → Dt → Option Dt) : Prop := ∀ (π : Nat → Option Pin) (A : Addr → Prop) (F H : Hp) (σ : L2.St) (ρ : En) (v w : V) (d e z : Dt) (Q : VK), Ok T π A F H σ ρ → RepS T F H v d → RepS T F H w e → f d e = some z →
  (∀ F' H' u, Ok T π A F' H' σ ρ → Fr A F H F' H' → Rep T F' u z → Q u H') → r v w H Q
def UnS (T : Tx) (r : V → Hp → VK → Prop) (f : Dt → Option Dt) : Prop := ∀ (π : Nat → Option Pin) (A : Addr → Prop) (F H : Hp) (σ : L2.St) (ρ : En) (v : V) (d z : Dt) (Q : VK), Ok T π A F H σ ρ → RepS T F H v d → f d = some z →
  (∀ F' H' u, Ok T π A F' H' σ ρ → Fr A F H F' H' → Rep T F' u z → Q u H') → r v H Q
def m2 (f : Dt → Dt → Option Dt) (ma mb : Mi Dt) : Mi Dt := mBind ma fun x => mBind mb fun y => mOpt (f x y)
def m1 (f : Dt → Option Dt) (m : Mi Dt) : Mi Dt := mBind m fun x => mOpt (f x)
theorem de_tOp {r : R2} {f : Dt → Dt → Option Dt} (h : PE X e (tOp r (TMe T π W ma) (TMp T π W mb))) (hs : OpS T r f) : PE X e (TMe T π W (m2 f ma mb)) := h.imp fun σ H Q ⟨A, F, ρ, k, p⟩ =>
  ⟨A, F, ρ, k, p.bind.imp fun x ρ1 F1 H1 k1 r1 p1 v rv => ⟨A, F1, ρ1, k1, p1.bind.imp fun y ρ2 F2 H2 k2 r2 p2 w rw => by
    obtain ⟨z, e, p3⟩ := p2.opt
    exact hs π A F2 H2 σ ρ2 v w x y z Q k2 (rv.mono r2.f).s rw e fun F' H' u k' r' ru => p3 F' H' k' r' u ru⟩⟩
theorem de_bin {op : Operator} {r : R2} {f : Dt → Dt → Option Dt} (ho : OpR X (binaryOp op) r) (hs : OpS T r f) (ha : PE X a (TMe T π W ma)) (hb : PE X b (TMp T π W mb)) : PE X (.BinOp a op b pos) (TMe T π W (m2 f ma mb)) :=
  de_tOp (pe_op ho ha hb) hs
theorem de_cmp {op : CmpOp} {r : R2} {f : Dt → Dt → Option Dt} (ho : OpR X (compareOp op) r) (hs : OpS T r f) (ha : PE X a (TMe T π W ma)) (hb : PE X b (TMp T π W mb)) (hm : behindInMarks op b = false) : PE X (.Compare a [op] [b] pos) (TMe T π W (m2 f ma mb)) :=
  de_tOp (pe_cmpR ho ha hb hm) hs
theorem de_un {op : UnaryOp} {r : V → Hp → VK → Prop} {f : Dt → Option Dt} (ho : UnR X (unaryOp op) r) (hs : UnS T r f) (ha : PE X a (TMp T π W ma)) : PE X (.UnaryOp op a pos) (TMe T π W (m1 f ma)) :=
  (pe_un ho ha).imp fun σ H Q ⟨A, F, ρ, k, p⟩ => ⟨A, F, ρ, k, p.bind.imp fun x ρ1 F1 H1 k1 r1 p1 v rv => by
    obtain ⟨z, e, p3⟩ := p1.opt
    exact hs π A F1 H1 σ ρ1 v x z Q k1 rv e fun F' H' u k' r' ru => p3 F' H' k' r' u ru⟩
/-! ### tests -/
def mB (m : Mi Dt) : Mi Bool := mBind m fun d => match d with
  | .bl b => mPure b
  | _ => mBad
theorem Rep.bl_inv {F : Hp} {v : V} {b : Bool} (h : Rep T F v (.bl b)) : v = .bl b := by cases h; rfl
theorem Rep.int_inv {F : Hp} {v : V} {b : Int} (h : Rep T F v (.int b)) : v = .int b := by cases h; rfl
theorem Rep.str_inv {F : Hp} {v : V} {b : Str} (h : Rep T F v (.str b)) : v = .str b := by cases h; rfl
theorem Rep.non_inv {F : Hp} {v : V} (h : Rep T F v .non) : v = .non := by cases h; rfl
theorem RepS.flat {F H : Hp} {v : V} {d : Dt} (h : RepS T F H v d) (hd : match d with | .lst _ => False | .dic _ _ _ => False | .ins _ _ => False | .deal _ _ => False | _ => True) : Rep T F v d := by
  rcases h with h | ⟨a, e, h⟩
  · exact h
  · cases d <;> first | exact hd.elim | exact h.elim
theorem dt_val (h : PE X e (TMe T π W m)) (he : ∀ whole, isTrue e X.env whole = (do let v ← whole; standAt e.pos; holding [v] (truthy v)) := by intro _; rfl) : PT X e (TMt T π W (mB m)) :=
  (pt_val h he).imp fun σ H Q ⟨A, F, ρ, k, p⟩ => ⟨A, F, ρ, k, p.bind.imp fun d ρ1 F1 H1 k1 r1 p1 v rv => by
    cases d with
    | bl b => exact ⟨b, rv.bl_inv, p1.pure k1⟩
    | _ => exact p1.elim⟩
theorem dt_tOp {r : R2} {f : Dt → Dt → Option Dt} (h : PT X e (tTest (tOp r (TMe T π W ma) (TMp T π W mb)))) (hs : OpS T r f) : PT X e (TMt T π W (mB (m2 f ma mb))) := h.imp fun σ H Q ⟨A, F, ρ, k, p⟩ => by
  have p' := p.bind
  exact ⟨A, F, ρ, k, p'.bind.imp fun x ρ1 F1 H1 k1 r1 p1 v rv => ⟨A, F1, ρ1, k1, p1.bind.imp fun y ρ2 F2 H2 k2 r2 p2 w rw => by
    obtain ⟨z, e, p3⟩ := p2.opt
    refine hs π A F2 H2 σ ρ2 v w x y z _ k2 (rv.mono r2.f).s rw e fun F' H' u k' r' ru => ?_
    have p4 := p3 F' H' k' r'
    cases z with
    | bl b => exact ⟨b, ru.bl_inv, p4 F' H' k' .refl⟩
    | _ => exact p4.elim⟩⟩
theorem dt_cmp {op : CmpOp} {r : R2} {f : Dt → Dt → Option Dt} (ho : OpR X (compareOp op) r) (hs : OpS T r f) (ha : PE X a (TMe T π W ma)) (hb : PE X b (TMp T π W mb)) (hm : behindInMarks op b = false) : PT X (.Compare a [op] [b] pos) (TMt T π W (mB (m2 f ma mb))) :=
  dt_tOp (pt_cmpR ho ha hb hm) hs
variable {ta tb : Mi Bool} {rest : List Expr}
def mAnd (s t : Mi Bool) : Mi Bool := mBind s fun b => match b with | true => t | false => mPure false
def mOr (s t : Mi Bool) : Mi Bool := mBind s fun b => match b with | true => mPure true | false => t
def mNot (s : Mi Bool) : Mi Bool := mBind s fun b => mPure (!b)
theorem _root_.L2.PW.imp {t t' : TT} (h : PW X e t) (f : ∀ σ H Q, t' σ H Q → t σ H Q) : PW X e t' := ⟨fun wh pins s σ H Q I q => h.run wh pins s σ H Q I (f σ H Q q)⟩
theorem dw_and1 (ha : PT X a (TMt T π W ta)) : PW X (.BoolOp .And [a] pos) (TMt T π W ta) := pw_and1 ha
theorem dw_or1 (ha : PT X a (TMt T π W ta)) : PW X (.BoolOp .Or [a] pos) (TMt T π W ta) := pw_or1 ha
theorem dw_and (ha : PT X a (TMt T π W ta)) (hb : PW X (.BoolOp .And (b :: rest) pos) (TMt T π W tb)) : PW X (.BoolOp .And (a :: b :: rest) pos) (TMt T π W (mAnd ta tb)) :=
  PW.imp (pw_and ha hb) fun σ H Q ⟨A, F, ρ, k, p⟩ => ⟨A, F, ρ, k, p.bind.imp fun c ρ1 F1 H1 k1 r1 p1 => by
    cases c with
    | true => exact iteT ⟨A, F1, ρ1, k1, p1⟩
    | false => exact iteF (p1.pure k1)⟩
theorem dw_or (ha : PT X a (TMt T π W ta)) (hb : PW X (.BoolOp .Or (b :: rest) pos) (TMt T π W tb)) : PW X (.BoolOp .Or (a :: b :: rest) pos) (TMt T π W (mOr ta tb)) :=
  PW.imp (pw_or ha hb) fun σ H Q ⟨A, F, ρ, k, p⟩ => ⟨A, F, ρ, k, p.bind.imp fun c ρ1 F1 H1 k1 r1 p1 => by
    cases c with
    | false => exact iteF ⟨A, F1, ρ1, k1, p1⟩
    | true => exact iteT (p1.pure k1)⟩
theorem dt_not (ha : PT X a (TMt T π W ta)) : PT X (.UnaryOp .Not a pos) (TMt T π W (mNot ta)) := (pt_not ha).imp fun σ H Q ⟨A, F, ρ, k, p⟩ => ⟨A, F, ρ, k, p.bind.imp fun c ρ1 F1 H1 k1 r1 p1 => p1.pure k1⟩
/-! ### and, or, not as values -/
def mAndV (s t : Mi Dt) : Mi Dt := mBind s fun d => match d with | .bl true => t | .bl false => mPure (.bl false) | _ => mBad
def mOrV (s t : Mi Dt) : Mi Dt := mBind s fun d => match d with | .bl true => mPure (.bl true) | .bl false => t | _ => mBad
def mNotV (s : Mi Dt) : Mi Dt := mBind s fun d => match d with | .bl b => mPure (.bl (!b)) | _ => mBad
theorem de_and (ha : PE X a (TMe T π W ma)) (hb : PE X (.BoolOp .And (b :: rest) pos) (TMe T π W mb)) : PE X (.BoolOp .And (a :: b :: rest) pos) (TMe T π W (mAndV ma mb)) :=
  (pe_and ha hb).imp fun σ H Q ⟨A, F, ρ, k, p⟩ => ⟨A, F, ρ, k, p.bind.imp fun c ρ1 F1 H1 k1 r1 p1 v rv => by
    cases c with
    | bl c =>
      refine ⟨c, rv.bl_inv, ?_⟩
      cases c with
      | true => exact iteT ⟨A, F1, ρ1, k1, p1⟩
      | false => exact iteF (p1.pure k1 _ (.bl false))
    | _ => exact p1.elim⟩
theorem de_or (ha : PE X a (TMe T π W ma)) (hb : PE X (.BoolOp .Or (b :: rest) pos) (TMe T π W mb)) : PE X (.BoolOp .Or (a :: b :: rest) pos) (TMe T π W (mOrV ma mb)) :=
  (pe_or ha hb).imp fun σ H Q ⟨A, F, ρ, k, p⟩ => ⟨A, F, ρ, k, p.bind.imp fun c ρ1 F1 H1 k1 r1 p1 v rv => by
    cases c with
    | bl c =>
      refine ⟨c, rv.bl_inv, ?_⟩
      cases c with
      | false => exact iteF ⟨A, F1, ρ1, k1, p1⟩
      | true => exact iteT (p1.pure k1 _ (.bl true))
    | _ => exact p1.elim⟩
theorem de_one {op} (ha : PE X a (TMe T π W ma)) : PE X (.BoolOp op [a] pos) (TMe T π W ma) := pe_one ha
theorem de_not (ha : PE X a (TMe T π W ma)) : PE X (.UnaryOp .Not a pos) (TMe T π W (mNotV ma)) := (pe_not ha).imp fun σ H Q ⟨A, F, ρ, k, p⟩ => ⟨A, F, ρ, k, p.bind.imp fun c ρ1 F1 H1 k1 r1 p1 v rv => by
    cases c with
    | bl c => exact ⟨c, rv.bl_inv, p1.pure k1 _ (.bl _)⟩
    | _ => exact p1.elim⟩
/-- a if t else b -/
def mIfE (t : Mi Bool) (ma mb : Mi Dt) : Mi Dt := mBind t fun b => match b with | true => ma | false => mb
theorem de_ifExp (hc : PT X c (TMt T π W ta)) (ha : PE X a (TMe T π W ma)) (hb : PE X b (TMe T π W mb)) : PE X (.IfExp c a b pos) (TMe T π W (mIfE ta ma mb)) :=
  (pe_ifExp hc ha hb).imp fun σ H Q ⟨A, F, ρ, k, p⟩ => ⟨A, F, ρ, k, p.bind.imp fun c ρ1 F1 H1 k1 r1 p1 => by
    cases c with
    | true => exact iteT ⟨A, F1, ρ1, k1, p1⟩
    | false => exact iteF ⟨A, F1, ρ1, k1, p1⟩⟩
/-! ### displays -/
def mCons (m : Mi Dt) (ms : Mi (List Dt)) : Mi (List Dt) := mBind m fun d => mBind ms fun ds => mPure (d :: ds)
def mStar (m : Mi Dt) (ms : Mi (List Dt)) : Mi (List Dt) := mBind m fun d => match d with
  | .lst xs => mBind ms fun ds => mPure (xs ++ ds)
  | .tup xs => mBind ms fun ds => mPure (xs ++ ds)
  | _ => mBad
variable {ms : Mi (List Dt)}
theorem da_nil : PA X [] (TMa T π W (mPure [])) := pa_nil.imp fun σ H Q ⟨A, F, ρ, k, p⟩ => p.pure k [] .nil
theorem da_cons (he : PE X e (TMe T π W m)) (hr : PA X es (TMa T π W ms)) (hs : starEach (e :: es) X.env = (false, eval e X.env) :: starEach es X.env := by rfl) : PA X (e :: es) (TMa T π W (mCons m ms)) :=
  (pa_cons he hr hs).imp fun σ H Q ⟨A, F, ρ, k, p⟩ => ⟨A, F, ρ, k, p.bind.imp fun d ρ1 F1 H1 k1 r1 p1 v rv => ⟨A, F1, ρ1, k1, p1.bind.imp fun ds ρ2 F2 H2 k2 r2 p2 vs rvs => p2.pure k2 (v :: vs) (.cons (rv.mono r2.f) rvs)⟩⟩
theorem RepS.seq {F H : Hp} {v : V} {d : Dt} {xs : List Dt} (h : RepS T F H v d) (le : Le F H) (hd : d = .lst xs ∨ d = .tup xs) : ∃ p vs, v = .ref p ∧ (SqL T.K H p vs ∨ SqT T.K H p vs) ∧ Reps T F vs xs ∧ (d = .lst xs → SqL T.K H p vs) ∧ (d = .tup xs → SqT T.K H p vs) := by
  rcases h with h | ⟨a, e, h⟩
  · rcases hd with rfl | rfl
    · cases h with
      | lst q r => exact ⟨_, _, rfl, .inl (SqL.of (le _ _ q)), r, fun _ => SqL.of (le _ _ q), fun z => by cases z⟩
    · obtain ⟨a, vs, e, q, r⟩ := h.tup_inv
      exact ⟨a, vs, e, .inr (sqt_mono le q), r, (fun z => by cases z), fun _ => sqt_mono le q⟩
  · rcases hd with rfl | rfl
    · obtain ⟨vs, q, r⟩ := h
      exact ⟨a, vs, e, .inl (SqL.of q), r, fun _ => SqL.of q, fun z => by cases z⟩
    · exact h.elim
theorem da_star {p : Pos} (hK : X.K = T.K) (he : PE X e (TMp T π W m)) (hr : PA X es (TMa T π W ms)) (hpa : PA X (.Starred e p :: es) (StX.tStar X.K (TMp T π W m) (TMa T π W ms))) : PA X (.Starred e p :: es) (TMa T π W (mStar m ms)) :=
  hpa.imp fun σ H Q ⟨A, F, ρ, k, p⟩ => ⟨A, F, ρ, k, p.bind.imp fun d ρ1 F1 H1 k1 r1 p1 v rv => by
    have go : ∀ xs, (d = .lst xs ∨ d = .tup xs) → Post T π W σ A F1 H1 (fun ds _ F' H' => ∀ vs, Reps T F' vs ds → Q vs H') ((mBind ms fun ds => mPure (xs ++ ds)) ρ1) →
        ∃ p ys, v = V.ref p ∧ (SqT X.K H1 p ys ∨ SqL X.K H1 p ys) ∧ TMa T π W ms σ H1 fun zs H2 => Q (ys ++ zs) H2 := fun xs hx pp => by
      obtain ⟨a, vs, e1, q, r, _⟩ := rv.seq k1.le hx
      rw [hK]
      exact ⟨a, vs, e1, q.symm, A, F1, ρ1, k1, pp.bind.imp fun ds ρ2 F2 H2 k2 r2 p2 ws rws => p2.pure k2 _ ((r.mono r2.f).append rws)⟩
    cases d with
    | lst xs => exact go xs (.inl rfl) p1
    | tup xs => exact go xs (.inr rfl) p1
    | _ => exact p1.elim⟩
def mTup (ms : Mi (List Dt)) : Mi Dt := mBind ms fun ds => if ds.length ≤ sizeLine then mPure (.tup ds) else mBad
def mLst (ms : Mi (List Dt)) : Mi Dt := mBind ms fun ds => if ds.length ≤ sizeLine then mPure (.lst ds) else mBad
theorem de_tup {x1} (h : PA X es (TMa T π W ms)) : PE X (.Tuple es x1 pos) (TMe T π W (mTup ms)) := (pe_tup h).imp fun σ H Q ⟨A, F, ρ, k, p⟩ => ⟨A, F, ρ, k, p.bind.imp fun ds ρ1 F1 H1 k1 r1 p1 vs rvs => by
  split at p1
  · rename_i hl
    refine ⟨by rw [rvs.length]; exact hl, fun x hx => ?_⟩
    exact p1 (upd F1 x (.tup vs)) (upd H1 x (.tup vs)) (k1.new hx) (.new k1.le hx) _ (.tup upd_same (rvs.mono (le_new (f_none k1.le hx))))
  · exact p1.elim⟩
/-- a fresh address is no slot's own -/
theorem Ok.fresh_own {A : Addr → Prop} {F H : Hp} {σ : L2.St} {ρ : En} (k : Ok T π A F H σ ρ) {p : Addr} (hp : H p = none) : ¬ IsOwn H σ ρ p := fun w => by
  obtain ⟨_, _, o, e⟩ := k.ownH w
  rw [hp] at e; cases e
theorem Ok.fresh_new {A : Addr → Prop} {F H : Hp} {σ : L2.St} {ρ : En} (k : Ok T π A F H σ ρ) {p : Addr} {o : HO} (hp : H p = none) : ¬ IsOwn (upd H p o) σ ρ p := fun w =>
  k.fresh_own hp ((k.sameOwn fun a u _ e => le_new hp a u e).mp w)
end
end Dl
namespace Dl
open PySem PySem.Spec PyProof.Rows L2
section
variable {X : Cx} {T : Tx} {π : Nat → Option Pin} {W : WX} {a b c e : Expr} {es : List Expr} {pos : Pos} {m ma mb mc : Mi Dt} {ms : Mi (List Dt)} {A A' : Addr → Prop} {F H F' H' F0 H0 : Hp} {σ : L2.St} {ρ : En}
theorem Ok.weak (k : Ok T π A F H σ ρ) (h : ∀ a, A a → A' a) : Ok T π A' F H σ ρ := ⟨k.le, k.len, k.val, fun i io d e => by
  obtain ⟨x, h1, h2, h3, h4, h5⟩ := k.own i io d e
  exact ⟨x, h1, h2, h3, h _ h4, h5.1, fun y hy => ⟨(h5.2 y hy).1, h _ (h5.2 y hy).2⟩⟩, k.dis⟩
theorem Ok.tight (k : Ok T π A F H σ ρ) : Ok T π (IsOwn H σ ρ) F H σ ρ := ⟨k.le, k.len, k.val, fun i io d e => by
  obtain ⟨x, h1, h2, h3, h4, h5⟩ := k.own i io d e
  exact ⟨x, h1, h2, h3, ⟨i, io, d, x, e, h1, .inl rfl⟩, h5.1, fun y hy => ⟨(h5.2 y hy).1, ⟨i, io, d, x, e, h1, .inr hy⟩⟩⟩, k.dis⟩
theorem Fr.weak (r : Fr A F H F' H') (h : ∀ a, A a → A' a) : Fr A' F H F' H' := ⟨r.f, fun a o n e => r.h a o (fun z => n (h a z)) e, fun a o n e t => r.n a o (fun z => n (h a z)) e t, r.t⟩
theorem Post.weak {α : Type} {P : α → En → Hp → Hp → Prop} {o : Ou α} (p : Post T π W σ A F H P o) (h : ∀ a, A' a → A a) : Post T π W σ A' F H P o := by
  cases o with
  | ok a ρ' => exact fun F' H' k r => p F' H' (k.weak h) (r.weak h)
  | exc x ρ' => exact fun F' H' c d k r => p F' H' c d (k.weak h) (r.weak h)
  | bad => exact p
theorem Ok.ownA (k : Ok T π A F H σ ρ) {a : Addr} (w : IsOwn H σ ρ a) : A a := (k.ownH w).1
/-- [..]: a new list -/
theorem dn_lst (h : PA X es (TMa T π W ms)) : PE X (.List es pos) (TMn T π W (mLst ms)) := (pe_lst h).imp fun σ H Q ⟨A, F, ρ, k, p⟩ => ⟨A, F, ρ, k, p.bind.imp fun ds ρ1 F1 H1 k1 r1 p1 vs rvs => by
  split at p1
  · rename_i hl
    refine ⟨by rw [rvs.length]; exact hl, fun x hx => ?_⟩
    exact p1 F1 (upd H1 x (.lst vs)) (k1.newO hx) (.newO hx) x (f_none k1.le hx) (k1.fresh_new hx) (r1.t x hx) ⟨vs, upd_same, rvs⟩ (fun _ z => nomatch z)
  · exact p1.elim⟩
/-! ### several values, some of them new objects -/
inductive Gk (T : Tx) (F H : Hp) (A : Addr → Prop) : List Bool → List V → List Dt → List Addr → Prop
  | nil : Gk T F H A [] [] [] []
  | val {v : V} {d : Dt} {ks : List Bool} {vs : List V} {ds : List Dt} {as : List Addr} : Rep T F v d → Gk T F H A ks vs ds as → Gk T F H A (false :: ks) (v :: vs) (d :: ds) as
  | own {p : Addr} {d : Dt} {ks : List Bool} {vs : List V} {ds : List Dt} {as : List Addr} : F p = none → ¬ A p → OwnAt T F H p d → p ∉ as → (∀ x ∈ inH H p d, F x = none ∧ ¬ A x ∧ x ∉ as) → Gk T F H A ks vs ds as → Gk T F H A (true :: ks) (.ref p :: vs) (d :: ds) (p :: (inH H p d ++ as))
def TMk (T : Tx) (π : Nat → Option Pin) (W : WX) (ks : List Bool) (m : Mi (List Dt)) : TA := fun σ H Q => ∃ A F ρ, Ok T π A F H σ ρ ∧ (∀ a, A a → H a ≠ none) ∧
  Post T π W σ A F H (fun ds _ F' H' => ∀ vs as, Gk T F' H' A ks vs ds as → (∀ a ∈ as, H a = none) → Q vs H') (m ρ)
variable {ks : List Bool}
theorem dk_nil : PA X [] (TMk T π W [] (mPure [])) := pa_nil.imp fun σ H Q ⟨A, F, ρ, k, ht, p⟩ => p.pure k [] [] .nil (fun _ z => nomatch z)
theorem dk_val (he : PE X e (TMe T π W m)) (hr : PA X es (TMk T π W ks ms)) (hs : starEach (e :: es) X.env = (false, eval e X.env) :: starEach es X.env := by rfl) : PA X (e :: es) (TMk T π W (false :: ks) (mCons m ms)) :=
  (pa_cons he hr hs).imp fun σ H Q ⟨A, F, ρ, k, ht, p⟩ => ⟨A, F, ρ, k, p.bind.imp fun d ρ1 F1 H1 k1 r1 p1 v rv =>
    ⟨A, F1, ρ1, k1, fun a z e => ht a z (r1.t a e), p1.bind.imp fun ds ρ2 F2 H2 k2 r2 p2 vs as g ha => p2.pure k2 (v :: vs) as (.val (rv.mono r2.f) g) fun a z => r1.t a (ha a z)⟩⟩
theorem dk_own (he : PE X e (TMn T π W m)) (hr : PA X es (TMk T π W ks ms)) (hs : starEach (e :: es) X.env = (false, eval e X.env) :: starEach es X.env := by rfl) : PA X (e :: es) (TMk T π W (true :: ks) (mCons m ms)) :=
  (pa_cons he hr hs).imp fun σ H Q ⟨A, F, ρ, k, ht, p⟩ => ⟨A, F, ρ, k, p.bind.imp fun d ρ1 F1 H1 k1 r1 p1 x hx nx hp ho hi =>
    ⟨A, F1, ρ1, k1, fun a z e => ht a z (r1.t a e), p1.bind.imp fun ds ρ2 F2 H2 k2 r2 p2 vs as g ha => by
      have hpi : ∀ y, (y = x ∨ y ∈ inH H1 x d) → H y = none := fun y hy => hy.elim (fun z => z ▸ hp) fun z => (hi y z).2.2
      have hfi : ∀ y, (y = x ∨ y ∈ inH H1 x d) → F1 y = none := fun y hy => hy.elim (fun z => z ▸ hx) fun z => (hi y z).1
      have nA : ∀ y, (y = x ∨ y ∈ inH H1 x d) → ¬ A y := fun y hy z => ht y z (hpi y hy)
      have f2 : ∀ y, (y = x ∨ y ∈ inH H1 x d) → F2 y = none := fun y hy => by
        obtain ⟨o, eo, et⟩ := ho.hasI hy
        rw [r2.n y o (nA y hy) eo et]; exact hfi y hy
      have nas : ∀ y, (y = x ∨ y ∈ inH H1 x d) → y ∉ as := fun y hy z => by
        obtain ⟨o, eo, et⟩ := ho.hasI hy
        rw [ha y z] at eo; cases eo
      have sm : inH H2 x d = inH H1 x d := ho.same fun o q => r2.h x o (nA x (.inl rfl)) q
      refine p2.pure k2 (.ref x :: vs) (x :: (inH H2 x d ++ as)) (.own (f2 x (.inl rfl)) (nA x (.inl rfl)) (ho.mono r2.f fun y hy o q => r2.h y o (nA y hy) q) (nas x (.inl rfl)) (fun y hy => by rw [sm] at hy; exact ⟨f2 y (.inr hy), nA y (.inr hy), nas y (.inr hy)⟩) g) fun a z => ?_
      rw [sm] at z
      rcases List.mem_cons.mp z with z | z
      · exact hpi a (.inl z)
      · rcases List.mem_append.mp z with z | z
        · exact hpi a (.inr z)
        · exact r1.t a (ha a z)⟩⟩
/-! ### statements -/
inductive So where
  | nx (ρ : En) | rt (d : Dt) (ρ : En) | rtN (d : Dt) (ρ : En) | bk (ρ : En) | ct (ρ : En) | exc (x : Ex) (ρ : En) | bad
structure StOk (T : Tx) (π : Nat → Option Pin) (A : Addr → Prop) (F0 H0 F H : Hp) (σ : L2.St) (ρ : En) : Prop where
  ok : Ok T π (fun a => A a ∨ H0 a = none) F H σ ρ
  fr : Fr A F0 H0 F H
theorem StOk.step {σ' : L2.St} {ρ' : En} (s : StOk T π A F0 H0 F H σ ρ) (k : Ok T π (fun a => A a ∨ H0 a = none) F' H' σ' ρ') (r : Fr (fun a => A a ∨ H0 a = none) F H F' H') : StOk T π A F0 H0 F' H' σ' ρ' :=
  ⟨k, le_trans s.fr.f r.f, fun a o n e => r.h a o (fun z => z.elim n fun z => by rw [z] at e; cases e) (s.fr.h a o n e), fun a o n e t => by
    rw [r.n a o (fun z => z.elim n fun z => by rw [z] at e; cases e) (s.fr.h a o n e) t, s.fr.n a o n e t], fun a e => s.fr.t a (r.t a e)⟩
theorem StOk.start (s : StOk T π A F0 H0 F H σ ρ) {σ' : L2.St} {ρ' : En} (k : Ok T π (fun a => A a ∨ H0 a = none) F H σ' ρ') : StOk T π (fun a => A a ∨ H0 a = none) F H F H σ' ρ' := ⟨k.weak fun _ z => .inl z, .refl⟩
theorem StOk.rebase {σ' : L2.St} {ρ' : En} (s : StOk T π A F0 H0 F H σ ρ) (k : StOk T π (fun a => A a ∨ H0 a = none) F H F' H' σ' ρ') : StOk T π A F0 H0 F' H' σ' ρ' :=
  s.step (k.ok.weak fun a z => z.elim id fun z => .inr (s.fr.t a z)) k.fr
def PostS (T : Tx) (π : Nat → Option Pin) (W : WX) (A : Addr → Prop) (F0 H0 : Hp) (D : Ends) : So → Prop
  | .nx ρ' => ∀ σ' F' H', StOk T π A F0 H0 F' H' σ' ρ' → D.nx σ' H'
  | .bk ρ' => ∀ σ' F' H', StOk T π A F0 H0 F' H' σ' ρ' → D.bk σ' H'
  | .ct ρ' => ∀ σ' F' H', StOk T π A F0 H0 F' H' σ' ρ' → D.ct σ' H'
  | .rt d ρ' => ∀ σ' F' H' v, StOk T π A F0 H0 F' H' σ' ρ' → Rep T F' v d → D.rt v H'
  | .rtN d ρ' => ∀ σ' F' H' p, StOk T π A F0 H0 F' H' σ' ρ' → F' p = none → ¬ IsOwn H' σ' ρ' p → (A p ∨ H0 p = none) → OwnAt T F' H' p d → (∀ x ∈ inH H' p d, F' x = none ∧ ¬ IsOwn H' σ' ρ' x ∧ (A x ∨ H0 x = none)) → D.rt (.ref p) H'
  | .exc x ρ' => ∀ σ' F' H' cls d, StOk T π A F0 H0 F' H' σ' ρ' → RepX T F' H' cls d x → W cls d σ' H'
  | .bad => False
def TMs (T : Tx) (π : Nat → Option Pin) (W : WX) (s : En → So) : TS := fun D σ H => ∃ A F0 H0 F ρ, StOk T π A F0 H0 F H σ ρ ∧ PostS T π W A F0 H0 D (s ρ)
def sBind {α : Type} (m : Mi α) (k : α → En → So) : En → So := fun ρ => match m ρ with
  | .ok a ρ' => k a ρ'
  | .exc x ρ' => .exc x ρ'
  | .bad => .bad
theorem PostS.bind {α : Type} {D : Ends} {m : Mi α} {k : α → En → So} (p : PostS T π W A F0 H0 D (sBind m k ρ)) (s : StOk T π A F0 H0 F H σ ρ) :
    Post T π W σ (fun a => A a ∨ H0 a = none) F H (fun a ρ1 F1 H1 => StOk T π A F0 H0 F1 H1 σ ρ1 ∧ PostS T π W A F0 H0 D (k a ρ1)) (m ρ) := by
  unfold sBind at p
  cases e : m ρ with
  | ok x ρ1 =>
    rw [e] at p
    exact fun F1 H1 k1 r1 => ⟨s.step k1 r1, p⟩
  | exc x ρ1 =>
    rw [e] at p
    exact fun F1 H1 c d k1 r1 x => p σ F1 H1 c d (s.step k1 r1) x
  | bad => rw [e] at p; exact p.elim
variable {s t : En → So} {st : Stmt} {rest : List Stmt}
def sSeq (s t : En → So) : En → So := fun ρ => match s ρ with
  | .nx ρ' => t ρ'
  | o => o
theorem dss_cons (h1 : PS X st (TMs T π W s)) (h2 : PSs X rest (TMs T π W t)) : PSs X (st :: rest) (TMs T π W (sSeq s t)) := (pss_cons h1 h2).imp fun D σ H ⟨A, F0, H0, F, ρ, k, p⟩ => ⟨A, F0, H0, F, ρ, k, by
  unfold sSeq at p
  cases e : s ρ with
  | nx ρ' => rw [e] at p; exact fun σ' F' H' k' => ⟨A, F0, H0, F', ρ', k', p⟩
  | rt d ρ' => rw [e] at p; exact p
  | rtN d ρ' => rw [e] at p; exact p
  | bk ρ' => rw [e] at p; exact p
  | ct ρ' => rw [e] at p; exact p
  | exc d ρ' => rw [e] at p; exact p
  | bad => rw [e] at p; exact p⟩
theorem dss_one (h1 : PS X st (TMs T π W s)) : PSs X [st] (TMs T π W s) := pss_one h1
theorem dss_nil : PSs X [] (TMs T π W (fun ρ => .nx ρ)) := pss_nil.imp fun D σ H ⟨A, F0, H0, F, ρ, k, p⟩ => p σ F H k
theorem ds_cont : PS X (.Continue pos) (TMs T π W (fun ρ => .ct ρ)) := ps_continue.imp fun D σ H ⟨A, F0, H0, F, ρ, k, p⟩ => p σ F H k
theorem ds_never : PS X st (TMs T π W (fun _ => .bad)) := ps_never.imp fun D σ H ⟨A, F0, H0, F, ρ, k, p⟩ => p
def sIf (c : Mi Bool) (s t : En → So) : En → So := sBind c fun b => match b with | true => s | false => t
theorem ds_if {x y : List Stmt} {mc : Mi Bool} (hc : PT X c (TMt T π W mc)) (ha : PSs X x (TMs T π W s)) (hb : PSs X y (TMs T π W t)) : PS X (.If c x y pos) (TMs T π W (sIf mc s t)) :=
  (ps_if hc ha hb).imp fun D σ H ⟨A, F0, H0, F, ρ, k, p⟩ => ⟨_, F, ρ, k.ok, (p.bind k).imp fun b ρ1 F1 H1 _ _ ⟨k1, p1⟩ => by
    cases b with
    | true => exact iteT ⟨A, F0, H0, F1, ρ1, k1, p1⟩
    | false => exact iteF ⟨A, F0, H0, F1, ρ1, k1, p1⟩⟩
def sRet (m : Mi Dt) : En → So := sBind m fun d ρ => .rt d ρ
def sRetN (m : Mi Dt) : En → So := sBind m fun d ρ => .rtN d ρ
def sDrop (m : Mi Dt) : En → So := sBind m fun _ ρ => .nx ρ
theorem ds_ret (he : PE X e (TMe T π W m)) : PS X (.Return (some e) pos) (TMs T π W (sRet m)) := (ps_ret he).imp fun D σ H ⟨A, F0, H0, F, ρ, k, p⟩ => ⟨_, F, ρ, k.ok, (p.bind k).imp fun d ρ1 F1 H1 _ _ ⟨k1, p1⟩ v rv => p1 σ F1 H1 v k1 rv⟩
theorem ds_retN (he : PE X e (TMn T π W m)) : PS X (.Return (some e) pos) (TMs T π W (sRetN m)) := (ps_ret he).imp fun D σ H ⟨A, F0, H0, F, ρ, k, p⟩ => ⟨_, F, ρ, k.ok, (p.bind k).imp fun d ρ1 F1 H1 _ _ ⟨k1, p1⟩ x h1 h2 h3 h4 h5 =>
  p1 σ F1 H1 x k1 h1 h2 (.inr (k.fr.t x h3)) h4 fun y hy => ⟨(h5 y hy).1, (h5 y hy).2.1, .inr (k.fr.t y (h5 y hy).2.2)⟩⟩
theorem ds_expr (he : PE X e (TMe T π W m)) (hs : swapsWith e none pos.line X.env = pure false := by rfl) : PS X (.Expr e pos) (TMs T π W (sDrop m)) := (ps_expr he hs).imp fun D σ H ⟨A, F0, H0, F, ρ, k, p⟩ => ⟨_, F, ρ, k.ok, (p.bind k).imp fun d ρ1 F1 H1 _ _ ⟨k1, p1⟩ v rv => p1 σ F1 H1 k1⟩
/-! ### names are stored -/
def setSl (i : Nat) (s : Sl) (ρ : En) : Option En := match ρ[i]? with
  | some (some (.own true _)) => none
  | some _ => some (ρ.set i (some s))
  | none => none
theorem setSl_inv {i : Nat} {s : Sl} {ρ ρ' : En} (h : setSl i s ρ = some ρ') : i < ρ.length ∧ ρ' = ρ.set i (some s) ∧ ∀ d, ρ[i]? ≠ some (some (.own true d)) := by
  unfold setSl at h
  split at h
  · cases h
  · rename_i x hn hx
    cases h
    exact ⟨(List.getElem?_eq_some_iff.mp hx).1, rfl, fun d z => hn d (Option.some.inj (hx.symm.trans z))⟩
  · cases h
theorem Ok.set {i : Nat} {v : V} {d : Dt} {ρ' : En} (k : Ok T π A F H σ ρ) (r : Rep T F v d) (h : setSl i (.val d) ρ = some ρ') : Ok T π A F H (σ.set i (some v)) ρ' := by
  obtain ⟨hi, rfl, hio⟩ := setSl_inv h
  have hσ : i < σ.length := by rw [k.len]; exact hi
  have ol : ∀ (j : Nat) jo dj, (ρ.set i (some (.val d)))[j]? = some (some (.own jo dj)) → i ≠ j ∧ ρ[j]? = some (some (.own jo dj)) := fun j jo dj ej => by
    by_cases hj : i = j
    · subst hj; rw [List.getElem?_set_self hi] at ej; cases ej
    · rw [List.getElem?_set_ne hj] at ej; exact ⟨hj, ej⟩
  refine ⟨k.le, by simpa using k.len, fun j dj ej => ?_, fun j jo dj ej => ?_, fun j l jo lo dj dl a b x ej el sj sl => ?_⟩
  · by_cases hj : i = j
    · subst hj
      rw [List.getElem?_set_self hi] at ej
      cases ej
      exact ⟨v, List.getElem?_set_self hσ, r⟩
    · rw [List.getElem?_set_ne hj] at ej
      rw [List.getElem?_set_ne hj]
      exact k.val j dj ej
  · obtain ⟨hj, q⟩ := ol j jo dj ej
    rw [List.getElem?_set_ne hj]
    exact k.own j jo dj q
  · obtain ⟨hj, q⟩ := ol j jo dj ej
    obtain ⟨hl, q2⟩ := ol l lo dl el
    rw [List.getElem?_set_ne hj] at sj
    rw [List.getElem?_set_ne hl] at sl
    exact k.dis j l jo lo dj dl a b x q q2 sj sl
theorem Ok.setN {i : Nat} {p : Addr} {d : Dt} {ρ' : En} (k : Ok T π A F H σ ρ) (hf : F p = none) (hn : ¬ IsOwn H σ ρ p) (hA : A p) (ho : OwnAt T F H p d) (hI : ∀ x ∈ inH H p d, F x = none ∧ ¬ IsOwn H σ ρ x ∧ A x) (h : setSl i (.own false d) ρ = some ρ') : Ok T π A F H (σ.set i (some (.ref p))) ρ' := by
  obtain ⟨hi, rfl, hio⟩ := setSl_inv h
  have hσ : i < σ.length := by rw [k.len]; exact hi
  have nI : ∀ x, (x = p ∨ x ∈ inH H p d) → ¬ IsOwn H σ ρ x := fun x hx => hx.elim (fun z => z ▸ hn) fun z => (hI x z).2.1
  refine ⟨k.le, by simpa using k.len, fun j dj ej => ?_, fun j jo dj ej => ?_, fun j l jo lo dj dl a b x ej el sj sl xj xl => ?_⟩
  · by_cases hj : i = j
    · subst hj
      rw [List.getElem?_set_self hi] at ej
      cases ej
    · rw [List.getElem?_set_ne hj] at ej
      rw [List.getElem?_set_ne hj]
      exact k.val j dj ej
  · by_cases hj : i = j
    · subst hj
      rw [List.getElem?_set_self hi] at ej
      cases ej
      exact ⟨p, List.getElem?_set_self hσ, hf, ho, hA, (fun z => by cases z), fun x hx => ⟨(hI x hx).1, (hI x hx).2.2⟩⟩
    · rw [List.getElem?_set_ne hj] at ej
      rw [List.getElem?_set_ne hj]
      exact k.own j jo dj ej
  · by_cases hj : i = j
    · by_cases hl : i = l
      · rw [← hj, ← hl]
      · subst hj
        rw [List.getElem?_set_ne hl] at el sl
        rw [List.getElem?_set_self hσ] at sj
        rw [List.getElem?_set_self hi] at ej
        cases sj; cases ej
        exact absurd ⟨l, lo, dl, b, el, sl, xl⟩ (nI x xj)
    · by_cases hl : i = l
      · subst hl
        rw [List.getElem?_set_ne hj] at ej sj
        rw [List.getElem?_set_self hσ] at sl
        rw [List.getElem?_set_self hi] at el
        cases sl; cases el
        exact absurd ⟨j, jo, dj, a, ej, sj, xj⟩ (nI x xl)
      · rw [List.getElem?_set_ne hj] at ej sj
        rw [List.getElem?_set_ne hl] at el sl
        exact k.dis j l jo lo dj dl a b x ej el sj sl xj xl
def sPut (i : Nat) (s : Sl) : En → So := fun ρ => match setSl i s ρ with
  | some ρ' => .nx ρ'
  | none => .bad
def sSet (i : Nat) (m : Mi Dt) : En → So := sBind m fun d => sPut i (.val d)
def sSetN (i : Nat) (m : Mi Dt) : En → So := sBind m fun d => sPut i (.own false d)
theorem ds_asgV {i : Nat} (h : PS X st (tAsg (TMe T π W m) (gName i))) : PS X st (TMs T π W (sSet i m)) := h.imp fun D σ H ⟨A, F0, H0, F, ρ, k, p⟩ => ⟨_, F, ρ, k.ok, (p.bind k).imp fun d ρ1 F1 H1 _ _ ⟨k1, p1⟩ v rv => by
  unfold sPut at p1
  cases e : setSl i (.val d) ρ1 with
  | none => rw [e] at p1; exact p1.elim
  | some ρ' => rw [e] at p1; exact p1 _ F1 H1 ⟨k1.ok.set rv e, k1.fr⟩⟩
theorem ds_asgN {i : Nat} (h : PS X st (tAsg (TMn T π W m) (gName i))) : PS X st (TMs T π W (sSetN i m)) := h.imp fun D σ H ⟨A, F0, H0, F, ρ, k, p⟩ => ⟨_, F, ρ, k.ok, (p.bind k).imp fun d ρ1 F1 H1 _ _ ⟨k1, p1⟩ x h1 h2 h3 h4 h5 => by
  unfold sPut at p1
  cases e : setSl i (.own false d) ρ1 with
  | none => rw [e] at p1; exact p1.elim
  | some ρ' => rw [e] at p1; exact p1 _ F1 H1 ⟨k1.ok.setN h1 h2 (.inr (k.fr.t x h3)) h4 (fun y hy => ⟨(h5 y hy).1, (h5 y hy).2.1, .inr (k.fr.t y (h5 y hy).2.2)⟩) e, k1.fr⟩⟩
/-! ### targets -/
def TMg (T : Tx) (π : Nat → Option Pin) (g : Dt → En → Option En) (sl : List Nat) : TG := fun v σ H Q => ∃ A F ρ d ρ', Ok T π A F H σ ρ ∧ Rep T F v d ∧ g d ρ = some ρ' ∧
  ∀ σ', Ok T π A F H σ' ρ' → σ'.length = σ.length → (∀ i, i ∉ sl → σ'[i]? = σ[i]?) → Q σ' H
def TMgs (T : Tx) (π : Nat → Option Pin) (g : List Dt → En → Option En) (sl : List Nat) : TGs := fun vs σ H Q => ∃ A F ρ ds ρ', Ok T π A F H σ ρ ∧ Reps T F vs ds ∧ g ds ρ = some ρ' ∧
  ∀ σ', Ok T π A F H σ' ρ' → σ'.length = σ.length → (∀ i, i ∉ sl → σ'[i]? = σ[i]?) → Q σ' H
theorem _root_.L2.PGs.imp {ts : List Expr} {t t' : TGs} (h : PGs X ts t) (f : ∀ v σ H Q, t' v σ H Q → t v σ H Q) : PGs X ts t' := ⟨fun pins s σ H v u Q I r q => h.run pins s σ H v u Q I r (f v σ H Q q)⟩
def gV (i : Nat) : Dt → En → Option En := fun d => setSl i (.val d)
theorem dg_name {i : Nat} (h : PG X e (gName i)) : PG X e (TMg T π (gV i) [i]) := h.imp fun v σ H Q ⟨A, F, ρ, d, ρ', k, r, e, q⟩ => q _ (k.set r e) (by simp) fun j hj => List.getElem?_set_ne (fun z => hj (by simp [z]))
def gsN : List Dt → En → Option En
  | [], ρ => some ρ
  | _, _ => none
def gsC (g : Dt → En → Option En) (gs : List Dt → En → Option En) : List Dt → En → Option En
  | d :: ds, ρ => (g d ρ).bind (gs ds)
  | [], _ => none
theorem dgs_nil : PGs X [] (TMgs T π gsN []) := pgs_nil.imp fun vs σ H Q ⟨A, F, ρ, ds, ρ', k, r, e, q⟩ => by
  cases ds with
  | nil => cases r; cases e; exact ⟨rfl, q σ k rfl fun _ _ => rfl⟩
  | cons _ _ => cases e
theorem dgs_cons {g : Dt → En → Option En} {gs : List Dt → En → Option En} {sl sls : List Nat} (h1 : PG X e (TMg T π g sl)) (h2 : PGs X es (TMgs T π gs sls)) (hs : (assignEach (e :: es) X.env).map (·.2) = assign e X.env :: (assignEach es X.env).map (·.2) := by rfl) :
    PGs X (e :: es) (TMgs T π (gsC g gs) (sl ++ sls)) := (pgs_cons h1 h2 hs).imp fun vs σ H Q ⟨A, F, ρ, ds, ρ', k, r, e, q⟩ => by
  cases ds with
  | nil => cases e
  | cons d ds =>
    cases r with
    | @cons v vs _ _ rv rvs =>
      have e' : (g d ρ).bind (gs ds) = some ρ' := e
      cases e1 : g d ρ with
      | none => rw [e1] at e'; cases e'
      | some ρ1 =>
        rw [e1] at e'
        exact ⟨v, vs, rfl, A, F, ρ, d, ρ1, k, rv, e1, fun σ1 k1 l1 s1 => ⟨A, F, ρ1, ds, ρ', k1, rvs, e', fun σ2 k2 l2 s2 => q σ2 k2 (l2.trans l1) fun i hi => by
          rw [List.mem_append, not_or] at hi
          rw [s2 i hi.2, s1 i hi.1]⟩⟩
def gT (gs : List Dt → En → Option En) (n : Nat) : Dt → En → Option En
  | .tup ds, ρ => if ds.length = n then gs ds ρ else none
  | _, _ => none
theorem dg_tup {k : Nat} {gs : List Dt → En → Option En} {sl : List Nat} {n : Nat} (hK : X.K = T.K) (hc : X.calm = true) (h : PGs X es (TMgs T π gs sl))
    (hn : (assignEach es X.env).length = n := by rfl) (hst : (assignEach es X.env).findIdx? (·.1) = none := by rfl) : PG X (.Tuple es k pos) (TMg T π (gT gs n) sl) := (pg_tup hc h hn hst).imp fun v σ H Q ⟨A, F, ρ, d, ρ', k, r, e, q⟩ => by
  cases d with
  | tup ds =>
    obtain ⟨a, vs, ev, hq, rs⟩ := r.tup_inv
    have e' : (if ds.length = n then gs ds ρ else none) = some ρ' := e
    by_cases hl : ds.length = n
    · rw [if_pos hl] at e'
      exact ⟨a, vs, ev, by rw [hK]; exact sqt_mono k.le hq, by rw [rs.length]; exact hl, A, F, ρ, ds, ρ', k, rs, e', q⟩
    · rw [if_neg hl] at e'; cases e'
  | _ => cases e
def sAsg (m : Mi Dt) (g : Dt → En → Option En) : En → So := sBind m fun d ρ => match g d ρ with
  | some ρ' => .nx ρ'
  | none => .bad
theorem ds_asg {g : Dt → En → Option En} {sl : List Nat} (h : PS X st (tAsg (TMe T π W m) (TMg T π g sl))) : PS X st (TMs T π W (sAsg m g)) := h.imp fun D σ H ⟨A, F0, H0, F, ρ, k, p⟩ => ⟨_, F, ρ, k.ok, (p.bind k).imp fun d ρ1 F1 H1 _ _ ⟨k1, p1⟩ v rv => by
  cases e : g d ρ1 with
  | none => rw [e] at p1; exact p1.elim
  | some ρ' => rw [e] at p1; exact ⟨_, F1, ρ1, d, ρ', k1.ok, rv, e, fun σ' k' l' s' => p1 σ' F1 H1 ⟨k', k1.fr⟩⟩⟩
/-! ### loops -/
/-- J walks ds while what is frozen in F stands -/
structure Wk (T : Tx) (J : It) (ds : List Dt) (F : Hp) : Prop where
  goes : ∀ i H, i < ds.length → Le F H → J.go i H
  stops : ∀ H, Le F H → J.stop ds.length H
  yields : ∀ i H x H' d, ds[i]? = some d → Le F H → J.yld i H x H' → (H' = H ∧ Rep T F x d) ∨ ∃ p vs es, H p = none ∧ H' = upd H p (.tup vs) ∧ x = .ref p ∧ Reps T F vs es ∧ d = .tup es
def TMi (T : Tx) (π : Nat → Option Pin) (W : WX) (m : Mi (List Dt)) : TI := fun σ H R => ∃ A F ρ, Ok T π A F H σ ρ ∧ Post T π W σ A F H (fun ds _ F' H' => ∀ J, Wk T J ds F' → R J H') (m ρ)
/-- what a turn yields, frozen -/
theorem Wk.turn {J : It} {ds : List Dt} {Fs : Hp} (w : Wk T J ds Fs) {i : Nat} {x : V} {d : Dt} (hd : ds[i]? = some d) (k : Ok T π A F H σ ρ) (le : Le Fs F) (y : J.yld i H x H') :
    ∃ F', Ok T π A F' H' σ ρ ∧ Fr A F H F' H' ∧ Rep T F' x d ∧ Le Fs F' := by
  rcases w.yields i H x H' d hd (le_trans le k.le) y with ⟨rfl, r⟩ | ⟨p, vs, es, hp, rfl, rfl, rs, rfl⟩
  · exact ⟨F, k, .refl, r.mono le, le⟩
  · exact ⟨upd F p (.tup vs), k.new hp, .new k.le hp, .tup upd_same ((rs.mono le).mono (le_new (f_none k.le hp))), le_trans le (le_new (f_none k.le hp))⟩
def forGo (g : Dt → En → Option En) (b : En → So) : List Dt → En → So
  | [], ρ => .nx ρ
  | d :: ds, ρ => match g d ρ with
    | none => .bad
    | some ρ1 => match b ρ1 with
      | .nx ρ2 => forGo g b ds ρ2
      | .ct ρ2 => forGo g b ds ρ2
      | .bk ρ2 => .nx ρ2
      | o => o
def sFor (m : Mi (List Dt)) (g : Dt → En → Option En) (b : En → So) : En → So := sBind m (forGo g b)
theorem walk_of_wk {J : It} {ds : List Dt} {Fs : Hp} (w : Wk T J ds Fs) : Walk J ds.length (fun H => Le Fs H) (fun i H x H' => J.yld i H x H') := ⟨fun i H hi h => w.goes i H hi h, fun H h => w.stops H h, fun _ _ _ _ _ _ y => y⟩
theorem ds_for {tg iter : Expr} {body : List Stmt} {g : Dt → En → Option En} {sl : List Nat} {bm : En → So} (hp : PassesOwn (model X.prog X.w) X.A X.env X.xe) (hc : X.calm = true) (hi : PI X tg iter (TMi T π W ms)) (hg : PG X tg (TMg T π g sl)) (hb : PSs X body (TMs T π W bm))
    (hs : ∀ x, foldedSetIterable iter X.env x = pure x := by intro _; rfl) : PS X (.For tg iter body [] pos) (TMs T π W (sFor ms g bm)) := (ps_for hp hc hi hg hb hs).imp fun D σ H ⟨A, F0, H0, F, ρ, k, p⟩ =>
  ⟨_, F, ρ, k.ok, (p.bind k).imp fun ds ρ1 F1 H1 _ _ ⟨k1, p1⟩ J w => by
    refine for_it (walk_of_wk w) (fun i σ H => ∃ F ρ, StOk T π A F0 H0 F H σ ρ ∧ Le F1 F ∧ PostS T π W A F0 H0 D (forGo g bm (ds.drop i) ρ)) ⟨F1, ρ1, k1, le_refl F1, p1⟩ (fun i σ H _ ⟨F, ρ, k, l, _⟩ => le_trans l k.ok.le) (fun i x σ H H' hi ⟨F, ρ, k, l, p⟩ y => ?_) (fun σ H ⟨F, ρ, k, l, p⟩ => ?_)
    · have hd : ds[i]? = some ds[i] := List.getElem?_eq_getElem hi
      obtain ⟨F', k', r', rx, l'⟩ := w.turn hd k.ok l y
      rw [List.drop_eq_getElem_cons hi] at p
      unfold forGo at p
      cases e : g ds[i] ρ with
      | none => rw [e] at p; exact p.elim
      | some ρ2 =>
        rw [e] at p
        have k0 := k.step k' r'
        refine ⟨_, F', ρ, ds[i], ρ2, k', rx, e, fun σ2 k2 _ _ => ⟨_, F', H', F', ρ2, k0.start k2, ?_⟩⟩
        dsimp only at p
        cases eb : bm ρ2 with
        | nx ρ3 => rw [eb] at p; exact fun σ3 F3 H3 k3 => ⟨F3, ρ3, k0.rebase k3, le_trans l' k3.fr.f, p⟩
        | ct ρ3 => rw [eb] at p; exact fun σ3 F3 H3 k3 => ⟨F3, ρ3, k0.rebase k3, le_trans l' k3.fr.f, p⟩
        | bk ρ3 => rw [eb] at p; exact fun σ3 F3 H3 k3 => p σ3 F3 H3 (k0.rebase k3)
        | rt d ρ3 => rw [eb] at p; exact fun σ3 F3 H3 v k3 => p σ3 F3 H3 v (k0.rebase k3)
        | rtN d ρ3 => rw [eb] at p; exact fun σ3 F3 H3 v k3 h1 h2 h3 h4 h5 => p σ3 F3 H3 v (k0.rebase k3) h1 h2 (h3.elim id fun z => .inr (k0.fr.t v z)) h4 fun y hy => ⟨(h5 y hy).1, (h5 y hy).2.1, (h5 y hy).2.2.elim id fun z => .inr (k0.fr.t y z)⟩
        | exc x ρ3 => rw [eb] at p; exact fun σ3 F3 H3 c d k3 => p σ3 F3 H3 c d (k0.rebase k3)
        | bad => rw [eb] at p; exact p.elim
    · have e : ds.drop ds.length = [] := List.drop_length
      rw [e] at p
      exact p σ _ H k⟩
end
end Dl
namespace Dl
open PySem PySem.Spec PyProof.Rows L2
section
variable {X : Cx} {T : Tx} {π : Nat → Option Pin} {W : WX} {a b c e : Expr} {es : List Expr} {pos : Pos} {m ma mb mc : Mi Dt} {ms : Mi (List Dt)} {A A' : Addr → Prop} {F H F' H' F0 H0 : Hp} {σ : L2.St} {ρ : En}
/-! ### while -/
def whGo (c : Mi Bool) (b : En → So) : Nat → En → So
  | 0, _ => .bad
  | n + 1, ρ => match c ρ with
    | .ok true ρ1 => (match b ρ1 with
      | .nx ρ2 => whGo c b n ρ2
      | .ct ρ2 => whGo c b n ρ2
      | .bk ρ2 => .nx ρ2
      | o => o)
    | .ok false ρ1 => .nx ρ1
    | .exc x ρ1 => .exc x ρ1
    | .bad => .bad
def sWhile (fuel : Nat) (c : Mi Bool) (b : En → So) : En → So := whGo c b fuel
theorem ds_while {body : List Stmt} {mc : Mi Bool} {bm : En → So} (fuel : Nat) (hp : PassesOwn (model X.prog X.w) X.A X.env X.xe) (hc : PT X c (TMt T π W mc)) (hb : PSs X body (TMs T π W bm)) : PS X (.While c body [] pos) (TMs T π W (sWhile fuel mc bm)) :=
  (ps_while hp hc hb).imp fun D σ H ⟨A, F0, H0, F, ρ, k, p⟩ => by
    refine ⟨fun n σ H => ∃ F ρ, StOk T π A F0 H0 F H σ ρ ∧ PostS T π W A F0 H0 D (whGo mc bm n ρ), ⟨fuel, F, ρ, k, p⟩, fun n σ H ⟨F, ρ, k, p⟩ => ?_⟩
    cases n with
    | zero => exact p.elim
    | succ n =>
      have p' : PostS T π W A F0 H0 D (sBind mc (fun b ρ1 => match b with
        | true => (match bm ρ1 with
          | .nx ρ2 => whGo mc bm n ρ2
          | .ct ρ2 => whGo mc bm n ρ2
          | .bk ρ2 => .nx ρ2
          | o => o)
        | false => .nx ρ1) ρ) := by
        unfold sBind
        unfold whGo at p
        cases e : mc ρ with
        | ok b ρ1 => rw [e] at p; cases b <;> exact p
        | exc x ρ1 => rw [e] at p; exact p
        | bad => rw [e] at p; exact p
      refine ⟨_, F, ρ, k.ok, (p'.bind k).imp fun b ρ1 F1 H1 _ _ ⟨k1, p1⟩ => ?_⟩
      cases b with
      | false => exact iteF (p1 σ F1 H1 k1)
      | true =>
        refine iteT ⟨fun σ H => ∃ F ρ, StOk T π A F0 H0 F H σ ρ ∧ PostS T π W A F0 H0 D (whGo mc bm n ρ), fun σ' H' q => ⟨n, Nat.lt_succ_self n, q⟩, A, F0, H0, F1, ρ1, k1, ?_⟩
        dsimp only at p1
        cases eb : bm ρ1 with
        | nx ρ3 => rw [eb] at p1; exact fun σ3 F3 H3 k3 => ⟨F3, ρ3, k3, p1⟩
        | ct ρ3 => rw [eb] at p1; exact fun σ3 F3 H3 k3 => ⟨F3, ρ3, k3, p1⟩
        | bk ρ3 => rw [eb] at p1; exact p1
        | rt d ρ3 => rw [eb] at p1; exact p1
        | rtN d ρ3 => rw [eb] at p1; exact p1
        | exc x ρ3 => rw [eb] at p1; exact p1
        | bad => rw [eb] at p1; exact p1.elim
/-! ### comprehensions -/
def wipeE (ρ : En) : List Nat → En
  | [] => ρ
  | v :: vs => (wipeE ρ vs).set v none
def restE (ρ0 ρ : En) : List Nat → En
  | [] => ρ
  | v :: vs => (restE ρ0 ρ vs).set v (ρ0[v]?.getD none)
def ownAny (ρ : En) : List Nat → Bool
  | [] => false
  | v :: vs => (match ρ[v]? with | some (some (.own _ _)) => true | _ => false) || ownAny ρ vs
theorem wipeE_len (ρ : En) : ∀ vs, (wipeE ρ vs).length = ρ.length
  | [] => rfl
  | v :: vs => by unfold wipeE; rw [List.length_set, wipeE_len ρ vs]
theorem restE_len (ρ0 ρ : En) : ∀ vs, (restE ρ0 ρ vs).length = ρ.length
  | [] => rfl
  | v :: vs => by unfold restE; rw [List.length_set, restE_len ρ0 ρ vs]
theorem wipeE_some {ρ : En} {i : Nat} {x : Sl} : ∀ {vs : List Nat}, (wipeE ρ vs)[i]? = some (some x) → ρ[i]? = some (some x) ∧ i ∉ vs
  | [], h => ⟨h, by simp⟩
  | v :: vs, h => by
    unfold wipeE at h
    by_cases hi : v = i
    · subst hi
      by_cases hv : v < (wipeE ρ vs).length
      · rw [List.getElem?_set_self hv] at h; cases h
      · rw [List.getElem?_eq_none (by simpa using hv)] at h; cases h
    · rw [List.getElem?_set_ne hi] at h
      obtain ⟨h1, h2⟩ := wipeE_some h
      exact ⟨h1, by simp only [List.mem_cons, not_or]; exact ⟨fun e => hi e.symm, h2⟩⟩
theorem restE_out {ρ0 ρ : En} {i : Nat} : ∀ {vs : List Nat}, i ∉ vs → (restE ρ0 ρ vs)[i]? = ρ[i]?
  | [], _ => rfl
  | v :: vs, h => by
    simp only [List.mem_cons, not_or] at h
    unfold restE
    rw [List.getElem?_set_ne fun e => h.1 e.symm]
    exact restE_out h.2
theorem restE_in {ρ0 ρ : En} {i : Nat} {x : Sl} : ∀ {vs : List Nat}, i ∈ vs → (restE ρ0 ρ vs)[i]? = some (some x) → ρ0[i]? = some (some x)
  | [], h, _ => nomatch h
  | v :: vs, h, e => by
    unfold restE at e
    by_cases hi : v = i
    · subst hi
      by_cases hv : v < (restE ρ0 ρ vs).length
      · rw [List.getElem?_set_self hv] at e
        cases q : ρ0[v]? with
        | none => rw [q] at e; cases e
        | some s => rw [q] at e; exact e
      · rw [List.getElem?_eq_none (by simpa using hv)] at e; cases e
    · rw [List.getElem?_set_ne hi] at e
      cases h with
      | head => exact absurd rfl hi
      | tail _ h => exact restE_in h e
theorem ownAny_no {ρ : En} {i : Nat} {io : Bool} {d : Dt} : ∀ {vs : List Nat}, ownAny ρ vs = false → i ∈ vs → ρ[i]? ≠ some (some (.own io d))
  | [], _, q, _ => nomatch q
  | v :: vs, h, q, e => by
    unfold ownAny at h
    rcases List.mem_cons.mp q with q | q
    · subst q
      rw [e] at h
      cases h
    · exact ownAny_no (Bool.or_eq_false_iff.mp h).2 q e
theorem wipe_ext {σ σ' : L2.St} (hl : σ'.length = σ.length) : ∀ {vs : List Nat}, (∀ i, i ∉ vs → σ'[i]? = σ[i]?) → wipe σ' vs = wipe σ vs := fun {vs} h => by
  apply List.ext_getElem?
  intro i
  by_cases hi : i ∈ vs
  · have hw : ∀ τ : L2.St, i < τ.length → (wipe τ vs)[i]? = some none := fun τ ht => by
      have hlt : i < (wipe τ vs).length := by rw [wipe_length]; exact ht
      cases q : (wipe τ vs)[i]? with
      | none => rw [List.getElem?_eq_none_iff] at q; omega
      | some s =>
        cases s with
        | none => rfl
        | some v => exact absurd hi (wipe_some q).2
    by_cases hs : i < σ.length
    · rw [hw σ hs, hw σ' (by omega)]
    · rw [List.getElem?_eq_none (by rw [wipe_length]; omega), List.getElem?_eq_none (by rw [wipe_length]; omega)]
  · rw [wipe_out hi, wipe_out hi]
    exact h i hi
theorem wipe_wipe (σ : L2.St) (vs : List Nat) : wipe (wipe σ vs) vs = wipe σ vs := wipe_ext (wipe_length σ vs) fun i hi => wipe_out hi
theorem Ok.wipe (k : Ok T π A F H σ ρ) (vs : List Nat) : Ok T π A F H (L2.wipe σ vs) (wipeE ρ vs) := by
  refine ⟨k.le, by rw [wipe_length, wipeE_len]; exact k.len, fun i d e => ?_, fun i io d e => ?_, fun i j io jo d e a b x ei ej si sj => ?_⟩
  · obtain ⟨h1, h2⟩ := wipeE_some e
    rw [wipe_out h2]
    exact k.val i d h1
  · obtain ⟨h1, h2⟩ := wipeE_some e
    rw [wipe_out h2]
    exact k.own i io d h1
  · obtain ⟨h1, h2⟩ := wipeE_some ei
    obtain ⟨h3, h4⟩ := wipeE_some ej
    rw [wipe_out h2] at si
    rw [wipe_out h4] at sj
    exact k.dis i j io jo d e a b x h1 h3 si sj
/-- behind the block -/
theorem Ok.rest {ρ0 : En} {vs : List Nat} (k0 : Ok T π A F0 H0 σ ρ0) (no : ownAny ρ0 vs = false) (f : Le F0 F) (k : Ok T π A F H (L2.wipe σ vs) ρ) : Ok T π A F H σ (restE ρ0 ρ vs) := by
  have ol : ∀ (i : Nat) io d, (restE ρ0 ρ vs)[i]? = some (some (.own io d)) → i ∉ vs ∧ ρ[i]? = some (some (.own io d)) := fun i io d e => by
    by_cases hi : i ∈ vs
    · exact absurd (restE_in hi e) (ownAny_no no hi)
    · rw [restE_out hi] at e; exact ⟨hi, e⟩
  refine ⟨k.le, by rw [restE_len, ← k.len, wipe_length], fun i d e => ?_, fun i io d e => ?_, fun i j io jo d e a b x ei ej si sj => ?_⟩
  · by_cases hi : i ∈ vs
    · obtain ⟨v, h1, h2⟩ := k0.val i d (restE_in hi e)
      exact ⟨v, h1, h2.mono f⟩
    · rw [restE_out hi] at e
      obtain ⟨v, h1, h2⟩ := k.val i d e
      rw [wipe_out hi] at h1
      exact ⟨v, h1, h2⟩
  · obtain ⟨hi, e⟩ := ol i io d e
    obtain ⟨x, h1, h2⟩ := k.own i io d e
    rw [wipe_out hi] at h1
    exact ⟨x, h1, h2⟩
  · obtain ⟨hi, ei⟩ := ol i io d ei
    obtain ⟨hj, ej⟩ := ol j jo e ej
    exact k.dis i j io jo d e a b x ei ej (by rw [wipe_out hi]; exact si) (by rw [wipe_out hj]; exact sj)
def lcGo (g : Dt → En → Option En) (t : Mi Bool) (e : Mi Dt) (vs : List Nat) : List Dt → List Dt → En → Ou (List Dt)
  | [], acc, ρ => .ok acc ρ
  | d :: ds, acc, ρ => match g d ρ with
    | none => .bad
    | some ρ1 => match t ρ1 with
      | .ok true ρ2 => (match e ρ2 with
        | .ok y ρ3 => if acc.length < sizeLine then lcGo g t e vs ds (acc ++ [y]) (wipeE ρ3 vs) else .bad
        | _ => .bad)
      | .ok false ρ2 => lcGo g t e vs ds acc (wipeE ρ2 vs)
      | _ => .bad
def mLc (mi : Mi (List Dt)) (g : Dt → En → Option En) (t : Mi Bool) (e : Mi Dt) (vs : List Nat) : Mi Dt := mBind mi fun ds ρ =>
  if ownAny ρ vs then .bad else match lcGo g t e vs ds [] (wipeE ρ vs) with
    | .ok acc ρ' => .ok (.lst acc) (restE ρ ρ' vs)
    | _ => .bad
def W0 : WX := fun _ _ _ _ => False
theorem tme_tmn {Q : VK} (h : TMe T π W m σ H Q) : TMn T π W m σ H Q := by
  obtain ⟨A, F, ρ, k, p⟩ := h
  refine ⟨A, F, ρ, k, p.imp2 fun d ρ' q F' H' k' r' x hx nx hp ho hi => ?_⟩
  obtain ⟨F2, e1, e2, e3, e4⟩ := ho.frozen k'.le hx (fun y hy => (hi y hy).1)
  have ne : ∀ y, IsOwn H' σ ρ' y → F2 y = F' y := fun y w => e3 y (fun z => nx (z ▸ w)) fun z => (hi y z).2.1 w
  have k2 : Ok T π A F2 H' σ ρ' := k'.grow e1 e2 (fun y w => by rw [ne y w]; exact (k'.ownH w).2.1) fun y u w z => z
  refine q F2 H' k2 ⟨le_trans r'.f e1, r'.h, fun y o hy z t => ?_, r'.t⟩ _ e4
  rw [e3 y (fun zz => by rw [zz, hp] at z; cases z) fun zz => by rw [(hi y zz).2.2] at z; cases z]
  exact r'.n y o hy z t
/-- an object that is none of the slots' own changes -/
theorem Ok.upd_other {p : Addr} {o : HO} (k : Ok T π A F H σ ρ) (hf : F p = none) (hn : ¬ A p) : Ok T π A F (upd H p o) σ ρ := by
  refine k.grow (le_refl F) (fun a u e => ?_) (fun a w => (k.ownH w).2.1) fun a u w e => ?_
  · rw [upd_ne fun z => by rw [z, hf] at e; cases e]; exact k.le a u e
  · rw [upd_ne fun z => hn (by rw [← z]; exact k.ownA w)]; exact e
theorem tlc_of {g : Dt → En → Option En} {sl vs : List Nat} {mt : Mi Bool} {me : Mi Dt} {Q : VK} (hsl : ∀ i ∈ sl, i ∈ vs) (h : TMn T π W (mLc ms g mt me vs) σ H Q) : tLc (TMi T π W ms) (TMg T π g sl) (TMt T π W0 mt) (TMe T π W0 me) vs σ H Q := by
  obtain ⟨A0, F, ρ, k, p⟩ := h
  refine ⟨IsOwn H σ ρ, F, ρ, k.tight, ((p.weak (A' := IsOwn H σ ρ) fun a z => k.ownA z).bind).imp fun ds ρ1 F1 H1 k1 r1 p1 J w D hD => ?_⟩
  have nA : ¬ IsOwn H σ ρ D := k.fresh_own (r1.t D hD)
  by_cases hown : ownAny ρ1 vs = true
  · rw [if_pos hown] at p1; exact p1.elim
  · rw [if_neg hown] at p1
    have hown : ownAny ρ1 vs = false := by simpa using hown
    cases el : lcGo g mt me vs ds [] (wipeE ρ1 vs) with
    | exc x r => rw [el] at p1; exact p1.elim
    | bad => rw [el] at p1; exact p1.elim
    | ok accF ρF =>
      rw [el] at p1
      refine lc_it (walk_of_wk w) (fun i Hc => ∃ F ρ' acc vacc, Ok T π (IsOwn H σ ρ) F Hc (wipe σ vs) ρ' ∧ Fr (IsOwn H σ ρ) F1 H1 F Hc ∧ F D = none ∧ Hc D = some (.lst vacc) ∧ Reps T F vacc acc ∧ lcGo g mt me vs (ds.drop i) acc ρ' = .ok accF ρF)
        ⟨F1, wipeE ρ1 vs, [], [], (k1.newO hD).wipe vs, .newO hD, f_none k1.le hD, upd_same, .nil, el⟩ (fun i Hc _ ⟨F, _, _, _, k, r, _⟩ => le_trans r.f k.le) (fun i x Hc H' hi ⟨F2, ρ', acc, vacc, k2, r2, fD, hDc, rs, eg⟩ y => ?_) (fun Hc ⟨F2, ρ', acc, vacc, k2, r2, fD, hDc, rs, eg⟩ => ?_)
      · have hd : ds[i]? = some ds[i] := List.getElem?_eq_getElem hi
        obtain ⟨F3, k3, r3, rx, l3⟩ := w.turn hd k2 r2.f y
        rw [List.drop_eq_getElem_cons hi] at eg
        unfold lcGo at eg
        cases e1 : g ds[i] ρ' with
        | none => rw [e1] at eg; cases eg
        | some ρ2 =>
          rw [e1] at eg
          dsimp only at eg
          refine ⟨_, F3, ρ', ds[i], ρ2, k3, rx, e1, fun σ2 k4 l4 s4 => ?_⟩
          have ew : wipe σ2 vs = wipe σ vs := by
            rw [wipe_ext (σ := wipe σ vs) (σ' := σ2) l4 fun i hi => s4 i fun z => hi (hsl i z), wipe_wipe]
          refine ⟨ew, _, F3, ρ2, k4, ?_⟩
          have keep : ∀ {F5 H5 : Hp} {ρ5 : En}, Ok T π (IsOwn H σ ρ) F5 H5 σ2 ρ5 → Fr (IsOwn H σ ρ) F3 H' F5 H5 → H5 D = some (.lst vacc) ∧ F5 D = none ∧ Reps T F5 vacc acc ∧ Fr (IsOwn H σ ρ) F1 H1 F5 H5 ∧ Ok T π (IsOwn H σ ρ) F5 H5 (wipe σ vs) (wipeE ρ5 vs) := fun {F5 H5 ρ5} k5 r5 => by
            have rr := r3.trans r5
            refine ⟨rr.h D _ nA hDc, ?_, rs.mono rr.f, r2.trans rr, by rw [← ew]; exact k5.wipe vs⟩
            rw [rr.n D _ nA hDc (fun _ z => nomatch z)]; exact fD
          cases e2 : mt ρ2 with
          | exc x r => rw [e2] at eg; cases eg
          | bad => rw [e2] at eg; cases eg
          | ok b ρ3 =>
            rw [e2] at eg
            intro F5 H5 k5 r5
            cases b with
            | false =>
              obtain ⟨q1, q2, q3, q4, q5⟩ := keep k5 r5
              exact iteF ⟨F5, _, acc, vacc, q5, q4, q2, q1, q3, eg⟩
            | true =>
              dsimp only at eg
              refine iteT ⟨_, F5, ρ3, k5, ?_⟩
              cases e3 : me ρ3 with
              | exc x r => rw [e3] at eg; cases eg
              | bad => rw [e3] at eg; cases eg
              | ok yv ρ4 =>
                rw [e3] at eg
                dsimp only at eg
                intro F6 H6 k6 r6 v rv
                obtain ⟨q1, q2, q3, q4, q5⟩ := keep k6 (r5.trans r6)
                by_cases hz : acc.length < sizeLine
                · rw [if_pos hz] at eg
                  refine ⟨vacc, q1, by rw [rs.length]; exact hz, F6, _, acc ++ [yv], vacc ++ [v], q5.upd_other q2 nA, ?_, q2, upd_same, q3.append (.cons rv .nil), eg⟩
                  exact ⟨q4.f, fun a o n e => by
                    rw [upd_ne fun z => by rw [z, hD] at e; cases e]; exact q4.h a o n e, q4.n, fun a e => q4.t a (up_none e)⟩
                · rw [if_neg hz] at eg; cases eg
      · have e : ds.drop ds.length = [] := List.drop_length
        rw [e] at eg
        unfold lcGo at eg
        cases eg
        have k5 := k1.rest hown r2.f k2
        exact p1 F2 Hc k5 r2 D fD (fun z => nA (k5.ownA z)) (r1.t D hD) ⟨vacc, hDc, rs⟩ (fun _ z => nomatch z)
theorem dn_lc {elt tg iter : Expr} {ifs : List Expr} {scope : Scope} {own : List (Str × Nat)} {g : Dt → En → Option En} {sl : List Nat} {mt : Mi Bool} {me : Mi Dt} (h : PE X (.ListComp elt [⟨tg, iter, ifs, 0⟩] scope pos) (tLc (TMi T π W ms) (TMg T π g sl) (TMt T π W0 mt) (TMe T π W0 me) (own.map (·.2)))) (hsl : ∀ i ∈ sl, i ∈ own.map (·.2)) :
    PE X (.ListComp elt [⟨tg, iter, ifs, 0⟩] scope pos) (TMn T π W (mLc ms g mt me (own.map (·.2)))) := h.imp fun σ H Q q => tlc_of hsl q
theorem ds_setLcV {i : Nat} {g : Dt → En → Option En} {sl vs : List Nat} {st : Stmt} {mt : Mi Bool} {me : Mi Dt} (h : PS X st (tAsg (tLc (TMi T π W ms) (TMg T π g sl) (TMt T π W0 mt) (TMe T π W0 me) vs) (gName i))) (hsl : ∀ i ∈ sl, i ∈ vs) : PS X st (TMs T π W (sSet i (mLc ms g mt me vs))) :=
  ds_asgV (h.imp fun D σ H q => tlc_of hsl (tme_tmn q))
theorem dts_nil : PTs X [] (TMt T π W (mPure true)) := ⟨fun pins s σ H Q I ⟨A, F, ρ, k, p⟩ => pts_nil.run pins s σ H Q I (p.pure k)⟩
theorem dts_one {mt : Mi Bool} (h : PT X c (TMt T π W mt)) : PTs X [c] (TMt T π W mt) := pts_one h
end
end Dl
namespace Dl
open PySem PySem.Spec PyProof.Rows L2
/-! ### what a def promises -/
inductive Fo where
  | ret (d o : Dt) | exc (x : Ex) (o : Dt) | bad
def pinA (π0 : Option Pin) : Addr → Prop := fun x => ∃ q, π0 = some q ∧ (x = q.1 ∨ x ∈ q.2)
def ArgsOk (T : Tx) (F H : Hp) : Bool → List V → List Dt → Option Pin → Prop
  | false, vs, ds, π0 => Reps T F vs ds ∧ π0 = none
  | true, vs, ds, π0 => ∃ a vr d dr, vs = .ref a :: vr ∧ ds = d :: dr ∧ F a = none ∧ OwnAt T F H a d ∧ Reps T F vr dr ∧ π0 = some (a, inH H a d) ∧ ∀ x ∈ inH H a d, F x = none
def RetOk (T : Tx) (H F' H' : Hp) (v : V) (d : Dt) : Bool → Prop
  | false => Rep T F' v d
  | true => ∃ p, v = .ref p ∧ F' p = none ∧ H p = none ∧ OwnAt T F' H' p d ∧ ∀ x ∈ inH H' p d, F' x = none ∧ H x = none
def IoOk (T : Tx) (F' H' : Hp) (π0 : Option Pin) (o : Dt) : Prop := ∀ q, π0 = some q → F' q.1 = none ∧ OwnAt T F' H' q.1 o ∧ inH H' q.1 o = q.2 ∧ ∀ x ∈ q.2, F' x = none
def FoOk (T : Tx) (rn : Bool) (π0 : Option Pin) (F H : Hp) (Q : VK) (E : XK) : Fo → Prop
  | .ret d o => ∀ F' H' v, Le F' H' → Fr (pinA π0) F H F' H' → IoOk T F' H' π0 o → RetOk T H F' H' v d rn → Q v H'
  | .exc x o => ∀ F' H' cls dx, Le F' H' → Fr (pinA π0) F H F' H' → IoOk T F' H' π0 o → RepX T F' H' cls dx x → E cls dx H'
  | .bad => False
def spM (T : Tx) (n : Nat) (io rn : Bool) (f : List Dt → Fo) : Sp := fun vs H Q E => ∃ F ds π0, vs.length = n ∧ Le F H ∧ ArgsOk T F H io vs ds π0 ∧ FoOk T rn π0 F H Q E (f ds)
def argE : Bool → List Dt → En
  | true, d :: r => some (.own true d) :: r.map fun d => some (.val d)
  | _, ds => ds.map fun d => some (.val d)
def ioOut (io : Bool) (ρ : En) : Option Dt := match io with
  | true => (match ρ[0]? with | some (some (Sl.own true d)) => some d | _ => none)
  | false => some .non
def runF (k : Nat) (io rn : Bool) (body : En → So) (ds : List Dt) : Fo := match body (argE io ds ++ List.replicate (k - ds.length) none) with
  | .nx ρ => (match ioOut io ρ with | some o => (match rn with | false => .ret .non o | true => .bad) | none => .bad)
  | .rt d ρ => (match ioOut io ρ with | some o => (match rn with | false => .ret d o | true => .bad) | none => .bad)
  | .rtN d ρ => (match ioOut io ρ with | some o => (match rn with | true => .ret d o | false => .bad) | none => .bad)
  | .exc x ρ => (match ioOut io ρ with | some o => .exc x o | none => .bad)
  | _ => .bad
theorem Reps.slots {T : Tx} {F : Hp} : ∀ {vs : List V} {ds : List Dt} {i : Nat} {d : Dt}, Reps T F vs ds → (ds.map fun d => (some (Sl.val d)))[i]? = some (some (.val d)) → ∃ v, vs[i]? = some v ∧ Rep T F v d := fun {vs ds i d} r e => by
  rw [List.getElem?_map] at e
  cases q : ds[i]? with
  | none => rw [q] at e; cases e
  | some d' =>
    rw [q] at e
    cases e
    exact r.get q
theorem noown (ds : List Dt) (i : Nat) (io : Bool) (d : Dt) : (ds.map fun d => (some (Sl.val d)))[i]? ≠ some (some (.own io d)) := fun e => by
  rw [List.getElem?_map] at e
  cases q : ds[i]? with
  | none => rw [q] at e; cases e
  | some d' => rw [q] at e; cases e
theorem app_some {ρ : En} {n : Nat} {i : Nat} {s : Sl} (h : (ρ ++ List.replicate n none)[i]? = some (some s)) : ρ[i]? = some (some s) ∧ i < ρ.length := by
  by_cases hi : i < ρ.length
  · rw [List.getElem?_append_left hi] at h; exact ⟨h, hi⟩
  · rw [List.getElem?_append_right (by omega), List.getElem?_replicate] at h
    split at h
    · cases h
    · cases h
theorem argsOk_len {T : Tx} {F H : Hp} {io : Bool} {vs : List V} {ds : List Dt} {π0 : Option Pin} (h : ArgsOk T F H io vs ds π0) : vs.length = ds.length := by
  cases io with
  | false => exact h.1.length
  | true =>
    obtain ⟨a, vr, d, dr, rfl, rfl, _, _, r, _⟩ := h
    rw [List.length_cons, List.length_cons, r.length]
def pi0 (π0 : Option Pin) : Nat → Option Pin
  | 0 => π0
  | _ + 1 => none
theorem ok_start {T : Tx} {N : List Str} {F H : Hp} {io : Bool} {vs : List V} {ds : List Dt} {π0 : Option Pin} (hl : vs.length ≤ N.length) (le : Le F H) (h : ArgsOk T F H io vs ds π0) :
    StOk T (pi0 π0) (pinA π0) F H F H (L2.start N vs) (argE io ds ++ List.replicate (N.length - ds.length) none) := by
  have hn := argsOk_len h
  have sl : ∀ (i : Nat) v, vs[i]? = some v → (L2.start N vs)[i]? = some (some v) := fun i v e => by
    unfold L2.start
    rw [List.getElem?_append_left (by rw [List.length_map]; exact (List.getElem?_eq_some_iff.mp e).1), List.getElem?_map, e]
    rfl
  refine ⟨⟨le, ?_, fun i d e => ?_, fun i jo d e => ?_, fun i j jo lo d e a b x ei ej si sj _ _ => ?_⟩, .refl⟩
  · unfold L2.start
    cases io with
    | false => unfold argE; simp; omega
    | true =>
      obtain ⟨a, vr, d, dr, rfl, rfl, _, _, r, _⟩ := h
      have := r.length
      unfold argE; simp at hl ⊢; omega
  · obtain ⟨e, hi⟩ := app_some e
    cases io with
    | false =>
      obtain ⟨v, h1, h2⟩ := h.1.slots (show (ds.map fun d => (some (Sl.val d)))[i]? = _ from e)
      exact ⟨v, sl i v h1, h2⟩
    | true =>
      obtain ⟨a, vr, d0, dr, rfl, rfl, h1, h2, r, h3⟩ := h
      cases i with
      | zero => cases e
      | succ i =>
        obtain ⟨v, q1, q2⟩ := r.slots (show (dr.map fun d => (some (Sl.val d)))[i]? = _ from e)
        exact ⟨v, sl (i + 1) v q1, q2⟩
  · obtain ⟨e, hi⟩ := app_some e
    cases io with
    | false => exact absurd e (noown ds i jo d)
    | true =>
      obtain ⟨a, vr, d0, dr, rfl, rfl, h1, h2, r, h3⟩ := h
      cases i with
      | succ i => exact absurd (show (dr.map fun d => (some (Sl.val d)))[i]? = _ from e) (noown dr i jo d)
      | zero =>
        cases e
        exact ⟨a, sl 0 _ rfl, h1, h2, .inl ⟨_, h3.1, .inl rfl⟩, (fun _ => h3.1), fun x hx => ⟨h3.2 x hx, .inl ⟨_, h3.1, .inr hx⟩⟩⟩
  · obtain ⟨ei, _⟩ := app_some ei
    obtain ⟨ej, _⟩ := app_some ej
    cases io with
    | false => exact absurd ei (noown ds i jo d)
    | true =>
      obtain ⟨a, vr, d0, dr, rfl, rfl, h1, h2, r, h3⟩ := h
      cases i with
      | succ i => exact absurd (show (dr.map fun d => (some (Sl.val d)))[i]? = _ from ei) (noown dr i jo d)
      | zero =>
        cases j with
        | succ j => exact absurd (show (dr.map fun d => (some (Sl.val d)))[j]? = _ from ej) (noown dr j lo e)
        | zero => rfl
theorem io_end {T : Tx} {F H F' H' : Hp} {io : Bool} {vs : List V} {ds : List Dt} {π0 : Option Pin} {σ : L2.St} {ρ : En} {o : Dt} (h : ArgsOk T F H io vs ds π0) (k : StOk T (pi0 π0) (pinA π0) F H F' H' σ ρ) (e : ioOut io ρ = some o) : IoOk T F' H' π0 o := fun a ha => by
  cases io with
  | false => rw [h.2] at ha; cases ha
  | true =>
    unfold ioOut at e
    dsimp only at e
    split at e
    · rename_i d hd
      cases e
      obtain ⟨b, h1, h2, h3, h4, h5⟩ := k.ok.own 0 true _ hd
      have e2 : π0 = some (b, _) := h5.1 rfl
      rw [ha] at e2
      cases e2
      exact ⟨h2, h3, rfl, fun x hx => (h5.2 x hx).1⟩
    · cases e
section
variable {P : Program} {w : World} {K : PySem.W.Frag} {mg : Str → Option Value} {base : Heap}
/-- a def keeps the promise of its mirror -/
theorem rtn_new {T : Tx} {F H F' H' : Hp} {io : Bool} {vs : List V} {ds : List Dt} {π0 : Option Pin} {σ : L2.St} {ρ : En} {o : Dt} {p : Addr} (h : ArgsOk T F H io vs ds π0) (k : StOk T (pi0 π0) (pinA π0) F H F' H' σ ρ) (e : ioOut io ρ = some o) (hn : ¬ IsOwn H' σ ρ p) (hp : pinA π0 p ∨ H p = none) : H p = none := by
  rcases hp with hp | hp
  · exfalso
    cases io with
    | false => obtain ⟨q, hq, _⟩ := hp; rw [h.2] at hq; cases hq
    | true =>
      unfold ioOut at e
      dsimp only at e
      split at e
      · rename_i d q
        obtain ⟨a, h1, _, _, _, h5⟩ := k.ok.own 0 true d q
        have h6 : π0 = some (a, inH H' a d) := h5.1 rfl
        obtain ⟨r, hr, hx⟩ := hp
        rw [h6] at hr
        cases hr
        exact hn ⟨0, true, d, a, q, h1, hx⟩
      · cases e
  · exact hp
theorem fun_ok {x qual : Str} {st : Stmt} {f : Addr} {fd : FuncData} {N ps : List Str} {k : Nat} {cl : Nat → Option (Addr × List Str)} {io rn : Bool} {body : En → So} (F : Fun K x qual st f fd) (S : FnScope N ps (defScope st)) (hN : ps.length ≤ N.length)
    (hb : ∀ (cdv : Value) (A : Around) (outer : List Env) (s : Shared) (H : Hp) (E : XK) (π : Nat → Option Pin), Room k (A.deeper (envOfC qual (defScope st) s.heap.objs.size f cdv)) →
      PSs (cxOf (L2.CX P w) P w K mg base N qual (defScope st) f cdv A outer s H E) (defBody st) (TMs ⟨K, cl⟩ π (fun cls d _ H => E cls d H) body)) :
    FnOk P w K mg base (L2.CX P w) (k + 1) f fd ps (spM ⟨K, cl⟩ ps.length io rn (runF N.length io rn body)) := by
  refine F.okX S (fun vs H Q E h => ?_) (fun cdv A outer s H vs Q E hr h => ?_)
  · obtain ⟨F, ds, π0, hl, _⟩ := h
    exact hl
  · obtain ⟨F0, ds, π0, hl, le, ha, q⟩ := h
    refine ⟨_, hb cdv A outer s H E (pi0 π0) hr, _, F0, H, F0, _, ok_start (by rw [hl]; exact hN) le ha, ?_⟩
    unfold runF at q
    cases eb : body (argE io ds ++ List.replicate (N.length - ds.length) none) with
    | nx ρ =>
      rw [eb] at q
      dsimp only at q
      cases eo : ioOut io ρ with
      | none => rw [eo] at q; exact q.elim
      | some o =>
        rw [eo] at q
        cases rn with
        | true => exact q.elim
        | false => exact fun σ' F' H' k' => q F' H' .non k'.ok.le k'.fr (io_end ha k' eo) .non
    | rt d ρ =>
      rw [eb] at q
      dsimp only at q
      cases eo : ioOut io ρ with
      | none => rw [eo] at q; exact q.elim
      | some o =>
        rw [eo] at q
        cases rn with
        | true => exact q.elim
        | false => exact fun σ' F' H' v k' rv => q F' H' v k'.ok.le k'.fr (io_end ha k' eo) rv
    | rtN d ρ =>
      rw [eb] at q
      dsimp only at q
      cases eo : ioOut io ρ with
      | none => rw [eo] at q; exact q.elim
      | some o =>
        rw [eo] at q
        cases rn with
        | false => exact q.elim
        | true => exact fun σ' F' H' p k' h1 h2 h3 h4 h5 => q F' H' (.ref p) k'.ok.le k'.fr (io_end ha k' eo) ⟨p, rfl, h1, rtn_new ha k' eo h2 h3, h4, fun y hy => ⟨(h5 y hy).1, rtn_new ha k' eo (h5 y hy).2.1 (h5 y hy).2.2⟩⟩
    | exc x ρ =>
      rw [eb] at q
      dsimp only at q
      cases eo : ioOut io ρ with
      | none => rw [eo] at q; exact q.elim
      | some o =>
        rw [eo] at q
        exact fun σ' F' H' c d k' rx => q F' H' c d k'.ok.le k'.fr (io_end ha k' eo) rx
    | bk ρ => rw [eb] at q; exact q.elim
    | ct ρ => rw [eb] at q; exact q.elim
    | bad => rw [eb] at q; exact q.elim
end
section
variable {P : Program} {w : World} {K : PySem.W.Frag} {mg : Str → Option Value} {base : Heap}
theorem fun_ok2 {x qual : Str} {st : Stmt} {f : Addr} {fd : FuncData} {N ps : List Str} {k n : Nat} {cl : Nat → Option (Addr × List Str)} {io rn : Bool} {body : En → So} {fm : List Dt → Fo} (F : Fun K x qual st f fd) (S : FnScope N ps (defScope st)) (hN : ps.length ≤ N.length) (hn : n = ps.length) (hm : fm = runF N.length io rn body)
    (hb : ∀ (cdv : Value) (A : Around) (outer : List Env) (s : Shared) (H : Hp) (E : XK) (π : Nat → Option Pin), Room k (A.deeper (envOfC qual (defScope st) s.heap.objs.size f cdv)) →
      PSs (cxOf (L2.CX P w) P w K mg base N qual (defScope st) f cdv A outer s H E) (defBody st) (TMs ⟨K, cl⟩ π (fun cls d _ H => E cls d H) body)) :
    FnOk P w K mg base (L2.CX P w) (k + 1) f fd ps (spM ⟨K, cl⟩ n io rn fm) := by
  subst hn hm
  exact fun_ok F S hN hb
end
section
variable {X : Cx} {T : Tx} {π : Nat → Option Pin} {W : WX} {a b c e o : Expr} {es : List Expr} {pos : Pos} {m ma mb mc : Mi Dt} {ms : Mi (List Dt)} {A A' : Addr → Prop} {F H F' H' F0 H0 : Hp} {σ : L2.St} {ρ : En}
/-! ### a def is called -/
def mCall (n : Nat) (f : List Dt → Fo) (ms : Mi (List Dt)) : Mi Dt := mBind ms fun ds ρ => if ds.length = n then (match f ds with
  | .ret d _ => .ok d ρ
  | .exc x _ => .exc x ρ
  | .bad => .bad) else .bad
/-- behind a call that changes none of the slots' own objects -/
theorem Ok.called (k : Ok T π A F H σ ρ) (le : Le F' H') (r : Fr (pinA none) F H F' H') : Ok T π A F' H' σ ρ :=
  k.grow r.f le (fun a w => by
    obtain ⟨_, h2, o, h3, h4⟩ := k.ownT w
    rw [r.n a o (fun ⟨_, z, _⟩ => nomatch z) h3 h4]; exact h2) fun a o w e => r.h a o (fun ⟨_, z, _⟩ => nomatch z) e
theorem sp_call {n : Nat} {rn : Bool} {f : List Dt → Fo} {Q : VK} {vs : List V} {ds : List Dt} {P : Dt → En → Hp → Hp → Prop} (k : Ok T π A F H σ ρ) (r : Reps T F vs ds)
    (p : Post T π W σ A F H P (if ds.length = n then (match f ds with | .ret d _ => Ou.ok d ρ | .exc x _ => .exc x ρ | .bad => .bad) else .bad))
    (q : ∀ d F' H' v, Ok T π A F' H' σ ρ → Fr (pinA none) F H F' H' → RetOk T H F' H' v d rn → P d ρ F' H' → Q v H') : spM T n false rn f vs H Q (WE W σ) := by
  by_cases hl : ds.length = n
  · rw [if_pos hl] at p
    refine ⟨F, ds, none, by rw [r.length]; exact hl, k.le, ⟨r, rfl⟩, ?_⟩
    cases e : f ds with
    | ret d o =>
      rw [e] at p
      exact fun F' H' v le fr _ rv => q d F' H' v (k.called le fr) fr rv (p F' H' (k.called le fr) (fr.weak fun a ⟨_, z, _⟩ => nomatch z))
    | exc x o =>
      rw [e] at p
      exact fun F' H' c d le fr _ rx => p F' H' c d (k.called le fr) (fr.weak fun a ⟨_, z, _⟩ => nomatch z) rx
    | bad => rw [e] at p; exact p.elim
  · rw [if_neg hl] at p; exact p.elim
variable {k n : Nat} {f : Addr} {fd : FuncData} {ps : List Str} {x : Str} {p : Pos} {fm : List Dt → Fo}
theorem de_call (G : FnOk X.prog X.w X.K X.mg X.base (L2.CX X.prog X.w) k f fd ps (spM T n false false fm)) (hr : Room k X.A) (hg : Gl X x) (hm : X.mg x = some (.ref f)) (hk : PySem.W.keepIn X.K (.ref f) = true) (hb : Binds X.K fd ps []) (tk : Takes X W) (ha : PA X (e :: es) (TMa T π W ms))
    (hdb : (x == ("__debug__" : Str)) = false := by decide) (he : starEach (e :: es) X.env = (false, eval e X.env) :: starEach es X.env := by rfl) (hpl : (backTo pos (starEach es X.env)).any (·.1) = false := by rfl) :
    PE X (.Call (.Name x p) (e :: es) [] pos) (TMe T π W (mCall n fm ms)) := (pe_callSD (E := WE W) G hr hg hm hk hb .nil (fun σ => passAt tk σ) ha hdb he hpl).imp fun σ H Q ⟨A, F, ρ, k, p⟩ => ⟨A, F, ρ, k, p.bind.imp fun ds ρ1 F1 H1 k1 r1 p1 vs rvs => by
  show spM T n false false fm (vs ++ []) H1 Q (WE W σ)
  rw [List.append_nil]
  exact sp_call k1 rvs p1 fun d F' H' v _ _ rv q => q v rv⟩
theorem dn_call (G : FnOk X.prog X.w X.K X.mg X.base (L2.CX X.prog X.w) k f fd ps (spM T n false true fm)) (hr : Room k X.A) (hg : Gl X x) (hm : X.mg x = some (.ref f)) (hk : PySem.W.keepIn X.K (.ref f) = true) (hb : Binds X.K fd ps []) (tk : Takes X W) (ha : PA X (e :: es) (TMa T π W ms))
    (hdb : (x == ("__debug__" : Str)) = false := by decide) (he : starEach (e :: es) X.env = (false, eval e X.env) :: starEach es X.env := by rfl) (hpl : (backTo pos (starEach es X.env)).any (·.1) = false := by rfl) :
    PE X (.Call (.Name x p) (e :: es) [] pos) (TMn T π W (mCall n fm ms)) := (pe_callSD (E := WE W) G hr hg hm hk hb .nil (fun σ => passAt tk σ) ha hdb he hpl).imp fun σ H Q ⟨A, F, ρ, k, p⟩ => ⟨A, F, ρ, k, p.bind.imp fun ds ρ1 F1 H1 k1 r1 p1 vs rvs => by
  show spM T n false true fm (vs ++ []) H1 Q (WE W σ)
  rw [List.append_nil]
  exact sp_call k1 rvs p1 fun d F' H' v k' r' ⟨p, e, h1, h2, h3, h4⟩ q => by
    rw [e]
    have no : ∀ y, H1 y = none → ¬ IsOwn H' σ ρ1 y := fun y hy w => by
      have w' : IsOwn H1 σ ρ1 y := (k1.sameOwn fun a o w e => r'.h a o (fun ⟨_, z, _⟩ => nomatch z) e).mp w
      obtain ⟨_, _, o, ho⟩ := k1.ownH w'
      rw [hy] at ho; cases ho
    exact q p h1 (no p h2) (r1.t p h2) h3 fun y hy => ⟨(h4 y hy).1, no y (h4 y hy).2, r1.t y (h4 y hy).2⟩⟩
/-! ### a slot's own list is changed -/
/-- the slot's object changes, and what it holds alone -/
theorem Ok.putG {i : Nat} {io : Bool} {d d' : Dt} {a : Addr} {H' : Hp} (k : Ok T π A F H σ ρ) (e : ρ[i]? = some (some (.own io d))) (s : σ[i]? = some (some (.ref a))) (hH : ∀ b, b ≠ a → b ∉ inH H a d → H' b = H b) (ho : OwnAt T F H' a d') (hin : inH H' a d' = inH H a d) : Ok T π A F H' σ (ρ.set i (some (.own io d'))) := by
  have hi : i < ρ.length := (List.getElem?_eq_some_iff.mp e).1
  obtain ⟨a', h1, h2, h3, h4, h5⟩ := k.own i io d e
  rw [s] at h1
  cases h1
  have oth : ∀ (j : Nat) jo dj b, i ≠ j → ρ[j]? = some (some (.own jo dj)) → σ[j]? = some (some (.ref b)) → ∀ x, (x = b ∨ x ∈ inH H b dj) → H' x = H x := fun j jo dj b hj ej sj x hx =>
    hH x (fun z => hj (k.dis i j io jo d dj a b x e ej s sj (.inl z) hx)) fun z => hj (k.dis i j io jo d dj a b x e ej s sj (.inr z) hx)
  have smj : ∀ (j : Nat) jo dj b, i ≠ j → ρ[j]? = some (some (.own jo dj)) → σ[j]? = some (some (.ref b)) → inH H' b dj = inH H b dj := fun j jo dj b hj ej sj => by
    obtain ⟨b', q1, q2, q3, q4, q5⟩ := k.own j jo dj ej
    rw [sj] at q1
    cases q1
    exact q3.same fun o q => by rw [oth j jo dj b hj ej sj b (.inl rfl)]; exact q
  refine ⟨fun b u z => ?_, by simpa using k.len, fun j dj ej => ?_, fun j jo dj ej => ?_, fun j l jo lo dj dl b c x ej el sj sl xj xl => ?_⟩
  · rw [hH b (fun q => by rw [q, h2] at z; cases z) fun q => by rw [(h5.2 b q).1] at z; cases z]; exact k.le b u z
  · by_cases hj : i = j
    · subst hj; rw [List.getElem?_set_self hi] at ej; cases ej
    · rw [List.getElem?_set_ne hj] at ej; exact k.val j dj ej
  · by_cases hj : i = j
    · subst hj
      rw [List.getElem?_set_self hi] at ej
      cases ej
      exact ⟨a, s, h2, ho, h4, by rw [hin]; exact h5⟩
    · rw [List.getElem?_set_ne hj] at ej
      obtain ⟨b, q1, q2, q3, q4, q5⟩ := k.own j jo dj ej
      exact ⟨b, q1, q2, q3.mono (le_refl F) fun x hx u q => by rw [oth j jo dj b hj ej q1 x hx]; exact q, q4, by rw [smj j jo dj b hj ej q1]; exact q5⟩
  · have back : ∀ (j : Nat) jo dj b, (ρ.set i (some (.own io d')))[j]? = some (some (.own jo dj)) → σ[j]? = some (some (.ref b)) → ∃ jo dk, ρ[j]? = some (some (.own jo dk)) ∧ inH H b dk = inH H' b dj := fun j jo dj b ej sj => by
      by_cases hj : i = j
      · subst hj; rw [List.getElem?_set_self hi] at ej; cases ej; rw [s] at sj; cases sj; exact ⟨io, d, e, hin.symm⟩
      · rw [List.getElem?_set_ne hj] at ej; exact ⟨jo, dj, ej, (smj j jo dj b hj ej sj).symm⟩
    obtain ⟨_, _, gj, ij⟩ := back j jo dj b ej sj
    obtain ⟨_, _, gl, il⟩ := back l lo dl c el sl
    exact k.dis j l _ _ _ _ b c x gj gl sj sl (by rw [ij]; exact xj) (by rw [il]; exact xl)
/-- the slot's object changes -/
theorem Ok.put {i : Nat} {io : Bool} {d d' : Dt} {a : Addr} {o : HO} (k : Ok T π A F H σ ρ) (e : ρ[i]? = some (some (.own io d))) (s : σ[i]? = some (some (.ref a))) (ho : OwnAt T F (upd H a o) a d') (hin : inH (upd H a o) a d' = inH H a d := by rfl) : Ok T π A F (upd H a o) σ (ρ.set i (some (.own io d'))) :=
  k.putG e s (fun b hb _ => upd_ne hb) ho hin
theorem Fr.put {i : Nat} {io : Bool} {d : Dt} {a : Addr} {o : HO} (k : Ok T π A F H σ ρ) (e : ρ[i]? = some (some (.own io d))) (s : σ[i]? = some (some (.ref a))) : Fr A F H F (upd H a o) := by
  have hA : A a := k.ownA ⟨i, io, d, a, e, s, .inl rfl⟩
  exact ⟨le_refl F, fun b u n q => by rw [upd_ne fun z => n (by rw [z]; exact hA)]; exact q, fun _ _ _ _ _ => rfl, fun _ z => up_none z⟩
/-- the list in slot i, changed by f of the list and a value -/
def mMut (i : Nat) (f : List Dt → Option (Dt × List Dt)) : Mi Dt := fun ρ => match ρ[i]? with
  | some (some (.own io (.lst ds))) => (match f ds with
    | some (r, es) => .ok r (ρ.set i (some (.own io (.lst es))))
    | none => .bad)
  | _ => .bad
theorem mMut_inv {i : Nat} {f : List Dt → Option (Dt × List Dt)} {P : Dt → En → Hp → Hp → Prop} (p : Post T π W σ A F H P (mMut i f ρ)) (k : Ok T π A F H σ ρ) :
    ∃ io ds r es a vs, ρ[i]? = some (some (.own io (.lst ds))) ∧ f ds = some (r, es) ∧ σ[i]? = some (some (.ref a)) ∧ H a = some (.lst vs) ∧ Reps T F vs ds ∧
      ∀ vs', Reps T F vs' es → P r (ρ.set i (some (.own io (.lst es)))) F (upd H a (.lst vs')) := by
  unfold mMut at p
  split at p
  · rename_i io ds e
    split at p
    · rename_i r es ef
      obtain ⟨a, h1, h2, ⟨vs, h3, h4⟩, _⟩ := k.own i io _ e
      exact ⟨io, ds, r, es, a, vs, e, ef, h1, h3, h4, fun vs' rv => p F (upd H a (.lst vs')) (k.put e h1 ⟨vs', upd_same, rv⟩) (.put k e h1)⟩
    · exact p.elim
  · exact p.elim
def mAppend (i : Nat) (m : Mi Dt) : Mi Dt := mBind m fun y => mMut i fun ds => if ds.length < sizeLine then some (.non, ds ++ [y]) else none
def mExtend (i : Nat) (m : Mi Dt) : Mi Dt := mBind m fun y => mMut i fun ds => match y with
  | .lst es => if ds.length + es.length ≤ sizeLine then some (.non, ds ++ es) else none
  | _ => none
def mPopAt (i : Nat) (m : Mi Dt) : Mi Dt := mBind m fun y => mMut i fun ds => match y with
  | .int j => if -(2 ^ 63) ≤ j ∧ j < 2 ^ 63 then (ixN ds.length j).bind fun q => (ds[q]?).map fun y => (y, ds.eraseIdx q) else none
  | _ => none
/-- the slot's own list is there, whatever comes -/
theorem own_first {i : Nat} {io : Bool} {ds : List Dt} (hK : X.K = T.K) (k : Ok T π A F H σ ρ) (e : ρ[i]? = some (some (.own io (.lst ds)))) : ∃ a, σ[i]? = some (some (.ref a)) ∧ tyV X.K "list" (.ref a) H := by
  obtain ⟨a, h1, h2, ⟨vs, h3, h4⟩, _⟩ := k.own i io _ e
  exact ⟨a, h1, .inl ⟨rfl, vs, SqL.of h3⟩⟩
def ownLst (i : Nat) (m : Mi Dt) : Mi Dt := fun ρ => match ρ[i]? with
  | some (some (.own _ (.lst _))) => m ρ
  | _ => .bad
theorem de_append {i : Nat} (hK : X.K = T.K) (h : PE X o (tBM X.K "list" rAppend (tVar i) (tCons (TMe T π W m) tNil))) : PE X o (TMe T π W (ownLst i (mAppend i m))) := h.imp fun σ H Q ⟨A, F, ρ, k, p⟩ => by
  unfold ownLst at p
  split at p
  · rename_i io ds e
    obtain ⟨a, h1, h2⟩ := own_first hK k e
    refine ⟨.ref a, h1, h2, A, F, ρ, k, p.bind.imp fun y ρ1 F1 H1 k1 r1 p1 v rv => ?_⟩
    obtain ⟨io1, ds1, r, es, a1, vs, e1, ef, s1, h3, h4, q⟩ := mMut_inv p1 k1
    rw [h1] at s1
    cases s1
    by_cases hz : ds1.length < sizeLine
    · rw [if_pos hz] at ef
      cases ef
      exact ⟨a, vs, v, rfl, rfl, h3, by rw [h4.length]; exact hz, q _ (h4.append (.cons rv .nil)) _ .non⟩
    · rw [if_neg hz] at ef; cases ef
  · exact p.elim
theorem de_extend {i : Nat} (hK : X.K = T.K) (h : PE X o (tBM X.K "list" rExtend (tVar i) (tCons (TMn T π W m) tNil))) : PE X o (TMe T π W (ownLst i (mExtend i m))) := h.imp fun σ H Q ⟨A, F, ρ, k, p⟩ => by
  unfold ownLst at p
  split at p
  · rename_i io ds e
    obtain ⟨a, h1, h2⟩ := own_first hK k e
    refine ⟨.ref a, h1, h2, A, F, ρ, k, p.bind.imp fun y ρ1 F1 H1 k1 r1 p1 x h5 h6 h7 h8 _ => ?_⟩
    obtain ⟨io1, ds1, r, es, a1, vs, e1, ef, s1, h3, h4, q⟩ := mMut_inv p1 k1
    rw [h1] at s1
    cases s1
    cases y with
    | lst zs =>
      dsimp only at ef
      obtain ⟨ws, h9, h10⟩ := h8
      by_cases hz : ds1.length + zs.length ≤ sizeLine
      · rw [if_pos hz] at ef
        cases ef
        exact ⟨a, x, vs, ws, rfl, rfl, h3, h9, by rw [h4.length, h10.length]; exact hz, q _ (h4.append h10) _ .non⟩
      · rw [if_neg hz] at ef; cases ef
    | _ => cases ef
  · exact p.elim
end
end Dl
namespace Dl
open PySem PySem.Spec PyProof.Rows L2
section
variable {X : Cx} {T : Tx} {π : Nat → Option Pin} {W : WX} {a b c e o : Expr} {es : List Expr} {pos : Pos} {m ma mb mc : Mi Dt} {ms : Mi (List Dt)} {A A' : Addr → Prop} {F H F' H' F0 H0 : Hp} {σ : L2.St} {ρ : En}
theorem ops_pure {r : R2} {f : Dt → Dt → Option Dt} (h : ∀ F H v w d e z (Q : VK), Le F H → RepS T F H v d → RepS T F H w e → f d e = some z → (∀ u, Rep T F u z → Q u H) → r v w H Q) : OpS T r f :=
  fun π A F H σ ρ v w d e z Q k rv rw ef q => h F H v w d e z Q k.le rv rw ef fun u ru => q F H u k .refl ru
theorem uns_pure {r : V → Hp → VK → Prop} {f : Dt → Option Dt} (h : ∀ F H v d z (Q : VK), Le F H → RepS T F H v d → f d = some z → (∀ u, Rep T F u z → Q u H) → r v H Q) : UnS T r f :=
  fun π A F H σ ρ v d z Q k rv ef q => h F H v d z Q k.le rv ef fun u ru => q F H u k .refl ru
theorem RepS.int_inv {v : V} {i : Int} (h : RepS T F H v (.int i)) : v = .int i := (h.flat trivial).int_inv
theorem RepS.str_inv {v : V} {i : Str} (h : RepS T F H v (.str i)) : v = .str i := (h.flat trivial).str_inv
theorem RepS.bl_inv {v : V} {i : Bool} (h : RepS T F H v (.bl i)) : v = .bl i := (h.flat trivial).bl_inv
/-! ### whole numbers -/
def fI (g : Int → Int → Option Dt) : Dt → Dt → Option Dt
  | .int i, .int j => g i j
  | _, _ => none
theorem fI_inv {g : Int → Int → Option Dt} {d e z : Dt} (h : fI g d e = some z) : ∃ i j, d = .int i ∧ e = .int j ∧ g i j = some z := by
  unfold fI at h
  split at h
  · exact ⟨_, _, rfl, rfl, h⟩
  · cases h
theorem os_I0 {g : Int → Int → V} {gd : Int → Int → Dt} (hg : ∀ F i j, Rep T F (g i j) (gd i j)) : OpS T (rI0 g) (fI fun i j => some (gd i j)) := ops_pure fun F H v w d e z Q le rv rw ef q => by
  obtain ⟨i, j, rfl, rfl, h⟩ := fI_inv ef
  cases h
  exact ⟨i, j, rv.int_inv, rw.int_inv, q _ (hg F i j)⟩
theorem os_I {C : Int → Int → Prop} [∀ i j, Decidable (C i j)] {g : Int → Int → V} {gd : Int → Int → Dt} (hg : ∀ F i j, Rep T F (g i j) (gd i j)) : OpS T (rI C g) (fI fun i j => if C i j then some (gd i j) else none) := ops_pure fun F H v w d e z Q le rv rw ef q => by
  obtain ⟨i, j, rfl, rfl, h⟩ := fI_inv ef
  split at h
  · rename_i hc
    cases h
    exact ⟨i, j, rv.int_inv, rw.int_inv, hc, q _ (hg F i j)⟩
  · cases h
instance (i j : Int) : Decidable (CMul i j) := by unfold CMul; exact inferInstance
/-- // by a positive divisor below 2 ^ 100 -/
def CDivX (_ j : Int) : Prop := 0 < j ∧ j < 1267650600228229401496703205376
instance (i j : Int) : Decidable (CDivX i j) := by unfold CDivX; exact inferInstance
theorem CDivX.w {i j : Int} (h : CDivX i j) : CDivW i j := wide_div (b := 100) h.1 (by have h1 := h.1; have h2 := h.2; omega) (by decide) (by decide)
instance (i j : Int) : Decidable (CPow i j) := by unfold CPow; exact inferInstance
def fSub : Dt → Dt → Option Dt := fI fun i j => some (.int (i - j))
def fMulI : Dt → Dt → Option Dt := fI fun i j => if CMul i j then some (.int (i * j)) else none
def fDiv : Dt → Dt → Option Dt := fI fun i j => if CDivX i j then some (.int (i / j)) else none
def fMod : Dt → Dt → Option Dt := fI fun i j => if 0 < j then some (.int (i % j)) else none
def fPow : Dt → Dt → Option Dt := fI fun i j => if CPow i j then some (.int (i ^ j.toNat)) else none
def fLt : Dt → Dt → Option Dt := fI fun i j => some (.bl (decide (i < j)))
def fLe : Dt → Dt → Option Dt := fI fun i j => some (.bl (decide (i ≤ j)))
def fGt : Dt → Dt → Option Dt := fI fun i j => some (.bl (decide (j < i)))
def fGe : Dt → Dt → Option Dt := fI fun i j => some (.bl (decide (j ≤ i)))
theorem os_sub : OpS T (rI0 fun i j => .int (i - j)) fSub := os_I0 fun F i j => .int _
theorem os_mulI : OpS T (rI CMul fun i j => .int (i * j)) fMulI := os_I fun F i j => .int _
theorem rI_mono {C C' : Int → Int → Prop} {g : Int → Int → V} {x y : V} {H : Hp} {Q : VK} (hC : ∀ i j, C' i j → C i j) (h : rI C' g x y H Q) : rI C g x y H Q := by
  obtain ⟨i, j, h1, h2, h3, h4⟩ := h
  exact ⟨i, j, h1, h2, hC i j h3, h4⟩
theorem os_div : OpS T (rI CDivW fun i j => .int (i / j)) fDiv := fun π A F H σ ρ v w d e z Q k rv rw ef q => rI_mono (fun _ _ => CDivX.w) (os_I (T := T) (C := CDivX) (g := fun i j => .int (i / j)) (gd := fun i j => .int (i / j)) (fun F i j => .int _) π A F H σ ρ v w d e z Q k rv rw ef q)
theorem os_mod : OpS T (rI (fun _ j => 0 < j) fun i j => .int (i % j)) fMod := os_I fun F i j => .int _
theorem os_pow : OpS T (rI CPow fun i j => .int (i ^ j.toNat)) fPow := os_I fun F i j => .int _
theorem os_lt : OpS T (rI0 fun i j => .bl (decide (i < j))) fLt := os_I0 fun F i j => .bl _
theorem os_le : OpS T (rI0 fun i j => .bl (decide (i ≤ j))) fLe := os_I0 fun F i j => .bl _
theorem os_gt : OpS T (rI0 fun i j => .bl (decide (j < i))) fGt := os_I0 fun F i j => .bl _
theorem os_ge : OpS T (rI0 fun i j => .bl (decide (j ≤ i))) fGe := os_I0 fun F i j => .bl _
def fNeg : Dt → Option Dt
  | .int i => some (.int (-i))
  | _ => none
theorem us_neg : UnS T (rU fun i => .int (-i)) fNeg := uns_pure fun F H v d z Q le rv ef q => by
  cases d with
  | int i => cases ef; exact ⟨i, rv.int_inv, q _ (.int _)⟩
  | _ => cases ef
/-! ### + of numbers, texts, lists, tuples -/
def fAdd : Dt → Dt → Option Dt
  | .int i, .int j => some (.int (i + j))
  | .str x, .str y => if x.length + y.length ≤ sizeLine then some (.str (x ++ y)) else none
  | .lst xs, .lst ys => if xs.length + ys.length ≤ sizeLine then some (.lst (xs ++ ys)) else none
  | .tup xs, .tup ys => if xs.length + ys.length ≤ sizeLine then some (.tup (xs ++ ys)) else none
  | _, _ => none
def rAddS : R2 := fun x y H Q => ∃ i j, x = V.str i ∧ y = V.str j ∧ i.length + j.length ≤ sizeLine ∧ Q (.str (i ++ j)) H
def rAdd (K : PySem.W.Frag) : R2 := fun x y H Q => rI0 (fun i j => .int (i + j)) x y H Q ∨ (rAddS x y H Q ∨ (rCat x y H Q ∨ rCatA K x y H Q))
theorem op_addA : OpR X (binaryOp .Add) (rAdd X.K) := OpR.or op_add (OpR.or op_add_str (OpR.or op_cat op_catA))
theorem RepS.lst_inv {v : V} {ds : List Dt} (r : RepS T F H v (.lst ds)) (le : Le F H) : ∃ a vs, v = .ref a ∧ H a = some (.lst vs) ∧ Reps T F vs ds := by
  rcases r with r | ⟨a, e, vs, h, r⟩
  · cases r with
    | lst h r => exact ⟨_, _, rfl, le _ _ h, r⟩
  · exact ⟨a, vs, e, h, r⟩
theorem os_add : OpS T (rAdd T.K) fAdd := fun π A F H σ ρ v w d e z Q k rv rw ef q => by
  unfold fAdd at ef
  split at ef
  · cases ef
    exact .inl ⟨_, _, rv.int_inv, rw.int_inv, q F H _ k .refl (.int _)⟩
  · split at ef
    · cases ef
      exact .inr (.inl ⟨_, _, rv.str_inv, rw.str_inv, by assumption, q F H _ k .refl (.str _)⟩)
    · cases ef
  · split at ef
    · rename_i hz
      cases ef
      obtain ⟨a, vs, e1, h1, r1⟩ := rv.lst_inv k.le
      obtain ⟨b, ws, e2, h2, r2⟩ := rw.lst_inv k.le
      refine .inr (.inr (.inl ⟨a, b, vs, ws, e1, e2, h1, h2, by rw [r1.length, r2.length]; exact hz, fun p hp => ?_⟩))
      exact q (upd F p (.lst (vs ++ ws))) _ (.ref p) (k.new hp) (.new k.le hp) (.lst upd_same ((r1.append r2).mono (le_new (f_none k.le hp))))
    · cases ef
  · rename_i xs ys
    split at ef
    · rename_i hz
      cases ef
      have rv' := rv.flat trivial
      have rw' := rw.flat trivial
      obtain ⟨a, vs, e1, h1, r1⟩ := rv'.tup_inv
      obtain ⟨b, ws, e2, h2, r2⟩ := rw'.tup_inv
      refine .inr (.inr (.inr ⟨a, b, vs, ws, e1, e2, sqt_mono k.le h1, sqt_mono k.le h2, by rw [r1.length, r2.length]; exact hz, fun z => ?_, fun z1 z2 => ?_, fun z1 z2 p hp => ?_⟩))
      · subst z
        cases r1
        exact q F H _ k .refl (by rw [← e2]; exact rw')
      · subst z2
        cases r2
        rw [List.append_nil] at q
        exact q F H _ k .refl (by rw [← e1]; exact rv')
      · exact q (upd F p (.tup (vs ++ ws))) _ (.ref p) (k.new hp) (.new k.le hp) (.tup upd_same ((r1.append r2).mono (le_new (f_none k.le hp))))
    · cases ef
  · cases ef
/-! ### == -/
mutual
def toPy : Dt → Option PyData
  | .non => some .none
  | .bl b => some (.bool b)
  | .int i => some (.int i)
  | .str x => some (.str x)
  | .lst xs => (toPys xs).map .list
  | .tup xs => (toPys xs).map .tuple
  | _ => none
def toPys : List Dt → Option (List PyData)
  | [] => some []
  | d :: ds => match toPy d, toPys ds with
    | some p, some ps => some (p :: ps)
    | _, _ => none
end
mutual
theorem dp_of (le : Le F H) : ∀ {d : Dt} {v : V} {p : PyData}, Rep T F v d → toPy d = some p → Dp T.K H v p
  | .non, _, _, r, e => by cases r; cases e; exact .non
  | .bl _, _, _, r, e => by cases r; cases e; exact .bl _
  | .int _, _, _, r, e => by cases r; cases e; exact .int _
  | .str _, _, _, r, e => by cases r; cases e; exact .str _
  | .ty _, _, _, r, e => by cases e
  | .scr _, _, _, r, e => by cases e
  | .dic _ _ _, _, _, r, e => by cases e
  | .ins _ _, _, _, r, e => by cases e
  | .lst xs, _, _, r, e => by
    cases r with
    | lst h rs =>
      unfold toPy at e
      cases q : toPys xs with
      | none => rw [q] at e; cases e
      | some ps => rw [q] at e; cases e; exact .lst (SqL.of (le _ _ h)) (dps_of le rs q)
  | .tup xs, _, _, r, e => by
    obtain ⟨a, vs, ev, h, rs⟩ := r.tup_inv
    subst ev
    unfold toPy at e
    cases q : toPys xs with
    | none => rw [q] at e; cases e
    | some ps => rw [q] at e; cases e; exact .tup (sqt_mono le h) (dps_of le rs q)
theorem dps_of (le : Le F H) : ∀ {ds : List Dt} {vs : List V} {ps : List PyData}, Reps T F vs ds → toPys ds = some ps → DpAll T.K H vs ps
  | [], _, _, r, e => by cases r; cases e; exact .nil
  | d :: ds, _, _, r, e => by
    cases r with
    | cons r rs =>
      unfold toPys at e
      cases q : toPy d with
      | none => rw [q] at e; cases e
      | some p =>
        cases q2 : toPys ds with
        | none => rw [q, q2] at e; cases e
        | some ps => rw [q, q2] at e; cases e; exact .cons (dp_of le r q) (dps_of le rs q2)
end
theorem dp_ofS (le : Le F H) {d : Dt} {v : V} {p : PyData} (r : RepS T F H v d) (e : toPy d = some p) : Dp T.K H v p := by
  rcases r with r | ⟨a, ev, ho⟩
  · exact dp_of le r e
  · subst ev
    cases d with
    | lst xs =>
      obtain ⟨vs, h, rs⟩ := ho
      unfold toPy at e
      cases q : toPys xs with
      | none => rw [q] at e; cases e
      | some ps => rw [q] at e; cases e; exact .lst (SqL.of h) (dps_of le rs q)
    | _ => first | exact ho.elim | cases e
def dEq (d e : Dt) : Option Bool := match toPy d, toPy e with
  | some p, some q => if SeqAt.shaped p && SeqAt.shaped q then some (PyData.eqv p q) else none
  | _, _ => none
def fEq (d e : Dt) : Option Dt := (dEq d e).map .bl
def fNe (d e : Dt) : Option Dt := (dEq d e).map fun b => .bl (!b)
theorem dEq_inv {d e : Dt} {b : Bool} (h : dEq d e = some b) : ∃ p q, toPy d = some p ∧ toPy e = some q ∧ SeqAt.shaped p = true ∧ SeqAt.shaped q = true ∧ PyData.eqv p q = b := by
  unfold dEq at h
  split at h
  · rename_i p q e1 e2
    split at h
    · rename_i hs
      cases h
      exact ⟨p, q, e1, e2, (Bool.and_eq_true_iff.mp hs).1, (Bool.and_eq_true_iff.mp hs).2, rfl⟩
    · cases h
  · cases h
theorem os_eq : OpS T (rEqD T.K) fEq := ops_pure fun F H v w d e z Q le rv rw ef q => by
  unfold fEq at ef
  cases h : dEq d e with
  | none => rw [h] at ef; cases ef
  | some b =>
    rw [h] at ef
    cases ef
    obtain ⟨p, p', h1, h2, h3, h4, h5⟩ := dEq_inv h
    subst h5
    exact ⟨p, p', dp_ofS le rv h1, dp_ofS le rw h2, h3, h4, q _ (.bl _)⟩
theorem os_ne : OpS T (rNeD T.K) fNe := ops_pure fun F H v w d e z Q le rv rw ef q => by
  unfold fNe at ef
  cases h : dEq d e with
  | none => rw [h] at ef; cases ef
  | some b =>
    rw [h] at ef
    cases ef
    obtain ⟨p, p', h1, h2, h3, h4, h5⟩ := dEq_inv h
    subst h5
    exact ⟨p, p', dp_ofS le rv h1, dp_ofS le rw h2, h3, h4, q _ (.bl _)⟩
/-- is None -/
def isNon : Dt → Bool
  | .non => true
  | _ => false
theorem RepS.isNon {v : V} {d : Dt} (r : RepS T F H v d) : decide (v = .non) = Dl.isNon d := by
  rcases r with r | ⟨a, ev, ho⟩
  · cases r <;> simp [Dl.isNon]
  · subst ev
    cases d <;> first | exact ho.elim | simp [Dl.isNon]
def fIsN : Dt → Dt → Option Dt
  | d, .non => some (.bl (isNon d))
  | _, _ => none
def fNotN : Dt → Dt → Option Dt
  | d, .non => some (.bl (!isNon d))
  | _, _ => none
theorem os_isN : OpS T (fun x y H Q => y = V.non ∧ Q (.bl (decide (x = .non))) H) fIsN := ops_pure fun F H v w d e z Q le rv rw ef q => by
  cases e with
  | non =>
    cases ef
    refine ⟨(rw.flat trivial).non_inv, ?_⟩
    rw [rv.isNon]
    exact q _ (.bl _)
  | _ => cases ef
theorem os_notN : OpS T (fun x y H Q => y = V.non ∧ Q (.bl (!decide (x = .non))) H) fNotN := ops_pure fun F H v w d e z Q le rv rw ef q => by
  cases e with
  | non =>
    cases ef
    refine ⟨(rw.flat trivial).non_inv, ?_⟩
    rw [rv.isNon]
    exact q _ (.bl _)
  | _ => cases ef
/-- a < b < c -/
def mChain (f g : Dt → Dt → Option Dt) (ma mb mc : Mi Dt) : Mi Dt := mBind ma fun x => mBind mb fun y => mBind (mOpt (f x y)) fun z => match z with
  | .bl true => mBind mc fun w => mOpt (g y w)
  | .bl false => mPure (.bl false)
  | _ => mBad
theorem dt_chain {r r' : R2} {f g : Dt → Dt → Option Dt} (h : PT X e (tTest (tChain r r' (TMe T π W ma) (TMe T π W mb) (TMp T π W mc)))) (hs : OpS T r f) (hs' : OpS T r' g) : PT X e (TMt T π W (mB (mChain f g ma mb mc))) := h.imp fun σ H Q ⟨A, F, ρ, k, p⟩ => by
  have p' := p.bind
  refine ⟨A, F, ρ, k, p'.bind.imp fun x ρ1 F1 H1 k1 r1 p1 v rv => ⟨A, F1, ρ1, k1, p1.bind.imp fun y ρ2 F2 H2 k2 r2 p2 w rw => ?_⟩⟩
  obtain ⟨z, ez, p3⟩ := p2.bind.opt
  refine hs π A F2 H2 σ ρ2 v w x y z _ k2 (rv.mono r2.f).s rw.s ez fun F' H' u k' r' ru => ?_
  have p4 := p3 F' H' k' r'
  cases z with
  | bl b =>
    refine ⟨b, ru.bl_inv, ?_⟩
    cases b with
    | false => exact iteF ⟨false, rfl, p4.pure k' |>.pure k'⟩
    | true =>
      refine iteT ⟨A, F', ρ2, k', p4.bind.imp fun t ρ3 F3 H3 k3 r3 p5 w' rw' => ?_⟩
      obtain ⟨z2, ez2, p6⟩ := p5.opt
      refine hs' π A F3 H3 σ ρ3 w w' y t z2 _ k3 ((rw.mono r'.f).mono r3.f).s rw' ez2 fun F4 H4 u2 k4 r4 ru2 => ?_
      have p7 := p6 F4 H4 k4 r4
      cases z2 with
      | bl b2 => exact ⟨b2, ru2.bl_inv, p7.pure k4⟩
      | _ => exact p7.elim
  | _ => exact p4.elim
/-! ### subscripts -/
theorem RepS.scr_inv {v : V} {ns : List Int} (r : RepS T F H v (.scr ns)) (le : Le F H) : ∃ a, v = .ref a ∧ SqL T.K H a (ns.map V.int) := by
  cases r.flat trivial with
  | scr h => exact ⟨_, rfl, sql_mono le h⟩
def fIx : Dt → Dt → Option Dt
  | .scr ns, .int i => (atI ns i).map .int
  | .lst xs, .int i => atI xs i
  | .tup xs, .int i => atI xs i
  | .str z, .int i => if z.length ≤ sizeLine then (atI z.cps.toList i).map fun c => .str ⟨#[c]⟩ else none
  | _, _ => none
theorem Reps.at {vs : List V} {ds : List Dt} {i : Int} {d : Dt} (r : Reps T F vs ds) (h : atI ds i = some d) : ∃ v, atI vs i = some v ∧ Rep T F v d := by
  unfold atI at h ⊢
  rw [r.length]
  cases q : ixN ds.length i with
  | none => rw [q] at h; cases h
  | some j =>
    rw [q] at h
    exact r.get h
theorem at_map {α β : Type} (f : α → β) (l : List α) (i : Int) : atI (l.map f) i = (atI l i).map f := by
  unfold atI
  rw [List.length_map]
  cases ixN l.length i with
  | none => rfl
  | some j => simp
theorem os_ix : OpS T (rIx T.K) fIx := ops_pure fun F H v w d e z Q le rv rw ef q => by
  unfold fIx at ef
  split at ef
  · rename_i ns i
    cases h : atI ns i with
    | none => rw [h] at ef; cases ef
    | some j =>
      rw [h] at ef
      cases ef
      obtain ⟨p, e1, hl⟩ := rv.scr_inv le
      exact .inl ⟨p, _, _, .int j, e1, rw.int_inv, hl, by rw [at_map, h]; rfl, q _ (.int _)⟩
  · obtain ⟨p, vs, e1, _, r, hl, _⟩ := rv.seq le (.inl rfl)
    obtain ⟨u, h1, h2⟩ := r.at ef
    exact .inl ⟨p, vs, _, u, e1, rw.int_inv, hl rfl, h1, q u h2⟩
  · obtain ⟨p, vs, e1, _, r, _, hl⟩ := rv.seq le (.inr rfl)
    obtain ⟨u, h1, h2⟩ := r.at ef
    exact .inr (.inl ⟨p, vs, _, u, e1, rw.int_inv, hl rfl, h1, q u h2⟩)
  · rename_i s i
    split at ef
    · rename_i hz
      cases h : atI s.cps.toList i with
      | none => rw [h] at ef; cases ef
      | some c =>
        rw [h] at ef
        cases ef
        exact .inr (.inr ⟨s, i, c, rv.str_inv, rw.int_inv, hz, h, q _ (.str _)⟩)
    · cases ef
  · cases ef
/-- o[i], o a name that may hold its own object: it is read behind i -/
def mIxV (i : Nat) (m : Mi Dt) : Mi Dt := mBind m fun y => mBind (mPeek i) fun x => mOpt (fIx x y)
theorem mPeek_inv {i : Nat} {P : Dt → En → Hp → Hp → Prop} (p : Post T π W σ A F H P (mPeek i ρ)) (k : Ok T π A F H σ ρ) : ∃ d v, σ[i]? = some (some v) ∧ RepS T F H v d ∧ P d ρ F H := by
  unfold mPeek at p
  split at p
  · rename_i d e
    obtain ⟨v, h1, h2⟩ := k.val i d e
    exact ⟨d, v, h1, h2.s, p F H k .refl⟩
  · rename_i io d e
    obtain ⟨a, h1, h2, h3, _⟩ := k.own i io d e
    exact ⟨d, .ref a, h1, .inr ⟨a, rfl, h3⟩, p F H k .refl⟩
  · exact p.elim
def hasSl (i : Nat) (m : Mi Dt) : Mi Dt := fun ρ => match ρ[i]? with
  | some (some _) => m ρ
  | _ => .bad
theorem de_ixV {i : Nat} (h : PE X e (tOp (rIx T.K) (tVar i) (TMe T π W m))) : PE X e (TMe T π W (hasSl i (mIxV i m))) := h.imp fun σ H Q ⟨A, F, ρ, k, p⟩ => by
  unfold hasSl at p
  split at p
  · rename_i s es
    have hv : ∃ v, σ[i]? = some (some v) := by
      cases s with
      | val d => obtain ⟨v, h1, _⟩ := k.val i d es; exact ⟨v, h1⟩
      | own io d => obtain ⟨a, h1, _⟩ := k.own i io d es; exact ⟨_, h1⟩
    obtain ⟨v, hv⟩ := hv
    refine ⟨v, hv, A, F, ρ, k, p.bind.imp fun y ρ1 F1 H1 k1 r1 p1 w rw => ?_⟩
    obtain ⟨d, v', h1, h2, p2⟩ := mPeek_inv p1.bind k1
    rw [hv] at h1
    cases h1
    obtain ⟨z, ez, p3⟩ := p2.opt
    exact os_ix π A F1 H1 σ ρ1 v w d y z Q k1 h2 rw.s ez fun F' H' u k' r' ru => p3 F' H' k' r' u ru
  · exact p.elim
/-! ### built-in functions of one argument -/
def CaS (T : Tx) (r : List V → Hp → VK → Prop) (f : Dt → Option Dt) : Prop := UnS T (fun v H Q => r [v] H Q) f
theorem de_call1 {r : List V → Hp → VK → Prop} {f : Dt → Option Dt} (h : PE X e (tCB r (tCons (TMp T π W m) tNil))) (hs : CaS T r f) : PE X e (TMe T π W (m1 f m)) := h.imp fun σ H Q ⟨A, F, ρ, k, p⟩ => ⟨A, F, ρ, k, p.bind.imp fun x ρ1 F1 H1 k1 r1 p1 v rv => by
  obtain ⟨z, ez, p3⟩ := p1.opt
  exact hs π A F1 H1 σ ρ1 v x z Q k1 rv ez fun F' H' u k' r' ru => p3 F' H' k' r' u ru⟩
/-- .. that make a new list -/
def CaN (T : Tx) (r : List V → Hp → VK → Prop) (f : Dt → Option (List Dt)) : Prop := ∀ (F H : Hp) (v : V) (d : Dt) (es : List Dt) (Q : VK), Le F H → RepS T F H v d → f d = some es → (∀ p vs, H p = none → Reps T F vs es → Q (.ref p) (upd H p (.lst vs))) → r [v] H Q
def m1N (f : Dt → Option (List Dt)) (m : Mi Dt) : Mi Dt := mBind m fun x => mOpt ((f x).map .lst)
theorem dn_call1 {r : List V → Hp → VK → Prop} {f : Dt → Option (List Dt)} (h : PE X e (tCB r (tCons (TMp T π W m) tNil))) (hs : CaN T r f) : PE X e (TMn T π W (m1N f m)) := h.imp fun σ H Q ⟨A, F, ρ, k, p⟩ => ⟨A, F, ρ, k, p.bind.imp fun x ρ1 F1 H1 k1 r1 p1 v rv => by
  obtain ⟨z, ez, p3⟩ := p1.opt
  cases q : f x with
  | none => rw [q] at ez; cases ez
  | some es =>
    rw [q] at ez
    cases ez
    exact hs F1 H1 v x es Q k1.le rv q fun x vs hx rs => p3 F1 (upd H1 x (.lst vs)) (k1.newO hx) (.newO hx) x (f_none k1.le hx) (k1.fresh_new hx) (r1.t x hx) ⟨vs, upd_same, rs⟩ (fun _ z => nomatch z)⟩
def fLen : Dt → Option Dt
  | .scr ns => some (.int ns.length)
  | .lst xs => some (.int xs.length)
  | .tup xs => some (.int xs.length)
  | .str z => if z.length ≤ sizeLine then some (.int z.length) else none
  | .dic false ks _ => some (.int ks.length)
  | _ => none
def rLenA (K : PySem.W.Frag) : List V → Hp → VK → Prop := fun xs H Q => (∃ p ys, xs = [.ref p] ∧ (SqL K H p ys ∨ SqT K H p ys) ∧ Q (.int ys.length) H) ∨ (∃ z, xs = [.str z] ∧ z.length ≤ sizeLine ∧ Q (.int z.length) H) ∨ (∃ a kvs, xs = [V.ref a] ∧ H a = some (.dK kvs) ∧ Q (.int kvs.length) H)
theorem cr_lenA : CallR X (.builtin "len") (rLenA X.K) := CallR.or call_len_seq (CallR.or call_len_str call_lenD)
theorem RepS.dicK_inv {v : V} {ks ds : List Dt} (r : RepS T F H v (.dic false ks ds)) (le : Le F H) : ∃ (a : Addr) (kk : List Key) (vs : List V), v = .ref a ∧ H a = some (.dK (kk.zip vs)) ∧ kk.length = vs.length ∧ ks = kk.map kD ∧ Reps T F vs ds := by
  rcases r with r | ⟨a, ev, kk, vs, h1, h2, h3, h4⟩
  · cases r with
    | dicK h l r => exact ⟨_, _, _, rfl, le _ _ h, l, rfl, r⟩
  · exact ⟨a, kk, vs, ev, h1, h2, h3, h4⟩
theorem cs_len : CaS T (rLenA T.K) fLen := uns_pure fun F H v d z Q le rv ef q => by
  unfold fLen at ef
  split at ef
  · cases ef
    obtain ⟨p, e1, hl⟩ := rv.scr_inv le
    exact .inl ⟨p, _, by rw [e1], .inl hl, q _ (by rw [List.length_map]; exact .int _)⟩
  · cases ef
    obtain ⟨p, vs, e1, h, r, _⟩ := rv.seq le (.inl rfl)
    exact .inl ⟨p, vs, by rw [e1], h, q _ (by rw [r.length]; exact .int _)⟩
  · cases ef
    obtain ⟨p, vs, e1, h, r, _⟩ := rv.seq le (.inr rfl)
    exact .inl ⟨p, vs, by rw [e1], h, q _ (by rw [r.length]; exact .int _)⟩
  · split at ef
    · cases ef
      exact .inr (.inl ⟨_, by rw [rv.str_inv], by assumption, q _ (.int _)⟩)
    · cases ef
  · cases ef
    obtain ⟨a, kk, vs, e1, h1, h2, h3, h4⟩ := rv.dicK_inv le
    refine .inr (.inr ⟨a, _, by rw [e1], h1, q _ ?_⟩)
    rw [List.length_zip, ← h2, Nat.min_self, h3, List.length_map]
    exact .int _
  · cases ef
/-- tuple(x) -/
def fTuple : Dt → Option Dt
  | .lst xs => some (.tup xs)
  | .tup xs => some (.tup xs)
  | _ => none
theorem cs_tuple : CaS T (fun xs H Q => ∃ p ys, xs = [V.ref p] ∧ ((SqL T.K H p ys ∧ ∀ l, H l = none → Q (.ref l) (upd H l (.tup ys))) ∨ (SqT T.K H p ys ∧ Q (.ref p) H))) fTuple := fun π A F H σ ρ v d z Q k rv ef q => by
  unfold fTuple at ef
  split at ef
  · cases ef
    obtain ⟨p, vs, e1, h, r, hl, _⟩ := rv.seq k.le (.inl rfl)
    refine ⟨p, vs, by rw [e1], .inl ⟨hl rfl, fun l hl => ?_⟩⟩
    exact q (upd F l (.tup vs)) (upd H l (.tup vs)) (.ref l) (k.new hl) (.new k.le hl) (.tup upd_same (r.mono (le_new (f_none k.le hl))))
  · cases ef
    have rv' := rv.flat trivial
    obtain ⟨p, vs, e1, h, r⟩ := rv'.tup_inv
    exact ⟨p, vs, by rw [e1], .inr ⟨sqt_mono k.le h, q F H (.ref p) k .refl (by rw [← e1]; exact rv')⟩⟩
  · cases ef
def fListN : Dt → Option (List Dt)
  | .lst xs => some xs
  | .tup xs => some xs
  | _ => none
theorem cn_list : CaN T (fun xs H Q => ∃ p ys, xs = [V.ref p] ∧ (SqL T.K H p ys ∨ SqT T.K H p ys) ∧ ∀ l, H l = none → Q (.ref l) (upd H l (.lst ys))) fListN := fun F H v d es Q le rv ef q => by
  unfold fListN at ef
  split at ef
  · cases ef
    obtain ⟨p, vs, e1, h, r, _⟩ := rv.seq le (.inl rfl)
    exact ⟨p, vs, by rw [e1], h, fun l hl => q l vs hl r⟩
  · cases ef
    obtain ⟨p, vs, e1, h, r, _⟩ := rv.seq le (.inr rfl)
    exact ⟨p, vs, by rw [e1], h, fun l hl => q l vs hl r⟩
  · cases ef
/-- lists of whole numbers -/
def intsOf : List Dt → Option (List Int)
  | [] => some []
  | .int i :: ds => (intsOf ds).map (i :: ·)
  | _ => none
theorem ints_inv : ∀ {ds : List Dt} {ns : List Int}, intsOf ds = some ns → ds = ns.map .int
  | [], ns, h => by cases h; rfl
  | .int i :: ds, ns, h => by
    unfold intsOf at h
    cases q : intsOf ds with
    | none => rw [q] at h; cases h
    | some r => rw [q] at h; cases h; rw [ints_inv q]; rfl
  | .non :: _, _, h => by cases h
  | .bl _ :: _, _, h => by cases h
  | .str _ :: _, _, h => by cases h
  | .ty _ :: _, _, h => by cases h
  | .scr _ :: _, _, h => by cases h
  | .lst _ :: _, _, h => by cases h
  | .tup _ :: _, _, h => by cases h
  | .dic _ _ _ :: _, _, h => by cases h
  | .ins _ _ :: _, _, h => by cases h
theorem reps_ints : ∀ {ns : List Int} {vs : List V}, Reps T F vs (ns.map .int) → vs = ns.map V.int
  | [], _, r => by cases r; rfl
  | i :: ns, _, r => by
    cases r with
    | cons h rs => rw [h.int_inv, reps_ints rs]; rfl
theorem ints_reps : ∀ (ns : List Int), Reps T F (ns.map V.int) (ns.map .int)
  | [] => .nil
  | i :: ns => .cons (.int i) (ints_reps ns)
def insI (x : Int) : List Int → List Int
  | [] => [x]
  | y :: r => if x ≤ y then x :: y :: r else y :: insI x r
def sortI : List Int → List Int
  | [] => []
  | x :: r => insI x (sortI r)
theorem insI_perm (x : Int) : ∀ l, (insI x l).Perm (x :: l)
  | [] => List.Perm.refl _
  | y :: r => by
    unfold insI
    split
    · exact List.Perm.refl _
    · exact ((insI_perm x r).cons y).trans (List.Perm.swap x y r)
theorem sortI_perm : ∀ l, (sortI l).Perm l
  | [] => List.Perm.refl _
  | x :: r => (insI_perm x (sortI r)).trans ((sortI_perm r).cons x)
theorem insI_sorted (x : Int) : ∀ {l : List Int}, l.Pairwise (· ≤ ·) → (insI x l).Pairwise (· ≤ ·)
  | [], _ => by simp [insI]
  | y :: r, h => by
    rw [List.pairwise_cons] at h
    unfold insI
    split
    · rename_i hxy
      rw [List.pairwise_cons, List.pairwise_cons]
      exact ⟨fun z hz => by
        cases hz with
        | head => exact hxy
        | tail _ hz => exact Int.le_trans hxy (h.1 z hz), h⟩
    · rename_i hxy
      rw [List.pairwise_cons]
      refine ⟨fun z hz => ?_, insI_sorted x h.2⟩
      have := (insI_perm x r).mem_iff.mp hz
      cases this with
      | head => omega
      | tail _ hz => exact h.1 z hz
theorem sortI_sorted : ∀ l : List Int, (sortI l).Pairwise (· ≤ ·)
  | [] => .nil
  | x :: r => insI_sorted x (sortI_sorted r)
theorem sorted_unique : ∀ {l m : List Int}, l.Perm m → l.Pairwise (· ≤ ·) → m.Pairwise (· ≤ ·) → l = m
  | [], m, p, _, _ => p.nil_eq
  | x :: r, [], p, _, _ => by have := p.length_eq; simp at this
  | x :: r, y :: s, p, h1, h2 => by
    rw [List.pairwise_cons] at h1 h2
    have e : x = y := by
      have hx : x ∈ y :: s := p.mem_iff.mp List.mem_cons_self
      have hy : y ∈ x :: r := p.mem_iff.mpr List.mem_cons_self
      have a : y ≤ x := by
        cases hx with
        | head => exact Int.le_refl _
        | tail _ hx => exact h2.1 x hx
      have b : x ≤ y := by
        cases hy with
        | head => exact Int.le_refl _
        | tail _ hy => exact h1.1 y hy
      omega
    subst e
    rw [sorted_unique (List.Perm.cons_inv p) h1.2 h2.2]
def fSorted : Dt → Option (List Dt)
  | .lst xs => (intsOf xs).map fun ns => (sortI ns).map .int
  | _ => none
theorem cn_sorted : CaN T (rSortedI T.K) fSorted := fun F H v d es Q le rv ef q => by
  cases d with
  | lst xs =>
    unfold fSorted at ef
    dsimp only at ef
    cases hq : intsOf xs with
    | none => rw [hq] at ef; cases ef
    | some ns =>
      rw [hq] at ef
      cases ef
      have ex := ints_inv hq
      subst ex
      obtain ⟨p, vs, e1, _, r, hl, _⟩ := rv.seq le (.inl rfl)
      have ev := reps_ints r
      subst ev
      refine ⟨p, ns, by rw [e1], hl rfl, fun ns' x hp hs hx => ?_⟩
      have e2 : ns' = sortI ns := sorted_unique (hp.trans (sortI_perm ns).symm) hs (sortI_sorted ns)
      subst e2
      exact q x _ hx (ints_reps _)
  | _ => cases ef
def blsOf : List Dt → Option (List Bool)
  | [] => some []
  | .bl i :: ds => (blsOf ds).map (i :: ·)
  | _ => none
theorem bls_inv : ∀ {ds : List Dt} {ns : List Bool}, blsOf ds = some ns → ds = ns.map .bl
  | [], ns, h => by cases h; rfl
  | .bl i :: ds, ns, h => by
    unfold blsOf at h
    cases q : blsOf ds with
    | none => rw [q] at h; cases h
    | some r => rw [q] at h; cases h; rw [bls_inv q]; rfl
  | .non :: _, _, h => by cases h
  | .int _ :: _, _, h => by cases h
  | .str _ :: _, _, h => by cases h
  | .ty _ :: _, _, h => by cases h
  | .scr _ :: _, _, h => by cases h
  | .lst _ :: _, _, h => by cases h
  | .tup _ :: _, _, h => by cases h
  | .dic _ _ _ :: _, _, h => by cases h
  | .ins _ _ :: _, _, h => by cases h
theorem reps_bls : ∀ {ns : List Bool} {vs : List V}, Reps T F vs (ns.map .bl) → vs = ns.map V.bl
  | [], _, r => by cases r; rfl
  | i :: ns, _, r => by
    cases r with
    | cons h rs => rw [h.bl_inv, reps_bls rs]; rfl
def fBls (g : List Bool → Bool) : Dt → Option Dt
  | .lst xs => (blsOf xs).map fun ns => .bl (g ns)
  | _ => none
theorem fBls_inv {g : List Bool → Bool} {d z : Dt} {v : V} (le : Le F H) (rv : RepS T F H v d) (h : fBls g d = some z) : ∃ p ns, v = .ref p ∧ SqL T.K H p (ns.map V.bl) ∧ z = .bl (g ns) := by
  cases d with
  | lst xs =>
    unfold fBls at h
    dsimp only at h
    cases hq : blsOf xs with
    | none => rw [hq] at h; cases h
    | some ns =>
      rw [hq] at h
      cases h
      have ex := bls_inv hq
      subst ex
      obtain ⟨p, vs, e1, _, r, hl, _⟩ := rv.seq le (.inl rfl)
      have ev := reps_bls r
      subst ev
      exact ⟨p, ns, e1, hl rfl, rfl⟩
  | _ => cases h
def fAll : Dt → Option Dt := fBls fun bs => bs.all id
theorem cs_all : CaS T (rAll T.K) fAll := uns_pure fun F H v d z Q le rv ef q => by
  obtain ⟨p, ns, e1, h1, e2⟩ := fBls_inv le rv ef
  subst e1 e2
  exact ⟨p, ns, rfl, h1, q _ (.bl _)⟩
def fInt : Dt → Option Dt
  | .int i => some (.int i)
  | .bl b => some (.int (if b then 1 else 0))
  | _ => none
theorem cs_int : CaS T (fun xs H Q => (∃ i, xs = [V.int i] ∧ Q (.int i) H) ∨ ∃ k, xs = [V.bl k] ∧ Q (.int (if k then 1 else 0)) H) fInt := uns_pure fun F H v d z Q le rv ef q => by
  unfold fInt at ef
  split at ef
  · cases ef; exact .inl ⟨_, by rw [rv.int_inv], q _ (.int _)⟩
  · cases ef; exact .inr ⟨_, by rw [rv.bl_inv], q _ (.int _)⟩
  · cases ef
def fAbs : Dt → Option Dt
  | .int i => some (.int (if i < 0 then -i else i))
  | _ => none
theorem cs_abs : CaS T (fun xs H Q => ∃ i, xs = [V.int i] ∧ Q (.int (if i < 0 then -i else i)) H) fAbs := uns_pure fun F H v d z Q le rv ef q => by
  unfold fAbs at ef
  split at ef
  · cases ef; exact ⟨_, by rw [rv.int_inv], q _ (.int _)⟩
  · cases ef
end
end Dl
namespace Dl
open PySem PySem.Spec PyProof.Rows L2
/-! ### enumerate of a tuple -/
abbrev tupItO (t : Addr) : Obj := { cls := .type "tuple_iterator", data := .fields #[.ref t, .int 0 0] }
abbrev enumO (i : Addr) : Obj := { cls := .type "enumerate", data := .fields #[.none, .bool false, .ref i, rawInt 0, .none, .none] }
open AutoSeq1 (wpAny_loadPart') in
theorem meets_enumT (t : Addr) (items : Array Value) (n : Nat) (dd : Option Addr) (sl : Array (Option Value)) :
    Meets (Builtin.«enumerate.__new__» ⟨[.type "enumerate", .ref t], []⟩) (fun _ R s => s.heap.get? t = some { cls := .type "tuple", dict := dd, data := .seq items n, slots := sl } ∧
      R (.ok (.ret (.ref (s.heap.push (tupItO t)).objs.size))) { s with heap := (s.heap.push (tupItO t)).push (enumO s.heap.objs.size) }) :=
  .of_wp fun prog w A R s h => by
    obtain ⟨hp, g, d, tk, os⟩ := s; obtain ⟨hl, h⟩ := h
    have sb := sub_enumerate
    have hT : Heap.IsTuple (Shared.heap ⟨hp, g, d, tk, os⟩) t items := ⟨_, hl, rfl, n, rfl⟩
    wp_walk using wpAny_loadPart' hl
    refine wpAny_stack_any fun _ => wpAny_pure ?_; split
    · rename_i c _ _ _ _ _; cases (c == Value.type "enumerate") <;> (wp_walk using wpAny_loadPart' hl, wpAny_pyIter_tuple hT; exact ⟨_, rfl, h⟩)
    · wp_walk using wpAny_loadPart' hl, wpAny_pyIter_tuple hT; exact ⟨_, rfl, h⟩
theorem call_enumT {prog : Program} {w : World} {A : Around} {E : Value → Shared → Prop} {s : Shared} {t : Addr} {items : Array Value} {Q : Value → Shared → Prop} (hT : s.heap.IsTuple t items)
    (h : ∀ h', IsEnum h' (s.heap.objs.size + 1) s.heap.objs.size 0 .none → h'.IsTupleIter s.heap.objs.size t 0 → (∀ b o, s.heap.get? b = some o → h'.get? b = some o) → Q (.ref (s.heap.objs.size + 1)) { s with heap := h' }) :
    wpAny (model prog w) A (call (.type "enumerate") [.ref t]) Q E s := by
  obtain ⟨⟨c, dd, dt, sl⟩, hl, hc, n, hd⟩ := hT
  obtain rfl : c = .type "tuple" := hc
  obtain rfl : dt = .seq items n := hd
  refine callType_new F.called_enumerate (by decide) (F.typeCall_enumerate_1 _) (F.newCall_enumerate_1 _) (fun ob => F.args_object_init_2 ob _) F.entry_enumerate_new (meets_enumT t items n dd sl) ⟨hl, ?_⟩
  have hz : (s.heap.push (tupItO t)).objs.size = s.heap.objs.size + 1 := Heap.size_push ..
  have he : IsEnum ((s.heap.push (tupItO t)).push (enumO s.heap.objs.size)) (s.heap.objs.size + 1) s.heap.objs.size 0 .none := by
    have q := Heap.get?_push_size (s.heap.push (tupItO t)) (o := enumO s.heap.objs.size) rfl
    rw [hz] at q; exact q
  show _ ∧ _
  rw [hz]
  exact ⟨⟨_, he, rfl⟩, h _ he ⟨_, Heap.get?_push_of_some _ (Heap.get?_push_size _ rfl), rfl, rfl⟩ fun b o x => Heap.get?_push_of_some _ (Heap.get?_push_of_some _ x)⟩
/-- each item of the tuple at a in a new pair -/
def Iet (K : PySem.W.Frag) (a : Addr) : It :=
  ⟨fun i H => ∃ (xs : List V) (x : V), SqT K H a xs ∧ xs[i]? = some x, fun i H v H' => ∃ q x, v = .ref q ∧ H q = none ∧ H' = upd H q (.tup [.int (i : Nat), x]) ∧ ∀ xs, SqT K H a xs → xs[i]? = some x, fun i H => ∃ xs : List V, SqT K H a xs ∧ xs.length = i⟩
theorem turn_enumT {P : Program} {w : World} {K : PySem.W.Frag} {elts : List Expr} {kk : Nat} {tpos : Pos} (a e it : Addr) :
    Turn P w K (.Tuple elts kk tpos) (Iet K a) [e, it] e (fun i h => (∃ old, IsEnum h e it ((i : Nat) : Int) old) ∧ h.IsTupleIter it a i ∧ e ≠ it ∧ e ≠ a ∧ it ≠ a) where
  mem := by simp
  obj := fun i h st b hb => by
    obtain ⟨⟨old, he⟩, ⟨o, ho, hc, hd⟩, _⟩ := st
    rcases (show b = e ∨ b = it by simpa using hb) with rfl | rfl
    · exact ⟨_, he, fun v q => nomatch q⟩
    · exact ⟨o, ho, fun v q => by rw [hd] at q; cases q⟩
  keep := fun i h h' ⟨⟨old, he⟩, hi, hn⟩ k => ⟨⟨old, k e (by simp) _ he⟩, hi.at fun o q => k it (by simp) o q, hn⟩
  item := by
    intro X hP hw hK hc i pins s σ H E I hf ⟨⟨old, he⟩, hit, hne, nea, nia⟩ hg
    subst hP hw hK
    obtain ⟨xs, x, hq, hx⟩ := hg
    obtain ⟨its, rv, p, hz⟩ := I.tuple hq
    obtain ⟨u, hu, ru⟩ := rv.get hx
    have hel : e < s.heap.objs.size := Heap.lt_size he
    have hil : it < s.heap.objs.size := by obtain ⟨_, q, _⟩ := hit; exact Heap.lt_size q
    have hlen : i < its.length := (List.getElem?_eq_some_iff.mp hu).1
    have hT : s.heap.IsTuple a its.toArray := p
    refine wpAny_pyNext_enum_itemD (Draws.tuple (by first | exact I.ok.hd hc | (simpa using I.ok.hd hc)) it a (Ne.symm nia) its.toArray) he ⟨hit, hT⟩ (by simpa using hlen) hne (by simp [hne, nea]) fun y h' tk hy ho hst hT2 hsz hk => ?_
    have hyu : y = u := by
      have : its[i]? = some y := by simpa using hy
      rw [hu] at this; exact (Option.some.inj this).symm
    subst hyu
    refine ⟨_, rfl, wpAny_letOwnedTupleGo_enum (s := { s with heap := h', toks := tk + 1 }) ho fun h'' he' sb => ?_⟩
    have hT3 : h''.get? s.heap.objs.size = some { cls := .type "tuple", data := .seq #[.int i tk, y] } := (sb.2 _ (Nat.ne_of_gt hel)).trans hT2
    have nw : ObjOk X.prog X.w (upd H s.heap.objs.size (.tup [.int (i : Nat), x])) h'' s.heap.objs.size (.tup [.int (i : Nat), x]) :=
      ⟨by show 2 ≤ sizeLine; decide, [.int i tk, y], .cons ⟨_, rfl⟩ (.cons ru .nil), ⟨_, hT3, rfl, _, rfl⟩⟩
    have I1 : Inv X pins σ (upd H s.heap.objs.size (.tup [.int (i : Nat), x])) { s with heap := h'', toks := tk + 1 } :=
      I.turnedNew (ch := [e, it]) (fun b ob hb q => (sb.2 b (fun z => hb (by simp [z]))).trans (hk b ob (fun z => hb (by simp [z])) (fun z => hb (by simp [z])) q)) hf (Nat.le_refl _) nw
    refine ⟨.ref s.heap.objs.size, _, I1, rfl, ⟨_, x, rfl, I.hok.fresh (Nat.le_refl _), rfl, fun ys hy => by rw [I.tuple_inj hy hq]; exact hx⟩, ⟨⟨y, ?_⟩, hst.1.at fun o q => (sb.2 it (Ne.symm hne)).trans q, hne, nea, nia⟩, fun b hb => ?_⟩
    · rw [show ((i + 1 : Nat) : Int) = (i : Int) + 1 by omega]; exact he'
    · have hb' : b < s.heap.objs.size := by
        rcases (show b = e ∨ b = it by simpa using hb) with z | z <;> (rw [z]; assumption)
      rw [upd_ne (Nat.ne_of_lt hb')]; exact (hf b hb).1
  done := by
    intro X hP hw hK hc i pins s σ H E I hf ⟨⟨old, he⟩, hit, hne, nea, nia⟩ hg
    subst hP hw hK
    obtain ⟨xs, hq, hx⟩ := hg
    obtain ⟨its, rv, p, hz⟩ := I.tuple hq
    obtain ⟨f0, f1, f2, f3, f4, f5⟩ := hf it (by simp)
    have hl := rv.length
    have hT : s.heap.IsTuple a its.toArray := p
    have ei : i = its.toArray.size := by simp; omega
    refine wpAny_pyNext_enum_endD (Draws.tuple (by first | exact I.ok.hd hc | (simpa using I.ok.hd hc)) it a (Ne.symm nia) its.toArray) he ?_ fun h' eb => ⟨rfl, I.turned (t' := s.toks) (fun b o hb q => eb b o hb q) f0 f1 f3 f4 f5⟩
    rw [← ei]; exact ⟨hit, hT⟩
  self := fun A i s Q E ⟨⟨_, he⟩, _⟩ h => wpAny_pyIter_enum he h
section
variable {X : Cx} {T : Tx} {π : Nat → Option Pin} {W : WX} {a b c e o l : Expr} {es : List Expr} {pos p tpos : Pos} {m ma mb mc : Mi Dt} {ms : Mi (List Dt)} {A A' : Addr → Prop} {F H F' H' F0 H0 : Hp} {σ : L2.St} {ρ : En} {tg : Expr} {elts : List Expr} {kk : Nat}
/-- a list or a tuple, walked; the same in pairs with the number -/
def iSeq (K : PySem.W.Frag) (tl : TE) : TI := fun σ H R => tl σ H fun x H1 => ∃ a, x = .ref a ∧ (((∃ xs, SqL K H1 a xs) ∧ R (Itl K a) H1) ∨ ((∃ xs, SqT K H1 a xs) ∧ R (Itt K a) H1))
theorem pi_seq {tl : TE} (hl : PE X l tl) : PI X tg l (iSeq X.K tl) := ⟨fun pins s σ H R I h => by
  refine thn (hl.run pins s σ H _ I h) fun v s1 ⟨x, H1, I1, r1, a, e, q1⟩ => ?_
  subst e
  cases r1
  rcases q1 with ⟨⟨xs, hq⟩, q⟩ | ⟨⟨xs, hq⟩, q⟩
  · obtain ⟨its, rv, pl, hz⟩ := I1.list hq
    refine wpAny_pyIter_list pl.isList ⟨s1.heap.objs.size, [s1.heap.objs.size], _, _, H1, rfl, I1.kept (t' := s1.toks) fun b o e => Heap.get?_push_of_some _ e, turn_list a _, ⟨_, Heap.get?_push_size _ rfl, rfl, rfl⟩, fun b hb => ?_, q⟩
    obtain rfl : b = s1.heap.objs.size := by simpa using hb
    exact I1.fpOk (Nat.le_refl _) (I1.hok.fresh (Nat.le_refl _))
  · obtain ⟨its, rv, pl, hz⟩ := I1.tuple hq
    refine wpAny_pyIter_tuple (show s1.heap.IsTuple a its.toArray from pl) ⟨s1.heap.objs.size, [s1.heap.objs.size], _, _, H1, rfl, I1.kept (t' := s1.toks) fun b o e => Heap.get?_push_of_some _ e, turn_tuple a _, ⟨_, Heap.get?_push_size _ rfl, rfl, rfl⟩, fun b hb => ?_, q⟩
    obtain rfl : b = s1.heap.objs.size := by simpa using hb
    exact I1.fpOk (Nat.le_refl _) (I1.hok.fresh (Nat.le_refl _))⟩
def iEnumA (K : PySem.W.Frag) (ta : TA) : TI := fun σ H R => ta σ H fun vs H1 => ∃ a, vs = [.ref a] ∧ (((∃ xs, SqL K H1 a xs) ∧ R (Ite K a) H1) ∨ ((∃ xs, SqT K H1 a xs) ∧ R (Iet K a) H1))
theorem pi_enumA {ta : TA} (hg : Gl X "enumerate") (hm : X.mg "enumerate" = none) (ha : PA X [e] ta) (hs : starEach [e] X.env = [(false, eval e X.env)] := by rfl) :
    PI X (.Tuple elts kk tpos) (.Call (.Name "enumerate" p) [e] [] pos) (iEnumA X.K ta) := ⟨fun pins s σ H R I h => by
  refine Call_ (ld_blt I hg hm boot_enumerate (PyProof.Rows.callWith_type1 (thn (ha.run pos pins s σ H _ I h) fun us s1 ⟨vs, H1, I1, r1, a, ex, q1⟩ => ?_) hs rfl))
  subst ex
  cases r1 with
  | cons r rr =>
    cases rr
    cases r
    have fp : ∀ b, b ∈ [s1.heap.objs.size + 1, s1.heap.objs.size] → FpOk X pins H1 b := fun b hb => by
      have hle : s1.heap.objs.size ≤ b := by
        rcases (show b = s1.heap.objs.size + 1 ∨ b = s1.heap.objs.size by simpa using hb) with z | z <;> omega
      exact I1.fpOk hle (I1.hok.fresh hle)
    rcases q1 with ⟨⟨xs, hq⟩, q⟩ | ⟨⟨xs, hq⟩, q⟩
    · obtain ⟨its, rv, p', hz⟩ := I1.list hq
      refine call_enumerate_list p'.isList fun h' he hit hsz hk => wpAny_pyIter_enum he ⟨s1.heap.objs.size + 1, [s1.heap.objs.size + 1, s1.heap.objs.size], _, _, H1, rfl, I1.kept (t' := s1.toks) hk, turn_enum a _ _, ⟨⟨.none, he⟩, hit, Nat.succ_ne_self _⟩, fp, q⟩
    · obtain ⟨its, rv, p', hz⟩ := I1.tuple hq
      have ha : a < s1.heap.objs.size := by obtain ⟨o, ho, _⟩ := p'; exact Heap.lt_size ho
      refine call_enumT (show s1.heap.IsTuple a its.toArray from p') fun h' he hit hk => wpAny_pyIter_enum he ⟨s1.heap.objs.size + 1, [s1.heap.objs.size + 1, s1.heap.objs.size], _, _, H1, rfl, I1.kept (t' := s1.toks) hk, turn_enumT a _ _, ⟨⟨.none, he⟩, hit, Nat.succ_ne_self _, Nat.ne_of_gt (Nat.lt_succ_of_lt ha), Nat.ne_of_gt ha⟩, fp, q⟩⟩
end
end Dl
namespace Dl
open PySem PySem.Spec PyProof.Rows L2
section
variable {X : Cx} {T : Tx} {π : Nat → Option Pin} {W : WX} {a b c e o l : Expr} {es : List Expr} {pos p tpos : Pos} {m ma mb mc : Mi Dt} {ms : Mi (List Dt)} {A A' : Addr → Prop} {F H F' H' F0 H0 : Hp} {σ : L2.St} {ρ : En} {tg : Expr} {elts : List Expr} {kk : Nat}
/-! ### what is walked -/
theorem wk_list {a : Addr} {vs : List V} {ds : List Dt} (h : SqL T.K F a vs) (r : Reps T F vs ds) : Wk T (Itl T.K a) ds F where
  goes := fun i H hi le => ⟨vs, vs[i]'(by rw [r.length]; exact hi), sql_mono le h, by simp [r.length, hi]⟩
  stops := fun H le => ⟨vs, sql_mono le h, by rw [r.length]; exact Nat.le_refl _⟩
  yields := fun i H x H' d hd le y => by
    obtain ⟨e, y⟩ := y
    obtain ⟨v, h1, h2⟩ := r.get hd
    rw [y vs (sql_mono le h)] at h1
    cases h1
    exact .inl ⟨e, h2⟩
theorem wk_tup {a : Addr} {vs : List V} {ds : List Dt} (h : SqT T.K F a vs) (r : Reps T F vs ds) : Wk T (Itt T.K a) ds F where
  goes := fun i H hi le => ⟨vs, vs[i]'(by rw [r.length]; exact hi), sqt_mono le h, by simp [r.length, hi]⟩
  stops := fun H le => ⟨vs, sqt_mono le h, by rw [r.length]; exact Nat.le_refl _⟩
  yields := fun i H x H' d hd le y => by
    obtain ⟨e, y⟩ := y
    obtain ⟨v, h1, h2⟩ := r.get hd
    rw [y vs (sqt_mono le h)] at h1
    cases h1
    exact .inl ⟨e, h2⟩
def enumD (k : Nat) : List Dt → List Dt
  | [] => []
  | d :: ds => .tup [.int k, d] :: enumD (k + 1) ds
theorem enumD_len : ∀ (k : Nat) (ds : List Dt), (enumD k ds).length = ds.length
  | _, [] => rfl
  | k, d :: ds => by unfold enumD; rw [List.length_cons, enumD_len, List.length_cons]
theorem enumD_get : ∀ (k : Nat) (ds : List Dt) (i : Nat) (d : Dt), (enumD k ds)[i]? = some d → ∃ x, ds[i]? = some x ∧ d = .tup [.int ((k + i : Nat) : Int), x]
  | _, [], _, _, h => by simp [enumD] at h
  | k, x :: ds, 0, d, h => by simp [enumD] at h; exact ⟨x, rfl, by rw [← h]; rfl⟩
  | k, x :: ds, i + 1, d, h => by
    obtain ⟨y, h1, h2⟩ := enumD_get (k + 1) ds i d (by simpa [enumD] using h)
    exact ⟨y, by simpa using h1, by rw [h2, show k + 1 + i = k + (i + 1) by omega]⟩
theorem wk_enumL {a : Addr} {vs : List V} {ds : List Dt} (h : SqL T.K F a vs) (r : Reps T F vs ds) : Wk T (Ite T.K a) (enumD 0 ds) F where
  goes := fun i H hi le => ⟨vs, vs[i]'(by rw [r.length, ← enumD_len 0]; exact hi), sql_mono le h, by rw [enumD_len] at hi; simp [r.length, hi]⟩
  stops := fun H le => ⟨vs, sql_mono le h, by rw [r.length, enumD_len]; exact Nat.le_refl _⟩
  yields := fun i H x H' d hd le y => by
    obtain ⟨q, w, e1, e2, e3, y⟩ := y
    obtain ⟨z, h1, h2⟩ := enumD_get 0 ds i d hd
    obtain ⟨v, h3, h4⟩ := r.get h1
    rw [y vs (sql_mono le h)] at h3
    cases h3
    exact .inr ⟨q, [.int (i : Nat), w], _, e2, e3, e1, .cons (.int _) (.cons h4 .nil), by rw [h2, Nat.zero_add]⟩
theorem wk_enumT {a : Addr} {vs : List V} {ds : List Dt} (h : SqT T.K F a vs) (r : Reps T F vs ds) : Wk T (Iet T.K a) (enumD 0 ds) F where
  goes := fun i H hi le => ⟨vs, vs[i]'(by rw [r.length, ← enumD_len 0]; exact hi), sqt_mono le h, by rw [enumD_len] at hi; simp [r.length, hi]⟩
  stops := fun H le => ⟨vs, sqt_mono le h, by rw [r.length, enumD_len]⟩
  yields := fun i H x H' d hd le y => by
    obtain ⟨q, w, e1, e2, e3, y⟩ := y
    obtain ⟨z, h1, h2⟩ := enumD_get 0 ds i d hd
    obtain ⟨v, h3, h4⟩ := r.get h1
    rw [y vs (sqt_mono le h)] at h3
    cases h3
    exact .inr ⟨q, [.int (i : Nat), w], _, e2, e3, e1, .cons (.int _) (.cons h4 .nil), by rw [h2, Nat.zero_add]⟩
def rngD (lo : Int) : Nat → List Dt
  | 0 => []
  | n + 1 => .int lo :: rngD (lo + 1) n
theorem rngD_len : ∀ (lo : Int) (n : Nat), (rngD lo n).length = n
  | _, 0 => rfl
  | lo, n + 1 => by unfold rngD; rw [List.length_cons, rngD_len]
theorem rngD_get : ∀ (lo : Int) (n i : Nat) (d : Dt), (rngD lo n)[i]? = some d → d = .int (lo + i)
  | _, 0, _, _, h => by simp [rngD] at h
  | lo, n + 1, 0, d, h => by simp [rngD] at h; rw [← h]; simp
  | lo, n + 1, i + 1, d, h => by
    have := rngD_get (lo + 1) n i d (by simpa [rngD] using h)
    rw [this, show lo + 1 + (i : Int) = lo + ((i + 1 : Nat) : Int) by omega]
theorem wk_rng (lo : Int) (n : Nat) : Wk T (Itr lo n) (rngD lo n) F where
  goes := fun i H hi le => by rw [rngD_len] at hi; exact hi
  stops := fun H le => by rw [rngD_len]; exact Nat.le_refl _
  yields := fun i H x H' d hd le y => by
    obtain ⟨e, y⟩ := y
    rw [rngD_get lo n i d hd, y]
    exact .inl ⟨e, .int _⟩
def mSeqI (m : Mi Dt) : Mi (List Dt) := mBind m fun d => match d with
  | .scr ns => mPure (ns.map .int)
  | .lst xs => mPure xs
  | .tup xs => mPure xs
  | _ => mBad
theorem di_seq (hK : X.K = T.K) (h : PE X l (TMe T π W m)) : PI X tg l (TMi T π W (mSeqI m)) := (pi_seq h).imp fun σ H R ⟨A, F, ρ, k, p⟩ => ⟨A, F, ρ, k, p.bind.imp fun d ρ1 F1 H1 k1 r1 p1 v rv => by
  rw [hK]
  cases d with
  | lst xs =>
    cases rv with
    | lst h r => exact ⟨_, rfl, .inl ⟨⟨_, SqL.of (k1.le _ _ h)⟩, p1.pure k1 _ (wk_list (SqL.of h) r)⟩⟩
  | scr ns =>
    cases rv with
    | scr h => exact ⟨_, rfl, .inl ⟨⟨_, sql_mono k1.le h⟩, p1.pure k1 _ (wk_list h (ints_reps ns))⟩⟩
  | tup xs =>
    obtain ⟨a, vs, e1, h, r⟩ := rv.tup_inv
    exact ⟨a, e1, .inr ⟨⟨_, sqt_mono k1.le h⟩, p1.pure k1 _ (wk_tup h r)⟩⟩
  | _ => exact p1.elim⟩
def mEnumI (m : Mi Dt) : Mi (List Dt) := mBind m fun d => match d with
  | .lst xs => mPure (enumD 0 xs)
  | .tup xs => mPure (enumD 0 xs)
  | _ => mBad
theorem di_enum (hK : X.K = T.K) (hg : Gl X "enumerate") (hm : X.mg "enumerate" = none) (h : PE X e (TMe T π W m)) (hs : starEach [e] X.env = [(false, eval e X.env)] := by rfl) :
    PI X (.Tuple elts kk tpos) (.Call (.Name "enumerate" p) [e] [] pos) (TMi T π W (mEnumI m)) := (pi_enumA hg hm (pa_cons h pa_nil hs) hs).imp fun σ H R ⟨A, F, ρ, k, p⟩ => ⟨A, F, ρ, k, p.bind.imp fun d ρ1 F1 H1 k1 r1 p1 v rv => by
  rw [hK]
  cases d with
  | lst xs =>
    cases rv with
    | lst h r => exact ⟨_, rfl, .inl ⟨⟨_, SqL.of (k1.le _ _ h)⟩, p1.pure k1 _ (wk_enumL (SqL.of h) r)⟩⟩
  | tup xs =>
    obtain ⟨a, vs, e1, h, r⟩ := rv.tup_inv
    exact ⟨a, by rw [e1], .inr ⟨⟨_, sqt_mono k1.le h⟩, p1.pure k1 _ (wk_enumT h r)⟩⟩
  | _ => exact p1.elim⟩
def mRng1 (ms : Mi (List Dt)) : Mi (List Dt) := mBind ms fun ds => match ds with
  | [.int j] => if -(2 ^ 62) ≤ j ∧ j < 2 ^ 62 then mPure (rngD 0 j.toNat) else mBad
  | _ => mBad
theorem di_rng1 (hg : Gl X "range") (hm : X.mg "range" = none) (h : PA X [a] (TMa T π W ms)) (hs : starEach [a] X.env = [(false, eval a X.env)] := by rfl) : PI X tg (.Call (.Name "range" p) [a] [] pos) (TMi T π W (mRng1 ms)) :=
  (pi_range1 hg hm h hs).imp fun σ H R ⟨A, F, ρ, k, p⟩ => ⟨A, F, ρ, k, p.bind.imp fun ds ρ1 F1 H1 k1 r1 p1 vs rvs => by
    split at p1
    · split at p1
      · rename_i hj
        cases rvs with
        | cons h r =>
          cases r
          exact ⟨_, by rw [h.int_inv], hj.1, hj.2, p1.pure k1 _ (wk_rng 0 _)⟩
      · exact p1.elim
    · exact p1.elim⟩
/-! ### isinstance against built-in classes -/
inductive Ty5 where
  | int | bool | str | list | tuple
def Ty5.nm : Ty5 → String
  | .int => "int" | .bool => "bool" | .str => "str" | .list => "list" | .tuple => "tuple"
def tyD : Dt → Option String
  | .non => some "NoneType" | .bl _ => some "bool" | .int _ => some "int" | .str _ => some "str" | .lst _ => some "list" | .scr _ => some "list" | .tup _ => some "tuple" | .dic _ _ _ => some "dict" | _ => none
def isD (n : Ty5) : Dt → Option Bool
  | .non => some false
  | .bl _ => some (match n with | .int => true | .bool => true | _ => false)
  | .int _ => some (match n with | .int => true | _ => false)
  | .str _ => some (match n with | .str => true | _ => false)
  | .lst _ => some (match n with | .list => true | _ => false)
  | .scr _ => some (match n with | .list => true | _ => false)
  | .tup _ => some (match n with | .tuple => true | _ => false)
  | .dic _ _ _ => some false
  | _ => none
theorem isD_kit (n : Ty5) (d : Dt) (t : String) (b : Bool) (h1 : tyD d = some t) (h2 : isD n d = some b) : kitB t n.nm = some b := by
  cases d <;> cases h1 <;> cases h2 <;> cases n <;> decide +kernel
theorem RepS.tyX {v : V} {d : Dt} {t : String} (le : Le F H) (r : RepS T F H v d) (h : tyD d = some t) : TyX T.K H v (.type t) := by
  have lst : ∀ {a : Addr} {vs : List V}, SqL T.K H a vs → TyX T.K H (.ref a) (.type "list") := fun q => by
    rcases q with (q | ⟨o, q⟩) | ⟨o, its, n, q, c, _⟩
    · exact .base (.lst q)
    · exact .base (.frz q)
    · exact .kList q c
  have tup : ∀ {a : Addr} {vs : List V}, SqT T.K H a vs → TyX T.K H (.ref a) (.type "tuple") := fun q => by
    rcases q with (q | ⟨o, q⟩) | ⟨o, its, n, q, c, _⟩
    · exact .base (.tup q)
    · exact .fTuple q
    · exact .kTuple q c
  rcases r with r | ⟨a, e, ho⟩
  · cases r <;> cases h
    · exact .base .non
    · exact .base (.bl _)
    · exact .base (.int _)
    · exact .base (.str _)
    · rename_i q; exact lst (sql_mono le q)
    · rename_i q _; exact .base (.lst (le _ _ q))
    · rename_i q _; exact .base (.tup (le _ _ q))
    · rename_i q; exact tup (sqt_mono le q)
    · rename_i q _ _; exact .base (.dK (le _ _ q))
    · rename_i q _ _; exact .base (.dT (le _ _ q))
  · subst e
    cases d with
    | lst ds => cases h; obtain ⟨vs, q, _⟩ := ho; exact .base (.lst q)
    | dic t ks ds =>
      cases h
      cases t with
      | false => obtain ⟨kk, vs, q, _⟩ := ho; exact .base (.dK q)
      | true => obtain ⟨kk, vs, q, _⟩ := ho; exact .base (.dT q)
    | ins c ds => cases h
    | deal cs bl => cases h
    | _ => exact ho.elim
theorem isD_ty {n : Ty5} {d : Dt} {b : Bool} (h : isD n d = some b) : ∃ t, tyD d = some t := by
  cases d <;> first | exact ⟨_, rfl⟩ | cases h
def fIsi (n : Ty5) (d : Dt) : Option Dt := (isD n d).map .bl
theorem de_isi (hK : X.K = T.K) (n : Ty5) (h : PE X e (tCB (rIsi X.K) (tCons (TMp T π W m) (tCons (tC (.ty n.nm)) tNil)))) : PE X e (TMe T π W (m1 (fIsi n) m)) := h.imp fun σ H Q ⟨A, F, ρ, k, p⟩ => ⟨A, F, ρ, k, p.bind.imp fun d ρ1 F1 H1 k1 r1 p1 v rv => by
  obtain ⟨z, ez, p2⟩ := p1.opt
  unfold fIsi at ez
  cases hb : isD n d with
  | none => rw [hb] at ez; cases ez
  | some b =>
    rw [hb] at ez
    cases ez
    obtain ⟨t, ht⟩ := isD_ty hb
    exact ⟨v, .ty n.nm, .type t, .type n.nm, b, rfl, .ty _, by rw [hK]; exact rv.tyX k1.le ht, kit_ty (isD_kit n d t b ht hb), p2.pure k1 _ (.bl _)⟩⟩
def fIsi2 (n n' : Ty5) (d : Dt) : Option Dt := match isD n d, isD n' d with
  | some a, some b => some (.bl (a || b))
  | _, _ => none
theorem RepS.grow {v : V} {d : Dt} (r : RepS T F H v d) (hf : Le F F') (hh : ∀ a o, H a = some o → H' a = some o) : RepS T F' H' v d := by
  rcases r with r | ⟨a, e, ho⟩
  · exact .inl (r.mono hf)
  · exact .inr ⟨a, e, ho.mono hf fun x _ o q => hh x o q⟩
theorem de_isi2 (hK : X.K = T.K) (n n' : Ty5) (h : PE X e (tCB (rIsiT X.K) (tCons (TMp T π W m) (tCons (tTup (tCons (tC (.ty n.nm)) (tCons (tC (.ty n'.nm)) tNil))) tNil)))) : PE X e (TMe T π W (m1 (fIsi2 n n') m)) := h.imp fun σ H Q ⟨A, F, ρ, k, p⟩ => ⟨A, F, ρ, k, p.bind.imp fun d ρ1 F1 H1 k1 r1 p1 v rv => by
  obtain ⟨z, ez, p2⟩ := p1.opt
  unfold fIsi2 at ez
  cases hb : isD n d with
  | none => rw [hb] at ez; cases ez
  | some b =>
    cases hb2 : isD n' d with
    | none => rw [hb, hb2] at ez; cases ez
    | some b2 =>
      rw [hb, hb2] at ez
      cases ez
      obtain ⟨t, ht⟩ := isD_ty hb
      refine ⟨by show 2 ≤ sizeLine; decide, fun q hq => ?_⟩
      have rv2 : RepS T F1 (upd H1 q (.tup [.ty n.nm, .ty n'.nm])) v d := rv.grow (le_refl F1) (le_new hq)
      refine ⟨v, q, _, .type t, [.type n.nm, .type n'.nm], b || b2, rfl, upd_same, .cons (.ty _) (.cons (.ty _) .nil), by rw [hK]; exact rv2.tyX (le_trans k1.le (le_new hq)) ht, ?_, p2 F1 _ (k1.newO hq) (.newO hq) _ (.bl _)⟩
      refine kitAny_cons (kit_ty (isD_kit n d t b ht hb)) (fun z => ?_) (fun z => by rw [z]; rfl)
      refine kitAny_cons (kit_ty (isD_kit n' d t b2 ht hb2)) (fun z2 => ?_) (fun z2 => by rw [z, z2]; rfl)
      rw [z, z2]
      exact kitAny_nil⟩
/-! ### dicts -/
def keyEq : Dt → Dt → Bool
  | .int i, .int j => i == j
  | .str x, .str y => x == y
  | _, _ => false
def keysEq : List Dt → List Dt → Bool
  | [], [] => true
  | x :: xs, y :: ys => keyEq x y && keysEq xs ys
  | _, _ => false
def keyEqT : Dt → Dt → Bool
  | .tup xs, .tup ys => keysEq xs ys
  | _, _ => false
theorem keyEq_k (k k' : Key) : keyEq (kD k) (kD k') = decide (k = k') := by
  cases k with
  | inl i =>
    cases k' with
    | inl j => unfold kD keyEq; rw [key_ll]
    | inr y => rw [key_lr]; rfl
  | inr x =>
    cases k' with
    | inl j => rw [key_rl]; rfl
    | inr y =>
      unfold kD keyEq
      rw [key_rr]
      by_cases h : x = y
      · subst h; simp
      · simp [h]
theorem keysEq_k : ∀ (ks ks' : List Key), keysEq (ks.map kD) (ks'.map kD) = decide (ks = ks')
  | [], [] => rfl
  | [], _ :: _ => rfl
  | _ :: _, [] => rfl
  | k :: ks, k' :: ks' => by
    show (keyEq (kD k) (kD k') && keysEq (ks.map kD) (ks'.map kD)) = _
    rw [keyEq_k, keysEq_k]
    by_cases h1 : k = k' <;> by_cases h2 : ks = ks' <;> simp [h1, h2]
/-- keys of one kind: how they stand as data -/
def dLook (q : Dt → Dt → Bool) (x : Dt) : List Dt → List Dt → Option Dt
  | k :: ks, d :: ds => if q k x then some d else dLook q x ks ds
  | _, _ => none
def dRep (q : Dt → Dt → Bool) (x y : Dt) : List Dt → List Dt → List Dt
  | k :: ks, d :: ds => (if q k x then y else d) :: dRep q x y ks ds
  | _, _ => []
def dPut (q : Dt → Dt → Bool) (x y : Dt) (ks ds : List Dt) : List Dt × List Dt := if ks.any (fun k => q k x) then (ks, dRep q x y ks ds) else (ks ++ [x], ds ++ [y])
variable {κ : Type} [DecidableEq κ] {emb : κ → Dt} {q : Dt → Dt → Bool}
theorem look_ok (hq : ∀ k k', q (emb k) (emb k') = decide (k = k')) (x : κ) : ∀ {kk : List κ} {vs : List V} {ds : List Dt}, kk.length = vs.length → Reps T F vs ds →
    (∀ v, valV (kk.zip vs) x = some v → ∃ d, dLook q (emb x) (kk.map emb) ds = some d ∧ Rep T F v d) ∧ (valV (kk.zip vs) x = none → dLook q (emb x) (kk.map emb) ds = none)
  | [], vs, ds, hl, r => by
    cases vs with
    | nil => cases r; exact ⟨fun v h => (by cases h), fun _ => rfl⟩
    | cons _ _ => cases hl
  | k :: kk, vs, ds, hl, r => by
    cases r with
    | nil => cases hl
    | @cons v vs d ds h1 h2 =>
      have ih := look_ok hq x (kk := kk) (by simpa using hl) h2
      by_cases e : k = x
      · refine ⟨fun w h => ?_, fun h => ?_⟩
        · rw [List.zip_cons_cons, valV_pos e] at h
          cases h
          refine ⟨d, ?_, h1⟩
          show (if q (emb k) (emb x) then some d else _) = some d
          rw [hq, decide_eq_true e]; rfl
        · rw [List.zip_cons_cons, valV_pos e] at h
          cases h
      · rw [List.zip_cons_cons, valV_neg e]
        have e2 : dLook q (emb x) ((k :: kk).map emb) (d :: ds) = dLook q (emb x) (kk.map emb) ds := by
          show (if q (emb k) (emb x) then some d else _) = _
          rw [hq, decide_eq_false e]; rfl
        rw [e2]
        exact ih
theorem zip_any (hq : ∀ k k', q (emb k) (emb k') = decide (k = k')) (x : κ) : ∀ {kk : List κ} {vs : List V}, kk.length = vs.length → ((kk.zip vs).any fun kv => decide (kv.1 = x)) = (kk.map emb).any fun k => q k (emb x)
  | [], [], _ => rfl
  | k :: kk, v :: vs, h => by
    rw [List.zip_cons_cons, List.any_cons, List.map_cons, List.any_cons, hq, zip_any hq x (by simpa using h)]
  | [], _ :: _, h => by cases h
  | _ :: _, [], h => by cases h
theorem zip_rep (hq : ∀ k k', q (emb k) (emb k') = decide (k = k')) (x : κ) {y : V} {dy : Dt} (ry : Rep T F y dy) : ∀ {kk : List κ} {vs : List V} {ds : List Dt}, kk.length = vs.length → Reps T F vs ds →
    ∃ vs' : List V, (kk.zip vs).map (fun kv => if kv.1 = x then (kv.1, y) else kv) = kk.zip vs' ∧ kk.length = vs'.length ∧ Reps T F vs' (dRep q (emb x) dy (kk.map emb) ds)
  | [], [], _, _, r => by cases r; exact ⟨[], rfl, rfl, .nil⟩
  | [], _ :: _, _, h, _ => by cases h
  | _ :: _, [], _, h, _ => by cases h
  | k :: kk, v :: vs, _, h, r => by
    cases r with
    | @cons _ _ d ds h1 h2 =>
      obtain ⟨vs', e1, e2, e3⟩ := zip_rep hq x ry (kk := kk) (by simpa using h) h2
      refine ⟨(if k = x then y else v) :: vs', ?_, by simpa using e2, ?_⟩
      · rw [List.zip_cons_cons, List.map_cons, e1, List.zip_cons_cons]
        by_cases e : k = x <;> simp [e]
      · show Reps T F _ ((if q (emb k) (emb x) then dy else d) :: _)
        rw [hq]
        by_cases e : k = x
        · rw [if_pos e, decide_eq_true e]; exact .cons ry e3
        · rw [if_neg e, decide_eq_false e]; exact .cons h1 e3
theorem put_ok (hq : ∀ k k', q (emb k) (emb k') = decide (k = k')) (x : κ) {y : V} {dy : Dt} (ry : Rep T F y dy) {kk : List κ} {vs : List V} {ds : List Dt} (hl : kk.length = vs.length) (r : Reps T F vs ds) :
    ∃ (kk' : List κ) (vs' : List V), putK (kk.zip vs) x y = kk'.zip vs' ∧ kk'.length = vs'.length ∧ (dPut q (emb x) dy (kk.map emb) ds).1 = kk'.map emb ∧ Reps T F vs' (dPut q (emb x) dy (kk.map emb) ds).2 := by
  unfold putK dPut
  rw [zip_any hq x hl]
  by_cases h : ((kk.map emb).any fun k => q k (emb x)) = true
  · rw [if_pos h, if_pos h]
    obtain ⟨vs', e1, e2, e3⟩ := zip_rep hq x ry hl r
    exact ⟨kk, vs', e1, e2, rfl, e3⟩
  · rw [if_neg h, if_neg h]
    refine ⟨kk ++ [x], vs ++ [y], ?_, by simp [hl], by simp, r.append (.cons ry .nil)⟩
    rw [List.zip_append hl]; rfl
/-- a dict by its kind: ints and texts, or tuples of them -/
def keyOf : Bool → Dt → Option Dt
  | false, .int i => some (.int i)
  | false, .str x => some (.str x)
  | true, .tup xs => if (xs.all fun d => match d with | .int _ => true | .str _ => true | _ => false) && !xs.isEmpty then some (.tup xs) else none
  | _, _ => none
def kq : Bool → Dt → Dt → Bool
  | false => keyEq
  | true => keyEqT
theorem flat_keys : ∀ {xs : List Dt}, (xs.all fun d => match d with | .int _ => true | .str _ => true | _ => false) = true → ∃ ks : List Key, xs = ks.map kD
  | [], _ => ⟨[], rfl⟩
  | d :: xs, h => by
    rw [List.all_cons, Bool.and_eq_true_iff] at h
    obtain ⟨ks, e⟩ := flat_keys h.2
    cases d with
    | int i => exact ⟨.inl i :: ks, by rw [e]; rfl⟩
    | str x => exact ⟨.inr x :: ks, by rw [e]; rfl⟩
    | _ => cases h.1
theorem reps_keys : ∀ {ks : List Key} {vs : List V}, Reps T F vs (ks.map kD) → vs = ks.map kV
  | [], _, r => by cases r; rfl
  | k :: ks, _, r => by
    cases r with
    | cons h rs =>
      rw [reps_keys rs]
      cases k with
      | inl i => rw [Rep.int_inv h]; rfl
      | inr x => rw [Rep.str_inv h]; rfl
theorem keyEqT_k (k k' : List Key) : keyEqT (.tup (k.map kD)) (.tup (k'.map kD)) = decide (k = k') := keysEq_k k k'
/-- what a dict and a key give -/
def fDin : Dt → Dt → Option Dt
  | x, .dic t ks ds => (keyOf t x).map fun y => .bl (dLook (kq t) y ks ds).isSome
  | _, _ => none
theorem Rep.tup_ne {v : V} {ds : List Dt} (h : Rep T F v (.tup ds)) (hn : ds ≠ []) : ∃ a vs, v = .ref a ∧ F a = some (.tup vs) ∧ Reps T F vs ds := by
  cases h with
  | tup e r => exact ⟨_, _, rfl, e, r⟩
  | tup0 e => exact absurd rfl hn
theorem dget_of {t : Bool} {ks ds : List Dt} {v y : V} {x kx : Dt} (le : Le F H) (r : RepS T F H v (.dic t ks ds)) (ry : Rep T F y x) (hk : keyOf t x = some kx) :
    ∃ a o, v = .ref a ∧ DGet H a y o ∧ (∀ w, o = some w → ∃ d, dLook (kq t) kx ks ds = some d ∧ Rep T F w d) ∧ (o = none → dLook (kq t) kx ks ds = none) := by
  cases t with
  | false =>
    obtain ⟨a, kk, vs, e1, h1, h2, h3, h4⟩ := r.dicK_inv le
    subst h3
    have go : ∀ k : Key, x = kD k → y = kV k → kx = kD k → ∃ a o, v = V.ref a ∧ DGet H a y o ∧ (∀ w, o = some w → ∃ d, dLook (kq false) kx (kk.map kD) ds = some d ∧ Rep T F w d) ∧ (o = none → dLook (kq false) kx (kk.map kD) ds = none) := fun k e2 e3 e4 => by
      have l := look_ok (q := keyEq) (emb := kD) keyEq_k k h2 h4
      exact ⟨a, valV (kk.zip vs) k, e1, by rw [e3]; exact DGet.k h1, fun w hw => by rw [e4]; exact l.1 w hw, fun hn => by rw [e4]; exact l.2 hn⟩
    cases x with
    | int i => cases hk; exact go (.inl i) rfl ry.int_inv rfl
    | str z => cases hk; exact go (.inr z) rfl ry.str_inv rfl
    | _ => cases hk
  | true =>
    cases x with
    | tup xs =>
      unfold keyOf at hk
      dsimp only at hk
      split at hk
      · rename_i hx
        cases hk
        rw [Bool.and_eq_true_iff] at hx
        obtain ⟨k, ek⟩ := flat_keys hx.1
        subst ek
        obtain ⟨b, vy, eb, hb, rb⟩ := ry.tup_ne (fun z => by rw [z] at hx; exact absurd hx.2 (by decide))
        subst eb
        have ev := reps_keys rb
        subst ev
        rcases r with r | ⟨a, e1, kk, vs, h1, h2, h3, h4⟩
        · cases r with
          | dicT h l r =>
            have lk := look_ok (q := keyEqT) (emb := fun l => Dt.tup (l.map kD)) keyEqT_k k l r
            exact ⟨_, _, rfl, DGet.t (le _ _ h) (le _ _ hb), lk.1, lk.2⟩
        · subst h3
          have lk := look_ok (q := keyEqT) (emb := fun l => Dt.tup (l.map kD)) keyEqT_k k h2 h4
          exact ⟨a, _, e1, DGet.t h1 (le _ _ hb), lk.1, lk.2⟩
      · cases hk
    | _ => cases hk
def rDinS : R2 := fun y x H Q => ∃ a o, x = .ref a ∧ DGet H a y o ∧ Q (.bl o.isSome) H
def rDnotinS : R2 := fun y x H Q => ∃ a o, x = .ref a ∧ DGet H a y o ∧ Q (.bl (!o.isSome)) H
def fDnotin (x d : Dt) : Option Dt := match fDin x d with
  | some (.bl b) => some (.bl (!b))
  | _ => none
theorem fDin_go {v y : V} {x d z : Dt} (le : Le F H) (ry : Rep T F y x) (rv : RepS T F H v d) (ef : fDin x d = some z) : ∃ a o, v = .ref a ∧ DGet H a y o ∧ z = .bl o.isSome := by
  cases d with
  | dic t ks ds =>
    unfold fDin at ef
    dsimp only at ef
    cases hk : keyOf t x with
    | none => rw [hk] at ef; cases ef
    | some kx =>
      rw [hk] at ef
      cases ef
      obtain ⟨a, o, e1, h1, h2, h3⟩ := dget_of le rv ry hk
      refine ⟨a, o, e1, h1, ?_⟩
      show Dt.bl (dLook (kq t) kx ks ds).isSome = _
      cases o with
      | none => rw [h3 rfl]; rfl
      | some w => obtain ⟨d, e, _⟩ := h2 w rfl; rw [e]; rfl
  | _ => cases ef
/-- a comparison whose first operand may be kept -/
def OpE (T : Tx) (r : R2) (f : Dt → Dt → Option Dt) : Prop := ∀ (F H : Hp) (v w : V) (d e z : Dt) (Q : VK), Le F H → Rep T F v d → RepS T F H w e → f d e = some z → (∀ u, Rep T F u z → Q u H) → r v w H Q
theorem oe_din : OpE T rDinS fDin := fun F H v w d e z Q le rv rw ef q => by
  obtain ⟨a, o, e1, h1, e2⟩ := fDin_go le rv rw ef
  exact ⟨a, o, e1, h1, q _ (by rw [e2]; exact .bl _)⟩
theorem oe_dnotin : OpE T rDnotinS fDnotin := fun F H v w d e z Q le rv rw ef q => by
  unfold fDnotin at ef
  split at ef
  · rename_i b hb
    cases ef
    obtain ⟨a, o, e1, h1, e2⟩ := fDin_go le rv rw hb
    cases e2
    exact ⟨a, o, e1, h1, q _ (.bl _)⟩
  · cases ef
theorem dt_opE {r : R2} {f : Dt → Dt → Option Dt} (h : PT X e (tB (tOp r (TMe T π W ma) (TMp T π W mb)))) (hs : OpE T r f) : PT X e (TMt T π W (mB (m2 f ma mb))) := h.imp fun σ H Q ⟨A, F, ρ, k, p⟩ => by
  have p' := p.bind
  exact ⟨A, F, ρ, k, p'.bind.imp fun x ρ1 F1 H1 k1 r1 p1 v rv => ⟨A, F1, ρ1, k1, p1.bind.imp fun y ρ2 F2 H2 k2 r2 p2 w rw => by
    obtain ⟨z, e, p3⟩ := p2.opt
    refine hs F2 H2 v w x y z _ k2.le (rv.mono r2.f) rw e fun u ru => ?_
    have p4 := p3 F2 H2 k2 .refl
    cases z with
    | bl b => exact ⟨b, ru.bl_inv, p4.pure k2⟩
    | _ => exact p4.elim⟩⟩
theorem dt_din (hc : PC X .In a b (tDIn (TMe T π W ma) (TMp T π W mb))) (hm : behindInMarks .In b = false) : PT X (.Compare a [.In] [b] pos) (TMt T π W (mB (m2 fDin ma mb))) := dt_opE (pt_cmp hc hm) oe_din
theorem dt_dnotin (hc : PC X .NotIn a b (tDNotIn (TMe T π W ma) (TMp T π W mb))) (hm : behindInMarks .NotIn b = false) : PT X (.Compare a [.NotIn] [b] pos) (TMt T π W (mB (m2 fDnotin ma mb))) := dt_opE (pt_cmp hc hm) oe_dnotin
/-- {} -/
theorem dn_dnewK (h : PE X e tDNewK) : PE X e (TMn T π W (mPure (.dic false [] []))) := h.imp fun σ H Q ⟨A, F, ρ, k, p⟩ x hx => p F _ (k.newO hx) (.newO hx) x (f_none k.le hx) (k.fresh_new hx) hx ⟨[], [], upd_same, rfl, rfl, .nil⟩ (fun _ z => nomatch z)
theorem dn_dnewT (h : PE X e tDNewT) : PE X e (TMn T π W (mPure (.dic true [] []))) := h.imp fun σ H Q ⟨A, F, ρ, k, p⟩ x hx => p F _ (k.newO hx) (.newO hx) x (f_none k.le hx) (k.fresh_new hx) hx ⟨[], [], upd_same, rfl, rfl, .nil⟩ (fun _ z => nomatch z)
/-- d[x] = y, d a slot's own -/
def putD (i : Nat) (x y : Dt) : Mi Unit := fun ρ => match ρ[i]? with
  | some (some (.own io (.dic t ks ds))) => (match keyOf t x with
    | some kx => if ks.length < sizeLine then .ok () (ρ.set i (some (.own io (.dic t (dPut (kq t) kx y ks ds).1 (dPut (kq t) kx y ks ds).2)))) else .bad
    | none => .bad)
  | _ => .bad
def sDput (i : Nat) (mk mv : Mi Dt) : En → So := sBind mv fun y => sBind (hasSl i mk) fun x => sBind (putD i x y) fun _ ρ => .nx ρ
theorem putD_go {i : Nat} {x y : Dt} {vx vy : V} {P : Unit → En → Hp → Hp → Prop} (p : Post T π W σ A F H P (putD i x y ρ)) (k : Ok T π A F H σ ρ) (rx : Rep T F vx x) (ry : Rep T F vy y) :
    ∃ a ρ' H', σ[i]? = some (some (.ref a)) ∧ DPut H a vx vy H' ∧ P () ρ' F H' := by
  unfold putD at p
  split at p
  · rename_i io t ks ds e
    obtain ⟨a, h1, h2, h3, h4, h5⟩ := k.own i io _ e
    split at p
    · rename_i kx hk
      split at p
      · rename_i hz
        cases t with
        | false =>
          obtain ⟨kk, vs, q1, q2, q3, q4⟩ := h3
          subst q3
          have go : ∀ kc : Key, kx = kD kc → vx = kV kc → ∃ a ρ' H', σ[i]? = some (some (.ref a)) ∧ DPut H a vx vy H' ∧ P () ρ' F H' := fun kc e1 e2 => by
            subst e1
            obtain ⟨kk', vs', w1, w2, w3, w4⟩ := put_ok (q := keyEq) (emb := kD) keyEq_k kc ry q2 q4
            refine ⟨a, _, _, h1, by rw [e2]; exact DPut.k q1 (by rw [List.length_zip, ← q2, Nat.min_self]; simpa using hz), p F _ (k.put e h1 ?_) (.put k e h1)⟩
            exact ⟨kk', vs', by rw [upd_same, w1], w2, w3, w4⟩
          cases x with
          | int j => cases hk; exact go (.inl j) rfl rx.int_inv
          | str z => cases hk; exact go (.inr z) rfl rx.str_inv
          | _ => cases hk
        | true =>
          obtain ⟨kk, vs, q1, q2, q3, q4⟩ := h3
          subst q3
          cases x with
          | tup xs =>
            unfold keyOf at hk
            dsimp only at hk
            split at hk
            · rename_i hx
              cases hk
              rw [Bool.and_eq_true_iff] at hx
              obtain ⟨kc, ek⟩ := flat_keys hx.1
              subst ek
              obtain ⟨b, vy', eb, hb, rb⟩ := rx.tup_ne (fun z => by rw [z] at hx; exact absurd hx.2 (by decide))
              subst eb
              have ev := reps_keys rb
              subst ev
              obtain ⟨kk', vs', w1, w2, w3, w4⟩ := put_ok (q := keyEqT) (emb := fun l => Dt.tup (l.map kD)) keyEqT_k kc ry q2 q4
              refine ⟨a, _, _, h1, DPut.t q1 (k.le _ _ hb) (by rw [List.length_zip, ← q2, Nat.min_self]; simpa using hz), p F _ (k.put e h1 ?_) (.put k e h1)⟩
              exact ⟨kk', vs', by rw [upd_same, w1], w2, w3, w4⟩
            · cases hk
          | _ => cases hk
      · exact p.elim
    · exact p.elim
  · exact p.elim
theorem ds_dput {st : Stmt} {i : Nat} {mk mv : Mi Dt} (h : PS X st (sDPut (tVar i) (TMe T π W mk) (TMe T π W mv))) : PS X st (TMs T π W (sDput i mk mv)) := h.imp fun D σ H ⟨A, F0, H0, F, ρ, k, p⟩ => ⟨_, F, ρ, k.ok, (p.bind k).imp fun y ρ1 F1 H1 _ _ ⟨k1, p1⟩ vy ry => by
  have p1' := p1.bind k1
  unfold hasSl at p1'
  split at p1'
  · rename_i s es
    have hv : ∃ v, σ[i]? = some (some v) := by
      cases s with
      | val d => obtain ⟨v, h1, _⟩ := k1.ok.val i d es; exact ⟨v, h1⟩
      | own io d => obtain ⟨a, h1, _⟩ := k1.ok.own i io d es; exact ⟨_, h1⟩
    obtain ⟨v, hv⟩ := hv
    refine ⟨v, hv, _, F1, ρ1, k1.ok, p1'.imp fun x ρ2 F2 H2 _ r2 ⟨k2, p2⟩ vx rx => ?_⟩
    obtain ⟨a, ρ3, H3, h1, h2, k3, p3⟩ := putD_go (p2.bind k2) k2.ok rx (ry.mono r2.f)
    rw [hv] at h1
    cases h1
    exact ⟨a, H3, rfl, h2, p3 σ F2 H3 k3⟩
  · exact p1'.elim⟩
end
end Dl
namespace Dl
open PySem PySem.Spec PyProof.Rows L2
section
variable {X : Cx} {T : Tx} {π : Nat → Option Pin} {W : WX} {a b c e o l : Expr} {es : List Expr} {pos p tpos : Pos} {m ma mb mc : Mi Dt} {ms : Mi (List Dt)} {A A' A0 : Addr → Prop} {F H F' H' F0 H0 : Hp} {σ : L2.St} {ρ : En} {tg : Expr} {elts : List Expr} {kk : Nat}
/-! ### several names at once -/
def slK : Bool → Dt → Sl
  | false, d => .val d
  | true, d => .own false d
def putSls : List Nat → List Bool → List Dt → En → Option En
  | i :: is, k :: ks, d :: ds, ρ => (setSl i (slK k d) ρ).bind (putSls is ks ds)
  | [], [], [], ρ => some ρ
  | _, _, _, _ => none
def setAll : List Nat → List V → L2.St → L2.St
  | i :: is, v :: vs, σ => setAll is vs (σ.set i (some v))
  | _, _, σ => σ
theorem own_set {i : Nat} {v : V} {s : Sl} {ρ' : En} {x : Addr} (k : Ok T π A F H σ ρ) (h : setSl i s ρ = some ρ') (w : IsOwn H (σ.set i (some v)) ρ' x) : IsOwn H σ ρ x ∨ (∃ a io d, v = .ref a ∧ s = .own io d ∧ (x = a ∨ x ∈ inH H a d)) := by
  obtain ⟨hi, rfl, _⟩ := setSl_inv h
  have hσ : i < σ.length := by rw [k.len]; exact hi
  obtain ⟨j, io, d, a, e1, e2, e3⟩ := w
  by_cases hj : i = j
  · subst hj
    rw [List.getElem?_set_self hi] at e1
    rw [List.getElem?_set_self hσ] at e2
    cases e1
    cases e2
    exact .inr ⟨_, _, _, rfl, rfl, e3⟩
  · rw [List.getElem?_set_ne hj] at e1 e2
    exact .inl ⟨j, io, d, a, e1, e2, e3⟩
theorem ok_puts {ks : List Bool} {vs : List V} {ds : List Dt} {as : List Addr} (g : Gk T F H A0 ks vs ds as) : ∀ {is : List Nat} {σ : L2.St} {ρ ρ' : En}, Ok T π A F H σ ρ → (∀ a ∈ as, ¬ IsOwn H σ ρ a ∧ A a) → putSls is ks ds ρ = some ρ' → Ok T π A F H (setAll is vs σ) ρ' := by
  induction g with
  | nil =>
    intro is σ ρ ρ' k _ h
    cases is with
    | nil => cases h; exact k
    | cons _ _ => cases h
  | @val v d ks vs ds as r g ih =>
    intro is σ ρ ρ' k ha h
    cases is with
    | nil => cases h
    | cons i is =>
      have h' : (setSl i (.val d) ρ).bind (putSls is ks ds) = some ρ' := h
      cases e : setSl i (.val d) ρ with
      | none => rw [e] at h'; cases h'
      | some ρ1 =>
        rw [e] at h'
        exact ih (k.set r e) (fun a z => ⟨fun w => (own_set k e w).elim (ha a z).1 (fun ⟨_, _, _, _, q, _⟩ => by cases q), (ha a z).2⟩) h'
  | @own p d ks vs ds as h1 h2 h3 h4 h5 g ih =>
    intro is σ ρ ρ' k ha h
    cases is with
    | nil => cases h
    | cons i is =>
      have h' : (setSl i (.own false d) ρ).bind (putSls is ks ds) = some ρ' := h
      cases e : setSl i (.own false d) ρ with
      | none => rw [e] at h'; cases h'
      | some ρ1 =>
        rw [e] at h'
        obtain ⟨n1, n2⟩ := ha p List.mem_cons_self
        have hin : ∀ x ∈ inH H p d, ¬ IsOwn H σ ρ x ∧ A x := fun x hx => ha x (List.mem_cons_of_mem _ (List.mem_append_left _ hx))
        have has : ∀ x ∈ as, ¬ IsOwn H σ ρ x ∧ A x := fun x hx => ha x (List.mem_cons_of_mem _ (List.mem_append_right _ hx))
        refine ih (k.setN h1 n1 n2 h3 (fun x hx => ⟨(h5 x hx).1, (hin x hx).1, (hin x hx).2⟩) e) (fun a z => ⟨fun w => (own_set k e w).elim (has a z).1 (fun ⟨a', io', d', q1, q2, q3⟩ => ?_), (has a z).2⟩) h'
        cases q1
        cases q2
        rcases q3 with q3 | q3
        · exact h4 (q3 ▸ z)
        · exact (h5 a q3).2.2 z
theorem Ok.there {x : Addr} (k : Ok T π A F H σ ρ) (w : IsOwn H σ ρ x) : H x ≠ none := fun e => by
  obtain ⟨_, _, o, q⟩ := k.ownH w
  rw [e] at q
  cases q
def sPars (is : List Nat) (ks : List Bool) (ms : Mi (List Dt)) : En → So := sBind ms fun ds ρ => match putSls is ks ds ρ with
  | some ρ' => .nx ρ'
  | none => .bad
theorem ds_pars {st : Stmt} {is : List Nat} {ks : List Bool} (h : PS X st (fun D σ H => TMk T π W ks ms σ H fun vs H1 => D.nx (setAll is vs σ) H1)) : PS X st (TMs T π W (sPars is ks ms)) := h.imp fun D σ H ⟨A, F0, H0, F, ρ, k, p⟩ =>
  ⟨IsOwn H σ ρ, F, ρ, k.ok.tight, fun a w => k.ok.there w, ((p.bind k).weak fun a w => k.ok.ownA w).imp fun ds ρ1 F1 H1 k1' r1 ⟨k1, p1⟩ vs as g ha => by
    cases e : putSls is ks ds ρ1 with
    | none => rw [e] at p1; exact p1.elim
    | some ρ' =>
      rw [e] at p1
      refine p1 _ F1 H1 ⟨ok_puts g k1.ok (fun a z => ⟨fun w => ?_, .inr (k.fr.t a (ha a z))⟩) e, k1.fr⟩
      exact k.ok.there (k1'.ownA w) (ha a z)⟩
theorem ds_par {st : Stmt} {i j : Nat} {k1 k2 : Bool} (h : PS X st (tPar i j (TMk T π W [k1, k2] ms))) : PS X st (TMs T π W (sPars [i, j] [k1, k2] ms)) := ds_pars (h.imp fun D σ H ⟨A, F, ρ, k, ht, p⟩ => ⟨A, F, ρ, k, ht, p.imp fun ds ρ' F' H' _ _ q vs as g ha => by
  cases g with
  | val _ g1 => cases g1 with
    | val _ g2 => cases g2; exact ⟨_, _, rfl, q _ _ (.val (by assumption) (.val (by assumption) .nil)) ha⟩
    | own h5 h6 h7 h8 h9 g2 => cases g2; exact ⟨_, _, rfl, q _ _ (.val (by assumption) (.own h5 h6 h7 h8 h9 .nil)) ha⟩
  | own h1 h2 h3 h4 i1 g1 => cases g1 with
    | val r g2 => cases g2; exact ⟨_, _, rfl, q _ _ (.own h1 h2 h3 h4 i1 (.val r .nil)) ha⟩
    | own h5 h6 h7 h8 i2 g2 => cases g2; exact ⟨_, _, rfl, q _ _ (.own h1 h2 h3 h4 i1 (.own h5 h6 h7 h8 i2 .nil)) ha⟩⟩)
/-- x += e -/
def sAug (i : Nat) (f : Dt → Dt → Option Dt) (m : Mi Dt) : En → So := sBind (mVar i) fun x => sBind m fun y => sBind (mOpt (f x y)) fun z => sPut i (.val z)
theorem ds_aug {st : Stmt} {i : Nat} {g : Int → Int → Int} (h : PS X st (tAug i (TMe T π W m) (ipI g))) : PS X st (TMs T π W (sAug i (fI fun i j => some (.int (g i j))) m)) := h.imp fun D σ H ⟨A, F0, H0, F, ρ, k, p⟩ => by
  have p0 := p.bind k
  unfold mVar at p0
  cases e : ρ[i]? with
  | none => rw [e] at p0; exact p0.elim
  | some s =>
    cases s with
    | none => rw [e] at p0; exact p0.elim
    | some s =>
      cases s with
      | own io d =>
        rw [e] at p0
        cases io with
        | true => exact p0.elim
        | false =>
          obtain ⟨a, F', h1, h5, h6, h7⟩ := k.ok.freeze e
          obtain ⟨k1, p1⟩ := p0 F' H h5 h7
          refine ⟨.ref a, h1, _, _, _, k1.ok, (p1.bind k1).imp fun y ρ2 F2 H2 _ r2 ⟨k2, p2⟩ v rv => ?_⟩
          obtain ⟨z, ez, _⟩ := (p2.bind k2).opt
          obtain ⟨i1, j1, e1, e2, _⟩ := fI_inv ez
          subst e1
          cases h6
      | val d =>
        rw [e] at p0
        obtain ⟨v, h1, h2⟩ := k.ok.val i d e
        obtain ⟨k1, p1⟩ := p0 F H k.ok .refl
        refine ⟨v, h1, _, F, ρ, k.ok, (p1.bind k1).imp fun y ρ2 F2 H2 _ r2 ⟨k2, p2⟩ w rw => ?_⟩
        obtain ⟨z, ez, p3⟩ := (p2.bind k2).opt
        obtain ⟨i1, j1, e1, e2, e3⟩ := fI_inv ez
        subst e1 e2
        cases e3
        obtain ⟨k3, p4⟩ := p3 F2 H2 k2.ok .refl
        refine ⟨i1, j1, h2.int_inv, rw.int_inv, ?_⟩
        unfold sPut at p4
        cases eq : setSl i (.val (.int (g i1 j1))) ρ2 with
        | none => rw [eq] at p4; exact p4.elim
        | some ρ' => rw [eq] at p4; exact p4 _ F2 H2 ⟨k3.ok.set (.int _) eq, k3.fr⟩
end
end Dl
namespace Dl
open PySem PySem.Spec PyProof.Rows L2
section
variable {X : Cx} {T : Tx} {π : Nat → Option Pin} {W : WX} {a b c e o l : Expr} {es : List Expr} {pos p tpos : Pos} {m ma mb mc : Mi Dt} {ms : Mi (List Dt)} {A A' A0 : Addr → Prop} {F H F' H' F0 H0 : Hp} {σ : L2.St} {ρ : En} {tg : Expr} {elts : List Expr} {kk : Nat}
/-! ### xs[i] = y, xs a slot's own list -/
def putL (i : Nat) (x y : Dt) : Mi Dt := mMut i fun ds => match x with
  | .int k => (ixN ds.length k).map fun j => (.non, ds.set j y)
  | _ => none
def sLput (i : Nat) (mk mv : Mi Dt) : En → So := sBind mv fun y => sBind (hasSl i mk) fun x => sBind (putL i x y) fun _ ρ => .nx ρ
theorem ds_lput {st : Stmt} {i : Nat} {mk mv : Mi Dt} (h : PS X st (tAsg (TMe T π W mv) (gSub (tVar i) (TMe T π W mk) rSetL))) : PS X st (TMs T π W (sLput i mk mv)) := h.imp fun D σ H ⟨A, F0, H0, F, ρ, k, p⟩ => ⟨_, F, ρ, k.ok, (p.bind k).imp fun y ρ1 F1 H1 _ _ ⟨k1, p1⟩ vy ry => by
  have p1' := p1.bind k1
  unfold hasSl at p1'
  split at p1'
  · rename_i s es
    have hv : ∃ v, σ[i]? = some (some v) := by
      cases s with
      | val d => obtain ⟨v, h1, _⟩ := k1.ok.val i d es; exact ⟨v, h1⟩
      | own io d => obtain ⟨a, h1, _⟩ := k1.ok.own i io d es; exact ⟨_, h1⟩
    obtain ⟨v, hv⟩ := hv
    refine ⟨v, hv, _, F1, ρ1, k1.ok, p1'.imp fun x ρ2 F2 H2 _ r2 ⟨k2, p2⟩ vx rx => ?_⟩
    obtain ⟨io1, ds1, r, es1, a1, vs, e1, ef, s1, h3, h4, q⟩ := mMut_inv (p2.bind k2) k2.ok
    rw [hv] at s1
    cases s1
    cases x with
    | int kx =>
      dsimp only at ef
      cases hj : ixN ds1.length kx with
      | none => rw [hj] at ef; cases ef
      | some j =>
        rw [hj] at ef
        cases ef
        obtain ⟨k3, p3⟩ := q _ (h4.set (ry.mono r2.f) j)
        exact ⟨a1, vs, kx, j, rfl, rx.int_inv, h3, by rw [h4.length]; exact hj, p3 σ F2 _ k3⟩
    | _ => cases ef
  · exact p1'.elim⟩
/-! ### a def that changes its first argument -/
def mCallIo (n : Nat) (f : List Dt → Fo) (i : Nat) (ms : Mi (List Dt)) : Mi Dt := fun ρ => match ρ[i]? with
  | some (some (.own _ _)) => mBind ms (fun ds ρ1 => match ρ1[i]? with
    | some (some (.own io d)) => if ds.length + 1 = n then (match f (d :: ds) with
      | .ret r o => .ok r (ρ1.set i (some (.own io o)))
      | .exc x o => .exc x (ρ1.set i (some (.own io o)))
      | .bad => .bad) else .bad
    | _ => .bad) ρ
  | _ => .bad
theorem Ok.calledIo {i : Nat} {io : Bool} {d o : Dt} {a : Addr} (k : Ok T π A F H σ ρ) (e : ρ[i]? = some (some (.own io d))) (s : σ[i]? = some (some (.ref a))) (le : Le F' H') (r : Fr (pinA (some (a, inH H a d))) F H F' H') (io' : IoOk T F' H' (some (a, inH H a d)) o) :
    Ok T π A F' H' σ (ρ.set i (some (.own io o))) ∧ Fr A F H F' H' := by
  have hi : i < ρ.length := (List.getElem?_eq_some_iff.mp e).1
  obtain ⟨i1, i2, i3, i4⟩ := io' _ rfl
  dsimp only at i1 i2 i3 i4
  have hA : ∀ x, pinA (some (a, inH H a d)) x → A x := fun x ⟨q, hq, hx⟩ => by
    cases hq
    exact k.ownA ⟨i, io, d, a, e, s, hx⟩
  have ne : ∀ (j : Nat) jo dj b, i ≠ j → ρ[j]? = some (some (.own jo dj)) → σ[j]? = some (some (.ref b)) → ∀ x, (x = b ∨ x ∈ inH H b dj) → ¬ pinA (some (a, inH H a d)) x := fun j jo dj b hj ej sj x hx ⟨q, hq, hz⟩ => by
    cases hq
    exact hj (k.dis i j io jo d dj a b x e ej s sj hz hx)
  have smj : ∀ (j : Nat) jo dj b, i ≠ j → ρ[j]? = some (some (.own jo dj)) → σ[j]? = some (some (.ref b)) → inH H' b dj = inH H b dj := fun j jo dj b hj ej sj => by
    obtain ⟨b', q1, q2, q3, q4, q5⟩ := k.own j jo dj ej
    rw [sj] at q1
    cases q1
    exact q3.same fun o q => r.h b o (ne j jo dj b hj ej sj b (.inl rfl)) q
  refine ⟨⟨le, by simpa using k.len, fun j dj ej => ?_, fun j jo dj ej => ?_, fun j l jo lo dj dl b c x ej el sj sl xj xl => ?_⟩, r.weak hA⟩
  · by_cases hj : i = j
    · subst hj; rw [List.getElem?_set_self hi] at ej; cases ej
    · rw [List.getElem?_set_ne hj] at ej
      obtain ⟨v, h1, h2⟩ := k.val j dj ej
      exact ⟨v, h1, h2.mono r.f⟩
  · by_cases hj : i = j
    · subst hj
      rw [List.getElem?_set_self hi] at ej
      cases ej
      obtain ⟨b, h1, _, _, h4, h5⟩ := k.own i _ d e
      rw [s] at h1
      cases h1
      exact ⟨a, s, i1, i2, h4, by rw [i3]; exact h5.1, fun x hx => by rw [i3] at hx; exact ⟨i4 x hx, (h5.2 x hx).2⟩⟩
    · rw [List.getElem?_set_ne hj] at ej
      obtain ⟨b, q1, q2, q3, q4, q5, q6⟩ := k.own j jo dj ej
      have fe : ∀ x, (x = b ∨ x ∈ inH H b dj) → F' x = F x := fun x hx => by
        obtain ⟨ob, hob, ht⟩ := q3.hasI hx
        exact r.n x ob (ne j jo dj b hj ej q1 x hx) hob ht
      exact ⟨b, q1, by rw [fe b (.inl rfl)]; exact q2, q3.mono r.f fun x hx u q => r.h x u (ne j jo dj b hj ej q1 x hx) q, q4, by rw [smj j jo dj b hj ej q1]; exact q5, fun x hx => by
        rw [smj j jo dj b hj ej q1] at hx
        exact ⟨by rw [fe x (.inr hx)]; exact (q6 x hx).1, (q6 x hx).2⟩⟩
  · have back : ∀ (j : Nat) jo dj b, (ρ.set i (some (.own io o)))[j]? = some (some (.own jo dj)) → σ[j]? = some (some (.ref b)) → ∃ jo dk, ρ[j]? = some (some (.own jo dk)) ∧ inH H b dk = inH H' b dj := fun j jo dj b ej sj => by
      by_cases hj : i = j
      · subst hj; rw [List.getElem?_set_self hi] at ej; cases ej; rw [s] at sj; cases sj; exact ⟨io, d, e, i3.symm⟩
      · rw [List.getElem?_set_ne hj] at ej; exact ⟨jo, dj, ej, (smj j jo dj b hj ej sj).symm⟩
    obtain ⟨_, _, gj, ij⟩ := back j jo dj b ej sj
    obtain ⟨_, _, gl, il⟩ := back l lo dl c el sl
    exact k.dis j l _ _ _ _ b c x gj gl sj sl (by rw [ij]; exact xj) (by rw [il]; exact xl)
theorem sp_callIo {n i : Nat} {rn : Bool} {f : List Dt → Fo} {Q : VK} {vs : List V} {ds : List Dt} {a : Addr} {P : Dt → En → Hp → Hp → Prop} (k : Ok T π A F H σ ρ) (s : σ[i]? = some (some (.ref a))) (r : Reps T F vs ds)
    (p : Post T π W σ A F H P (match ρ[i]? with
      | some (some (.own io d)) => if ds.length + 1 = n then (match f (d :: ds) with
        | .ret r o => Ou.ok r (ρ.set i (some (.own io o)))
        | .exc x o => .exc x (ρ.set i (some (.own io o)))
        | .bad => .bad) else .bad
      | _ => .bad))
    (q : ∀ d ρ' F' H' v, Ok T π A F' H' σ ρ' → RetOk T H F' H' v d rn → P d ρ' F' H' → Q v H') : spM T n true rn f (.ref a :: vs) H Q (WE W σ) := by
  split at p
  · rename_i io d e
    by_cases hl : ds.length + 1 = n
    · rw [if_pos hl] at p
      obtain ⟨a', h1, h2, h3, h4, h5⟩ := k.own i io d e
      rw [s] at h1
      cases h1
      refine ⟨F, d :: ds, some (a, inH H a d), by rw [List.length_cons, r.length]; exact hl, k.le, ⟨a, vs, d, ds, rfl, rfl, h2, h3, r, rfl, fun x hx => (h5.2 x hx).1⟩, ?_⟩
      cases ef : f (d :: ds) with
      | ret rr oo =>
        rw [ef] at p
        exact fun F' H' v le fr io' rv => by
          obtain ⟨k', r'⟩ := k.calledIo e s le fr io'
          exact q rr _ F' H' v k' rv (p F' H' k' r')
      | exc x oo =>
        rw [ef] at p
        exact fun F' H' cc dd le fr io' rx => by
          obtain ⟨k', r'⟩ := k.calledIo e s le fr io'
          exact p F' H' cc dd k' r' rx
      | bad => rw [ef] at p; exact p.elim
    · rw [if_neg hl] at p; exact p.elim
  · exact p.elim
variable {k n i : Nat} {f : Addr} {fd : FuncData} {ps : List Str} {x : Str} {fm : List Dt → Fo}
theorem de_callIo {v : Str} {pv_ : Pos} (G : FnOk X.prog X.w X.K X.mg X.base (L2.CX X.prog X.w) k f fd ps (spM T n true false fm)) (hr : Room k X.A) (hg : Gl X x) (hm : X.mg x = some (.ref f)) (hk : PySem.W.keepIn X.K (.ref f) = true) (hb : Binds X.K fd ps []) (tk : Takes X W) (hv : PE X (.Name v pv_) (tVar i)) (ha : PA X es (TMa T π W ms))
    (hdb : (x == ("__debug__" : Str)) = false := by decide) (he : starEach (.Name v pv_ :: es) X.env = (false, eval (.Name v pv_) X.env) :: starEach es X.env := by rfl) (hpl : (backTo pos (starEach es X.env)).any (·.1) = false := by rfl) :
    PE X (.Call (.Name x p) (.Name v pv_ :: es) [] pos) (TMe T π W (mCallIo n fm i ms)) := (pe_callSD (E := WE W) G hr hg hm hk hb .nil (fun σ => passAt tk σ) (pa_cons hv ha he) hdb he hpl).imp fun σ H Q ⟨A, F, ρ, k, p⟩ => by
  unfold mCallIo at p
  split at p
  · rename_i io d e
    obtain ⟨a, h1, h2⟩ := k.own i io d e
    refine ⟨.ref a, h1, A, F, ρ, k, p.bind.imp fun ds ρ1 F1 H1 k1 r1 p1 vs rvs => ?_⟩
    show spM T n true false fm ((.ref a :: vs) ++ []) H1 Q (WE W σ)
    rw [List.append_nil]
    exact sp_callIo k1 h1 rvs p1 fun d ρ' F' H' v _ rv q => q v rv
  · exact p.elim
/-! ### instances -/
def AttrOk (T : Tx) (f : Str) (ix : Nat → Option Nat) : Prop := ∀ c j, ix c = some j → ∀ C ns, T.cl c = some (C, ns) → ns[j]? = some f ∧ ns.Nodup ∧ ns.length < 1000 ∧ Cls T.K C ∧ NoAttr T.K C f
theorem zip_lookup {f : Str} : ∀ {ns : List Str} {vs : List V} {j : Nat}, ns.Nodup → ns[j]? = some f → (ns.zip vs).lookup f = vs[j]?
  | [], _, _, _, h => by simp at h
  | n :: ns, [], j, _, h => by simp
  | n :: ns, v :: vs, 0, nd, h => by
    simp at h
    subst h
    simp [List.lookup]
  | n :: ns, v :: vs, j + 1, nd, h => by
    rw [List.nodup_cons] at nd
    have h' : ns[j]? = some f := by simpa using h
    have ne : f ≠ n := fun z => nd.1 (z ▸ (List.mem_of_getElem? h'))
    rw [List.zip_cons_cons, List.lookup_cons, show (f == n) = false by simpa using ne]
    simpa using zip_lookup (vs := vs) nd.2 h'
def fAttr (ix : Nat → Option Nat) : Dt → Option Dt
  | .ins c ds => (ix c).bind fun j => ds[j]?
  | _ => none
theorem RepS.ins_inv {v : V} {c : Nat} {ds : List Dt} (r : RepS T F H v (.ins c ds)) (le : Le F H) : ∃ (a C dx : Addr) (ns : List Str) (vs : List V), v = .ref a ∧ T.cl c = some (C, ns) ∧ H a = some (.ins C dx (ns.zip vs)) ∧ vs.length ≤ ns.length ∧ Reps T F vs ds := by
  rcases r with r | ⟨a, e, C, dx, ns, vs, h1, h2, h3, h4⟩
  · cases r with
    | ins h1 h2 h3 h4 => exact ⟨_, _, _, _, _, rfl, h1, le _ _ h2, h3, h4⟩
  · exact ⟨a, C, dx, ns, vs, e, h1, h2, h3, h4⟩
theorem de_attr {f : Str} {ix : Nat → Option Nat} (hK : X.K = T.K) (ho : AttrOk T f ix) (h : PE X o (TMp T π W m)) (hb : attributeBase o f X.env (eval o X.env) = eval o X.env) : PE X (.Attribute o f pos) (TMe T π W (m1 (fAttr ix) m)) := (pe_fld h hb).imp fun σ H Q ⟨A, F, ρ, k, p⟩ => ⟨A, F, ρ, k, p.bind.imp fun d ρ1 F1 H1 k1 r1 p1 v rv => by
  obtain ⟨z, ez, p2⟩ := p1.opt
  cases d with
  | ins c ds =>
    unfold fAttr at ez
    dsimp only at ez
    cases hj : ix c with
    | none => rw [hj] at ez; cases ez
    | some j =>
      rw [hj] at ez
      obtain ⟨a, C, dx, ns, vs, e1, q1, q2, q3, q4⟩ := rv.ins_inv k1.le
      obtain ⟨h2, h3, _, h4, h5⟩ := ho c j hj C ns q1
      obtain ⟨w, q5, q6⟩ := q4.get (show ds[j]? = some z from ez)
      rw [hK]
      exact ⟨a, C, dx, _, w, e1, q2, h4, h5, by rw [zip_lookup h3 h2]; exact q5, p2.pure k1 _ q6⟩
  | _ => cases ez⟩
/-- o.f = e, o a slot's own -/
def putFl (i : Nat) (ix : Nat → Option Nat) (y : Dt) : Mi Unit := fun ρ => match ρ[i]? with
  | some (some (.own io (.ins c ds))) => (match ix c with
    | some j => if j < ds.length then .ok () (ρ.set i (some (.own io (.ins c (ds.set j y))))) else if j = ds.length then .ok () (ρ.set i (some (.own io (.ins c (ds ++ [y]))))) else .bad
    | none => .bad)
  | _ => .bad
def sFput (i : Nat) (ix : Nat → Option Nat) (m : Mi Dt) : En → So := sBind m fun y => sBind (putFl i ix y) fun _ ρ => .nx ρ
theorem putF_at {f : Str} {y : V} : ∀ {ns : List Str} {vs : List V} {j : Nat}, ns.Nodup → ns[j]? = some f → j < vs.length → putF f y (ns.zip vs) = ns.zip (vs.set j y)
  | [], _, _, _, h, _ => by simp at h
  | n :: ns, [], j, _, h, hl => by simp at hl
  | n :: ns, v :: vs, 0, nd, h, _ => by
    simp at h
    subst h
    simp [putF]
  | n :: ns, v :: vs, j + 1, nd, h, hl => by
    rw [List.nodup_cons] at nd
    have h' : ns[j]? = some f := by simpa using h
    have ne : ¬ n = f := fun z => nd.1 (z ▸ (List.mem_of_getElem? h'))
    rw [List.zip_cons_cons]
    unfold putF
    rw [if_neg ne, putF_at nd.2 h' (by simpa using hl)]
    rfl
theorem putF_end {f : Str} {y : V} : ∀ {ns : List Str} {vs : List V}, ns.Nodup → ns[vs.length]? = some f → putF f y (ns.zip vs) = ns.zip (vs ++ [y])
  | [], _, _, h => by simp at h
  | n :: ns, [], _, h => by
    simp at h
    subst h
    simp [putF]
  | n :: ns, v :: vs, nd, h => by
    rw [List.nodup_cons] at nd
    have h' : ns[vs.length]? = some f := by simpa using h
    have ne : ¬ n = f := fun z => nd.1 (z ▸ (List.mem_of_getElem? h'))
    rw [List.zip_cons_cons]
    unfold putF
    rw [if_neg ne, putF_end nd.2 h']
    rfl
theorem ds_fput {st : Stmt} {f : Str} {ix : Nat → Option Nat} (hK : X.K = T.K) (ho : AttrOk T f ix) (h : PS X st (sFld X.K (tVar i) (TMe T π W m) f)) : PS X st (TMs T π W (sFput i ix m)) := h.imp fun D σ H ⟨A, F0, H0, F, ρ, k, p⟩ => ⟨_, F, ρ, k.ok, (p.bind k).imp fun y ρ1 F1 H1 _ _ ⟨k1, p1⟩ vy ry => by
  have p2 := p1.bind k1
  unfold putFl at p2
  split at p2
  · rename_i io c ds e
    obtain ⟨a, s1, s2, ⟨C, dx, ns, vs, q1, q2, q3, q4⟩, s4, s5⟩ := k1.ok.own i io _ e
    split at p2
    · rename_i j hj
      obtain ⟨h2, h3, h3', h4, h5⟩ := ho c j hj C ns q1
      rw [hK]
      have hlen : (ns.zip vs).length < 1000 := by rw [List.length_zip]; omega
      split at p2
      · rename_i hlt
        have hlt' : j < vs.length := by rw [q4.length]; exact hlt
        obtain ⟨k3, p3⟩ := p2 F1 _ (k1.ok.put (o := .ins C dx (ns.zip (vs.set j vy))) e s1 ⟨C, dx, ns, _, q1, upd_same, by simpa using q3, q4.set ry j⟩) (.put k1.ok e s1)
        exact ⟨.ref a, s1, a, C, dx, _, rfl, q2, h4, h5, hlen, by rw [putF_at h3 h2 hlt']; exact p3 σ F1 _ k3⟩
      · split at p2
        · rename_i _ heq
          have heq' : j = vs.length := by rw [q4.length]; exact heq
          subst heq'
          have hle : (vs ++ [vy]).length ≤ ns.length := by
            rw [List.length_append]
            exact (List.getElem?_eq_some_iff.mp h2).1
          obtain ⟨k3, p3⟩ := p2 F1 _ (k1.ok.put (o := .ins C dx (ns.zip (vs ++ [vy]))) e s1 ⟨C, dx, ns, _, q1, upd_same, hle, q4.append (.cons ry .nil)⟩) (.put k1.ok e s1)
          exact ⟨.ref a, s1, a, C, dx, _, rfl, q2, h4, h5, hlen, by rw [putF_end h3 h2]; exact p3 σ F1 _ k3⟩
        · exact p2.elim
    · exact p2.elim
  · exact p2.elim⟩
/-- C(..) -/
def mMake (c n : Nat) (f : List Dt → Fo) (ms : Mi (List Dt)) : Mi Dt := mBind ms fun ds ρ => if ds.length + 1 = n then (match f (.ins c [] :: ds) with
  | .ret .non o => .ok o ρ
  | .ret _ _ => .bad
  | .exc x _ => .exc x ρ
  | .bad => .bad) else .bad
theorem sp_make {c n : Nat} {f : List Dt → Fo} {Q : VK} {vs : List V} {ds : List Dt} {C : Addr} {ns : List Str} {P : Dt → En → Hp → Hp → Prop} {E : XK} (hc : T.cl c = some (C, ns)) (hE : ∀ cls d H, W cls d σ H → E cls d H) (k : Ok T π A F H σ ρ) (r : Reps T F vs ds)
    (p : Post T π W σ A F H P (if ds.length + 1 = n then (match f (.ins c [] :: ds) with | .ret .non o => Ou.ok o ρ | .ret _ _ => .bad | .exc x _ => .exc x ρ | .bad => .bad) else .bad))
    (q : ∀ o F' H' x, Ok T π A F' H' σ ρ → F' x = none → ¬ IsOwn H' σ ρ x → H x = none → OwnAt T F' H' x o → inH H' x o = [] → P o ρ F' H' → Q (.ref x) H') :
    ∀ x dx, H x = none → H dx = none → dx ≠ x → spM T n true false f (.ref x :: vs) (upd (upd H dx (.own x)) x (.ins C dx [])) (fun v H2 => v = .non ∧ Q (.ref x) H2) E := fun x dx hx hdx ne => by
  by_cases hl : ds.length + 1 = n
  · rw [if_pos hl] at p
    have hx2 : (upd H dx (.own x)) x = none := by rw [upd_ne (Ne.symm ne)]; exact hx
    have le2 : Le H (upd (upd H dx (.own x)) x (.ins C dx [])) := le_trans (le_new hdx) (le_new hx2)
    refine ⟨F, .ins c [] :: ds, some (x, []), by rw [List.length_cons, r.length]; exact hl, le_trans k.le le2, ⟨x, vs, _, ds, rfl, rfl, f_none k.le hx, ⟨C, dx, ns, [], hc, by rw [upd_same, List.zip_nil_right], Nat.zero_le _, .nil⟩, r, rfl, (fun _ z => nomatch z)⟩, ?_⟩
    have fr2 : ∀ {F' H' : Hp}, Le F' H' → Fr (pinA (some (x, []))) F (upd (upd H dx (.own x)) x (.ins C dx [])) F' H' → Ok T π A F' H' σ ρ ∧ Fr A F H F' H' := fun {F' H'} le fr => by
      have nx : ∀ {b : Addr} {o : HO}, H b = some o → ¬ pinA (some (x, [])) b := fun hb ⟨q, hq, hz⟩ => by
        cases hq
        rcases hz with hz | hz
        · rw [hz, hx] at hb; cases hb
        · cases hz
      refine ⟨k.grow fr.f le (fun b w => ?_) (fun b o w e => fr.h b o (nx e) (le2 b o e)), fr.f, fun b o _ e => fr.h b o (nx e) (le2 b o e), fun b o _ e t => fr.n b o (nx e) (le2 b o e) t, fun b e => ?_⟩
      · obtain ⟨_, h2, o, h3, h4⟩ := k.ownT w
        rw [fr.n b o (nx h3) (le2 b o h3) h4]; exact h2
      · exact up_none (up_none (fr.t b e))
    cases ef : f (.ins c [] :: ds) with
    | ret rr oo =>
      rw [ef] at p
      cases rr with
      | non =>
        refine fun F' H' v le fr io' rv => ?_
        obtain ⟨k', r'⟩ := fr2 le fr
        exact ⟨Rep.non_inv rv, q oo F' H' x k' (io' _ rfl).1 (fun w => k.fresh_own hx ((k.sameOwn fun b o _ e => fr.h b o (fun ⟨q, hq, hz⟩ => by
          cases hq
          rcases hz with hz | hz
          · rw [hz, hx] at e; cases e
          · cases hz) (le2 b o e)).mp w)) hx (io' _ rfl).2.1 (io' _ rfl).2.2.1 (p F' H' k' r')⟩
      | _ => exact p.elim
    | exc xx oo =>
      rw [ef] at p
      exact fun F' H' cc dd le fr io' rx => by
        obtain ⟨k', r'⟩ := fr2 le fr
        exact hE cc dd H' (p F' H' cc dd k' r' rx)
    | bad => rw [ef] at p; exact p.elim
  · rw [if_neg hl] at p; exact p.elim
theorem dn_make {c : Nat} {C : Addr} {ns : List Str} (M : Mk X.K C f) (G : FnOk X.prog X.w X.K X.mg X.base (L2.CX X.prog X.w) k f fd ps (spM T n true false fm)) (hr : Room (k + 1) X.A) (hg : Gl X x) (hm : X.mg x = some (.ref C)) (hb : Binds X.K fd ps []) (hc : T.cl c = some (C, ns)) (hE : ∀ cls d σ σ' H, W cls d σ H → W cls d σ' H) (tk : Takes X W) (ha : PA X (e :: es) (TMa T π W ms))
    (hdb : (x == ("__debug__" : Str)) = false := by decide) (he : starEach (e :: es) X.env = (false, eval e X.env) :: starEach es X.env := by rfl) (hpl : (backTo pos (starEach es X.env)).any (·.1) = false := by rfl) :
    PE X (.Call (.Name x p) (e :: es) [] pos) (TMn T π W (mMake c n fm ms)) := (pe_make (E := fun cls d H => ∃ σ, W cls d σ H) M G hr hg hm hb .nil (fun pins σ H s e s' I c => tk e s' (XE.of_call I (fun cls d H' ⟨σ', h⟩ => hE cls d σ' σ H' h) c)) ha hdb he hpl).imp fun σ H Q ⟨A, F, ρ, k, p⟩ => ⟨A, F, ρ, k, p.bind.imp fun ds ρ1 F1 H1 k1 r1 p1 vs rvs => by
  intro y dy hy hdy ne
  rw [List.append_nil]
  exact sp_make hc (fun cls d H h => ⟨σ, h⟩) k1 rvs p1 (fun o F' H' z k' h1 h2 h3 h4 h5 q => q z h1 h2 (r1.t z h3) h4 fun y hy => by rw [h5] at hy; cases hy) y dy hy hdy ne⟩
/-- o.m(..), o any value of the class (not changed) -/
def mMeth (c n : Nat) (f : List Dt → Fo) (m : Mi Dt) (ms : Mi (List Dt)) : Mi Dt := mBind m fun d => match d with
  | .ins c' vs => if c' = c then mBind ms fun ds ρ => if (Dt.ins c' vs :: ds).length = n then (match f (.ins c' vs :: ds) with
    | .ret d _ => .ok d ρ
    | .exc x _ => .exc x ρ
    | .bad => .bad) else .bad else mBad
  | _ => mBad
theorem sp_weakE {n : Nat} {io rn : Bool} {f : List Dt → Fo} {vs : List V} {Q : VK} {E E' : XK} (h : spM T n io rn f vs H Q E) (hE : ∀ c d H, E c d H → E' c d H) : spM T n io rn f vs H Q E' := by
  obtain ⟨F1, ds, π0, h1, h2, h3, h4⟩ := h
  refine ⟨F1, ds, π0, h1, h2, h3, ?_⟩
  cases e : f ds with
  | ret d o => rw [e] at h4; exact h4
  | exc x o => rw [e] at h4; exact fun F' H' c d a b i rx => hE _ _ _ (h4 F' H' c d a b i rx)
  | bad => rw [e] at h4; exact h4
theorem zip_nokey {f : Str} {ns : List Str} {vs : List V} (h : f ∉ ns) : (ns.zip vs).lookup f = none := by
  rw [List.lookup_eq_none_iff]
  intro q hq
  have : q.1 ∈ ns := (List.of_mem_zip hq).1
  simpa using fun z : f = q.1 => h (z ▸ this)
theorem de_meth {c : Nat} {C : Addr} {ns : List Str} {mn : Str} {apos : Pos} {pl : Sem Bool} (h : PE X o (TMe T π W m)) (hcl : Cls X.K C) (hmm : Meth X.K C mn f) (G : FnOk X.prog X.w X.K X.mg X.base (L2.CX X.prog X.w) k f fd ps (spM T n false false fm)) (hr : Room k X.A) (hb : Binds X.K fd ps []) (hc : T.cl c = some (C, ns)) (hn : mn ∉ ns) (hE : ∀ cls d σ σ' H, W cls d σ H → W cls d σ' H) (tk : Takes X W) (ha : PA X (e :: es) (TMa T π W ms))
    (hst : starEach (e :: es) X.env = (false, eval e X.env) :: starEach es X.env := by rfl) (hpl : (backTo pos (starEach es X.env)).any (·.1) = false := by rfl)
    (ht : eval (.Call (.Attribute o mn apos) (e :: es) [] pos) X.env = (do
      let ov ← eval o X.env
      standAt apos.atName
      let (f, first) ← holding [ov] (getMethod ov mn pl)
      callWith pos f first (backTo pos (starEach (e :: es) X.env)) (backToKw pos (keywordEach [] X.env))) := by rfl) :
    PE X (.Call (.Attribute o mn apos) (e :: es) [] pos) (TMe T π W (mMeth c n fm m ms)) := (pe_meth (pl := pl) (E := fun cls d H => ∃ σ, W cls d σ H) h hcl hmm G hr hb .nil (fun pins σ H s e s' I c => tk e s' (XE.of_call I (fun cls d H' ⟨σ', h⟩ => hE cls d σ' σ H' h) c)) ha hst hpl ht).imp fun σ H Q ⟨A, F, ρ, k, p⟩ => ⟨A, F, ρ, k, p.bind.imp fun d ρ1 F1 H1 k1 r1 p1 v rv => by
  cases d with
  | ins c' dv =>
    dsimp only at p1
    by_cases hcc : c' = c
    · subst hcc
      rw [if_pos rfl] at p1
      obtain ⟨a, C', dx, ns', vs, e1, q1, q2, q3, q4⟩ := rv.s.ins_inv k1.le
      rw [hc] at q1
      cases q1
      refine ⟨a, dx, _, e1, q2, zip_nokey hn, A, F1, ρ1, k1, p1.bind.imp fun ds ρ2 F2 H2 k2 r2 p2 ws rws => ?_⟩
      show spM T n false false fm (v :: (ws ++ [])) H2 Q fun cls d H => ∃ σ, W cls d σ H
      rw [List.append_nil]
      exact sp_weakE (sp_call (rn := false) (Q := Q) k2 (Reps.cons (rv.mono r2.f) rws) p2 fun d F' H' v _ _ rv q => q v rv) fun c d H h => ⟨σ, h⟩
    · rw [if_neg hcc] at p1; exact p1.elim
  | _ => exact p1.elim⟩
/-! ### texts -/
def fFmt : Dt → Option Dt
  | .str y => if y.length ≤ sizeLine then some (.str y) else none
  | .int i => if i.natAbs.log2 < 1920 then some (.str (toString i)) else none
  | _ => none
theorem de_fmt (h : PE X e (TMe T π W m)) : PE X (.FormattedValue e (-1) none pos) (TMe T π W (m1 fFmt m)) := (pe_fmt h).imp fun σ H Q ⟨A, F, ρ, k, p⟩ => ⟨A, F, ρ, k, p.bind.imp fun d ρ1 F1 H1 k1 r1 p1 v rv => by
  obtain ⟨z, ez, p2⟩ := p1.opt
  unfold fFmt at ez
  split at ez
  · split at ez
    · cases ez; exact .inl ⟨_, rv.str_inv, by assumption, p2.pure k1 _ (.str _)⟩
    · cases ez
  · split at ez
    · cases ez; exact .inr ⟨_, rv.int_inv, by assumption, p2.pure k1 _ (.str _)⟩
    · cases ez
  · cases ez⟩
def mJs : List (Mi Dt) → Str → Mi Str
  | [], acc => mPure acc
  | m :: r, acc => mBind m fun d => match d with
    | .str y => if (acc ++ y).length ≤ sizeLine then mJs r (acc ++ y) else mBad
    | _ => mBad
theorem tjs_of {Q : Str → Hp → Prop} : ∀ (ms : List (Mi Dt)) (acc : Str) {H F : Hp} {ρ : En}, Ok T π A F H σ ρ → Post T π W σ A F H (fun out _ _ H' => Q out H') (mJs ms acc ρ) → tJs (ms.map (TMe T π W)) acc σ H Q
  | [], acc, H, F, ρ, k, p => p.pure k
  | m :: r, acc, H, F, ρ, k, p => ⟨A, F, ρ, k, p.bind.imp fun d ρ1 F1 H1 k1 r1 p1 v rv => by
    cases d with
    | str y =>
      dsimp only at p1
      split at p1
      · rename_i hz
        exact ⟨y, rv.str_inv, hz, tjs_of r (acc ++ y) k1 p1⟩
      · exact p1.elim
    | _ => exact p1.elim⟩
def mJoined (ms : List (Mi Dt)) : Mi Dt := mBind (mJs ms Str.empty) fun s => mPure (.str s)
theorem de_joined {v1 v2 : Expr} {rest : List Expr} {mm : List (Mi Dt)} (h : PJ X (v1 :: v2 :: rest) (mm.map (TMe T π W))) : PE X (.JoinedStr (v1 :: v2 :: rest) pos) (TMe T π W (mJoined mm)) := (pe_joined h).imp fun σ H Q ⟨A, F, ρ, k, p⟩ =>
  tjs_of mm Str.empty k (p.bind.imp fun out ρ1 F1 H1 k1 r1 p1 => p1.pure k1 _ (.str _))
def strsOf : List Dt → Option (List Str)
  | [] => some []
  | .str i :: ds => (strsOf ds).map (i :: ·)
  | _ => none
theorem strs_inv : ∀ {ds : List Dt} {ns : List Str}, strsOf ds = some ns → ds = ns.map .str
  | [], ns, h => by cases h; rfl
  | d :: ds, ns, h => by
    cases d with
    | str i =>
      unfold strsOf at h
      cases q : strsOf ds with
      | none => rw [q] at h; cases h
      | some r => rw [q] at h; cases h; rw [strs_inv q]; rfl
    | _ => cases h
theorem reps_strs : ∀ {ns : List Str} {vs : List V}, Reps T F vs (ns.map .str) → vs = ns.map V.str
  | [], _, r => by cases r; rfl
  | i :: ns, _, r => by
    cases r with
    | cons h rs => rw [h.str_inv, reps_strs rs]; rfl
/-- sep.join(xs) -/
def fJoin : Dt → Dt → Option Dt
  | .str a, .lst xs => (strsOf xs).bind fun ys => if (ys.map (·.length)).sum + ys.length * a.length ≤ 16777216 then some (.str (Txt.join a ys)) else none
  | .str a, .tup xs => (strsOf xs).bind fun ys => if (ys.map (·.length)).sum + ys.length * a.length ≤ 16777216 then some (.str (Txt.join a ys)) else none
  | _, _ => none
def mJoin (ma mb : Mi Dt) : Mi Dt := mBind ma fun x => match x with
  | .str a => mBind mb fun y => mOpt (fJoin (.str a) y)
  | _ => mBad
def rJoinA (K : PySem.W.Frag) : V → List V → Hp → VK → Prop := fun x xs H Q => ∃ a p, ∃ ys : List Str, x = .str a ∧ xs = [.ref p] ∧ (SqL K H p (ys.map V.str) ∨ SqT K H p (ys.map V.str)) ∧
      (ys.map (·.length)).sum + ys.length * a.length ≤ 16777216 ∧ Q (.str (Txt.join a ys)) H
theorem de_join (h : PE X e (tM1 (rJoinA T.K) (TMe T π W ma) (TMp T π W mb))) : PE X e (TMe T π W (mJoin ma mb)) := h.imp fun σ H Q ⟨A, F, ρ, k, p⟩ => ⟨A, F, ρ, k, p.bind.imp fun d ρ1 F1 H1 k1 r1 p1 v rv => by
  cases d with
  | str a =>
    dsimp only at p1
    refine ⟨⟨a, rv.str_inv⟩, A, F1, ρ1, k1, p1.bind.imp fun d ρ2 F2 H2 k2 r2 p2 w rw => ?_⟩
    obtain ⟨z, ez, p3⟩ := p2.opt
    have go : ∀ xs, (d = .lst xs ∨ d = .tup xs) → ((strsOf xs).bind fun ys => if (ys.map (·.length)).sum + ys.length * a.length ≤ 16777216 then some (Dt.str (Txt.join a ys)) else none) = some z → rJoinA T.K v [w] H2 Q := fun xs hd ez => by
      obtain ⟨p, vs, e1, hq, r, _⟩ := rw.seq k2.le hd
      cases hs : strsOf xs with
      | none => rw [hs] at ez; cases ez
      | some ys =>
        rw [hs] at ez
        have ez' : (if (ys.map (·.length)).sum + ys.length * a.length ≤ 16777216 then some (Dt.str (Txt.join a ys)) else none) = some z := ez
        split at ez'
        · rename_i hz
          cases ez'
          have ex := strs_inv hs
          subst ex
          have ev := reps_strs r
          subst ev
          exact ⟨a, p, ys, rv.str_inv, by rw [e1], hq, hz, p3.pure k2 _ (.str _)⟩
        · cases ez'
    cases d with
    | lst xs => exact go xs (.inl rfl) ez
    | tup xs => exact go xs (.inr rfl) ez
    | _ => cases ez
  | _ => exact p1.elim⟩
def fStr : Dt → Option Dt
  | .int i => if i.natAbs.log2 < 1920 then some (.str (toString i)) else none
  | _ => none
theorem cs_str : CaS T (fun xs H Q => ∃ i, xs = [V.int i] ∧ i.natAbs.log2 < 1920 ∧ Q (.str (toString i)) H) fStr := uns_pure fun F H v d z Q le rv ef q => by
  unfold fStr at ef
  split at ef
  · split at ef
    · cases ef; exact ⟨_, by rw [rv.int_inv], by assumption, q _ (.str _)⟩
    · cases ef
  · cases ef
/-! ### x in a list or tuple of flat things -/
end
end Dl
namespace Dl
open PySem PySem.Spec PyProof.Rows L2
section
variable {X : Cx} {T : Tx} {π : Nat → Option Pin} {W : WX} {a b c e o l : Expr} {es : List Expr} {pos p tpos : Pos} {m ma mb mc : Mi Dt} {ms : Mi (List Dt)} {A A' A0 : Addr → Prop} {F H F' H' F0 H0 : Hp} {σ : L2.St} {ρ : En} {tg : Expr} {elts : List Expr} {kk : Nat}
/-! ### {k: v for ..}, keys whole numbers and texts -/
def dcGo (g : Dt → En → Option En) (t : Mi Bool) (mk mv : Mi Dt) (vs : List Nat) : List Dt → List Dt → List Dt → En → Ou (List Dt × List Dt)
  | [], ks, ds, ρ => .ok (ks, ds) ρ
  | d :: r, ks, ds, ρ => match g d ρ with
    | none => .bad
    | some ρ1 => match t ρ1 with
      | .ok true ρ2 => (match mk ρ2 with
        | .ok x ρ3 => (match mv ρ3 with
          | .ok y ρ4 => (match keyOf false x with
            | some kx => if ks.length < sizeLine then dcGo g t mk mv vs r (dPut keyEq kx y ks ds).1 (dPut keyEq kx y ks ds).2 (wipeE ρ4 vs) else .bad
            | none => .bad)
          | _ => .bad)
        | _ => .bad)
      | .ok false ρ2 => dcGo g t mk mv vs r ks ds (wipeE ρ2 vs)
      | _ => .bad
def mDc (mi : Mi (List Dt)) (g : Dt → En → Option En) (t : Mi Bool) (mk mv : Mi Dt) (vs : List Nat) : Mi Dt := mBind mi fun ds ρ =>
  if ownAny ρ vs then .bad else match dcGo g t mk mv vs ds [] [] (wipeE ρ vs) with
    | .ok (ks, es) ρ' => .ok (.dic false ks es) (restE ρ ρ' vs)
    | _ => .bad
theorem tdc_of {g : Dt → En → Option En} {sl vs : List Nat} {mt : Mi Bool} {mk mv : Mi Dt} {Q : VK} (hsl : ∀ i ∈ sl, i ∈ vs) (h : TMn T π W (mDc ms g mt mk mv vs) σ H Q) : tDc (TMi T π W ms) (TMg T π g sl) (TMt T π W0 mt) (TMe T π W0 mk) (TMe T π W0 mv) vs σ H Q := by
  obtain ⟨A0, F, ρ, k, p⟩ := h
  refine ⟨IsOwn H σ ρ, F, ρ, k.tight, ((p.weak (A' := IsOwn H σ ρ) fun a z => k.ownA z).bind).imp fun ds ρ1 F1 H1 k1 r1 p1 J w D hD => ?_⟩
  have nA : ¬ IsOwn H σ ρ D := k.fresh_own (r1.t D hD)
  by_cases hown : ownAny ρ1 vs = true
  · rw [if_pos hown] at p1; exact p1.elim
  rw [if_neg hown] at p1
  have hown : ownAny ρ1 vs = false := by simpa using hown
  cases el : dcGo g mt mk mv vs ds [] [] (wipeE ρ1 vs) with
  | exc x r => rw [el] at p1; exact p1.elim
  | bad => rw [el] at p1; exact p1.elim
  | ok acc ρF =>
    obtain ⟨ksF, dsF⟩ := acc
    rw [el] at p1
    let Pv : Nat → Hp → Prop := fun i Hc => ∃ (F : Hp) (ρ' : En) (kd dd : List Dt) (kk : List Key) (vv : List V), Ok T π (IsOwn H σ ρ) F Hc (wipe σ vs) ρ' ∧ Fr (IsOwn H σ ρ) F1 H1 F Hc ∧ F D = none ∧ Hc D = some (.dK (kk.zip vv)) ∧ kk.length = vv.length ∧ kd = kk.map kD ∧ Reps T F vv dd ∧ dcGo g mt mk mv vs (ds.drop i) kd dd ρ' = .ok (ksF, dsF) ρF
    refine ⟨fun i m Hc => m = ds.length - i ∧ i ≤ ds.length ∧ Pv i Hc, ⟨ds.length, by simp, Nat.zero_le _, F1, wipeE ρ1 vs, [], [], [], [], (k1.newO hD).wipe vs, .newO hD, f_none k1.le hD, upd_same, rfl, rfl, .nil, el⟩, ?_⟩
    rintro i m Hc ⟨rfl, hi, F2, ρ', kd, dd, kk, vv, k2, r2, fD, hDc, hlen, hkd, rs, eg⟩
    by_cases hlt : i < ds.length
    · refine .inr ⟨w.goes i Hc hlt (le_trans r2.f k2.le), Pv (i + 1), fun H' p' => ⟨ds.length - (i + 1), by omega, rfl, hlt, p'⟩, fun x H' y => ?_⟩
      have hd : ds[i]? = some ds[i] := List.getElem?_eq_getElem hlt
      obtain ⟨F3, k3, r3, rx, l3⟩ := w.turn hd k2 r2.f y
      rw [List.drop_eq_getElem_cons hlt] at eg
      unfold dcGo at eg
      cases e1 : g ds[i] ρ' with
      | none => rw [e1] at eg; cases eg
      | some ρ2 =>
        rw [e1] at eg
        dsimp only at eg
        refine ⟨_, F3, ρ', ds[i], ρ2, k3, rx, e1, fun σ2 k4 l4 s4 => ?_⟩
        have ew : wipe σ2 vs = wipe σ vs := by
          rw [wipe_ext (σ := wipe σ vs) (σ' := σ2) l4 fun i hi => s4 i fun z => hi (hsl i z), wipe_wipe]
        refine ⟨ew, _, F3, ρ2, k4, ?_⟩
        have keep : ∀ {F5 H5 : Hp} {ρ5 : En}, Ok T π (IsOwn H σ ρ) F5 H5 σ2 ρ5 → Fr (IsOwn H σ ρ) F3 H' F5 H5 → H5 D = some (.dK (kk.zip vv)) ∧ F5 D = none ∧ Reps T F5 vv dd ∧ Fr (IsOwn H σ ρ) F1 H1 F5 H5 ∧ Ok T π (IsOwn H σ ρ) F5 H5 (wipe σ vs) (wipeE ρ5 vs) := fun {F5 H5 ρ5} k5 r5 => by
          have rr := r3.trans r5
          refine ⟨rr.h D _ nA hDc, ?_, rs.mono rr.f, r2.trans rr, by rw [← ew]; exact k5.wipe vs⟩
          rw [rr.n D _ nA hDc (fun _ z => nomatch z)]; exact fD
        cases e2 : mt ρ2 with
        | exc x r => rw [e2] at eg; cases eg
        | bad => rw [e2] at eg; cases eg
        | ok b ρ3 =>
          rw [e2] at eg
          intro F5 H5 k5 r5
          cases b with
          | false =>
            obtain ⟨q1, q2, q3, q4, q5⟩ := keep k5 r5
            exact iteF ⟨F5, _, kd, dd, kk, vv, q5, q4, q2, q1, hlen, hkd, q3, eg⟩
          | true =>
            dsimp only at eg
            refine iteT ⟨_, F5, ρ3, k5, ?_⟩
            cases e3 : mk ρ3 with
            | exc x r => rw [e3] at eg; cases eg
            | bad => rw [e3] at eg; cases eg
            | ok xk ρ4 =>
              rw [e3] at eg
              dsimp only at eg
              intro F6 H6 k6 r6 vk rvk
              refine ⟨_, F6, ρ4, k6, ?_⟩
              cases e4 : mv ρ4 with
              | exc x r => rw [e4] at eg; cases eg
              | bad => rw [e4] at eg; cases eg
              | ok yv ρ5 =>
                rw [e4] at eg
                dsimp only at eg
                intro F7 H7 k7 r7 vv' rvv
                obtain ⟨q1, q2, q3, q4, q5⟩ := keep k7 (r5.trans (r6.trans r7))
                cases hk : keyOf false xk with
                | none => rw [hk] at eg; cases eg
                | some kx =>
                  rw [hk] at eg
                  dsimp only at eg
                  by_cases hz : kd.length < sizeLine
                  · rw [if_pos hz] at eg
                    have go : ∀ kc : Key, kx = kD kc → vk = kV kc → ∃ kvs k, vk = kV k ∧ H7 D = some (.dK kvs) ∧ kvs.length < sizeLine ∧ Pv (i + 1) (upd H7 D (.dK (putK kvs k vv'))) := fun kc ek ev => by
                      subst ek
                      subst hkd
                      obtain ⟨kk', vs', w1, w2, w3, w4⟩ := put_ok (q := keyEq) (emb := kD) keyEq_k kc rvv hlen q3
                      refine ⟨_, kc, ev, q1, by rw [List.length_zip, ← hlen, Nat.min_self]; simpa using hz, F7, _, _, _, kk', vs', q5.upd_other q2 nA, ?_, q2, by rw [upd_same, w1], w2, w3, w4, eg⟩
                      exact ⟨q4.f, fun a o n e => by
                        rw [upd_ne fun z => by rw [z, hD] at e; cases e]; exact q4.h a o n e, q4.n, fun a e => q4.t a (up_none e)⟩
                    cases xk with
                    | int j => cases hk; exact go (.inl j) rfl rvk.int_inv
                    | str z => cases hk; exact go (.inr z) rfl rvk.str_inv
                    | _ => cases hk
                  · rw [if_neg hz] at eg; cases eg
    · have ei : i = ds.length := by omega
      subst ei
      rw [show ds.drop ds.length = [] from List.drop_length] at eg
      unfold dcGo at eg
      cases eg
      have k5 := k1.rest hown r2.f k2
      exact .inl ⟨w.stops Hc (le_trans r2.f k2.le), p1 F2 Hc k5 r2 D fD (fun z => nA (k5.ownA z)) (r1.t D hD) ⟨kk, vv, hDc, hlen, hkd, rs⟩ (fun _ z => nomatch z)⟩
theorem dn_dc {kx vx tg iter : Expr} {ifs : List Expr} {scope : Scope} {own : List (Str × Nat)} {g : Dt → En → Option En} {sl : List Nat} {mt : Mi Bool} {mk mv : Mi Dt} (h : PE X (.DictComp kx vx [⟨tg, iter, ifs, 0⟩] scope pos) (tDc (TMi T π W ms) (TMg T π g sl) (TMt T π W0 mt) (TMe T π W0 mk) (TMe T π W0 mv) (own.map (·.2)))) (hsl : ∀ i ∈ sl, i ∈ own.map (·.2)) :
    PE X (.DictComp kx vx [⟨tg, iter, ifs, 0⟩] scope pos) (TMn T π W (mDc ms g mt mk mv (own.map (·.2)))) := h.imp fun σ H Q q => tdc_of hsl q
/-! ### max, min of two whole numbers -/
def fMax2 : Dt → Dt → Option Dt := fI fun i j => some (.int (if j > i then j else i))
def fMin2 : Dt → Dt → Option Dt := fI fun i j => some (.int (if j < i then j else i))
theorem de_mm2 {g : Int → Int → Int} (h : PE X e (tCB (fun xs H Q => ∃ i j, xs = [V.int i, V.int j] ∧ Q (.int (g i j)) H) (tCons (TMe T π W ma) (tCons (TMe T π W mb) tNil)))) : PE X e (TMe T π W (m2 (fI fun i j => some (.int (g i j))) ma mb)) := h.imp fun σ H Q ⟨A, F, ρ, k, p⟩ =>
  ⟨A, F, ρ, k, p.bind.imp fun x ρ1 F1 H1 k1 r1 p1 v rv => ⟨A, F1, ρ1, k1, p1.bind.imp fun y ρ2 F2 H2 k2 r2 p2 w rw => by
    obtain ⟨z, ez, p3⟩ := p2.opt
    obtain ⟨i, j, e1, e2, e3⟩ := fI_inv ez
    subst e1 e2
    cases e3
    exact ⟨i, j, by rw [rv.int_inv, rw.int_inv], p3.pure k2 _ (.int _)⟩⟩⟩
end
end Dl
namespace Dl
open PySem PySem.Spec PyProof.Rows L2
/-! ### comprehensions of several clauses: the turns -/
abbrev Bd := (Shared → Prop) → (Value → Shared → Prop) → Shared → Prop
abbrev Rs := L2.St → Hp → (Hp → Prop) → Prop
def tests (ifs : List Expr) (env : Env) : Sem Bool := forIn ifs true fun c r => if r = true then (do let ok ← isTrue c env (eval c env); pure (ForInStep.yield ok)) else pure (ForInStep.yield r)
/-- how a clause's loop is proved: by a measured invariant, the inside by body -/
def LoopRule (m : Model) (A : Around) (e : Expr) (k : Nat) (acc : Value) (env : Env) (t : Expr) (ifs : List Expr) (body : Bd) : Prop :=
  ∀ (it : Value) (R : Result → Shared → Prop) (s0 : Shared) (J : Nat → Shared → Prop) (Er : Value → Shared → Prop), (∀ x s, Er x s → notedBy m A env (fun e s' => R (.error e) s') x s) →
    (∀ n s, J n s → wpAny m A (pyNext it) (fun r s1 => match r with
      | none => R (.ok .next) s1
      | some v => wpAny m A (letOwnedTupleGo t it v) (fun _ s2 => wpAny m A (assign t env v) (fun _ s3 => wpAny m A (tests ifs env) (fun ok s4 => if ok = true then body (fun s' => ∃ m, m < n ∧ J m s') Er s4 else ∃ m, m < n ∧ J m s4) Er s3) Er s2) Er s1) Er s) →
    ∀ n, J n s0 → codeAny m A (.compLoop e k it acc env) R s0
def turnN (e : Expr) (k : Nat) (it acc : Value) (env : Env) (t i : Expr) (ifs : List Expr) (i1 : Expr) : Sem Fin := do
  standAt i.pos; match ← pyNext it with
    | none => pure (.done .next)
    | some v =>
      letOwnedTupleGo t it v; assign t env v; let mut ok := true
      for c in ifs do { if ok then { ok ← isTrue c env (eval c env) } }
      if ok then
        let x ← eval i1 env; standAt i1.pos; let x ← foldedSetIterable i1 env x
        let _ ← runOwn (.compStart e (k + 1) (← holding [x] (pyIter x)) acc env) env
      again (.compLoop e k it acc env)
def turnL (e : Expr) (k : Nat) (it acc : Value) (env : Env) (t i : Expr) (ifs : List Expr) (elt : Expr) : Sem Fin := do
  standAt i.pos; match ← pyNext it with
    | none => pure (.done .next)
    | some v =>
      letOwnedTupleGo t it v; assign t env v; let mut ok := true
      for c in ifs do { if ok then { ok ← isTrue c env (eval c env) } }
      if ok then (do let _ ← call (.builtin "list.append") [acc, ← eval elt env])
      again (.compLoop e k it acc env)
section
variable {prog : Program} {w : World} {A : Around} {e elt t i i1 : Expr} {ifs : List Expr} {k : Nat} {acc : Value} {env : Env} {gs : List Comprehension} {scope : Scope} {pos : Pos}
def bNext (prog : Program) (w : World) (A : Around) (e i1 : Expr) (k : Nat) (acc : Value) (env : Env) : Bd := fun P Er s => wpAny (model prog w) A (eval i1 env) (fun x s4 => wpAny (model prog w) A (pyIter x) (fun it s5 => codeAny (model prog w) A (.compStart e k it acc env) (fun r s' => match r with | .ok _ => P s' | .error _ => False) s5) Er s4) Er s
def bLast (prog : Program) (w : World) (A : Around) (elt : Expr) (acc : Value) (env : Env) : Bd := fun P Er s => wpAny (model prog w) A (eval elt env) (fun x s4 => wpAny (model prog w) A (call (.builtin "list.append") [acc, x]) (fun _ s5 => P s5) Er s4) Er s
theorem rule_next (hT : ∀ it, compTurn (.ListComp elt gs scope pos) k it acc env = turnN (.ListComp elt gs scope pos) k it acc env t i ifs i1) (hs : ∀ x, foldedSetIterable i1 env x = pure x) : LoopRule (model prog w) A (.ListComp elt gs scope pos) k acc env t ifs (bNext prog w A (.ListComp elt gs scope pos) i1 (k + 1) acc env) := by
  intro it R s0 J Er hEr turn n hn
  refine codeAny_loop rfl J (fun n s hI => ?_) n hn
  show wpAny _ A ((compTurn (.ListComp elt gs scope pos) k it acc env).onRaise (fun x => do noteFrame x env; theTreesLotGoes x)) _ _ s
  rw [hT it]
  refine wpAny_noted (wpAny_mono (E := Er) ?_ (fun _ _ z => z) hEr)
  unfold turnN
  refine wpAny_bind (wpAny_standAt (wpAny_bind (wpAny_mono (turn n s hI) (fun r s1 q1 => ?_) fun _ _ z => z)))
  cases r with
  | none => exact wpAny_pure q1
  | some v =>
    refine wpAny_bind (wpAny_mono q1 (fun _ s2 q2 => wpAny_bind (wpAny_mono q2 (fun _ s3 q3 => wpAny_bind (wpAny_mono q3 (fun ok s4 q4 => ?_) fun _ _ z => z)) fun _ _ z => z)) fun _ _ z => z)
    cases ok with
    | false => exact wpAny_pure ⟨rfl, q4⟩
    | true =>
      refine wpAny_bind (wpAny_mono q4 (fun x s5 q5 => wpAny_bind (wpAny_standAt (wpAny_bind (wpAny_of_eq (hs x) (wpAny_bind (wpAny_holding (wpAny_mono q5 (fun it1 s6 q6 => wpAny_bind (wpAny_runOwn ?_)) fun _ _ z => z))))))) fun _ _ z => z)
      rw [Around.mark_none]
      refine codeAny_mono q6 fun r s' hr => ?_
      cases r with
      | ok f => first | exact wpAny_pure ⟨rfl, hr⟩ | exact wpAny_bind (wpAny_pure (wpAny_pure ⟨rfl, hr⟩))
      | error x => exact hr.elim
theorem rule_last (hT : ∀ it, compTurn (.ListComp elt gs scope pos) k it acc env = turnL (.ListComp elt gs scope pos) k it acc env t i ifs elt) : LoopRule (model prog w) A (.ListComp elt gs scope pos) k acc env t ifs (bLast prog w A elt acc env) := by
  intro it R s0 J Er hEr turn n hn
  refine codeAny_loop rfl J (fun n s hI => ?_) n hn
  show wpAny _ A ((compTurn (.ListComp elt gs scope pos) k it acc env).onRaise (fun x => do noteFrame x env; theTreesLotGoes x)) _ _ s
  rw [hT it]
  refine wpAny_noted (wpAny_mono (E := Er) ?_ (fun _ _ z => z) hEr)
  unfold turnL
  refine wpAny_bind (wpAny_standAt (wpAny_bind (wpAny_mono (turn n s hI) (fun r s1 q1 => ?_) fun _ _ z => z)))
  cases r with
  | none => exact wpAny_pure q1
  | some v =>
    refine wpAny_bind (wpAny_mono q1 (fun _ s2 q2 => wpAny_bind (wpAny_mono q2 (fun _ s3 q3 => wpAny_bind (wpAny_mono q3 (fun ok s4 q4 => ?_) fun _ _ z => z)) fun _ _ z => z)) fun _ _ z => z)
    cases ok with
    | false => exact wpAny_pure ⟨rfl, q4⟩
    | true => exact wpAny_bind (wpAny_bind (wpAny_mono q4 (fun x s5 q5 => wpAny_bind (wpAny_mono q5 (fun _ s6 q6 => wpAny_pure (wpAny_pure ⟨rfl, q6⟩)) fun _ _ z => z)) fun _ _ z => z))
/-- a clause's start -/
theorem start_ok {g : Comprehension} {it : Value} {R : Result → Shared → Prop} {s : Shared} (hcl : (clausesOf (.ListComp elt gs scope pos))[k]? = some g) (hg : (g.is_async != 0) = false) (h0 : codeAny (model prog w) A (.compLoop (.ListComp elt gs scope pos) k it acc env) R s)
    (h : wpAny (model prog w) A (pyIter it) (fun it' s' => codeAny (model prog w) A (.compLoop (.ListComp elt gs scope pos) k it' acc env) R s') (notedBy (model prog w) A env fun x s' => R (.error x) s') s) : codeAny (model prog w) A (.compStart (.ListComp elt gs scope pos) k it acc env) R s := by
  refine codeAny_of_tree ?_
  show wpAny _ _ ((compStart (.ListComp elt gs scope pos) k it acc env).onRaise (fun x => do noteFrame x env; standAt theWindowsPlace)) _ _ s
  refine wpAny_notedAt ?_
  unfold compStart
  rw [hcl]
  simp only [Option.elim, hg, Bool.false_eq_true, if_false]
  show wpAny _ _ (ask >>= _) _ _ s
  refine wpAny_bind (wpAny_askSetting (wpAny_ite ?_))
  split
  · first | exact wpAny_bind (wpAny_pure (wpAny_pure (And.intro rfl h0))) | exact wpAny_pure (And.intro rfl h0)
  · refine wpAny_bind (wpAny_rule ?_)
    show wpAny _ _ (standAt g.iter.pos >>= _) _ _ s
    exact wpAny_bind (wpAny_standAt (wpAny_bind (wpAny_mono h (fun it' s' z => wpAny_pure (And.intro rfl z)) fun _ _ x => x)))
end
/-! ### the loops in the block's context -/
theorem thnX {α : Type} {t : Sem α} {Q Q' : α → Shared → Prop} {M : Model} {A : Around} {E E' : Value → Shared → Prop} {s : Shared} (hx : ∀ x s, ¬ E x s) (h : wpAny M A t Q E s) (hQ : ∀ a s, Q a s → Q' a s) : wpAny M A t Q' E' s := wpAny_mono h hQ fun x s z => (hx x s z).elim
def InOk (B : Cx) (us : List Nat) (body : Bd) (rest : Rs) : Prop := ∀ (pins : List (Addr × Obj)) (s : Shared) (σ : L2.St) (H : Hp) (Nx : Hp → Prop), Inv B pins σ H s → rest σ H Nx → ∀ (P : Shared → Prop) (Er : Value → Shared → Prop), (∀ H' s', Inv B pins (wipe σ us) H' s' → Nx H' → P s') → body P Er s
def loopR (σ : L2.St) (vs : List Nat) (g : TG) (tt : TT) (rest : Rs) (J : It) (Z : Hp → Prop) (H0 : Hp) : Prop := ∃ W : Nat → Nat → Hp → Prop, (∃ m, W 0 m H0) ∧ ∀ i m H, W i m H → (J.stop i H ∧ Z H) ∨
  (J.go i H ∧ ∃ Nx : Hp → Prop, (∀ H', Nx H' → ∃ m', m' < m ∧ W (i + 1) m' H') ∧ ∀ x H', J.yld i H x H' → g x (wipe σ vs) H' fun σ2 H2 => wipe σ2 vs = wipe σ vs ∧ tt σ2 H2 fun b H3 => if b = true then rest σ2 H3 Nx else Nx H3)
def stepR (wi : TI) (g : TG) (tt : TT) (rest : Rs) (vs : List Nat) : Rs := fun σ H Nx => wi σ H fun J H1 => loopR σ vs g tt rest J Nx H1
def lastR (D : Addr) (te : TE) : Rs := fun σ H Nx => te σ H fun y H4 => ∃ acc, H4 D = some (.lst acc) ∧ acc.length < sizeLine ∧ Nx (upd H4 D (.lst (acc ++ [y])))
theorem wipe_sub {σ : L2.St} {us vs : List Nat} (h : ∀ i ∈ us, i ∈ vs) : wipe (wipe σ us) vs = wipe σ vs := wipe_ext (wipe_length σ us) fun i hi => wipe_out fun z => hi (h i z)
theorem inv_wipe {B : Cx} {pins : List (Addr × Obj)} {σ : L2.St} {H : Hp} {s : Shared} (I : Inv B pins σ H s) (vs : List Nat) : Inv B pins (wipe σ vs) H s := I.weak (wipe_length _ _) fun _ _ z => (wipe_some z).1
section
variable {B : Cx} {e elt t i1 : Expr} {ifs : List Expr} {k : Nat} {D : Addr} {g : TG} {tt : TT} {te : TE} {wi : TI} {body : Bd} {rest : Rs} {us vs : List Nat}
theorem in_last (hx : ∀ x s, ¬ B.xe x s) (he : PE B elt te) : InOk B us (bLast B.prog B.w B.A elt (.ref D) B.env) (lastR D te) := by
  intro pins s σ H Nx I h P Er hP
  refine thnX hx (he.run pins s σ H _ I h) fun z s1 ⟨yv, H1, I1, r1, acc, hD, hz, nx⟩ => ?_
  exact app_ok (X := B) I1 hD hz r1 fun s2 I2 => hP _ s2 (inv_wipe I2 us) nx
theorem loop_core {acc : Value} (hc : B.calm = true) (hx : ∀ x s, ¬ B.xe x s) (hg : PG B t g) (ht : PTs B ifs tt) (hr : LoopRule (model B.prog B.w) B.A e k acc B.env t ifs body) (hin : InOk B us body rest) (hus : ∀ i ∈ us, i ∈ vs)
    {pins : List (Addr × Obj)} {σ : L2.St} {H : Hp} {s : Shared} {it : Addr} {fp : List Addr} {tn : Nat → Heap → Prop} {J : It} {Z : Hp → Prop} (I : Inv B pins (wipe σ vs) H s) (T : Turn B.prog B.w B.K t J fp it tn) (st : tn 0 s.heap) (f : ∀ b ∈ fp, FpOk B pins H b) (q : loopR σ vs g tt rest J Z H)
    {R : Result → Shared → Prop} (hR : ∀ H' s', Inv B pins (wipe σ vs) H' s' → Z H' → R (.ok .next) s') : codeAny (model B.prog B.w) B.A (.compLoop e k (.ref it) acc B.env) R s := by
  obtain ⟨W, ⟨m0, w0⟩, turn⟩ := q
  have fo : ∀ {Hc : Hp}, (∀ b ∈ fp, Hc b = none) → ∀ b ∈ fp, FpOk B pins Hc b := fun hn b hb => ⟨hn b hb, (f b hb).2⟩
  refine hr (.ref it) R s (fun n sc => ∃ j Hc, Inv B pins (wipe σ vs) Hc sc ∧ tn j sc.heap ∧ (∀ b ∈ fp, Hc b = none) ∧ W j n Hc) (fun _ _ => False) (fun _ _ z => z.elim) ?_ m0 ⟨0, H, I, st, fun b hb => (f b hb).1, w0⟩
  rintro n sa ⟨j, Ha, Ia, sta, na, wa⟩
  rcases turn j n Ha wa with ⟨stop, z⟩ | ⟨go, Nx, hNx, step⟩
  · refine thnF (T.done B rfl rfl rfl hc j pins sa _ Ha (fun _ _ => False) Ia (fo na) sta stop) fun r sb ⟨er, Ib⟩ => ?_
    subst er
    exact hR Ha sb Ib z
  · refine thnF (T.item B rfl rfl rfl hc j pins sa _ Ha (fun _ _ => False) Ia (fo na) sta go) fun r sb ⟨u, er, hb⟩ => ?_
    subst er
    refine thnF hb fun _ sc ⟨x, Hc, Ic, rc, yc, stc, nc⟩ => ?_
    have Ip := Ic.pinned (fo nc) (T.obj _ _ stc)
    refine thnX hx (hg.run _ sc _ Hc x u _ Ip rc (step x Hc yc)) fun _ sd ⟨σd, Hd, Id, ed, qd⟩ => ?_
    refine thnX hx (ht.run _ sd σd Hd _ Id qd) fun b se ⟨He, Ie, qe⟩ => ?_
    have fin : ∀ {τ : L2.St} {sz : Shared} {Hz : Hp}, Inv B (pins ++ pinsAt fp sc.heap) τ Hz sz → wipe τ vs = wipe σ vs → Nx Hz → ∃ m, m < n ∧ ∃ j Hc, Inv B pins (wipe σ vs) Hc sz ∧ tn j sz.heap ∧ (∀ b ∈ fp, Hc b = none) ∧ W j m Hc := fun {τ sz Hz} Iz ez nx => by
      obtain ⟨m1, lt1, w1⟩ := hNx Hz nx
      have pk : ∀ b ∈ fp, ∀ o, sc.heap.get? b = some o → sz.heap.get? b = some o ∧ Hz b = none := fun b hb o eo => by
        have z := Iz.pin (b, o) (List.mem_append_right _ (List.mem_append_right _ (mem_pinsAt hb eo)))
        exact ⟨z.1, z.2.1⟩
      refine ⟨m1, lt1, j + 1, Hz, by rw [← ez]; exact inv_wipe Iz.unpinned vs, T.keep _ _ _ stc fun b hb o eo => (pk b hb o eo).1, fun b hb => ?_, w1⟩
      obtain ⟨ob, eob, _⟩ := T.obj _ _ stc b hb
      exact (pk b hb ob eob).2
    cases b with
    | false => exact iteF (fin Ie ed (by simpa using qe))
    | true =>
      refine iteT (hin _ se σd He Nx Ie (by simpa using qe) _ _ fun Hz sz Iz nx => fin Iz ?_ nx)
      rw [wipe_sub hus, ed]
theorem in_next {gs : List Comprehension} {scope : Scope} {pos : Pos} {gk : Comprehension} (hc : B.calm = true) (hx : ∀ x s, ¬ B.xe x s) (hcl : (clausesOf (.ListComp elt gs scope pos))[k]? = some gk) (has : (gk.is_async != 0) = false) (hi : PI B t i1 wi) (hg : PG B t g) (ht : PTs B ifs tt)
    (hr : LoopRule (model B.prog B.w) B.A (.ListComp elt gs scope pos) k (.ref D) B.env t ifs body) (hin : InOk B us body rest) (hus : ∀ i ∈ us, i ∈ vs) : InOk B vs (bNext B.prog B.w B.A (.ListComp elt gs scope pos) i1 k (.ref D) B.env) (stepR wi g tt rest vs) := by
  intro pins s σ H Nx I h P Er hP
  refine thnX hx (hi.run pins s σ H _ I h) fun xv s1 h1 => thnX hx h1 fun itv s2 ⟨it, fp, tn, J, H2, ei, I2, T, st2, f2, q⟩ => ?_
  subst ei
  have lp := loop_core (R := fun r s' => match r with | .ok _ => P s' | .error _ => False) hc hx hg ht hr hin hus (inv_wipe I2 vs) T st2 f2 q fun Hz sz Iz nz => hP Hz sz Iz nz
  exact start_ok hcl has lp (T.self B.A 0 _ _ _ st2 lp)
end
/-! ### the whole -/
def tLcN (wi : TI) (g : TG) (tt : TT) (rest : Addr → Rs) (vs : List Nat) : TE := fun σ H Q => wi σ H fun J H1 => ∀ D, H1 D = none → loopR σ vs g tt (rest D) J (fun Hz => Q (.ref D) Hz) (upd H1 D (.lst []))
/-- the block's context -/
abbrev BlkAll (X : Cx) (scope : Scope) (p : Cx → Prop) : Prop := ∀ (s : Shared) (H : Hp) (C : Addr) (cl : List (Str × Addr)) (fp : List Addr), p (X.blk s H scope (compEnvC scope cl C X.env) fp)
section
variable {X : Cx} {elt tg iter : Expr} {ifs : List Expr} {gs : List Comprehension} {scope : Scope} {own : List (Str × Nat)} {pos : Pos} {wi : TI} {g : TG} {tt : TT} {rest : Addr → Rs} {us : List Nat}
def InsOk (X : Cx) (e : Expr) (tg : Expr) (ifs : List Expr) (scope : Scope) (us : List Nat) (rest : Addr → Rs) : Prop := ∀ D : Addr, BlkAll X scope fun B => ∃ body, LoopRule (model B.prog B.w) B.A e 0 (.ref D) B.env tg ifs body ∧ InOk B us body (rest D)
theorem lcN_core {pins : List (Addr × Obj)} {s : Shared} {σ : L2.St} {H : Hp} {Q : VK} {pos' : Pos} {use : Option (Value → Sem Unit)} {Qf : Value → Shared → Prop} (hc : X.calm = true) (hN : X.N.Nodup) (I : Inv X pins σ H s) (hi : PI X tg iter wi) (ok : BlkOk X.N X.env.scope scope own) (hus : ∀ i ∈ us, i ∈ own.map (·.2))
    (hg : BlkAll X scope fun B => PG B tg g) (ht : BlkAll X scope fun B => PTs B ifs tt) (hin : InsOk X (.ListComp elt (⟨tg, iter, ifs, 0⟩ :: gs) scope pos) tg ifs scope us rest) (hs : ∀ x, foldedSetIterable iter X.env x = pure x) (h : tLcN wi g tt rest (own.map (·.2)) σ H Q)
    (hRR : ∀ D C s' m H', Inv X pins σ H' s' → Q (.ref D) H' → s'.heap.Ns C m → FpOk X pins H' C → compPost (model X.prog X.w) X.A X.xe use Qf (.ref D) C (.ok .next) s') :
    wpAny (model X.prog X.w) X.A (comprehension (.ListComp elt (⟨tg, iter, ifs, 0⟩ :: gs) scope pos) scope X.env pos' (newList []) false (eval iter X.env) use) Qf X.xe s := by
  have hfr : ∀ y ∈ scope.names, y.2 = .free → ∃ c, X.env.cells.lookup y.1 = some c := fun y hy e => (ok.free y hy e).elim (fun z => I.ok.has _ (.inl z)) fun z => I.ok.has _ (.inr z)
  refine wpAny_comprehension_free (use := use) rfl hs (closure_ok hfr) ok.kind (fun y hy e => by rw [ok.uniq y hy, e]) (thn (hi.run pins s σ H _ I h) fun xv sa ha => thn ha fun itv sb hb => ?_)
  obtain ⟨it, fp, tn, J, Hb, ei, Ib, T, stb, fb, q⟩ := hb
  subst ei
  refine wpAny_newObj_type (newEnv_comp ?_) (by show 0 ≤ sizeLine; decide)
  generalize eD : sb.heap.objs.size = D
  have nD : Hb D = none := Ib.hok.fresh (Nat.le_of_eq eD)
  have qD := q D nD
  generalize esc : ({ sb with heap := sb.heap.push { cls := .type "list", data := .seq ([] : List Value).toArray } } : Shared) = sc
  have hpc : sc.heap = sb.heap.push { cls := .type "list", data := .seq ([] : List Value).toArray } := by rw [← esc]
  have Ic : Inv X pins σ (upd Hb D (.lst [])) sc := by
    rw [← esc]
    refine Ib.laid (t' := sb.toks) (fun b o e => Heap.get?_push_of_some _ e) (Nat.le_of_eq eD) ⟨Nat.zero_le _, [], 0, .nil, ?_⟩
    rw [← eD]; exact Heap.get?_push_size _ rfl
  have fc : ∀ b ∈ fp, FpOk X pins (upd Hb D (.lst [])) b ∧ b < sc.heap.objs.size := fun b hb => by
    obtain ⟨o, eo, _⟩ := T.obj _ _ stb b hb
    have lt := Heap.lt_size eo
    refine ⟨⟨?_, (fb b hb).2⟩, by rw [hpc, Heap.size_push]; exact Nat.lt_succ_of_lt lt⟩
    rw [upd_ne (by rw [← eD]; exact Nat.ne_of_lt lt)]; exact (fb b hb).1
  have stc : tn 0 sc.heap := T.keep _ _ _ stb fun b _ o e => by rw [hpc]; exact Heap.get?_push_of_some _ e
  have Id := block_start Ic ok hN fc
  generalize ecl : cellsFrom (sc.heap.objs.size + 1) scope.names (cloFrom X.env.cells scope.names []) = cl at Id ⊢
  have pg := hg sc (upd Hb D (.lst [])) sc.heap.objs.size cl fp
  have pt := ht sc (upd Hb D (.lst [])) sc.heap.objs.size cl fp
  obtain ⟨body, rule, inn⟩ := hin D sc (upd Hb D (.lst [])) sc.heap.objs.size cl fp
  show codeAny _ _ (.compStart (.ListComp elt (⟨tg, iter, ifs, 0⟩ :: gs) scope pos) 0 (.ref it) (.ref D) (compEnvC scope cl sc.heap.objs.size X.env)) (compPost (model X.prog X.w) X.A X.xe use Qf (.ref D) sc.heap.objs.size) { sc with heap := pushCells (sc.heap.push { cls := .type "dict", data := .dict #[] }) scope.names }
  generalize ece : compEnvC scope cl sc.heap.objs.size X.env = ce at Id pg pt rule inn ⊢
  have lL : ce.locals = sc.heap.objs.size := by subst ece; rfl
  generalize eHc : upd Hb D (.lst []) = Hc at Ic Id pg pt qD rule inn fc
  generalize esd : ({ sc with heap := pushCells (sc.heap.push { cls := .type "dict", data := .dict #[] }) scope.names } : Shared) = sd at Id ⊢
  have std : tn 0 sd.heap := T.keep _ _ _ stc fun b _ o e => by rw [← esd]; exact pushCells_keeps _ _ _ _ (Heap.get?_push_of_some _ e)
  have fd : ∀ b ∈ fp, FpOk (X.blk sc Hc scope ce fp) [] Hc b := fun b hb => ⟨(fc b hb).1.1, (Id.ok.exf b hb).1, Id.ok.exfs b hb, .inl hb, fun x c e => (Id.ok.exf b hb).2 x c e, fun p hp => absurd (show p ∈ ([] : List (Addr × Obj)) ++ [] from hp) (by simp)⟩
  have lp := loop_core (B := X.blk sc Hc scope ce fp) (R := compPost (model X.prog X.w) X.A X.xe use Qf (.ref D) sc.heap.objs.size) hc (fun _ _ z => z) pg pt rule inn hus Id T std fd qD fun Hz sz Iz nz => by
    have Iy : Inv X pins σ Hz sz := Ic.call' (ch := fp) Iz.os Iz.base Iz.hok Iz.bare fun b hb => ⟨(fc b hb).1.2.2.2.1, (fc b hb).1.2.1, (fc b hb).1.2.2.2.2.1, (fc b hb).1.2.2.2.2.2⟩
    have zL : Hz ce.locals = none := Iz.free
    rw [lL] at zL
    obtain ⟨m, hn, _⟩ := Iz.loc
    have hn : sz.heap.Ns ce.locals m := hn
    rw [lL] at hn
    exact hRR D sc.heap.objs.size sz m Hz Iy nz hn (Ic.fpOk (Nat.le_refl _) zL)
  exact codeAny_compStart_list lp (T.self X.A 0 _ _ _ std lp)
theorem pe_lcN (hc : X.calm = true) (hN : X.N.Nodup) (hi : PI X tg iter wi) (ok : BlkOk X.N X.env.scope scope own) (hus : ∀ i ∈ us, i ∈ own.map (·.2)) (hg : BlkAll X scope fun B => PG B tg g) (ht : BlkAll X scope fun B => PTs B ifs tt)
    (hin : InsOk X (.ListComp elt (⟨tg, iter, ifs, 0⟩ :: gs) scope pos) tg ifs scope us rest) (hs : ∀ x, foldedSetIterable iter X.env x = pure x := by intro _; rfl) : PE X (.ListComp elt (⟨tg, iter, ifs, 0⟩ :: gs) scope pos) (tLcN wi g tt rest (own.map (·.2))) := by
  refine ⟨fun pins s σ H Q I h => ?_⟩
  rw [eval_ListComp]
  refine lcN_core hc hN I hi ok hus hg ht hin hs h fun D C sz m Hz Iz q hn f => ⟨m, hn, fun h2 sb => ?_⟩
  obtain ⟨f0, f1, f2, f3, f4, f5⟩ := f
  exact ⟨.ref D, Hz, Iz.turned (t' := sz.toks) (fun b o hb e => (sb.2 b hb).trans e) f0 f1 f3 f4 f5, rfl, q⟩
end
end Dl
namespace Dl
open PySem PySem.Spec PyProof.Rows L2
section
variable {X : Cx} {T : Tx} {π : Nat → Option Pin} {W : WX} {m ma mb mc : Mi Dt} {ms : Mi (List Dt)} {A A' : Addr → Prop} {F H F' H' F0 H0 F1 H1 : Hp} {σ : L2.St} {ρ : En}
/-! ### the mirrors -/
abbrev Mc := List Dt → Mi (List Dt)
def liGo (g : Dt → En → Option En) (t : Mi Bool) (I : Mc) (vs : List Nat) : List Dt → List Dt → En → Ou (List Dt)
  | [], acc, ρ => .ok acc ρ
  | d :: ds, acc, ρ => match g d ρ with
    | none => .bad
    | some ρ1 => match t ρ1 with
      | .ok true ρ2 => (match I acc ρ2 with
        | .ok acc2 ρ3 => liGo g t I vs ds acc2 (wipeE ρ3 vs)
        | _ => .bad)
      | .ok false ρ2 => liGo g t I vs ds acc (wipeE ρ2 vs)
      | _ => .bad
def iLast (e : Mi Dt) : Mc := fun acc => mBind e fun y => if acc.length < sizeLine then mPure (acc ++ [y]) else mBad
def iNext (mi : Mi (List Dt)) (g : Dt → En → Option En) (t : Mi Bool) (I : Mc) (vs : List Nat) : Mc := fun acc => mBind mi fun ds ρ => liGo g t I vs ds acc (wipeE ρ vs)
def mLcN (mi : Mi (List Dt)) (g : Dt → En → Option En) (t : Mi Bool) (I : Mc) (vs : List Nat) : Mi Dt := mBind mi fun ds ρ =>
  if ownAny ρ vs then .bad else match liGo g t I vs ds [] (wipeE ρ vs) with
    | .ok acc ρ' => .ok (.lst acc) (restE ρ ρ' vs)
    | _ => .bad
/-- the inside of a clause: the list at D grows from acc to what the mirror says -/
def TMc (T : Tx) (π : Nat → Option Pin) (D : Addr) (I : Mc) (us : List Nat) : Rs := fun σ H Nx => ∃ A F1 H1 F ρ acc vacc acc2 ρ2, H1 D = none ∧ ¬ A D ∧ Fr A F1 H1 F H ∧ Ok T π A F H σ ρ ∧ F D = none ∧ H D = some (.lst vacc) ∧ Reps T F vacc acc ∧ I acc ρ = .ok acc2 ρ2 ∧
  ∀ F' H' vacc', Ok T π A F' H' (wipe σ us) ρ2 → Le F F' → Fr A F1 H1 F' H' → F' D = none → H' D = some (.lst vacc') → Reps T F' vacc' acc2 → Nx H'
theorem tmc_last {D : Addr} {me : Mi Dt} {Nx : Hp → Prop} (h : TMc T π D (iLast me) [] σ H Nx) : lastR D (TMe T π W0 me) σ H Nx := by
  obtain ⟨A, F1, H1, F, ρ, acc, vacc, acc2, ρ2, hD1, nA, r, k, fD, hD, rs, e, q⟩ := h
  refine ⟨A, F, ρ, k, ?_⟩
  unfold iLast mBind at e
  cases e1 : me ρ with
  | exc x r => rw [e1] at e; cases e
  | bad => rw [e1] at e; cases e
  | ok y ρ3 =>
    rw [e1] at e
    dsimp only at e
    intro F6 H6 k6 r6 v rv
    by_cases hz : acc.length < sizeLine
    · rw [if_pos hz] at e
      cases e
      have h6 : H6 D = some (.lst vacc) := r6.h D _ nA hD
      have f6 : F6 D = none := by rw [r6.n D _ nA hD (fun _ z => nomatch z)]; exact fD
      have rr := r.trans r6
      refine ⟨vacc, h6, by rw [rs.length]; exact hz, q F6 _ (vacc ++ [v]) (k6.upd_other f6 nA) r6.f ?_ f6 upd_same ((rs.mono r6.f).append (.cons rv .nil))⟩
      exact ⟨rr.f, fun a o n e => by
        rw [upd_ne fun z => by rw [z, hD1] at e; cases e]; exact rr.h a o n e, rr.n, fun a e => rr.t a (up_none e)⟩
    · rw [if_neg hz] at e; cases e
/-- a clause's loop -/
theorem loop_of {J : It} {ds : List Dt} {Fs F2 H2 : Hp} {g : Dt → En → Option En} {sl us vs : List Nat} {mt : Mi Bool} {I : Mc} {D : Addr} {acc accF : List Dt} {vacc : List V} {ρF : En} {Z : Hp → Prop} (hsl : ∀ i ∈ sl, i ∈ vs) (hus : ∀ i ∈ us, i ∈ vs) (w : Wk T J ds Fs)
    (k : Ok T π A F2 H2 (wipe σ vs) ρ) (lf : Le Fs F2) (hD1 : H1 D = none) (nA : ¬ A D) (r : Fr A F1 H1 F2 H2) (fD : F2 D = none) (hD : H2 D = some (.lst vacc)) (rs : Reps T F2 vacc acc) (el : liGo g mt I vs ds acc ρ = .ok accF ρF)
    (fin : ∀ F' H' vacc', Ok T π A F' H' (wipe σ vs) ρF → Le Fs F' → Fr A F1 H1 F' H' → F' D = none → H' D = some (.lst vacc') → Reps T F' vacc' accF → Z H') : loopR σ vs (TMg T π g sl) (TMt T π W0 mt) (TMc T π D I us) J Z H2 := by
  refine ⟨fun i mm Hc => mm = ds.length - i ∧ i ≤ ds.length ∧ ∃ F ρ' acc vacc, Ok T π A F Hc (wipe σ vs) ρ' ∧ Le Fs F ∧ Fr A F1 H1 F Hc ∧ F D = none ∧ Hc D = some (.lst vacc) ∧ Reps T F vacc acc ∧ liGo g mt I vs (ds.drop i) acc ρ' = .ok accF ρF,
    ⟨_, rfl, Nat.zero_le _, F2, ρ, acc, vacc, k, lf, r, fD, hD, rs, el⟩, ?_⟩
  rintro i mm Hc ⟨em, hi, F3, ρ', acc3, vacc3, k3, l3, r3, fD3, hD3, rs3, eg⟩
  by_cases hlt : i < ds.length
  · refine .inr ⟨w.goes i Hc hlt (le_trans l3 k3.le), fun Hn => ∃ F ρ' acc vacc, Ok T π A F Hn (wipe σ vs) ρ' ∧ Le Fs F ∧ Fr A F1 H1 F Hn ∧ F D = none ∧ Hn D = some (.lst vacc) ∧ Reps T F vacc acc ∧ liGo g mt I vs (ds.drop (i + 1)) acc ρ' = .ok accF ρF, fun Hn hn => ⟨ds.length - (i + 1), by omega, rfl, hlt, hn⟩, fun x Hy y => ?_⟩
    have hd : ds[i]? = some ds[i] := List.getElem?_eq_getElem hlt
    obtain ⟨F4, k4, r4, rx, l4⟩ := w.turn hd k3 l3 y
    rw [List.drop_eq_getElem_cons hlt] at eg
    unfold liGo at eg
    cases e1 : g ds[i] ρ' with
    | none => rw [e1] at eg; cases eg
    | some ρ5 =>
      rw [e1] at eg
      dsimp only at eg
      refine ⟨_, F4, ρ', ds[i], ρ5, k4, rx, e1, fun σ2 k5 l5 s5 => ?_⟩
      have ew : wipe σ2 vs = wipe σ vs := by
        rw [wipe_ext (σ := wipe σ vs) (σ' := σ2) l5 fun i hi => s5 i fun z => hi (hsl i z), wipe_wipe]
      refine ⟨ew, _, F4, ρ5, k5, ?_⟩
      have r14 := r3.trans r4
      have hD4 : Hy D = some (.lst vacc3) := r4.h D _ nA hD3
      have fD4 : F4 D = none := by rw [r4.n D _ nA hD3 (fun _ z => nomatch z)]; exact fD3
      cases e2 : mt ρ5 with
      | exc x r => rw [e2] at eg; cases eg
      | bad => rw [e2] at eg; cases eg
      | ok b ρ6 =>
        rw [e2] at eg
        intro F6 H6 k6 r6
        have hD6 : H6 D = some (.lst vacc3) := r6.h D _ nA hD4
        have fD6 : F6 D = none := by rw [r6.n D _ nA hD4 (fun _ z => nomatch z)]; exact fD4
        have rs6 : Reps T F6 vacc3 acc3 := (rs3.mono r4.f).mono r6.f
        cases b with
        | false => exact iteF ⟨F6, _, acc3, vacc3, by rw [← ew]; exact k6.wipe vs, le_trans l4 r6.f, r14.trans r6, fD6, hD6, rs6, eg⟩
        | true =>
          dsimp only at eg
          cases e3 : I acc3 ρ6 with
          | exc x r => rw [e3] at eg; cases eg
          | bad => rw [e3] at eg; cases eg
          | ok acc7 ρ7 =>
            rw [e3] at eg
            refine iteT ⟨A, F1, H1, F6, ρ6, acc3, vacc3, acc7, ρ7, hD1, nA, r14.trans r6, k6, fD6, hD6, rs6, e3, fun F8 H8 vacc8 k8 f8 r8 fD8 hD8 rs8 => ?_⟩
            refine ⟨F8, wipeE ρ7 vs, acc7, vacc8, ?_, ?_, r8, fD8, hD8, rs8, eg⟩
            · have z := k8.wipe vs
              rw [wipe_sub hus, ew] at z
              exact z
            · exact le_trans (le_trans l4 r6.f) f8
  · have ei : i = ds.length := by omega
    subst ei
    have e : ds.drop ds.length = [] := List.drop_length
    rw [e] at eg
    unfold liGo at eg
    cases eg
    exact .inl ⟨w.stops Hc (le_trans l3 k3.le), fin F3 Hc vacc3 k3 l3 r3 fD3 hD3 rs3⟩
theorem tmc_next {g : Dt → En → Option En} {sl us vs : List Nat} {mt : Mi Bool} {I : Mc} {D : Addr} {Nx : Hp → Prop} (hsl : ∀ i ∈ sl, i ∈ vs) (hus : ∀ i ∈ us, i ∈ vs) (h : TMc T π D (iNext ms g mt I vs) vs σ H Nx) : stepR (TMi T π W0 ms) (TMg T π g sl) (TMt T π W0 mt) (TMc T π D I us) vs σ H Nx := by
  obtain ⟨A, F1, H1, F, ρ, acc, vacc, acc2, ρ2, hD1, nA, r, k, fD, hD, rs, e, q⟩ := h
  refine ⟨A, F, ρ, k, ?_⟩
  unfold iNext mBind at e
  cases e1 : ms ρ with
  | exc x r => rw [e1] at e; cases e
  | bad => rw [e1] at e; cases e
  | ok ds ρ3 =>
    rw [e1] at e
    dsimp only at e
    intro F6 H6 k6 r6 J w
    refine loop_of hsl hus w (k6.wipe vs) (le_refl F6) hD1 nA (r.trans r6) ?_ (r6.h D _ nA hD) (rs.mono r6.f) e fun F' H' vacc' k' l' r' fD' hD' rs' => q F' H' vacc' k' (le_trans r6.f l') r' fD' hD' rs'
    rw [r6.n D _ nA hD (fun _ z => nomatch z)]; exact fD
theorem tlcN_of {g : Dt → En → Option En} {sl us vs : List Nat} {mt : Mi Bool} {I : Mc} {Q : VK} (hsl : ∀ i ∈ sl, i ∈ vs) (hus : ∀ i ∈ us, i ∈ vs) (h : TMn T π W (mLcN ms g mt I vs) σ H Q) : tLcN (TMi T π W ms) (TMg T π g sl) (TMt T π W0 mt) (fun D => TMc T π D I us) vs σ H Q := by
  obtain ⟨A0, F, ρ, k, p⟩ := h
  refine ⟨IsOwn H σ ρ, F, ρ, k.tight, ((p.weak (A' := IsOwn H σ ρ) fun a z => k.ownA z).bind).imp fun ds ρ1 F1 H1 k1 r1 p1 J w D hD => ?_⟩
  have nA : ¬ IsOwn H σ ρ D := k.fresh_own (r1.t D hD)
  by_cases hown : ownAny ρ1 vs = true
  · rw [if_pos hown] at p1; exact p1.elim
  · rw [if_neg hown] at p1
    have hown : ownAny ρ1 vs = false := by simpa using hown
    cases el : liGo g mt I vs ds [] (wipeE ρ1 vs) with
    | exc x r => rw [el] at p1; exact p1.elim
    | bad => rw [el] at p1; exact p1.elim
    | ok accF ρF =>
      rw [el] at p1
      refine loop_of hsl hus w ((k1.newO hD).wipe vs) (le_refl F1) hD nA (.newO hD) (f_none k1.le hD) upd_same .nil el fun F' H' vacc' k' l' r' fD' hD' rs' => ?_
      have k5 := k1.rest hown r'.f k'
      exact p1 F' H' k5 r' D fD' (fun z => nA (k5.ownA z)) (r1.t D hD) ⟨vacc', hD', rs'⟩ (fun _ z => nomatch z)
/-! ### in the form that one prints -/
theorem dn_lcN {elt tg iter : Expr} {ifs : List Expr} {gs : List Comprehension} {scope : Scope} {pos : Pos} {own : List (Str × Nat)} {g : Dt → En → Option En} {sl us : List Nat} {mt : Mi Bool} {I : Mc} (h : PE X (.ListComp elt (⟨tg, iter, ifs, 0⟩ :: gs) scope pos) (tLcN (TMi T π W ms) (TMg T π g sl) (TMt T π W0 mt) (fun D => TMc T π D I us) (own.map (·.2))))
    (hsl : ∀ i ∈ sl, i ∈ own.map (·.2)) (hus : ∀ i ∈ us, i ∈ own.map (·.2)) : PE X (.ListComp elt (⟨tg, iter, ifs, 0⟩ :: gs) scope pos) (TMn T π W (mLcN ms g mt I (own.map (·.2)))) := h.imp fun σ H Q q => tlcN_of hsl hus q
/-- three -/
theorem ins3 {elt t0 i0 t1 i1 t2 i2 : Expr} {f0 f1 f2 : List Expr} {scope : Scope} {pos : Pos} {g1 g2 : Dt → En → Option En} {s1 v1 s2 v2 : List Nat} {mt1 mt2 : Mi Bool} {m1 m2 : Mi (List Dt)} {me : Mi Dt} (hc : X.calm = true) (hi : BlkAll X scope fun B => PI B t1 i1 (TMi T π W0 m1)) (hg : BlkAll X scope fun B => PG B t1 (TMg T π g1 s1)) (ht : BlkAll X scope fun B => PTs B f1 (TMt T π W0 mt1))
    (hi2 : BlkAll X scope fun B => PI B t2 i2 (TMi T π W0 m2)) (hg2 : BlkAll X scope fun B => PG B t2 (TMg T π g2 s2)) (ht2 : BlkAll X scope fun B => PTs B f2 (TMt T π W0 mt2)) (he : BlkAll X scope fun B => PE B elt (TMe T π W0 me)) (h1 : ∀ i ∈ s1, i ∈ v1) (h2 : ∀ i ∈ s2, i ∈ v2) (h12 : ∀ i ∈ v2, i ∈ v1)
    (hs1 : ∀ env x, foldedSetIterable i1 env x = pure x := by intro _ _; rfl) (hs2 : ∀ env x, foldedSetIterable i2 env x = pure x := by intro _ _; rfl) :
    InsOk X (.ListComp elt [⟨t0, i0, f0, 0⟩, ⟨t1, i1, f1, 0⟩, ⟨t2, i2, f2, 0⟩] scope pos) t0 f0 scope v1 (fun D => TMc T π D (iNext m1 g1 mt1 (iNext m2 g2 mt2 (iLast me) v2) v1) v1) := fun D s H C cl fp => by
  refine ⟨_, rule_next (fun _ => rfl) (hs1 _), fun pins s3 σ H3 Nx I h => ?_⟩
  exact in_next (B := X.blk s H scope (compEnvC scope cl C X.env) fp) (us := v2) hc (fun _ _ z => z) rfl rfl (hi s H C cl fp) (hg s H C cl fp) (ht s H C cl fp) (rule_next (fun _ => rfl) (hs2 _))
    (fun pins s3 σ H3 Nx I h => in_next (B := X.blk s H scope (compEnvC scope cl C X.env) fp) (us := []) hc (fun _ _ z => z) rfl rfl (hi2 s H C cl fp) (hg2 s H C cl fp) (ht2 s H C cl fp) (rule_last fun _ => rfl) (fun pins s4 σ H4 Nx I h => in_last (fun _ _ z => z) (he s H C cl fp) pins s4 σ H4 Nx I (tmc_last h)) (fun _ z => nomatch z) pins s3 σ H3 Nx I (tmc_next h2 (fun _ z => nomatch z) h))
    h12 pins s3 σ H3 Nx I (tmc_next h1 h12 h)
end
end Dl
namespace Dl
open PySem PySem.Spec PyProof.Rows L2
/-! ### {k: v for ..}, keys of either kind -/
section
variable {X : Cx} {T : Tx} {π : Nat → Option Pin} {W : WX} {a b c e o l : Expr} {es : List Expr} {pos p tpos : Pos} {m ma mb mc : Mi Dt} {ms : Mi (List Dt)} {A A' A0 : Addr → Prop} {F H F' H' F0 H0 : Hp} {σ : L2.St} {ρ : En} {tg : Expr}
/-! ### x in a list or tuple of data -/
def rInA (K : PySem.W.Frag) : R2 := fun x y H Q => ∃ d ds, Dp K H x d ∧ (Dp K H y (.list ds) ∨ Dp K H y (.tuple ds)) ∧ SeqAt.shaped d = true ∧ d.depth ≤ 60 ∧ SeqAt.shaped (.list ds) = true ∧ Q (.bl (ds.any fun z => PyData.eqv z d)) H
def rNotInA (K : PySem.W.Frag) : R2 := fun x y H Q => ∃ d ds, Dp K H x d ∧ (Dp K H y (.list ds) ∨ Dp K H y (.tuple ds)) ∧ SeqAt.shaped d = true ∧ d.depth ≤ 60 ∧ SeqAt.shaped (.list ds) = true ∧ Q (.bl (!ds.any fun z => PyData.eqv z d)) H
theorem op_inA (hu : X.A.units + 64 < cLine) : OpR X (compareOp .In) (rInA X.K) := by
  rintro pins s σ H x y v u Q I rx ry ⟨d, ds, hd, he, sd, hdep, se, q⟩
  obtain ⟨as, r1⟩ := Dp.reads I d x v hd rx
  rcases he with he | he
  · obtain ⟨bs, r2⟩ := Dp.reads I _ y u he ry
    exact SeqAt.in_list_reads r2 r1 (SeqAt.canLay_of_shaped se) (SeqAt.canLay_of_shaped sd) (by have := Nat.min_le_right (PyData.depthAll ds) d.depth; omega) ⟨.bl _, H, I, rfl, q⟩
  · obtain ⟨bs, r2⟩ := Dp.reads I _ y u he ry
    exact SeqAt.in_tuple_reads r2 r1 (SeqAt.canLay_of_shaped se) (SeqAt.canLay_of_shaped sd) (by have := Nat.min_le_right (PyData.depthAll ds) d.depth; omega) ⟨.bl _, H, I, rfl, q⟩
theorem op_notInA (hu : X.A.units + 64 < cLine) : OpR X (compareOp .NotIn) (rNotInA X.K) := by
  rintro pins s σ H x y v u Q I rx ry ⟨d, ds, hd, he, sd, hdep, se, q⟩
  obtain ⟨as, r1⟩ := Dp.reads I d x v hd rx
  rcases he with he | he
  · obtain ⟨bs, r2⟩ := Dp.reads I _ y u he ry
    exact SeqAt.notIn_list_reads r2 r1 (SeqAt.canLay_of_shaped se) (SeqAt.canLay_of_shaped sd) (by have := Nat.min_le_right (PyData.depthAll ds) d.depth; omega) ⟨.bl _, H, I, rfl, q⟩
  · obtain ⟨bs, r2⟩ := Dp.reads I _ y u he ry
    exact SeqAt.notIn_tuple_reads r2 r1 (SeqAt.canLay_of_shaped se) (SeqAt.canLay_of_shaped sd) (by have := Nat.min_le_right (PyData.depthAll ds) d.depth; omega) ⟨.bl _, H, I, rfl, q⟩
def itemsD : Dt → Option (List Dt)
  | .lst xs => some xs
  | .tup xs => some xs
  | _ => none
def dIn (x d : Dt) : Option Bool := match toPy x, (itemsD d).bind toPys with
  | some p, some ps => if SeqAt.shaped p && decide (p.depth ≤ 60) && SeqAt.shaped (.list ps) then some (ps.any fun z => PyData.eqv z p) else none
  | _, _ => none
def fInA (x d : Dt) : Option Dt := (dIn x d).map .bl
def fNotInA (x d : Dt) : Option Dt := (dIn x d).map fun b => .bl (!b)
theorem dIn_inv {x d : Dt} {b : Bool} {v w : V} (le : Le F H) (rv : RepS T F H v x) (rw : RepS T F H w d) (h : dIn x d = some b) : ∃ p ps, Dp T.K H v p ∧ (Dp T.K H w (.list ps) ∨ Dp T.K H w (.tuple ps)) ∧ SeqAt.shaped p = true ∧ p.depth ≤ 60 ∧ SeqAt.shaped (.list ps) = true ∧ (ps.any fun z => PyData.eqv z p) = b := by
  unfold dIn at h
  split at h
  · rename_i p ps e1 e2
    split at h
    · rename_i hs
      cases h
      rw [Bool.and_eq_true_iff, Bool.and_eq_true_iff] at hs
      refine ⟨p, ps, dp_ofS le rv e1, ?_, hs.1.1, by simpa using hs.1.2, hs.2, rfl⟩
      cases d with
      | lst xs => exact .inl (dp_ofS le rw (by unfold toPy; rw [show toPys xs = some ps from e2]; rfl))
      | tup xs => exact .inr (dp_ofS le rw (by unfold toPy; rw [show toPys xs = some ps from e2]; rfl))
      | _ => cases e2
    · cases h
  · cases h
theorem os_inA : OpS T (rInA T.K) fInA := ops_pure fun F H v w d e z Q le rv rw ef q => by
  unfold fInA at ef
  cases h : dIn d e with
  | none => rw [h] at ef; cases ef
  | some b =>
    rw [h] at ef
    cases ef
    obtain ⟨p, ps, h1, h2, h3, h4, h6, h5⟩ := dIn_inv le rv rw h
    subst h5
    exact ⟨p, ps, h1, h2, h3, h4, h6, q _ (.bl _)⟩
theorem os_notInA : OpS T (rNotInA T.K) fNotInA := ops_pure fun F H v w d e z Q le rv rw ef q => by
  unfold fNotInA at ef
  cases h : dIn d e with
  | none => rw [h] at ef; cases ef
  | some b =>
    rw [h] at ef
    cases ef
    obtain ⟨p, ps, h1, h2, h3, h4, h6, h5⟩ := dIn_inv le rv rw h
    subst h5
    exact ⟨p, ps, h1, h2, h3, h4, h6, q _ (.bl _)⟩
/-! ### pop -/
theorem de_popAt {i : Nat} (hK : X.K = T.K) (h : PE X o (tBM X.K "list" rPopAt (tVar i) (tCons (TMe T π W m) tNil))) : PE X o (TMe T π W (ownLst i (mPopAt i m))) := h.imp fun σ H Q ⟨A, F, ρ, k, p⟩ => by
  unfold ownLst at p
  split at p
  · rename_i io ds e
    obtain ⟨a, h1, h2⟩ := own_first hK k e
    refine ⟨.ref a, h1, h2, A, F, ρ, k, p.bind.imp fun y ρ1 F1 H1 k1 r1 p1 v rv => ?_⟩
    obtain ⟨io1, ds1, r, es, a1, vs, e1, ef, s1, h3, h4, q⟩ := mMut_inv p1 k1
    rw [h1] at s1
    cases s1
    cases y with
    | int j =>
      dsimp only at ef
      by_cases hj : -(2 ^ 63) ≤ j ∧ j < 2 ^ 63
      · rw [if_pos hj] at ef
        cases hx : ixN ds1.length j with
        | none => rw [hx] at ef; cases ef
        | some kx =>
          rw [hx] at ef
          cases hy : ds1[kx]? with
          | none => rw [show ((some kx).bind fun q => (ds1[q]?).map fun y => (y, ds1.eraseIdx q)) = (ds1[kx]?).map fun y => (y, ds1.eraseIdx kx) from rfl, hy] at ef; cases ef
          | some d =>
            rw [show ((some kx).bind fun q => (ds1[q]?).map fun y => (y, ds1.eraseIdx q)) = (ds1[kx]?).map fun y => (y, ds1.eraseIdx kx) from rfl, hy] at ef
            cases ef
            obtain ⟨vy, e5, r5⟩ := h4.get hy
            refine ⟨a, vs, j, kx, vy, rfl, by rw [rv.int_inv], h3, hj.1, hj.2, by rw [h4.length]; exact (L2.ixN_seq hx).1, e5, q _ ?_ _ r5⟩
            have er : ∀ {vs : List V} {ds : List Dt} (n : Nat), Reps T F1 vs ds → Reps T F1 (vs.eraseIdx n) (ds.eraseIdx n) := by
              intro vs ds n rr
              rw [List.eraseIdx_eq_take_drop_succ, List.eraseIdx_eq_take_drop_succ]
              exact (rr.take n).append (rr.drop (n + 1))
            exact er kx h4
      · rw [if_neg hj] at ef; cases ef
    | _ => cases ef
  · exact p.elim
end
end Dl
namespace Dl
open PySem PySem.Spec PyProof.Rows L2
/-! ### a def with defaults -/
section
variable {P : Program} {w : World} {K : PySem.W.Frag} {mg : Str → Option Value} {base : Heap}
theorem fun_okD {x qual : Str} {st : Stmt} {f : Addr} {fd : FuncData} {N ps : List Str} {k : Nat} {cl : Nat → Option (Addr × List Str)} {io rn : Bool} {body : En → So} {dvs : List V} {kws : List (Str × V)} (F : FunD K x qual (defArgs st) (defBody st) (defScope st) dvs kws f fd) (S : FnScope N ps (defScope st)) (hN : ps.length ≤ N.length)
    (hb : ∀ (cdv : Value) (A : Around) (outer : List Env) (s : Shared) (H : Hp) (E : XK) (π : Nat → Option Pin), Room k (A.deeper (envOfC qual (defScope st) s.heap.objs.size f cdv)) →
      PSs (cxOf (L2.CX P w) P w K mg base N qual (defScope st) f cdv A outer s H E) (defBody st) (TMs ⟨K, cl⟩ π (fun cls d _ H => E cls d H) body)) :
    FnOk P w K mg base (L2.CX P w) (k + 1) f fd ps (spM ⟨K, cl⟩ ps.length io rn (runF N.length io rn body)) := by
  refine F.ok S (fun vs H Q E h => ?_) (fun cdv A outer s H vs Q E hr h => ?_)
  · obtain ⟨F, ds, π0, hl, _⟩ := h
    exact hl
  · obtain ⟨F0, ds, π0, hl, le, ha, q⟩ := h
    refine ⟨_, hb cdv A outer s H E (pi0 π0) hr, _, F0, H, F0, _, ok_start (by rw [hl]; exact hN) le ha, ?_⟩
    unfold runF at q
    cases eb : body (argE io ds ++ List.replicate (N.length - ds.length) none) with
    | nx ρ =>
      rw [eb] at q
      dsimp only at q
      cases eo : ioOut io ρ with
      | none => rw [eo] at q; exact q.elim
      | some o =>
        rw [eo] at q
        cases rn with
        | true => exact q.elim
        | false => exact fun σ' F' H' k' => q F' H' .non k'.ok.le k'.fr (io_end ha k' eo) .non
    | rt d ρ =>
      rw [eb] at q
      dsimp only at q
      cases eo : ioOut io ρ with
      | none => rw [eo] at q; exact q.elim
      | some o =>
        rw [eo] at q
        cases rn with
        | true => exact q.elim
        | false => exact fun σ' F' H' v k' rv => q F' H' v k'.ok.le k'.fr (io_end ha k' eo) rv
    | rtN d ρ =>
      rw [eb] at q
      dsimp only at q
      cases eo : ioOut io ρ with
      | none => rw [eo] at q; exact q.elim
      | some o =>
        rw [eo] at q
        cases rn with
        | false => exact q.elim
        | true => exact fun σ' F' H' p k' h1 h2 h3 h4 h5 => q F' H' (.ref p) k'.ok.le k'.fr (io_end ha k' eo) ⟨p, rfl, h1, rtn_new ha k' eo h2 h3, h4, fun y hy => ⟨(h5 y hy).1, rtn_new ha k' eo (h5 y hy).2.1 (h5 y hy).2.2⟩⟩
    | exc x ρ =>
      rw [eb] at q
      dsimp only at q
      cases eo : ioOut io ρ with
      | none => rw [eo] at q; exact q.elim
      | some o =>
        rw [eo] at q
        exact fun σ' F' H' c d k' rx => q F' H' c d k'.ok.le k'.fr (io_end ha k' eo) rx
    | bk ρ => rw [eb] at q; exact q.elim
    | ct ρ => rw [eb] at q; exact q.elim
    | bad => rw [eb] at q; exact q.elim
theorem fun_okD2 {x qual : Str} {st : Stmt} {f : Addr} {fd : FuncData} {N ps : List Str} {k n : Nat} {cl : Nat → Option (Addr × List Str)} {io rn : Bool} {body : En → So} {fm : List Dt → Fo} {dvs : List V} {kws : List (Str × V)} (F : FunD K x qual (defArgs st) (defBody st) (defScope st) dvs kws f fd) (S : FnScope N ps (defScope st)) (hN : ps.length ≤ N.length) (hn : n = ps.length) (hm : fm = runF N.length io rn body)
    (hb : ∀ (cdv : Value) (A : Around) (outer : List Env) (s : Shared) (H : Hp) (E : XK) (π : Nat → Option Pin), Room k (A.deeper (envOfC qual (defScope st) s.heap.objs.size f cdv)) →
      PSs (cxOf (L2.CX P w) P w K mg base N qual (defScope st) f cdv A outer s H E) (defBody st) (TMs ⟨K, cl⟩ π (fun cls d _ H => E cls d H) body)) :
    FnOk P w K mg base (L2.CX P w) (k + 1) f fd ps (spM ⟨K, cl⟩ n io rn fm) := by
  subst hn hm
  exact fun_okD F S hN hb
/-- its default is () -/
theorem funD_mk {x qual : Str} {st : Stmt} {f tT tE : Addr} {oc tc : Value} {od an td : Option Addr} {osl ts : Array (Option Value)} {kV doc pm cdv ct : Value} {tn : Nat} (l : K.lookup f = some ⟨oc, od, .func (PySem.W.fnOf x qual (defArgs st) (defBody st) (defScope st) (.ref tT) kV doc pm an cdv ct), osl⟩)
    (c : PySem.W.codeIn K cdv qual = true) (k : PySem.W.keepIn K (.ref f) = true) (lt : K.lookup tT = some ⟨tc, td, .seq #[.ref tE] tn, ts⟩) : FunD K x qual (defArgs st) (defBody st) (defScope st) [V.ref tE] [] f (PySem.W.fnOf x qual (defArgs st) (defBody st) (defScope st) (.ref tT) kV doc pm an cdv ct) :=
  ⟨⟨oc, od, .ref tT, kV, doc, pm, an, cdv, ct, osl, rfl, l, c, .inr ⟨(fun z => nomatch z), tT, _, [.ref tE], tn, rfl, lt, rfl, .cons rfl .nil⟩, .inl rfl⟩, k⟩
theorem binds_all {x qual : Str} {params : Arguments} {body : List Stmt} {scope : Scope} {v : V} {kws : List (Str × V)} {f : Addr} {fd : FuncData} {ps : List Str} (F : FunD K x qual params body scope [v] kws f fd)
    (h : ∀ (T : Addr) (kV doc pm : Value) (an : Option Addr) (cdv ct : Value) (us its : List Value), us.length = ps.length → its.length = [v].length →
      ∃ k, bindArgs (PySem.W.fnOf x qual params body scope (.ref T) kV doc pm an cdv ct) ⟨us, []⟩ = seqItems? (.ref T) >>= k ∧ k (some its.toArray) = pure (ps.zip (us ++ its.drop 1))) : Binds K fd ps [] := by
  obtain ⟨ds, r, b⟩ := F.binds1 ps.length 1 (fun z => nomatch z) rfl h
  cases r
  exact b
theorem binds_but {x qual : Str} {params : Arguments} {body : List Stmt} {scope : Scope} {v : V} {kws : List (Str × V)} {f : Addr} {fd : FuncData} {ps : List Str} (F : FunD K x qual params body scope [v] kws f fd) (n : Nat) (hn : n + 1 = ps.length)
    (h : ∀ (T : Addr) (kV doc pm : Value) (an : Option Addr) (cdv ct : Value) (us its : List Value), us.length = n → its.length = [v].length →
      ∃ k, bindArgs (PySem.W.fnOf x qual params body scope (.ref T) kV doc pm an cdv ct) ⟨us, []⟩ = seqItems? (.ref T) >>= k ∧ k (some its.toArray) = pure (ps.zip (us ++ its.drop 0))) : ∃ ds, Vals [v] ds ∧ Binds K fd ps ds := F.binds1 n 0 (fun z => nomatch z) hn h
end
end Dl
namespace Dl
open PySem PySem.Spec PyProof.Rows L2
section
variable {X : Cx} {T : Tx} {π : Nat → Option Pin} {W : WX} {a b c e tg : Expr} {es : List Expr} {pos p p2 : Pos} {m ma mb mc : Mi Dt} {ms : Mi (List Dt)} {A A' : Addr → Prop} {F H F' H' F0 H0 : Hp} {σ : L2.St} {ρ : En} {i : Nat}
/-! ### slices -/
def TMo (T : Tx) (π : Nat → Option Pin) (W : WX) (m : Mi (Option Int)) : TO := fun σ H Q => ∃ A F ρ, Ok T π A F H σ ρ ∧ Post T π W σ A F H (fun o _ _ H' => Q o H') (m ρ)
theorem _root_.L2.PO.imp {e : Option Expr} {t t' : TO} (h : PO X e t) (f : ∀ σ H Q, t' σ H Q → t σ H Q) : PO X e t' := ⟨fun pins s σ H Q I q => h.run pins s σ H Q I (f σ H Q q)⟩
def mPart (m : Mi Dt) : Mi (Option Int) := mBind m fun d => match d with
  | .int i => mPure (some i)
  | _ => mBad
theorem do_none : PO X none (TMo T π W (mPure none)) := po_none.imp fun σ H Q ⟨A, F, ρ, k, p⟩ => p.pure k
theorem do_some (h : PE X e (TMe T π W m)) : PO X (some e) (TMo T π W (mPart m)) := (po_some h).imp fun σ H Q ⟨A, F, ρ, k, p⟩ => ⟨A, F, ρ, k, p.bind.imp fun d ρ1 F1 H1 k1 r1 p1 v rv => by
  cases d with
  | int i => exact ⟨i, rv.int_inv, p1.pure k1⟩
  | _ => exact p1.elim⟩
def cutD {α : Type} (xs : List α) (lo hi : Option Int) : List α := (xs.drop (HT.sIx xs.length 0 lo)).take (HT.sIx xs.length xs.length hi - HT.sIx xs.length 0 lo)
theorem cut_v (xs : List V) (lo hi : Option Int) : cutV xs lo hi = cutD xs lo hi := rfl
theorem cut_map {α β : Type} (f : α → β) (xs : List α) (lo hi : Option Int) : cutD (xs.map f) lo hi = (cutD xs lo hi).map f := by
  unfold cutD; rw [List.length_map, List.map_take, List.map_drop]
theorem Reps.cut {vs : List V} {ds : List Dt} (r : Reps T F vs ds) (lo hi : Option Int) : Reps T F (cutV vs lo hi) (cutD ds lo hi) := by
  unfold cutV cutD; rw [r.length]; exact (r.drop _).take _
def fSl : Dt → Option Int → Option Int → Option Dt
  | .lst ds, lo, hi => some (.lst (cutD ds lo hi))
  | .scr ns, lo, hi => some (.lst ((cutD ns lo hi).map .int))
  | .tup ds, lo, hi => some (.tup (cutD ds lo hi))
  | .str z, lo, hi => if z.length ≤ sizeLine then some (.str (cutS z lo hi)) else none
  | _, _, _ => none
def rSlAll (K : PySem.W.Frag) : V → Option Int → Option Int → Hp → VK → Prop := fun x lo hi H Q => rSlL K x lo hi H Q ∨ (rSlA K x lo hi H Q ∨ rSlS x lo hi H Q)
theorem sl_all : SlR X (rSlAll X.K) := SlR.or sl_list (SlR.or sl_tupA sl_str)
/-- a slice, kept -/
theorem sl_go {v : V} {d z : Dt} {lo hi : Option Int} {Q : VK} (k : Ok T π A F H σ ρ) (rv : RepS T F H v d) (ef : fSl d lo hi = some z) (q : ∀ F' H' u, Ok T π A F' H' σ ρ → Fr A F H F' H' → Rep T F' u z → Q u H') : rSlAll T.K v lo hi H Q := by
  have new : ∀ (o : HO) (p : Addr) (z : Dt), H p = none → (∀ F', Le F F' → F' p = some o → Rep T F' (.ref p) z) → (∀ F' H' u, Ok T π A F' H' σ ρ → Fr A F H F' H' → Rep T F' u z → Q u H') → Q (.ref p) (upd H p o) := fun o p z hp hz q =>
    q (upd F p o) (upd H p o) _ (k.new hp) (.new k.le hp) (hz _ (le_new (f_none k.le hp)) upd_same)
  cases d with
  | lst ds =>
    cases ef
    obtain ⟨a, vs, e, h, r⟩ := rv.lst_inv k.le
    exact .inl ⟨a, vs, e, SqL.of h, fun p hp => new _ p _ hp (fun F' l h => .lst h ((r.cut lo hi).mono l)) q⟩
  | scr ns =>
    cases ef
    obtain ⟨a, e, h⟩ := rv.scr_inv k.le
    refine .inl ⟨a, _, e, h, fun p hp => new _ p _ hp (fun F' l h => .lst h ?_) q⟩
    rw [cut_v, cut_map]
    exact ints_reps _
  | tup ds =>
    cases ef
    obtain ⟨a, vs, e, h, r⟩ := (rv.flat trivial).tup_inv
    refine .inr (.inl ⟨a, vs, e, sqt_mono k.le h, fun hw => ?_, fun hw p hp => ?_⟩)
    · have ee : cutD ds lo hi = ds := by
        unfold cutD
        rw [← r.length, hw.1, hw.2, List.drop_zero, Nat.sub_zero, r.length, List.take_length]
      rw [ee] at q
      subst e
      exact q F H _ k .refl (rv.flat trivial)
    · exact new _ p _ hp (fun F' l h => .tup h ((r.cut lo hi).mono l)) q
  | str x =>
    unfold fSl at ef
    dsimp only at ef
    split at ef
    · rename_i hz
      cases ef
      exact .inr (.inr ⟨x, rv.str_inv, hz, q F H _ k .refl (.str _)⟩)
    · cases ef
  | _ => cases ef
def mSl (m : Mi Dt) (ml mh : Mi (Option Int)) : Mi Dt := mBind m fun x => mBind ml fun lo => mBind mh fun hi => mOpt (fSl x lo hi)
theorem de_slE {lo hi : Option Expr} {ml mh : Mi (Option Int)} (hK : X.K = T.K) (h : PE X (.Subscript e (.Slice lo hi none p2) pos) (tSl (rSlAll X.K) (TMe T π W m) (TMo T π W ml) (TMo T π W mh))) : PE X (.Subscript e (.Slice lo hi none p2) pos) (TMe T π W (mSl m ml mh)) :=
  h.imp fun σ H Q ⟨A, F, ρ, k, p⟩ => ⟨A, F, ρ, k, p.bind.imp fun x ρ1 F1 H1 k1 r1 p1 v rv => ⟨A, F1, ρ1, k1, p1.bind.imp fun lo ρ2 F2 H2 k2 r2 p2 => ⟨A, F2, ρ2, k2, p2.bind.imp fun hi ρ3 F3 H3 k3 r3 p3 => by
    obtain ⟨z, ez, p4⟩ := p3.opt
    rw [hK]
    exact sl_go k3 ((rv.mono r2.f).mono r3.f).s ez fun F' H' u k' r' ru => p4 F' H' k' r' u ru⟩⟩⟩
/-- a slice of a list: a new list -/
def fSlL : Dt → Option Int → Option Int → Option Dt
  | .lst ds, lo, hi => some (.lst (cutD ds lo hi))
  | .scr ns, lo, hi => some (.lst ((cutD ns lo hi).map .int))
  | _, _, _ => none
def mSlN (m : Mi Dt) (ml mh : Mi (Option Int)) : Mi Dt := mBind m fun x => mBind ml fun lo => mBind mh fun hi => mOpt (fSlL x lo hi)
theorem dn_slE {lo hi : Option Expr} {ml mh : Mi (Option Int)} (hK : X.K = T.K) (h : PE X (.Subscript e (.Slice lo hi none p2) pos) (tSl (rSlAll X.K) (TMe T π W m) (TMo T π W ml) (TMo T π W mh))) : PE X (.Subscript e (.Slice lo hi none p2) pos) (TMn T π W (mSlN m ml mh)) :=
  h.imp fun σ H Q ⟨A, F, ρ, k, p⟩ => ⟨A, F, ρ, k, p.bind.imp fun x ρ1 F1 H1 k1 r1 p1 v rv => ⟨A, F1, ρ1, k1, p1.bind.imp fun lo ρ2 F2 H2 k2 r2 p2 => ⟨A, F2, ρ2, k2, p2.bind.imp fun hi ρ3 F3 H3 k3 r3 p3 => by
    obtain ⟨z, ez, p4⟩ := p3.opt
    rw [hK]
    have new : ∀ ws ds, Reps T F3 ws ds → z = .lst ds → ∀ p, H3 p = none → Q (.ref p) (upd H3 p (.lst ws)) := fun ws ds r e p hp => by
      subst e
      exact p4 F3 _ (k3.newO hp) (.newO hp) p (f_none k3.le hp) (k3.fresh_new hp) (r1.t p (r2.t p (r3.t p hp))) ⟨ws, upd_same, r⟩ (fun _ z => nomatch z)
    have rv3 := ((rv.mono r2.f).mono r3.f)
    cases x with
    | lst ds =>
      cases ez
      obtain ⟨a, vs, e, h, r⟩ := rv3.s.lst_inv k3.le
      exact .inl ⟨a, vs, e, SqL.of h, new _ _ (r.cut lo hi) rfl⟩
    | scr ns =>
      cases ez
      obtain ⟨a, e, h⟩ := rv3.s.scr_inv k3.le
      refine .inl ⟨a, _, e, h, new _ _ ?_ rfl⟩
      rw [cut_v, cut_map]
      exact ints_reps _
    | _ => cases ez⟩⟩⟩
/-! ### list(range(..)) -/
def rgD (a b : Int) : List Dt := (List.range (b - a).toNat).map fun i => Dt.int (a + (i : Nat))
theorem rg_reps (a b : Int) : Reps T F (rgV a b) (rgD a b) := by
  unfold rgV rgD
  generalize List.range (b - a).toNat = l
  induction l with
  | nil => exact .nil
  | cons x l ih => exact .cons (.int _) ih
instance (a b : Int) : Decidable (RgOk a b) := by unfold RgOk; exact inferInstance
def mLstRg (m : Mi Dt) : Mi Dt := mBind m fun d => match d with
  | .int n => if RgOk 0 n then mPure (.lst (rgD 0 n)) else mBad
  | _ => mBad
theorem dn_listRg (h : PE X e (tLstRg (tRg1 (TMe T π W m)))) : PE X e (TMn T π W (mLstRg m)) := h.imp fun σ H Q ⟨A, F, ρ, k, p⟩ => ⟨A, F, ρ, k, p.bind.imp fun d ρ1 F1 H1 k1 r1 p1 v rv => by
  cases d with
  | int n =>
    dsimp only at p1
    split at p1
    · rename_i hn
      exact ⟨n, rv.int_inv, hn, fun q hq => p1 F1 _ (k1.newO hq) (.newO hq) q (f_none k1.le hq) (k1.fresh_new hq) (r1.t q hq) ⟨_, upd_same, rg_reps _ _⟩ (fun _ z => nomatch z)⟩
    · exact p1.elim
  | _ => exact p1.elim⟩
/-! ### range(a, b, c) walked -/
/-! ### a < b < c as a value -/
/-! ### three names at once -/
theorem Gk.length {ks : List Bool} {vs : List V} {ds : List Dt} {as : List Addr} (g : Gk T F H A ks vs ds as) : vs.length = ks.length := by
  induction g with
  | nil => rfl
  | val _ _ ih => rw [List.length_cons, List.length_cons, ih]
  | own _ _ _ _ _ _ ih => rw [List.length_cons, List.length_cons, ih]
/-- the same by a tuple that is made and taken apart -/
def gNames : List Nat → TGs
  | [] => gNil
  | i :: is => gCons (gName i) (gNames is)
theorem names_go : ∀ {is : List Nat} {vs : List V} {σ : L2.St} {H : Hp} {Q : L2.St → Hp → Prop}, vs.length = is.length → Q (setAll is vs σ) H → gNames is vs σ H Q
  | [], [], _, _, _, _, q => ⟨rfl, q⟩
  | [], _ :: _, _, _, _, h, _ => by simp at h
  | _ :: _, [], _, _, _, h, _ => by simp at h
  | i :: is, v :: vs, σ, H, Q, h, q => ⟨v, vs, rfl, names_go (is := is) (by simpa using h) q⟩
theorem Gk.mono {ks : List Bool} {vs : List V} {ds : List Dt} {as : List Addr} (g : Gk T F H A ks vs ds as) (hh : ∀ a o, H a = some o → H' a = some o) : Gk T F H' A ks vs ds as := by
  induction g with
  | nil => exact .nil
  | val r _ ih => exact .val r ih
  | own h1 h2 h3 h4 h5 _ ih =>
    have sm := h3.same fun o q => hh _ o q
    rw [← sm] at h5 ⊢
    exact .own h1 h2 (h3.mono (le_refl _) fun x _ o q => hh x o q) h4 h5 ih
theorem ds_parT {st : Stmt} {is : List Nat} {ks : List Bool} {n : Nat} (hK : X.K = T.K) (h : PS X st (tAsg (tTup (TMk T π W ks ms)) (gTup X.K n (gNames is)))) (hi : is.length = n) (hk : ks.length = n) (hn : n ≤ 1000) : PS X st (TMs T π W (sPars is ks ms)) :=
  h.imp fun D σ H ⟨A, F0, H0, F, ρ, k, p⟩ => ⟨IsOwn H σ ρ, F, ρ, k.ok.tight, fun a w => k.ok.there w, ((p.bind k).weak fun a w => k.ok.ownA w).imp fun ds ρ1 F1 H1 k1' r1 ⟨k1, p1⟩ vs as g ha => by
    have hv : vs.length = n := by rw [g.length, hk]
    refine ⟨by rw [hv]; exact Nat.le_trans hn (by decide), fun q hq => ⟨q, vs, rfl, SqT.of upd_same, hv, names_go (by rw [hv, hi]) ?_⟩⟩
    cases e : putSls is ks ds ρ1 with
    | none => rw [e] at p1; exact p1.elim
    | some ρ' =>
      rw [e] at p1
      have k2 := k1.ok.newO (o := .tup vs) hq
      refine p1 _ F1 _ ⟨ok_puts (g.mono (le_new hq)) k2 (fun a z => ⟨fun w => ?_, .inr (k.fr.t a (ha a z))⟩) e, k1.fr.f, fun a o n e => le_new hq a o (k1.fr.h a o n e), k1.fr.n, fun a e => k1.fr.t a (up_none e)⟩
      exact k.ok.there ((k1'.newO hq).ownA w) (ha a z)⟩
/-! ### xs * n -/
def mRep (ma mb : Mi Dt) : Mi Dt := mBind ma fun x => mBind mb fun y => match x, y with
  | .lst ds, .int n => if -(2 ^ 63) ≤ n ∧ n < 2 ^ 63 ∧ ds.length * n.toNat ≤ sizeLine then mPure (.lst (List.replicate n.toNat ds).flatten) else mBad
  | _, _ => mBad
theorem Reps.flat {vs : List V} {ds : List Dt} (r : Reps T F vs ds) : ∀ n, Reps T F (List.replicate n vs).flatten (List.replicate n ds).flatten
  | 0 => .nil
  | n + 1 => by
    rw [List.replicate_succ, List.replicate_succ, List.flatten_cons, List.flatten_cons]
    exact r.append (Reps.flat r n)
theorem dn_rep (ha : PE X a (TMe T π W ma)) (hb : PE X b (TMp T π W mb)) : PE X (.BinOp a .Mult b pos) (TMn T π W (mRep ma mb)) := (pe_op op_rep ha hb).imp fun σ H Q ⟨A, F, ρ, k, p⟩ =>
  ⟨A, F, ρ, k, p.bind.imp fun x ρ1 F1 H1 k1 r1 p1 v rv => ⟨A, F1, ρ1, k1, p1.bind.imp fun y ρ2 F2 H2 k2 r2 p2 w rw => by
    cases x with
    | lst ds =>
      cases y with
      | int n =>
        dsimp only at p2
        split at p2
        · rename_i hn
          obtain ⟨a, vs, e, h, r⟩ := (rv.mono r2.f).s.lst_inv k2.le
          exact ⟨a, n, vs, e, rw.int_inv, h, hn.1, hn.2.1, by rw [r.length]; exact hn.2.2, fun q hq => p2 F2 _ (k2.newO hq) (.newO hq) q (f_none k2.le hq) (k2.fresh_new hq) (r1.t q (r2.t q hq)) ⟨_, upd_same, r.flat _⟩ (fun _ z => nomatch z)⟩
        · exact p2.elim
      | _ => exact p2.elim
    | _ => exact p2.elim⟩⟩
end
end Dl
namespace Dl
open PySem PySem.Spec PyProof.Rows L2
section
variable {X : Cx} {T : Tx} {π : Nat → Option Pin} {W : WX} {a b c e tg : Expr} {es : List Expr} {pos p p2 : Pos} {m ma mb mc : Mi Dt} {ms : Mi (List Dt)} {A A' : Addr → Prop} {F H F' H' F0 H0 : Hp} {σ : L2.St} {ρ : En} {i : Nat}
/-! ### repr of a flat thing -/
/-! ### a new thing, one of two -/
/-! ### xs[::-1] -/
theorem Reps.reverse {vs : List V} {ds : List Dt} : Reps T F vs ds → Reps T F vs.reverse ds.reverse := fun r => by
  induction vs generalizing ds with
  | nil => cases r; exact .nil
  | cons v vs ih =>
    cases r with
    | cons h r => rw [List.reverse_cons, List.reverse_cons]; exact (ih r).append (.cons h .nil)
end
end Dl
namespace Dl
open PySem PySem.Spec PyProof.Rows L2
def ix_budget : Nat → Option Nat
  | 1 => some 2
  | _ => none
def ix_days : Nat → Option Nat
  | 1 => some 1
  | 3 => some 2
  | _ => none
def ix_due : Nat → Option Nat
  | 1 => some 5
  | 4 => some 1
  | _ => none
def ix_is_possible : Nat → Option Nat
  | 5 => some 2
  | _ => none
def ix_looks : Nat → Option Nat
  | 1 => some 3
  | _ => none
def ix_past : Nat → Option Nat
  | 5 => some 0
  | 7 => some 1
  | _ => none
def ix_places : Nat → Option Nat
  | 0 => some 0
  | _ => none
def ix_rota : Nat → Option Nat
  | 1 => some 0
  | 2 => some 0
  | _ => none
def ix_rows : Nat → Option Nat
  | 0 => some 1
  | _ => none
def ix_season : Nat → Option Nat
  | 5 => some 1
  | _ => none
def ix_sure : Nat → Option Nat
  | 5 => some 3
  | _ => none
def ix_text : Nat → Option Nat
  | 0 => some 2
  | _ => none
def ix_wheels : Nat → Option Nat
  | 1 => some 4
  | _ => none
-- k02
def b_is_integer : En → So :=
  (sRet (mAndV (m1 (fIsi .int) (mPeek 0)) (mNotV (m1 (fIsi .bool) (mPeek 0)))))
def m_is_integer : List Dt → Fo := runF 1 false false b_is_integer
-- k02
def b_is_from : En → So :=
  (sRet (mAndV (mCall 1 m_is_integer (mCons (mVar 0) (mPure []))) (m2 fGe (mVar 0) (mPeek 1))))
def m_is_from : List Dt → Fo := runF 2 false false b_is_from
-- k02
def b_is_below : En → So :=
  (sRet (mAndV (mCall 2 m_is_from (mCons (mVar 0) (mCons (mPure (.int 0)) (mPure [])))) (m2 fLt (mVar 0) (mPeek 1))))
def m_is_below : List Dt → Fo := runF 2 false false b_is_below
-- k02
def b_is_sequence : En → So :=
  (sRet (m1 (fIsi2 .list .tuple) (mPeek 0)))
def m_is_sequence : List Dt → Fo := runF 1 false false b_is_sequence
-- k02
def b_is_unlike : En → So :=
  (sSeq (sIf (mOr (mNot (mB (mCall 1 m_is_sequence (mCons (mVar 0) (mPure []))))) (mNot (mB (m1 fAll (mLc (mSeqI (mVar 0)) (gV 2) (mPure true) (mCall 2 m_is_below (mCons (mVar 2) (mCons (mVar 1) (mPure [])))) [2]))))) (sRet (mPure (.bl false))) (fun ρ => .nx ρ))
  (sRet (m2 fEq (m1 fLen (mDc (mSeqI (mVar 0)) (gV 2) (mPure true) (mVar 2) (mPure (.bl true)) [2])) (m1 fLen (mPeek 0)))))
def m_is_unlike : List Dt → Fo := runF 3 false false b_is_unlike
-- k02
def b_is_row : En → So :=
  (sSeq (sIf (mOr (mNot (mB (m1 (fIsi .tuple) (mPeek 0)))) (mOr (mB (m2 fNe (m1 fLen (mPeek 0)) (mPure (.int 2)))) (mNot (mB (mCall 2 m_is_unlike (mCons (hasSl 0 (mIxV 0 (mPure (.int 0)))) (mCons (mVar 1) (mPure [])))))))) (sRet (mPure (.bl false))) (fun ρ => .nx ρ))
  (sRet (mAndV (mCall 2 m_is_unlike (mCons (hasSl 0 (mIxV 0 (mPure (.int 1)))) (mCons (mVar 1) (mPure [])))) (m2 fEq (m1 fLen (hasSl 0 (mIxV 0 (mPure (.int 1))))) (mPeek 1)))))
def m_is_row : List Dt → Fo := runF 2 false false b_is_row
-- k02
def b_text_of_rota : En → So :=
  (sSeq (sSet 2 (mJoined [(mPure (.str "places ")), (m1 fFmt (mVar 0))]))
  (sSeq (sFor (mSeqI (mVar 1)) (gT (gsC (gV 3) (gsC (gV 4) gsN)) 2) (sSeq (sSet 5 (mIfE (mB (m2 fGt (m1 fLen (mPeek 3)) (mPure (.int 0)))) (mJoin (mPure (.str " ")) (mLc (mSeqI (mVar 3)) (gV 7) (mPure true) (m1 fStr (mPeek 7)) [7])) (mPure (.str "none"))))
  (sSeq (sSet 6 (mJoin (mPure (.str " ")) (mLc (mSeqI (mVar 4)) (gV 7) (mPure true) (m1 fStr (mPeek 7)) [7])))
  (sSet 2 (mJoined [(m1 fFmt (mVar 2)), (mPure (.str "\nturn ")), (m1 fFmt (mVar 5)), (mPure (.str " move ")), (m1 fFmt (mVar 6))])))))
  (sRet (mVar 2))))
def m_text_of_rota : List Dt → Fo := runF 8 false false b_text_of_rota
-- k02
def b_Rota_init : En → So :=
  (sSeq (sIf (mNot (mB (mCall 2 m_is_from (mCons (mVar 1) (mCons (mPure (.int 1)) (mPure [])))))) (fun _ => .bad) (fun ρ => .nx ρ))
  (sSeq (sIf (mOr (mNot (mB (mCall 1 m_is_sequence (mCons (mVar 2) (mPure []))))) (mOr (mB (m2 fEq (m1 fLen (mPeek 2)) (mPure (.int 0)))) (mNot (mB (m1 fAll (mLc (mSeqI (mVar 2)) (gV 3) (mPure true) (mCall 2 m_is_row (mCons (mVar 3) (mCons (mVar 1) (mPure [])))) [3])))))) (fun _ => .bad) (fun ρ => .nx ρ))
  (sSeq (sFput 0 ix_places (mVar 1))
  (sSeq (sFput 0 ix_rows (m1 fTuple (mLc (mSeqI (mVar 2)) (gT (gsC (gV 4) (gsC (gV 5) gsN)) 2) (mPure true) (mTup (mCons (m1 fTuple (m1N fSorted (mLc (mSeqI (mVar 4)) (gV 6) (mPure true) (m1 fInt (mPeek 6)) [6]))) (mCons (m1 fTuple (mPeek 5)) (mPure [])))) [4, 5])))
  (sFput 0 ix_text (mCall 2 m_text_of_rota (mCons (m1 (fAttr ix_places) (mPeek 0)) (mCons (m1 (fAttr ix_rows) (mPeek 0)) (mPure [])))))))))
def m_Rota_init : List Dt → Fo := runF 7 true false b_Rota_init
-- k06
def b_need_wheel : En → So :=
  (sIf (mNot (mB (mCall 2 m_is_below (mCons (mVar 1) (mCons (m1 (fAttr ix_places) (mPeek 0)) (mPure [])))))) (fun _ => .bad) (fun ρ => .nx ρ))
def m_need_wheel : List Dt → Fo := runF 2 false false b_need_wheel
-- k06
def b_way : En → So :=
  (sSeq (sPars [2, 3] [true, false] (mCons (mLst (mPure [])) (mCons (mVar 1) (mPure []))))
  (sSeq (sFor (mRng1 (mCons (m1 (fAttr ix_places) (mPeek 0)) (mPure []))) (gV 4) (sSeq (sFor (mSeqI (m1 (fAttr ix_rows) (mPeek 0))) (gT (gsC (gV 5) (gsC (gV 6) gsN)) 2) (sSeq (sDrop (ownLst 2 (mAppend 2 (mVar 3))))
  (sSet 3 (hasSl 6 (mIxV 6 (mVar 3))))))
  (sIf (mB (m2 fEq (mVar 3) (mPeek 1))) (sRet (m1 fTuple (mPeek 2))) (fun ρ => .nx ρ))))
  (sRet (m1 fTuple (mPeek 2)))))
def m_way : List Dt → Fo := runF 7 false false b_way
-- k06
-- k06
-- k06
def b_round_days : En → So :=
  (sSeq (sDrop (mCall 2 m_need_wheel (mCons (mVar 0) (mCons (mVar 1) (mPure [])))))
  (sRet (m1 fLen (mCall 2 m_way (mCons (mVar 0) (mCons (mVar 1) (mPure [])))))))
def m_round_days : List Dt → Fo := runF 2 false false b_round_days
-- k08
def b_due_in_round : En → So :=
  (sSeq (sSet 2 (m1 fLen (m1 (fAttr ix_rows) (mPeek 0))))
  (sRet (m1 fTuple (mLc (mEnumI (mCall 2 m_way (mCons (mVar 0) (mCons (mVar 1) (mPure []))))) (gT (gsC (gV 3) (gsC (gV 4) gsN)) 2) (mB (m2 fInA (mVar 4) (m2 fIx (m2 fIx (m1 (fAttr ix_rows) (mPeek 0)) (m2 fMod (mVar 3) (mPeek 2))) (mPure (.int 0))))) (mVar 3) [3, 4]))))
def m_due_in_round : List Dt → Fo := runF 5 false false b_due_in_round
-- k08
-- k08
-- k08
-- k12
def b_is_look : En → So :=
  (sSeq (sIf (mOr (mNot (mB (m1 (fIsi .tuple) (mPeek 0)))) (mB (m2 fNe (m1 fLen (mPeek 0)) (mPure (.int 3))))) (sRet (mPure (.bl false))) (fun ρ => .nx ρ))
  (sRet (mAndV (mCall 2 m_is_below (mCons (hasSl 0 (mIxV 0 (mPure (.int 0)))) (mCons (m2 fAdd (mVar 2) (mPure (.int 1))) (mPure [])))) (mAndV (mCall 2 m_is_below (mCons (hasSl 0 (mIxV 0 (mPure (.int 1)))) (mCons (m1 (fAttr ix_places) (mPeek 1)) (mPure [])))) (mCall 2 m_is_below (mCons (hasSl 0 (mIxV 0 (mPure (.int 2)))) (mCons (mPure (.int 2)) (mPure []))))))))
def m_is_look : List Dt → Fo := runF 3 false false b_is_look
-- k12
def b_every_look : En → So :=
  (sRet (mLcN (mRng1 (mCons (m2 fAdd (mVar 1) (mPure (.int 1))) (mPure []))) (gV 2) (mPure true) (iNext (mRng1 (mCons (m1 (fAttr ix_places) (mPeek 0)) (mPure []))) (gV 3) (mPure true) (iNext (mRng1 (mCons (mPure (.int 2)) (mPure []))) (gV 4) (mPure true) (iLast (mTup (mCons (mVar 2) (mCons (mVar 3) (mCons (mVar 4) (mPure [])))))) [4]) [3, 4]) [2, 3, 4]))
def m_every_look : List Dt → Fo := runF 5 false false b_every_look
-- k12
def b_every_due : En → So :=
  (sSeq (sPars [2, 3] [true, false] (mCons (mLst (mPure [])) (mCons (mLc (mRng1 (mCons (m1 (fAttr ix_places) (mPeek 0)) (mPure []))) (gV 5) (mPure true) (mTup (mCons (mCall 2 m_due_in_round (mCons (mVar 0) (mCons (mVar 5) (mPure [])))) (mCons (mCall 2 m_round_days (mCons (mVar 0) (mCons (mVar 5) (mPure [])))) (mPure [])))) [5]) (mPure []))))
  (sSeq (sFor (mRng1 (mCons (mVar 1) (mPure []))) (gV 4) (sDrop (ownLst 2 (mExtend 2 (mLc (mEnumI (mVar 3)) (gT (gsC (gV 5) (gsC (gT (gsC (gV 6) (gsC (gV 7) gsN)) 2) gsN)) 2) (mB (m2 fInA (m2 fMod (mVar 4) (mPeek 7)) (mPeek 6))) (mTup (mCons (mVar 4) (mCons (mVar 5) (mPure [])))) [5, 6, 7])))))
  (sRet (m1 fTuple (mPeek 2)))))
def m_every_due : List Dt → Fo := runF 8 false false b_every_due
-- k12
def b_Season_init : En → So :=
  (sSeq (sIf (mNot (mB (mCall 2 m_is_from (mCons (mVar 2) (mCons (mPure (.int 1)) (mPure [])))))) (fun _ => .bad) (fun ρ => .nx ρ))
  (sSeq (sIf (mNot (mB (mCall 2 m_is_from (mCons (mVar 3) (mCons (mPure (.int 0)) (mPure [])))))) (fun _ => .bad) (fun ρ => .nx ρ))
  (sSeq (sIf (mOr (mNot (mB (mCall 1 m_is_sequence (mCons (mVar 4) (mPure []))))) (mNot (mB (m1 fAll (mLc (mSeqI (mVar 4)) (gV 5) (mPure true) (mCall 3 m_is_look (mCons (mVar 5) (mCons (mVar 1) (mCons (mVar 2) (mPure []))))) [5]))))) (fun _ => .bad) (fun ρ => .nx ρ))
  (sSeq (sFput 0 ix_rota (mVar 1))
  (sSeq (sFput 0 ix_days (mVar 2))
  (sSeq (sFput 0 ix_budget (mVar 3))
  (sSeq (sFput 0 ix_looks (m1 fTuple (mLc (mSeqI (mCall 2 m_every_look (mCons (mVar 1) (mCons (mVar 2) (mPure []))))) (gV 6) (mB (m2 fInA (mVar 6) (mPeek 4))) (mVar 6) [6])))
  (sSeq (sFput 0 ix_wheels (m1 (fAttr ix_places) (mPeek 1)))
  (sFput 0 ix_due (mCall 2 m_every_due (mCons (mVar 1) (mCons (mVar 2) (mPure [])))))))))))))
def m_Season_init : List Dt → Fo := runF 7 true false b_Season_init
-- k12
def b_Season_seen : En → So :=
  (sSeq (sIf (mNot (mB (mCall 1 m_is_sequence (mCons (mVar 1) (mPure []))))) (fun _ => .bad) (fun ρ => .nx ρ))
  (sRet (mMake 1 5 m_Season_init (mCons (m1 (fAttr ix_rota) (mPeek 0)) (mCons (m1 (fAttr ix_days) (mPeek 0)) (mCons (m1 (fAttr ix_budget) (mPeek 0)) (mCons (mLst (mStar (m1 (fAttr ix_looks) (mPeek 0)) (mStar (mPeek 1) (mPure [])))) (mPure []))))))))
def m_Season_seen : List Dt → Fo := runF 2 false false b_Season_seen
-- k12
-- k12
def b_due_days : En → So :=
  (sRet (m1 fTuple (mLc (mSeqI (m1 (fAttr ix_due) (mPeek 0))) (gT (gsC (gV 2) (gsC (gV 3) gsN)) 2) (mB (m2 fEq (mVar 3) (mPeek 1))) (mVar 2) [2, 3])))
def m_due_days : List Dt → Fo := runF 4 false false b_due_days
-- k12
-- k12
-- k12
-- k12
-- k12
-- k12
-- k12
-- k28
-- k29
-- k29
-- k35
-- k35
-- k35
-- k40
-- k40
-- k51
-- k51
-- k51
-- k51
-- k52
-- k52
-- k52
-- k52
-- k52
-- k53
-- k56
-- k56
-- k56
-- k56
-- k56
-- k56
-- k57
-- k57
-- k57
-- k57
-- k59
-- k59
-- k59
-- k60
-- k60
-- k60
-- k60
-- k60
-- k60
-- k60
-- k60
-- k63
-- k63
-- k63
-- k66
-- k66
-- k66
-- k66
-- k66
-- k66
end Dl
namespace Dl
open PySem PySem.Spec PyProof.Rows L2
-- k01
def b_law_box : En → So :=
  (sSeq (sSet 3 (m2 fAdd (m2 fAdd (m2 fMulI (mPure (.int 7727)) (mPeek 1)) (m2 fMulI (mPure (.int 104729)) (mPeek 2))) (mPure (.int 43))))
  (sSeq (sIf (mB (m2 fLt (mVar 1) (m1 fLen (mPeek 0)))) (sSet 3 (m1 fAbs (hasSl 0 (mIxV 0 (mVar 1))))) (sIf (mB (m2 fGt (m1 fLen (mPeek 0)) (mPure (.int 0)))) (sSet 3 (m2 fAdd (mVar 3) (m2 fMulI (m2 fMod (m1 fInt (m1 fAbs (hasSl 0 (mIxV 0 (m2 fMod (m1 fInt (mPeek 1)) (m1 fLen (mPeek 0))))))) (mPure (.int 2147483629))) (mPure (.int 69623))))) (fun ρ => .nx ρ)))
  (sSeq (sSet 4 (m2 fAdd (m2 fMod (m1 fInt (m2 fAdd (m2 fMulI (m2 fMod (m1 fInt (mPeek 3)) (mPure (.int 2147483629))) (mPure (.int 48271))) (m2 fMulI (mPure (.int 40692)) (m2 fAdd (mVar 1) (m2 fMulI (mPure (.int 11)) (mPeek 2)))))) (mPure (.int 2147483629))) (mPure (.int 1))))
  (sRetN (mLst (mCons (m2 fIx (mLst (mCons (mPure (.int 0)) (mCons (mVar 3) (mPure [])))) (m1 fInt (m2 fGe (mVar 3) (m2 fPow (mPure (.int 10)) (mPure (.int 18)))))) (mCons (mVar 4) (mCons (mPure (.int 0)) (mPure [])))))))))
def m_law_box : List Dt → Fo := runF 5 false true b_law_box
-- k01
def b_law_take : En → So :=
  (sSeq (sIf (mB (m2 fGt (hasSl 0 (mIxV 0 (mPure (.int 0)))) (mPure (.int 0)))) (sSeq (sSet 2 (m2 fMod (m1 fInt (hasSl 0 (mIxV 0 (mPure (.int 0))))) (mPeek 1)))
  (sSeq (sLput 0 (mPure (.int 0)) (m2 fDiv (hasSl 0 (mIxV 0 (mPure (.int 0)))) (mPeek 1)))
  (sRet (mVar 2)))) (fun ρ => .nx ρ))
  (sSeq (sLput 0 (mPure (.int 2)) (m2 fAdd (hasSl 0 (mIxV 0 (mPure (.int 2)))) (mPure (.int 1))))
  (sSeq (sSet 3 (m2 fMod (m1 fInt (m2 fMulI (m2 fAdd (hasSl 0 (mIxV 0 (mPure (.int 1)))) (m2 fMulI (mPure (.int 104729)) (hasSl 0 (mIxV 0 (mPure (.int 2)))))) (mPure (.int 69623)))) (mPure (.int 2147483647))))
  (sSeq (sLput 0 (mPure (.int 1)) (m2 fAdd (m2 fMod (m1 fInt (m2 fAdd (m2 fMulI (mVar 3) (mPure (.int 48271))) (mPure (.int 30103)))) (mPure (.int 2147483629))) (mPure (.int 1))))
  (sSeq (sIf (mB (m2 fLt (mVar 1) (m2 fPow (mPure (.int 2)) (mPure (.int 40))))) (sRet (m2 fMod (m1 fInt (m2 fDiv (m2 fAdd (m2 fMulI (mVar 3) (mPure (.int 2147483647))) (hasSl 0 (mIxV 0 (mPure (.int 1))))) (mPure (.int 8191)))) (mPeek 1))) (fun ρ => .nx ρ))
  (sSeq (sSet 4 (m2 fMulI (m2 fAdd (m2 fMulI (mVar 3) (mPure (.int 2147483647))) (hasSl 0 (mIxV 0 (mPure (.int 1))))) (m2 fPow (mPure (.int 2147483629)) (mPure (.int 3)))))
  (sRet (m2 fMod (m1 fInt (m2 fAdd (m2 fAdd (mVar 4) (m2 fMulI (m2 fPow (hasSl 0 (mIxV 0 (mPure (.int 1)))) (mPure (.int 3))) (mPure (.int 8191)))) (mPeek 3))) (mPeek 1)))))))))
def m_law_take : List Dt → Fo := runF 5 true false b_law_take
-- k01
def b_law_pick : En → So :=
  (sRet (hasSl 1 (mIxV 1 (mCallIo 2 m_law_take 0 (mCons (m1 fLen (mPeek 1)) (mPure []))))))
def m_law_pick : List Dt → Fo := runF 2 true false b_law_pick
-- k01
-- k02
-- k02
def b_law_mixed : En → So :=
  (sSeq (sPars [2, 3] [true, true] (mCons (m1N fListN (mPeek 1)) (mCons (mLst (mPure [])) (mPure []))))
  (sSeq (sFor (mRng1 (mCons (m1 fLen (mPeek 2)) (mPure []))) (gV 4) (sDrop (ownLst 3 (mAppend 3 (ownLst 2 (mPopAt 2 (mCallIo 2 m_law_take 0 (mCons (m1 fLen (mPeek 2)) (mPure [])))))))))
  (sRet (mVar 3))))
def m_law_mixed : List Dt → Fo := runF 5 true false b_law_mixed
-- k02
def b_law_rota : En → So :=
  (sSeq (sPars [3, 4] [false, true] (mCons (m2 fAdd (mPure (.int 1)) (mCallIo 2 m_law_take 0 (mCons (mVar 1) (mPure [])))) (mCons (mLst (mPure [])) (mPure []))))
  (sSeq (sFor (mRng1 (mCons (m2 fAdd (mPure (.int 1)) (mCallIo 2 m_law_take 0 (mCons (mVar 2) (mPure [])))) (mPure []))) (gV 5) (sSeq (sSet 6 (mLstRg (mVar 3)))
  (sSeq (sSet 7 (mLc (mSeqI (mVar 6)) (gV 9) (mB (m2 fLt (mCallIo 2 m_law_take 0 (mCons (mPure (.int 5)) (mPure []))) (mPure (.int 2)))) (mVar 9) [9]))
  (sSeq (sSet 8 (mIfE (mB (m2 fGt (mCallIo 2 m_law_take 0 (mCons (mPure (.int 3)) (mPure []))) (mPure (.int 0)))) (mCallIo 2 m_law_mixed 0 (mCons (mVar 6) (mPure []))) (mVar 6)))
  (sDrop (ownLst 4 (mAppend 4 (mTup (mCons (mCallIo 2 m_law_mixed 0 (mCons (mVar 7) (mPure []))) (mCons (mVar 8) (mPure [])))))))))))
  (sRet (mTup (mCons (mVar 3) (mCons (mVar 4) (mPure [])))))))
def m_law_rota : List Dt → Fo := runF 10 true false b_law_rota
-- k02
def b_law_made : En → So :=
  (sRet (mMake 0 3 m_Rota_init (mCons (hasSl 0 (mIxV 0 (mPure (.int 0)))) (mCons (mLc (mSeqI (hasSl 0 (mIxV 0 (mPure (.int 1))))) (gT (gsC (gV 1) (gsC (gV 2) gsN)) 2) (mPure true) (mTup (mCons (m1 fTuple (mPeek 1)) (mCons (m1 fTuple (mPeek 2)) (mPure [])))) [1, 2]) (mPure [])))))
def m_law_made : List Dt → Fo := runF 3 false false b_law_made
-- k02
-- k06
def b_law_days : En → So :=
  (sSeq (sPars [2, 3, 4] [false, true, true] (mCons (mLstRg (hasSl 0 (mIxV 0 (mPure (.int 0))))) (mCons (mLst (mPure [])) (mCons (mLst (mPure [])) (mPure [])))))
  (sSeq (sFor (mRng1 (mCons (mVar 1) (mPure []))) (gV 5) (sSeq (sAsg (m2 fIx (hasSl 0 (mIxV 0 (mPure (.int 1)))) (m2 fMod (mVar 5) (m1 fLen (hasSl 0 (mIxV 0 (mPure (.int 1))))))) (gT (gsC (gV 6) (gsC (gV 7) gsN)) 2))
  (sSeq (sDrop (ownLst 3 (mAppend 3 (mVar 2))))
  (sSeq (sDrop (ownLst 4 (mExtend 4 (mLc (mRng1 (mCons (hasSl 0 (mIxV 0 (mPure (.int 0)))) (mPure []))) (gV 8) (mB (m2 fInA (hasSl 2 (mIxV 2 (mVar 8))) (mPeek 6))) (mTup (mCons (mVar 5) (mCons (mVar 8) (mPure [])))) [8]))))
  (sSet 2 (mLc (mSeqI (mVar 2)) (gV 9) (mPure true) (hasSl 7 (mIxV 7 (mVar 9))) [9]))))))
  (sRet (mTup (mCons (m2 fAdd (mVar 3) (mLst (mCons (mVar 2) (mPure [])))) (mCons (mVar 4) (mPure [])))))))
def m_law_days : List Dt → Fo := runF 10 false false b_law_days
-- k15
def b_law_sides : En → So :=
  (sSeq (sSetN 4 (mRep (mLst (mCons (mPure (.int 0)) (mPure []))) (mPeek 0)))
  (sSeq (sFor (mSeqI (mVar 1)) (gT (gsC (gV 5) (gsC (gV 6) gsN)) 2) (sIf (mAnd (mB (m2 fLt (mVar 5) (mPeek 3))) (mB (m2 fNotInA (mTup (mCons (mVar 5) (mCons (mVar 6) (mPure [])))) (mPeek 2)))) (sLput 4 (mVar 6) (m2 fSub (mPure (.int 1)) (hasSl 4 (mIxV 4 (mVar 6))))) (fun ρ => .nx ρ)))
  (sRet (mVar 4))))
def m_law_sides : List Dt → Fo := runF 7 false false b_law_sides
-- k15
def b_law_looks : En → So :=
  (sSeq (sSetN 5 (mLst (mPure [])))
  (sSeq (sFor (mRng1 (mCons (mCallIo 2 m_law_take 0 (mCons (mPure (.int 5)) (mPure []))) (mPure []))) (gV 6) (sSeq (sPars [7, 8] [false, false] (mCons (mCallIo 2 m_law_take 0 (mCons (m2 fAdd (mVar 2) (mPure (.int 1))) (mPure []))) (mCons (mCallIo 2 m_law_take 0 (mCons (mVar 1) (mPure []))) (mPure []))))
  (sSeq (sSet 9 (m2 fIx (mCall 4 m_law_sides (mCons (mVar 1) (mCons (mVar 3) (mCons (mVar 4) (mCons (mVar 7) (mPure [])))))) (mPeek 8)))
  (sDrop (ownLst 5 (mAppend 5 (mTup (mCons (mVar 7) (mCons (mVar 8) (mCons (mIfE (mB (m2 fGt (mCallIo 2 m_law_take 0 (mCons (mPure (.int 9)) (mPure []))) (mPure (.int 0)))) (mVar 9) (m2 fSub (mPure (.int 1)) (mPeek 9))) (mPure [])))))))))))
  (sRet (mVar 5))))
def m_law_looks : List Dt → Fo := runF 10 true false b_law_looks
-- k18
def b_law_missed : En → So :=
  (sRet (mSl (mCallIo 2 m_law_mixed 0 (mCons (mVar 1) (mPure []))) (mPure none) (mPart (m2 fMin2 (m1 fInt (m1 fLen (mPeek 1))) (m1 fInt (mCallIo 2 m_law_take 0 (mCons (m2 fAdd (mVar 2) (mPure (.int 1))) (mPure []))))))))
def m_law_missed : List Dt → Fo := runF 3 true false b_law_missed
-- k67
-- k67
-- k67
def b_law_season : En → So :=
  (sSeq (sSet 2 (mCallIo 3 m_law_rota 0 (mCons (mPure (.int 3)) (mCons (mPure (.int 4)) (mPure [])))))
  (sSeq (sSet 3 (m2 fAdd (mPure (.int 1)) (mCallIo 2 m_law_take 0 (mCons (mPure (.int 9)) (mPure [])))))
  (sSeq (sSet 4 (m2 fIx (mCall 2 m_law_days (mCons (mVar 2) (mCons (mVar 3) (mPure [])))) (mPure (.int 1))))
  (sSeq (sWhile 1000 (mB (m2 fGt (m1 fLen (mPeek 4)) (mPure (.int 10)))) (sSeq (sSet 3 (m2 fSub (mVar 3) (mPure (.int 1))))
  (sSet 4 (m2 fIx (mCall 2 m_law_days (mCons (mVar 2) (mCons (mVar 3) (mPure [])))) (mPure (.int 1))))))
  (sSeq (sSet 5 (mCallIo 3 m_law_missed 0 (mCons (mVar 4) (mCons (mVar 1) (mPure [])))))
  (sSeq (sSet 6 (mCallIo 5 m_law_looks 0 (mCons (hasSl 2 (mIxV 2 (mPure (.int 0)))) (mCons (mVar 3) (mCons (mVar 4) (mCons (mVar 5) (mPure [])))))))
  (sRet (mTup (mCons (mVar 2) (mCons (mVar 3) (mCons (mCallIo 2 m_law_take 0 (mCons (m2 fAdd (mVar 1) (mPure (.int 2))) (mPure []))) (mCons (mVar 6) (mCons (mVar 4) (mPure []))))))))))))))
def m_law_season : List Dt → Fo := runF 7 true false b_law_season
-- k67
-- k67
def b_law_of : En → So :=
  (sRet (mMake 1 5 m_Season_init (mCons (mCall 1 m_law_made (mCons (hasSl 0 (mIxV 0 (mPure (.int 0)))) (mPure []))) (mCons (hasSl 0 (mIxV 0 (mPure (.int 1)))) (mCons (hasSl 0 (mIxV 0 (mPure (.int 2)))) (mCons (hasSl 0 (mIxV 0 (mPure (.int 3)))) (mPure [])))))))
def m_law_of : List Dt → Fo := runF 1 false false b_law_of
end Dl
namespace Dl
open PySem PySem.Spec PyProof.Rows L2
section
variable {X : Cx} {T : Tx} {π : Nat → Option Pin} {W : WX} {a b c e tg : Expr} {es : List Expr} {pos p p2 : Pos} {m ma mb mc : Mi Dt} {ms : Mi (List Dt)} {A A' : Addr → Prop} {F H F' H' F0 H0 : Hp} {σ : L2.St} {ρ : En} {i : Nat}
/-! ### specials of own classes -/
abbrev noX : XK := fun _ _ _ => False
/-- a def that raises nothing, called somewhere below -/
theorem run_sub {n : Nat} {f : Addr} {fd : FuncData} {ps : List Str} {sp : Sp} {A1 : Around} {pins : List (Addr × Obj)} {s : Shared} {Q : VK} {us : List Value} {vs : List V} (G : FnOk X.prog X.w X.K X.mg X.base (L2.CX X.prog X.w) n f fd ps sp) (hb : Binds X.K fd ps []) (sb : Sub X n A1)
    (I : Inv X pins σ H s) (r : Vals vs us) (h : sp vs H Q noX) : wpAny (model X.prog X.w) A1 (call (.ref f) us) (EP X pins σ Q) X.xe s := by
  have hl : us.length = ps.length := by rw [← r.length]; exact G.len _ _ _ _ h
  have b := hb s us I.kIn (by rw [List.append_nil]; exact hl)
  rw [List.append_nil] at b
  have e0 : Env0 X.prog X.w X.K X.mg X.base A1 X.stack s H := by
    have e := I.env0
    exact ⟨by rw [sb.fr]; exact e.frames, e.mod, e.bs, e.bsz, e.funs, e.frf, e.hok, e.bare⟩
  refine wpAny_call (codeAny_mono (G.run A1 X.stack s H ⟨us, []⟩ us vs Q noX sb.room e0 b r h) fun r s' hq => ?_)
  cases r with
  | error e =>
    obtain ⟨_, _, _, _, _, _, _, _, _, _, _, _, z⟩ := hq
    exact z.elim
  | ok fl =>
    cases fl with
    | ret u => exact I.after hq
    | next => exact False.elim hq
    | brk => exact False.elim hq
    | cont => exact False.elim hq
def rOwn (C : Addr) (sp : Sp) (ok : V → Prop) : List V → Hp → VK → Prop := fun xs H Q => ∃ a dx fs, xs = [.ref a] ∧ H a = some (.ins C dx fs) ∧ sp [.ref a] H (fun v H' => ok v ∧ Q v H') noX
def okLen : Dt → Bool
  | .int n => decide (0 ≤ n) && decide (n < 4611686018427387904)
  | _ => false
def vLen (v : V) : Prop := ∃ n : Int, v = .int n ∧ 0 ≤ n ∧ n < 4611686018427387904
variable {n : Nat} {f C : Addr} {fd : FuncData} {ps : List Str} {sp : Sp}
theorem ins_at {pins : List (Addr × Obj)} {s : Shared} {a dx : Addr} {fs : List (Str × V)} (I : Inv X pins σ H s) (h : H a = some (.ins C dx fs)) : ∃ ox od, PySem.W.InstAt s.heap a ox C od := by
  obtain ⟨mA, J, _⟩ := ins_get I.hok h
  obtain ⟨od, J, _⟩ := J.look
  exact ⟨_, _, J⟩
theorem cr_lenO (G : FnOk X.prog X.w X.K X.mg X.base (L2.CX X.prog X.w) n f fd ps sp) (hb : Binds X.K fd ps []) (M : Meth X.K C "__len__" f) (hr : Room (n + 1) X.A) : CallR X (.builtin "len") (rOwn C sp vLen) := by
  intro pins s σ H xs us Q I r h
  obtain ⟨a, dx, fs, rfl, ha, hs⟩ := h
  obtain ⟨u, rfl, rx⟩ := vals1 r
  cases rx
  obtain ⟨ox, od, J⟩ := ins_at I ha
  obtain ⟨mm, hF⟩ := I.fr
  refine PySem.W.len_K hF I.ok.mod.kin J M.at_ M.fn (wpAny_mono (run_sub (vs := [.ref a]) G hb (Sub.in1 ⟨hr, rfl⟩) I (.cons rfl .nil) hs) (fun u s' q => ?_) fun _ _ x => x)
  obtain ⟨v, H', I', rv, ⟨k, rfl, h0, h1⟩, q⟩ := q
  obtain ⟨t, rfl⟩ := rv
  exact ⟨⟨h0, Int.lt_trans h1 (by decide)⟩, .int k, H', I'.tok _, ⟨_, rfl⟩, q⟩
theorem len_v (d : Dt) (v : V) (F : Hp) (h : okLen d = true) (r : Rep T F v d) : vLen v := by
  cases d <;> first | exact Bool.noConfusion h | skip
  unfold okLen at h
  rw [Bool.and_eq_true, decide_eq_true_iff, decide_eq_true_iff] at h
  exact ⟨_, r.int_inv, h.1, h.2⟩
end
end Dl
namespace Dl
open PySem PySem.Spec PyProof.Rows L2
/-! ### sorted() of pairs of numbers -/
def PLe (a b : Int × Int) : Prop := a.1 < b.1 ∨ (a.1 = b.1 ∧ a.2 ≤ b.2)
instance (a b : Int × Int) : Decidable (PLe a b) := by unfold PLe; infer_instance
theorem PLe.refl (a : Int × Int) : PLe a a := .inr ⟨rfl, Int.le_refl _⟩
theorem PLe.trans {a b c : Int × Int} (h : PLe a b) (k : PLe b c) : PLe a c := by unfold PLe at *; omega
end Dl
namespace Dl
open PySem PySem.Spec PyProof.Rows L2
/-! ### d.get(k, x) -/
def fDget2 : Dt → Dt → Dt → Option Dt
  | .dic t ks ds, y, z => (keyOf t y).map fun kx => (dLook (kq t) kx ks ds).getD z
  | _, _, _ => none
def isDicSl : Option (Option Sl) → Bool
  | some (some (.val (.dic _ _ _))) => true
  | some (some (.own _ (.dic _ _ _))) => true
  | _ => false
def mDget2 (i : Nat) (me mf : Mi Dt) : Mi Dt := fun ρ => if isDicSl ρ[i]? = true then mBind me (fun y => mBind mf fun z => mBind (mPeek i) fun d => mOpt (fDget2 d y z)) ρ else .bad
section
variable {X : Cx} {T : Tx} {π : Nat → Option Pin} {W : WX} {e0 : Expr} {me mf : Mi Dt} {A : Addr → Prop} {F H : Hp} {σ : L2.St} {ρ : En} {i : Nat}
theorem isD_of {t : Bool} {ks ds : List Dt} {v : V} (le : Le F H) (r : RepS T F H v (.dic t ks ds)) : ∃ a, v = .ref a ∧ IsD H a := by
  cases t with
  | false =>
    obtain ⟨a, kk, vs, e1, h1, h2, h3, h4⟩ := r.dicK_inv le
    exact ⟨a, e1, .inl ⟨_, .inl h1⟩⟩
  | true =>
    rcases r with r | ⟨a, e1, kk, vs, h1, h2, h3, h4⟩
    · cases r with
      | dicT h l r => exact ⟨_, rfl, .inr ⟨_, .inl (le _ _ h)⟩⟩
    · exact ⟨a, e1, .inr ⟨_, .inl h1⟩⟩
theorem slot_dic (k : Ok T π A F H σ ρ) (h : isDicSl ρ[i]? = true) : ∃ v t ks ds, σ[i]? = some (some v) ∧ RepS T F H v (.dic t ks ds) := by
  unfold isDicSl at h
  split at h
  · rename_i t ks ds e
    obtain ⟨v, h1, h2⟩ := k.val i _ e
    exact ⟨v, t, ks, ds, h1, h2.s⟩
  · rename_i io t ks ds e
    obtain ⟨a, h1, _, h2, _⟩ := k.own i io _ e
    exact ⟨.ref a, t, ks, ds, h1, .inr ⟨a, rfl, h2⟩⟩
  · cases h
theorem de_dget2 (h : PE X e0 (tDGet2 (tVar i) (TMe T π W me) (TMe T π W mf))) : PE X e0 (TMe T π W (mDget2 i me mf)) := h.imp fun σ H Q ⟨A, F, ρ, k, p⟩ => by
  unfold mDget2 at p
  split at p
  · rename_i hd
    obtain ⟨v, t, ks, ds, hv, rv⟩ := slot_dic k hd
    obtain ⟨a, ev, isd⟩ := isD_of k.le rv
    refine ⟨v, hv, a, ev, isd, A, F, ρ, k, p.bind.imp fun y ρ1 F1 H1 k1 r1 p1 vy ry => ⟨A, F1, ρ1, k1, p1.bind.imp fun z ρ2 F2 H2 k2 r2 p2 vz rz => ?_⟩⟩
    obtain ⟨d, v2, hv2, rv2, p3⟩ := mPeek_inv p2.bind k2
    rw [hv] at hv2
    cases hv2
    obtain ⟨r, er, p4⟩ := p3.opt
    cases d with
    | dic t2 ks2 ds2 =>
      unfold fDget2 at er
      dsimp only at er
      cases hk : keyOf t2 y with
      | none => rw [hk] at er; cases er
      | some kx =>
        rw [hk] at er
        cases er
        obtain ⟨a2, o, e2, g, g1, g2⟩ := dget_of k2.le rv2 (ry.mono r2.f) hk
        rw [ev] at e2
        cases e2
        refine ⟨o, g, ?_⟩
        dsimp only at p4
        cases o with
        | none =>
          rw [g2 rfl] at p4
          exact p4.pure k2 _ rz
        | some w =>
          obtain ⟨d, h1, h2⟩ := g1 w rfl
          rw [h1] at p4
          exact p4.pure k2 _ h2
    | _ => cases er
  · exact p.elim
end
end Dl
namespace Dl
open PySem PySem.Spec PyProof.Rows L2
/-! ### for k, v in e.items(), e a new dict -/
def tLockD (td : TE) : TE := fun σ H Q => td σ H fun x H1 => ∃ d kvs, x = .ref d ∧ H1 d = some (.dK kvs) ∧ ∀ o, Q x (upd H1 d (.frz o (.dK kvs)))
section
variable {X : Cx} {T : Tx} {π : Nat → Option Pin} {W : WX} {e : Expr} {m : Mi Dt} {td : TE} {A : Addr → Prop} {F H : Hp} {σ : L2.St} {ρ : En} {apos cpos : Pos}
theorem pe_lockD (he : PE X e td) : PE X e (tLockD td) := ⟨fun pins s σ H Q I h => thn (he.run pins s σ H _ I h) fun u s1 ⟨x, H1, I1, rx, d, kvs, ex, hd, q⟩ => by
  obtain ⟨od, I2⟩ := I1.lock hd trivial
  exact ⟨x, _, I2, rx, q od⟩⟩
def itemsK : List Dt → List Dt → List Dt
  | k :: ks, d :: ds => .tup [k, d] :: itemsK ks ds
  | _, _ => []
def mItemsN (m : Mi Dt) : Mi (List Dt) := mBind m fun d => match d with
  | .dic false ks ds => mPure (itemsK ks ds)
  | _ => mBad
theorem itemsK_get : ∀ {kk : List Key} {vs : List V} {ds : List Dt} {i : Nat} {d : Dt}, kk.length = vs.length → Reps T F vs ds → (itemsK (kk.map kD) ds)[i]? = some d → ∃ k v x, (kk.zip vs)[i]? = some (k, v) ∧ Rep T F v x ∧ d = .tup [kD k, x]
  | [], _, _, i, d, _, _, h => by simp [itemsK] at h
  | k :: kk, [], _, _, _, hl, _, _ => by cases hl
  | k :: kk, v :: vs, _, 0, d, hl, .cons r rs, h => by
    simp [itemsK] at h
    exact ⟨k, v, _, rfl, r, h.symm⟩
  | k :: kk, v :: vs, x0 :: ds0, i + 1, d, hl, .cons r rs, h => by
    have h' : (itemsK (kk.map kD) ds0)[i]? = some d := by simpa [itemsK] using h
    obtain ⟨k', v', x, h1, h2, h3⟩ := itemsK_get (by simpa using hl) rs h'
    exact ⟨k', v', x, by simpa using h1, h2, h3⟩
theorem itemsK_len : ∀ {kk : List Key} {vs : List V} {ds : List Dt}, kk.length = vs.length → Reps T F vs ds → (itemsK (kk.map kD) ds).length = (kk.zip vs).length
  | [], [], _, _, .nil => rfl
  | k :: kk, v :: vs, _, hl, .cons r rs => by
    show _ + 1 = _ + 1
    rw [itemsK_len (by simpa using hl) rs]; rfl
  | [], v :: vs, _, hl, _ => by cases hl
  | k :: kk, [], _, hl, _ => by cases hl
theorem kD_rep (k : Key) (F : Hp) : Rep T F (kV k) (kD k) := by
  cases k with
  | inl i => exact .int i
  | inr x => exact .str x
theorem wk_items {d : Addr} {o : Obj} {kk : List Key} {vs : List V} {ds : List Dt} (h : F d = some (.frz o (.dK (kk.zip vs)))) (hl : kk.length = vs.length) (r : Reps T F vs ds) : Wk T (Iti d o (kk.zip vs)) (itemsK (kk.map kD) ds) F where
  goes := fun i H hi le => ⟨le _ _ h, by rw [← itemsK_len hl r]; exact hi⟩
  stops := fun H le => ⟨le _ _ h, by rw [itemsK_len hl r]; exact Nat.le_refl _⟩
  yields := fun i H x H' dd hd le y => by
    obtain ⟨q, k, v, e1, e2, e3, e4⟩ := y
    obtain ⟨k', v', z, h1, h2, h3⟩ := itemsK_get hl r hd
    rw [e1] at h1
    cases h1
    exact .inr ⟨q, [kV k, v], [kD k, z], e3, e4, e2, .cons (kD_rep k F) (.cons h2 .nil), h3⟩
theorem di_itemsN {elts : List Expr} {kk : Nat} {tpos : Pos} (h : PE X e (TMn T π W m)) (hbase : attributeBase e "items" X.env (eval e X.env) = eval e X.env := by rfl) (hline : (apos.endLine == cpos.line) = true := by rfl) :
    PI X (.Tuple elts kk tpos) (.Call (.Attribute e "items" apos) [] [] cpos) (TMi T π W (mItemsN m)) := (pi_items (pe_lockD h) hbase hline).imp fun σ H R ⟨A, F, ρ, k, p⟩ => by
  refine ⟨A, F, ρ, k, ?_⟩
  unfold mItemsN mBind at p
  cases hm : m ρ with
  | ok d ρ1 =>
    rw [hm] at p
    dsimp only at p
    intro F1 H1 k1 r1 a hFa hna hHa ho _
    cases d with
    | dic t ks ds =>
      cases t with
      | false =>
        obtain ⟨kk, vs, h1, h2, h3, h4⟩ := ho
        subst h3
        refine ⟨a, _, rfl, h1, fun o => ⟨a, o, _, rfl, upd_same, ?_⟩⟩
        have le1 : Le F1 (upd F1 a (.frz o (.dK (kk.zip vs)))) := fun b u e => by rw [upd_ne (fun z => by rw [z, hFa] at e; cases e)]; exact e
        refine p (upd F1 a (.frz o (.dK (kk.zip vs)))) _ ?_ ?_ _ (wk_items upd_same h2 (h4.mono le1))
        · refine k1.grow le1 (fun b u e => ?_) (fun b hb => ?_) fun b u hb e => ?_
          · by_cases hb : b = a
            · subst hb; rw [upd_same] at e ⊢; exact e
            · rw [upd_ne hb] at e ⊢; exact k1.le _ _ e
          · have : b ≠ a := fun z => hna (z ▸ hb)
            rw [upd_ne this]; exact (k1.ownH hb).2.1
          · have : b ≠ a := fun z => hna (z ▸ hb)
            rw [upd_ne this]; exact e
        · refine ⟨le_trans r1.f le1, fun b u n e => ?_, fun b o n e t => ?_, fun b e => ?_⟩
          · have : b ≠ a := fun z => by rw [z, hHa] at e; cases e
            rw [upd_ne this]; exact r1.h b u n e
          · have : b ≠ a := fun z => by rw [z, hHa] at e; cases e
            rw [upd_ne this]; exact r1.n b o n e t
          · by_cases hb : b = a
            · rw [hb]; exact hHa
            · rw [upd_ne hb] at e; exact r1.t b e
      | true => exact (p : False).elim
    | _ => exact (p : False).elim
  | exc x ρ1 => rw [hm] at p; exact p
  | bad => rw [hm] at p; exact p
end
end Dl
namespace Dl
open PySem PySem.Spec PyProof.Rows L2
/-! ### return of what a slot holds alone -/
def sRetO (i : Nat) : En → So := fun ρ => match ρ[i]? with
  | some (some (.own false d)) => .rtN d (ρ.set i none)
  | _ => .bad
section
variable {X : Cx} {T : Tx} {π : Nat → Option Pin} {W : WX} {e : Expr} {m : Mi Dt} {A A' : Addr → Prop} {F H F1 H1 : Hp} {σ : L2.St} {ρ : En} {pos : Pos} {α : Type}
theorem Ok.drop (k : Ok T π A F H σ ρ) (i : Nat) : Ok T π A F H σ (ρ.set i none) := by
  have old : ∀ {j : Nat} {s : Sl}, (ρ.set i none)[j]? = some (some s) → ρ[j]? = some (some s) ∧ j ≠ i := fun {j s} h => by
    by_cases hj : i = j
    · subst hj
      rw [List.getElem?_set_self'] at h
      cases hq : ρ[i]? with
      | none => rw [hq] at h; cases h
      | some z => rw [hq] at h; cases h
    · rw [List.getElem?_set_ne hj] at h; exact ⟨h, fun z => hj z.symm⟩
  exact ⟨k.le, by rw [List.length_set]; exact k.len, fun j d h => k.val j d (old h).1, fun j io d h => k.own j io d (old h).1, fun j l io jo d e a b x h1 h2 => k.dis j l io jo d e a b x (old h1).1 (old h2).1⟩
theorem ds_retO {i : Nat} {x : Str} (h : PE X (.Name x pos) (tVar i)) {rp : Pos} : PS X (.Return (some (.Name x pos)) rp) (TMs T π W (sRetO i)) := (ps_ret h).imp fun D σ H ⟨A, F0, H0, F, ρ, k, p⟩ => by
  unfold sRetO at p
  split at p
  · rename_i d hd
    obtain ⟨a, h1, h2, h3, h4, h5⟩ := k.ok.own i false d hd
    have no : ∀ x, (x = a ∨ x ∈ inH H a d) → ¬ IsOwn H σ (ρ.set i none) x := fun x hx ⟨j, io, e, b, w1, w2, w3⟩ => by
      by_cases hj : i = j
      · subst hj
        rw [List.getElem?_set_self'] at w1
        rw [hd] at w1; cases w1
      · rw [List.getElem?_set_ne hj] at w1
        exact hj (k.ok.dis i j false io d e a b x hd w1 h1 w2 hx w3)
    exact ⟨.ref a, h1, p σ F H a ⟨k.ok.drop i, k.fr⟩ h2 (no a (.inl rfl)) h4 h3 fun x hx => ⟨(h5.2 x hx).1, no x (.inr hx), (h5.2 x hx).2⟩⟩
  · exact p.elim
theorem Post.base {P : α → En → Hp → Hp → Prop} {o : Ou α} (p : Post T π W σ A F H P o) (r : Fr A F H F1 H1) (h : ∀ a, A' a → A a) : Post T π W σ A' F1 H1 P o := by
  cases o with
  | ok a ρ' => exact fun F' H' k r' => p F' H' (k.weak h) (r.trans (r'.weak h))
  | exc x ρ' => exact fun F' H' c d k r' => p F' H' c d (k.weak h) (r.trans (r'.weak h))
  | bad => exact p
end
/-! ### {k: v}, the key a tuple -/
/-! ### sum of a tuple of ints -/
end Dl
namespace PySem
end PySem
namespace PySem
end PySem
namespace Dl
open PySem PySem.Spec PyProof.Rows L2
/-! ### pairs of small numbers have unlike hashes -/
def hP (i j : Int) : Int := reduceHash (Builtin.Tuple.tupleHashOf [hashInt i, hashInt j])
def hN (n : Nat) : Int := hP ((n / 8 : Nat) : Int) ((n % 8 : Nat) : Int)
end Dl
namespace PySem
open PyProof.Rows L2 PySem.W
end PySem
namespace Dl
open PySem PySem.Spec PyProof.Rows L2
section
variable {X : Cx} {T : Tx} {π : Nat → Option Pin} {W : WX} {e o : Expr} {m ma mk mv md : Mi Dt} {A : Addr → Prop} {F H : Hp} {σ : L2.St} {ρ : En} {i : Nat}
/-! ### x != [], x == [], x only looked at -/
theorem dt_nil {r : R2} {f : Dt → Dt → Option Dt} (h : PT X e (tTest (tOp r (TMp T π W ma) (tLst tNil)))) (hs : OpS T r f) : PT X e (TMt T π W (mB (m1 (fun d => f d (.lst [])) ma))) := h.imp fun σ H Q ⟨A, F, ρ, k, p⟩ => by
  have p' := p.bind
  refine ⟨A, F, ρ, k, p'.bind.imp fun x ρ1 F1 H1 k1 r1 p1 v rv => ⟨by decide, fun q hq => ?_⟩⟩
  obtain ⟨z, ez, p3⟩ := p1.opt
  have k2 := k1.newO (o := .lst []) hq
  have rv2 : RepS T F1 (upd H1 q (.lst [])) v x := rv.grow (le_refl _) fun a o e => le_new hq a o e
  have rq : RepS T F1 (upd H1 q (.lst [])) (.ref q) (.lst []) := .inr ⟨q, rfl, [], upd_same, .nil⟩
  refine hs π A F1 (upd H1 q (.lst [])) σ ρ1 v (.ref q) x (.lst []) z _ k2 rv2 rq ez fun F' H' u k' r' ru => ?_
  have p4 := p3 F' H' k' ((Fr.newO hq).trans r')
  cases z with
  | bl b => exact ⟨b, ru.bl_inv, p4 F' H' k' .refl⟩
  | _ => exact p4.elim
/-! ### xs.pop() -/
/-! ### d[k] -/
/-! ### {"a": x, ..} -/
end
end Dl
namespace Dl
open PySem PySem.Spec PyProof.Rows L2
-- k02
-- k02
-- k25
def b_seen_by_day : En → So :=
  (sSeq (sSetN 2 (mPure (.dic false [] [])))
  (sSeq (sFor (mSeqI (m1 (fAttr ix_looks) (mPeek 0))) (gT (gsC (gV 3) (gsC (gV 4) (gsC (gV 5) gsN))) 3) (sIf (mB (m2 fEq (mVar 4) (mPeek 1))) (sDput 2 (mVar 3) (mLst (mStar (mDget2 2 (mVar 3) (mLst (mPure []))) (mCons (mVar 5) (mPure []))))) (fun ρ => .nx ρ)))
  (sRetO 2)))
def m_seen_by_day : List Dt → Fo := runF 6 false true b_seen_by_day
-- k25
def b_stretches_of : En → So :=
  (sSeq (sPars [2, 3, 4] [true, false, false] (mCons (mLst (mPure [])) (mCons (mPure (.int 0)) (mCons (mPure (.int 0)) (mPure [])))))
  (sSeq (sSet 5 (mCall 2 m_due_days (mCons (mVar 0) (mCons (mVar 1) (mPure [])))))
  (sSeq (sFor (mItemsN (mCall 2 m_seen_by_day (mCons (mVar 0) (mCons (mVar 1) (mPure []))))) (gT (gsC (gV 6) (gsC (gV 7) gsN)) 2) (sSeq (sSet 8 (m1 fLen (mLc (mSeqI (mVar 5)) (gV 9) (mB (mChain fLe fLt (mVar 3) (mVar 9) (mPeek 6))) (mVar 9) [9])))
  (sSeq (sDrop (ownLst 2 (mAppend 2 (mTup (mCons (mVar 3) (mCons (mVar 6) (mCons (m2 fEq (m2 fMod (m2 fAdd (m2 fAdd (mVar 8) (mPeek 4)) (hasSl 7 (mIxV 7 (mPure (.int 0))))) (mPure (.int 2))) (mPure (.int 1))) (mPure []))))))))
  (sSeq (sIf (mB (m2 fGt (m1 fLen (mPeek 7)) (mPure (.int 1)))) (sDrop (ownLst 2 (mAppend 2 (mTup (mCons (mVar 6) (mCons (mVar 6) (mCons (mPure (.bl true)) (mPure [])))))))) (fun ρ => .nx ρ))
  (sPars [3, 4] [false, false] (mCons (mVar 6) (mCons (hasSl 7 (mIxV 7 (m1 fNeg (mPure (.int 1))))) (mPure []))))))))
  (sRet (mTup (mStar (mPeek 2) (mCons (mTup (mCons (mVar 3) (mCons (m1 (fAttr ix_days) (mPeek 0)) (mCons (mPure .non) (mPure []))))) (mPure []))))))))
def m_stretches_of : List Dt → Fo := runF 10 false false b_stretches_of
-- k25
-- k26
def b_parts_of : En → So :=
  (sSeq (sSetN 3 (mLst (mPure [])))
  (sSeq (sFor (mRng1 (mCons (m1 (fAttr ix_wheels) (mPeek 0)) (mPure []))) (gV 4) (sSeq (sSet 5 (mCall 2 m_due_days (mCons (mVar 0) (mCons (mVar 4) (mPure [])))))
  (sFor (mSeqI (mCall 2 m_stretches_of (mCons (mVar 0) (mCons (mVar 4) (mPure []))))) (gT (gsC (gV 6) (gsC (gV 7) (gsC (gV 8) gsN))) 3) (sSeq (sSet 9 (mLc (mSeqI (mVar 5)) (gV 12) (mB (mChain fLe fLt (mVar 6) (mVar 12) (mPeek 7))) (mTup (mCons (mVar 12) (mCons (mVar 4) (mPure [])))) [12]))
  (sSeq (sSet 10 (m1 fLen (mLc (mSeqI (mVar 9)) (gV 13) (mB (m2 fDin (mVar 13) (mPeek 1))) (mVar 13) [13])))
  (sSeq (sSet 11 (m1 fLen (mLc (mSeqI (mVar 9)) (gV 13) (mAnd (mB (m2 fDnotin (mVar 13) (mPeek 1))) (mB (m2 fDnotin (mVar 13) (mPeek 2)))) (mVar 13) [13])))
  (sDrop (ownLst 3 (mAppend 3 (mTup (mCons (mVar 10) (mCons (mVar 11) (mCons (mVar 8) (mPure []))))))))))))))
  (sRet (mVar 3))))
def m_parts_of : List Dt → Fo := runF 14 false false b_parts_of
-- k26
def b_cost : En → So :=
  (sSeq (sSet 3 (mPure (.int 0)))
  (sSeq (sFor (mSeqI (mCall 3 m_parts_of (mCons (mVar 0) (mCons (mVar 1) (mCons (mVar 2) (mPure [])))))) (gT (gsC (gV 4) (gsC (gV 5) (gsC (gV 6) gsN))) 3) (sSeq (sSet 7 (mOrV (m2 fIsN (mVar 6) (mPure .non)) (m2 fEq (m2 fEq (m2 fMod (mVar 4) (mPure (.int 2))) (mPure (.int 1))) (mPeek 6))))
  (sSeq (sIf (mAnd (mNot (mB (mVar 7))) (mB (m2 fEq (mVar 5) (mPure (.int 0))))) (sRet (mPure .non)) (fun ρ => .nx ρ))
  (sAug 3 (fI fun i j => some (.int (i + j))) (mIfE (mB (mVar 7)) (mVar 4) (m2 fAdd (mVar 4) (mPure (.int 1))))))))
  (sRet (mVar 3))))
def m_cost : List Dt → Fo := runF 8 false false b_cost
-- k26
def b_can_be : En → So :=
  (sSeq (sSet 3 (mCall 3 m_cost (mCons (mVar 0) (mCons (mVar 1) (mCons (mVar 2) (mPure []))))))
  (sRet (mAndV (m2 fNotN (mVar 3) (mPure .non)) (m2 fLe (mVar 3) (m1 (fAttr ix_budget) (mPeek 0))))))
def m_can_be : List Dt → Fo := runF 4 false false b_can_be
-- k26
-- k26
def b_possible : En → So :=
  (sRet (mCall 3 m_can_be (mCons (mVar 0) (mCons (mPure (.dic true [] [])) (mCons (mPure (.dic true [] [])) (mPure []))))))
def m_possible : List Dt → Fo := runF 1 false false b_possible
-- k26
-- k26
-- k27
def b_can_show : En → So :=
  (sRet (mLc (mRng1 (mCons (mPure (.int 2)) (mPure []))) (gV 3) (mB (mCall 1 m_possible (mCons (mMeth 1 2 m_Season_seen (mVar 0) (mCons (mLst (mCons (mTup (mCons (mVar 2) (mCons (mVar 1) (mCons (mVar 3) (mPure []))))) (mPure []))) (mPure []))) (mPure [])))) (mVar 3) [3]))
def m_can_show : List Dt → Fo := runF 4 false false b_can_show
-- k27
-- k27
def b_sure_sides : En → So :=
  (sSeq (sSet 2 (mLc (mRng1 (mCons (m1 (fAttr ix_wheels) (mPeek 0)) (mPure []))) (gV 3) (mPure true) (mCall 3 m_can_show (mCons (mVar 0) (mCons (mVar 3) (mCons (mVar 1) (mPure []))))) [3]))
  (sRet (m1 fTuple (mLc (mSeqI (mVar 2)) (gV 4) (mPure true) (mIfE (mB (m2 fEq (m1 fLen (mPeek 4)) (mPure (.int 1)))) (hasSl 4 (mIxV 4 (mPure (.int 0)))) (mPure .non)) [4]))))
def m_sure_sides : List Dt → Fo := runF 5 false false b_sure_sides
-- k27
-- k28
-- k28
-- k28
-- k29
-- k29
-- k29
-- k29
-- k29
-- k29
-- k29
-- k31
-- k32
-- k35
-- k35
-- k35
-- k35
-- k35
-- k35
-- k40
-- k40
-- k40
-- k40
-- k40
-- k40
-- k40
-- k40
-- k40
-- k66
def b_Live_show : En → So :=
  (sSeq (sFput 0 ix_season (mVar 1))
  (sSeq (sFput 0 ix_is_possible (mCall 1 m_possible (mCons (mVar 1) (mPure []))))
  (sSeq (sFput 0 ix_sure (m1 fTuple (mLc (mRng1 (mCons (m1 (fAttr ix_wheels) (mPeek 1)) (mPure []))) (gV 2) (mPure true) (mPure .non) [2])))
  (sIf (mB (m1 (fAttr ix_is_possible) (mPeek 0))) (sFput 0 ix_sure (mCall 2 m_sure_sides (mCons (mVar 1) (mCons (m1 (fAttr ix_days) (mPeek 1)) (mPure []))))) (fun ρ => .nx ρ)))))
def m_Live_show : List Dt → Fo := runF 3 false false b_Live_show
-- k66
def b_Live_init : En → So :=
  (sSeq (sFput 0 ix_past (mTup (mPure [])))
  (sDrop (mMeth 5 2 m_Live_show (mVar 0) (mCons (mVar 1) (mPure [])))))
-- k66
def b_Live_go_on : En → So :=
  (sSeq (sFput 0 ix_past (mTup (mStar (m1 (fAttr ix_past) (mPeek 0)) (mCons (m1 (fAttr ix_season) (mPeek 0)) (mPure [])))))
  (sDrop (mMeth 5 2 m_Live_show (mVar 0) (mCons (mVar 1) (mPure [])))))
def m_Live_go_on : List Dt → Fo := runF 2 false false b_Live_go_on
-- k66
def b_Live_look : En → So :=
  (sSeq (sSet 4 (mTup (mCons (mVar 1) (mCons (mVar 2) (mCons (mVar 3) (mPure []))))))
  (sSeq (sIf (mNot (mB (mCall 3 m_is_look (mCons (mVar 4) (mCons (m1 (fAttr ix_rota) (m1 (fAttr ix_season) (mPeek 0))) (mCons (m1 (fAttr ix_days) (m1 (fAttr ix_season) (mPeek 0))) (mPure []))))))) (fun _ => .bad) (fun ρ => .nx ρ))
  (sSeq (sDrop (mMeth 5 2 m_Live_go_on (mVar 0) (mCons (mMeth 1 2 m_Season_seen (m1 (fAttr ix_season) (mPeek 0)) (mCons (mLst (mCons (mVar 4) (mPure []))) (mPure []))) (mPure []))))
  (sRet (m1 (fAttr ix_is_possible) (mPeek 0))))))
-- k66
def b_Live_several : En → So :=
  (sSeq (sFor (mSeqI (mVar 1)) (gV 2) (sIf (mNot (mB (mCall 3 m_is_look (mCons (mVar 2) (mCons (m1 (fAttr ix_rota) (m1 (fAttr ix_season) (mPeek 0))) (mCons (m1 (fAttr ix_days) (m1 (fAttr ix_season) (mPeek 0))) (mPure []))))))) (fun _ => .bad) (fun ρ => .nx ρ)))
  (sSeq (sIf (mB (m2 fGt (m1 fLen (mPeek 1)) (mPure (.int 0)))) (sDrop (mMeth 5 2 m_Live_go_on (mVar 0) (mCons (mMeth 1 2 m_Season_seen (m1 (fAttr ix_season) (mPeek 0)) (mCons (mVar 1) (mPure []))) (mPure [])))) (fun ρ => .nx ρ))
  (sRet (m1 (fAttr ix_is_possible) (mPeek 0)))))
-- k66
def b_Live_follow : En → So :=
  (sDrop (mMeth 5 2 m_Live_go_on (mVar 0) (mCons (mVar 1) (mPure []))))
-- k66
def b_Live_undo : En → So :=
  (sSeq (sIf (mB (m2 fEq (m1 fLen (m1 (fAttr ix_past) (mPeek 0))) (mPure (.int 0)))) (sRet (mPure (.bl false))) (fun ρ => .nx ρ))
  (sSeq (sSet 1 (m2 fIx (m1 (fAttr ix_past) (mPeek 0)) (m1 fNeg (mPure (.int 1)))))
  (sSeq (sFput 0 ix_past (mSl (m1 (fAttr ix_past) (mPeek 0)) (mPure none) (mPart (m1 fNeg (mPure (.int 1))))))
  (sSeq (sDrop (mMeth 5 2 m_Live_show (mVar 0) (mCons (mVar 1) (mPure []))))
  (sRet (mPure (.bl true)))))))
-- k66
-- k66
-- k66
-- k66
-- k66
-- k66
end Dl
namespace Dl
open PySem PySem.Spec PyProof.Rows L2
-- k25
-- k25
-- k25
-- k25
-- k25
-- k25
def b_law_due : En → So :=
  (sSeq (sAsg (mVar 0) (gT (gsC (gV 2) (gsC (gV 3) gsN)) 2))
  (sSeq (sPars [4, 5] [false, true] (mCons (mLstRg (mVar 2)) (mCons (mLst (mPure [])) (mPure []))))
  (sSeq (sFor (mRng1 (mCons (mVar 1) (mPure []))) (gV 6) (sSeq (sAsg (hasSl 3 (mIxV 3 (m2 fMod (m1 fInt (mPeek 6)) (m1 fLen (mPeek 3))))) (gT (gsC (gV 7) (gsC (gV 8) gsN)) 2))
  (sSeq (sDrop (ownLst 5 (mExtend 5 (mLc (mRng1 (mCons (mVar 2) (mPure []))) (gV 9) (mB (m2 fInA (hasSl 4 (mIxV 4 (mVar 9))) (mPeek 7))) (mTup (mCons (mVar 6) (mCons (mVar 9) (mPure [])))) [9]))))
  (sSet 4 (mLc (mSeqI (mVar 4)) (gV 10) (mPure true) (hasSl 8 (mIxV 8 (mVar 10))) [10])))))
  (sRet (mVar 5)))))
def m_law_due : List Dt → Fo := runF 11 false false b_law_due
-- k25
-- k25
-- k25
-- k25
-- k25
-- k26
-- k26
-- k27
-- k43
-- k90
-- k90
-- k90
end Dl
namespace HNe
open PySem PySem.Spec PyProof.Rows PySem.SeqAt
section
variable {M : Model} {prog : Program} {w : World} {A : Around} {E : Value → Shared → Prop} {s : Shared} {K : PySem.W.Frag} {x C f L : Addr} {ox : Obj} {od : Option Obj} {b tb : Value} {h₀ : Heap} {m : Str → Option Value}
/-! ### != of own objects that have an __eq__ -/
def NotB (Q : Value → Shared → Prop) (v : Value) (s' : Shared) : Prop := ∃ r, v = .bool r ∧ Q (.bool (!r)) s'
theorem objNe_K {Q : Fin → Shared → Prop} (hu : A.units < cLine) (X : K.In s.heap) (I : PySem.W.InstAt s.heap x ox C od) (hs : PySem.W.findIn K (.ref C) "__eq__" = some (some (.ref f))) (hf : PySem.W.isFn K (.ref f) = true)
    (h : wpAny (model prog w) A (call (.ref f) [.ref x, b]) (fun v s' => ∃ r, v = .bool r ∧ Q (.done (.ret (.bool (!r)))) s') E s) :
    wpAny (model prog w) A (Builtin.«object.__ne__» ⟨[.ref x, b], []⟩) Q E s := by
  unfold Builtin.«object.__ne__»
  repeat (first
    | with_reducible refine wpAny_cRoomFor hu ?_
    | (refine wpAny_bind (m := callSpecialIfBound? (.ref x) (Str.ofString "__eq__") [b])
        (PySem.W.ifBound_K X I hs hf (wpAny_mono h (fun r s' hr => by
          obtain ⟨z, rfl, hq⟩ := hr
          repeat (first | exact hq | exact wpAny_pure hq | exact wpAny_truthy_bool hq | (refine wpAny_bind (m := truthy (.bool _)) (wpAny_truthy_bool ?_)) | wp_step)) fun _ _ e => e)))
    | wp_step)
theorem call_objNe {Q : Value → Shared → Prop} (hu : A.units + 1 < cLine) (X : K.In s.heap) (I : PySem.W.InstAt s.heap x ox C od) (hm : PySem.W.mroIn K C (.type "object") = some true) (hs : PySem.W.findIn K (.ref C) "__eq__" = some (some (.ref f))) (hf : PySem.W.isFn K (.ref f) = true)
    (h : wpAny (model prog w) A.in1 (call (.ref f) [.ref x, b]) (NotB Q) E s) :
    wpAny (model prog w) A (call (.builtin "object.__ne__") [.ref x, b]) Q E s :=
  wpAny_call (codeAny_call_builtin F.cmp_object.ne.plain F.cmpEntry_ne (PySem.W.check_slot F.cmpKind_ne F.cmpSplit_ne (I.type.andThen (PySem.W.looks_mroIn X hm)) (F.cmpArgs_ne _ _)
    (objNe_K (A := A.in1) hu X I hs hf (wpAny_mono h (fun v s' hv => hv) fun _ _ e => e))))
theorem ifBound_objNe {args : List Value} {Q : Option Value → Shared → Prop} (X : K.In s.heap) (I : PySem.W.InstAt s.heap x ox C od) (hs : PySem.W.findIn K (.ref C) "__ne__" = some (some (.builtin "object.__ne__")))
    (h : wpAny M A (call (.builtin "object.__ne__") (.ref x :: args)) (fun v => Q (some v)) E s) : wpAny M A (callSpecialIfBound? (.ref x) "__ne__" args) Q E s := by
  simp only [callSpecialIfBound?, bindSpecialIfBound?]
  refine wpAny_holding (wpAny_bind (wpAny_bind (wpAny_bind (I.type.here ((PySem.W.looks_findIn X hs).here ?_)))))
  refine wpAny_bind (wpAny_askSetting (wpAny_ite ?_))
  have fin : wpAny M A (call (.builtin "object.__ne__") ([.ref x] ++ args) >>= fun v => pure (some v)) Q E s := wpAny_bind (wpAny_mono h (fun v s' h' => wpAny_pure h') fun _ _ h' => h')
  split
  · exact wpAny_bind (wpAny_of_eq (F.cmp_object.ne.bind _) (wpAny_pure (by exact fin)))
  · exact wpAny_tryCatch (wpAny_bind (wpAny_of_eq (F.cmp_object.ne.bind _) (wpAny_pure (by exact fin))))
theorem ne_K {Q : Value → Shared → Prop} (hu : A.units + 1 < cLine) (F : Fr h₀ L s.heap m) (X₀ : K.In h₀) (I : PySem.W.InstAt s.heap x ox C od) (hb : PySem.W.Looks (model prog w) s.heap (typeOf b) tb) (hn : PySem.W.notFirst K C tb = true)
    (hm : PySem.W.mroIn K C (.type "object") = some true) (h1 : PySem.W.findIn K (.ref C) "__ne__" = some (some (.builtin "object.__ne__"))) (hs : PySem.W.findIn K (.ref C) "__eq__" = some (some (.ref f))) (hf : PySem.W.isFn K (.ref f) = true)
    (h : wpAny (model prog w) A.in1 (call (.ref f) [.ref x, b]) (NotB Q) E s) : wpAny (model prog w) A (richCompare .NotEq (.ref x) b) Q E s := by
  have X := X₀.keeps F.keep
  have one : wpAny (model prog w) A (tryCompare (.ref x) "__ne__" b) (fun r s' => ∃ v, r = some v ∧ Q v s') E s := by
    unfold tryCompare
    refine wpAny_bind (ifBound_objNe X I h1 (call_objNe hu X I hm hs hf (wpAny_mono h (fun v s' hv => ?_) fun _ _ e => e)))
    obtain ⟨r, rfl, hq⟩ := hv
    exact ⟨r, rfl, wpAny_pure ⟨_, rfl, hq⟩⟩
  unfold richCompare
  simp only [oneThing_ref, cmpInfo_NotEq]
  refine wpAny_holding (wpAny_bind (wpAny_cRoomFor (by omega) ?_))
  refine wpAny_bind (I.type.here (wpAny_bind (hb.here ?_)))
  split
  · rename_i q
    have e : PySem.W.subIn K tb (.ref C) = some false := by
      rcases Bool.or_eq_true_iff.mp hn with e | e
      · rw [beq_iff_eq.mp e] at q; simp at q
      · exact beq_iff_eq.mp e
    refine wpAny_bind ((PySem.W.looks_subIn X e).here ?_)
    simp only [Bool.false_eq_true, if_false]
    refine wpAny_bind (wpAny_mono one (fun r s' z => ?_) fun _ _ e => e)
    obtain ⟨v, rfl, hq⟩ := z
    exact wpAny_pure hq
  · refine wpAny_bind (wpAny_pure ?_)
    simp only [Bool.false_eq_true, if_false]
    refine wpAny_bind (wpAny_mono one (fun r s' z => ?_) fun _ _ e => e)
    obtain ⟨v, rfl, hq⟩ := z
    exact wpAny_pure hq
end
end HNe
namespace Dl
open PySem PySem.Spec PyProof.Rows L2
/-- x == y, x != y by an own __eq__ -/
def rOwnC (C : Addr) (sp : Sp) (neg : Bool) : R2 := fun x y H Q => ∃ a b dx dy fs gs, x = .ref a ∧ y = .ref b ∧ H a = some (.ins C dx fs) ∧ H b = some (.ins C dy gs) ∧ sp [x, y] H (fun v H' => ∃ r, v = .bl r ∧ Q (.bl (r != neg)) H') (fun _ _ _ => False)
section
variable {X : Cx} {T : Tx} {k : Nat} {C f : Addr} {fd : FuncData} {ps : List Str} {sp : Sp}
theorem own_call (G : FnOk X.prog X.w X.K X.mg X.base (L2.CX X.prog X.w) k f fd ps sp) (hb : Binds X.K fd ps []) {A : Around} (hr : Room k A) (hfr : A.frames = X.A.frames) {pins : List (Addr × Obj)} {s : Shared} {σ : L2.St} {H : Hp} {a b : Addr} {P : Bool → Hp → Prop} {R : Value → Shared → Prop} (I : Inv X pins σ H s) (hsp : sp [.ref a, .ref b] H (fun v H' => ∃ r, v = .bl r ∧ P r H') (fun _ _ _ => False))
    (hR : ∀ r s' H', Inv X pins σ H' s' → P r H' → R (.bool r) s') : wpAny (model X.prog X.w) A (call (.ref f) [.ref a, .ref b]) R X.xe s := by
  have e0 : Env0 X.prog X.w X.K X.mg X.base A X.stack s H := by
    have e := I.env0
    exact ⟨by rw [hfr]; exact e.frames, e.mod, e.bs, e.bsz, e.funs, e.frf, e.hok, e.bare⟩
  have hl := G.len _ _ _ _ hsp
  have r2 : Vals [V.ref a, V.ref b] [Value.ref a, Value.ref b] := .cons rfl (.cons rfl .nil)
  refine wpAny_call (codeAny_mono (G.run A X.stack s H ⟨[.ref a, .ref b], []⟩ [.ref a, .ref b] [.ref a, .ref b] _ _ hr e0 (by
    have := hb s [.ref a, .ref b] I.kIn (by simpa using hl)
    simpa using this) r2 hsp) fun r s' hq => ?_)
  cases r with
  | error e =>
    obtain ⟨_, _, _, _, _, _, _, _, _, _, _, _, z⟩ := hq
    exact z.elim
  | ok fl =>
    cases fl with
    | ret w =>
      obtain ⟨z, H', I', rz, r, rfl, q⟩ := I.after hq
      cases rz
      exact hR r s' H' I' q
    | next => exact False.elim hq
    | brk => exact False.elim hq
    | cont => exact False.elim hq
theorem op_ownNe (G : FnOk X.prog X.w X.K X.mg X.base (L2.CX X.prog X.w) k f fd ps sp) (hb : Binds X.K fd ps []) (hr : Room (k + 1) X.A) (hm : PySem.W.mroIn X.K C (.type "object") = some true) (h1 : PySem.W.findIn X.K (.ref C) "__ne__" = some (some (.builtin "object.__ne__"))) (hs : PySem.W.findIn X.K (.ref C) "__eq__" = some (some (.ref f))) (hf : PySem.W.isFn X.K (.ref f) = true) : OpR X (compareOp .NotEq) (rOwnC C sp true) := by
  intro pins s σ H x y v u Q I rx ry h
  obtain ⟨a, b, dx, dy, fs, gs, rfl, rfl, ha, hb', hsp⟩ := h
  cases rx
  cases ry
  obtain ⟨mA, J, _⟩ := ins_get I.hok ha
  obtain ⟨mB, J', _⟩ := ins_get I.hok hb'
  obtain ⟨od, J, _⟩ := J.look
  obtain ⟨od', J', _⟩ := J'.look
  obtain ⟨m, hF⟩ := I.fr
  refine HNe.ne_K (tb := .ref C) (by have := hr.un; omega) hF I.ok.mod.kin J J'.type (by simp [PySem.W.notFirst]) hm h1 hs hf ?_
  refine own_call (P := fun r H' => Q (.bl (r != true)) H') G hb hr.in1 rfl I hsp fun r s' H' I' q => ?_
  exact ⟨r, rfl, .bl (!r), H', I', rfl, by cases r <;> exact q⟩
/-- what an own __eq__ gives -/
def fOwnC (c : Nat) (fm : List Dt → Fo) (neg : Bool) : Dt → Dt → Option Dt
  | .ins c1 x, .ins c2 y => if c1 = c ∧ c2 = c then (match fm [.ins c1 x, .ins c2 y] with | .ret (.bl r) _ => some (.bl (r != neg)) | _ => none) else none
  | _, _ => none
def OpK (T : Tx) (r : R2) (f : Dt → Dt → Option Dt) : Prop := ∀ (π : Nat → Option Pin) (A : Addr → Prop) (F H : Hp) (σ : L2.St) (ρ : En) (v w : V) (d e z : Dt) (Q : VK), Ok T π A F H σ ρ → Rep T F v d → Rep T F w e → f d e = some z →
  (∀ F' H' u, Ok T π A F' H' σ ρ → Fr A F H F' H' → Rep T F' u z → Q u H') → r v w H Q
theorem os_own {c : Nat} {ns : List Str} {fm : List Dt → Fo} (neg : Bool) (hc : T.cl c = some (C, ns)) : OpK T (rOwnC C (spM T 2 false false fm) neg) (fOwnC c fm neg) := fun π A F H σ ρ v w d e z Q k rv rw' ez q => by
  unfold fOwnC at ez
  split at ez
  · rename_i c1 x c2 y
    split at ez
    · rename_i hcc
      obtain ⟨rfl, rfl⟩ := hcc
      split at ez
      · rename_i r o hfm
        cases ez
        obtain ⟨a, C1, dx, ns1, vs, e1, q1, q2, q3, q4⟩ := rv.s.ins_inv k.le
        obtain ⟨b, C2, dy, ns2, ws, e2, p1, p2, p3, p4⟩ := rw'.s.ins_inv k.le
        rw [hc] at q1 p1
        cases q1
        cases p1
        refine ⟨a, b, dx, dy, _, _, e1, e2, q2, p2, F, _, none, rfl, k.le, ⟨.cons rv (.cons rw' .nil), rfl⟩, ?_⟩
        rw [hfm]
        exact fun F' H' u le fr _ ru => ⟨r, Rep.bl_inv ru, q F' H' _ (k.called le fr) (fr.weak fun a ⟨_, z, _⟩ => nomatch z) (.bl _)⟩
      · cases ez
    · cases ez
  · cases ez
theorem dt_cmpO {W : WX} {π : Nat → Option Pin} {a b : Expr} {pos : Pos} {ma mb : Mi Dt} {op : CmpOp} {r : R2} {g : Dt → Dt → Option Dt} (ho : OpR X (compareOp op) r) (hs : OpK T r g) (ha : PE X a (TMe T π W ma)) (hb : PE X b (TMe T π W mb)) (hm : behindInMarks op b = false) : PT X (.Compare a [op] [b] pos) (TMt T π W (mB (m2 g ma mb))) :=
  (pt_cmpR ho ha hb hm).imp fun σ H Q ⟨A, F, ρ, k, p⟩ =>
  ⟨A, F, ρ, k, p.bind.bind.imp fun x ρ1 F1 H1 k1 r1 p1 v rv => ⟨A, F1, ρ1, k1, p1.bind.imp fun y ρ2 F2 H2 k2 r2 p2 w rw => by
    obtain ⟨z, e, p3⟩ := p2.opt
    refine hs π A F2 H2 σ ρ2 v w x y z _ k2 (rv.mono r2.f) rw e fun F' H' u k' r' ru => ?_
    have p4 := p3 F' H' k' r'
    cases z with
    | bl b => exact ⟨b, ru.bl_inv, p4 F' H' k' .refl⟩
    | _ => exact p4.elim⟩⟩
/-- isinstance(x, C) of an object of C -/
def fIsC (c : Nat) : Dt → Option Dt
  | .ins c' _ => if c' = c then some (.bl true) else none
  | _ => none
def rIsC (C : Addr) : List V → Hp → VK → Prop := fun xs H Q => ∃ a dx fs, xs = [.ref a, .ref C] ∧ H a = some (.ins C dx fs) ∧ Q (.bl true) H
theorem de_isC {W : WX} {π : Nat → Option Pin} {e : Expr} {m : Mi Dt} {c : Nat} {ns : List Str} (hc : T.cl c = some (C, ns)) (h : PE X e (tCB (rIsC C) (tCons (TMp T π W m) (tCons (tC (.ref C)) tNil)))) : PE X e (TMe T π W (m1 (fIsC c) m)) := h.imp fun σ H Q ⟨A, F, ρ, k, p⟩ => ⟨A, F, ρ, k, p.bind.imp fun d ρ1 F1 H1 k1 r1 p1 v rv => by
  obtain ⟨z, ez, p2⟩ := p1.opt
  unfold fIsC at ez
  split at ez
  · rename_i c' ds
    split at ez
    · rename_i hcc
      subst hcc
      cases ez
      obtain ⟨a, C1, dx, ns1, vs, e1, q1, q2, q3, q4⟩ := rv.ins_inv k1.le
      rw [hc] at q1
      cases q1
      subst e1
      exact ⟨a, dx, _, rfl, q2, p2.pure k1 _ (.bl _)⟩
    · cases ez
  · cases ez⟩
end
end Dl
namespace Dl
open PySem PySem.Spec PyProof.Rows L2
-- k88
def b_Rota_eq : En → So :=
  (sRet (mAndV (m1 (fIsC 0) (mPeek 1)) (m2 fEq (m1 (fAttr ix_text) (mPeek 0)) (m1 (fAttr ix_text) (mPeek 1)))))
def m_Rota_eq : List Dt → Fo := runF 2 false false b_Rota_eq
-- k88
def b_Season_eq : En → So :=
  (sSeq (sIf (mOr (mNot (mB (m1 (fIsC 1) (mPeek 1)))) (mOr (mB (m2 (fOwnC 0 m_Rota_eq true) (m1 (fAttr ix_rota) (mPeek 0)) (m1 (fAttr ix_rota) (mPeek 1)))) (mB (m2 fNe (m1 (fAttr ix_days) (mPeek 0)) (m1 (fAttr ix_days) (mPeek 1)))))) (sRet (mPure (.bl false))) (fun ρ => .nx ρ))
  (sRet (mAndV (m2 fEq (m1 (fAttr ix_budget) (mPeek 0)) (m1 (fAttr ix_budget) (mPeek 1))) (m2 fEq (m1 (fAttr ix_looks) (mPeek 0)) (m1 (fAttr ix_looks) (mPeek 1))))))
def m_Season_eq : List Dt → Fo := runF 2 false false b_Season_eq
end Dl
namespace Dl
open PySem PySem.Spec PyProof.Rows L2
/-! ### a def that is entered where no repr is under way -/
structure FnG (P : Program) (w : World) (K : PySem.W.Frag) (mg : Str → Option Value) (base : Heap) (C : CXT) (k : Nat) (f : Addr) (fd : FuncData) (ps : List Str) (sp : Sp) : Prop where
  ln : ∀ xs H R E, sp xs H R E → xs.length = ps.length
  go : ∀ (A : Around) (st : List Env) (s : Shared) (H : Hp) (ar : Args) (us : List Value) (xs : List V) (R : VK) (E : XK), Room k A → A.guards = some [] → Env0 P w K mg base A st s H → BindsTo s fd ar (ps.zip us) → Vals xs us → sp xs H R E → codeAny (model P w) A (.call (.ref f) ar) (CR C st P w H s R E) s
theorem FnG.imp {P : Program} {w : World} {K : PySem.W.Frag} {mg : Str → Option Value} {base : Heap} {C : CXT} {k : Nat} {f : Addr} {fd : FuncData} {ps : List Str} {sp sq : Sp} (G : FnG P w K mg base C k f fd ps sp)
    (h : ∀ xs H R E, sq xs H R E → sp xs H R E) : FnG P w K mg base C k f fd ps sq :=
  ⟨fun xs H R E q => G.ln xs H R E (h _ _ _ _ q), fun A st s H ar us xs R E hr hg he hb hv hs => G.go A st s H ar us xs R E hr hg he hb hv (h _ _ _ _ hs)⟩
theorem fnG_of {C : CXT} {P : Program} {w : World} {K : PySem.W.Frag} {mg : Str → Option Value} {base : Heap} {k : Nat} {f : Addr} {nm qu : Str} {pa : Arguments} {bo : List Stmt} {sc : Scope} {dV kV doc pm cdv ct oc : Value} {an od : Option Addr} {osl : Array (Option Value)} {N ps : List Str} {sp : Sp}
    (lk : K.lookup f = some ⟨oc, od, .func (PySem.W.fnOf nm qu pa bo sc dV kV doc pm an cdv ct), osl⟩) (hcd : PySem.W.codeIn K cdv qu = true) (S : FnScope N ps sc) (ln : ∀ xs H R E, sp xs H R E → xs.length = ps.length)
    (hbo : ∀ (A : Around) (st : List Env) (s : Shared) (H : Hp) (xs : List V) (R : VK) (E : XK), Room k (A.deeper (envOfC qu sc s.heap.objs.size f cdv)) → (A.deeper (envOfC qu sc s.heap.objs.size f cdv)).guards = some [] → sp xs H R E →
      ∃ t, PSs (cxOf C P w K mg base N qu sc f cdv A st s H E) bo t ∧ t { nx := fun _ H' => R .non H', rt := R } (start N xs) H) : FnG P w K mg base C (k + 1) f (PySem.W.fnOf nm qu pa bo sc dV kV doc pm an cdv ct) ps sp := by
  refine ⟨ln, fun A st s H ar us xs R E hr hg e0 hb r hs => ?_⟩
  have hl := ln _ _ _ _ hs
  have KX : K.In s.heap := e0.mod.kin.keeps (fun b o e => (e0.bs b o e).1)
  have lim : s.heap.NoLimit := e0.mod.nolimit.keeps (fun b o e => (e0.bs b o e).1)
  have kinds : ∀ y ∈ ps.zip us, sc.names.lookup y.1 = some .local ∨ (sc.names.lookup y.1 = some .cell ∧ ((cellsFrom (s.heap.objs.size + 1) sc.names []).lookup y.1).isSome = true) := by
    rintro ⟨n, v⟩ hy
    rcases S.par n (List.of_mem_zip hy).1 with q | q
    · exact .inl q
    · exact .inr ⟨q, PySem.W.cellsFrom_some _ _ _ (.inl q)⟩
  refine codeAny_call_function hr.depth (KX _ _ lk) rfl S.co S.gen rfl (PySem.W.codeRec_of KX hcd) (hb _ _ _ _ (wpAny_newFunctionEnv_cells S.kind kinds fun env he s1 x => ?_))
  subst he
  refine ⟨lim.keeps x.toInCall.keep, codeAny_func ?_⟩
  obtain ⟨t, ht, hq⟩ := hbo A st s H xs R E (hr.deeper _) hg hs
  have I : Inv (cxOf C P w K mg base N qu sc f cdv A st s H E) [] (start N xs) H s1 := inv_start S hr.hd e0 hl r x
  refine wpAny_mono (ht.run [] s1 (start N xs) H _ I hq) (fun fl s' z => ?_) fun _ _ z => z
  have fin : ∀ {σ' : L2.St} {H' : Hp} {v : V} {u : Value}, Inv (cxOf C P w K mg base N qu sc f cdv A st s H E) [] σ' H' s' → RelV v u → R v H' → CE st P w H s R u s' :=
    fun {σ' H' v u} J rv q => ⟨v, H', J.os, J.bare, J.base, J.hok, rv, q⟩
  cases fl with
  | ret u => exact let ⟨v, σ', H', J, rv, q⟩ := z; fin J rv q
  | next => exact let ⟨σ', H', J, q⟩ := z; fin (v := V.non) (u := Value.none) J rfl q
  | brk => exact let ⟨_, _, _, q⟩ := z; q.elim
  | cont => exact let ⟨_, _, _, q⟩ := z; q.elim
theorem FunG.okX {P : Program} {w : World} {K : PySem.W.Frag} {mg : Str → Option Value} {base : Heap} {x qual : Str} {st : Stmt} {f : Addr} {fd : FuncData} {N ps : List Str} {k : Nat} {sp : Sp} (F : Fun K x qual st f fd) (S : FnScope N ps (defScope st)) (ln : ∀ vs H Q E, sp vs H Q E → vs.length = ps.length)
    (hbo : ∀ (cdv : Value) (A : Around) (out : List Env) (s : Shared) (H : Hp) (xs : List V) (R : VK) (E : XK), Room k (A.deeper (envOfC qual (defScope st) s.heap.objs.size f cdv)) → (A.deeper (envOfC qual (defScope st) s.heap.objs.size f cdv)).guards = some [] → sp xs H R E →
      ∃ t, PSs (cxOf (L2.CX P w) P w K mg base N qual (defScope st) f cdv A out s H E) (defBody st) t ∧ t { nx := fun _ H' => R .non H', rt := R } (start N xs) H) : FnG P w K mg base (L2.CX P w) (k + 1) f fd ps sp := by
  obtain ⟨oc, od, kV, doc, pm, an, cdv, ct, osl, rfl, lk, hcd⟩ := F.ex
  exact fnG_of lk hcd S ln fun A out s H xs R E hr hg hs => hbo cdv A out s H xs R E hr hg hs
/-! ### repr() of data -/
/-! ### the law is called -/
end Dl
namespace Dl
open PySem PySem.Spec PyProof.Rows L2
/-! ### x is not True -/
def fNotB : Dt → Dt → Option Dt
  | .bl a, .bl c => some (.bl (!decide (a = c)))
  | _, _ => none
section
variable {T : Tx}
theorem os_notB : OpS T L2.rNotB fNotB := ops_pure fun F H v w d e z Q le rv rw ef q => by
  cases e with
  | bl c =>
    cases d with
    | bl a =>
      cases ef
      exact ⟨a, c, (rv.flat trivial).bl_inv, (rw.flat trivial).bl_inv, q _ (.bl _)⟩
    | _ => cases ef
  | _ => cases d <;> cases ef
end
end Dl
namespace Dl
open PySem PySem.Spec PyProof.Rows L2
/-! ### within an except suite: the caught error is known -/
section
variable {T : Tx} {π : Nat → Option Pin} {A : Addr → Prop} {F H F' H' : Hp} {σ : L2.St} {ρ : En} {i : Nat} {a : Addr} {cls : Value} {d : Option Addr}
/-- slot i has the caught error at a; x tells what it is; its dict is not A's to change -/
structure Got (T : Tx) (A : Addr → Prop) (F H : Hp) (σ : L2.St) (i : Nat) (a : Addr) (cls : Value) (d : Option Addr) (x : Ex) : Prop where
  sl : σ[i]? = some (some (.ref a))
  rep : RepX T F H cls d x
  no : ∀ dx, d = some dx → ¬ A dx
theorem Got.go {x : Ex} (g : Got T A F H σ i a cls d x) (r : Fr A F H F' H') : Got T A F' H' σ i a cls d x := by
  obtain ⟨s, ⟨C, dx, ns, vs, h1, h2, h3, h4, h5⟩, n⟩ := g
  refine ⟨s, ⟨C, dx, ns, vs, h1, h2, h3, h4.mono r.f, ?_⟩, n⟩
  rcases h5 with h5 | ⟨e, h5⟩
  · exact .inl h5
  · exact .inr ⟨e, r.h dx _ (n dx e) h5⟩
variable {X : Cx} {e ea eb ec : Expr} {es rest : List Expr} {pos : Pos} {m : Mi Dt} {k ka kb : Ex → Mi Dt} {kt kt' : Ex → Mi Bool} {ks : Ex → Mi (List Dt)}
/-! ### e.f -/
/-! ### isinstance(e, C) -/
end
end Dl
namespace Dl
open PySem PySem.Spec PyProof.Rows L2
/-! ### several named clauses: an error that came, clause by clause -/
section
variable {X : Cx} {pn : List (Addr × Obj)} {σ : L2.St} {H : Hp} {a : Addr} {cls : Value} {d : Option Addr} {t : Shared}
/-- the error a flies over t; what stands without it is as σ and H say -/
structure Came (X : Cx) (pn : List (Addr × Obj)) (σ : L2.St) (H : Hp) (a : Addr) (cls : Value) (d : Option Addr) (t : Shared) : Prop where
  fly : ∃ (G : Heap) (bare : Shared), Inv X pn σ H bare ∧ (∀ x o, bare.heap.get? x = some o → x ∉ frs X.stack → G.get? x = some o) ∧ HandSPX.FlyingZ G X.stack a (Zc cls d) t.heap ∧ bare.heap.UpToSlots t.heap ∧ t.os = bare.os
  free : H a = none
  gens : AllBare t.gens
theorem Came.at_ {h : Heap} {G : Heap} {bare : Shared} (i : Inv X pn σ H bare) (g : ∀ x o, bare.heap.get? x = some o → x ∉ frs X.stack → G.get? x = some o) (f : HandSPX.FlyingZ G X.stack a (Zc cls d) h) (u : bare.heap.UpToSlots h) (o : t.os = bare.os) (free : H a = none) (gens : AllBare t.gens) : Came X pn σ H a cls d { t with heap := h } := ⟨⟨G, bare, i, g, f, u, o⟩, free, gens⟩
/-- the error's object, apart from all frames -/
theorem Came.obj (c : Came X pn σ H a cls d t) (hs : X.stack = X.env :: X.outer) (hf : X.env.frame = some X.env.locals) : ∃ ob vs, t.heap.get? a = some ob ∧ Zc cls d ob ∧ ob.data = .fields vs ∧ a ≠ X.env.locals ∧ a ∉ X.fs := by
  obtain ⟨G, bare, _, _, f, _, _⟩ := c.fly
  obtain ⟨ob, vs, h1, h2, h3⟩ := f.there
  have apart : a ∉ frs X.stack := fun m => by
    obtain ⟨_, o2, h4, h5⟩ := f.2.2.1.mem m
    rw [h1] at h4
    injection h4 with h4
    rw [← h4] at h5
    exact h5 _ h3
  refine ⟨ob, vs, h1, h2, h3, fun z => apart ?_, fun m => apart ?_⟩
  · rw [hs, z]
    exact List.mem_filterMap.mpr ⟨X.env, .head _, hf⟩
  · rw [hs]
    obtain ⟨e, m1, m2⟩ := List.mem_filterMap.mp m
    exact List.mem_filterMap.mpr ⟨e, .tail _ m1, m2⟩
/-- what the clauses hds do with an error: w is what they wish of it -/
def Meets (X : Cx) (hds : List ExceptHandler) (w : Ends → WX) : Prop := ∀ (pn : List (Addr × Obj)) (σ : L2.St) (H : Hp) (a : Addr) (cls : Value) (d : Option Addr) (t : Shared) (D : Ends),
  Came X pn σ H a cls d t → w D cls d σ H → wpAny (model X.prog X.w) X.A (handleBy (.ref a) X.env hds) (SP X pn D) X.xe t
variable {W : WX}
variable {x n : Str} {cv : Value} {i : Nat} {b₀ : Stmt} {suite : List Stmt} {np p1 : Pos} {s : Addr → Value → Option Addr → TS} {w : Ends → WX} {hds : List ExceptHandler}
variable {body : List Stmt} {h₀ : ExceptHandler} {pos : Pos} {tb : WX → TS}
end
/-! ### over data -/
end Dl
namespace Dl
open PySem PySem.Spec PyProof.Rows L2
/-! ### isinstance of values among which own objects may be -/
section
variable {X : Cx} {T : Tx} {π : Nat → Option Pin} {W : WX} {e : Expr} {m : Mi Dt} {F H : Hp}
/-! ### isinstance against an own class, of any value -/
def tys8 : List String := ["NoneType", "bool", "int", "str", "list", "tuple", "dict"]
/-- what isinstance(.., C) asks of the other classes -/
structure IsA (T : Tx) (c : Nat) (C : Addr) : Prop where
  hd : PySem.W.hasDictIn T.K C = true
  ty : PySem.W.typeIn T.K (.ref C) = some (.type "type")
  bt : ∀ t ∈ tys8, PySem.W.subIn T.K (.type t) (.ref C) = some false
  ot : ∀ c' C' ns, (c' = 0 ∨ c' = 1) → T.cl c' = some (C', ns) → C8.InsC T.K C' ∧ (C' ≠ C → PySem.W.subIn T.K (.ref C') (.ref C) = some false) ∧ (C' = C ↔ c' = c)
theorem IsA.cls {c : Nat} {C : Addr} (h : IsA T c C) {t : Value} {b : Bool} (ne : t ≠ .ref C) (s : PySem.W.subIn T.K t (.ref C) = some b) : PySem.W.kitOne T.K t (.ref C) = some b := by
  obtain ⟨cd, hc, _⟩ := PySem.W.any_some h.hd
  unfold PySem.W.kitOne
  have z : (t == Value.ref C) = false := Bool.eq_false_iff.mpr fun q => ne (beq_iff_eq.mp q)
  rw [z, if_neg Bool.false_ne_true]
  show (if ((PySem.W.clsIn T.K C).isSome && PySem.W.typeIn T.K (.ref C) == some (.type "type")) = true then PySem.W.subIn T.K t (.ref C) else none) = some b
  rw [if_pos (by rw [hc, h.ty]; rfl)]
  exact s
end
end Dl
namespace Dl
open PySem PySem.Spec PyProof.Rows L2
/-! ### C(..) and o.m(..) in the body of a try -/
section
variable {X : Cx} {k : Nat} {f C : Addr} {fd : FuncData} {ps : List Str} {sp : Sp} {E : L2.St → XK} {x : Str} {p pos : Pos} {e o : Expr} {es : List Expr} {t ta : TA}
theorem pe_methAt {mn : Str} {apos : Pos} {tt : TE} {pl : Sem Bool} (ho : PE X o tt) (cl : Cls X.K C) (hm : Meth X.K C mn f) (F : FnOk X.prog X.w X.K X.mg X.base (L2.CX X.prog X.w) k f fd ps sp) (room : Room k X.A) (bi : Binds X.K fd ps []) (pa : ∀ σ, PassesAt (L2.CX X.prog X.w) X σ (E σ)) (ha : PA X (e :: es) t)
    (hst : starEach (e :: es) X.env = (false, eval e X.env) :: starEach es X.env := by rfl) (hpl : (backTo pos (starEach es X.env)).any (·.1) = false := by rfl)
    (ht : eval (.Call (.Attribute o mn apos) (e :: es) [] pos) X.env = (do
      let ov ← eval o X.env
      standAt apos.atName
      let (f, first) ← holding [ov] (getMethod ov mn pl)
      callWith pos f first (backTo pos (starEach (e :: es) X.env)) (backToKw pos (keywordEach [] X.env))) := by rfl) :
    PE X (.Call (.Attribute o mn apos) (e :: es) [] pos) (fun σ H Q => tt σ H fun y H1 => ∃ a dx fs, y = V.ref a ∧ H1 a = some (.ins C dx fs) ∧ fs.lookup mn = none ∧ t σ H1 fun vs H2 => sp (V.ref a :: vs ++ []) H2 Q (E σ)) :=
  ⟨fun pn s σ H Q I h => PySem.W.methodCall_KW (pl := pl) (thn (ho.run pn s σ H _ I h) fun u s1 ⟨y, H1, I1, ry, a, dx, fs, ey, ea, lk, q⟩ => by
    subst ey
    obtain rfl : u = Value.ref a := ry
    exact getmeth_ok I1 ea cl hm lk (PySem.W.callWith_K (first := [.ref a]) (h₀ := X.base) I.ok.mod.kin hm.kp (thn (ha.run pos pn s1 σ H1 _ I1 q) fun us s2 ⟨vs, H2, I2, r, q2⟩ => ⟨I2.kIn, run_fnSD (us := .ref a :: us) (vs := .ref a :: vs) F room bi .nil (pa σ) I2 (.cons rfl r) q2⟩) hst hpl)) ht⟩
end
end Dl
namespace L2
open PySem PySem.Spec PyProof.Rows
end L2
namespace L2
open PySem PySem.Spec PyProof.Rows
/-! ### list.count, flat items -/
end L2
namespace L2
open PySem PySem.Spec PyProof.Rows
section
variable {X : Cx} {CX : CXT} {k : Nat} {f : Addr} {fd : FuncData} {ps ks : List Str} {sp : Sp} {E : XK} {x : Str} {p pos : Pos} {kws : List Keyword} {tk : TA} {g : List Value → List Value → List Value} {gV : List V → List V → List V}
theorem PK.imp {t u : TA} (h : PK X kws t) (i : ∀ σ H Q, u σ H Q → t σ H Q) : PK X kws u := ⟨fun pos pins s σ H Q I q => h.run pos pins s σ H Q I (i σ H Q q)⟩
variable {ES : St → XK}
end
end L2
namespace Dl
open PySem PySem.Spec PyProof.Rows L2
/-! ### xs[::k], k worked out: 1 or -1 -/
theorem pick_one (items : Array Value) : slicePick items none none (some 1) = items.toList.toArray := by
  have e : slicePick items none none (some 1) = slicePick items none none none := rfl
  rw [e, slicePick_plain]
  show ((items.toList.drop 0).take (items.size - 0)).toArray = _
  rw [List.drop_zero, List.take_of_length_le (by simp)]
def stepL {α : Type} (k : Int) (xs : List α) : Option (List α) := if k = 1 then some xs else if k = -1 then some xs.reverse else none
def tStepL (K : PySem.W.Frag) (te tk : TE) : TE := fun σ H Q => te σ H fun x H1 => tPart tk σ H1 fun o H2 => ∃ a xs k ys, x = .ref a ∧ o = some k ∧ SqL K H2 a xs ∧ stepL k xs = some ys ∧ ∀ p, H2 p = none → Q (.ref p) (upd H2 p (.lst ys))
theorem pick_step {items : List Value} {k : Int} {ys : List Value} (h : stepL k items = some ys) : slicePick items.toArray none none (some k) = ys.toArray := by
  unfold stepL at h
  by_cases h1 : k = 1
  · rw [if_pos h1] at h; cases h; rw [h1, pick_one]
  · rw [if_neg h1] at h
    by_cases h2 : k = -1
    · rw [if_pos h2] at h; cases h; rw [h2]; exact PySem.W.krv_pick _
    · rw [if_neg h2] at h; cases h
theorem step_len {α : Type} {k : Int} {xs ys : List α} (h : stepL k xs = some ys) : k ≠ 0 ∧ ys.length = xs.length := by
  unfold stepL at h
  by_cases h1 : k = 1
  · rw [if_pos h1] at h; cases h; exact ⟨by omega, rfl⟩
  · rw [if_neg h1] at h
    by_cases h2 : k = -1
    · rw [if_pos h2] at h; cases h; exact ⟨by omega, List.length_reverse⟩
    · rw [if_neg h2] at h; cases h
theorem step_vals {k : Int} {xs ys : List V} {its : List Value} (h : stepL k xs = some ys) (r : Vals xs its) : ∃ its', stepL k its = some its' ∧ Vals ys its' := by
  unfold stepL at h ⊢
  by_cases h1 : k = 1
  · rw [if_pos h1] at h ⊢; cases h; exact ⟨_, rfl, r⟩
  · rw [if_neg h1] at h ⊢
    by_cases h2 : k = -1
    · rw [if_pos h2] at h ⊢; cases h; exact ⟨_, rfl, r.reverse⟩
    · rw [if_neg h2] at h; cases h
section
variable {X : Cx} {e ek : Expr} {te : TE} {tk : TE} {p3 pos : Pos}
theorem pe_stepL (he : PE X e te) (hk : PE X ek tk) : PE X (.Subscript e (.Slice none none (some ek) p3) pos) (tStepL X.K te tk) := by
  refine ⟨fun pins s σ H Q I h => Subscript_ (thn (he.run pins s σ H _ I h) fun v s1 ⟨x, H1, I1, r1, q1⟩ => wpAny_Slice ?_)⟩
  refine thn (po_none.run pins s1 σ H1 (fun o G => o = none ∧ G = H1) I1 ⟨rfl, rfl⟩) fun vl s2 ⟨l, G2, I2, pl, el, e2⟩ => ?_
  refine thn (po_none.run pins s2 σ G2 (fun o G => o = none ∧ G = G2) I2 ⟨rfl, rfl⟩) fun vu s3 ⟨u, G3, I3, pu, eu, e3⟩ => ?_
  subst el e2 eu e3
  refine thn ((po_some hk).run pins s3 σ G3 (fun o H4 => ∃ a xs k ys, x = .ref a ∧ o = some k ∧ SqL X.K H4 a xs ∧ stepL k xs = some ys ∧ ∀ p, H4 p = none → Q (.ref p) (upd H4 p (.lst ys))) I3 ?_) fun vs s4 ⟨o, H4, I4, ps, a, xs, k, ys, ex, eo, hx, hy, q⟩ => ?_
  · exact q1
  · subst ex eo
    cases r1
    have I5 : Inv X pins σ H4 { s4 with heap := s4.heap.push { cls := .type "slice", data := .fields #[vl, vu, vs] } } := I4.kept (t' := s4.toks) fun b ob z => Heap.get?_push_of_some _ z
    obtain ⟨its, r, ht, hz⟩ := I5.list hx
    obtain ⟨its', hs, r'⟩ := step_vals hy r
    obtain ⟨k0, hl⟩ := step_len hy
    have hi : its.length ≤ sizeLine := by rw [← r.length]; exact hz
    show wpAny (model X.prog X.w) X.A (subscriptTail e (.Slice none none (some ek) p3) (.ref a) (.ref s4.heap.objs.size)) (EP X pins σ Q) X.xe { s4 with heap := s4.heap.push { cls := .type "slice", data := .fields #[vl, vu, vs] } }
    refine tail_any (ops := [.ref a, .ref s4.heap.objs.size]) ht.isList.typeIs (PySem.slot_list_getitem.lookup) ?_ rfl
    refine wpAny_getItem_list_slice ht.isList (Heap.IsSliceOf.new _ vl vu vs) pl pu ps (fun z => k0 (Option.some.inj z)) ?_ (by rw [List.size_toArray]; exact hi)
    rw [pick_step hs]
    exact ⟨.ref _, _, I5.laid (t' := s4.toks) (o := .lst ys) (fun b ob z => Heap.get?_push_of_some _ z) (Nat.le_refl _) ⟨by rw [hl]; exact hz, its', 0, r', Heap.get?_push_size _ rfl⟩, rfl, q _ (I5.hok.fresh (Nat.le_refl _))⟩
end
section
variable {X : Cx} {T : Tx} {π : Nat → Option Pin} {W : WX} {e ek : Expr} {p3 pos : Pos} {m mk : Mi Dt}
def fStepN : Dt → Dt → Option Dt
  | .lst xs, .int k => (stepL k xs).map .lst
  | _, _ => none
theorem step_reps {F : Hp} {k : Int} {vs : List V} {xs ys : List Dt} (h : stepL k xs = some ys) (r : Reps T F vs xs) : ∃ ws, stepL k vs = some ws ∧ Reps T F ws ys := by
  unfold stepL at h ⊢
  by_cases h1 : k = 1
  · rw [if_pos h1] at h ⊢; cases h; exact ⟨_, rfl, r⟩
  · rw [if_neg h1] at h ⊢
    by_cases h2 : k = -1
    · rw [if_pos h2] at h ⊢; cases h; exact ⟨_, rfl, r.reverse⟩
    · rw [if_neg h2] at h; cases h
theorem dn_stepL (hK : X.K = T.K) (he : PE X e (TMe T π W m)) (hk : PE X ek (TMe T π W mk)) : PE X (.Subscript e (.Slice none none (some ek) p3) pos) (TMn T π W (m2 fStepN m mk)) :=
  (pe_stepL he hk).imp fun σ H Q ⟨A, F, ρ, k, p⟩ => ⟨A, F, ρ, k, p.bind.imp fun x ρ1 F1 H1 k1 r1 p1 v rv => ⟨A, F1, ρ1, k1, p1.bind.imp fun y ρ2 F2 H2 k2 r2 p2 vy ry => by
    obtain ⟨z, ez, p4⟩ := p2.opt
    rw [hK]
    cases x with
    | lst xs =>
      cases y with
      | int j =>
        have ez : (stepL j xs).map Dt.lst = some z := ez
        cases hj : stepL j xs with
        | none => rw [hj] at ez; cases ez
        | some ys =>
          rw [hj] at ez; cases ez
          obtain ⟨a, vs, e, h, r⟩ := (rv.mono r2.f).s.lst_inv k2.le
          obtain ⟨ws, h1, h2⟩ := step_reps hj r
          exact ⟨j, ry.int_inv, a, vs, j, ws, e, rfl, SqL.of h, h1, fun p hp => p4 F2 _ (k2.newO hp) (.newO hp) p (f_none k2.le hp) (k2.fresh_new hp) (r1.t p (r2.t p hp)) ⟨ws, upd_same, h2⟩ (fun _ z => nomatch z)⟩
      | _ => cases ez
    | _ => cases ez⟩⟩
end
end Dl
namespace Dl
open PySem PySem.Spec PyProof.Rows L2
/-! ### o.m(..) where o is a slot's own object, which m may change -/
section
variable {X : Cx} {T : Tx} {π : Nat → Option Pin} {W : WX} {e : Expr} {es : List Expr} {pos p apos pv_ : Pos} {m : Mi Dt} {ms : Mi (List Dt)} {k n c i : Nat} {f C : Addr} {fd : FuncData} {ps : List Str} {x mn v : Str} {fm : List Dt → Fo} {ns : List Str} {pl : Sem Bool}
theorem pe_methAt0 {o : Expr} {tt : TE} {sp : Sp} {E : L2.St → XK} (ho : PE X o tt) (cl : Cls X.K C) (hm : Meth X.K C mn f) (F : FnOk X.prog X.w X.K X.mg X.base (L2.CX X.prog X.w) k f fd ps sp) (room : Room k X.A) (bi : Binds X.K fd ps []) (pa : ∀ σ, PassesAt (L2.CX X.prog X.w) X σ (E σ))
    (ht : eval (.Call (.Attribute o mn apos) [] [] pos) X.env = (do
      let ov ← eval o X.env
      standAt apos.atName
      let (f, first) ← holding [ov] (getMethod ov mn pl)
      callWith pos f first (backTo pos (starEach [] X.env)) (backToKw pos (keywordEach [] X.env))) := by rfl) :
    PE X (.Call (.Attribute o mn apos) [] [] pos) (fun σ H Q => tt σ H fun y H1 => ∃ a dx fs, y = V.ref a ∧ H1 a = some (.ins C dx fs) ∧ fs.lookup mn = none ∧ sp [V.ref a] H1 Q (E σ)) :=
  ⟨fun pn s σ H Q I h => PySem.W.methodCall_KW (pl := pl) (thn (ho.run pn s σ H _ I h) fun u s1 ⟨y, H1, I1, ry, a, dx, fs, ey, ea, lk, q⟩ => by
    subst ey
    obtain rfl : u = Value.ref a := ry
    exact getmeth_ok I1 ea cl hm lk (PySem.W.callWith_K0 (first := [.ref a]) I1.kIn hm.kp (run_fnS (us := [.ref a]) (vs := [.ref a]) F room bi (pa σ) I1 (.cons rfl .nil) q))) ht⟩
def mMethIo (c n : Nat) (f : List Dt → Fo) (i : Nat) (ms : Mi (List Dt)) : Mi Dt := fun ρ => match ρ[i]? with
  | some (some (.own _ (.ins c' _))) => if c' = c then mCallIo n f i ms ρ else .bad
  | _ => .bad
theorem de_methIo (hv : PE X (.Name v pv_) (tVar i)) (hcl : Cls X.K C) (hmm : Meth X.K C mn f) (G : FnOk X.prog X.w X.K X.mg X.base (L2.CX X.prog X.w) k f fd ps (spM T n true false fm)) (hr : Room k X.A) (hb : Binds X.K fd ps []) (hc : T.cl c = some (C, ns)) (hn : mn ∉ ns) (tk : Takes X W) (ha : PA X (e :: es) (TMa T π W ms))
    (hst : starEach (e :: es) X.env = (false, eval e X.env) :: starEach es X.env := by rfl) (hpl : (backTo pos (starEach es X.env)).any (·.1) = false := by rfl)
    (ht : eval (.Call (.Attribute (.Name v pv_) mn apos) (e :: es) [] pos) X.env = (do
      let ov ← eval (.Name v pv_) X.env
      standAt apos.atName
      let (f, first) ← holding [ov] (getMethod ov mn pl)
      callWith pos f first (backTo pos (starEach (e :: es) X.env)) (backToKw pos (keywordEach [] X.env))) := by rfl) :
    PE X (.Call (.Attribute (.Name v pv_) mn apos) (e :: es) [] pos) (TMe T π W (mMethIo c n fm i ms)) := (pe_methAt (pl := pl) (E := WE W) hv hcl hmm G hr hb (fun σ => passAt tk σ) ha hst hpl ht).imp fun σ H Q ⟨A, F, ρ, k, p⟩ => by
  unfold mMethIo at p
  split at p
  · rename_i io c' dv e0
    by_cases hcc : c' = c
    · subst hcc
      rw [if_pos rfl] at p
      unfold mCallIo at p
      rw [e0] at p
      dsimp only at p
      obtain ⟨a, h1, h2, h3, _⟩ := k.own i io _ e0
      obtain ⟨a', C', dx, ns', vs, e1, q1, q2, q3, q4⟩ := RepS.ins_inv (T := T) (F := F) (v := .ref a) (.inr ⟨a, rfl, h3⟩) k.le
      cases e1
      rw [hc] at q1
      cases q1
      refine ⟨.ref a, h1, a, dx, _, rfl, q2, zip_nokey hn, A, F, ρ, k, p.bind.imp fun ds ρ1 F1 H1 k1 r1 p1 vs rvs => ?_⟩
      show spM T n true false fm (V.ref a :: vs ++ []) H1 Q (WE W σ)
      rw [List.append_nil]
      exact sp_callIo k1 h1 rvs p1 fun d ρ' F' H' v _ rv q => q v rv
    · rw [if_neg hcc] at p; exact p.elim
  · exact p.elim
theorem de_methIo0 (hv : PE X (.Name v pv_) (tVar i)) (hcl : Cls X.K C) (hmm : Meth X.K C mn f) (G : FnOk X.prog X.w X.K X.mg X.base (L2.CX X.prog X.w) k f fd ps (spM T n true false fm)) (hr : Room k X.A) (hb : Binds X.K fd ps []) (hc : T.cl c = some (C, ns)) (hn : mn ∉ ns) (tk : Takes X W)
    (ht : eval (.Call (.Attribute (.Name v pv_) mn apos) [] [] pos) X.env = (do
      let ov ← eval (.Name v pv_) X.env
      standAt apos.atName
      let (f, first) ← holding [ov] (getMethod ov mn pl)
      callWith pos f first (backTo pos (starEach [] X.env)) (backToKw pos (keywordEach [] X.env))) := by rfl) :
    PE X (.Call (.Attribute (.Name v pv_) mn apos) [] [] pos) (TMe T π W (mMethIo c n fm i (mPure []))) := (pe_methAt0 (pl := pl) (E := WE W) hv hcl hmm G hr hb (fun σ => passAt tk σ) ht).imp fun σ H Q ⟨A, F, ρ, k, p⟩ => by
  unfold mMethIo at p
  split at p
  · rename_i io c' dv e0
    by_cases hcc : c' = c
    · subst hcc
      rw [if_pos rfl] at p
      unfold mCallIo at p
      rw [e0] at p
      dsimp only at p
      obtain ⟨a, h1, h2, h3, _⟩ := k.own i io _ e0
      obtain ⟨a', C', dx, ns', vs, e1, q1, q2, q3, q4⟩ := RepS.ins_inv (T := T) (F := F) (v := .ref a) (.inr ⟨a, rfl, h3⟩) k.le
      cases e1
      rw [hc] at q1
      cases q1
      refine ⟨.ref a, h1, a, dx, _, rfl, q2, zip_nokey hn, ?_⟩
      exact sp_callIo (n := n) (rn := false) (f := fm) (vs := []) (ds := []) k h1 .nil p fun d ρ' F' H' v _ rv q => q v rv
    · rw [if_neg hcc] at p; exact p.elim
  · exact p.elim
/-! ### C(), nothing handed in -/
end
/-! ### a dict of the text with text keys and ints -/
end Dl
namespace Dl
open PySem PySem.Spec PyProof.Rows L2
/-! ### len(x) of a slot's own object, by its __len__ -/
section
variable {X : Cx} {T : Tx} {π : Nat → Option Pin} {W : WX} {e : Expr} {c i : Nat} {C : Addr} {ns : List Str} {fm : List Dt → Fo} {ok : Dt → Bool} {vk : V → Prop}
def mOwn1Io (c : Nat) (fm : List Dt → Fo) (ok : Dt → Bool) (i : Nat) : Mi Dt := fun ρ => match ρ[i]? with
  | some (some (.own io (.ins c' dv))) => if c' = c then (match fm [.ins c' dv] with
    | .ret z o => if ok z = true then .ok z (ρ.set i (some (.own io o))) else .bad
    | _ => .bad) else .bad
  | _ => .bad
theorem de_own1Io (h : PE X e (tCB (rOwn C (spM T 1 true false fm) vk) (tCons (tVar i) tNil))) (hc : T.cl c = some (C, ns)) (hv : ∀ d v F, ok d = true → Rep T F v d → vk v) : PE X e (TMe T π W (mOwn1Io c fm ok i)) := h.imp fun σ H Q ⟨A, F, ρ, k, p⟩ => by
  unfold mOwn1Io at p
  split at p
  · rename_i io c' dv e0
    by_cases hcc : c' = c
    · subst hcc
      rw [if_pos rfl] at p
      obtain ⟨a, h1, h2, h3, _⟩ := k.own i io _ e0
      obtain ⟨a', C', dx, ns', vs, e1, q1, q2, q3, q4⟩ := RepS.ins_inv (T := T) (F := F) (v := .ref a) (.inr ⟨a, rfl, h3⟩) k.le
      cases e1
      rw [hc] at q1
      cases q1
      refine ⟨.ref a, h1, a, dx, _, rfl, q2, ?_⟩
      cases ef : fm [.ins c' dv] with
      | ret z o =>
        rw [ef] at p
        dsimp only at p
        by_cases ho : ok z = true
        · rw [if_pos ho] at p
          have pp : Post T π (fun _ _ _ _ => False) σ A F H (fun d _ F' H' => ∀ v, Rep T F' v d → vk v ∧ Q v H') (match ρ[i]? with
            | some (some (.own io d)) => if ([] : List Dt).length + 1 = 1 then (match fm (d :: []) with
              | .ret r o => Ou.ok r (ρ.set i (some (.own io o)))
              | .exc x o => .exc x (ρ.set i (some (.own io o)))
              | .bad => .bad) else .bad
            | _ => .bad) := by
            rw [e0]; dsimp only
            rw [if_pos (show ([] : List Dt).length + 1 = 1 from rfl), ef]
            exact fun F' H' k' r' v rv => ⟨hv z v F' ho rv, p F' H' k' r' v rv⟩
          exact sp_callIo (W := fun _ _ _ _ => False) (n := 1) (rn := false) (f := fm) (vs := []) (ds := []) k h1 .nil pp fun d ρ' F' H' v _ rv q => q v rv
        · rw [if_neg ho] at p; exact p.elim
      | exc x o => rw [ef] at p; exact p.elim
      | bad => rw [ef] at p; exact p.elim
    · rw [if_neg hcc] at p; exact p.elim
  · exact p.elim
end
end Dl
namespace Dl
open PySem PySem.Spec PyProof.Rows L2
/-! ### sorted() of lots of pairs, any number of them, the first one empty -/
def flP : List (Int × Int) → List Int
  | [] => []
  | x :: r => x.1 :: x.2 :: flP r
end Dl
namespace Dl
open PySem PySem.Spec PyProof.Rows L2
/-! ### lots in order -/
def LLe (a b : List (Int × Int)) : Prop := HT.lexLt (flP b) (flP a) = false
instance (a b : List (Int × Int)) : Decidable (LLe a b) := by unfold LLe; infer_instance
theorem LLe.refl (a : List (Int × Int)) : LLe a a := by
  unfold LLe
  cases e : HT.lexLt (flP a) (flP a) with
  | false => rfl
  | true => have := NtL.lex_asym _ _ e; rw [e] at this; cases this
theorem LLe.trans {a b c : List (Int × Int)} (h : LLe a b) (k : LLe b c) : LLe a c := NtL.lex_tr _ _ _ h k
/-! ### as a rule -/
end Dl
namespace HNt
open PySem PySem.SeqAt PySem.Spec PyProof.Rows L2
open AutoSeq1 (wpAny_loadPart')
open MeetsSeq MeetsSeq2 MeetsSeq3 SeqRoads2
/-! ### tuple != tuple, whose things are equal pair by pair, own objects among them -/
section
variable {prog : Program} {w : World} {A : Around} {R : Result → Shared → Prop}
/-- pair by pair all are equal, and each asking keeps what I says -/
def Pairs (prog : Program) (w : World) (A : Around) (E : Value → Shared → Prop) (ps : List (Value × Value)) (I : Nat → Shared → Prop) : Prop :=
  ∀ k x y s, ps[k]? = some (x, y) → I k s → wpAny (model prog w) A.in1 (eqBool x y) (fun r s' => r = true ∧ I (k + 1) s') E s
theorem ne_body {l b : Addr} {xs ys : Array Value} {n n2 : Nat} {dd dd2 : Option Addr} {sl sl2 : Array (Option Value)} (hz : xs.size = ys.size) (I : Nat → Shared → Prop)
    (hp : Pairs prog w A (fun e s' => R (.error e) s') (xs.toList.zip ys.toList) I) (he : ∀ s, I xs.size s → R (.ok (.ret (.bool false))) s) {s : Shared}
    (h1 : s.heap.get? l = some { cls := .type "tuple", dict := dd, data := .seq xs n, slots := sl }) (h2 : s.heap.get? b = some { cls := .type "tuple", dict := dd2, data := .seq ys n2, slots := sl2 }) (h0 : I 0 s) :
    wpAny (model prog w) A.in1 (Builtin.«tuple.__ne__» ⟨[.ref l, .ref b], []⟩) (GQ.FinOf prog w A R) (fun e s' => R (.error e) s') s := by
  have st := AutoSeq1.sub_tuple_tuple
  have i0 := h0
  obtain ⟨hp1, g, d, tk, os⟩ := s
  wp_walk using wpAny_loadPart' h1, wpAny_loadPart' h2, wpAny_forIn_list _ (fun left z s' => z.1 = none ∧ ∃ gone, xs.toList.zip ys.toList = gone ++ left ∧ I gone.length s') _
  case turn =>
    rintro ⟨x, y⟩ left z s' ⟨z0, gone, e, i⟩
    have hk : (xs.toList.zip ys.toList)[gone.length]? = some (x, y) := by rw [e]; simp
    refine wpAny_bind (wpAny_mono (hp _ _ _ _ hk i) (fun r s2 q => ?_) fun _ _ x => x)
    obtain ⟨rfl, q⟩ := q
    wp_walk
    exact ⟨rfl, gone ++ [(x, y)], by rw [e]; simp, by simpa using q⟩
  case fin =>
    rintro ⟨z1, z2⟩ s' ⟨z0, gone, e, i⟩
    simp only at z0
    subst z0
    have hl : gone.length = xs.size := by
      have := congrArg List.length e
      simp [hz] at this
      omega
    have hR := he s' (hl ▸ i)
    wp_walk
    simpa [Builtin.Tuple.tupleCompareSizes, hz] using hR
  case h => exact ⟨rfl, [], rfl, i0⟩
end
section
variable {X : Cx} {n : Nat} {D : Eqv}
def rNeT (K : PySem.W.Frag) (D : Eqv) : R2 := fun x y H Q => DTup K D x y H ∧ ∀ H', Ext H H' → Q (.bl false) H'
theorem op_neT (hD : Mon D) (h : EqG X n D) (hr : Room (n + 1) X.A) : OpR X (compareOp .NotEq) (rNeT X.K D) := by
  intro pins s σ H x y v u Q I rx ry hq
  obtain ⟨⟨a, b, xs, ys, rfl, rfl, ha, hb, p⟩, q⟩ := hq
  cases rx
  cases ry
  obtain ⟨its, r, e, z⟩ := I.tuple ha
  obtain ⟨its2, r2, e2, z2⟩ := I.tuple hb
  have hsz : its.toArray.size = its2.toArray.size := by rw [List.size_toArray, List.size_toArray, ← r.length, ← r2.length]; exact p.1
  obtain ⟨⟨cls, dd, data, sl⟩, ho, hc, m, hd⟩ := id e
  obtain ⟨⟨cls2, dd2, data2, sl2⟩, ho2, hc2, m2, hd2⟩ := id e2
  simp only at hc hd hc2 hd2
  subst hc hd hc2 hd2
  have sb : Sub X (n + 1) X.A := ⟨hr, rfl⟩
  show wpAny (model X.prog X.w) X.A (richCompare .NotEq (.ref a) (.ref b)) (EP X pins σ Q) X.xe s
  refine wpAny_richCompare_same_room (op := .NotEq) ⟨_, ho, rfl⟩ ⟨_, ho2, rfl⟩ F.slot_tuple_ne (GQ.call_here F.slot_tuple_ne ⟨_, ho, rfl⟩ F.entry_tuple_ne (F.args_tuple_ne_2 _ _) ?_) hr.units0
  refine ne_body (R := wants (fun v s' => v ≠ .notImplemented ∧ EP X pins σ Q v s') X.xe) hsz (fun _ s' => LoopI X pins σ H s') (fun k x y s' hk i => ?_) (fun s' i => ?_) ho ho2 ⟨H, I, Ext.rfl'⟩
  · have hk1 : k < (its.toArray.toList.zip its2.toArray.toList).length := by
      rcases Nat.lt_or_ge k (its.toArray.toList.zip its2.toArray.toList).length with z | z
      · exact z
      · rw [List.getElem?_eq_none z] at hk; cases hk
    have k1 : k < its.toArray.size := by simp at hk1 ⊢; omega
    have k2 : k < its2.toArray.size := hsz ▸ k1
    have t := turnG hD h sb p r r2 k k1 k2 s' i
    rw [List.getElem?_eq_getElem hk1] at hk
    have hk := Option.some.inj hk
    have ex : x = its.toArray[k] := by have := congrArg Prod.fst hk; simpa using this.symm
    have ey : y = its2.toArray[k] := by have := congrArg Prod.snd hk; simpa using this.symm
    rw [ex, ey]
    exact t
  · obtain ⟨H1, I1, e1⟩ := i
    exact ⟨(fun x => nomatch x), .bl false, H1, I1, rfl, q H1 e1⟩
end
end HNt
namespace Dl
open PySem PySem.Spec PyProof.Rows L2 HNt
/-! ### what is read of them -/
def flatEq : Dt → Dt → Bool
  | .non, .non => true
  | .bl a, .bl b => a == b
  | .int a, .int b => a == b
  | .str a, .str b => a == b
  | _, _ => false
def flatEqs : List Dt → List Dt → Bool
  | [], [] => true
  | x :: xs, y :: ys => flatEq x y && flatEqs xs ys
  | _, _ => false
def isYes : Fo → Bool
  | .ret (.bl true) _ => true
  | _ => false
/-- two things that are surely equal: flat ones, rows of flat ones, objects whose own == says so -/
def sureEq (c : Nat) (fm : List Dt → Fo) : Dt → Dt → Bool
  | .ins c1 x, .ins c2 y => decide (c1 = c) && (decide (c2 = c) && isYes (fm [.ins c1 x, .ins c2 y]))
  | .tup xs, .tup ys => flatEqs xs ys
  | x, y => flatEq x y
def sureEqs (c : Nat) (fm : List Dt → Fo) : List Dt → List Dt → Bool
  | [], [] => true
  | x :: xs, y :: ys => sureEq c fm x y && sureEqs c fm xs ys
  | _, _ => false
def fNeT (c : Nat) (fm : List Dt → Fo) : Dt → Dt → Option Dt
  | .tup xs, .tup ys => if sureEqs c fm xs ys = true then some (.bl false) else none
  | _, _ => none
section
variable {X : Cx} {T : Tx} {F H : Hp} {C f : Addr} {c k : Nat} {ns : List Str} {fm : List Dt → Fo} {fd : FuncData} {ps : List Str}
/-- what an own == is asked of -/
def saysEq (T : Tx) (fm : List Dt → Fo) (a b : Addr) (H : Hp) : Prop := ∃ F d e o, Le F H ∧ Rep T F (.ref a) d ∧ Rep T F (.ref b) e ∧ fm [d, e] = .ret (.bl true) o
theorem saysEq_mon (a b : Addr) (H H' : Hp) (x : Ext H H') (h : saysEq T fm a b H) : saysEq T fm a b H' := by
  obtain ⟨F, d, e, o, le, h⟩ := h
  exact ⟨F, d, e, o, fun y u z => x y u (le y u z), h⟩
theorem says_fn (G : FnOk X.prog X.w X.K X.mg X.base (L2.CX X.prog X.w) k f fd ps (spM T 2 false false fm)) : FnOk X.prog X.w X.K X.mg X.base (L2.CX X.prog X.w) k f fd ps (spEq (saysEq T fm)) := G.imp fun vs H Q E ⟨a, b, ev, ⟨F, d, e, o, le, r1, r2, hf⟩, q⟩ => by
  subst ev
  refine ⟨F, [d, e], none, rfl, le, ⟨.cons r1 (.cons r2 .nil), rfl⟩, ?_⟩
  rw [hf]
  exact fun F' H' u le' fr _ ru => by
    rw [Rep.bl_inv ru]
    exact q H' fun y u z => fr.h y u (fun ⟨_, z, _⟩ => nomatch z) z
theorem no_pass : Passes (L2.CX X.prog X.w) X (fun _ _ _ => False) := by
  intro pins σ H s e s' I hq
  unfold L2.CX at hq
  obtain ⟨_, _, _, _, _, _, _, _, _, _, _, _, z⟩ := hq
  exact z.elim
abbrev eqD (T : Tx) (K : PySem.W.Frag) (C : Addr) (fm : List Dt → Fo) : Eqv := fun x y H => DFlat x y H ∨ (DTup K DFlat x y H ∨ DIns C (saysEq T fm) x y H)
theorem eqD_mon : Mon (eqD T X.K C fm) := Mon.or mon_flat (Mon.or (mon_tup mon_flat) (mon_ins saysEq_mon))
theorem eqD_eq (G : FnOk X.prog X.w X.K X.mg X.base (L2.CX X.prog X.w) k f fd ps (spM T 2 false false fm)) (hb : Binds X.K fd ps []) (hs : PySem.W.findIn X.K (.ref C) "__eq__" = some (some (.ref f))) (hf : PySem.W.isFn X.K (.ref f) = true) : EqG X (k + 1) (eqD T X.K C fm) :=
  (eqG_flat.mono (Nat.zero_le _)).or (((eqG_tup mon_flat eqG_flat).mono (by omega)).or ((eqG_ins (says_fn G) hs hf hb no_pass).mono (by omega)))
theorem flatEq_v {v w : V} {d e : Dt} (rv : Rep T F v d) (rw' : Rep T F w e) (h : flatEq d e = true) : DFlat v w H := by
  unfold flatEq at h
  split at h
  · cases rv; cases rw'; exact ⟨rfl, rfl, rfl⟩
  · cases rv; cases rw'; exact ⟨rfl, rfl, h⟩
  · cases rv; cases rw'; exact ⟨rfl, rfl, h⟩
  · cases rv; cases rw'; exact ⟨rfl, rfl, h⟩
  · cases h
theorem flatEqs_v : ∀ {xs ys : List V} {ds es : List Dt}, Reps T F xs ds → Reps T F ys es → flatEqs ds es = true → Prs DFlat xs ys H
  | _, _, _, _, .nil, .nil, _ => Prs.nil
  | _, _, _, _, .cons r1 r2, .cons s1 s2, h => by
    unfold flatEqs at h
    rw [Bool.and_eq_true] at h
    exact Prs.cons (flatEq_v r1 s1 h.1) (flatEqs_v r2 s2 h.2)
  | _, _, _, _, .nil, .cons _ _, h => by cases h
  | _, _, _, _, .cons _ _, .nil, h => by cases h
theorem sureEq_v (hc : T.cl c = some (C, ns)) (le : Le F H) {v w : V} {d e : Dt} (rv : Rep T F v d) (rw' : Rep T F w e) (h : sureEq c fm d e = true) : eqD T T.K C fm v w H := by
  unfold sureEq at h
  split at h
  · simp only [Bool.and_eq_true, decide_eq_true_eq] at h
    obtain ⟨h1, h2, h3⟩ := h
    subst h1 h2
    refine .inr (.inr ?_)
    obtain ⟨a, C1, dx, ns1, vs, e1, q1, q2, q3, q4⟩ := rv.s.ins_inv le
    obtain ⟨b, C2, dy, ns2, ws, e2, p1, p2, p3, p4⟩ := rw'.s.ins_inv le
    rw [hc] at q1 p1
    cases q1
    cases p1
    subst e1 e2
    unfold isYes at h3
    split at h3
    · rename_i o ho
      exact ⟨a, b, dx, dy, _, _, rfl, rfl, q2, p2, F, _, _, o, le, rv, rw', ho⟩
    · cases h3
  · refine .inr (.inl ?_)
    obtain ⟨a, vs, e1, q1, r1⟩ := rv.tup_inv
    obtain ⟨b, ws, e2, q2, r2⟩ := rw'.tup_inv
    exact ⟨a, b, vs, ws, e1, e2, sqt_mono le q1, sqt_mono le q2, flatEqs_v r1 r2 h⟩
  · exact .inl (flatEq_v rv rw' h)
theorem sureEqs_v (hc : T.cl c = some (C, ns)) (le : Le F H) : ∀ {xs ys : List V} {ds es : List Dt}, Reps T F xs ds → Reps T F ys es → sureEqs c fm ds es = true → Prs (eqD T T.K C fm) xs ys H
  | _, _, _, _, .nil, .nil, _ => Prs.nil
  | _, _, _, _, .cons r1 r2, .cons s1 s2, h => by
    unfold sureEqs at h
    rw [Bool.and_eq_true] at h
    exact Prs.cons (sureEq_v hc le r1 s1 h.1) (sureEqs_v hc le r2 s2 h.2)
  | _, _, _, _, .nil, .cons _ _, h => by cases h
  | _, _, _, _, .cons _ _, .nil, h => by cases h
theorem os_neT (hc : T.cl c = some (C, ns)) : OpK T (rNeT T.K (eqD T T.K C fm)) (fNeT c fm) := fun π A F H σ ρ v w d e z Q k rv rw' ez q => by
  unfold fNeT at ez
  split at ez
  · split at ez
    · rename_i hq
      cases ez
      obtain ⟨a, vs, e1, q1, r1⟩ := rv.tup_inv
      obtain ⟨b, ws, e2, q2, r2⟩ := rw'.tup_inv
      refine ⟨⟨a, b, vs, ws, e1, e2, sqt_mono k.le q1, sqt_mono k.le q2, sureEqs_v hc k.le r1 r2 hq⟩, fun H' x => ?_⟩
      have le' : Le F H' := fun y u z => x y u (k.le y u z)
      have fr : Fr (pinA none) F H F H' := ⟨le_refl F, fun y u _ z => x y u z, fun _ _ _ _ _ => rfl, fun y z => by
        cases hy : H y with
        | none => rfl
        | some o => rw [x y o hy] at z; cases z⟩
      exact q F H' _ (k.called le' fr) (fr.weak fun a ⟨_, z, _⟩ => nomatch z) (.bl _)
    · cases ez
  · cases ez
/-- x != y of two such rows -/
theorem op_neTD (hK : X.K = T.K) (G : FnOk X.prog X.w X.K X.mg X.base (L2.CX X.prog X.w) k f fd ps (spM T 2 false false fm)) (hb : Binds X.K fd ps []) (hr : Room (k + 2) X.A) (hs : PySem.W.findIn X.K (.ref C) "__eq__" = some (some (.ref f))) (hf : PySem.W.isFn X.K (.ref f) = true) : OpR X (compareOp .NotEq) (rNeT T.K (eqD T T.K C fm)) := by
  rw [← hK]
  exact op_neT eqD_mon (eqD_eq G hb hs hf) hr
end
end Dl
namespace HNl
open PySem PySem.SeqAt PySem.Spec PyProof.Rows L2
/-! ### xs != [], whatever stands in the list -/
variable {X : Cx}
def rNeLen : R2 := fun x y H Q => ∃ a b xs, x = .ref a ∧ y = .ref b ∧ H a = some (.lst xs) ∧ H b = some (.lst []) ∧ Q (.bl (!xs.isEmpty)) H
theorem op_neLen (hu : X.A.units < cLine) : OpR X (compareOp .NotEq) rNeLen := by
  intro pins s σ H x y v u Q I rx ry h
  obtain ⟨a, b, xs, rfl, rfl, ha, hb, q⟩ := h
  cases rx
  cases ry
  obtain ⟨z, its, k, r, e⟩ := I.hok a _ ha
  obtain ⟨z2, its2, k2, r2, e2⟩ := I.hok b _ hb
  have l1 : s.heap.IsList a its.toArray := ⟨_, e, rfl, _, rfl⟩
  have l2 : s.heap.IsList b its2.toArray := ⟨_, e2, rfl, _, rfl⟩
  have n2 : its2 = [] := List.length_eq_zero_iff.mp r2.length.symm
  show wpAny (model X.prog X.w) X.A (richCompare .NotEq (.ref a) (.ref b)) (EP X pins σ Q) X.xe s
  have en : EP X pins σ Q (.bool (!xs.isEmpty)) s := ⟨.bl (!xs.isEmpty), H, I, rfl, q⟩
  cases xs with
  | nil =>
    have n1 : its = [] := List.length_eq_zero_iff.mp r.length.symm
    have hz : its.toArray.size = its2.toArray.size := by rw [n1, n2]
    have g := RcNeAt.lists (A := X.A) (e := fun _ => true) l1 l2 hz hu (fun j h1 _ => absurd h1 (by rw [n1]; simp))
    rw [n1] at g
    exact g X.prog X.w X.xe _ en
  | cons y ys =>
    have hz : (its.toArray.size != its2.toArray.size) = true := by
      have := r.length
      rw [n2]
      simp at this ⊢
      intro z
      rw [z] at this
      cases this
    exact (RcNeAt.lists_lengths (A := X.A) l1 l2 hz hu) X.prog X.w X.xe _ en
end HNl
namespace Dl
open PySem PySem.Spec PyProof.Rows L2 HNl
section
variable {X : Cx} {T : Tx} {π : Nat → Option Pin} {W : WX} {e : Expr} {ma : Mi Dt}
def fNeLen : Dt → Dt → Option Dt
  | .lst xs, .lst [] => some (.bl (!xs.isEmpty))
  | _, _ => none
theorem op_neLenD (hu : X.A.units + 64 < cLine) : OpR X (compareOp .NotEq) rNeLen := op_neLen (by omega)
theorem os_neLen : OpS T rNeLen fNeLen := ops_pure fun F H v w d e z Q le rv rw' ef q => by
  unfold fNeLen at ef
  split at ef
  · rename_i xs
    cases ef
    obtain ⟨a, vs, e1, h1, r1⟩ := rv.lst_inv le
    obtain ⟨b, ws, e2, h2, r2⟩ := rw'.lst_inv le
    cases r2
    refine ⟨a, b, vs, e1, e2, h1, h2, ?_⟩
    have : vs.isEmpty = xs.isEmpty := by cases r1 <;> rfl
    rw [this]
    exact q _ (.bl _)
  · cases ef
theorem de_nil {r : R2} {f : Dt → Dt → Option Dt} (h : PE X e (tOp r (TMp T π W ma) (tLst tNil))) (hs : OpS T r f) : PE X e (TMe T π W (m1 (fun d => f d (.lst [])) ma)) := h.imp fun σ H Q ⟨A, F, ρ, k, p⟩ => by
  refine ⟨A, F, ρ, k, p.bind.imp fun x ρ1 F1 H1 k1 r1 p1 v rv => ⟨by decide, fun q hq => ?_⟩⟩
  obtain ⟨z, ez, p3⟩ := p1.opt
  have k2 := k1.newO (o := .lst []) hq
  have rv2 : RepS T F1 (upd H1 q (.lst [])) v x := rv.grow (le_refl _) fun a o e => le_new hq a o e
  have rq : RepS T F1 (upd H1 q (.lst [])) (.ref q) (.lst []) := .inr ⟨q, rfl, [], upd_same, .nil⟩
  exact hs π A F1 (upd H1 q (.lst [])) σ ρ1 v (.ref q) x (.lst []) z _ k2 rv2 rq ez fun F' H' u k' r' ru => p3 F' H' k' ((Fr.newO hq).trans r') u ru
end
end Dl
namespace Dl
open PySem PySem.Spec PyProof.Rows L2
/-! ### the mirrors -/
def b_Live_len : En → So :=
  (sRet (m1 fLen (m1 (fAttr ix_past) (mPeek 0))))
def m_Live_len : List Dt → Fo := runF 1 true false b_Live_len
def b_law_look_at : En → So :=
  (sRet (mTup (mCons (m1 (fAttr ix_season) (mPeek 0)) (mCons (m1 (fAttr ix_is_possible) (mPeek 0)) (mCons (m1 (fAttr ix_sure) (mPeek 0)) (mCons (mOwn1Io 5 m_Live_len okLen 0) (mPure [])))))))
def m_law_look_at : List Dt → Fo := runF 1 true false b_law_look_at
def b_Live_show_k70 : En → So :=
  (sSeq (sFput 0 ix_season (mVar 1))
  (sSeq (sFput 0 ix_is_possible (mCall 1 m_possible (mCons (mVar 1) (mPure []))))
  (sSeq (sFput 0 ix_sure (m1 fTuple (mLc (mRng1 (mCons (m1 (fAttr ix_wheels) (mPeek 1)) (mPure []))) (gV 2) (mPure true) (mPure .non) [2])))
  (sIf (mB (m1 (fAttr ix_is_possible) (mPeek 0))) (sFput 0 ix_sure (mCall 2 m_sure_sides (mCons (mVar 1) (mCons (m1 (fAttr ix_days) (mPeek 1)) (mPure []))))) (fun ρ => .nx ρ)))))
def m_Live_show_k70 : List Dt → Fo := runF 3 true false b_Live_show_k70
def b_Live_init_k70 : En → So :=
  (sSeq (sFput 0 ix_past (mTup (mPure [])))
  (sDrop (mMethIo 5 2 m_Live_show_k70 0 (mCons (mVar 1) (mPure [])))))
def m_Live_init_k70 : List Dt → Fo := runF 2 true false b_Live_init_k70
def b_Live_go_on_k70 : En → So :=
  (sSeq (sFput 0 ix_past (mTup (mStar (m1 (fAttr ix_past) (mPeek 0)) (mCons (m1 (fAttr ix_season) (mPeek 0)) (mPure [])))))
  (sDrop (mMethIo 5 2 m_Live_show_k70 0 (mCons (mVar 1) (mPure [])))))
def m_Live_go_on_k70 : List Dt → Fo := runF 2 true false b_Live_go_on_k70
def b_Live_undo_k70 : En → So :=
  (sSeq (sIf (mB (m2 fEq (m1 fLen (m1 (fAttr ix_past) (mPeek 0))) (mPure (.int 0)))) (sRet (mPure (.bl false))) (fun ρ => .nx ρ))
  (sSeq (sSet 1 (m2 fIx (m1 (fAttr ix_past) (mPeek 0)) (m1 fNeg (mPure (.int 1)))))
  (sSeq (sFput 0 ix_past (mSl (m1 (fAttr ix_past) (mPeek 0)) (mPure none) (mPart (m1 fNeg (mPure (.int 1))))))
  (sSeq (sDrop (mMethIo 5 2 m_Live_show_k70 0 (mCons (mVar 1) (mPure []))))
  (sRet (mPure (.bl true)))))))
def m_Live_undo_k70 : List Dt → Fo := runF 2 true false b_Live_undo_k70
def b_Live_look_k70 : En → So :=
  (sSeq (sSet 4 (mTup (mCons (mVar 1) (mCons (mVar 2) (mCons (mVar 3) (mPure []))))))
  (sSeq (sIf (mNot (mB (mCall 3 m_is_look (mCons (mVar 4) (mCons (m1 (fAttr ix_rota) (m1 (fAttr ix_season) (mPeek 0))) (mCons (m1 (fAttr ix_days) (m1 (fAttr ix_season) (mPeek 0))) (mPure []))))))) (fun _ => .bad) (fun ρ => .nx ρ))
  (sSeq (sDrop (mMethIo 5 2 m_Live_go_on_k70 0 (mCons (mMeth 1 2 m_Season_seen (m1 (fAttr ix_season) (mPeek 0)) (mCons (mLst (mCons (mVar 4) (mPure []))) (mPure []))) (mPure []))))
  (sRet (m1 (fAttr ix_is_possible) (mPeek 0))))))
def m_Live_look_k70 : List Dt → Fo := runF 5 true false b_Live_look_k70
def b_Live_several_k70 : En → So :=
  (sSeq (sFor (mSeqI (mVar 1)) (gV 2) (sIf (mNot (mB (mCall 3 m_is_look (mCons (mVar 2) (mCons (m1 (fAttr ix_rota) (m1 (fAttr ix_season) (mPeek 0))) (mCons (m1 (fAttr ix_days) (m1 (fAttr ix_season) (mPeek 0))) (mPure []))))))) (fun _ => .bad) (fun ρ => .nx ρ)))
  (sSeq (sIf (mB (m2 fGt (m1 fLen (mPeek 1)) (mPure (.int 0)))) (sDrop (mMethIo 5 2 m_Live_go_on_k70 0 (mCons (mMeth 1 2 m_Season_seen (m1 (fAttr ix_season) (mPeek 0)) (mCons (mVar 1) (mPure []))) (mPure [])))) (fun ρ => .nx ρ))
  (sRet (m1 (fAttr ix_is_possible) (mPeek 0)))))
def m_Live_several_k70 : List Dt → Fo := runF 3 true false b_Live_several_k70
def b_Live_follow_k70 : En → So :=
  (sDrop (mMethIo 5 2 m_Live_go_on_k70 0 (mCons (mVar 1) (mPure []))))
def m_Live_follow_k70 : List Dt → Fo := runF 2 true false b_Live_follow_k70
def lp_law_0 : En → So :=
  (sSeq (sPars [10, 11] [false, false] (mCons (mCallIo 2 m_law_take 2 (mCons (mPure (.int 6)) (mPure []))) (mCons (mCallIo 1 m_law_look_at 7 (mPure [])) (mPure []))))
  (sSeq (sIf (mB (m2 fEq (mVar 10) (mPure (.int 0)))) (sSeq (sIf (mB (m2 fNe (mMethIo 5 1 m_Live_undo_k70 7 (mPure [])) (m1 (fun d => fNeLen d (.lst [])) (mPeek 8)))) (sRet (mPure (.bl false))) (fun ρ => .nx ρ))
  (sSeq (sIf (mAnd (mB (m1 (fun d => fNeLen d (.lst [])) (mPeek 8))) (mB (m2 (fNeT 1 m_Season_eq) (mCallIo 1 m_law_look_at 7 (mPure [])) (hasSl 8 (mIxV 8 (m1 fNeg (mPure (.int 1)))))))) (sRet (mPure (.bl false))) (fun ρ => .nx ρ))
  (sSeq (sSetN 8 (mSlN (mVar 8) (mPure none) (mPart (m1 fNeg (mPure (.int 1))))))
  (fun ρ => .ct ρ)))) (fun ρ => .nx ρ))
  (sSeq (sSet 12 (mCallIo 2 m_law_pick 2 (mCons (mLst (mCons (mVar 5) (mCons (mVar 6) (mCons (m1 (fAttr ix_season) (mPeek 7)) (mPure []))))) (mPure []))))
  (sSeq (sIf (mAnd (mB (m2 fEq (mVar 10) (mPure (.int 1)))) (mB (m2 fNotN (mMethIo 5 2 m_Live_follow_k70 7 (mCons (mVar 12) (mPure []))) (mPure .non)))) (sRet (mPure (.bl false))) (fun ρ => .nx ρ))
  (sSeq (sIf (mAnd (mB (m2 fEq (mVar 10) (mPure (.int 2)))) (mB (m2 fNotInA (mMethIo 5 2 m_Live_several_k70 7 (mCons (mLst (mCons (mTup (mCons (mPure (.int 0)) (mCons (mPure (.int 0)) (mCons (mPure (.int 0)) (mPure []))))) (mCons (mTup (mCons (mPure (.int 1)) (mCons (mPure (.int 0)) (mCons (mPure (.int 0)) (mPure []))))) (mPure [])))) (mPure []))) (mTup (mCons (mPure (.bl true)) (mCons (mPure (.bl false)) (mPure []))))))) (sRet (mPure (.bl false))) (fun ρ => .nx ρ))
  (sSeq (sPars [13, 14] [false, false] (mCons (mCallIo 2 m_law_take 2 (mCons (mPure (.int 2)) (mPure []))) (mCons (mCallIo 2 m_law_take 2 (mCons (mPure (.int 2)) (mPure []))) (mPure []))))
  (sSeq (sIf (mAnd (mB (m2 fGt (mVar 10) (mPure (.int 2)))) (mB (m2 fNotInA (mMethIo 5 4 m_Live_look_k70 7 (mCons (mVar 13) (mCons (mPure (.int 0)) (mCons (mVar 14) (mPure []))))) (mTup (mCons (mPure (.bl true)) (mCons (mPure (.bl false)) (mPure []))))))) (sRet (mPure (.bl false))) (fun ρ => .nx ρ))
  (sSeq (sDrop (ownLst 8 (mAppend 8 (mVar 11))))
  (sIf (mB (m2 fNe (mOwn1Io 5 m_Live_len okLen 7) (m1 fLen (mPeek 8)))) (sRet (mPure (.bl false))) (fun ρ => .nx ρ))))))))))
def lp_law_1 : En → So :=
  (sIf (mOr (mB (m2 fNotB (mMethIo 5 1 m_Live_undo_k70 7 (mPure [])) (mPure (.bl true)))) (mB (m2 (fNeT 1 m_Season_eq) (mCallIo 1 m_law_look_at 7 (mPure [])) (mVar 11)))) (sRet (mPure (.bl false))) (fun ρ => .nx ρ))
def lp_law_2 : En → So :=
  (sSeq (sSetN 2 (mCall 3 m_law_box (mCons (mVar 0) (mCons (mVar 1) (mCons (mPure (.int 70)) (mPure []))))))
  (sSeq (sPars [3, 4] [false, false] (mCons (mCallIo 2 m_law_season 2 (mCons (mPure (.int 2)) (mPure []))) (mCons (mCallIo 2 m_law_season 2 (mCons (mPure (.int 2)) (mPure []))) (mPure []))))
  (sSeq (sPars [5, 6] [false, false] (mCons (mCall 1 m_law_of (mCons (mVar 3) (mPure []))) (mCons (mCall 1 m_law_of (mCons (mVar 4) (mPure []))) (mPure []))))
  (sSeq (sPars [7, 8] [true, true] (mCons (mMake 5 2 m_Live_init_k70 (mCons (mVar 5) (mPure []))) (mCons (mLst (mPure [])) (mPure []))))
  (sSeq (sFor (mRng1 (mCons (mCallIo 2 m_law_pick 2 (mCons (mLst (mCons (mPure (.int 14)) (mCons (mPure (.int 36)) (mPure [])))) (mPure []))) (mPure []))) (gV 9) lp_law_0)
  (sSeq (sFor (mSeqI (m2 fStepN (mVar 8) (m2 fSub (mPure (.int 0)) (mPure (.int 1))))) (gV 11) lp_law_1)
  (sIf (mOr (mB (m2 fNotB (mMethIo 5 1 m_Live_undo_k70 7 (mPure [])) (mPure (.bl false)))) (mB (m2 (fOwnC 1 m_Season_eq true) (m1 (fAttr ix_season) (mPeek 7)) (mVar 5)))) (sRet (mPure (.bl false))) (fun ρ => .nx ρ))))))))
def st_law_0 : En → So :=
  (sFor (mRng1 (mCons (m2 fMax2 (mPure (.int 1)) (m2 fMin2 (mPure (.int 3)) (m1 fLen (mPeek 0)))) (mPure []))) (gV 1) lp_law_2)
def st_law_1 : En → So :=
  (sRet (mPure (.bl true)))
def b_law : En → So :=
  (sSeq st_law_0 st_law_1)
def m_law : List Dt → Fo := runF 15 false false b_law
end Dl
namespace Dl
open PySem PySem.Spec PyProof.Rows L2
/-! ### the text -/
def topS (i : Nat) : Stmt := PySem.Challenge.pw_turnrota_k70_looks_taken_back.main.body.getD i (.Pass ⟨0, 0, 0, 0⟩)
abbrev s_is_integer : Stmt := topS 9
theorem sc_is_integer : FnScope ["value"] ["value"] (defScope s_is_integer) := ⟨rfl, rfl, rfl, by decide +kernel, rfl, by decide +kernel, by decide +kernel⟩
abbrev s_is_sequence : Stmt := topS 12
theorem sc_is_sequence : FnScope ["value"] ["value"] (defScope s_is_sequence) := ⟨rfl, rfl, rfl, by decide +kernel, rfl, by decide +kernel, by decide +kernel⟩
abbrev s_way : Stmt := topS 17
theorem sc_way : FnScope ["rota", "wheel", "found", "spot", "turn", "turned", "moves"] ["rota", "wheel"] (defScope s_way) := ⟨rfl, rfl, rfl, by decide +kernel, rfl, by decide +kernel, by decide +kernel⟩
abbrev s_every_look : Stmt := topS 25
theorem sc_every_look : FnScope ["rota", "days", "day", "wheel", "side"] ["rota", "days"] (defScope s_every_look) := ⟨rfl, rfl, rfl, by decide +kernel, rfl, by decide +kernel, by decide +kernel⟩
abbrev s_due_days : Stmt := topS 27
theorem sc_due_days : FnScope ["season", "wheel", "day", "one"] ["season", "wheel"] (defScope s_due_days) := ⟨rfl, rfl, rfl, by decide +kernel, rfl, by decide +kernel, by decide +kernel⟩
abbrev s_seen_by_day : Stmt := topS 29
theorem sc_seen_by_day : FnScope ["season", "wheel", "found", "day", "one", "up"] ["season", "wheel"] (defScope s_seen_by_day) := ⟨rfl, rfl, rfl, by decide +kernel, rfl, by decide +kernel, by decide +kernel⟩
abbrev s_Live_len : Stmt := inClass (topS 38) 9
theorem sc_Live_len : FnScope ["self"] ["self"] (defScope s_Live_len) := ⟨rfl, rfl, rfl, by decide +kernel, rfl, by decide +kernel, by decide +kernel⟩
abbrev s_Rota_eq : Stmt := inClass (topS 44) 3
theorem sc_Rota_eq : FnScope ["self", "other"] ["self", "other"] (defScope s_Rota_eq) := ⟨rfl, rfl, rfl, by decide +kernel, rfl, by decide +kernel, by decide +kernel⟩
abbrev s_text_of_rota : Stmt := topS 45
theorem sc_text_of_rota : FnScope ["places", "rows", "found", "turned", "moves", "spots", "where", "one"] ["places", "rows"] (defScope s_text_of_rota) := ⟨rfl, rfl, rfl, by decide +kernel, rfl, by decide +kernel, by decide +kernel⟩
abbrev s_law_box : Stmt := topS 49
theorem sc_law_box : FnScope ["_law_script", "_law_k", "_law_own", "_law_cell", "_law_seed"] ["_law_script", "_law_k", "_law_own"] (defScope s_law_box) := ⟨rfl, rfl, rfl, by decide +kernel, rfl, by decide +kernel, by decide +kernel⟩
abbrev s_law_take : Stmt := topS 50
theorem sc_law_take : FnScope ["_law_box_here", "_law_bound", "_law_digit", "_law_raw", "_law_wide"] ["_law_box_here", "_law_bound"] (defScope s_law_take) := ⟨rfl, rfl, rfl, by decide +kernel, rfl, by decide +kernel, by decide +kernel⟩
abbrev s_law_days : Stmt := topS 55
theorem sc_law_days : FnScope ["_law_told", "_law_days_here", "_law_spots", "_law_found", "_law_due", "_law_day", "_law_turned", "_law_moves", "_law_wheel", "_law_spot"] ["_law_told", "_law_days_here"] (defScope s_law_days) := ⟨rfl, rfl, rfl, by decide +kernel, rfl, by decide +kernel, by decide +kernel⟩
abbrev s_law_sides : Stmt := topS 57
theorem sc_law_sides : FnScope ["_law_places", "_law_due", "_law_missed_here", "_law_day", "_law_found", "_law_one", "_law_wheel"] ["_law_places", "_law_due", "_law_missed_here", "_law_day"] (defScope s_law_sides) := ⟨rfl, rfl, rfl, by decide +kernel, rfl, by decide +kernel, by decide +kernel⟩
abbrev s_is_from : Stmt := topS 10
theorem sc_is_from : FnScope ["value", "least"] ["value", "least"] (defScope s_is_from) := ⟨rfl, rfl, rfl, by decide +kernel, rfl, by decide +kernel, by decide +kernel⟩
abbrev s_due_in_round : Stmt := topS 18
theorem sc_due_in_round : FnScope ["rota", "wheel", "size", "day", "spot"] ["rota", "wheel"] (defScope s_due_in_round) := ⟨rfl, rfl, rfl, by decide +kernel, rfl, by decide +kernel, by decide +kernel⟩
abbrev s_stretches_of : Stmt := topS 30
theorem sc_stretches_of : FnScope ["season", "wheel", "found", "first", "up", "days", "day", "seen", "size", "one"] ["season", "wheel"] (defScope s_stretches_of) := ⟨rfl, rfl, rfl, by decide +kernel, rfl, by decide +kernel, by decide +kernel⟩
abbrev s_law_pick : Stmt := topS 51
theorem sc_law_pick : FnScope ["_law_box_here", "_law_items"] ["_law_box_here", "_law_items"] (defScope s_law_pick) := ⟨rfl, rfl, rfl, by decide +kernel, rfl, by decide +kernel, by decide +kernel⟩
abbrev s_law_mixed : Stmt := topS 52
theorem sc_law_mixed : FnScope ["_law_box_here", "_law_items", "_law_left", "_law_found", "_law_turn"] ["_law_box_here", "_law_items"] (defScope s_law_mixed) := ⟨rfl, rfl, rfl, by decide +kernel, rfl, by decide +kernel, by decide +kernel⟩
abbrev s_law_looks : Stmt := topS 58
theorem sc_law_looks : FnScope ["_law_box_here", "_law_places", "_law_days_here", "_law_due", "_law_missed_here", "_law_found", "_law_turn", "_law_day", "_law_wheel", "_law_seen"] ["_law_box_here", "_law_places", "_law_days_here", "_law_due", "_law_missed_here"] (defScope s_law_looks) := ⟨rfl, rfl, rfl, by decide +kernel, rfl, by decide +kernel, by decide +kernel⟩
abbrev s_is_below : Stmt := topS 11
theorem sc_is_below : FnScope ["value", "bound"] ["value", "bound"] (defScope s_is_below) := ⟨rfl, rfl, rfl, by decide +kernel, rfl, by decide +kernel, by decide +kernel⟩
abbrev s_Season_eq : Stmt := inClass (topS 24) 3
theorem sc_Season_eq : FnScope ["self", "other"] ["self", "other"] (defScope s_Season_eq) := ⟨rfl, rfl, rfl, by decide +kernel, rfl, by decide +kernel, by decide +kernel⟩
abbrev s_parts_of : Stmt := topS 31
theorem sc_parts_of : FnScope ["season", "missed", "made", "found", "wheel", "days", "first", "last", "odd", "pairs", "gone", "free", "day", "pair"] ["season", "missed", "made"] (defScope s_parts_of) := ⟨rfl, rfl, rfl, by decide +kernel, rfl, by decide +kernel, by decide +kernel⟩
abbrev s_law_rota : Stmt := topS 53
theorem sc_law_rota : FnScope ["_law_box_here", "_law_most", "_law_rows", "_law_places", "_law_found", "_law_turn", "_law_spots", "_law_turned", "_law_moves", "_law_spot"] ["_law_box_here", "_law_most", "_law_rows"] (defScope s_law_rota) := ⟨rfl, rfl, rfl, by decide +kernel, rfl, by decide +kernel, by decide +kernel⟩
abbrev s_law_missed : Stmt := topS 56
theorem sc_law_missed : FnScope ["_law_box_here", "_law_due", "_law_most"] ["_law_box_here", "_law_due", "_law_most"] (defScope s_law_missed) := ⟨rfl, rfl, rfl, by decide +kernel, rfl, by decide +kernel, by decide +kernel⟩
abbrev s_law_look_at : Stmt := topS 61
theorem sc_law_look_at : FnScope ["_law_live"] ["_law_live"] (defScope s_law_look_at) := ⟨rfl, rfl, rfl, by decide +kernel, rfl, by decide +kernel, by decide +kernel⟩
abbrev s_need_wheel : Stmt := topS 16
theorem sc_need_wheel : FnScope ["rota", "wheel"] ["rota", "wheel"] (defScope s_need_wheel) := ⟨rfl, rfl, rfl, by decide +kernel, rfl, by decide +kernel, by decide +kernel⟩
abbrev s_is_look : Stmt := topS 23
theorem sc_is_look : FnScope ["value", "rota", "days"] ["value", "rota", "days"] (defScope s_is_look) := ⟨rfl, rfl, rfl, by decide +kernel, rfl, by decide +kernel, by decide +kernel⟩
abbrev s_cost : Stmt := topS 32
theorem sc_cost : FnScope ["season", "missed", "made", "total", "gone", "free", "odd", "is_even"] ["season", "missed", "made"] (defScope s_cost) := ⟨rfl, rfl, rfl, by decide +kernel, rfl, by decide +kernel, by decide +kernel⟩
abbrev s_is_unlike : Stmt := topS 42
theorem sc_is_unlike : FnScope ["value", "bound", "one"] ["value", "bound"] (defScope s_is_unlike) := ⟨rfl, rfl, rfl, by decide +kernel, rfl, by decide +kernel, by decide +kernel⟩
abbrev s_law_season : Stmt := topS 59
theorem sc_law_season : FnScope ["_law_box_here", "_law_most", "_law_told", "_law_days_here", "_law_due", "_law_missed_here", "_law_looks_here"] ["_law_box_here", "_law_most"] (defScope s_law_season) := ⟨rfl, rfl, rfl, by decide +kernel, rfl, by decide +kernel, by decide +kernel⟩
abbrev s_round_days : Stmt := topS 19
theorem sc_round_days : FnScope ["rota", "wheel"] ["rota", "wheel"] (defScope s_round_days) := ⟨rfl, rfl, rfl, by decide +kernel, rfl, by decide +kernel, by decide +kernel⟩
abbrev s_can_be : Stmt := topS 33
theorem sc_can_be : FnScope ["season", "missed", "made", "paid"] ["season", "missed", "made"] (defScope s_can_be) := ⟨rfl, rfl, rfl, by decide +kernel, rfl, by decide +kernel, by decide +kernel⟩
abbrev s_is_row : Stmt := topS 43
theorem sc_is_row : FnScope ["value", "places"] ["value", "places"] (defScope s_is_row) := ⟨rfl, rfl, rfl, by decide +kernel, rfl, by decide +kernel, by decide +kernel⟩
abbrev s_every_due : Stmt := topS 26
theorem sc_every_due : FnScope ["rota", "days", "found", "known", "day", "wheel", "days_due", "size"] ["rota", "days"] (defScope s_every_due) := ⟨rfl, rfl, rfl, by decide +kernel, rfl, by decide +kernel, by decide +kernel⟩
abbrev s_possible : Stmt := topS 34
theorem sc_possible : FnScope ["season"] ["season"] (defScope s_possible) := ⟨rfl, rfl, rfl, by decide +kernel, rfl, by decide +kernel, by decide +kernel⟩
abbrev s_Rota_init : Stmt := inClass (topS 44) 0
theorem sc_Rota_init : FnScope ["self", "places", "rows", "row", "turned", "moves", "one"] ["self", "places", "rows"] (defScope s_Rota_init) := ⟨rfl, rfl, rfl, by decide +kernel, rfl, by decide +kernel, by decide +kernel⟩
abbrev s_Season_init : Stmt := inClass (topS 24) 0
theorem sc_Season_init : FnScope ["self", "rota", "days", "budget", "looks", "one", "look"] ["self", "rota", "days", "budget", "looks"] (defScope s_Season_init) := ⟨rfl, rfl, rfl, by decide +kernel, rfl, by decide +kernel, by decide +kernel⟩
abbrev s_law_made : Stmt := topS 54
theorem sc_law_made : FnScope ["_law_told", "_law_turned", "_law_moves"] ["_law_told"] (defScope s_law_made) := ⟨rfl, rfl, rfl, by decide +kernel, rfl, by decide +kernel, by decide +kernel⟩
abbrev s_Season_seen : Stmt := inClass (topS 24) 1
theorem sc_Season_seen : FnScope ["self", "looks"] ["self", "looks"] (defScope s_Season_seen) := ⟨rfl, rfl, rfl, by decide +kernel, rfl, by decide +kernel, by decide +kernel⟩
abbrev s_law_of : Stmt := topS 60
theorem sc_law_of : FnScope ["_law_some"] ["_law_some"] (defScope s_law_of) := ⟨rfl, rfl, rfl, by decide +kernel, rfl, by decide +kernel, by decide +kernel⟩
abbrev s_can_show : Stmt := topS 35
theorem sc_can_show : FnScope ["season", "wheel", "day", "up"] ["season", "wheel", "day"] (defScope s_can_show) := ⟨rfl, rfl, rfl, by decide +kernel, rfl, by decide +kernel, by decide +kernel⟩
abbrev s_sure_sides : Stmt := topS 36
theorem sc_sure_sides : FnScope ["season", "day", "found", "wheel", "some"] ["season", "day"] (defScope s_sure_sides) := ⟨rfl, rfl, rfl, by decide +kernel, rfl, by decide +kernel, by decide +kernel⟩
abbrev s_Live_show : Stmt := inClass (topS 38) 1
theorem sc_Live_show : FnScope ["self", "season", "wheel"] ["self", "season"] (defScope s_Live_show) := ⟨rfl, rfl, rfl, by decide +kernel, rfl, by decide +kernel, by decide +kernel⟩
abbrev s_Live_init : Stmt := inClass (topS 38) 0
theorem sc_Live_init : FnScope ["self", "season"] ["self", "season"] (defScope s_Live_init) := ⟨rfl, rfl, rfl, by decide +kernel, rfl, by decide +kernel, by decide +kernel⟩
abbrev s_Live_go_on : Stmt := inClass (topS 38) 2
theorem sc_Live_go_on : FnScope ["self", "season"] ["self", "season"] (defScope s_Live_go_on) := ⟨rfl, rfl, rfl, by decide +kernel, rfl, by decide +kernel, by decide +kernel⟩
abbrev s_Live_undo : Stmt := inClass (topS 38) 6
theorem sc_Live_undo : FnScope ["self", "season"] ["self"] (defScope s_Live_undo) := ⟨rfl, rfl, rfl, by decide +kernel, rfl, by decide +kernel, by decide +kernel⟩
abbrev s_Live_look : Stmt := inClass (topS 38) 3
theorem sc_Live_look : FnScope ["self", "day", "wheel", "side", "look"] ["self", "day", "wheel", "side"] (defScope s_Live_look) := ⟨rfl, rfl, rfl, by decide +kernel, rfl, by decide +kernel, by decide +kernel⟩
abbrev s_Live_several : Stmt := inClass (topS 38) 4
theorem sc_Live_several : FnScope ["self", "looks", "look"] ["self", "looks"] (defScope s_Live_several) := ⟨rfl, rfl, rfl, by decide +kernel, rfl, by decide +kernel, by decide +kernel⟩
abbrev s_Live_follow : Stmt := inClass (topS 38) 5
theorem sc_Live_follow : FnScope ["self", "season"] ["self", "season"] (defScope s_Live_follow) := ⟨rfl, rfl, rfl, by decide +kernel, rfl, by decide +kernel, by decide +kernel⟩
abbrev s_law : Stmt := topS 62
theorem sc_law : FnScope ["_law_script", "_law_k", "_law_box_here", "_law_some", "_law_other", "_law_first", "_law_second", "_law_live", "_law_past", "_law_turn", "_law_form", "_law_seen", "_law_fresh", "_law_day", "_law_up"] ["_law_script"] (defScope s_law) := ⟨rfl, rfl, rfl, by decide +kernel, rfl, by decide +kernel, by decide +kernel⟩
/-! ### where they stand -/
set_option genInjectivity false in
set_option genSizeOfSpec false in
set_option genSizeOf false in
structure Dfs (K : PySem.W.Frag) (mg : Str → Option Value) where
  f_is_integer : Addr
  fd_is_integer : FuncData
  F_is_integer : Fun K "is_integer" "is_integer" s_is_integer f_is_integer fd_is_integer
  g_is_integer : mg "is_integer" = some (.ref f_is_integer)
  b_is_integer : Binds K fd_is_integer ["value"] []
  f_is_sequence : Addr
  fd_is_sequence : FuncData
  F_is_sequence : Fun K "is_sequence" "is_sequence" s_is_sequence f_is_sequence fd_is_sequence
  g_is_sequence : mg "is_sequence" = some (.ref f_is_sequence)
  b_is_sequence : Binds K fd_is_sequence ["value"] []
  f_way : Addr
  fd_way : FuncData
  F_way : Fun K "way" "way" s_way f_way fd_way
  g_way : mg "way" = some (.ref f_way)
  b_way : Binds K fd_way ["rota", "wheel"] []
  f_every_look : Addr
  fd_every_look : FuncData
  F_every_look : Fun K "every_look" "every_look" s_every_look f_every_look fd_every_look
  g_every_look : mg "every_look" = some (.ref f_every_look)
  b_every_look : Binds K fd_every_look ["rota", "days"] []
  f_due_days : Addr
  fd_due_days : FuncData
  F_due_days : Fun K "due_days" "due_days" s_due_days f_due_days fd_due_days
  g_due_days : mg "due_days" = some (.ref f_due_days)
  b_due_days : Binds K fd_due_days ["season", "wheel"] []
  f_seen_by_day : Addr
  fd_seen_by_day : FuncData
  F_seen_by_day : Fun K "seen_by_day" "seen_by_day" s_seen_by_day f_seen_by_day fd_seen_by_day
  g_seen_by_day : mg "seen_by_day" = some (.ref f_seen_by_day)
  b_seen_by_day : Binds K fd_seen_by_day ["season", "wheel"] []
  f_Live_len : Addr
  fd_Live_len : FuncData
  F_Live_len : Fun K "__len__" "Live.__len__" s_Live_len f_Live_len fd_Live_len
  b_Live_len : Binds K fd_Live_len ["self"] []
  f_Rota_eq : Addr
  fd_Rota_eq : FuncData
  F_Rota_eq : Fun K "__eq__" "Rota.__eq__" s_Rota_eq f_Rota_eq fd_Rota_eq
  b_Rota_eq : Binds K fd_Rota_eq ["self", "other"] []
  f_text_of_rota : Addr
  fd_text_of_rota : FuncData
  F_text_of_rota : Fun K "text_of_rota" "text_of_rota" s_text_of_rota f_text_of_rota fd_text_of_rota
  g_text_of_rota : mg "text_of_rota" = some (.ref f_text_of_rota)
  b_text_of_rota : Binds K fd_text_of_rota ["places", "rows"] []
  f_law_box : Addr
  fd_law_box : FuncData
  F_law_box : Fun K "_law_box" "_law_box" s_law_box f_law_box fd_law_box
  g_law_box : mg "_law_box" = some (.ref f_law_box)
  b_law_box : Binds K fd_law_box ["_law_script", "_law_k", "_law_own"] []
  f_law_take : Addr
  fd_law_take : FuncData
  F_law_take : Fun K "_law_take" "_law_take" s_law_take f_law_take fd_law_take
  g_law_take : mg "_law_take" = some (.ref f_law_take)
  b_law_take : Binds K fd_law_take ["_law_box_here", "_law_bound"] []
  f_law_days : Addr
  fd_law_days : FuncData
  F_law_days : Fun K "_law_days" "_law_days" s_law_days f_law_days fd_law_days
  g_law_days : mg "_law_days" = some (.ref f_law_days)
  b_law_days : Binds K fd_law_days ["_law_told", "_law_days_here"] []
  f_law_sides : Addr
  fd_law_sides : FuncData
  F_law_sides : Fun K "_law_sides" "_law_sides" s_law_sides f_law_sides fd_law_sides
  g_law_sides : mg "_law_sides" = some (.ref f_law_sides)
  b_law_sides : Binds K fd_law_sides ["_law_places", "_law_due", "_law_missed_here", "_law_day"] []
  f_is_from : Addr
  fd_is_from : FuncData
  F_is_from : Fun K "is_from" "is_from" s_is_from f_is_from fd_is_from
  g_is_from : mg "is_from" = some (.ref f_is_from)
  b_is_from : Binds K fd_is_from ["value", "least"] []
  f_due_in_round : Addr
  fd_due_in_round : FuncData
  F_due_in_round : Fun K "due_in_round" "due_in_round" s_due_in_round f_due_in_round fd_due_in_round
  g_due_in_round : mg "due_in_round" = some (.ref f_due_in_round)
  b_due_in_round : Binds K fd_due_in_round ["rota", "wheel"] []
  f_stretches_of : Addr
  fd_stretches_of : FuncData
  F_stretches_of : Fun K "stretches_of" "stretches_of" s_stretches_of f_stretches_of fd_stretches_of
  g_stretches_of : mg "stretches_of" = some (.ref f_stretches_of)
  b_stretches_of : Binds K fd_stretches_of ["season", "wheel"] []
  f_law_pick : Addr
  fd_law_pick : FuncData
  F_law_pick : Fun K "_law_pick" "_law_pick" s_law_pick f_law_pick fd_law_pick
  g_law_pick : mg "_law_pick" = some (.ref f_law_pick)
  b_law_pick : Binds K fd_law_pick ["_law_box_here", "_law_items"] []
  f_law_mixed : Addr
  fd_law_mixed : FuncData
  F_law_mixed : Fun K "_law_mixed" "_law_mixed" s_law_mixed f_law_mixed fd_law_mixed
  g_law_mixed : mg "_law_mixed" = some (.ref f_law_mixed)
  b_law_mixed : Binds K fd_law_mixed ["_law_box_here", "_law_items"] []
  f_law_looks : Addr
  fd_law_looks : FuncData
  F_law_looks : Fun K "_law_looks" "_law_looks" s_law_looks f_law_looks fd_law_looks
  g_law_looks : mg "_law_looks" = some (.ref f_law_looks)
  b_law_looks : Binds K fd_law_looks ["_law_box_here", "_law_places", "_law_days_here", "_law_due", "_law_missed_here"] []
  f_is_below : Addr
  fd_is_below : FuncData
  F_is_below : Fun K "is_below" "is_below" s_is_below f_is_below fd_is_below
  g_is_below : mg "is_below" = some (.ref f_is_below)
  b_is_below : Binds K fd_is_below ["value", "bound"] []
  f_Season_eq : Addr
  fd_Season_eq : FuncData
  F_Season_eq : Fun K "__eq__" "Season.__eq__" s_Season_eq f_Season_eq fd_Season_eq
  b_Season_eq : Binds K fd_Season_eq ["self", "other"] []
  f_parts_of : Addr
  fd_parts_of : FuncData
  F_parts_of : Fun K "parts_of" "parts_of" s_parts_of f_parts_of fd_parts_of
  g_parts_of : mg "parts_of" = some (.ref f_parts_of)
  b_parts_of : Binds K fd_parts_of ["season", "missed", "made"] []
  f_law_rota : Addr
  fd_law_rota : FuncData
  F_law_rota : Fun K "_law_rota" "_law_rota" s_law_rota f_law_rota fd_law_rota
  g_law_rota : mg "_law_rota" = some (.ref f_law_rota)
  b_law_rota : Binds K fd_law_rota ["_law_box_here", "_law_most", "_law_rows"] []
  f_law_missed : Addr
  fd_law_missed : FuncData
  F_law_missed : Fun K "_law_missed" "_law_missed" s_law_missed f_law_missed fd_law_missed
  g_law_missed : mg "_law_missed" = some (.ref f_law_missed)
  b_law_missed : Binds K fd_law_missed ["_law_box_here", "_law_due", "_law_most"] []
  f_law_look_at : Addr
  fd_law_look_at : FuncData
  F_law_look_at : Fun K "_law_look_at" "_law_look_at" s_law_look_at f_law_look_at fd_law_look_at
  g_law_look_at : mg "_law_look_at" = some (.ref f_law_look_at)
  b_law_look_at : Binds K fd_law_look_at ["_law_live"] []
  f_need_wheel : Addr
  fd_need_wheel : FuncData
  F_need_wheel : Fun K "need_wheel" "need_wheel" s_need_wheel f_need_wheel fd_need_wheel
  g_need_wheel : mg "need_wheel" = some (.ref f_need_wheel)
  b_need_wheel : Binds K fd_need_wheel ["rota", "wheel"] []
  f_is_look : Addr
  fd_is_look : FuncData
  F_is_look : Fun K "is_look" "is_look" s_is_look f_is_look fd_is_look
  g_is_look : mg "is_look" = some (.ref f_is_look)
  b_is_look : Binds K fd_is_look ["value", "rota", "days"] []
  f_cost : Addr
  fd_cost : FuncData
  F_cost : Fun K "cost" "cost" s_cost f_cost fd_cost
  g_cost : mg "cost" = some (.ref f_cost)
  b_cost : Binds K fd_cost ["season", "missed", "made"] []
  f_is_unlike : Addr
  fd_is_unlike : FuncData
  F_is_unlike : Fun K "is_unlike" "is_unlike" s_is_unlike f_is_unlike fd_is_unlike
  g_is_unlike : mg "is_unlike" = some (.ref f_is_unlike)
  b_is_unlike : Binds K fd_is_unlike ["value", "bound"] []
  f_law_season : Addr
  fd_law_season : FuncData
  F_law_season : Fun K "_law_season" "_law_season" s_law_season f_law_season fd_law_season
  g_law_season : mg "_law_season" = some (.ref f_law_season)
  b_law_season : Binds K fd_law_season ["_law_box_here", "_law_most"] []
  f_round_days : Addr
  fd_round_days : FuncData
  F_round_days : Fun K "round_days" "round_days" s_round_days f_round_days fd_round_days
  g_round_days : mg "round_days" = some (.ref f_round_days)
  b_round_days : Binds K fd_round_days ["rota", "wheel"] []
  f_can_be : Addr
  fd_can_be : FuncData
  F_can_be : Fun K "can_be" "can_be" s_can_be f_can_be fd_can_be
  g_can_be : mg "can_be" = some (.ref f_can_be)
  b_can_be : Binds K fd_can_be ["season", "missed", "made"] []
  f_is_row : Addr
  fd_is_row : FuncData
  F_is_row : Fun K "is_row" "is_row" s_is_row f_is_row fd_is_row
  g_is_row : mg "is_row" = some (.ref f_is_row)
  b_is_row : Binds K fd_is_row ["value", "places"] []
  f_every_due : Addr
  fd_every_due : FuncData
  F_every_due : Fun K "every_due" "every_due" s_every_due f_every_due fd_every_due
  g_every_due : mg "every_due" = some (.ref f_every_due)
  b_every_due : Binds K fd_every_due ["rota", "days"] []
  f_possible : Addr
  fd_possible : FuncData
  F_possible : Fun K "possible" "possible" s_possible f_possible fd_possible
  g_possible : mg "possible" = some (.ref f_possible)
  b_possible : Binds K fd_possible ["season"] []
  f_Rota_init : Addr
  fd_Rota_init : FuncData
  F_Rota_init : Fun K "__init__" "Rota.__init__" s_Rota_init f_Rota_init fd_Rota_init
  b_Rota_init : Binds K fd_Rota_init ["self", "places", "rows"] []
  f_Season_init : Addr
  fd_Season_init : FuncData
  tE_Season_init : Addr
  F_Season_init : FunD K "__init__" "Season.__init__" (defArgs s_Season_init) (defBody s_Season_init) (defScope s_Season_init) [V.ref tE_Season_init] [] f_Season_init fd_Season_init
  ds_Season_init : List Value
  bv_Season_init : Vals [V.ref tE_Season_init] ds_Season_init
  bb_Season_init : Binds K fd_Season_init ["self", "rota", "days", "budget", "looks"] ds_Season_init
  be_Season_init : ∃ ed en es, K.lookup tE_Season_init = some ⟨.type "tuple", ed, .seq #[] en, es⟩
  b_Season_init : Binds K fd_Season_init ["self", "rota", "days", "budget", "looks"] []
  f_law_made : Addr
  fd_law_made : FuncData
  F_law_made : Fun K "_law_made" "_law_made" s_law_made f_law_made fd_law_made
  g_law_made : mg "_law_made" = some (.ref f_law_made)
  b_law_made : Binds K fd_law_made ["_law_told"] []
  f_Season_seen : Addr
  fd_Season_seen : FuncData
  F_Season_seen : Fun K "seen" "Season.seen" s_Season_seen f_Season_seen fd_Season_seen
  b_Season_seen : Binds K fd_Season_seen ["self", "looks"] []
  f_law_of : Addr
  fd_law_of : FuncData
  F_law_of : Fun K "_law_of" "_law_of" s_law_of f_law_of fd_law_of
  g_law_of : mg "_law_of" = some (.ref f_law_of)
  b_law_of : Binds K fd_law_of ["_law_some"] []
  f_can_show : Addr
  fd_can_show : FuncData
  F_can_show : Fun K "can_show" "can_show" s_can_show f_can_show fd_can_show
  g_can_show : mg "can_show" = some (.ref f_can_show)
  b_can_show : Binds K fd_can_show ["season", "wheel", "day"] []
  f_sure_sides : Addr
  fd_sure_sides : FuncData
  F_sure_sides : Fun K "sure_sides" "sure_sides" s_sure_sides f_sure_sides fd_sure_sides
  g_sure_sides : mg "sure_sides" = some (.ref f_sure_sides)
  b_sure_sides : Binds K fd_sure_sides ["season", "day"] []
  f_Live_show : Addr
  fd_Live_show : FuncData
  F_Live_show : Fun K "show" "Live.show" s_Live_show f_Live_show fd_Live_show
  b_Live_show : Binds K fd_Live_show ["self", "season"] []
  f_Live_init : Addr
  fd_Live_init : FuncData
  F_Live_init : Fun K "__init__" "Live.__init__" s_Live_init f_Live_init fd_Live_init
  b_Live_init : Binds K fd_Live_init ["self", "season"] []
  f_Live_go_on : Addr
  fd_Live_go_on : FuncData
  F_Live_go_on : Fun K "go_on" "Live.go_on" s_Live_go_on f_Live_go_on fd_Live_go_on
  b_Live_go_on : Binds K fd_Live_go_on ["self", "season"] []
  f_Live_undo : Addr
  fd_Live_undo : FuncData
  F_Live_undo : Fun K "undo" "Live.undo" s_Live_undo f_Live_undo fd_Live_undo
  b_Live_undo : Binds K fd_Live_undo ["self"] []
  f_Live_look : Addr
  fd_Live_look : FuncData
  F_Live_look : Fun K "look" "Live.look" s_Live_look f_Live_look fd_Live_look
  b_Live_look : Binds K fd_Live_look ["self", "day", "wheel", "side"] []
  f_Live_several : Addr
  fd_Live_several : FuncData
  F_Live_several : Fun K "several" "Live.several" s_Live_several f_Live_several fd_Live_several
  b_Live_several : Binds K fd_Live_several ["self", "looks"] []
  f_Live_follow : Addr
  fd_Live_follow : FuncData
  F_Live_follow : Fun K "follow" "Live.follow" s_Live_follow f_Live_follow fd_Live_follow
  b_Live_follow : Binds K fd_Live_follow ["self", "season"] []
  f_law : Addr
  fd_law : FuncData
  F_law : Fun K "law" "law" s_law f_law fd_law
  g_law : mg "law" = some (.ref f_law)
  b_law : Binds K fd_law ["_law_script"] []
  z_abs : mg "abs" = none
  z_all : mg "all" = none
  z_bool : mg "bool" = none
  z_enumerate : mg "enumerate" = none
  z_int : mg "int" = none
  z_isinstance : mg "isinstance" = none
  z_len : mg "len" = none
  z_list : mg "list" = none
  z_max : mg "max" = none
  z_min : mg "min" = none
  z_range : mg "range" = none
  z_sorted : mg "sorted" = none
  z_str : mg "str" = none
  z_tuple : mg "tuple" = none
  v_PAIR_rotas : Value
  c_PAIR_rotas : mg "PAIR_rotas" = some v_PAIR_rotas
  r_PAIR_rotas : RelV (.int 2) v_PAIR_rotas
  v_PAIR_seasons : Value
  c_PAIR_seasons : mg "PAIR_seasons" = some v_PAIR_seasons
  r_PAIR_seasons : RelV (.int 2) v_PAIR_seasons
  v_TRIPLE : Value
  c_TRIPLE : mg "TRIPLE" = some v_TRIPLE
  r_TRIPLE : RelV (.int 3) v_TRIPLE
  C_Season : Addr
  C_Live : Addr
  C_Rota : Addr
  gC_Season : mg "Season" = some (.ref C_Season)
  cls_Season : Cls K C_Season
  mk_Season : Mk K C_Season f_Season_init
  na_Season_rota : NoAttr K C_Season "rota"
  na_Season_days : NoAttr K C_Season "days"
  na_Season_budget : NoAttr K C_Season "budget"
  na_Season_looks : NoAttr K C_Season "looks"
  na_Season_wheels : NoAttr K C_Season "wheels"
  na_Season_due : NoAttr K C_Season "due"
  ne_Season : PySem.W.findIn K (.ref C_Season) "__ne__" = some (some (.builtin "object.__ne__"))
  ic_Season : C8.InsC K C_Season
  me_Season_eq : Meth K C_Season "__eq__" f_Season_eq
  me_Season_seen : Meth K C_Season "seen" f_Season_seen
  gC_Live : mg "Live" = some (.ref C_Live)
  cls_Live : Cls K C_Live
  mk_Live : Mk K C_Live f_Live_init
  na_Live_past : NoAttr K C_Live "past"
  na_Live_season : NoAttr K C_Live "season"
  na_Live_is_possible : NoAttr K C_Live "is_possible"
  na_Live_sure : NoAttr K C_Live "sure"
  me_Live_len : Meth K C_Live "__len__" f_Live_len
  me_Live_follow : Meth K C_Live "follow" f_Live_follow
  me_Live_go_on : Meth K C_Live "go_on" f_Live_go_on
  me_Live_look : Meth K C_Live "look" f_Live_look
  me_Live_several : Meth K C_Live "several" f_Live_several
  me_Live_show : Meth K C_Live "show" f_Live_show
  me_Live_undo : Meth K C_Live "undo" f_Live_undo
  gC_Rota : mg "Rota" = some (.ref C_Rota)
  cls_Rota : Cls K C_Rota
  mk_Rota : Mk K C_Rota f_Rota_init
  na_Rota_places : NoAttr K C_Rota "places"
  na_Rota_rows : NoAttr K C_Rota "rows"
  na_Rota_text : NoAttr K C_Rota "text"
  ne_Rota : PySem.W.findIn K (.ref C_Rota) "__ne__" = some (some (.builtin "object.__ne__"))
  ic_Rota : C8.InsC K C_Rota
  me_Rota_eq : Meth K C_Rota "__eq__" f_Rota_eq
def Dfs.cl {K : PySem.W.Frag} {mg : Str → Option Value} (D : Dfs K mg) : Nat → Option (Addr × List Str)
  | 1 => some (D.C_Season, ["rota", "days", "budget", "looks", "wheels", "due"])
  | 5 => some (D.C_Live, ["past", "season", "is_possible", "sure"])
  | 0 => some (D.C_Rota, ["places", "rows", "text"])
  | _ => none
section
variable {P : Program} {w : World} {K : PySem.W.Frag} {mg : Str → Option Value} {base : Heap}
theorem at_budget (D : Dfs K mg) : AttrOk ⟨K, D.cl⟩ "budget" ix_budget := by
  intro c j h
  unfold ix_budget at h
  split at h
  · cases h; intro C ns e; cases e; exact ⟨rfl, by decide +kernel, by decide, D.cls_Season, D.na_Season_budget⟩
  · cases h
theorem at_days (D : Dfs K mg) : AttrOk ⟨K, D.cl⟩ "days" ix_days := by
  intro c j h
  unfold ix_days at h
  split at h
  · cases h; intro C ns e; cases e; exact ⟨rfl, by decide +kernel, by decide, D.cls_Season, D.na_Season_days⟩
  · cases h; intro C ns e; cases e
  · cases h
theorem at_due (D : Dfs K mg) : AttrOk ⟨K, D.cl⟩ "due" ix_due := by
  intro c j h
  unfold ix_due at h
  split at h
  · cases h; intro C ns e; cases e; exact ⟨rfl, by decide +kernel, by decide, D.cls_Season, D.na_Season_due⟩
  · cases h; intro C ns e; cases e
  · cases h
theorem at_is_possible (D : Dfs K mg) : AttrOk ⟨K, D.cl⟩ "is_possible" ix_is_possible := by
  intro c j h
  unfold ix_is_possible at h
  split at h
  · cases h; intro C ns e; cases e; exact ⟨rfl, by decide +kernel, by decide, D.cls_Live, D.na_Live_is_possible⟩
  · cases h
theorem at_looks (D : Dfs K mg) : AttrOk ⟨K, D.cl⟩ "looks" ix_looks := by
  intro c j h
  unfold ix_looks at h
  split at h
  · cases h; intro C ns e; cases e; exact ⟨rfl, by decide +kernel, by decide, D.cls_Season, D.na_Season_looks⟩
  · cases h
theorem at_past (D : Dfs K mg) : AttrOk ⟨K, D.cl⟩ "past" ix_past := by
  intro c j h
  unfold ix_past at h
  split at h
  · cases h; intro C ns e; cases e; exact ⟨rfl, by decide +kernel, by decide, D.cls_Live, D.na_Live_past⟩
  · cases h; intro C ns e; cases e
  · cases h
theorem at_places (D : Dfs K mg) : AttrOk ⟨K, D.cl⟩ "places" ix_places := by
  intro c j h
  unfold ix_places at h
  split at h
  · cases h; intro C ns e; cases e; exact ⟨rfl, by decide +kernel, by decide, D.cls_Rota, D.na_Rota_places⟩
  · cases h
theorem at_rota (D : Dfs K mg) : AttrOk ⟨K, D.cl⟩ "rota" ix_rota := by
  intro c j h
  unfold ix_rota at h
  split at h
  · cases h; intro C ns e; cases e; exact ⟨rfl, by decide +kernel, by decide, D.cls_Season, D.na_Season_rota⟩
  · cases h; intro C ns e; cases e
  · cases h
theorem at_rows (D : Dfs K mg) : AttrOk ⟨K, D.cl⟩ "rows" ix_rows := by
  intro c j h
  unfold ix_rows at h
  split at h
  · cases h; intro C ns e; cases e; exact ⟨rfl, by decide +kernel, by decide, D.cls_Rota, D.na_Rota_rows⟩
  · cases h
theorem at_season (D : Dfs K mg) : AttrOk ⟨K, D.cl⟩ "season" ix_season := by
  intro c j h
  unfold ix_season at h
  split at h
  · cases h; intro C ns e; cases e; exact ⟨rfl, by decide +kernel, by decide, D.cls_Live, D.na_Live_season⟩
  · cases h
theorem at_sure (D : Dfs K mg) : AttrOk ⟨K, D.cl⟩ "sure" ix_sure := by
  intro c j h
  unfold ix_sure at h
  split at h
  · cases h; intro C ns e; cases e; exact ⟨rfl, by decide +kernel, by decide, D.cls_Live, D.na_Live_sure⟩
  · cases h
theorem at_text (D : Dfs K mg) : AttrOk ⟨K, D.cl⟩ "text" ix_text := by
  intro c j h
  unfold ix_text at h
  split at h
  · cases h; intro C ns e; cases e; exact ⟨rfl, by decide +kernel, by decide, D.cls_Rota, D.na_Rota_text⟩
  · cases h
theorem at_wheels (D : Dfs K mg) : AttrOk ⟨K, D.cl⟩ "wheels" ix_wheels := by
  intro c j h
  unfold ix_wheels at h
  split at h
  · cases h; intro C ns e; cases e; exact ⟨rfl, by decide +kernel, by decide, D.cls_Season, D.na_Season_wheels⟩
  · cases h
theorem bd_is_integer (D : Dfs K mg) (cdv : Value) (A : Around) (outer : List Env) (s : Shared) (H : Hp) (E : XK) (π : Nat → Option Pin) (hr : Room 0 (A.deeper (envOfC "is_integer" (defScope s_is_integer) s.heap.objs.size D.f_is_integer cdv))) : PSs (cxOf (L2.CX P w) P w K mg base ["value"] "is_integer" (defScope s_is_integer) D.f_is_integer cdv A outer s H E) (defBody s_is_integer) (TMs ⟨K, D.cl⟩ π (fun cls d _ H => E cls d H) b_is_integer) := by
  have nd := sc_is_integer.nd
  have tk : Takes (cxOf (L2.CX P w) P w K mg base ["value"] "is_integer" (defScope s_is_integer) D.f_is_integer cdv A outer s H E) (fun cls d _ H => E cls d H) := takes_of rfl rfl rfl rfl
  have hp : PassesOwn (model P w) (cxOf (L2.CX P w) P w K mg base ["value"] "is_integer" (defScope s_is_integer) D.f_is_integer cdv A outer s H E).A (cxOf (L2.CX P w) P w K mg base ["value"] "is_integer" (defScope s_is_integer) D.f_is_integer cdv A outer s H E).env (cxOf (L2.CX P w) P w K mg base ["value"] "is_integer" (defScope s_is_integer) D.f_is_integer cdv A outer s H E).xe := passes_of rfl
  unfold b_is_integer
  exact (dss_one (ds_ret (de_and (de_isi rfl .int (pe_callB call_isi (by rfl) D.z_isinstance (by decide +kernel) (pa_cons (dp_var (pv 0)) (pa_cons (pe_bltn (v := .ty "int") (by rfl) D.z_int (by decide +kernel) rfl) pa_nil)))) (de_one (de_not (de_isi rfl .bool (pe_callB call_isi (by rfl) D.z_isinstance (by decide +kernel) (pa_cons (dp_var (pv 0)) (pa_cons (pe_bltn (v := .ty "bool") (by rfl) D.z_bool (by decide +kernel) rfl) pa_nil)))))))))
theorem ok_is_integer (D : Dfs K mg) : FnOk P w K mg base (L2.CX P w) 1 D.f_is_integer D.fd_is_integer ["value"] (spM ⟨K, D.cl⟩ 1 false false m_is_integer) :=
  fun_ok2 (cl := D.cl) (n := 1) (fm := m_is_integer) D.F_is_integer sc_is_integer (by decide) (by rfl) (by unfold m_is_integer; rfl) (bd_is_integer D)
theorem bd_is_sequence (D : Dfs K mg) (cdv : Value) (A : Around) (outer : List Env) (s : Shared) (H : Hp) (E : XK) (π : Nat → Option Pin) (hr : Room 0 (A.deeper (envOfC "is_sequence" (defScope s_is_sequence) s.heap.objs.size D.f_is_sequence cdv))) : PSs (cxOf (L2.CX P w) P w K mg base ["value"] "is_sequence" (defScope s_is_sequence) D.f_is_sequence cdv A outer s H E) (defBody s_is_sequence) (TMs ⟨K, D.cl⟩ π (fun cls d _ H => E cls d H) b_is_sequence) := by
  have nd := sc_is_sequence.nd
  have tk : Takes (cxOf (L2.CX P w) P w K mg base ["value"] "is_sequence" (defScope s_is_sequence) D.f_is_sequence cdv A outer s H E) (fun cls d _ H => E cls d H) := takes_of rfl rfl rfl rfl
  have hp : PassesOwn (model P w) (cxOf (L2.CX P w) P w K mg base ["value"] "is_sequence" (defScope s_is_sequence) D.f_is_sequence cdv A outer s H E).A (cxOf (L2.CX P w) P w K mg base ["value"] "is_sequence" (defScope s_is_sequence) D.f_is_sequence cdv A outer s H E).env (cxOf (L2.CX P w) P w K mg base ["value"] "is_sequence" (defScope s_is_sequence) D.f_is_sequence cdv A outer s H E).xe := passes_of rfl
  unfold b_is_sequence
  exact (dss_one (ds_ret (de_isi2 rfl .list .tuple (pe_callB call_isiT (by rfl) D.z_isinstance (by decide +kernel) (pa_cons (dp_var (pv 0)) (pa_cons (pe_tup (pa_cons (pe_bltn (v := .ty "list") (by rfl) D.z_list (by decide +kernel) rfl) (pa_cons (pe_bltn (v := .ty "tuple") (by rfl) D.z_tuple (by decide +kernel) rfl) pa_nil))) pa_nil))))))
theorem ok_is_sequence (D : Dfs K mg) : FnOk P w K mg base (L2.CX P w) 1 D.f_is_sequence D.fd_is_sequence ["value"] (spM ⟨K, D.cl⟩ 1 false false m_is_sequence) :=
  fun_ok2 (cl := D.cl) (n := 1) (fm := m_is_sequence) D.F_is_sequence sc_is_sequence (by decide) (by rfl) (by unfold m_is_sequence; rfl) (bd_is_sequence D)
theorem bd_way (D : Dfs K mg) (cdv : Value) (A : Around) (outer : List Env) (s : Shared) (H : Hp) (E : XK) (π : Nat → Option Pin) (hr : Room 0 (A.deeper (envOfC "way" (defScope s_way) s.heap.objs.size D.f_way cdv))) : PSs (cxOf (L2.CX P w) P w K mg base ["rota", "wheel", "found", "spot", "turn", "turned", "moves"] "way" (defScope s_way) D.f_way cdv A outer s H E) (defBody s_way) (TMs ⟨K, D.cl⟩ π (fun cls d _ H => E cls d H) b_way) := by
  have nd := sc_way.nd
  have tk : Takes (cxOf (L2.CX P w) P w K mg base ["rota", "wheel", "found", "spot", "turn", "turned", "moves"] "way" (defScope s_way) D.f_way cdv A outer s H E) (fun cls d _ H => E cls d H) := takes_of rfl rfl rfl rfl
  have hp : PassesOwn (model P w) (cxOf (L2.CX P w) P w K mg base ["rota", "wheel", "found", "spot", "turn", "turned", "moves"] "way" (defScope s_way) D.f_way cdv A outer s H E).A (cxOf (L2.CX P w) P w K mg base ["rota", "wheel", "found", "spot", "turn", "turned", "moves"] "way" (defScope s_way) D.f_way cdv A outer s H E).env (cxOf (L2.CX P w) P w K mg base ["rota", "wheel", "found", "spot", "turn", "turned", "moves"] "way" (defScope s_way) D.f_way cdv A outer s H E).xe := passes_of rfl
  unfold b_way
  exact (dss_cons (ds_par (ps_par (i := 2) (j := 3) (by rfl) nd rfl rfl (by decide) rfl rfl (dk_own (dn_lst da_nil) (dk_val (de_var (pv 1)) dk_nil)) (by rfl)))
    (dss_cons (ds_for hp rfl (di_rng1 (by rfl) D.z_range (da_cons (de_attr rfl (at_places D) (dp_var (pv 0)) (by rfl)) da_nil)) (dg_name (pg_name (i := 4) nd rfl (by first | exact Or.inl rfl | exact Or.inr rfl))) (dss_cons (ds_for hp rfl (di_seq rfl (de_attr rfl (at_rows D) (dp_var (pv 0)) (by rfl))) (dg_tup rfl rfl (dgs_cons (dg_name (pg_name (i := 5) nd rfl (by first | exact Or.inl rfl | exact Or.inr rfl))) (dgs_cons (dg_name (pg_name (i := 6) nd rfl (by first | exact Or.inl rfl | exact Or.inr rfl))) dgs_nil))) (dss_cons (ds_expr (de_append rfl (pe_bm PySem.F.plainAttrs_list PySem.F.slot_list_append PySem.F.type_list_append mt_append (pv 2) (pa_cons (de_var (pv 3)) pa_nil))))
    (dss_one (ds_asgV (ps_set (i := 3) nd rfl (by first | exact Or.inl rfl | exact Or.inr rfl) (de_ixV (pe_ix ix_seq (pv 6) (de_var (pv 3)) (fun _ _ => rfl))))))))
    (dss_one (ds_if (dt_cmp (op_eqD hr.units) os_eq (de_var (pv 3)) (dp_var (pv 1)) (nomark _)) (dss_one (ds_ret (de_call1 (pe_callTy call_tuple_of (by rfl) D.z_tuple (by decide +kernel) (pa_cons (dp_var (pv 2)) pa_nil)) cs_tuple))) dss_nil))))
    (dss_one (ds_ret (de_call1 (pe_callTy call_tuple_of (by rfl) D.z_tuple (by decide +kernel) (pa_cons (dp_var (pv 2)) pa_nil)) cs_tuple)))))
theorem ok_way (D : Dfs K mg) : FnOk P w K mg base (L2.CX P w) 1 D.f_way D.fd_way ["rota", "wheel"] (spM ⟨K, D.cl⟩ 2 false false m_way) :=
  fun_ok2 (cl := D.cl) (n := 2) (fm := m_way) D.F_way sc_way (by decide) (by rfl) (by unfold m_way; rfl) (bd_way D)
theorem bd_every_look (D : Dfs K mg) (cdv : Value) (A : Around) (outer : List Env) (s : Shared) (H : Hp) (E : XK) (π : Nat → Option Pin) (hr : Room 0 (A.deeper (envOfC "every_look" (defScope s_every_look) s.heap.objs.size D.f_every_look cdv))) : PSs (cxOf (L2.CX P w) P w K mg base ["rota", "days", "day", "wheel", "side"] "every_look" (defScope s_every_look) D.f_every_look cdv A outer s H E) (defBody s_every_look) (TMs ⟨K, D.cl⟩ π (fun cls d _ H => E cls d H) b_every_look) := by
  have nd := sc_every_look.nd
  have tk : Takes (cxOf (L2.CX P w) P w K mg base ["rota", "days", "day", "wheel", "side"] "every_look" (defScope s_every_look) D.f_every_look cdv A outer s H E) (fun cls d _ H => E cls d H) := takes_of rfl rfl rfl rfl
  have hp : PassesOwn (model P w) (cxOf (L2.CX P w) P w K mg base ["rota", "days", "day", "wheel", "side"] "every_look" (defScope s_every_look) D.f_every_look cdv A outer s H E).A (cxOf (L2.CX P w) P w K mg base ["rota", "days", "day", "wheel", "side"] "every_look" (defScope s_every_look) D.f_every_look cdv A outer s H E).env (cxOf (L2.CX P w) P w K mg base ["rota", "days", "day", "wheel", "side"] "every_look" (defScope s_every_look) D.f_every_look cdv A outer s H E).xe := passes_of rfl
  unfold b_every_look
  exact (dss_one (ds_ret ((dn_lcN (pe_lcN (own := [("day", 2), ("wheel", 3), ("side", 4)]) rfl nd (di_rng1 (by rfl) D.z_range (da_cons (de_bin op_addA os_add (de_var (pv 1)) (de_int).peek) da_nil)) (blkOk_by (own := [("day", 2), ("wheel", 3), ("side", 4)]) (N := ["rota", "days", "day", "wheel", "side"]) (sc := defScope s_every_look) (by decide +kernel)) (by decide) (fun _ _ _ _ _ => (dg_name (pg_name (i := 2) nd rfl (by first | exact Or.inl rfl | exact Or.inr rfl)))) (fun _ _ _ _ _ => dts_nil) (ins3 (v1 := [3, 4]) (v2 := [4]) rfl (fun _ _ _ _ _ => (di_rng1 (by rfl) D.z_range (da_cons (de_attr rfl (at_places D) (dp_var (pv 0)) (by rfl)) da_nil))) (fun _ _ _ _ _ => (dg_name (pg_name (i := 3) nd rfl (by first | exact Or.inl rfl | exact Or.inr rfl)))) (fun _ _ _ _ _ => dts_nil) (fun _ _ _ _ _ => (di_rng1 (by rfl) D.z_range (da_cons (de_c (pe_glob (by rfl) D.c_PAIR_seasons (D.r_PAIR_seasons)) fun _ => .int _) da_nil))) (fun _ _ _ _ _ => (dg_name (pg_name (i := 4) nd rfl (by first | exact Or.inl rfl | exact Or.inr rfl)))) (fun _ _ _ _ _ => dts_nil) (fun _ _ _ _ _ => (de_tup (da_cons (de_var (pv 2)) (da_cons (de_var (pv 3)) (da_cons (de_var (pv 4)) da_nil))))) (by decide) (by decide) (by decide))) (by decide) (by decide))).keep))
theorem ok_every_look (D : Dfs K mg) : FnOk P w K mg base (L2.CX P w) 1 D.f_every_look D.fd_every_look ["rota", "days"] (spM ⟨K, D.cl⟩ 2 false false m_every_look) :=
  fun_ok2 (cl := D.cl) (n := 2) (fm := m_every_look) D.F_every_look sc_every_look (by decide) (by rfl) (by unfold m_every_look; rfl) (bd_every_look D)
theorem bd_due_days (D : Dfs K mg) (cdv : Value) (A : Around) (outer : List Env) (s : Shared) (H : Hp) (E : XK) (π : Nat → Option Pin) (hr : Room 0 (A.deeper (envOfC "due_days" (defScope s_due_days) s.heap.objs.size D.f_due_days cdv))) : PSs (cxOf (L2.CX P w) P w K mg base ["season", "wheel", "day", "one"] "due_days" (defScope s_due_days) D.f_due_days cdv A outer s H E) (defBody s_due_days) (TMs ⟨K, D.cl⟩ π (fun cls d _ H => E cls d H) b_due_days) := by
  have nd := sc_due_days.nd
  have tk : Takes (cxOf (L2.CX P w) P w K mg base ["season", "wheel", "day", "one"] "due_days" (defScope s_due_days) D.f_due_days cdv A outer s H E) (fun cls d _ H => E cls d H) := takes_of rfl rfl rfl rfl
  have hp : PassesOwn (model P w) (cxOf (L2.CX P w) P w K mg base ["season", "wheel", "day", "one"] "due_days" (defScope s_due_days) D.f_due_days cdv A outer s H E).A (cxOf (L2.CX P w) P w K mg base ["season", "wheel", "day", "one"] "due_days" (defScope s_due_days) D.f_due_days cdv A outer s H E).env (cxOf (L2.CX P w) P w K mg base ["season", "wheel", "day", "one"] "due_days" (defScope s_due_days) D.f_due_days cdv A outer s H E).xe := passes_of rfl
  unfold b_due_days
  exact (dss_one (ds_ret (de_call1 (pe_callTy call_tuple_of (by rfl) D.z_tuple (by decide +kernel) (pa_cons ((dn_lc (pe_lc (own := [("day", 2), ("one", 3)]) rfl nd (di_seq rfl (de_attr rfl (at_due D) (dp_var (pv 0)) (by rfl))) (blkOk_by (own := [("day", 2), ("one", 3)]) (N := ["season", "wheel", "day", "one"]) (sc := defScope s_due_days) (by decide +kernel)) (fun _ _ _ _ _ => (dg_tup rfl rfl (dgs_cons (dg_name (pg_name (i := 2) nd rfl (by first | exact Or.inl rfl | exact Or.inr rfl))) (dgs_cons (dg_name (pg_name (i := 3) nd rfl (by first | exact Or.inl rfl | exact Or.inr rfl))) dgs_nil)))) (fun _ _ _ _ _ => (dts_one (dt_cmp (op_eqD hr.units) os_eq (de_var (pv 3)) (dp_var (pv 1)) (nomark _)))) (fun _ _ _ _ _ => (de_var (pv 2)))) (by decide))).keep.peek pa_nil)) cs_tuple)))
theorem ok_due_days (D : Dfs K mg) : FnOk P w K mg base (L2.CX P w) 1 D.f_due_days D.fd_due_days ["season", "wheel"] (spM ⟨K, D.cl⟩ 2 false false m_due_days) :=
  fun_ok2 (cl := D.cl) (n := 2) (fm := m_due_days) D.F_due_days sc_due_days (by decide) (by rfl) (by unfold m_due_days; rfl) (bd_due_days D)
theorem bd_seen_by_day (D : Dfs K mg) (cdv : Value) (A : Around) (outer : List Env) (s : Shared) (H : Hp) (E : XK) (π : Nat → Option Pin) (hr : Room 0 (A.deeper (envOfC "seen_by_day" (defScope s_seen_by_day) s.heap.objs.size D.f_seen_by_day cdv))) : PSs (cxOf (L2.CX P w) P w K mg base ["season", "wheel", "found", "day", "one", "up"] "seen_by_day" (defScope s_seen_by_day) D.f_seen_by_day cdv A outer s H E) (defBody s_seen_by_day) (TMs ⟨K, D.cl⟩ π (fun cls d _ H => E cls d H) b_seen_by_day) := by
  have nd := sc_seen_by_day.nd
  have tk : Takes (cxOf (L2.CX P w) P w K mg base ["season", "wheel", "found", "day", "one", "up"] "seen_by_day" (defScope s_seen_by_day) D.f_seen_by_day cdv A outer s H E) (fun cls d _ H => E cls d H) := takes_of rfl rfl rfl rfl
  have hp : PassesOwn (model P w) (cxOf (L2.CX P w) P w K mg base ["season", "wheel", "found", "day", "one", "up"] "seen_by_day" (defScope s_seen_by_day) D.f_seen_by_day cdv A outer s H E).A (cxOf (L2.CX P w) P w K mg base ["season", "wheel", "found", "day", "one", "up"] "seen_by_day" (defScope s_seen_by_day) D.f_seen_by_day cdv A outer s H E).env (cxOf (L2.CX P w) P w K mg base ["season", "wheel", "found", "day", "one", "up"] "seen_by_day" (defScope s_seen_by_day) D.f_seen_by_day cdv A outer s H E).xe := passes_of rfl
  unfold b_seen_by_day
  exact (dss_cons (ds_asgN (ps_set (i := 2) nd rfl (by first | exact Or.inl rfl | exact Or.inr rfl) (dn_dnewK pe_dnewK)))
    (dss_cons (ds_for hp rfl (di_seq rfl (de_attr rfl (at_looks D) (dp_var (pv 0)) (by rfl))) (dg_tup rfl rfl (dgs_cons (dg_name (pg_name (i := 3) nd rfl (by first | exact Or.inl rfl | exact Or.inr rfl))) (dgs_cons (dg_name (pg_name (i := 4) nd rfl (by first | exact Or.inl rfl | exact Or.inr rfl))) (dgs_cons (dg_name (pg_name (i := 5) nd rfl (by first | exact Or.inl rfl | exact Or.inr rfl))) dgs_nil)))) (dss_one (ds_if (dt_cmp (op_eqD hr.units) os_eq (de_var (pv 4)) (dp_var (pv 1)) (nomark _)) (dss_one (ds_dput (ps_dput (hu_of hr) (pv 2) (de_var (pv 3)) ((dn_lst (da_star rfl (de_dget2 (pe_dget2 (hu_of hr) (pv 2) (de_var (pv 3)) ((dn_lst da_nil)).keep ⟨rfl, rfl, rfl, rfl⟩)).peek (da_cons (de_var (pv 5)) da_nil) (StX.pa_star (de_dget2 (pe_dget2 (hu_of hr) (pv 2) (de_var (pv 3)) ((dn_lst da_nil)).keep ⟨rfl, rfl, rfl, rfl⟩)).peek (da_cons (de_var (pv 5)) da_nil))))).keep rfl))) dss_nil)))
    (dss_one (ds_retO (pv 2)))))
theorem ok_seen_by_day (D : Dfs K mg) : FnOk P w K mg base (L2.CX P w) 1 D.f_seen_by_day D.fd_seen_by_day ["season", "wheel"] (spM ⟨K, D.cl⟩ 2 false true m_seen_by_day) :=
  fun_ok2 (cl := D.cl) (n := 2) (fm := m_seen_by_day) D.F_seen_by_day sc_seen_by_day (by decide) (by rfl) (by unfold m_seen_by_day; rfl) (bd_seen_by_day D)
theorem bd_Live_len (D : Dfs K mg) (cdv : Value) (A : Around) (outer : List Env) (s : Shared) (H : Hp) (E : XK) (π : Nat → Option Pin) (hr : Room 0 (A.deeper (envOfC "Live.__len__" (defScope s_Live_len) s.heap.objs.size D.f_Live_len cdv))) : PSs (cxOf (L2.CX P w) P w K mg base ["self"] "Live.__len__" (defScope s_Live_len) D.f_Live_len cdv A outer s H E) (defBody s_Live_len) (TMs ⟨K, D.cl⟩ π (fun cls d _ H => E cls d H) b_Live_len) := by
  have nd := sc_Live_len.nd
  have tk : Takes (cxOf (L2.CX P w) P w K mg base ["self"] "Live.__len__" (defScope s_Live_len) D.f_Live_len cdv A outer s H E) (fun cls d _ H => E cls d H) := takes_of rfl rfl rfl rfl
  have hp : PassesOwn (model P w) (cxOf (L2.CX P w) P w K mg base ["self"] "Live.__len__" (defScope s_Live_len) D.f_Live_len cdv A outer s H E).A (cxOf (L2.CX P w) P w K mg base ["self"] "Live.__len__" (defScope s_Live_len) D.f_Live_len cdv A outer s H E).env (cxOf (L2.CX P w) P w K mg base ["self"] "Live.__len__" (defScope s_Live_len) D.f_Live_len cdv A outer s H E).xe := passes_of rfl
  unfold b_Live_len
  exact (dss_one (ds_ret (de_call1 (pe_callB cr_lenA (by rfl) D.z_len (by decide +kernel) (pa_cons (de_attr rfl (at_past D) (dp_var (pv 0)) (by rfl)).peek pa_nil)) cs_len)))
theorem ok_Live_len (D : Dfs K mg) : FnOk P w K mg base (L2.CX P w) 1 D.f_Live_len D.fd_Live_len ["self"] (spM ⟨K, D.cl⟩ 1 true false m_Live_len) :=
  fun_ok2 (cl := D.cl) (n := 1) (fm := m_Live_len) D.F_Live_len sc_Live_len (by decide) (by rfl) (by unfold m_Live_len; rfl) (bd_Live_len D)
theorem bd_Rota_eq (D : Dfs K mg) (cdv : Value) (A : Around) (outer : List Env) (s : Shared) (H : Hp) (E : XK) (π : Nat → Option Pin) (hr : Room 0 (A.deeper (envOfC "Rota.__eq__" (defScope s_Rota_eq) s.heap.objs.size D.f_Rota_eq cdv))) : PSs (cxOf (L2.CX P w) P w K mg base ["self", "other"] "Rota.__eq__" (defScope s_Rota_eq) D.f_Rota_eq cdv A outer s H E) (defBody s_Rota_eq) (TMs ⟨K, D.cl⟩ π (fun cls d _ H => E cls d H) b_Rota_eq) := by
  have nd := sc_Rota_eq.nd
  have tk : Takes (cxOf (L2.CX P w) P w K mg base ["self", "other"] "Rota.__eq__" (defScope s_Rota_eq) D.f_Rota_eq cdv A outer s H E) (fun cls d _ H => E cls d H) := takes_of rfl rfl rfl rfl
  have hp : PassesOwn (model P w) (cxOf (L2.CX P w) P w K mg base ["self", "other"] "Rota.__eq__" (defScope s_Rota_eq) D.f_Rota_eq cdv A outer s H E).A (cxOf (L2.CX P w) P w K mg base ["self", "other"] "Rota.__eq__" (defScope s_Rota_eq) D.f_Rota_eq cdv A outer s H E).env (cxOf (L2.CX P w) P w K mg base ["self", "other"] "Rota.__eq__" (defScope s_Rota_eq) D.f_Rota_eq cdv A outer s H E).xe := passes_of rfl
  unfold b_Rota_eq
  exact (dss_one (ds_ret (de_and (de_isC rfl (pe_callB (C8.call_isC D.ic_Rota) (by rfl) D.z_isinstance (by decide +kernel) (pa_cons (dp_var (pv 1)) (pa_cons (pe_glob (by rfl) D.gC_Rota rfl) pa_nil)))) (de_one (de_cmp (op_eqD hr.units) os_eq (de_attr rfl (at_text D) (dp_var (pv 0)) (by rfl)) (de_attr rfl (at_text D) (dp_var (pv 1)) (by rfl)).peek (nomark _))))))
theorem ok_Rota_eq (D : Dfs K mg) : FnOk P w K mg base (L2.CX P w) 1 D.f_Rota_eq D.fd_Rota_eq ["self", "other"] (spM ⟨K, D.cl⟩ 2 false false m_Rota_eq) :=
  fun_ok2 (cl := D.cl) (n := 2) (fm := m_Rota_eq) D.F_Rota_eq sc_Rota_eq (by decide) (by rfl) (by unfold m_Rota_eq; rfl) (bd_Rota_eq D)
theorem bd_text_of_rota (D : Dfs K mg) (cdv : Value) (A : Around) (outer : List Env) (s : Shared) (H : Hp) (E : XK) (π : Nat → Option Pin) (hr : Room 0 (A.deeper (envOfC "text_of_rota" (defScope s_text_of_rota) s.heap.objs.size D.f_text_of_rota cdv))) : PSs (cxOf (L2.CX P w) P w K mg base ["places", "rows", "found", "turned", "moves", "spots", "where", "one"] "text_of_rota" (defScope s_text_of_rota) D.f_text_of_rota cdv A outer s H E) (defBody s_text_of_rota) (TMs ⟨K, D.cl⟩ π (fun cls d _ H => E cls d H) b_text_of_rota) := by
  have nd := sc_text_of_rota.nd
  have tk : Takes (cxOf (L2.CX P w) P w K mg base ["places", "rows", "found", "turned", "moves", "spots", "where", "one"] "text_of_rota" (defScope s_text_of_rota) D.f_text_of_rota cdv A outer s H E) (fun cls d _ H => E cls d H) := takes_of rfl rfl rfl rfl
  have hp : PassesOwn (model P w) (cxOf (L2.CX P w) P w K mg base ["places", "rows", "found", "turned", "moves", "spots", "where", "one"] "text_of_rota" (defScope s_text_of_rota) D.f_text_of_rota cdv A outer s H E).A (cxOf (L2.CX P w) P w K mg base ["places", "rows", "found", "turned", "moves", "spots", "where", "one"] "text_of_rota" (defScope s_text_of_rota) D.f_text_of_rota cdv A outer s H E).env (cxOf (L2.CX P w) P w K mg base ["places", "rows", "found", "turned", "moves", "spots", "where", "one"] "text_of_rota" (defScope s_text_of_rota) D.f_text_of_rota cdv A outer s H E).xe := passes_of rfl
  unfold b_text_of_rota
  exact (dss_cons (ds_asgV (ps_set (i := 2) nd rfl (by first | exact Or.inl rfl | exact Or.inr rfl) (de_joined (mm := [(mPure (.str "places ")), (m1 fFmt (mVar 0))]) (PJ.cons de_str (PJ.cons (de_fmt (de_var (pv 0))) PJ.nil)))))
    (dss_cons (ds_for hp rfl (di_seq rfl (de_var (pv 1))) (dg_tup rfl rfl (dgs_cons (dg_name (pg_name (i := 3) nd rfl (by first | exact Or.inl rfl | exact Or.inr rfl))) (dgs_cons (dg_name (pg_name (i := 4) nd rfl (by first | exact Or.inl rfl | exact Or.inr rfl))) dgs_nil))) (dss_cons (ds_asgV (ps_set (i := 5) nd rfl (by first | exact Or.inl rfl | exact Or.inr rfl) (de_ifExp (dt_cmp op_gt os_gt (de_call1 (pe_callB cr_lenA (by rfl) D.z_len (by decide +kernel) (pa_cons (dp_var (pv 3)) pa_nil)) cs_len) (de_int).peek (nomark _)) (de_join (pe_join de_str ((dn_lc (pe_lc (own := [("one", 7)]) rfl nd (di_seq rfl (de_var (pv 3))) (blkOk_by (own := [("one", 7)]) (N := ["places", "rows", "found", "turned", "moves", "spots", "where", "one"]) (sc := defScope s_text_of_rota) (by decide +kernel)) (fun _ _ _ _ _ => (dg_name (pg_name (i := 7) nd rfl (by first | exact Or.inl rfl | exact Or.inr rfl)))) (fun _ _ _ _ _ => dts_nil) (fun _ _ _ _ _ => (de_call1 (pe_callTy call_str_int (by rfl) D.z_str (by decide +kernel) (pa_cons (dp_var (pv 7)) pa_nil)) cs_str))) (by decide))).keep.peek)) de_str)))
    (dss_cons (ds_asgV (ps_set (i := 6) nd rfl (by first | exact Or.inl rfl | exact Or.inr rfl) (de_join (pe_join de_str ((dn_lc (pe_lc (own := [("one", 7)]) rfl nd (di_seq rfl (de_var (pv 4))) (blkOk_by (own := [("one", 7)]) (N := ["places", "rows", "found", "turned", "moves", "spots", "where", "one"]) (sc := defScope s_text_of_rota) (by decide +kernel)) (fun _ _ _ _ _ => (dg_name (pg_name (i := 7) nd rfl (by first | exact Or.inl rfl | exact Or.inr rfl)))) (fun _ _ _ _ _ => dts_nil) (fun _ _ _ _ _ => (de_call1 (pe_callTy call_str_int (by rfl) D.z_str (by decide +kernel) (pa_cons (dp_var (pv 7)) pa_nil)) cs_str))) (by decide))).keep.peek))))
    (dss_one (ds_asgV (ps_set (i := 2) nd rfl (by first | exact Or.inl rfl | exact Or.inr rfl) (de_joined (mm := [(m1 fFmt (mVar 2)), (mPure (.str "\nturn ")), (m1 fFmt (mVar 5)), (mPure (.str " move ")), (m1 fFmt (mVar 6))]) (PJ.cons (de_fmt (de_var (pv 2))) (PJ.cons de_str (PJ.cons (de_fmt (de_var (pv 5))) (PJ.cons de_str (PJ.cons (de_fmt (de_var (pv 6))) PJ.nil))))))))))))
    (dss_one (ds_ret (de_var (pv 2))))))
theorem ok_text_of_rota (D : Dfs K mg) : FnOk P w K mg base (L2.CX P w) 1 D.f_text_of_rota D.fd_text_of_rota ["places", "rows"] (spM ⟨K, D.cl⟩ 2 false false m_text_of_rota) :=
  fun_ok2 (cl := D.cl) (n := 2) (fm := m_text_of_rota) D.F_text_of_rota sc_text_of_rota (by decide) (by rfl) (by unfold m_text_of_rota; rfl) (bd_text_of_rota D)
theorem bd_law_box (D : Dfs K mg) (cdv : Value) (A : Around) (outer : List Env) (s : Shared) (H : Hp) (E : XK) (π : Nat → Option Pin) (hr : Room 0 (A.deeper (envOfC "_law_box" (defScope s_law_box) s.heap.objs.size D.f_law_box cdv))) : PSs (cxOf (L2.CX P w) P w K mg base ["_law_script", "_law_k", "_law_own", "_law_cell", "_law_seed"] "_law_box" (defScope s_law_box) D.f_law_box cdv A outer s H E) (defBody s_law_box) (TMs ⟨K, D.cl⟩ π (fun cls d _ H => E cls d H) b_law_box) := by
  have nd := sc_law_box.nd
  have tk : Takes (cxOf (L2.CX P w) P w K mg base ["_law_script", "_law_k", "_law_own", "_law_cell", "_law_seed"] "_law_box" (defScope s_law_box) D.f_law_box cdv A outer s H E) (fun cls d _ H => E cls d H) := takes_of rfl rfl rfl rfl
  have hp : PassesOwn (model P w) (cxOf (L2.CX P w) P w K mg base ["_law_script", "_law_k", "_law_own", "_law_cell", "_law_seed"] "_law_box" (defScope s_law_box) D.f_law_box cdv A outer s H E).A (cxOf (L2.CX P w) P w K mg base ["_law_script", "_law_k", "_law_own", "_law_cell", "_law_seed"] "_law_box" (defScope s_law_box) D.f_law_box cdv A outer s H E).env (cxOf (L2.CX P w) P w K mg base ["_law_script", "_law_k", "_law_own", "_law_cell", "_law_seed"] "_law_box" (defScope s_law_box) D.f_law_box cdv A outer s H E).xe := passes_of rfl
  unfold b_law_box
  exact (dss_cons (ds_asgV (ps_set (i := 3) nd rfl (by first | exact Or.inl rfl | exact Or.inr rfl) (de_bin op_addA os_add (de_bin op_addA os_add (de_bin op_mul os_mulI de_int (dp_var (pv 1))) (de_bin op_mul os_mulI de_int (dp_var (pv 2))).peek) (de_int).peek)))
    (dss_cons (ds_if (dt_cmp op_lt os_lt (de_var (pv 1)) (de_call1 (pe_callB cr_lenA (by rfl) D.z_len (by decide +kernel) (pa_cons (dp_var (pv 0)) pa_nil)) cs_len).peek (nomark _)) (dss_one (ds_asgV (ps_set (i := 3) nd rfl (by first | exact Or.inl rfl | exact Or.inr rfl) (de_call1 (pe_callB call_abs (by rfl) D.z_abs (by decide +kernel) (pa_cons (de_ixV (pe_ix ix_seq (pv 0) (de_var (pv 1)) (fun _ _ => rfl))).peek pa_nil)) cs_abs)))) (dss_one (ds_if (dt_cmp op_gt os_gt (de_call1 (pe_callB cr_lenA (by rfl) D.z_len (by decide +kernel) (pa_cons (dp_var (pv 0)) pa_nil)) cs_len) (de_int).peek (nomark _)) (dss_one (ds_asgV (ps_set (i := 3) nd rfl (by first | exact Or.inl rfl | exact Or.inr rfl) (de_bin op_addA os_add (de_var (pv 3)) (de_bin op_mul os_mulI (de_bin op_mod os_mod (de_call1 (pe_callTy call_int1 (by rfl) D.z_int (by decide +kernel) (pa_cons (de_call1 (pe_callB call_abs (by rfl) D.z_abs (by decide +kernel) (pa_cons (de_ixV (pe_ix ix_seq (pv 0) (de_bin op_mod os_mod (de_call1 (pe_callTy call_int1 (by rfl) D.z_int (by decide +kernel) (pa_cons (dp_var (pv 1)) pa_nil)) cs_int) (de_call1 (pe_callB cr_lenA (by rfl) D.z_len (by decide +kernel) (pa_cons (dp_var (pv 0)) pa_nil)) cs_len).peek) (fun _ _ => rfl))).peek pa_nil)) cs_abs).peek pa_nil)) cs_int) (de_int).peek) (de_int).peek).peek)))) dss_nil)))
    (dss_cons (ds_asgV (ps_set (i := 4) nd rfl (by first | exact Or.inl rfl | exact Or.inr rfl) (de_bin op_addA os_add (de_bin op_mod os_mod (de_call1 (pe_callTy call_int1 (by rfl) D.z_int (by decide +kernel) (pa_cons (de_bin op_addA os_add (de_bin op_mul os_mulI (de_bin op_mod os_mod (de_call1 (pe_callTy call_int1 (by rfl) D.z_int (by decide +kernel) (pa_cons (dp_var (pv 3)) pa_nil)) cs_int) (de_int).peek) (de_int).peek) (de_bin op_mul os_mulI de_int (de_bin op_addA os_add (de_var (pv 1)) (de_bin op_mul os_mulI de_int (dp_var (pv 2))).peek).peek).peek).peek pa_nil)) cs_int) (de_int).peek) (de_int).peek)))
    (dss_one (ds_retN (dn_lst (da_cons (de_tOp (pe_ix ix_seq ((dn_lst (da_cons de_int (da_cons (de_var (pv 3)) da_nil)))).keep (de_call1 (pe_callTy call_int1 (by rfl) D.z_int (by decide +kernel) (pa_cons (de_cmp op_ge os_ge (de_var (pv 3)) (de_bin op_pow os_pow de_int (de_int).peek).peek (nomark _)).peek pa_nil)) cs_int).peek (fun _ _ => rfl)) os_ix) (da_cons (de_var (pv 4)) (da_cons de_int da_nil)))))))))
theorem ok_law_box (D : Dfs K mg) : FnOk P w K mg base (L2.CX P w) 1 D.f_law_box D.fd_law_box ["_law_script", "_law_k", "_law_own"] (spM ⟨K, D.cl⟩ 3 false true m_law_box) :=
  fun_ok2 (cl := D.cl) (n := 3) (fm := m_law_box) D.F_law_box sc_law_box (by decide) (by rfl) (by unfold m_law_box; rfl) (bd_law_box D)
theorem bd_law_take (D : Dfs K mg) (cdv : Value) (A : Around) (outer : List Env) (s : Shared) (H : Hp) (E : XK) (π : Nat → Option Pin) (hr : Room 0 (A.deeper (envOfC "_law_take" (defScope s_law_take) s.heap.objs.size D.f_law_take cdv))) : PSs (cxOf (L2.CX P w) P w K mg base ["_law_box_here", "_law_bound", "_law_digit", "_law_raw", "_law_wide"] "_law_take" (defScope s_law_take) D.f_law_take cdv A outer s H E) (defBody s_law_take) (TMs ⟨K, D.cl⟩ π (fun cls d _ H => E cls d H) b_law_take) := by
  have nd := sc_law_take.nd
  have tk : Takes (cxOf (L2.CX P w) P w K mg base ["_law_box_here", "_law_bound", "_law_digit", "_law_raw", "_law_wide"] "_law_take" (defScope s_law_take) D.f_law_take cdv A outer s H E) (fun cls d _ H => E cls d H) := takes_of rfl rfl rfl rfl
  have hp : PassesOwn (model P w) (cxOf (L2.CX P w) P w K mg base ["_law_box_here", "_law_bound", "_law_digit", "_law_raw", "_law_wide"] "_law_take" (defScope s_law_take) D.f_law_take cdv A outer s H E).A (cxOf (L2.CX P w) P w K mg base ["_law_box_here", "_law_bound", "_law_digit", "_law_raw", "_law_wide"] "_law_take" (defScope s_law_take) D.f_law_take cdv A outer s H E).env (cxOf (L2.CX P w) P w K mg base ["_law_box_here", "_law_bound", "_law_digit", "_law_raw", "_law_wide"] "_law_take" (defScope s_law_take) D.f_law_take cdv A outer s H E).xe := passes_of rfl
  unfold b_law_take
  exact (dss_cons (ds_if (dt_cmp op_gt os_gt (de_ixV (pe_ix ix_seq (pv 0) de_int (fun _ _ => rfl))) (de_int).peek (nomark _)) (dss_cons (ds_asgV (ps_set (i := 2) nd rfl (by first | exact Or.inl rfl | exact Or.inr rfl) (de_bin op_mod os_mod (de_call1 (pe_callTy call_int1 (by rfl) D.z_int (by decide +kernel) (pa_cons (de_ixV (pe_ix ix_seq (pv 0) de_int (fun _ _ => rfl))).peek pa_nil)) cs_int) (dp_var (pv 1)))))
    (dss_cons (ds_lput (ps_asg (de_bin op_fdivW os_div (de_ixV (pe_ix ix_seq (pv 0) de_int (fun _ _ => rfl))) (dp_var (pv 1))) (pg_sub (pv 0) de_int set_list)))
    (dss_one (ds_ret (de_var (pv 2)))))) dss_nil)
    (dss_cons (ds_lput (ps_asg (de_bin op_addA os_add (de_ixV (pe_ix ix_seq (pv 0) de_int (fun _ _ => rfl))) (de_int).peek) (pg_sub (pv 0) de_int set_list)))
    (dss_cons (ds_asgV (ps_set (i := 3) nd rfl (by first | exact Or.inl rfl | exact Or.inr rfl) (de_bin op_mod os_mod (de_call1 (pe_callTy call_int1 (by rfl) D.z_int (by decide +kernel) (pa_cons (de_bin op_mul os_mulI (de_bin op_addA os_add (de_ixV (pe_ix ix_seq (pv 0) de_int (fun _ _ => rfl))) (de_bin op_mul os_mulI de_int (de_ixV (pe_ix ix_seq (pv 0) de_int (fun _ _ => rfl))).peek).peek) (de_int).peek).peek pa_nil)) cs_int) (de_int).peek)))
    (dss_cons (ds_lput (ps_asg (de_bin op_addA os_add (de_bin op_mod os_mod (de_call1 (pe_callTy call_int1 (by rfl) D.z_int (by decide +kernel) (pa_cons (de_bin op_addA os_add (de_bin op_mul os_mulI (de_var (pv 3)) (de_int).peek) (de_int).peek).peek pa_nil)) cs_int) (de_int).peek) (de_int).peek) (pg_sub (pv 0) de_int set_list)))
    (dss_cons (ds_if (dt_cmp op_lt os_lt (de_var (pv 1)) (de_bin op_pow os_pow de_int (de_int).peek).peek (nomark _)) (dss_one (ds_ret (de_bin op_mod os_mod (de_call1 (pe_callTy call_int1 (by rfl) D.z_int (by decide +kernel) (pa_cons (de_bin op_fdivW os_div (de_bin op_addA os_add (de_bin op_mul os_mulI (de_var (pv 3)) (de_int).peek) (de_ixV (pe_ix ix_seq (pv 0) de_int (fun _ _ => rfl))).peek) (de_int).peek).peek pa_nil)) cs_int) (dp_var (pv 1))))) dss_nil)
    (dss_cons (ds_asgV (ps_set (i := 4) nd rfl (by first | exact Or.inl rfl | exact Or.inr rfl) (de_bin op_mul os_mulI (de_bin op_addA os_add (de_bin op_mul os_mulI (de_var (pv 3)) (de_int).peek) (de_ixV (pe_ix ix_seq (pv 0) de_int (fun _ _ => rfl))).peek) (de_bin op_pow os_pow de_int (de_int).peek).peek)))
    (dss_one (ds_ret (de_bin op_mod os_mod (de_call1 (pe_callTy call_int1 (by rfl) D.z_int (by decide +kernel) (pa_cons (de_bin op_addA os_add (de_bin op_addA os_add (de_var (pv 4)) (de_bin op_mul os_mulI (de_bin op_pow os_pow (de_ixV (pe_ix ix_seq (pv 0) de_int (fun _ _ => rfl))) (de_int).peek) (de_int).peek).peek) (dp_var (pv 3))).peek pa_nil)) cs_int) (dp_var (pv 1)))))))))))
theorem ok_law_take (D : Dfs K mg) : FnOk P w K mg base (L2.CX P w) 1 D.f_law_take D.fd_law_take ["_law_box_here", "_law_bound"] (spM ⟨K, D.cl⟩ 2 true false m_law_take) :=
  fun_ok2 (cl := D.cl) (n := 2) (fm := m_law_take) D.F_law_take sc_law_take (by decide) (by rfl) (by unfold m_law_take; rfl) (bd_law_take D)
theorem bd_law_days (D : Dfs K mg) (cdv : Value) (A : Around) (outer : List Env) (s : Shared) (H : Hp) (E : XK) (π : Nat → Option Pin) (hr : Room 0 (A.deeper (envOfC "_law_days" (defScope s_law_days) s.heap.objs.size D.f_law_days cdv))) : PSs (cxOf (L2.CX P w) P w K mg base ["_law_told", "_law_days_here", "_law_spots", "_law_found", "_law_due", "_law_day", "_law_turned", "_law_moves", "_law_wheel", "_law_spot"] "_law_days" (defScope s_law_days) D.f_law_days cdv A outer s H E) (defBody s_law_days) (TMs ⟨K, D.cl⟩ π (fun cls d _ H => E cls d H) b_law_days) := by
  have nd := sc_law_days.nd
  have tk : Takes (cxOf (L2.CX P w) P w K mg base ["_law_told", "_law_days_here", "_law_spots", "_law_found", "_law_due", "_law_day", "_law_turned", "_law_moves", "_law_wheel", "_law_spot"] "_law_days" (defScope s_law_days) D.f_law_days cdv A outer s H E) (fun cls d _ H => E cls d H) := takes_of rfl rfl rfl rfl
  have hp : PassesOwn (model P w) (cxOf (L2.CX P w) P w K mg base ["_law_told", "_law_days_here", "_law_spots", "_law_found", "_law_due", "_law_day", "_law_turned", "_law_moves", "_law_wheel", "_law_spot"] "_law_days" (defScope s_law_days) D.f_law_days cdv A outer s H E).A (cxOf (L2.CX P w) P w K mg base ["_law_told", "_law_days_here", "_law_spots", "_law_found", "_law_due", "_law_day", "_law_turned", "_law_moves", "_law_wheel", "_law_spot"] "_law_days" (defScope s_law_days) D.f_law_days cdv A outer s H E).env (cxOf (L2.CX P w) P w K mg base ["_law_told", "_law_days_here", "_law_spots", "_law_found", "_law_due", "_law_day", "_law_turned", "_law_moves", "_law_wheel", "_law_spot"] "_law_days" (defScope s_law_days) D.f_law_days cdv A outer s H E).xe := passes_of rfl
  unfold b_law_days
  exact (dss_cons (ds_parT (is := [2, 3, 4]) rfl (ps_asg (pe_tup (dk_val ((dn_listRg (pe_listRg rfl (by rfl) D.z_list (prg_1 (by rfl) D.z_range (de_ixV (pe_ix ix_seq (pv 0) de_int (fun _ _ => rfl))))))).keep (dk_own (dn_lst da_nil) (dk_own (dn_lst da_nil) dk_nil)))) (pg_tup rfl (pgs_cons (pg_name (i := 2) nd rfl (by first | exact Or.inl rfl | exact Or.inr rfl)) (pgs_cons (pg_name (i := 3) nd rfl (by first | exact Or.inl rfl | exact Or.inr rfl)) (pgs_cons (pg_name (i := 4) nd rfl (by first | exact Or.inl rfl | exact Or.inr rfl)) pgs_nil))))) rfl rfl (by decide))
    (dss_cons (ds_for hp rfl (di_rng1 (by rfl) D.z_range (da_cons (de_var (pv 1)) da_nil)) (dg_name (pg_name (i := 5) nd rfl (by first | exact Or.inl rfl | exact Or.inr rfl))) (dss_cons (ds_asg (ps_asg (de_tOp (pe_ix ix_seq (de_ixV (pe_ix ix_seq (pv 0) de_int (fun _ _ => rfl))) (de_bin op_mod os_mod (de_var (pv 5)) (de_call1 (pe_callB cr_lenA (by rfl) D.z_len (by decide +kernel) (pa_cons (de_ixV (pe_ix ix_seq (pv 0) de_int (fun _ _ => rfl))).peek pa_nil)) cs_len).peek).peek (fun _ _ => rfl)) os_ix) (dg_tup rfl rfl (dgs_cons (dg_name (pg_name (i := 6) nd rfl (by first | exact Or.inl rfl | exact Or.inr rfl))) (dgs_cons (dg_name (pg_name (i := 7) nd rfl (by first | exact Or.inl rfl | exact Or.inr rfl))) dgs_nil)))))
    (dss_cons (ds_expr (de_append rfl (pe_bm PySem.F.plainAttrs_list PySem.F.slot_list_append PySem.F.type_list_append mt_append (pv 3) (pa_cons (de_var (pv 2)) pa_nil))))
    (dss_cons (ds_expr (de_extend rfl (pe_bm PySem.F.plainAttrs_list PySem.F.slot_list_extend PySem.F.type_list_extend mt_extend (pv 4) (pa_cons (dn_lc (pe_lc (own := [("_law_wheel", 8)]) rfl nd (di_rng1 (by rfl) D.z_range (da_cons (de_ixV (pe_ix ix_seq (pv 0) de_int (fun _ _ => rfl))) da_nil)) (blkOk_by (own := [("_law_wheel", 8)]) (N := ["_law_told", "_law_days_here", "_law_spots", "_law_found", "_law_due", "_law_day", "_law_turned", "_law_moves", "_law_wheel", "_law_spot"]) (sc := defScope s_law_days) (by decide +kernel)) (fun _ _ _ _ _ => (dg_name (pg_name (i := 8) nd rfl (by first | exact Or.inl rfl | exact Or.inr rfl)))) (fun _ _ _ _ _ => (dts_one (dt_cmp (op_inA hr.units) os_inA (de_ixV (pe_ix ix_seq (pv 2) (de_var (pv 8)) (fun _ _ => rfl))) (dp_var (pv 6)) (by rfl)))) (fun _ _ _ _ _ => (de_tup (da_cons (de_var (pv 5)) (da_cons (de_var (pv 8)) da_nil))))) (by decide)) pa_nil))))
    (dss_one (ds_asgV (ps_set (i := 2) nd rfl (by first | exact Or.inl rfl | exact Or.inr rfl) ((dn_lc (pe_lc (own := [("_law_spot", 9)]) rfl nd (di_seq rfl (de_var (pv 2))) (blkOk_by (own := [("_law_spot", 9)]) (N := ["_law_told", "_law_days_here", "_law_spots", "_law_found", "_law_due", "_law_day", "_law_turned", "_law_moves", "_law_wheel", "_law_spot"]) (sc := defScope s_law_days) (by decide +kernel)) (fun _ _ _ _ _ => (dg_name (pg_name (i := 9) nd rfl (by first | exact Or.inl rfl | exact Or.inr rfl)))) (fun _ _ _ _ _ => dts_nil) (fun _ _ _ _ _ => (de_ixV (pe_ix ix_seq (pv 7) (de_var (pv 9)) (fun _ _ => rfl))))) (by decide))).keep)))))))
    (dss_one (ds_ret (de_tup (da_cons (de_bin op_addA os_add (de_var (pv 3)) ((dn_lst (da_cons (de_var (pv 2)) da_nil))).keep.peek) (da_cons (de_var (pv 4)) da_nil)))))))
theorem ok_law_days (D : Dfs K mg) : FnOk P w K mg base (L2.CX P w) 1 D.f_law_days D.fd_law_days ["_law_told", "_law_days_here"] (spM ⟨K, D.cl⟩ 2 false false m_law_days) :=
  fun_ok2 (cl := D.cl) (n := 2) (fm := m_law_days) D.F_law_days sc_law_days (by decide) (by rfl) (by unfold m_law_days; rfl) (bd_law_days D)
theorem bd_law_sides (D : Dfs K mg) (cdv : Value) (A : Around) (outer : List Env) (s : Shared) (H : Hp) (E : XK) (π : Nat → Option Pin) (hr : Room 0 (A.deeper (envOfC "_law_sides" (defScope s_law_sides) s.heap.objs.size D.f_law_sides cdv))) : PSs (cxOf (L2.CX P w) P w K mg base ["_law_places", "_law_due", "_law_missed_here", "_law_day", "_law_found", "_law_one", "_law_wheel"] "_law_sides" (defScope s_law_sides) D.f_law_sides cdv A outer s H E) (defBody s_law_sides) (TMs ⟨K, D.cl⟩ π (fun cls d _ H => E cls d H) b_law_sides) := by
  have nd := sc_law_sides.nd
  have tk : Takes (cxOf (L2.CX P w) P w K mg base ["_law_places", "_law_due", "_law_missed_here", "_law_day", "_law_found", "_law_one", "_law_wheel"] "_law_sides" (defScope s_law_sides) D.f_law_sides cdv A outer s H E) (fun cls d _ H => E cls d H) := takes_of rfl rfl rfl rfl
  have hp : PassesOwn (model P w) (cxOf (L2.CX P w) P w K mg base ["_law_places", "_law_due", "_law_missed_here", "_law_day", "_law_found", "_law_one", "_law_wheel"] "_law_sides" (defScope s_law_sides) D.f_law_sides cdv A outer s H E).A (cxOf (L2.CX P w) P w K mg base ["_law_places", "_law_due", "_law_missed_here", "_law_day", "_law_found", "_law_one", "_law_wheel"] "_law_sides" (defScope s_law_sides) D.f_law_sides cdv A outer s H E).env (cxOf (L2.CX P w) P w K mg base ["_law_places", "_law_due", "_law_missed_here", "_law_day", "_law_found", "_law_one", "_law_wheel"] "_law_sides" (defScope s_law_sides) D.f_law_sides cdv A outer s H E).xe := passes_of rfl
  unfold b_law_sides
  exact (dss_cons (ds_asgN (ps_set (i := 4) nd rfl (by first | exact Or.inl rfl | exact Or.inr rfl) (dn_rep ((dn_lst (da_cons de_int da_nil))).keep (dp_var (pv 0)))))
    (dss_cons (ds_for hp rfl (di_seq rfl (de_var (pv 1))) (dg_tup rfl rfl (dgs_cons (dg_name (pg_name (i := 5) nd rfl (by first | exact Or.inl rfl | exact Or.inr rfl))) (dgs_cons (dg_name (pg_name (i := 6) nd rfl (by first | exact Or.inl rfl | exact Or.inr rfl))) dgs_nil))) (dss_one (ds_if (PW.pt (dw_and (dt_cmp op_lt os_lt (de_var (pv 5)) (dp_var (pv 3)) (nomark _)) (dw_and1 (dt_cmp (op_notInA hr.units) os_notInA (de_tup (da_cons (de_var (pv 5)) (da_cons (de_var (pv 6)) da_nil))) (dp_var (pv 2)) (by rfl))))) (dss_one (ds_lput (ps_asg (de_bin op_sub os_sub de_int (de_ixV (pe_ix ix_seq (pv 4) (de_var (pv 6)) (fun _ _ => rfl))).peek) (pg_sub (pv 4) (de_var (pv 6)) set_list)))) dss_nil)))
    (dss_one (ds_ret (de_var (pv 4))))))
theorem ok_law_sides (D : Dfs K mg) : FnOk P w K mg base (L2.CX P w) 1 D.f_law_sides D.fd_law_sides ["_law_places", "_law_due", "_law_missed_here", "_law_day"] (spM ⟨K, D.cl⟩ 4 false false m_law_sides) :=
  fun_ok2 (cl := D.cl) (n := 4) (fm := m_law_sides) D.F_law_sides sc_law_sides (by decide) (by rfl) (by unfold m_law_sides; rfl) (bd_law_sides D)
theorem bd_is_from (D : Dfs K mg) (cdv : Value) (A : Around) (outer : List Env) (s : Shared) (H : Hp) (E : XK) (π : Nat → Option Pin) (hr : Room 1 (A.deeper (envOfC "is_from" (defScope s_is_from) s.heap.objs.size D.f_is_from cdv))) : PSs (cxOf (L2.CX P w) P w K mg base ["value", "least"] "is_from" (defScope s_is_from) D.f_is_from cdv A outer s H E) (defBody s_is_from) (TMs ⟨K, D.cl⟩ π (fun cls d _ H => E cls d H) b_is_from) := by
  have nd := sc_is_from.nd
  have tk : Takes (cxOf (L2.CX P w) P w K mg base ["value", "least"] "is_from" (defScope s_is_from) D.f_is_from cdv A outer s H E) (fun cls d _ H => E cls d H) := takes_of rfl rfl rfl rfl
  have hp : PassesOwn (model P w) (cxOf (L2.CX P w) P w K mg base ["value", "least"] "is_from" (defScope s_is_from) D.f_is_from cdv A outer s H E).A (cxOf (L2.CX P w) P w K mg base ["value", "least"] "is_from" (defScope s_is_from) D.f_is_from cdv A outer s H E).env (cxOf (L2.CX P w) P w K mg base ["value", "least"] "is_from" (defScope s_is_from) D.f_is_from cdv A outer s H E).xe := passes_of rfl
  unfold b_is_from
  exact (dss_one (ds_ret (de_and (de_call (ok_is_integer D) (hr.mono (by decide)) (by rfl) D.g_is_integer D.F_is_integer.kp D.b_is_integer tk (da_cons (de_var (pv 0)) da_nil)) (de_one (de_cmp op_ge os_ge (de_var (pv 0)) (dp_var (pv 1)) (nomark _))))))
theorem ok_is_from (D : Dfs K mg) : FnOk P w K mg base (L2.CX P w) 2 D.f_is_from D.fd_is_from ["value", "least"] (spM ⟨K, D.cl⟩ 2 false false m_is_from) :=
  fun_ok2 (cl := D.cl) (n := 2) (fm := m_is_from) D.F_is_from sc_is_from (by decide) (by rfl) (by unfold m_is_from; rfl) (bd_is_from D)
theorem bd_due_in_round (D : Dfs K mg) (cdv : Value) (A : Around) (outer : List Env) (s : Shared) (H : Hp) (E : XK) (π : Nat → Option Pin) (hr : Room 1 (A.deeper (envOfC "due_in_round" (defScope s_due_in_round) s.heap.objs.size D.f_due_in_round cdv))) : PSs (cxOf (L2.CX P w) P w K mg base ["rota", "wheel", "size", "day", "spot"] "due_in_round" (defScope s_due_in_round) D.f_due_in_round cdv A outer s H E) (defBody s_due_in_round) (TMs ⟨K, D.cl⟩ π (fun cls d _ H => E cls d H) b_due_in_round) := by
  have nd := sc_due_in_round.nd
  have tk : Takes (cxOf (L2.CX P w) P w K mg base ["rota", "wheel", "size", "day", "spot"] "due_in_round" (defScope s_due_in_round) D.f_due_in_round cdv A outer s H E) (fun cls d _ H => E cls d H) := takes_of rfl rfl rfl rfl
  have hp : PassesOwn (model P w) (cxOf (L2.CX P w) P w K mg base ["rota", "wheel", "size", "day", "spot"] "due_in_round" (defScope s_due_in_round) D.f_due_in_round cdv A outer s H E).A (cxOf (L2.CX P w) P w K mg base ["rota", "wheel", "size", "day", "spot"] "due_in_round" (defScope s_due_in_round) D.f_due_in_round cdv A outer s H E).env (cxOf (L2.CX P w) P w K mg base ["rota", "wheel", "size", "day", "spot"] "due_in_round" (defScope s_due_in_round) D.f_due_in_round cdv A outer s H E).xe := passes_of rfl
  unfold b_due_in_round
  exact (dss_cons (ds_asgV (ps_set (i := 2) nd rfl (by first | exact Or.inl rfl | exact Or.inr rfl) (de_call1 (pe_callB cr_lenA (by rfl) D.z_len (by decide +kernel) (pa_cons (de_attr rfl (at_rows D) (dp_var (pv 0)) (by rfl)).peek pa_nil)) cs_len)))
    (dss_one (ds_ret (de_call1 (pe_callTy call_tuple_of (by rfl) D.z_tuple (by decide +kernel) (pa_cons ((dn_lc (pe_lc (own := [("day", 3), ("spot", 4)]) rfl nd (di_enum rfl (by rfl) D.z_enumerate (de_call (ok_way D) (hr.mono (by decide)) (by rfl) D.g_way D.F_way.kp D.b_way tk (da_cons (de_var (pv 0)) (da_cons (de_var (pv 1)) da_nil)))) (blkOk_by (own := [("day", 3), ("spot", 4)]) (N := ["rota", "wheel", "size", "day", "spot"]) (sc := defScope s_due_in_round) (by decide +kernel)) (fun _ _ _ _ _ => (dg_tup rfl rfl (dgs_cons (dg_name (pg_name (i := 3) nd rfl (by first | exact Or.inl rfl | exact Or.inr rfl))) (dgs_cons (dg_name (pg_name (i := 4) nd rfl (by first | exact Or.inl rfl | exact Or.inr rfl))) dgs_nil)))) (fun _ _ _ _ _ => (dts_one (dt_cmp (op_inA hr.units) os_inA (de_var (pv 4)) (de_tOp (pe_ix ix_seq (de_tOp (pe_ix ix_seq (de_attr rfl (at_rows D) (dp_var (pv 0)) (by rfl)) (de_bin op_mod os_mod (de_var (pv 3)) (dp_var (pv 2))).peek (fun _ _ => rfl)) os_ix) (de_int).peek (fun _ _ => rfl)) os_ix).peek (by rfl)))) (fun _ _ _ _ _ => (de_var (pv 3)))) (by decide))).keep.peek pa_nil)) cs_tuple))))
theorem ok_due_in_round (D : Dfs K mg) : FnOk P w K mg base (L2.CX P w) 2 D.f_due_in_round D.fd_due_in_round ["rota", "wheel"] (spM ⟨K, D.cl⟩ 2 false false m_due_in_round) :=
  fun_ok2 (cl := D.cl) (n := 2) (fm := m_due_in_round) D.F_due_in_round sc_due_in_round (by decide) (by rfl) (by unfold m_due_in_round; rfl) (bd_due_in_round D)
theorem bd_stretches_of (D : Dfs K mg) (cdv : Value) (A : Around) (outer : List Env) (s : Shared) (H : Hp) (E : XK) (π : Nat → Option Pin) (hr : Room 1 (A.deeper (envOfC "stretches_of" (defScope s_stretches_of) s.heap.objs.size D.f_stretches_of cdv))) : PSs (cxOf (L2.CX P w) P w K mg base ["season", "wheel", "found", "first", "up", "days", "day", "seen", "size", "one"] "stretches_of" (defScope s_stretches_of) D.f_stretches_of cdv A outer s H E) (defBody s_stretches_of) (TMs ⟨K, D.cl⟩ π (fun cls d _ H => E cls d H) b_stretches_of) := by
  have nd := sc_stretches_of.nd
  have tk : Takes (cxOf (L2.CX P w) P w K mg base ["season", "wheel", "found", "first", "up", "days", "day", "seen", "size", "one"] "stretches_of" (defScope s_stretches_of) D.f_stretches_of cdv A outer s H E) (fun cls d _ H => E cls d H) := takes_of rfl rfl rfl rfl
  have hp : PassesOwn (model P w) (cxOf (L2.CX P w) P w K mg base ["season", "wheel", "found", "first", "up", "days", "day", "seen", "size", "one"] "stretches_of" (defScope s_stretches_of) D.f_stretches_of cdv A outer s H E).A (cxOf (L2.CX P w) P w K mg base ["season", "wheel", "found", "first", "up", "days", "day", "seen", "size", "one"] "stretches_of" (defScope s_stretches_of) D.f_stretches_of cdv A outer s H E).env (cxOf (L2.CX P w) P w K mg base ["season", "wheel", "found", "first", "up", "days", "day", "seen", "size", "one"] "stretches_of" (defScope s_stretches_of) D.f_stretches_of cdv A outer s H E).xe := passes_of rfl
  unfold b_stretches_of
  exact (dss_cons (ds_parT (is := [2, 3, 4]) rfl (ps_asg (pe_tup (dk_own (dn_lst da_nil) (dk_val de_int (dk_val de_int dk_nil)))) (pg_tup rfl (pgs_cons (pg_name (i := 2) nd rfl (by first | exact Or.inl rfl | exact Or.inr rfl)) (pgs_cons (pg_name (i := 3) nd rfl (by first | exact Or.inl rfl | exact Or.inr rfl)) (pgs_cons (pg_name (i := 4) nd rfl (by first | exact Or.inl rfl | exact Or.inr rfl)) pgs_nil))))) rfl rfl (by decide))
    (dss_cons (ds_asgV (ps_set (i := 5) nd rfl (by first | exact Or.inl rfl | exact Or.inr rfl) (de_call (ok_due_days D) (hr.mono (by decide)) (by rfl) D.g_due_days D.F_due_days.kp D.b_due_days tk (da_cons (de_var (pv 0)) (da_cons (de_var (pv 1)) da_nil)))))
    (dss_cons (ds_for hp rfl (di_itemsN (dn_call (ok_seen_by_day D) (hr.mono (by decide)) (by rfl) D.g_seen_by_day D.F_seen_by_day.kp D.b_seen_by_day tk (da_cons (de_var (pv 0)) (da_cons (de_var (pv 1)) da_nil)))) (dg_tup rfl rfl (dgs_cons (dg_name (pg_name (i := 6) nd rfl (by first | exact Or.inl rfl | exact Or.inr rfl))) (dgs_cons (dg_name (pg_name (i := 7) nd rfl (by first | exact Or.inl rfl | exact Or.inr rfl))) dgs_nil))) (dss_cons (ds_asgV (ps_set (i := 8) nd rfl (by first | exact Or.inl rfl | exact Or.inr rfl) (de_call1 (pe_callB cr_lenA (by rfl) D.z_len (by decide +kernel) (pa_cons ((dn_lc (pe_lc (own := [("one", 9)]) rfl nd (di_seq rfl (de_var (pv 5))) (blkOk_by (own := [("one", 9)]) (N := ["season", "wheel", "found", "first", "up", "days", "day", "seen", "size", "one"]) (sc := defScope s_stretches_of) (by decide +kernel)) (fun _ _ _ _ _ => (dg_name (pg_name (i := 9) nd rfl (by first | exact Or.inl rfl | exact Or.inr rfl)))) (fun _ _ _ _ _ => (dts_one (dt_chain (pt_chain op_le op_lt (de_var (pv 3)) (de_var (pv 9)) (dp_var (pv 6))) os_le os_lt))) (fun _ _ _ _ _ => (de_var (pv 9)))) (by decide))).keep.peek pa_nil)) cs_len)))
    (dss_cons (ds_expr (de_append rfl (pe_bm PySem.F.plainAttrs_list PySem.F.slot_list_append PySem.F.type_list_append mt_append (pv 2) (pa_cons (de_tup (da_cons (de_var (pv 3)) (da_cons (de_var (pv 6)) (da_cons (de_cmp (op_eqD hr.units) os_eq (de_bin op_mod os_mod (de_bin op_addA os_add (de_bin op_addA os_add (de_var (pv 8)) (dp_var (pv 4))) (de_ixV (pe_ix ix_seq (pv 7) de_int (fun _ _ => rfl))).peek) (de_int).peek) (de_int).peek (nomark _)) da_nil)))) pa_nil))))
    (dss_cons (ds_if (dt_cmp op_gt os_gt (de_call1 (pe_callB cr_lenA (by rfl) D.z_len (by decide +kernel) (pa_cons (dp_var (pv 7)) pa_nil)) cs_len) (de_int).peek (nomark _)) (dss_one (ds_expr (de_append rfl (pe_bm PySem.F.plainAttrs_list PySem.F.slot_list_append PySem.F.type_list_append mt_append (pv 2) (pa_cons (de_tup (da_cons (de_var (pv 6)) (da_cons (de_var (pv 6)) (da_cons de_bl da_nil)))) pa_nil))))) dss_nil)
    (dss_one (ds_parT (is := [3, 4]) rfl (ps_asg (pe_tup (dk_val (de_var (pv 6)) (dk_val (de_ixV (pe_ix ix_seq (pv 7) (de_un un_neg us_neg (de_int).peek) (fun _ _ => rfl))) dk_nil))) (pg_tup rfl (pgs_cons (pg_name (i := 3) nd rfl (by first | exact Or.inl rfl | exact Or.inr rfl)) (pgs_cons (pg_name (i := 4) nd rfl (by first | exact Or.inl rfl | exact Or.inr rfl)) pgs_nil)))) rfl rfl (by decide)))))))
    (dss_one (ds_ret (de_tup (da_star rfl (dp_var (pv 2)) (da_cons (de_tup (da_cons (de_var (pv 3)) (da_cons (de_attr rfl (at_days D) (dp_var (pv 0)) (by rfl)) (da_cons de_non da_nil)))) da_nil) (StX.pa_star (dp_var (pv 2)) (da_cons (de_tup (da_cons (de_var (pv 3)) (da_cons (de_attr rfl (at_days D) (dp_var (pv 0)) (by rfl)) (da_cons de_non da_nil)))) da_nil)))))))))
theorem ok_stretches_of (D : Dfs K mg) : FnOk P w K mg base (L2.CX P w) 2 D.f_stretches_of D.fd_stretches_of ["season", "wheel"] (spM ⟨K, D.cl⟩ 2 false false m_stretches_of) :=
  fun_ok2 (cl := D.cl) (n := 2) (fm := m_stretches_of) D.F_stretches_of sc_stretches_of (by decide) (by rfl) (by unfold m_stretches_of; rfl) (bd_stretches_of D)
theorem bd_law_pick (D : Dfs K mg) (cdv : Value) (A : Around) (outer : List Env) (s : Shared) (H : Hp) (E : XK) (π : Nat → Option Pin) (hr : Room 1 (A.deeper (envOfC "_law_pick" (defScope s_law_pick) s.heap.objs.size D.f_law_pick cdv))) : PSs (cxOf (L2.CX P w) P w K mg base ["_law_box_here", "_law_items"] "_law_pick" (defScope s_law_pick) D.f_law_pick cdv A outer s H E) (defBody s_law_pick) (TMs ⟨K, D.cl⟩ π (fun cls d _ H => E cls d H) b_law_pick) := by
  have nd := sc_law_pick.nd
  have tk : Takes (cxOf (L2.CX P w) P w K mg base ["_law_box_here", "_law_items"] "_law_pick" (defScope s_law_pick) D.f_law_pick cdv A outer s H E) (fun cls d _ H => E cls d H) := takes_of rfl rfl rfl rfl
  have hp : PassesOwn (model P w) (cxOf (L2.CX P w) P w K mg base ["_law_box_here", "_law_items"] "_law_pick" (defScope s_law_pick) D.f_law_pick cdv A outer s H E).A (cxOf (L2.CX P w) P w K mg base ["_law_box_here", "_law_items"] "_law_pick" (defScope s_law_pick) D.f_law_pick cdv A outer s H E).env (cxOf (L2.CX P w) P w K mg base ["_law_box_here", "_law_items"] "_law_pick" (defScope s_law_pick) D.f_law_pick cdv A outer s H E).xe := passes_of rfl
  unfold b_law_pick
  exact (dss_one (ds_ret (de_ixV (pe_ix ix_seq (pv 1) (de_callIo (ok_law_take D) (hr.mono (by decide)) (by rfl) D.g_law_take D.F_law_take.kp D.b_law_take tk (pv 0) (da_cons (de_call1 (pe_callB cr_lenA (by rfl) D.z_len (by decide +kernel) (pa_cons (dp_var (pv 1)) pa_nil)) cs_len) da_nil)) (fun _ _ => rfl)))))
theorem ok_law_pick (D : Dfs K mg) : FnOk P w K mg base (L2.CX P w) 2 D.f_law_pick D.fd_law_pick ["_law_box_here", "_law_items"] (spM ⟨K, D.cl⟩ 2 true false m_law_pick) :=
  fun_ok2 (cl := D.cl) (n := 2) (fm := m_law_pick) D.F_law_pick sc_law_pick (by decide) (by rfl) (by unfold m_law_pick; rfl) (bd_law_pick D)
theorem bd_law_mixed (D : Dfs K mg) (cdv : Value) (A : Around) (outer : List Env) (s : Shared) (H : Hp) (E : XK) (π : Nat → Option Pin) (hr : Room 1 (A.deeper (envOfC "_law_mixed" (defScope s_law_mixed) s.heap.objs.size D.f_law_mixed cdv))) : PSs (cxOf (L2.CX P w) P w K mg base ["_law_box_here", "_law_items", "_law_left", "_law_found", "_law_turn"] "_law_mixed" (defScope s_law_mixed) D.f_law_mixed cdv A outer s H E) (defBody s_law_mixed) (TMs ⟨K, D.cl⟩ π (fun cls d _ H => E cls d H) b_law_mixed) := by
  have nd := sc_law_mixed.nd
  have tk : Takes (cxOf (L2.CX P w) P w K mg base ["_law_box_here", "_law_items", "_law_left", "_law_found", "_law_turn"] "_law_mixed" (defScope s_law_mixed) D.f_law_mixed cdv A outer s H E) (fun cls d _ H => E cls d H) := takes_of rfl rfl rfl rfl
  have hp : PassesOwn (model P w) (cxOf (L2.CX P w) P w K mg base ["_law_box_here", "_law_items", "_law_left", "_law_found", "_law_turn"] "_law_mixed" (defScope s_law_mixed) D.f_law_mixed cdv A outer s H E).A (cxOf (L2.CX P w) P w K mg base ["_law_box_here", "_law_items", "_law_left", "_law_found", "_law_turn"] "_law_mixed" (defScope s_law_mixed) D.f_law_mixed cdv A outer s H E).env (cxOf (L2.CX P w) P w K mg base ["_law_box_here", "_law_items", "_law_left", "_law_found", "_law_turn"] "_law_mixed" (defScope s_law_mixed) D.f_law_mixed cdv A outer s H E).xe := passes_of rfl
  unfold b_law_mixed
  exact (dss_cons (ds_par (ps_par (i := 2) (j := 3) (by rfl) nd rfl rfl (by decide) rfl rfl (dk_own (dn_call1 (pe_callTy call_list_of (by rfl) D.z_list (by decide +kernel) (pa_cons (dp_var (pv 1)) pa_nil)) cn_list) (dk_own (dn_lst da_nil) dk_nil)) (by rfl)))
    (dss_cons (ds_for hp rfl (di_rng1 (by rfl) D.z_range (da_cons (de_call1 (pe_callB cr_lenA (by rfl) D.z_len (by decide +kernel) (pa_cons (dp_var (pv 2)) pa_nil)) cs_len) da_nil)) (dg_name (pg_name (i := 4) nd rfl (by first | exact Or.inl rfl | exact Or.inr rfl))) (dss_one (ds_expr (de_append rfl (pe_bm PySem.F.plainAttrs_list PySem.F.slot_list_append PySem.F.type_list_append mt_append (pv 3) (pa_cons (de_popAt rfl (pe_bm PySem.F.plainAttrs_list PySem.F.slot_list_pop PySem.F.type_list_pop mt_popAt (pv 2) (pa_cons (de_callIo (ok_law_take D) (hr.mono (by decide)) (by rfl) D.g_law_take D.F_law_take.kp D.b_law_take tk (pv 0) (da_cons (de_call1 (pe_callB cr_lenA (by rfl) D.z_len (by decide +kernel) (pa_cons (dp_var (pv 2)) pa_nil)) cs_len) da_nil)) pa_nil))) pa_nil))))))
    (dss_one (ds_ret (de_var (pv 3))))))
theorem ok_law_mixed (D : Dfs K mg) : FnOk P w K mg base (L2.CX P w) 2 D.f_law_mixed D.fd_law_mixed ["_law_box_here", "_law_items"] (spM ⟨K, D.cl⟩ 2 true false m_law_mixed) :=
  fun_ok2 (cl := D.cl) (n := 2) (fm := m_law_mixed) D.F_law_mixed sc_law_mixed (by decide) (by rfl) (by unfold m_law_mixed; rfl) (bd_law_mixed D)
theorem bd_law_looks (D : Dfs K mg) (cdv : Value) (A : Around) (outer : List Env) (s : Shared) (H : Hp) (E : XK) (π : Nat → Option Pin) (hr : Room 1 (A.deeper (envOfC "_law_looks" (defScope s_law_looks) s.heap.objs.size D.f_law_looks cdv))) : PSs (cxOf (L2.CX P w) P w K mg base ["_law_box_here", "_law_places", "_law_days_here", "_law_due", "_law_missed_here", "_law_found", "_law_turn", "_law_day", "_law_wheel", "_law_seen"] "_law_looks" (defScope s_law_looks) D.f_law_looks cdv A outer s H E) (defBody s_law_looks) (TMs ⟨K, D.cl⟩ π (fun cls d _ H => E cls d H) b_law_looks) := by
  have nd := sc_law_looks.nd
  have tk : Takes (cxOf (L2.CX P w) P w K mg base ["_law_box_here", "_law_places", "_law_days_here", "_law_due", "_law_missed_here", "_law_found", "_law_turn", "_law_day", "_law_wheel", "_law_seen"] "_law_looks" (defScope s_law_looks) D.f_law_looks cdv A outer s H E) (fun cls d _ H => E cls d H) := takes_of rfl rfl rfl rfl
  have hp : PassesOwn (model P w) (cxOf (L2.CX P w) P w K mg base ["_law_box_here", "_law_places", "_law_days_here", "_law_due", "_law_missed_here", "_law_found", "_law_turn", "_law_day", "_law_wheel", "_law_seen"] "_law_looks" (defScope s_law_looks) D.f_law_looks cdv A outer s H E).A (cxOf (L2.CX P w) P w K mg base ["_law_box_here", "_law_places", "_law_days_here", "_law_due", "_law_missed_here", "_law_found", "_law_turn", "_law_day", "_law_wheel", "_law_seen"] "_law_looks" (defScope s_law_looks) D.f_law_looks cdv A outer s H E).env (cxOf (L2.CX P w) P w K mg base ["_law_box_here", "_law_places", "_law_days_here", "_law_due", "_law_missed_here", "_law_found", "_law_turn", "_law_day", "_law_wheel", "_law_seen"] "_law_looks" (defScope s_law_looks) D.f_law_looks cdv A outer s H E).xe := passes_of rfl
  unfold b_law_looks
  exact (dss_cons (ds_asgN (ps_set (i := 5) nd rfl (by first | exact Or.inl rfl | exact Or.inr rfl) (dn_lst da_nil)))
    (dss_cons (ds_for hp rfl (di_rng1 (by rfl) D.z_range (da_cons (de_callIo (ok_law_take D) (hr.mono (by decide)) (by rfl) D.g_law_take D.F_law_take.kp D.b_law_take tk (pv 0) (da_cons de_int da_nil)) da_nil)) (dg_name (pg_name (i := 6) nd rfl (by first | exact Or.inl rfl | exact Or.inr rfl))) (dss_cons (ds_par (ps_par (i := 7) (j := 8) (by rfl) nd rfl rfl (by decide) rfl rfl (dk_val (de_callIo (ok_law_take D) (hr.mono (by decide)) (by rfl) D.g_law_take D.F_law_take.kp D.b_law_take tk (pv 0) (da_cons (de_bin op_addA os_add (de_var (pv 2)) (de_int).peek) da_nil)) (dk_val (de_callIo (ok_law_take D) (hr.mono (by decide)) (by rfl) D.g_law_take D.F_law_take.kp D.b_law_take tk (pv 0) (da_cons (de_var (pv 1)) da_nil)) dk_nil)) (by rfl)))
    (dss_cons (ds_asgV (ps_set (i := 9) nd rfl (by first | exact Or.inl rfl | exact Or.inr rfl) (de_tOp (pe_ix ix_seq (de_call (ok_law_sides D) (hr.mono (by decide)) (by rfl) D.g_law_sides D.F_law_sides.kp D.b_law_sides tk (da_cons (de_var (pv 1)) (da_cons (de_var (pv 3)) (da_cons (de_var (pv 4)) (da_cons (de_var (pv 7)) da_nil))))) (dp_var (pv 8)) (fun _ _ => rfl)) os_ix)))
    (dss_one (ds_expr (de_append rfl (pe_bm PySem.F.plainAttrs_list PySem.F.slot_list_append PySem.F.type_list_append mt_append (pv 5) (pa_cons (de_tup (da_cons (de_var (pv 7)) (da_cons (de_var (pv 8)) (da_cons (de_ifExp (dt_cmp op_gt os_gt (de_callIo (ok_law_take D) (hr.mono (by decide)) (by rfl) D.g_law_take D.F_law_take.kp D.b_law_take tk (pv 0) (da_cons de_int da_nil)) (de_int).peek (nomark _)) (de_var (pv 9)) (de_bin op_sub os_sub de_int (dp_var (pv 9)))) da_nil)))) pa_nil))))))))
    (dss_one (ds_ret (de_var (pv 5))))))
theorem ok_law_looks (D : Dfs K mg) : FnOk P w K mg base (L2.CX P w) 2 D.f_law_looks D.fd_law_looks ["_law_box_here", "_law_places", "_law_days_here", "_law_due", "_law_missed_here"] (spM ⟨K, D.cl⟩ 5 true false m_law_looks) :=
  fun_ok2 (cl := D.cl) (n := 5) (fm := m_law_looks) D.F_law_looks sc_law_looks (by decide) (by rfl) (by unfold m_law_looks; rfl) (bd_law_looks D)
theorem bd_is_below (D : Dfs K mg) (cdv : Value) (A : Around) (outer : List Env) (s : Shared) (H : Hp) (E : XK) (π : Nat → Option Pin) (hr : Room 2 (A.deeper (envOfC "is_below" (defScope s_is_below) s.heap.objs.size D.f_is_below cdv))) : PSs (cxOf (L2.CX P w) P w K mg base ["value", "bound"] "is_below" (defScope s_is_below) D.f_is_below cdv A outer s H E) (defBody s_is_below) (TMs ⟨K, D.cl⟩ π (fun cls d _ H => E cls d H) b_is_below) := by
  have nd := sc_is_below.nd
  have tk : Takes (cxOf (L2.CX P w) P w K mg base ["value", "bound"] "is_below" (defScope s_is_below) D.f_is_below cdv A outer s H E) (fun cls d _ H => E cls d H) := takes_of rfl rfl rfl rfl
  have hp : PassesOwn (model P w) (cxOf (L2.CX P w) P w K mg base ["value", "bound"] "is_below" (defScope s_is_below) D.f_is_below cdv A outer s H E).A (cxOf (L2.CX P w) P w K mg base ["value", "bound"] "is_below" (defScope s_is_below) D.f_is_below cdv A outer s H E).env (cxOf (L2.CX P w) P w K mg base ["value", "bound"] "is_below" (defScope s_is_below) D.f_is_below cdv A outer s H E).xe := passes_of rfl
  unfold b_is_below
  exact (dss_one (ds_ret (de_and (de_call (ok_is_from D) (hr.mono (by decide)) (by rfl) D.g_is_from D.F_is_from.kp D.b_is_from tk (da_cons (de_var (pv 0)) (da_cons de_int da_nil))) (de_one (de_cmp op_lt os_lt (de_var (pv 0)) (dp_var (pv 1)) (nomark _))))))
theorem ok_is_below (D : Dfs K mg) : FnOk P w K mg base (L2.CX P w) 3 D.f_is_below D.fd_is_below ["value", "bound"] (spM ⟨K, D.cl⟩ 2 false false m_is_below) :=
  fun_ok2 (cl := D.cl) (n := 2) (fm := m_is_below) D.F_is_below sc_is_below (by decide) (by rfl) (by unfold m_is_below; rfl) (bd_is_below D)
theorem bd_Season_eq (D : Dfs K mg) (cdv : Value) (A : Around) (outer : List Env) (s : Shared) (H : Hp) (E : XK) (π : Nat → Option Pin) (hr : Room 2 (A.deeper (envOfC "Season.__eq__" (defScope s_Season_eq) s.heap.objs.size D.f_Season_eq cdv))) : PSs (cxOf (L2.CX P w) P w K mg base ["self", "other"] "Season.__eq__" (defScope s_Season_eq) D.f_Season_eq cdv A outer s H E) (defBody s_Season_eq) (TMs ⟨K, D.cl⟩ π (fun cls d _ H => E cls d H) b_Season_eq) := by
  have nd := sc_Season_eq.nd
  have tk : Takes (cxOf (L2.CX P w) P w K mg base ["self", "other"] "Season.__eq__" (defScope s_Season_eq) D.f_Season_eq cdv A outer s H E) (fun cls d _ H => E cls d H) := takes_of rfl rfl rfl rfl
  have hp : PassesOwn (model P w) (cxOf (L2.CX P w) P w K mg base ["self", "other"] "Season.__eq__" (defScope s_Season_eq) D.f_Season_eq cdv A outer s H E).A (cxOf (L2.CX P w) P w K mg base ["self", "other"] "Season.__eq__" (defScope s_Season_eq) D.f_Season_eq cdv A outer s H E).env (cxOf (L2.CX P w) P w K mg base ["self", "other"] "Season.__eq__" (defScope s_Season_eq) D.f_Season_eq cdv A outer s H E).xe := passes_of rfl
  unfold b_Season_eq
  exact (dss_cons (ds_if (PW.pt (dw_or (dt_not (dt_val (de_isC rfl (pe_callB (C8.call_isC D.ic_Season) (by rfl) D.z_isinstance (by decide +kernel) (pa_cons (dp_var (pv 1)) (pa_cons (pe_glob (by rfl) D.gC_Season rfl) pa_nil)))))) (dw_or (dt_cmpO (op_ownNe (ok_Rota_eq D) D.b_Rota_eq (hr.mono (by decide)) (mro_obj D.mk_Rota.makes) D.ne_Rota D.me_Rota_eq.at_ D.me_Rota_eq.fn) (os_own true rfl) (de_attr rfl (at_rota D) (dp_var (pv 0)) (by rfl)) (de_attr rfl (at_rota D) (dp_var (pv 1)) (by rfl)) (nomark _)) (dw_or1 (dt_cmp (op_neD hr.units) os_ne (de_attr rfl (at_days D) (dp_var (pv 0)) (by rfl)) (de_attr rfl (at_days D) (dp_var (pv 1)) (by rfl)).peek (nomark _)))))) (dss_one (ds_ret de_bl)) dss_nil)
    (dss_one (ds_ret (de_and (de_cmp (op_eqD hr.units) os_eq (de_attr rfl (at_budget D) (dp_var (pv 0)) (by rfl)) (de_attr rfl (at_budget D) (dp_var (pv 1)) (by rfl)).peek (nomark _)) (de_one (de_cmp (op_eqD hr.units) os_eq (de_attr rfl (at_looks D) (dp_var (pv 0)) (by rfl)) (de_attr rfl (at_looks D) (dp_var (pv 1)) (by rfl)).peek (nomark _)))))))
theorem ok_Season_eq (D : Dfs K mg) : FnOk P w K mg base (L2.CX P w) 3 D.f_Season_eq D.fd_Season_eq ["self", "other"] (spM ⟨K, D.cl⟩ 2 false false m_Season_eq) :=
  fun_ok2 (cl := D.cl) (n := 2) (fm := m_Season_eq) D.F_Season_eq sc_Season_eq (by decide) (by rfl) (by unfold m_Season_eq; rfl) (bd_Season_eq D)
theorem bd_parts_of (D : Dfs K mg) (cdv : Value) (A : Around) (outer : List Env) (s : Shared) (H : Hp) (E : XK) (π : Nat → Option Pin) (hr : Room 2 (A.deeper (envOfC "parts_of" (defScope s_parts_of) s.heap.objs.size D.f_parts_of cdv))) : PSs (cxOf (L2.CX P w) P w K mg base ["season", "missed", "made", "found", "wheel", "days", "first", "last", "odd", "pairs", "gone", "free", "day", "pair"] "parts_of" (defScope s_parts_of) D.f_parts_of cdv A outer s H E) (defBody s_parts_of) (TMs ⟨K, D.cl⟩ π (fun cls d _ H => E cls d H) b_parts_of) := by
  have nd := sc_parts_of.nd
  have tk : Takes (cxOf (L2.CX P w) P w K mg base ["season", "missed", "made", "found", "wheel", "days", "first", "last", "odd", "pairs", "gone", "free", "day", "pair"] "parts_of" (defScope s_parts_of) D.f_parts_of cdv A outer s H E) (fun cls d _ H => E cls d H) := takes_of rfl rfl rfl rfl
  have hp : PassesOwn (model P w) (cxOf (L2.CX P w) P w K mg base ["season", "missed", "made", "found", "wheel", "days", "first", "last", "odd", "pairs", "gone", "free", "day", "pair"] "parts_of" (defScope s_parts_of) D.f_parts_of cdv A outer s H E).A (cxOf (L2.CX P w) P w K mg base ["season", "missed", "made", "found", "wheel", "days", "first", "last", "odd", "pairs", "gone", "free", "day", "pair"] "parts_of" (defScope s_parts_of) D.f_parts_of cdv A outer s H E).env (cxOf (L2.CX P w) P w K mg base ["season", "missed", "made", "found", "wheel", "days", "first", "last", "odd", "pairs", "gone", "free", "day", "pair"] "parts_of" (defScope s_parts_of) D.f_parts_of cdv A outer s H E).xe := passes_of rfl
  unfold b_parts_of
  exact (dss_cons (ds_asgN (ps_set (i := 3) nd rfl (by first | exact Or.inl rfl | exact Or.inr rfl) (dn_lst da_nil)))
    (dss_cons (ds_for hp rfl (di_rng1 (by rfl) D.z_range (da_cons (de_attr rfl (at_wheels D) (dp_var (pv 0)) (by rfl)) da_nil)) (dg_name (pg_name (i := 4) nd rfl (by first | exact Or.inl rfl | exact Or.inr rfl))) (dss_cons (ds_asgV (ps_set (i := 5) nd rfl (by first | exact Or.inl rfl | exact Or.inr rfl) (de_call (ok_due_days D) (hr.mono (by decide)) (by rfl) D.g_due_days D.F_due_days.kp D.b_due_days tk (da_cons (de_var (pv 0)) (da_cons (de_var (pv 4)) da_nil)))))
    (dss_one (ds_for hp rfl (di_seq rfl (de_call (ok_stretches_of D) (hr.mono (by decide)) (by rfl) D.g_stretches_of D.F_stretches_of.kp D.b_stretches_of tk (da_cons (de_var (pv 0)) (da_cons (de_var (pv 4)) da_nil)))) (dg_tup rfl rfl (dgs_cons (dg_name (pg_name (i := 6) nd rfl (by first | exact Or.inl rfl | exact Or.inr rfl))) (dgs_cons (dg_name (pg_name (i := 7) nd rfl (by first | exact Or.inl rfl | exact Or.inr rfl))) (dgs_cons (dg_name (pg_name (i := 8) nd rfl (by first | exact Or.inl rfl | exact Or.inr rfl))) dgs_nil)))) (dss_cons (ds_setLcV (ps_setLc (own := [("day", 12)]) (i := 9) rfl nd rfl rfl (sw_true rfl rfl rfl (by decide +kernel)) (di_seq rfl (de_var (pv 5))) (blkOk_by (own := [("day", 12)]) (N := ["season", "missed", "made", "found", "wheel", "days", "first", "last", "odd", "pairs", "gone", "free", "day", "pair"]) (sc := defScope s_parts_of) (by decide +kernel)) (fun _ _ _ _ _ => (dg_name (pg_name (i := 12) nd rfl (by first | exact Or.inl rfl | exact Or.inr rfl)))) (fun _ _ _ _ _ => (dts_one (dt_chain (pt_chain op_le op_lt (de_var (pv 6)) (de_var (pv 12)) (dp_var (pv 7))) os_le os_lt))) (fun _ _ _ _ _ => (de_tup (da_cons (de_var (pv 12)) (da_cons (de_var (pv 4)) da_nil))))) (by decide))
    (dss_cons (ds_asgV (ps_set (i := 10) nd rfl (by first | exact Or.inl rfl | exact Or.inr rfl) (de_call1 (pe_callB cr_lenA (by rfl) D.z_len (by decide +kernel) (pa_cons ((dn_lc (pe_lc (own := [("pair", 13)]) rfl nd (di_seq rfl (de_var (pv 9))) (blkOk_by (own := [("pair", 13)]) (N := ["season", "missed", "made", "found", "wheel", "days", "first", "last", "odd", "pairs", "gone", "free", "day", "pair"]) (sc := defScope s_parts_of) (by decide +kernel)) (fun _ _ _ _ _ => (dg_name (pg_name (i := 13) nd rfl (by first | exact Or.inl rfl | exact Or.inr rfl)))) (fun _ _ _ _ _ => (dts_one (dt_din (pc_din (hu_of hr) (de_var (pv 13)) (dp_var (pv 1))) (by rfl)))) (fun _ _ _ _ _ => (de_var (pv 13)))) (by decide))).keep.peek pa_nil)) cs_len)))
    (dss_cons (ds_asgV (ps_set (i := 11) nd rfl (by first | exact Or.inl rfl | exact Or.inr rfl) (de_call1 (pe_callB cr_lenA (by rfl) D.z_len (by decide +kernel) (pa_cons ((dn_lc (pe_lc (own := [("pair", 13)]) rfl nd (di_seq rfl (de_var (pv 9))) (blkOk_by (own := [("pair", 13)]) (N := ["season", "missed", "made", "found", "wheel", "days", "first", "last", "odd", "pairs", "gone", "free", "day", "pair"]) (sc := defScope s_parts_of) (by decide +kernel)) (fun _ _ _ _ _ => (dg_name (pg_name (i := 13) nd rfl (by first | exact Or.inl rfl | exact Or.inr rfl)))) (fun _ _ _ _ _ => (dts_one (PW.pt (dw_and (dt_dnotin (pc_dnotin (hu_of hr) (de_var (pv 13)) (dp_var (pv 1))) (by rfl)) (dw_and1 (dt_dnotin (pc_dnotin (hu_of hr) (de_var (pv 13)) (dp_var (pv 2))) (by rfl))))))) (fun _ _ _ _ _ => (de_var (pv 13)))) (by decide))).keep.peek pa_nil)) cs_len)))
    (dss_one (ds_expr (de_append rfl (pe_bm PySem.F.plainAttrs_list PySem.F.slot_list_append PySem.F.type_list_append mt_append (pv 3) (pa_cons (de_tup (da_cons (de_var (pv 10)) (da_cons (de_var (pv 11)) (da_cons (de_var (pv 8)) da_nil)))) pa_nil))))))))))))
    (dss_one (ds_ret (de_var (pv 3))))))
theorem ok_parts_of (D : Dfs K mg) : FnOk P w K mg base (L2.CX P w) 3 D.f_parts_of D.fd_parts_of ["season", "missed", "made"] (spM ⟨K, D.cl⟩ 3 false false m_parts_of) :=
  fun_ok2 (cl := D.cl) (n := 3) (fm := m_parts_of) D.F_parts_of sc_parts_of (by decide) (by rfl) (by unfold m_parts_of; rfl) (bd_parts_of D)
theorem bd_law_rota (D : Dfs K mg) (cdv : Value) (A : Around) (outer : List Env) (s : Shared) (H : Hp) (E : XK) (π : Nat → Option Pin) (hr : Room 2 (A.deeper (envOfC "_law_rota" (defScope s_law_rota) s.heap.objs.size D.f_law_rota cdv))) : PSs (cxOf (L2.CX P w) P w K mg base ["_law_box_here", "_law_most", "_law_rows", "_law_places", "_law_found", "_law_turn", "_law_spots", "_law_turned", "_law_moves", "_law_spot"] "_law_rota" (defScope s_law_rota) D.f_law_rota cdv A outer s H E) (defBody s_law_rota) (TMs ⟨K, D.cl⟩ π (fun cls d _ H => E cls d H) b_law_rota) := by
  have nd := sc_law_rota.nd
  have tk : Takes (cxOf (L2.CX P w) P w K mg base ["_law_box_here", "_law_most", "_law_rows", "_law_places", "_law_found", "_law_turn", "_law_spots", "_law_turned", "_law_moves", "_law_spot"] "_law_rota" (defScope s_law_rota) D.f_law_rota cdv A outer s H E) (fun cls d _ H => E cls d H) := takes_of rfl rfl rfl rfl
  have hp : PassesOwn (model P w) (cxOf (L2.CX P w) P w K mg base ["_law_box_here", "_law_most", "_law_rows", "_law_places", "_law_found", "_law_turn", "_law_spots", "_law_turned", "_law_moves", "_law_spot"] "_law_rota" (defScope s_law_rota) D.f_law_rota cdv A outer s H E).A (cxOf (L2.CX P w) P w K mg base ["_law_box_here", "_law_most", "_law_rows", "_law_places", "_law_found", "_law_turn", "_law_spots", "_law_turned", "_law_moves", "_law_spot"] "_law_rota" (defScope s_law_rota) D.f_law_rota cdv A outer s H E).env (cxOf (L2.CX P w) P w K mg base ["_law_box_here", "_law_most", "_law_rows", "_law_places", "_law_found", "_law_turn", "_law_spots", "_law_turned", "_law_moves", "_law_spot"] "_law_rota" (defScope s_law_rota) D.f_law_rota cdv A outer s H E).xe := passes_of rfl
  unfold b_law_rota
  exact (dss_cons (ds_par (ps_par (i := 3) (j := 4) (by rfl) nd rfl rfl (by decide) rfl rfl (dk_val (de_bin op_addA os_add de_int (de_callIo (ok_law_take D) (hr.mono (by decide)) (by rfl) D.g_law_take D.F_law_take.kp D.b_law_take tk (pv 0) (da_cons (de_var (pv 1)) da_nil)).peek) (dk_own (dn_lst da_nil) dk_nil)) (by rfl)))
    (dss_cons (ds_for hp rfl (di_rng1 (by rfl) D.z_range (da_cons (de_bin op_addA os_add de_int (de_callIo (ok_law_take D) (hr.mono (by decide)) (by rfl) D.g_law_take D.F_law_take.kp D.b_law_take tk (pv 0) (da_cons (de_var (pv 2)) da_nil)).peek) da_nil)) (dg_name (pg_name (i := 5) nd rfl (by first | exact Or.inl rfl | exact Or.inr rfl))) (dss_cons (ds_asgV (ps_set (i := 6) nd rfl (by first | exact Or.inl rfl | exact Or.inr rfl) ((dn_listRg (pe_listRg rfl (by rfl) D.z_list (prg_1 (by rfl) D.z_range (de_var (pv 3)))))).keep))
    (dss_cons (ds_setLcV (ps_setLc (own := [("_law_spot", 9)]) (i := 7) rfl nd rfl rfl (sw_true rfl rfl rfl (by decide +kernel)) (di_seq rfl (de_var (pv 6))) (blkOk_by (own := [("_law_spot", 9)]) (N := ["_law_box_here", "_law_most", "_law_rows", "_law_places", "_law_found", "_law_turn", "_law_spots", "_law_turned", "_law_moves", "_law_spot"]) (sc := defScope s_law_rota) (by decide +kernel)) (fun _ _ _ _ _ => (dg_name (pg_name (i := 9) nd rfl (by first | exact Or.inl rfl | exact Or.inr rfl)))) (fun _ _ _ _ _ => (dts_one (dt_cmp op_lt os_lt (de_callIo (ok_law_take D) (hr.mono (by decide)) (by rfl) D.g_law_take D.F_law_take.kp D.b_law_take takes0 (pv 0) (da_cons de_int da_nil)) (de_int).peek (nomark _)))) (fun _ _ _ _ _ => (de_var (pv 9)))) (by decide))
    (dss_cons (ds_asgV (ps_set (i := 8) nd rfl (by first | exact Or.inl rfl | exact Or.inr rfl) (de_ifExp (dt_cmp op_gt os_gt (de_callIo (ok_law_take D) (hr.mono (by decide)) (by rfl) D.g_law_take D.F_law_take.kp D.b_law_take tk (pv 0) (da_cons de_int da_nil)) (de_int).peek (nomark _)) (de_callIo (ok_law_mixed D) (hr.mono (by decide)) (by rfl) D.g_law_mixed D.F_law_mixed.kp D.b_law_mixed tk (pv 0) (da_cons (de_var (pv 6)) da_nil)) (de_var (pv 6)))))
    (dss_one (ds_expr (de_append rfl (pe_bm PySem.F.plainAttrs_list PySem.F.slot_list_append PySem.F.type_list_append mt_append (pv 4) (pa_cons (de_tup (da_cons (de_callIo (ok_law_mixed D) (hr.mono (by decide)) (by rfl) D.g_law_mixed D.F_law_mixed.kp D.b_law_mixed tk (pv 0) (da_cons (de_var (pv 7)) da_nil)) (da_cons (de_var (pv 8)) da_nil))) pa_nil)))))))))
    (dss_one (ds_ret (de_tup (da_cons (de_var (pv 3)) (da_cons (de_var (pv 4)) da_nil)))))))
theorem ok_law_rota (D : Dfs K mg) : FnOk P w K mg base (L2.CX P w) 3 D.f_law_rota D.fd_law_rota ["_law_box_here", "_law_most", "_law_rows"] (spM ⟨K, D.cl⟩ 3 true false m_law_rota) :=
  fun_ok2 (cl := D.cl) (n := 3) (fm := m_law_rota) D.F_law_rota sc_law_rota (by decide) (by rfl) (by unfold m_law_rota; rfl) (bd_law_rota D)
theorem bd_law_missed (D : Dfs K mg) (cdv : Value) (A : Around) (outer : List Env) (s : Shared) (H : Hp) (E : XK) (π : Nat → Option Pin) (hr : Room 2 (A.deeper (envOfC "_law_missed" (defScope s_law_missed) s.heap.objs.size D.f_law_missed cdv))) : PSs (cxOf (L2.CX P w) P w K mg base ["_law_box_here", "_law_due", "_law_most"] "_law_missed" (defScope s_law_missed) D.f_law_missed cdv A outer s H E) (defBody s_law_missed) (TMs ⟨K, D.cl⟩ π (fun cls d _ H => E cls d H) b_law_missed) := by
  have nd := sc_law_missed.nd
  have tk : Takes (cxOf (L2.CX P w) P w K mg base ["_law_box_here", "_law_due", "_law_most"] "_law_missed" (defScope s_law_missed) D.f_law_missed cdv A outer s H E) (fun cls d _ H => E cls d H) := takes_of rfl rfl rfl rfl
  have hp : PassesOwn (model P w) (cxOf (L2.CX P w) P w K mg base ["_law_box_here", "_law_due", "_law_most"] "_law_missed" (defScope s_law_missed) D.f_law_missed cdv A outer s H E).A (cxOf (L2.CX P w) P w K mg base ["_law_box_here", "_law_due", "_law_most"] "_law_missed" (defScope s_law_missed) D.f_law_missed cdv A outer s H E).env (cxOf (L2.CX P w) P w K mg base ["_law_box_here", "_law_due", "_law_most"] "_law_missed" (defScope s_law_missed) D.f_law_missed cdv A outer s H E).xe := passes_of rfl
  unfold b_law_missed
  exact (dss_one (ds_ret (de_slE rfl (pe_slice sl_all (de_callIo (ok_law_mixed D) (hr.mono (by decide)) (by rfl) D.g_law_mixed D.F_law_mixed.kp D.b_law_mixed tk (pv 0) (da_cons (de_var (pv 1)) da_nil)) do_none (do_some (de_mm2 (pe_callB (call_min2 rfl) (by rfl) D.z_min (by decide +kernel) (pa_cons (de_call1 (pe_callTy call_int1 (by rfl) D.z_int (by decide +kernel) (pa_cons (de_call1 (pe_callB cr_lenA (by rfl) D.z_len (by decide +kernel) (pa_cons (dp_var (pv 1)) pa_nil)) cs_len).peek pa_nil)) cs_int) (pa_cons (de_call1 (pe_callTy call_int1 (by rfl) D.z_int (by decide +kernel) (pa_cons (de_callIo (ok_law_take D) (hr.mono (by decide)) (by rfl) D.g_law_take D.F_law_take.kp D.b_law_take tk (pv 0) (da_cons (de_bin op_addA os_add (de_var (pv 2)) (de_int).peek) da_nil)).peek pa_nil)) cs_int) pa_nil)))))))))
theorem ok_law_missed (D : Dfs K mg) : FnOk P w K mg base (L2.CX P w) 3 D.f_law_missed D.fd_law_missed ["_law_box_here", "_law_due", "_law_most"] (spM ⟨K, D.cl⟩ 3 true false m_law_missed) :=
  fun_ok2 (cl := D.cl) (n := 3) (fm := m_law_missed) D.F_law_missed sc_law_missed (by decide) (by rfl) (by unfold m_law_missed; rfl) (bd_law_missed D)
theorem bd_law_look_at (D : Dfs K mg) (cdv : Value) (A : Around) (outer : List Env) (s : Shared) (H : Hp) (E : XK) (π : Nat → Option Pin) (hr : Room 2 (A.deeper (envOfC "_law_look_at" (defScope s_law_look_at) s.heap.objs.size D.f_law_look_at cdv))) : PSs (cxOf (L2.CX P w) P w K mg base ["_law_live"] "_law_look_at" (defScope s_law_look_at) D.f_law_look_at cdv A outer s H E) (defBody s_law_look_at) (TMs ⟨K, D.cl⟩ π (fun cls d _ H => E cls d H) b_law_look_at) := by
  have nd := sc_law_look_at.nd
  have tk : Takes (cxOf (L2.CX P w) P w K mg base ["_law_live"] "_law_look_at" (defScope s_law_look_at) D.f_law_look_at cdv A outer s H E) (fun cls d _ H => E cls d H) := takes_of rfl rfl rfl rfl
  have hp : PassesOwn (model P w) (cxOf (L2.CX P w) P w K mg base ["_law_live"] "_law_look_at" (defScope s_law_look_at) D.f_law_look_at cdv A outer s H E).A (cxOf (L2.CX P w) P w K mg base ["_law_live"] "_law_look_at" (defScope s_law_look_at) D.f_law_look_at cdv A outer s H E).env (cxOf (L2.CX P w) P w K mg base ["_law_live"] "_law_look_at" (defScope s_law_look_at) D.f_law_look_at cdv A outer s H E).xe := passes_of rfl
  unfold b_law_look_at
  exact (dss_one (ds_ret (de_tup (da_cons (de_attr rfl (at_season D) (dp_var (pv 0)) (by rfl)) (da_cons (de_attr rfl (at_is_possible D) (dp_var (pv 0)) (by rfl)) (da_cons (de_attr rfl (at_sure D) (dp_var (pv 0)) (by rfl)) (da_cons (de_own1Io (ok := okLen) (pe_callB (cr_lenO (ok_Live_len D) D.b_Live_len D.me_Live_len (hr.mono (by decide))) (by rfl) D.z_len (by decide +kernel) (pa_cons (pv 0) pa_nil)) rfl len_v) da_nil)))))))
theorem ok_law_look_at (D : Dfs K mg) : FnOk P w K mg base (L2.CX P w) 3 D.f_law_look_at D.fd_law_look_at ["_law_live"] (spM ⟨K, D.cl⟩ 1 true false m_law_look_at) :=
  fun_ok2 (cl := D.cl) (n := 1) (fm := m_law_look_at) D.F_law_look_at sc_law_look_at (by decide) (by rfl) (by unfold m_law_look_at; rfl) (bd_law_look_at D)
theorem bd_need_wheel (D : Dfs K mg) (cdv : Value) (A : Around) (outer : List Env) (s : Shared) (H : Hp) (E : XK) (π : Nat → Option Pin) (hr : Room 3 (A.deeper (envOfC "need_wheel" (defScope s_need_wheel) s.heap.objs.size D.f_need_wheel cdv))) : PSs (cxOf (L2.CX P w) P w K mg base ["rota", "wheel"] "need_wheel" (defScope s_need_wheel) D.f_need_wheel cdv A outer s H E) (defBody s_need_wheel) (TMs ⟨K, D.cl⟩ π (fun cls d _ H => E cls d H) b_need_wheel) := by
  have nd := sc_need_wheel.nd
  have tk : Takes (cxOf (L2.CX P w) P w K mg base ["rota", "wheel"] "need_wheel" (defScope s_need_wheel) D.f_need_wheel cdv A outer s H E) (fun cls d _ H => E cls d H) := takes_of rfl rfl rfl rfl
  have hp : PassesOwn (model P w) (cxOf (L2.CX P w) P w K mg base ["rota", "wheel"] "need_wheel" (defScope s_need_wheel) D.f_need_wheel cdv A outer s H E).A (cxOf (L2.CX P w) P w K mg base ["rota", "wheel"] "need_wheel" (defScope s_need_wheel) D.f_need_wheel cdv A outer s H E).env (cxOf (L2.CX P w) P w K mg base ["rota", "wheel"] "need_wheel" (defScope s_need_wheel) D.f_need_wheel cdv A outer s H E).xe := passes_of rfl
  unfold b_need_wheel
  exact (dss_one (ds_if (dt_not (dt_val (de_call (ok_is_below D) (hr.mono (by decide)) (by rfl) D.g_is_below D.F_is_below.kp D.b_is_below tk (da_cons (de_var (pv 1)) (da_cons (de_attr rfl (at_places D) (dp_var (pv 0)) (by rfl)) da_nil))))) (dss_one ds_never) dss_nil))
theorem ok_need_wheel (D : Dfs K mg) : FnOk P w K mg base (L2.CX P w) 4 D.f_need_wheel D.fd_need_wheel ["rota", "wheel"] (spM ⟨K, D.cl⟩ 2 false false m_need_wheel) :=
  fun_ok2 (cl := D.cl) (n := 2) (fm := m_need_wheel) D.F_need_wheel sc_need_wheel (by decide) (by rfl) (by unfold m_need_wheel; rfl) (bd_need_wheel D)
theorem bd_is_look (D : Dfs K mg) (cdv : Value) (A : Around) (outer : List Env) (s : Shared) (H : Hp) (E : XK) (π : Nat → Option Pin) (hr : Room 3 (A.deeper (envOfC "is_look" (defScope s_is_look) s.heap.objs.size D.f_is_look cdv))) : PSs (cxOf (L2.CX P w) P w K mg base ["value", "rota", "days"] "is_look" (defScope s_is_look) D.f_is_look cdv A outer s H E) (defBody s_is_look) (TMs ⟨K, D.cl⟩ π (fun cls d _ H => E cls d H) b_is_look) := by
  have nd := sc_is_look.nd
  have tk : Takes (cxOf (L2.CX P w) P w K mg base ["value", "rota", "days"] "is_look" (defScope s_is_look) D.f_is_look cdv A outer s H E) (fun cls d _ H => E cls d H) := takes_of rfl rfl rfl rfl
  have hp : PassesOwn (model P w) (cxOf (L2.CX P w) P w K mg base ["value", "rota", "days"] "is_look" (defScope s_is_look) D.f_is_look cdv A outer s H E).A (cxOf (L2.CX P w) P w K mg base ["value", "rota", "days"] "is_look" (defScope s_is_look) D.f_is_look cdv A outer s H E).env (cxOf (L2.CX P w) P w K mg base ["value", "rota", "days"] "is_look" (defScope s_is_look) D.f_is_look cdv A outer s H E).xe := passes_of rfl
  unfold b_is_look
  exact (dss_cons (ds_if (PW.pt (dw_or (dt_not (dt_val (de_isi rfl .tuple (pe_callB call_isi (by rfl) D.z_isinstance (by decide +kernel) (pa_cons (dp_var (pv 0)) (pa_cons (pe_bltn (v := .ty "tuple") (by rfl) D.z_tuple (by decide +kernel) rfl) pa_nil)))))) (dw_or1 (dt_cmp (op_neD hr.units) os_ne (de_call1 (pe_callB cr_lenA (by rfl) D.z_len (by decide +kernel) (pa_cons (dp_var (pv 0)) pa_nil)) cs_len) (de_c (pe_glob (by rfl) D.c_TRIPLE (D.r_TRIPLE)) fun _ => .int _).peek (nomark _))))) (dss_one (ds_ret de_bl)) dss_nil)
    (dss_one (ds_ret (de_and (de_call (ok_is_below D) (hr.mono (by decide)) (by rfl) D.g_is_below D.F_is_below.kp D.b_is_below tk (da_cons (de_ixV (pe_ix ix_seq (pv 0) de_int (fun _ _ => rfl))) (da_cons (de_bin op_addA os_add (de_var (pv 2)) (de_int).peek) da_nil))) (de_and (de_call (ok_is_below D) (hr.mono (by decide)) (by rfl) D.g_is_below D.F_is_below.kp D.b_is_below tk (da_cons (de_ixV (pe_ix ix_seq (pv 0) de_int (fun _ _ => rfl))) (da_cons (de_attr rfl (at_places D) (dp_var (pv 1)) (by rfl)) da_nil))) (de_one (de_call (ok_is_below D) (hr.mono (by decide)) (by rfl) D.g_is_below D.F_is_below.kp D.b_is_below tk (da_cons (de_ixV (pe_ix ix_seq (pv 0) de_int (fun _ _ => rfl))) (da_cons (de_c (pe_glob (by rfl) D.c_PAIR_seasons (D.r_PAIR_seasons)) fun _ => .int _) da_nil)))))))))
theorem ok_is_look (D : Dfs K mg) : FnOk P w K mg base (L2.CX P w) 4 D.f_is_look D.fd_is_look ["value", "rota", "days"] (spM ⟨K, D.cl⟩ 3 false false m_is_look) :=
  fun_ok2 (cl := D.cl) (n := 3) (fm := m_is_look) D.F_is_look sc_is_look (by decide) (by rfl) (by unfold m_is_look; rfl) (bd_is_look D)
theorem bd_cost (D : Dfs K mg) (cdv : Value) (A : Around) (outer : List Env) (s : Shared) (H : Hp) (E : XK) (π : Nat → Option Pin) (hr : Room 3 (A.deeper (envOfC "cost" (defScope s_cost) s.heap.objs.size D.f_cost cdv))) : PSs (cxOf (L2.CX P w) P w K mg base ["season", "missed", "made", "total", "gone", "free", "odd", "is_even"] "cost" (defScope s_cost) D.f_cost cdv A outer s H E) (defBody s_cost) (TMs ⟨K, D.cl⟩ π (fun cls d _ H => E cls d H) b_cost) := by
  have nd := sc_cost.nd
  have tk : Takes (cxOf (L2.CX P w) P w K mg base ["season", "missed", "made", "total", "gone", "free", "odd", "is_even"] "cost" (defScope s_cost) D.f_cost cdv A outer s H E) (fun cls d _ H => E cls d H) := takes_of rfl rfl rfl rfl
  have hp : PassesOwn (model P w) (cxOf (L2.CX P w) P w K mg base ["season", "missed", "made", "total", "gone", "free", "odd", "is_even"] "cost" (defScope s_cost) D.f_cost cdv A outer s H E).A (cxOf (L2.CX P w) P w K mg base ["season", "missed", "made", "total", "gone", "free", "odd", "is_even"] "cost" (defScope s_cost) D.f_cost cdv A outer s H E).env (cxOf (L2.CX P w) P w K mg base ["season", "missed", "made", "total", "gone", "free", "odd", "is_even"] "cost" (defScope s_cost) D.f_cost cdv A outer s H E).xe := passes_of rfl
  unfold b_cost
  exact (dss_cons (ds_asgV (ps_set (i := 3) nd rfl (by first | exact Or.inl rfl | exact Or.inr rfl) de_int))
    (dss_cons (ds_for hp rfl (di_seq rfl (de_call (ok_parts_of D) (hr.mono (by decide)) (by rfl) D.g_parts_of D.F_parts_of.kp D.b_parts_of tk (da_cons (de_var (pv 0)) (da_cons (de_var (pv 1)) (da_cons (de_var (pv 2)) da_nil))))) (dg_tup rfl rfl (dgs_cons (dg_name (pg_name (i := 4) nd rfl (by first | exact Or.inl rfl | exact Or.inr rfl))) (dgs_cons (dg_name (pg_name (i := 5) nd rfl (by first | exact Or.inl rfl | exact Or.inr rfl))) (dgs_cons (dg_name (pg_name (i := 6) nd rfl (by first | exact Or.inl rfl | exact Or.inr rfl))) dgs_nil)))) (dss_cons (ds_asgV (ps_set (i := 7) nd rfl (by first | exact Or.inl rfl | exact Or.inr rfl) (de_or (de_cmp op_isN os_isN (de_var (pv 6)) (de_non).peek (nomark _)) (de_one (de_cmp (op_eqD hr.units) os_eq (de_cmp (op_eqD hr.units) os_eq (de_bin op_mod os_mod (de_var (pv 4)) (de_int).peek) (de_int).peek (nomark _)) (dp_var (pv 6)) (nomark _))))))
    (dss_cons (ds_if (PW.pt (dw_and (dt_not (dt_val (de_var (pv 7)))) (dw_and1 (dt_cmp (op_eqD hr.units) os_eq (de_var (pv 5)) (de_int).peek (nomark _))))) (dss_one (ds_ret de_non)) dss_nil)
    (dss_one (ds_aug (ps_aug (i := 3) nd rfl (by first | exact Or.inl rfl | exact Or.inr rfl) (de_ifExp (dt_val (de_var (pv 7))) (de_var (pv 4)) (de_bin op_addA os_add (de_var (pv 4)) (de_int).peek)) ip_add))))))
    (dss_one (ds_ret (de_var (pv 3))))))
theorem ok_cost (D : Dfs K mg) : FnOk P w K mg base (L2.CX P w) 4 D.f_cost D.fd_cost ["season", "missed", "made"] (spM ⟨K, D.cl⟩ 3 false false m_cost) :=
  fun_ok2 (cl := D.cl) (n := 3) (fm := m_cost) D.F_cost sc_cost (by decide) (by rfl) (by unfold m_cost; rfl) (bd_cost D)
theorem bd_is_unlike (D : Dfs K mg) (cdv : Value) (A : Around) (outer : List Env) (s : Shared) (H : Hp) (E : XK) (π : Nat → Option Pin) (hr : Room 3 (A.deeper (envOfC "is_unlike" (defScope s_is_unlike) s.heap.objs.size D.f_is_unlike cdv))) : PSs (cxOf (L2.CX P w) P w K mg base ["value", "bound", "one"] "is_unlike" (defScope s_is_unlike) D.f_is_unlike cdv A outer s H E) (defBody s_is_unlike) (TMs ⟨K, D.cl⟩ π (fun cls d _ H => E cls d H) b_is_unlike) := by
  have nd := sc_is_unlike.nd
  have tk : Takes (cxOf (L2.CX P w) P w K mg base ["value", "bound", "one"] "is_unlike" (defScope s_is_unlike) D.f_is_unlike cdv A outer s H E) (fun cls d _ H => E cls d H) := takes_of rfl rfl rfl rfl
  have hp : PassesOwn (model P w) (cxOf (L2.CX P w) P w K mg base ["value", "bound", "one"] "is_unlike" (defScope s_is_unlike) D.f_is_unlike cdv A outer s H E).A (cxOf (L2.CX P w) P w K mg base ["value", "bound", "one"] "is_unlike" (defScope s_is_unlike) D.f_is_unlike cdv A outer s H E).env (cxOf (L2.CX P w) P w K mg base ["value", "bound", "one"] "is_unlike" (defScope s_is_unlike) D.f_is_unlike cdv A outer s H E).xe := passes_of rfl
  unfold b_is_unlike
  exact (dss_cons (ds_if (PW.pt (dw_or (dt_not (dt_val (de_call (ok_is_sequence D) (hr.mono (by decide)) (by rfl) D.g_is_sequence D.F_is_sequence.kp D.b_is_sequence tk (da_cons (de_var (pv 0)) da_nil)))) (dw_or1 (dt_not (dt_val (de_call1 (pe_callB (cr_all rfl) (by rfl) D.z_all (by decide +kernel) (pa_cons ((dn_lc (pe_lc (own := [("one", 2)]) rfl nd (di_seq rfl (de_var (pv 0))) (blkOk_by (own := [("one", 2)]) (N := ["value", "bound", "one"]) (sc := defScope s_is_unlike) (by decide +kernel)) (fun _ _ _ _ _ => (dg_name (pg_name (i := 2) nd rfl (by first | exact Or.inl rfl | exact Or.inr rfl)))) (fun _ _ _ _ _ => dts_nil) (fun _ _ _ _ _ => (de_call (ok_is_below D) (hr.mono (by decide)) (by rfl) D.g_is_below D.F_is_below.kp D.b_is_below takes0 (da_cons (de_var (pv 2)) (da_cons (de_var (pv 1)) da_nil))))) (by decide))).keep.peek pa_nil)) cs_all)))))) (dss_one (ds_ret de_bl)) dss_nil)
    (dss_one (ds_ret (de_cmp (op_eqD hr.units) os_eq (de_call1 (pe_callB cr_lenA (by rfl) D.z_len (by decide +kernel) (pa_cons ((dn_dc (pe_dc (own := [("one", 2)]) rfl nd (di_seq rfl (de_var (pv 0))) (blkOk_by (own := [("one", 2)]) (N := ["value", "bound", "one"]) (sc := defScope s_is_unlike) (by decide +kernel)) (fun _ _ _ _ _ => (dg_name (pg_name (i := 2) nd rfl (by first | exact Or.inl rfl | exact Or.inr rfl)))) (fun _ _ _ _ _ => dts_nil) (fun _ _ _ _ _ => (de_var (pv 2))) (fun _ _ _ _ _ => de_bl)) (by decide))).keep.peek pa_nil)) cs_len) (de_call1 (pe_callB cr_lenA (by rfl) D.z_len (by decide +kernel) (pa_cons (dp_var (pv 0)) pa_nil)) cs_len).peek (nomark _)))))
theorem ok_is_unlike (D : Dfs K mg) : FnOk P w K mg base (L2.CX P w) 4 D.f_is_unlike D.fd_is_unlike ["value", "bound"] (spM ⟨K, D.cl⟩ 2 false false m_is_unlike) :=
  fun_ok2 (cl := D.cl) (n := 2) (fm := m_is_unlike) D.F_is_unlike sc_is_unlike (by decide) (by rfl) (by unfold m_is_unlike; rfl) (bd_is_unlike D)
theorem bd_law_season (D : Dfs K mg) (cdv : Value) (A : Around) (outer : List Env) (s : Shared) (H : Hp) (E : XK) (π : Nat → Option Pin) (hr : Room 3 (A.deeper (envOfC "_law_season" (defScope s_law_season) s.heap.objs.size D.f_law_season cdv))) : PSs (cxOf (L2.CX P w) P w K mg base ["_law_box_here", "_law_most", "_law_told", "_law_days_here", "_law_due", "_law_missed_here", "_law_looks_here"] "_law_season" (defScope s_law_season) D.f_law_season cdv A outer s H E) (defBody s_law_season) (TMs ⟨K, D.cl⟩ π (fun cls d _ H => E cls d H) b_law_season) := by
  have nd := sc_law_season.nd
  have tk : Takes (cxOf (L2.CX P w) P w K mg base ["_law_box_here", "_law_most", "_law_told", "_law_days_here", "_law_due", "_law_missed_here", "_law_looks_here"] "_law_season" (defScope s_law_season) D.f_law_season cdv A outer s H E) (fun cls d _ H => E cls d H) := takes_of rfl rfl rfl rfl
  have hp : PassesOwn (model P w) (cxOf (L2.CX P w) P w K mg base ["_law_box_here", "_law_most", "_law_told", "_law_days_here", "_law_due", "_law_missed_here", "_law_looks_here"] "_law_season" (defScope s_law_season) D.f_law_season cdv A outer s H E).A (cxOf (L2.CX P w) P w K mg base ["_law_box_here", "_law_most", "_law_told", "_law_days_here", "_law_due", "_law_missed_here", "_law_looks_here"] "_law_season" (defScope s_law_season) D.f_law_season cdv A outer s H E).env (cxOf (L2.CX P w) P w K mg base ["_law_box_here", "_law_most", "_law_told", "_law_days_here", "_law_due", "_law_missed_here", "_law_looks_here"] "_law_season" (defScope s_law_season) D.f_law_season cdv A outer s H E).xe := passes_of rfl
  unfold b_law_season
  exact (dss_cons (ds_asgV (ps_set (i := 2) nd rfl (by first | exact Or.inl rfl | exact Or.inr rfl) (de_callIo (ok_law_rota D) (hr.mono (by decide)) (by rfl) D.g_law_rota D.F_law_rota.kp D.b_law_rota tk (pv 0) (da_cons de_int (da_cons de_int da_nil)))))
    (dss_cons (ds_asgV (ps_set (i := 3) nd rfl (by first | exact Or.inl rfl | exact Or.inr rfl) (de_bin op_addA os_add de_int (de_callIo (ok_law_take D) (hr.mono (by decide)) (by rfl) D.g_law_take D.F_law_take.kp D.b_law_take tk (pv 0) (da_cons de_int da_nil)).peek)))
    (dss_cons (ds_asgV (ps_set (i := 4) nd rfl (by first | exact Or.inl rfl | exact Or.inr rfl) (de_tOp (pe_ix ix_seq (de_call (ok_law_days D) (hr.mono (by decide)) (by rfl) D.g_law_days D.F_law_days.kp D.b_law_days tk (da_cons (de_var (pv 2)) (da_cons (de_var (pv 3)) da_nil))) (de_int).peek (fun _ _ => rfl)) os_ix)))
    (dss_cons (ds_while 1000 hp (dt_cmp op_gt os_gt (de_call1 (pe_callB cr_lenA (by rfl) D.z_len (by decide +kernel) (pa_cons (dp_var (pv 4)) pa_nil)) cs_len) (de_int).peek (nomark _)) (dss_cons (ds_asgV (ps_set (i := 3) nd rfl (by first | exact Or.inl rfl | exact Or.inr rfl) (de_bin op_sub os_sub (de_var (pv 3)) (de_int).peek)))
    (dss_one (ds_asgV (ps_set (i := 4) nd rfl (by first | exact Or.inl rfl | exact Or.inr rfl) (de_tOp (pe_ix ix_seq (de_call (ok_law_days D) (hr.mono (by decide)) (by rfl) D.g_law_days D.F_law_days.kp D.b_law_days tk (da_cons (de_var (pv 2)) (da_cons (de_var (pv 3)) da_nil))) (de_int).peek (fun _ _ => rfl)) os_ix))))))
    (dss_cons (ds_asgV (ps_set (i := 5) nd rfl (by first | exact Or.inl rfl | exact Or.inr rfl) (de_callIo (ok_law_missed D) (hr.mono (by decide)) (by rfl) D.g_law_missed D.F_law_missed.kp D.b_law_missed tk (pv 0) (da_cons (de_var (pv 4)) (da_cons (de_var (pv 1)) da_nil)))))
    (dss_cons (ds_asgV (ps_set (i := 6) nd rfl (by first | exact Or.inl rfl | exact Or.inr rfl) (de_callIo (ok_law_looks D) (hr.mono (by decide)) (by rfl) D.g_law_looks D.F_law_looks.kp D.b_law_looks tk (pv 0) (da_cons (de_ixV (pe_ix ix_seq (pv 2) de_int (fun _ _ => rfl))) (da_cons (de_var (pv 3)) (da_cons (de_var (pv 4)) (da_cons (de_var (pv 5)) da_nil)))))))
    (dss_one (ds_ret (de_tup (da_cons (de_var (pv 2)) (da_cons (de_var (pv 3)) (da_cons (de_callIo (ok_law_take D) (hr.mono (by decide)) (by rfl) D.g_law_take D.F_law_take.kp D.b_law_take tk (pv 0) (da_cons (de_bin op_addA os_add (de_var (pv 1)) (de_int).peek) da_nil)) (da_cons (de_var (pv 6)) (da_cons (de_var (pv 4)) da_nil))))))))))))))
theorem ok_law_season (D : Dfs K mg) : FnOk P w K mg base (L2.CX P w) 4 D.f_law_season D.fd_law_season ["_law_box_here", "_law_most"] (spM ⟨K, D.cl⟩ 2 true false m_law_season) :=
  fun_ok2 (cl := D.cl) (n := 2) (fm := m_law_season) D.F_law_season sc_law_season (by decide) (by rfl) (by unfold m_law_season; rfl) (bd_law_season D)
theorem bd_round_days (D : Dfs K mg) (cdv : Value) (A : Around) (outer : List Env) (s : Shared) (H : Hp) (E : XK) (π : Nat → Option Pin) (hr : Room 4 (A.deeper (envOfC "round_days" (defScope s_round_days) s.heap.objs.size D.f_round_days cdv))) : PSs (cxOf (L2.CX P w) P w K mg base ["rota", "wheel"] "round_days" (defScope s_round_days) D.f_round_days cdv A outer s H E) (defBody s_round_days) (TMs ⟨K, D.cl⟩ π (fun cls d _ H => E cls d H) b_round_days) := by
  have nd := sc_round_days.nd
  have tk : Takes (cxOf (L2.CX P w) P w K mg base ["rota", "wheel"] "round_days" (defScope s_round_days) D.f_round_days cdv A outer s H E) (fun cls d _ H => E cls d H) := takes_of rfl rfl rfl rfl
  have hp : PassesOwn (model P w) (cxOf (L2.CX P w) P w K mg base ["rota", "wheel"] "round_days" (defScope s_round_days) D.f_round_days cdv A outer s H E).A (cxOf (L2.CX P w) P w K mg base ["rota", "wheel"] "round_days" (defScope s_round_days) D.f_round_days cdv A outer s H E).env (cxOf (L2.CX P w) P w K mg base ["rota", "wheel"] "round_days" (defScope s_round_days) D.f_round_days cdv A outer s H E).xe := passes_of rfl
  unfold b_round_days
  exact (dss_cons (ds_expr (de_call (ok_need_wheel D) (hr.mono (by decide)) (by rfl) D.g_need_wheel D.F_need_wheel.kp D.b_need_wheel tk (da_cons (de_var (pv 0)) (da_cons (de_var (pv 1)) da_nil))))
    (dss_one (ds_ret (de_call1 (pe_callB cr_lenA (by rfl) D.z_len (by decide +kernel) (pa_cons (de_call (ok_way D) (hr.mono (by decide)) (by rfl) D.g_way D.F_way.kp D.b_way tk (da_cons (de_var (pv 0)) (da_cons (de_var (pv 1)) da_nil))).peek pa_nil)) cs_len))))
theorem ok_round_days (D : Dfs K mg) : FnOk P w K mg base (L2.CX P w) 5 D.f_round_days D.fd_round_days ["rota", "wheel"] (spM ⟨K, D.cl⟩ 2 false false m_round_days) :=
  fun_ok2 (cl := D.cl) (n := 2) (fm := m_round_days) D.F_round_days sc_round_days (by decide) (by rfl) (by unfold m_round_days; rfl) (bd_round_days D)
theorem bd_can_be (D : Dfs K mg) (cdv : Value) (A : Around) (outer : List Env) (s : Shared) (H : Hp) (E : XK) (π : Nat → Option Pin) (hr : Room 4 (A.deeper (envOfC "can_be" (defScope s_can_be) s.heap.objs.size D.f_can_be cdv))) : PSs (cxOf (L2.CX P w) P w K mg base ["season", "missed", "made", "paid"] "can_be" (defScope s_can_be) D.f_can_be cdv A outer s H E) (defBody s_can_be) (TMs ⟨K, D.cl⟩ π (fun cls d _ H => E cls d H) b_can_be) := by
  have nd := sc_can_be.nd
  have tk : Takes (cxOf (L2.CX P w) P w K mg base ["season", "missed", "made", "paid"] "can_be" (defScope s_can_be) D.f_can_be cdv A outer s H E) (fun cls d _ H => E cls d H) := takes_of rfl rfl rfl rfl
  have hp : PassesOwn (model P w) (cxOf (L2.CX P w) P w K mg base ["season", "missed", "made", "paid"] "can_be" (defScope s_can_be) D.f_can_be cdv A outer s H E).A (cxOf (L2.CX P w) P w K mg base ["season", "missed", "made", "paid"] "can_be" (defScope s_can_be) D.f_can_be cdv A outer s H E).env (cxOf (L2.CX P w) P w K mg base ["season", "missed", "made", "paid"] "can_be" (defScope s_can_be) D.f_can_be cdv A outer s H E).xe := passes_of rfl
  unfold b_can_be
  exact (dss_cons (ds_asgV (ps_set (i := 3) nd rfl (by first | exact Or.inl rfl | exact Or.inr rfl) (de_call (ok_cost D) (hr.mono (by decide)) (by rfl) D.g_cost D.F_cost.kp D.b_cost tk (da_cons (de_var (pv 0)) (da_cons (de_var (pv 1)) (da_cons (de_var (pv 2)) da_nil))))))
    (dss_one (ds_ret (de_and (de_cmp op_notN os_notN (de_var (pv 3)) (de_non).peek (nomark _)) (de_one (de_cmp op_le os_le (de_var (pv 3)) (de_attr rfl (at_budget D) (dp_var (pv 0)) (by rfl)).peek (nomark _)))))))
theorem ok_can_be (D : Dfs K mg) : FnOk P w K mg base (L2.CX P w) 5 D.f_can_be D.fd_can_be ["season", "missed", "made"] (spM ⟨K, D.cl⟩ 3 false false m_can_be) :=
  fun_ok2 (cl := D.cl) (n := 3) (fm := m_can_be) D.F_can_be sc_can_be (by decide) (by rfl) (by unfold m_can_be; rfl) (bd_can_be D)
theorem bd_is_row (D : Dfs K mg) (cdv : Value) (A : Around) (outer : List Env) (s : Shared) (H : Hp) (E : XK) (π : Nat → Option Pin) (hr : Room 4 (A.deeper (envOfC "is_row" (defScope s_is_row) s.heap.objs.size D.f_is_row cdv))) : PSs (cxOf (L2.CX P w) P w K mg base ["value", "places"] "is_row" (defScope s_is_row) D.f_is_row cdv A outer s H E) (defBody s_is_row) (TMs ⟨K, D.cl⟩ π (fun cls d _ H => E cls d H) b_is_row) := by
  have nd := sc_is_row.nd
  have tk : Takes (cxOf (L2.CX P w) P w K mg base ["value", "places"] "is_row" (defScope s_is_row) D.f_is_row cdv A outer s H E) (fun cls d _ H => E cls d H) := takes_of rfl rfl rfl rfl
  have hp : PassesOwn (model P w) (cxOf (L2.CX P w) P w K mg base ["value", "places"] "is_row" (defScope s_is_row) D.f_is_row cdv A outer s H E).A (cxOf (L2.CX P w) P w K mg base ["value", "places"] "is_row" (defScope s_is_row) D.f_is_row cdv A outer s H E).env (cxOf (L2.CX P w) P w K mg base ["value", "places"] "is_row" (defScope s_is_row) D.f_is_row cdv A outer s H E).xe := passes_of rfl
  unfold b_is_row
  exact (dss_cons (ds_if (PW.pt (dw_or (dt_not (dt_val (de_isi rfl .tuple (pe_callB call_isi (by rfl) D.z_isinstance (by decide +kernel) (pa_cons (dp_var (pv 0)) (pa_cons (pe_bltn (v := .ty "tuple") (by rfl) D.z_tuple (by decide +kernel) rfl) pa_nil)))))) (dw_or (dt_cmp (op_neD hr.units) os_ne (de_call1 (pe_callB cr_lenA (by rfl) D.z_len (by decide +kernel) (pa_cons (dp_var (pv 0)) pa_nil)) cs_len) (de_c (pe_glob (by rfl) D.c_PAIR_rotas (D.r_PAIR_rotas)) fun _ => .int _).peek (nomark _)) (dw_or1 (dt_not (dt_val (de_call (ok_is_unlike D) (hr.mono (by decide)) (by rfl) D.g_is_unlike D.F_is_unlike.kp D.b_is_unlike tk (da_cons (de_ixV (pe_ix ix_seq (pv 0) de_int (fun _ _ => rfl))) (da_cons (de_var (pv 1)) da_nil))))))))) (dss_one (ds_ret de_bl)) dss_nil)
    (dss_one (ds_ret (de_and (de_call (ok_is_unlike D) (hr.mono (by decide)) (by rfl) D.g_is_unlike D.F_is_unlike.kp D.b_is_unlike tk (da_cons (de_ixV (pe_ix ix_seq (pv 0) de_int (fun _ _ => rfl))) (da_cons (de_var (pv 1)) da_nil))) (de_one (de_cmp (op_eqD hr.units) os_eq (de_call1 (pe_callB cr_lenA (by rfl) D.z_len (by decide +kernel) (pa_cons (de_ixV (pe_ix ix_seq (pv 0) de_int (fun _ _ => rfl))).peek pa_nil)) cs_len) (dp_var (pv 1)) (nomark _)))))))
theorem ok_is_row (D : Dfs K mg) : FnOk P w K mg base (L2.CX P w) 5 D.f_is_row D.fd_is_row ["value", "places"] (spM ⟨K, D.cl⟩ 2 false false m_is_row) :=
  fun_ok2 (cl := D.cl) (n := 2) (fm := m_is_row) D.F_is_row sc_is_row (by decide) (by rfl) (by unfold m_is_row; rfl) (bd_is_row D)
theorem bd_every_due (D : Dfs K mg) (cdv : Value) (A : Around) (outer : List Env) (s : Shared) (H : Hp) (E : XK) (π : Nat → Option Pin) (hr : Room 5 (A.deeper (envOfC "every_due" (defScope s_every_due) s.heap.objs.size D.f_every_due cdv))) : PSs (cxOf (L2.CX P w) P w K mg base ["rota", "days", "found", "known", "day", "wheel", "days_due", "size"] "every_due" (defScope s_every_due) D.f_every_due cdv A outer s H E) (defBody s_every_due) (TMs ⟨K, D.cl⟩ π (fun cls d _ H => E cls d H) b_every_due) := by
  have nd := sc_every_due.nd
  have tk : Takes (cxOf (L2.CX P w) P w K mg base ["rota", "days", "found", "known", "day", "wheel", "days_due", "size"] "every_due" (defScope s_every_due) D.f_every_due cdv A outer s H E) (fun cls d _ H => E cls d H) := takes_of rfl rfl rfl rfl
  have hp : PassesOwn (model P w) (cxOf (L2.CX P w) P w K mg base ["rota", "days", "found", "known", "day", "wheel", "days_due", "size"] "every_due" (defScope s_every_due) D.f_every_due cdv A outer s H E).A (cxOf (L2.CX P w) P w K mg base ["rota", "days", "found", "known", "day", "wheel", "days_due", "size"] "every_due" (defScope s_every_due) D.f_every_due cdv A outer s H E).env (cxOf (L2.CX P w) P w K mg base ["rota", "days", "found", "known", "day", "wheel", "days_due", "size"] "every_due" (defScope s_every_due) D.f_every_due cdv A outer s H E).xe := passes_of rfl
  unfold b_every_due
  exact (dss_cons (ds_par (ps_par (i := 2) (j := 3) (by rfl) nd rfl rfl (by decide) rfl rfl (dk_own (dn_lst da_nil) (dk_val ((dn_lc (pe_lc (own := [("wheel", 5)]) rfl nd (di_rng1 (by rfl) D.z_range (da_cons (de_attr rfl (at_places D) (dp_var (pv 0)) (by rfl)) da_nil)) (blkOk_by (own := [("wheel", 5)]) (N := ["rota", "days", "found", "known", "day", "wheel", "days_due", "size"]) (sc := defScope s_every_due) (by decide +kernel)) (fun _ _ _ _ _ => (dg_name (pg_name (i := 5) nd rfl (by first | exact Or.inl rfl | exact Or.inr rfl)))) (fun _ _ _ _ _ => dts_nil) (fun _ _ _ _ _ => (de_tup (da_cons (de_call (ok_due_in_round D) (hr.mono (by decide)) (by rfl) D.g_due_in_round D.F_due_in_round.kp D.b_due_in_round takes0 (da_cons (de_var (pv 0)) (da_cons (de_var (pv 5)) da_nil))) (da_cons (de_call (ok_round_days D) (hr.mono (by decide)) (by rfl) D.g_round_days D.F_round_days.kp D.b_round_days takes0 (da_cons (de_var (pv 0)) (da_cons (de_var (pv 5)) da_nil))) da_nil))))) (by decide))).keep dk_nil)) (by rfl)))
    (dss_cons (ds_for hp rfl (di_rng1 (by rfl) D.z_range (da_cons (de_var (pv 1)) da_nil)) (dg_name (pg_name (i := 4) nd rfl (by first | exact Or.inl rfl | exact Or.inr rfl))) (dss_one (ds_expr (de_extend rfl (pe_bm PySem.F.plainAttrs_list PySem.F.slot_list_extend PySem.F.type_list_extend mt_extend (pv 2) (pa_cons (dn_lc (pe_lc (own := [("wheel", 5), ("days_due", 6), ("size", 7)]) rfl nd (di_enum rfl (by rfl) D.z_enumerate (de_var (pv 3))) (blkOk_by (own := [("wheel", 5), ("days_due", 6), ("size", 7)]) (N := ["rota", "days", "found", "known", "day", "wheel", "days_due", "size"]) (sc := defScope s_every_due) (by decide +kernel)) (fun _ _ _ _ _ => (dg_tup rfl rfl (dgs_cons (dg_name (pg_name (i := 5) nd rfl (by first | exact Or.inl rfl | exact Or.inr rfl))) (dgs_cons (dg_tup rfl rfl (dgs_cons (dg_name (pg_name (i := 6) nd rfl (by first | exact Or.inl rfl | exact Or.inr rfl))) (dgs_cons (dg_name (pg_name (i := 7) nd rfl (by first | exact Or.inl rfl | exact Or.inr rfl))) dgs_nil))) dgs_nil)))) (fun _ _ _ _ _ => (dts_one (dt_cmp (op_inA hr.units) os_inA (de_bin op_mod os_mod (de_var (pv 4)) (dp_var (pv 7))) (dp_var (pv 6)) (by rfl)))) (fun _ _ _ _ _ => (de_tup (da_cons (de_var (pv 4)) (da_cons (de_var (pv 5)) da_nil))))) (by decide)) pa_nil))))))
    (dss_one (ds_ret (de_call1 (pe_callTy call_tuple_of (by rfl) D.z_tuple (by decide +kernel) (pa_cons (dp_var (pv 2)) pa_nil)) cs_tuple)))))
theorem ok_every_due (D : Dfs K mg) : FnOk P w K mg base (L2.CX P w) 6 D.f_every_due D.fd_every_due ["rota", "days"] (spM ⟨K, D.cl⟩ 2 false false m_every_due) :=
  fun_ok2 (cl := D.cl) (n := 2) (fm := m_every_due) D.F_every_due sc_every_due (by decide) (by rfl) (by unfold m_every_due; rfl) (bd_every_due D)
theorem bd_possible (D : Dfs K mg) (cdv : Value) (A : Around) (outer : List Env) (s : Shared) (H : Hp) (E : XK) (π : Nat → Option Pin) (hr : Room 5 (A.deeper (envOfC "possible" (defScope s_possible) s.heap.objs.size D.f_possible cdv))) : PSs (cxOf (L2.CX P w) P w K mg base ["season"] "possible" (defScope s_possible) D.f_possible cdv A outer s H E) (defBody s_possible) (TMs ⟨K, D.cl⟩ π (fun cls d _ H => E cls d H) b_possible) := by
  have nd := sc_possible.nd
  have tk : Takes (cxOf (L2.CX P w) P w K mg base ["season"] "possible" (defScope s_possible) D.f_possible cdv A outer s H E) (fun cls d _ H => E cls d H) := takes_of rfl rfl rfl rfl
  have hp : PassesOwn (model P w) (cxOf (L2.CX P w) P w K mg base ["season"] "possible" (defScope s_possible) D.f_possible cdv A outer s H E).A (cxOf (L2.CX P w) P w K mg base ["season"] "possible" (defScope s_possible) D.f_possible cdv A outer s H E).env (cxOf (L2.CX P w) P w K mg base ["season"] "possible" (defScope s_possible) D.f_possible cdv A outer s H E).xe := passes_of rfl
  unfold b_possible
  exact (dss_one (ds_ret (de_call (ok_can_be D) (hr.mono (by decide)) (by rfl) D.g_can_be D.F_can_be.kp D.b_can_be tk (da_cons (de_var (pv 0)) (da_cons ((dn_dnewT pe_dnewT)).keep (da_cons ((dn_dnewT pe_dnewT)).keep da_nil))))))
theorem ok_possible (D : Dfs K mg) : FnOk P w K mg base (L2.CX P w) 6 D.f_possible D.fd_possible ["season"] (spM ⟨K, D.cl⟩ 1 false false m_possible) :=
  fun_ok2 (cl := D.cl) (n := 1) (fm := m_possible) D.F_possible sc_possible (by decide) (by rfl) (by unfold m_possible; rfl) (bd_possible D)
theorem bd_Rota_init (D : Dfs K mg) (cdv : Value) (A : Around) (outer : List Env) (s : Shared) (H : Hp) (E : XK) (π : Nat → Option Pin) (hr : Room 5 (A.deeper (envOfC "Rota.__init__" (defScope s_Rota_init) s.heap.objs.size D.f_Rota_init cdv))) : PSs (cxOf (L2.CX P w) P w K mg base ["self", "places", "rows", "row", "turned", "moves", "one"] "Rota.__init__" (defScope s_Rota_init) D.f_Rota_init cdv A outer s H E) (defBody s_Rota_init) (TMs ⟨K, D.cl⟩ π (fun cls d _ H => E cls d H) b_Rota_init) := by
  have nd := sc_Rota_init.nd
  have tk : Takes (cxOf (L2.CX P w) P w K mg base ["self", "places", "rows", "row", "turned", "moves", "one"] "Rota.__init__" (defScope s_Rota_init) D.f_Rota_init cdv A outer s H E) (fun cls d _ H => E cls d H) := takes_of rfl rfl rfl rfl
  have hp : PassesOwn (model P w) (cxOf (L2.CX P w) P w K mg base ["self", "places", "rows", "row", "turned", "moves", "one"] "Rota.__init__" (defScope s_Rota_init) D.f_Rota_init cdv A outer s H E).A (cxOf (L2.CX P w) P w K mg base ["self", "places", "rows", "row", "turned", "moves", "one"] "Rota.__init__" (defScope s_Rota_init) D.f_Rota_init cdv A outer s H E).env (cxOf (L2.CX P w) P w K mg base ["self", "places", "rows", "row", "turned", "moves", "one"] "Rota.__init__" (defScope s_Rota_init) D.f_Rota_init cdv A outer s H E).xe := passes_of rfl
  unfold b_Rota_init
  exact (dss_cons (ds_if (dt_not (dt_val (de_call (ok_is_from D) (hr.mono (by decide)) (by rfl) D.g_is_from D.F_is_from.kp D.b_is_from tk (da_cons (de_var (pv 1)) (da_cons de_int da_nil))))) (dss_one ds_never) dss_nil)
    (dss_cons (ds_if (PW.pt (dw_or (dt_not (dt_val (de_call (ok_is_sequence D) (hr.mono (by decide)) (by rfl) D.g_is_sequence D.F_is_sequence.kp D.b_is_sequence tk (da_cons (de_var (pv 2)) da_nil)))) (dw_or (dt_cmp (op_eqD hr.units) os_eq (de_call1 (pe_callB cr_lenA (by rfl) D.z_len (by decide +kernel) (pa_cons (dp_var (pv 2)) pa_nil)) cs_len) (de_int).peek (nomark _)) (dw_or1 (dt_not (dt_val (de_call1 (pe_callB (cr_all rfl) (by rfl) D.z_all (by decide +kernel) (pa_cons ((dn_lc (pe_lc (own := [("row", 3)]) rfl nd (di_seq rfl (de_var (pv 2))) (blkOk_by (own := [("row", 3)]) (N := ["self", "places", "rows", "row", "turned", "moves", "one"]) (sc := defScope s_Rota_init) (by decide +kernel)) (fun _ _ _ _ _ => (dg_name (pg_name (i := 3) nd rfl (by first | exact Or.inl rfl | exact Or.inr rfl)))) (fun _ _ _ _ _ => dts_nil) (fun _ _ _ _ _ => (de_call (ok_is_row D) (hr.mono (by decide)) (by rfl) D.g_is_row D.F_is_row.kp D.b_is_row takes0 (da_cons (de_var (pv 3)) (da_cons (de_var (pv 1)) da_nil))))) (by decide))).keep.peek pa_nil)) cs_all))))))) (dss_one ds_never) dss_nil)
    (dss_cons (ds_fput rfl (at_places D) (ps_fld (pv 0) (de_var (pv 1)) rfl))
    (dss_cons (ds_fput rfl (at_rows D) (ps_fld (pv 0) (de_call1 (pe_callTy call_tuple_of (by rfl) D.z_tuple (by decide +kernel) (pa_cons ((dn_lc (pe_lc (own := [("turned", 4), ("moves", 5)]) rfl nd (di_seq rfl (de_var (pv 2))) (blkOk_by (own := [("turned", 4), ("moves", 5)]) (N := ["self", "places", "rows", "row", "turned", "moves", "one"]) (sc := defScope s_Rota_init) (by decide +kernel)) (fun _ _ _ _ _ => (dg_tup rfl rfl (dgs_cons (dg_name (pg_name (i := 4) nd rfl (by first | exact Or.inl rfl | exact Or.inr rfl))) (dgs_cons (dg_name (pg_name (i := 5) nd rfl (by first | exact Or.inl rfl | exact Or.inr rfl))) dgs_nil)))) (fun _ _ _ _ _ => dts_nil) (fun _ _ _ _ _ => (de_tup (da_cons (de_call1 (pe_callTy call_tuple_of (by rfl) D.z_tuple (by decide +kernel) (pa_cons ((dn_call1 (pe_callB cr_sortedI (by rfl) D.z_sorted (by decide +kernel) (pa_cons ((dn_lc (pe_lc (own := [("one", 6)]) rfl nd (di_seq rfl (de_var (pv 4))) (blkOk_by (own := [("one", 6)]) (by kernel_rfl)) (fun _ _ _ _ _ => (dg_name (pg_name (i := 6) nd rfl (by first | exact Or.inl rfl | exact Or.inr rfl)))) (fun _ _ _ _ _ => dts_nil) (fun _ _ _ _ _ => (de_call1 (pe_callTy call_int1 (by rfl) D.z_int (by decide +kernel) (pa_cons (dp_var (pv 6)) pa_nil)) cs_int))) (by decide))).keep.peek pa_nil)) cn_sorted)).keep.peek pa_nil)) cs_tuple) (da_cons (de_call1 (pe_callTy call_tuple_of (by rfl) D.z_tuple (by decide +kernel) (pa_cons (dp_var (pv 5)) pa_nil)) cs_tuple) da_nil))))) (by decide))).keep.peek pa_nil)) cs_tuple) rfl))
    (dss_one (ds_fput rfl (at_text D) (ps_fld (pv 0) (de_call (ok_text_of_rota D) (hr.mono (by decide)) (by rfl) D.g_text_of_rota D.F_text_of_rota.kp D.b_text_of_rota tk (da_cons (de_attr rfl (at_places D) (dp_var (pv 0)) (by rfl)) (da_cons (de_attr rfl (at_rows D) (dp_var (pv 0)) (by rfl)) da_nil))) rfl)))))))
theorem ok_Rota_init (D : Dfs K mg) : FnOk P w K mg base (L2.CX P w) 6 D.f_Rota_init D.fd_Rota_init ["self", "places", "rows"] (spM ⟨K, D.cl⟩ 3 true false m_Rota_init) :=
  fun_ok2 (cl := D.cl) (n := 3) (fm := m_Rota_init) D.F_Rota_init sc_Rota_init (by decide) (by rfl) (by unfold m_Rota_init; rfl) (bd_Rota_init D)
theorem bd_Season_init (D : Dfs K mg) (cdv : Value) (A : Around) (outer : List Env) (s : Shared) (H : Hp) (E : XK) (π : Nat → Option Pin) (hr : Room 6 (A.deeper (envOfC "Season.__init__" (defScope s_Season_init) s.heap.objs.size D.f_Season_init cdv))) : PSs (cxOf (L2.CX P w) P w K mg base ["self", "rota", "days", "budget", "looks", "one", "look"] "Season.__init__" (defScope s_Season_init) D.f_Season_init cdv A outer s H E) (defBody s_Season_init) (TMs ⟨K, D.cl⟩ π (fun cls d _ H => E cls d H) b_Season_init) := by
  have nd := sc_Season_init.nd
  have tk : Takes (cxOf (L2.CX P w) P w K mg base ["self", "rota", "days", "budget", "looks", "one", "look"] "Season.__init__" (defScope s_Season_init) D.f_Season_init cdv A outer s H E) (fun cls d _ H => E cls d H) := takes_of rfl rfl rfl rfl
  have hp : PassesOwn (model P w) (cxOf (L2.CX P w) P w K mg base ["self", "rota", "days", "budget", "looks", "one", "look"] "Season.__init__" (defScope s_Season_init) D.f_Season_init cdv A outer s H E).A (cxOf (L2.CX P w) P w K mg base ["self", "rota", "days", "budget", "looks", "one", "look"] "Season.__init__" (defScope s_Season_init) D.f_Season_init cdv A outer s H E).env (cxOf (L2.CX P w) P w K mg base ["self", "rota", "days", "budget", "looks", "one", "look"] "Season.__init__" (defScope s_Season_init) D.f_Season_init cdv A outer s H E).xe := passes_of rfl
  unfold b_Season_init
  exact (dss_cons (ds_if (dt_not (dt_val (de_call (ok_is_from D) (hr.mono (by decide)) (by rfl) D.g_is_from D.F_is_from.kp D.b_is_from tk (da_cons (de_var (pv 2)) (da_cons de_int da_nil))))) (dss_one ds_never) dss_nil)
    (dss_cons (ds_if (dt_not (dt_val (de_call (ok_is_from D) (hr.mono (by decide)) (by rfl) D.g_is_from D.F_is_from.kp D.b_is_from tk (da_cons (de_var (pv 3)) (da_cons de_int da_nil))))) (dss_one ds_never) dss_nil)
    (dss_cons (ds_if (PW.pt (dw_or (dt_not (dt_val (de_call (ok_is_sequence D) (hr.mono (by decide)) (by rfl) D.g_is_sequence D.F_is_sequence.kp D.b_is_sequence tk (da_cons (de_var (pv 4)) da_nil)))) (dw_or1 (dt_not (dt_val (de_call1 (pe_callB (cr_all rfl) (by rfl) D.z_all (by decide +kernel) (pa_cons ((dn_lc (pe_lc (own := [("one", 5)]) rfl nd (di_seq rfl (de_var (pv 4))) (blkOk_by (own := [("one", 5)]) (N := ["self", "rota", "days", "budget", "looks", "one", "look"]) (sc := defScope s_Season_init) (by decide +kernel)) (fun _ _ _ _ _ => (dg_name (pg_name (i := 5) nd rfl (by first | exact Or.inl rfl | exact Or.inr rfl)))) (fun _ _ _ _ _ => dts_nil) (fun _ _ _ _ _ => (de_call (ok_is_look D) (hr.mono (by decide)) (by rfl) D.g_is_look D.F_is_look.kp D.b_is_look takes0 (da_cons (de_var (pv 5)) (da_cons (de_var (pv 1)) (da_cons (de_var (pv 2)) da_nil)))))) (by decide))).keep.peek pa_nil)) cs_all)))))) (dss_one ds_never) dss_nil)
    (dss_cons (ds_fput rfl (at_rota D) (ps_fld (pv 0) (de_var (pv 1)) rfl))
    (dss_cons (ds_fput rfl (at_days D) (ps_fld (pv 0) (de_var (pv 2)) rfl))
    (dss_cons (ds_fput rfl (at_budget D) (ps_fld (pv 0) (de_var (pv 3)) rfl))
    (dss_cons (ds_fput rfl (at_looks D) (ps_fld (pv 0) (de_call1 (pe_callTy call_tuple_of (by rfl) D.z_tuple (by decide +kernel) (pa_cons ((dn_lc (pe_lc (own := [("look", 6)]) rfl nd (di_seq rfl (de_call (ok_every_look D) (hr.mono (by decide)) (by rfl) D.g_every_look D.F_every_look.kp D.b_every_look tk (da_cons (de_var (pv 1)) (da_cons (de_var (pv 2)) da_nil)))) (blkOk_by (own := [("look", 6)]) (N := ["self", "rota", "days", "budget", "looks", "one", "look"]) (sc := defScope s_Season_init) (by decide +kernel)) (fun _ _ _ _ _ => (dg_name (pg_name (i := 6) nd rfl (by first | exact Or.inl rfl | exact Or.inr rfl)))) (fun _ _ _ _ _ => (dts_one (dt_cmp (op_inA hr.units) os_inA (de_var (pv 6)) (dp_var (pv 4)) (by rfl)))) (fun _ _ _ _ _ => (de_var (pv 6)))) (by decide))).keep.peek pa_nil)) cs_tuple) rfl))
    (dss_cons (ds_fput rfl (at_wheels D) (ps_fld (pv 0) (de_attr rfl (at_places D) (dp_var (pv 1)) (by rfl)) rfl))
    (dss_one (ds_fput rfl (at_due D) (ps_fld (pv 0) (de_call (ok_every_due D) (hr.mono (by decide)) (by rfl) D.g_every_due D.F_every_due.kp D.b_every_due tk (da_cons (de_var (pv 1)) (da_cons (de_var (pv 2)) da_nil))) rfl)))))))))))
theorem ok_Season_init (D : Dfs K mg) : FnOk P w K mg base (L2.CX P w) 7 D.f_Season_init D.fd_Season_init ["self", "rota", "days", "budget", "looks"] (spM ⟨K, D.cl⟩ 5 true false m_Season_init) :=
  fun_okD2 (cl := D.cl) (n := 5) (fm := m_Season_init) D.F_Season_init sc_Season_init (by decide) (by rfl) (by unfold m_Season_init; rfl) (bd_Season_init D)
theorem bd_law_made (D : Dfs K mg) (cdv : Value) (A : Around) (outer : List Env) (s : Shared) (H : Hp) (E : XK) (π : Nat → Option Pin) (hr : Room 7 (A.deeper (envOfC "_law_made" (defScope s_law_made) s.heap.objs.size D.f_law_made cdv))) : PSs (cxOf (L2.CX P w) P w K mg base ["_law_told", "_law_turned", "_law_moves"] "_law_made" (defScope s_law_made) D.f_law_made cdv A outer s H E) (defBody s_law_made) (TMs ⟨K, D.cl⟩ π (fun cls d _ H => E cls d H) b_law_made) := by
  have nd := sc_law_made.nd
  have tk : Takes (cxOf (L2.CX P w) P w K mg base ["_law_told", "_law_turned", "_law_moves"] "_law_made" (defScope s_law_made) D.f_law_made cdv A outer s H E) (fun cls d _ H => E cls d H) := takes_of rfl rfl rfl rfl
  have hp : PassesOwn (model P w) (cxOf (L2.CX P w) P w K mg base ["_law_told", "_law_turned", "_law_moves"] "_law_made" (defScope s_law_made) D.f_law_made cdv A outer s H E).A (cxOf (L2.CX P w) P w K mg base ["_law_told", "_law_turned", "_law_moves"] "_law_made" (defScope s_law_made) D.f_law_made cdv A outer s H E).env (cxOf (L2.CX P w) P w K mg base ["_law_told", "_law_turned", "_law_moves"] "_law_made" (defScope s_law_made) D.f_law_made cdv A outer s H E).xe := passes_of rfl
  unfold b_law_made
  exact (dss_one (ds_ret ((dn_make D.mk_Rota (ok_Rota_init D) (hr.mono (by decide)) (by rfl) D.gC_Rota D.b_Rota_init rfl (fun _ _ _ _ _ h => h) tk (da_cons (de_ixV (pe_ix ix_seq (pv 0) de_int (fun _ _ => rfl))) (da_cons ((dn_lc (pe_lc (own := [("_law_turned", 1), ("_law_moves", 2)]) rfl nd (di_seq rfl (de_ixV (pe_ix ix_seq (pv 0) de_int (fun _ _ => rfl)))) (blkOk_by (own := [("_law_turned", 1), ("_law_moves", 2)]) (N := ["_law_told", "_law_turned", "_law_moves"]) (sc := defScope s_law_made) (by decide +kernel)) (fun _ _ _ _ _ => (dg_tup rfl rfl (dgs_cons (dg_name (pg_name (i := 1) nd rfl (by first | exact Or.inl rfl | exact Or.inr rfl))) (dgs_cons (dg_name (pg_name (i := 2) nd rfl (by first | exact Or.inl rfl | exact Or.inr rfl))) dgs_nil)))) (fun _ _ _ _ _ => dts_nil) (fun _ _ _ _ _ => (de_tup (da_cons (de_call1 (pe_callTy call_tuple_of (by rfl) D.z_tuple (by decide +kernel) (pa_cons (dp_var (pv 1)) pa_nil)) cs_tuple) (da_cons (de_call1 (pe_callTy call_tuple_of (by rfl) D.z_tuple (by decide +kernel) (pa_cons (dp_var (pv 2)) pa_nil)) cs_tuple) da_nil))))) (by decide))).keep da_nil)))).keep))
theorem ok_law_made (D : Dfs K mg) : FnOk P w K mg base (L2.CX P w) 8 D.f_law_made D.fd_law_made ["_law_told"] (spM ⟨K, D.cl⟩ 1 false false m_law_made) :=
  fun_ok2 (cl := D.cl) (n := 1) (fm := m_law_made) D.F_law_made sc_law_made (by decide) (by rfl) (by unfold m_law_made; rfl) (bd_law_made D)
theorem bd_Season_seen (D : Dfs K mg) (cdv : Value) (A : Around) (outer : List Env) (s : Shared) (H : Hp) (E : XK) (π : Nat → Option Pin) (hr : Room 8 (A.deeper (envOfC "Season.seen" (defScope s_Season_seen) s.heap.objs.size D.f_Season_seen cdv))) : PSs (cxOf (L2.CX P w) P w K mg base ["self", "looks"] "Season.seen" (defScope s_Season_seen) D.f_Season_seen cdv A outer s H E) (defBody s_Season_seen) (TMs ⟨K, D.cl⟩ π (fun cls d _ H => E cls d H) b_Season_seen) := by
  have nd := sc_Season_seen.nd
  have tk : Takes (cxOf (L2.CX P w) P w K mg base ["self", "looks"] "Season.seen" (defScope s_Season_seen) D.f_Season_seen cdv A outer s H E) (fun cls d _ H => E cls d H) := takes_of rfl rfl rfl rfl
  have hp : PassesOwn (model P w) (cxOf (L2.CX P w) P w K mg base ["self", "looks"] "Season.seen" (defScope s_Season_seen) D.f_Season_seen cdv A outer s H E).A (cxOf (L2.CX P w) P w K mg base ["self", "looks"] "Season.seen" (defScope s_Season_seen) D.f_Season_seen cdv A outer s H E).env (cxOf (L2.CX P w) P w K mg base ["self", "looks"] "Season.seen" (defScope s_Season_seen) D.f_Season_seen cdv A outer s H E).xe := passes_of rfl
  unfold b_Season_seen
  exact (dss_cons (ds_if (dt_not (dt_val (de_call (ok_is_sequence D) (hr.mono (by decide)) (by rfl) D.g_is_sequence D.F_is_sequence.kp D.b_is_sequence tk (da_cons (de_var (pv 1)) da_nil)))) (dss_one ds_never) dss_nil)
    (dss_one (ds_ret ((dn_make D.mk_Season (ok_Season_init D) (hr.mono (by decide)) (by rfl) D.gC_Season D.b_Season_init rfl (fun _ _ _ _ _ h => h) tk (da_cons (de_attr rfl (at_rota D) (dp_var (pv 0)) (by rfl)) (da_cons (de_attr rfl (at_days D) (dp_var (pv 0)) (by rfl)) (da_cons (de_attr rfl (at_budget D) (dp_var (pv 0)) (by rfl)) (da_cons ((dn_lst (da_star rfl (de_attr rfl (at_looks D) (dp_var (pv 0)) (by rfl)).peek (da_star rfl (dp_var (pv 1)) da_nil (StX.pa_star (dp_var (pv 1)) da_nil)) (StX.pa_star (de_attr rfl (at_looks D) (dp_var (pv 0)) (by rfl)).peek (da_star rfl (dp_var (pv 1)) da_nil (StX.pa_star (dp_var (pv 1)) da_nil)))))).keep da_nil)))))).keep)))
theorem ok_Season_seen (D : Dfs K mg) : FnOk P w K mg base (L2.CX P w) 9 D.f_Season_seen D.fd_Season_seen ["self", "looks"] (spM ⟨K, D.cl⟩ 2 false false m_Season_seen) :=
  fun_ok2 (cl := D.cl) (n := 2) (fm := m_Season_seen) D.F_Season_seen sc_Season_seen (by decide) (by rfl) (by unfold m_Season_seen; rfl) (bd_Season_seen D)
theorem bd_law_of (D : Dfs K mg) (cdv : Value) (A : Around) (outer : List Env) (s : Shared) (H : Hp) (E : XK) (π : Nat → Option Pin) (hr : Room 8 (A.deeper (envOfC "_law_of" (defScope s_law_of) s.heap.objs.size D.f_law_of cdv))) : PSs (cxOf (L2.CX P w) P w K mg base ["_law_some"] "_law_of" (defScope s_law_of) D.f_law_of cdv A outer s H E) (defBody s_law_of) (TMs ⟨K, D.cl⟩ π (fun cls d _ H => E cls d H) b_law_of) := by
  have nd := sc_law_of.nd
  have tk : Takes (cxOf (L2.CX P w) P w K mg base ["_law_some"] "_law_of" (defScope s_law_of) D.f_law_of cdv A outer s H E) (fun cls d _ H => E cls d H) := takes_of rfl rfl rfl rfl
  have hp : PassesOwn (model P w) (cxOf (L2.CX P w) P w K mg base ["_law_some"] "_law_of" (defScope s_law_of) D.f_law_of cdv A outer s H E).A (cxOf (L2.CX P w) P w K mg base ["_law_some"] "_law_of" (defScope s_law_of) D.f_law_of cdv A outer s H E).env (cxOf (L2.CX P w) P w K mg base ["_law_some"] "_law_of" (defScope s_law_of) D.f_law_of cdv A outer s H E).xe := passes_of rfl
  unfold b_law_of
  exact (dss_one (ds_ret ((dn_make D.mk_Season (ok_Season_init D) (hr.mono (by decide)) (by rfl) D.gC_Season D.b_Season_init rfl (fun _ _ _ _ _ h => h) tk (da_cons (de_call (ok_law_made D) (hr.mono (by decide)) (by rfl) D.g_law_made D.F_law_made.kp D.b_law_made tk (da_cons (de_ixV (pe_ix ix_seq (pv 0) de_int (fun _ _ => rfl))) da_nil)) (da_cons (de_ixV (pe_ix ix_seq (pv 0) de_int (fun _ _ => rfl))) (da_cons (de_ixV (pe_ix ix_seq (pv 0) de_int (fun _ _ => rfl))) (da_cons (de_ixV (pe_ix ix_seq (pv 0) de_int (fun _ _ => rfl))) da_nil)))))).keep))
theorem ok_law_of (D : Dfs K mg) : FnOk P w K mg base (L2.CX P w) 9 D.f_law_of D.fd_law_of ["_law_some"] (spM ⟨K, D.cl⟩ 1 false false m_law_of) :=
  fun_ok2 (cl := D.cl) (n := 1) (fm := m_law_of) D.F_law_of sc_law_of (by decide) (by rfl) (by unfold m_law_of; rfl) (bd_law_of D)
theorem bd_can_show (D : Dfs K mg) (cdv : Value) (A : Around) (outer : List Env) (s : Shared) (H : Hp) (E : XK) (π : Nat → Option Pin) (hr : Room 9 (A.deeper (envOfC "can_show" (defScope s_can_show) s.heap.objs.size D.f_can_show cdv))) : PSs (cxOf (L2.CX P w) P w K mg base ["season", "wheel", "day", "up"] "can_show" (defScope s_can_show) D.f_can_show cdv A outer s H E) (defBody s_can_show) (TMs ⟨K, D.cl⟩ π (fun cls d _ H => E cls d H) b_can_show) := by
  have nd := sc_can_show.nd
  have tk : Takes (cxOf (L2.CX P w) P w K mg base ["season", "wheel", "day", "up"] "can_show" (defScope s_can_show) D.f_can_show cdv A outer s H E) (fun cls d _ H => E cls d H) := takes_of rfl rfl rfl rfl
  have hp : PassesOwn (model P w) (cxOf (L2.CX P w) P w K mg base ["season", "wheel", "day", "up"] "can_show" (defScope s_can_show) D.f_can_show cdv A outer s H E).A (cxOf (L2.CX P w) P w K mg base ["season", "wheel", "day", "up"] "can_show" (defScope s_can_show) D.f_can_show cdv A outer s H E).env (cxOf (L2.CX P w) P w K mg base ["season", "wheel", "day", "up"] "can_show" (defScope s_can_show) D.f_can_show cdv A outer s H E).xe := passes_of rfl
  unfold b_can_show
  exact (dss_one (ds_ret ((dn_lc (pe_lc (own := [("up", 3)]) rfl nd (di_rng1 (by rfl) D.z_range (da_cons de_int da_nil)) (blkOk_by (own := [("up", 3)]) (N := ["season", "wheel", "day", "up"]) (sc := defScope s_can_show) (by decide +kernel)) (fun _ _ _ _ _ => (dg_name (pg_name (i := 3) nd rfl (by first | exact Or.inl rfl | exact Or.inr rfl)))) (fun _ _ _ _ _ => (dts_one (dt_val (de_call (ok_possible D) (hr.mono (by decide)) (by rfl) D.g_possible D.F_possible.kp D.b_possible takes0 (da_cons (de_meth (de_var (pv 0)) D.cls_Season D.me_Season_seen (ok_Season_seen D) (hr.mono (by decide)) D.b_Season_seen rfl (by decide +kernel) (fun _ _ _ _ _ h => h) takes0 (da_cons ((dn_lst (da_cons (de_tup (da_cons (de_var (pv 2)) (da_cons (de_var (pv 1)) (da_cons (de_var (pv 3)) da_nil)))) da_nil))).keep da_nil)) da_nil))))) (fun _ _ _ _ _ => (de_var (pv 3)))) (by decide))).keep))
theorem ok_can_show (D : Dfs K mg) : FnOk P w K mg base (L2.CX P w) 10 D.f_can_show D.fd_can_show ["season", "wheel", "day"] (spM ⟨K, D.cl⟩ 3 false false m_can_show) :=
  fun_ok2 (cl := D.cl) (n := 3) (fm := m_can_show) D.F_can_show sc_can_show (by decide) (by rfl) (by unfold m_can_show; rfl) (bd_can_show D)
theorem bd_sure_sides (D : Dfs K mg) (cdv : Value) (A : Around) (outer : List Env) (s : Shared) (H : Hp) (E : XK) (π : Nat → Option Pin) (hr : Room 10 (A.deeper (envOfC "sure_sides" (defScope s_sure_sides) s.heap.objs.size D.f_sure_sides cdv))) : PSs (cxOf (L2.CX P w) P w K mg base ["season", "day", "found", "wheel", "some"] "sure_sides" (defScope s_sure_sides) D.f_sure_sides cdv A outer s H E) (defBody s_sure_sides) (TMs ⟨K, D.cl⟩ π (fun cls d _ H => E cls d H) b_sure_sides) := by
  have nd := sc_sure_sides.nd
  have tk : Takes (cxOf (L2.CX P w) P w K mg base ["season", "day", "found", "wheel", "some"] "sure_sides" (defScope s_sure_sides) D.f_sure_sides cdv A outer s H E) (fun cls d _ H => E cls d H) := takes_of rfl rfl rfl rfl
  have hp : PassesOwn (model P w) (cxOf (L2.CX P w) P w K mg base ["season", "day", "found", "wheel", "some"] "sure_sides" (defScope s_sure_sides) D.f_sure_sides cdv A outer s H E).A (cxOf (L2.CX P w) P w K mg base ["season", "day", "found", "wheel", "some"] "sure_sides" (defScope s_sure_sides) D.f_sure_sides cdv A outer s H E).env (cxOf (L2.CX P w) P w K mg base ["season", "day", "found", "wheel", "some"] "sure_sides" (defScope s_sure_sides) D.f_sure_sides cdv A outer s H E).xe := passes_of rfl
  unfold b_sure_sides
  exact (dss_cons (ds_setLcV (ps_setLc (own := [("wheel", 3)]) (i := 2) rfl nd rfl rfl (sw_true rfl rfl rfl (by decide +kernel)) (di_rng1 (by rfl) D.z_range (da_cons (de_attr rfl (at_wheels D) (dp_var (pv 0)) (by rfl)) da_nil)) (blkOk_by (own := [("wheel", 3)]) (N := ["season", "day", "found", "wheel", "some"]) (sc := defScope s_sure_sides) (by decide +kernel)) (fun _ _ _ _ _ => (dg_name (pg_name (i := 3) nd rfl (by first | exact Or.inl rfl | exact Or.inr rfl)))) (fun _ _ _ _ _ => dts_nil) (fun _ _ _ _ _ => (de_call (ok_can_show D) (hr.mono (by decide)) (by rfl) D.g_can_show D.F_can_show.kp D.b_can_show takes0 (da_cons (de_var (pv 0)) (da_cons (de_var (pv 3)) (da_cons (de_var (pv 1)) da_nil)))))) (by decide))
    (dss_one (ds_ret (de_call1 (pe_callTy call_tuple_of (by rfl) D.z_tuple (by decide +kernel) (pa_cons ((dn_lc (pe_lc (own := [("some", 4)]) rfl nd (di_seq rfl (de_var (pv 2))) (blkOk_by (own := [("some", 4)]) (N := ["season", "day", "found", "wheel", "some"]) (sc := defScope s_sure_sides) (by decide +kernel)) (fun _ _ _ _ _ => (dg_name (pg_name (i := 4) nd rfl (by first | exact Or.inl rfl | exact Or.inr rfl)))) (fun _ _ _ _ _ => dts_nil) (fun _ _ _ _ _ => (de_ifExp (dt_cmp (op_eqD hr.units) os_eq (de_call1 (pe_callB cr_lenA (by rfl) D.z_len (by decide +kernel) (pa_cons (dp_var (pv 4)) pa_nil)) cs_len) (de_int).peek (nomark _)) (de_ixV (pe_ix ix_seq (pv 4) de_int (fun _ _ => rfl))) de_non))) (by decide))).keep.peek pa_nil)) cs_tuple))))
theorem ok_sure_sides (D : Dfs K mg) : FnOk P w K mg base (L2.CX P w) 11 D.f_sure_sides D.fd_sure_sides ["season", "day"] (spM ⟨K, D.cl⟩ 2 false false m_sure_sides) :=
  fun_ok2 (cl := D.cl) (n := 2) (fm := m_sure_sides) D.F_sure_sides sc_sure_sides (by decide) (by rfl) (by unfold m_sure_sides; rfl) (bd_sure_sides D)
theorem bd_Live_show (D : Dfs K mg) (cdv : Value) (A : Around) (outer : List Env) (s : Shared) (H : Hp) (E : XK) (π : Nat → Option Pin) (hr : Room 11 (A.deeper (envOfC "Live.show" (defScope s_Live_show) s.heap.objs.size D.f_Live_show cdv))) : PSs (cxOf (L2.CX P w) P w K mg base ["self", "season", "wheel"] "Live.show" (defScope s_Live_show) D.f_Live_show cdv A outer s H E) (defBody s_Live_show) (TMs ⟨K, D.cl⟩ π (fun cls d _ H => E cls d H) b_Live_show_k70) := by
  have nd := sc_Live_show.nd
  have tk : Takes (cxOf (L2.CX P w) P w K mg base ["self", "season", "wheel"] "Live.show" (defScope s_Live_show) D.f_Live_show cdv A outer s H E) (fun cls d _ H => E cls d H) := takes_of rfl rfl rfl rfl
  have hp : PassesOwn (model P w) (cxOf (L2.CX P w) P w K mg base ["self", "season", "wheel"] "Live.show" (defScope s_Live_show) D.f_Live_show cdv A outer s H E).A (cxOf (L2.CX P w) P w K mg base ["self", "season", "wheel"] "Live.show" (defScope s_Live_show) D.f_Live_show cdv A outer s H E).env (cxOf (L2.CX P w) P w K mg base ["self", "season", "wheel"] "Live.show" (defScope s_Live_show) D.f_Live_show cdv A outer s H E).xe := passes_of rfl
  unfold b_Live_show_k70
  exact (dss_cons (ds_fput rfl (at_season D) (ps_fld (pv 0) (de_var (pv 1)) rfl))
    (dss_cons (ds_fput rfl (at_is_possible D) (ps_fld (pv 0) (de_call (ok_possible D) (hr.mono (by decide)) (by rfl) D.g_possible D.F_possible.kp D.b_possible tk (da_cons (de_var (pv 1)) da_nil)) rfl))
    (dss_cons (ds_fput rfl (at_sure D) (ps_fld (pv 0) (de_call1 (pe_callTy call_tuple_of (by rfl) D.z_tuple (by decide +kernel) (pa_cons ((dn_lc (pe_lc (own := [("wheel", 2)]) rfl nd (di_rng1 (by rfl) D.z_range (da_cons (de_attr rfl (at_wheels D) (dp_var (pv 1)) (by rfl)) da_nil)) (blkOk_by (own := [("wheel", 2)]) (N := ["self", "season", "wheel"]) (sc := defScope s_Live_show) (by decide +kernel)) (fun _ _ _ _ _ => (dg_name (pg_name (i := 2) nd rfl (by first | exact Or.inl rfl | exact Or.inr rfl)))) (fun _ _ _ _ _ => dts_nil) (fun _ _ _ _ _ => de_non)) (by decide))).keep.peek pa_nil)) cs_tuple) rfl))
    (dss_one (ds_if (dt_val (de_attr rfl (at_is_possible D) (dp_var (pv 0)) (by rfl))) (dss_one (ds_fput rfl (at_sure D) (ps_fld (pv 0) (de_call (ok_sure_sides D) (hr.mono (by decide)) (by rfl) D.g_sure_sides D.F_sure_sides.kp D.b_sure_sides tk (da_cons (de_var (pv 1)) (da_cons (de_attr rfl (at_days D) (dp_var (pv 1)) (by rfl)) da_nil))) rfl))) dss_nil)))))
theorem ok_Live_show (D : Dfs K mg) : FnOk P w K mg base (L2.CX P w) 12 D.f_Live_show D.fd_Live_show ["self", "season"] (spM ⟨K, D.cl⟩ 2 true false m_Live_show_k70) :=
  fun_ok2 (cl := D.cl) (n := 2) (fm := m_Live_show_k70) D.F_Live_show sc_Live_show (by decide) (by rfl) (by unfold m_Live_show_k70; rfl) (bd_Live_show D)
theorem bd_Live_init (D : Dfs K mg) (cdv : Value) (A : Around) (outer : List Env) (s : Shared) (H : Hp) (E : XK) (π : Nat → Option Pin) (hr : Room 12 (A.deeper (envOfC "Live.__init__" (defScope s_Live_init) s.heap.objs.size D.f_Live_init cdv))) : PSs (cxOf (L2.CX P w) P w K mg base ["self", "season"] "Live.__init__" (defScope s_Live_init) D.f_Live_init cdv A outer s H E) (defBody s_Live_init) (TMs ⟨K, D.cl⟩ π (fun cls d _ H => E cls d H) b_Live_init_k70) := by
  have nd := sc_Live_init.nd
  have tk : Takes (cxOf (L2.CX P w) P w K mg base ["self", "season"] "Live.__init__" (defScope s_Live_init) D.f_Live_init cdv A outer s H E) (fun cls d _ H => E cls d H) := takes_of rfl rfl rfl rfl
  have hp : PassesOwn (model P w) (cxOf (L2.CX P w) P w K mg base ["self", "season"] "Live.__init__" (defScope s_Live_init) D.f_Live_init cdv A outer s H E).A (cxOf (L2.CX P w) P w K mg base ["self", "season"] "Live.__init__" (defScope s_Live_init) D.f_Live_init cdv A outer s H E).env (cxOf (L2.CX P w) P w K mg base ["self", "season"] "Live.__init__" (defScope s_Live_init) D.f_Live_init cdv A outer s H E).xe := passes_of rfl
  unfold b_Live_init_k70
  exact (dss_cons (ds_fput rfl (at_past D) (ps_fld (pv 0) (de_tup da_nil) rfl))
    (dss_one (ds_expr (de_methIo (pv 0) D.cls_Live D.me_Live_show (ok_Live_show D) (hr.mono (by decide)) D.b_Live_show rfl (by decide +kernel) tk (da_cons (de_var (pv 1)) da_nil)))))
theorem ok_Live_init (D : Dfs K mg) : FnOk P w K mg base (L2.CX P w) 13 D.f_Live_init D.fd_Live_init ["self", "season"] (spM ⟨K, D.cl⟩ 2 true false m_Live_init_k70) :=
  fun_ok2 (cl := D.cl) (n := 2) (fm := m_Live_init_k70) D.F_Live_init sc_Live_init (by decide) (by rfl) (by unfold m_Live_init_k70; rfl) (bd_Live_init D)
theorem bd_Live_go_on (D : Dfs K mg) (cdv : Value) (A : Around) (outer : List Env) (s : Shared) (H : Hp) (E : XK) (π : Nat → Option Pin) (hr : Room 12 (A.deeper (envOfC "Live.go_on" (defScope s_Live_go_on) s.heap.objs.size D.f_Live_go_on cdv))) : PSs (cxOf (L2.CX P w) P w K mg base ["self", "season"] "Live.go_on" (defScope s_Live_go_on) D.f_Live_go_on cdv A outer s H E) (defBody s_Live_go_on) (TMs ⟨K, D.cl⟩ π (fun cls d _ H => E cls d H) b_Live_go_on_k70) := by
  have nd := sc_Live_go_on.nd
  have tk : Takes (cxOf (L2.CX P w) P w K mg base ["self", "season"] "Live.go_on" (defScope s_Live_go_on) D.f_Live_go_on cdv A outer s H E) (fun cls d _ H => E cls d H) := takes_of rfl rfl rfl rfl
  have hp : PassesOwn (model P w) (cxOf (L2.CX P w) P w K mg base ["self", "season"] "Live.go_on" (defScope s_Live_go_on) D.f_Live_go_on cdv A outer s H E).A (cxOf (L2.CX P w) P w K mg base ["self", "season"] "Live.go_on" (defScope s_Live_go_on) D.f_Live_go_on cdv A outer s H E).env (cxOf (L2.CX P w) P w K mg base ["self", "season"] "Live.go_on" (defScope s_Live_go_on) D.f_Live_go_on cdv A outer s H E).xe := passes_of rfl
  unfold b_Live_go_on_k70
  exact (dss_cons (ds_fput rfl (at_past D) (ps_fld (pv 0) (de_tup (da_star rfl (de_attr rfl (at_past D) (dp_var (pv 0)) (by rfl)).peek (da_cons (de_attr rfl (at_season D) (dp_var (pv 0)) (by rfl)) da_nil) (StX.pa_star (de_attr rfl (at_past D) (dp_var (pv 0)) (by rfl)).peek (da_cons (de_attr rfl (at_season D) (dp_var (pv 0)) (by rfl)) da_nil)))) rfl))
    (dss_one (ds_expr (de_methIo (pv 0) D.cls_Live D.me_Live_show (ok_Live_show D) (hr.mono (by decide)) D.b_Live_show rfl (by decide +kernel) tk (da_cons (de_var (pv 1)) da_nil)))))
theorem ok_Live_go_on (D : Dfs K mg) : FnOk P w K mg base (L2.CX P w) 13 D.f_Live_go_on D.fd_Live_go_on ["self", "season"] (spM ⟨K, D.cl⟩ 2 true false m_Live_go_on_k70) :=
  fun_ok2 (cl := D.cl) (n := 2) (fm := m_Live_go_on_k70) D.F_Live_go_on sc_Live_go_on (by decide) (by rfl) (by unfold m_Live_go_on_k70; rfl) (bd_Live_go_on D)
theorem bd_Live_undo (D : Dfs K mg) (cdv : Value) (A : Around) (outer : List Env) (s : Shared) (H : Hp) (E : XK) (π : Nat → Option Pin) (hr : Room 12 (A.deeper (envOfC "Live.undo" (defScope s_Live_undo) s.heap.objs.size D.f_Live_undo cdv))) : PSs (cxOf (L2.CX P w) P w K mg base ["self", "season"] "Live.undo" (defScope s_Live_undo) D.f_Live_undo cdv A outer s H E) (defBody s_Live_undo) (TMs ⟨K, D.cl⟩ π (fun cls d _ H => E cls d H) b_Live_undo_k70) := by
  have nd := sc_Live_undo.nd
  have tk : Takes (cxOf (L2.CX P w) P w K mg base ["self", "season"] "Live.undo" (defScope s_Live_undo) D.f_Live_undo cdv A outer s H E) (fun cls d _ H => E cls d H) := takes_of rfl rfl rfl rfl
  have hp : PassesOwn (model P w) (cxOf (L2.CX P w) P w K mg base ["self", "season"] "Live.undo" (defScope s_Live_undo) D.f_Live_undo cdv A outer s H E).A (cxOf (L2.CX P w) P w K mg base ["self", "season"] "Live.undo" (defScope s_Live_undo) D.f_Live_undo cdv A outer s H E).env (cxOf (L2.CX P w) P w K mg base ["self", "season"] "Live.undo" (defScope s_Live_undo) D.f_Live_undo cdv A outer s H E).xe := passes_of rfl
  unfold b_Live_undo_k70
  exact (dss_cons (ds_if (dt_cmp (op_eqD hr.units) os_eq (de_call1 (pe_callB cr_lenA (by rfl) D.z_len (by decide +kernel) (pa_cons (de_attr rfl (at_past D) (dp_var (pv 0)) (by rfl)).peek pa_nil)) cs_len) (de_int).peek (nomark _)) (dss_one (ds_ret de_bl)) dss_nil)
    (dss_cons (ds_asgV (ps_set (i := 1) nd rfl (by first | exact Or.inl rfl | exact Or.inr rfl) (de_tOp (pe_ix ix_seq (de_attr rfl (at_past D) (dp_var (pv 0)) (by rfl)) (de_un un_neg us_neg (de_int).peek).peek (fun _ _ => rfl)) os_ix)))
    (dss_cons (ds_fput rfl (at_past D) (ps_fld (pv 0) (de_slE rfl (pe_slice sl_all (de_attr rfl (at_past D) (dp_var (pv 0)) (by rfl)) do_none (do_some (de_un un_neg us_neg (de_int).peek)))) rfl))
    (dss_cons (ds_expr (de_methIo (pv 0) D.cls_Live D.me_Live_show (ok_Live_show D) (hr.mono (by decide)) D.b_Live_show rfl (by decide +kernel) tk (da_cons (de_var (pv 1)) da_nil)))
    (dss_one (ds_ret de_bl))))))
theorem ok_Live_undo (D : Dfs K mg) : FnOk P w K mg base (L2.CX P w) 13 D.f_Live_undo D.fd_Live_undo ["self"] (spM ⟨K, D.cl⟩ 1 true false m_Live_undo_k70) :=
  fun_ok2 (cl := D.cl) (n := 1) (fm := m_Live_undo_k70) D.F_Live_undo sc_Live_undo (by decide) (by rfl) (by unfold m_Live_undo_k70; rfl) (bd_Live_undo D)
theorem bd_Live_look (D : Dfs K mg) (cdv : Value) (A : Around) (outer : List Env) (s : Shared) (H : Hp) (E : XK) (π : Nat → Option Pin) (hr : Room 13 (A.deeper (envOfC "Live.look" (defScope s_Live_look) s.heap.objs.size D.f_Live_look cdv))) : PSs (cxOf (L2.CX P w) P w K mg base ["self", "day", "wheel", "side", "look"] "Live.look" (defScope s_Live_look) D.f_Live_look cdv A outer s H E) (defBody s_Live_look) (TMs ⟨K, D.cl⟩ π (fun cls d _ H => E cls d H) b_Live_look_k70) := by
  have nd := sc_Live_look.nd
  have tk : Takes (cxOf (L2.CX P w) P w K mg base ["self", "day", "wheel", "side", "look"] "Live.look" (defScope s_Live_look) D.f_Live_look cdv A outer s H E) (fun cls d _ H => E cls d H) := takes_of rfl rfl rfl rfl
  have hp : PassesOwn (model P w) (cxOf (L2.CX P w) P w K mg base ["self", "day", "wheel", "side", "look"] "Live.look" (defScope s_Live_look) D.f_Live_look cdv A outer s H E).A (cxOf (L2.CX P w) P w K mg base ["self", "day", "wheel", "side", "look"] "Live.look" (defScope s_Live_look) D.f_Live_look cdv A outer s H E).env (cxOf (L2.CX P w) P w K mg base ["self", "day", "wheel", "side", "look"] "Live.look" (defScope s_Live_look) D.f_Live_look cdv A outer s H E).xe := passes_of rfl
  unfold b_Live_look_k70
  exact (dss_cons (ds_asgV (ps_set (i := 4) nd rfl (by first | exact Or.inl rfl | exact Or.inr rfl) (de_tup (da_cons (de_var (pv 1)) (da_cons (de_var (pv 2)) (da_cons (de_var (pv 3)) da_nil))))))
    (dss_cons (ds_if (dt_not (dt_val (de_call (ok_is_look D) (hr.mono (by decide)) (by rfl) D.g_is_look D.F_is_look.kp D.b_is_look tk (da_cons (de_var (pv 4)) (da_cons (de_attr rfl (at_rota D) (de_attr rfl (at_season D) (dp_var (pv 0)) (by rfl)).peek (by rfl)) (da_cons (de_attr rfl (at_days D) (de_attr rfl (at_season D) (dp_var (pv 0)) (by rfl)).peek (by rfl)) da_nil)))))) (dss_one ds_never) dss_nil)
    (dss_cons (ds_expr (de_methIo (pv 0) D.cls_Live D.me_Live_go_on (ok_Live_go_on D) (hr.mono (by decide)) D.b_Live_go_on rfl (by decide +kernel) tk (da_cons (de_meth (de_attr rfl (at_season D) (dp_var (pv 0)) (by rfl)) D.cls_Season D.me_Season_seen (ok_Season_seen D) (hr.mono (by decide)) D.b_Season_seen rfl (by decide +kernel) (fun _ _ _ _ _ h => h) tk (da_cons ((dn_lst (da_cons (de_var (pv 4)) da_nil))).keep da_nil)) da_nil)))
    (dss_one (ds_ret (de_attr rfl (at_is_possible D) (dp_var (pv 0)) (by rfl)))))))
theorem ok_Live_look (D : Dfs K mg) : FnOk P w K mg base (L2.CX P w) 14 D.f_Live_look D.fd_Live_look ["self", "day", "wheel", "side"] (spM ⟨K, D.cl⟩ 4 true false m_Live_look_k70) :=
  fun_ok2 (cl := D.cl) (n := 4) (fm := m_Live_look_k70) D.F_Live_look sc_Live_look (by decide) (by rfl) (by unfold m_Live_look_k70; rfl) (bd_Live_look D)
theorem bd_Live_several (D : Dfs K mg) (cdv : Value) (A : Around) (outer : List Env) (s : Shared) (H : Hp) (E : XK) (π : Nat → Option Pin) (hr : Room 13 (A.deeper (envOfC "Live.several" (defScope s_Live_several) s.heap.objs.size D.f_Live_several cdv))) : PSs (cxOf (L2.CX P w) P w K mg base ["self", "looks", "look"] "Live.several" (defScope s_Live_several) D.f_Live_several cdv A outer s H E) (defBody s_Live_several) (TMs ⟨K, D.cl⟩ π (fun cls d _ H => E cls d H) b_Live_several_k70) := by
  have nd := sc_Live_several.nd
  have tk : Takes (cxOf (L2.CX P w) P w K mg base ["self", "looks", "look"] "Live.several" (defScope s_Live_several) D.f_Live_several cdv A outer s H E) (fun cls d _ H => E cls d H) := takes_of rfl rfl rfl rfl
  have hp : PassesOwn (model P w) (cxOf (L2.CX P w) P w K mg base ["self", "looks", "look"] "Live.several" (defScope s_Live_several) D.f_Live_several cdv A outer s H E).A (cxOf (L2.CX P w) P w K mg base ["self", "looks", "look"] "Live.several" (defScope s_Live_several) D.f_Live_several cdv A outer s H E).env (cxOf (L2.CX P w) P w K mg base ["self", "looks", "look"] "Live.several" (defScope s_Live_several) D.f_Live_several cdv A outer s H E).xe := passes_of rfl
  unfold b_Live_several_k70
  exact (dss_cons (ds_for hp rfl (di_seq rfl (de_var (pv 1))) (dg_name (pg_name (i := 2) nd rfl (by first | exact Or.inl rfl | exact Or.inr rfl))) (dss_one (ds_if (dt_not (dt_val (de_call (ok_is_look D) (hr.mono (by decide)) (by rfl) D.g_is_look D.F_is_look.kp D.b_is_look tk (da_cons (de_var (pv 2)) (da_cons (de_attr rfl (at_rota D) (de_attr rfl (at_season D) (dp_var (pv 0)) (by rfl)).peek (by rfl)) (da_cons (de_attr rfl (at_days D) (de_attr rfl (at_season D) (dp_var (pv 0)) (by rfl)).peek (by rfl)) da_nil)))))) (dss_one ds_never) dss_nil)))
    (dss_cons (ds_if (dt_cmp op_gt os_gt (de_call1 (pe_callB cr_lenA (by rfl) D.z_len (by decide +kernel) (pa_cons (dp_var (pv 1)) pa_nil)) cs_len) (de_int).peek (nomark _)) (dss_one (ds_expr (de_methIo (pv 0) D.cls_Live D.me_Live_go_on (ok_Live_go_on D) (hr.mono (by decide)) D.b_Live_go_on rfl (by decide +kernel) tk (da_cons (de_meth (de_attr rfl (at_season D) (dp_var (pv 0)) (by rfl)) D.cls_Season D.me_Season_seen (ok_Season_seen D) (hr.mono (by decide)) D.b_Season_seen rfl (by decide +kernel) (fun _ _ _ _ _ h => h) tk (da_cons (de_var (pv 1)) da_nil)) da_nil)))) dss_nil)
    (dss_one (ds_ret (de_attr rfl (at_is_possible D) (dp_var (pv 0)) (by rfl))))))
theorem ok_Live_several (D : Dfs K mg) : FnOk P w K mg base (L2.CX P w) 14 D.f_Live_several D.fd_Live_several ["self", "looks"] (spM ⟨K, D.cl⟩ 2 true false m_Live_several_k70) :=
  fun_ok2 (cl := D.cl) (n := 2) (fm := m_Live_several_k70) D.F_Live_several sc_Live_several (by decide) (by rfl) (by unfold m_Live_several_k70; rfl) (bd_Live_several D)
theorem bd_Live_follow (D : Dfs K mg) (cdv : Value) (A : Around) (outer : List Env) (s : Shared) (H : Hp) (E : XK) (π : Nat → Option Pin) (hr : Room 13 (A.deeper (envOfC "Live.follow" (defScope s_Live_follow) s.heap.objs.size D.f_Live_follow cdv))) : PSs (cxOf (L2.CX P w) P w K mg base ["self", "season"] "Live.follow" (defScope s_Live_follow) D.f_Live_follow cdv A outer s H E) (defBody s_Live_follow) (TMs ⟨K, D.cl⟩ π (fun cls d _ H => E cls d H) b_Live_follow_k70) := by
  have nd := sc_Live_follow.nd
  have tk : Takes (cxOf (L2.CX P w) P w K mg base ["self", "season"] "Live.follow" (defScope s_Live_follow) D.f_Live_follow cdv A outer s H E) (fun cls d _ H => E cls d H) := takes_of rfl rfl rfl rfl
  have hp : PassesOwn (model P w) (cxOf (L2.CX P w) P w K mg base ["self", "season"] "Live.follow" (defScope s_Live_follow) D.f_Live_follow cdv A outer s H E).A (cxOf (L2.CX P w) P w K mg base ["self", "season"] "Live.follow" (defScope s_Live_follow) D.f_Live_follow cdv A outer s H E).env (cxOf (L2.CX P w) P w K mg base ["self", "season"] "Live.follow" (defScope s_Live_follow) D.f_Live_follow cdv A outer s H E).xe := passes_of rfl
  unfold b_Live_follow_k70
  exact (dss_one (ds_expr (de_methIo (pv 0) D.cls_Live D.me_Live_go_on (ok_Live_go_on D) (hr.mono (by decide)) D.b_Live_go_on rfl (by decide +kernel) tk (da_cons (de_var (pv 1)) da_nil))))
theorem ok_Live_follow (D : Dfs K mg) : FnOk P w K mg base (L2.CX P w) 14 D.f_Live_follow D.fd_Live_follow ["self", "season"] (spM ⟨K, D.cl⟩ 2 true false m_Live_follow_k70) :=
  fun_ok2 (cl := D.cl) (n := 2) (fm := m_Live_follow_k70) D.F_Live_follow sc_Live_follow (by decide) (by rfl) (by unfold m_Live_follow_k70; rfl) (bd_Live_follow D)
theorem bd_law (D : Dfs K mg) (cdv : Value) (A : Around) (outer : List Env) (s : Shared) (H : Hp) (E : XK) (π : Nat → Option Pin) (hr : Room 14 (A.deeper (envOfC "law" (defScope s_law) s.heap.objs.size D.f_law cdv))) : PSs (cxOf (L2.CX P w) P w K mg base ["_law_script", "_law_k", "_law_box_here", "_law_some", "_law_other", "_law_first", "_law_second", "_law_live", "_law_past", "_law_turn", "_law_form", "_law_seen", "_law_fresh", "_law_day", "_law_up"] "law" (defScope s_law) D.f_law cdv A outer s H E) (defBody s_law) (TMs ⟨K, D.cl⟩ π (fun cls d _ H => E cls d H) b_law) := by
  have nd := sc_law.nd
  have tk : Takes (cxOf (L2.CX P w) P w K mg base ["_law_script", "_law_k", "_law_box_here", "_law_some", "_law_other", "_law_first", "_law_second", "_law_live", "_law_past", "_law_turn", "_law_form", "_law_seen", "_law_fresh", "_law_day", "_law_up"] "law" (defScope s_law) D.f_law cdv A outer s H E) (fun cls d _ H => E cls d H) := takes_of rfl rfl rfl rfl
  have hp : PassesOwn (model P w) (cxOf (L2.CX P w) P w K mg base ["_law_script", "_law_k", "_law_box_here", "_law_some", "_law_other", "_law_first", "_law_second", "_law_live", "_law_past", "_law_turn", "_law_form", "_law_seen", "_law_fresh", "_law_day", "_law_up"] "law" (defScope s_law) D.f_law cdv A outer s H E).A (cxOf (L2.CX P w) P w K mg base ["_law_script", "_law_k", "_law_box_here", "_law_some", "_law_other", "_law_first", "_law_second", "_law_live", "_law_past", "_law_turn", "_law_form", "_law_seen", "_law_fresh", "_law_day", "_law_up"] "law" (defScope s_law) D.f_law cdv A outer s H E).env (cxOf (L2.CX P w) P w K mg base ["_law_script", "_law_k", "_law_box_here", "_law_some", "_law_other", "_law_first", "_law_second", "_law_live", "_law_past", "_law_turn", "_law_form", "_law_seen", "_law_fresh", "_law_day", "_law_up"] "law" (defScope s_law) D.f_law cdv A outer s H E).xe := passes_of rfl
  unfold b_law st_law_0 st_law_1 lp_law_2 lp_law_1 lp_law_0
  exact (dss_cons (ds_for hp rfl (di_rng1 (by rfl) D.z_range (da_cons (de_mm2 (pe_callB (call_max2 rfl) (by rfl) D.z_max (by decide +kernel) (pa_cons de_int (pa_cons (de_mm2 (pe_callB (call_min2 rfl) (by rfl) D.z_min (by decide +kernel) (pa_cons de_int (pa_cons (de_call1 (pe_callB cr_lenA (by rfl) D.z_len (by decide +kernel) (pa_cons (dp_var (pv 0)) pa_nil)) cs_len) pa_nil)))) pa_nil)))) da_nil)) (dg_name (pg_name (i := 1) nd rfl (by first | exact Or.inl rfl | exact Or.inr rfl))) (dss_cons (ds_asgN (ps_set (i := 2) nd rfl (by first | exact Or.inl rfl | exact Or.inr rfl) (dn_call (ok_law_box D) (hr.mono (by decide)) (by rfl) D.g_law_box D.F_law_box.kp D.b_law_box tk (da_cons (de_var (pv 0)) (da_cons (de_var (pv 1)) (da_cons de_int da_nil))))))
    (dss_cons (ds_par (ps_par (i := 3) (j := 4) (by rfl) nd rfl rfl (by decide) rfl rfl (dk_val (de_callIo (ok_law_season D) (hr.mono (by decide)) (by rfl) D.g_law_season D.F_law_season.kp D.b_law_season tk (pv 2) (da_cons de_int da_nil)) (dk_val (de_callIo (ok_law_season D) (hr.mono (by decide)) (by rfl) D.g_law_season D.F_law_season.kp D.b_law_season tk (pv 2) (da_cons de_int da_nil)) dk_nil)) (by rfl)))
    (dss_cons (ds_par (ps_par (i := 5) (j := 6) (by rfl) nd rfl rfl (by decide) rfl rfl (dk_val (de_call (ok_law_of D) (hr.mono (by decide)) (by rfl) D.g_law_of D.F_law_of.kp D.b_law_of tk (da_cons (de_var (pv 3)) da_nil)) (dk_val (de_call (ok_law_of D) (hr.mono (by decide)) (by rfl) D.g_law_of D.F_law_of.kp D.b_law_of tk (da_cons (de_var (pv 4)) da_nil)) dk_nil)) (by rfl)))
    (dss_cons (ds_par (ps_par (i := 7) (j := 8) (by rfl) nd rfl rfl (by decide) rfl rfl (dk_own (dn_make D.mk_Live (ok_Live_init D) (hr.mono (by decide)) (by rfl) D.gC_Live D.b_Live_init rfl (fun _ _ _ _ _ h => h) tk (da_cons (de_var (pv 5)) da_nil)) (dk_own (dn_lst da_nil) dk_nil)) (by rfl)))
    (dss_cons (ds_for hp rfl (di_rng1 (by rfl) D.z_range (da_cons (de_callIo (ok_law_pick D) (hr.mono (by decide)) (by rfl) D.g_law_pick D.F_law_pick.kp D.b_law_pick tk (pv 2) (da_cons ((dn_lst (da_cons de_int (da_cons de_int da_nil)))).keep da_nil)) da_nil)) (dg_name (pg_name (i := 9) nd rfl (by first | exact Or.inl rfl | exact Or.inr rfl))) (dss_cons (ds_par (ps_par (i := 10) (j := 11) (by rfl) nd rfl rfl (by decide) rfl rfl (dk_val (de_callIo (ok_law_take D) (hr.mono (by decide)) (by rfl) D.g_law_take D.F_law_take.kp D.b_law_take tk (pv 2) (da_cons de_int da_nil)) (dk_val (de_callIo (ok_law_look_at D) (hr.mono (by decide)) (by rfl) D.g_law_look_at D.F_law_look_at.kp D.b_law_look_at tk (pv 7) da_nil) dk_nil)) (by rfl)))
    (dss_cons (ds_if (dt_cmp (op_eqD hr.units) os_eq (de_var (pv 10)) (de_int).peek (nomark _)) (dss_cons (ds_if (dt_cmp (op_neD hr.units) os_ne (de_methIo0 (pv 7) D.cls_Live D.me_Live_undo (ok_Live_undo D) (hr.mono (by decide)) D.b_Live_undo rfl (by decide +kernel) tk) (de_nil (pe_cmpR (op_neLenD hr.units) (dp_var (pv 8)) (pe_lst pa_nil) (nomark _)) os_neLen).peek (nomark _)) (dss_one (ds_ret de_bl)) dss_nil)
    (dss_cons (ds_if (PW.pt (dw_and (dt_nil (pt_cmpR (op_neLenD hr.units) (dp_var (pv 8)) (pe_lst pa_nil) (nomark _)) os_neLen) (dw_and1 (dt_cmpO (op_neTD rfl (ok_Season_eq D) D.b_Season_eq (hr.mono (by decide)) D.me_Season_eq.at_ D.me_Season_eq.fn) (os_neT rfl) (de_callIo (ok_law_look_at D) (hr.mono (by decide)) (by rfl) D.g_law_look_at D.F_law_look_at.kp D.b_law_look_at tk (pv 7) da_nil) (de_ixV (pe_ix ix_seq (pv 8) (de_un un_neg us_neg (de_int).peek) (fun _ _ => rfl))) (nomark _))))) (dss_one (ds_ret de_bl)) dss_nil)
    (dss_cons (ds_asgN (ps_set (i := 8) nd rfl (by first | exact Or.inl rfl | exact Or.inr rfl) (dn_slE rfl (pe_slice sl_all (de_var (pv 8)) do_none (do_some (de_un un_neg us_neg (de_int).peek))))))
    (dss_one ds_cont)))) dss_nil)
    (dss_cons (ds_asgV (ps_set (i := 12) nd rfl (by first | exact Or.inl rfl | exact Or.inr rfl) (de_callIo (ok_law_pick D) (hr.mono (by decide)) (by rfl) D.g_law_pick D.F_law_pick.kp D.b_law_pick tk (pv 2) (da_cons ((dn_lst (da_cons (de_var (pv 5)) (da_cons (de_var (pv 6)) (da_cons (de_attr rfl (at_season D) (dp_var (pv 7)) (by rfl)) da_nil))))).keep da_nil))))
    (dss_cons (ds_if (PW.pt (dw_and (dt_cmp (op_eqD hr.units) os_eq (de_var (pv 10)) (de_int).peek (nomark _)) (dw_and1 (dt_cmp op_notN os_notN (de_methIo (pv 7) D.cls_Live D.me_Live_follow (ok_Live_follow D) (hr.mono (by decide)) D.b_Live_follow rfl (by decide +kernel) tk (da_cons (de_var (pv 12)) da_nil)) (de_non).peek (nomark _))))) (dss_one (ds_ret de_bl)) dss_nil)
    (dss_cons (ds_if (PW.pt (dw_and (dt_cmp (op_eqD hr.units) os_eq (de_var (pv 10)) (de_int).peek (nomark _)) (dw_and1 (dt_cmp (op_notInA hr.units) os_notInA (de_methIo (pv 7) D.cls_Live D.me_Live_several (ok_Live_several D) (hr.mono (by decide)) D.b_Live_several rfl (by decide +kernel) tk (da_cons ((dn_lst (da_cons (de_tup (da_cons de_int (da_cons de_int (da_cons de_int da_nil)))) (da_cons (de_tup (da_cons de_int (da_cons de_int (da_cons de_int da_nil)))) da_nil)))).keep da_nil)) (de_tup (da_cons de_bl (da_cons de_bl da_nil))).peek (by rfl))))) (dss_one (ds_ret de_bl)) dss_nil)
    (dss_cons (ds_par (ps_par (i := 13) (j := 14) (by rfl) nd rfl rfl (by decide) rfl rfl (dk_val (de_callIo (ok_law_take D) (hr.mono (by decide)) (by rfl) D.g_law_take D.F_law_take.kp D.b_law_take tk (pv 2) (da_cons de_int da_nil)) (dk_val (de_callIo (ok_law_take D) (hr.mono (by decide)) (by rfl) D.g_law_take D.F_law_take.kp D.b_law_take tk (pv 2) (da_cons de_int da_nil)) dk_nil)) (by rfl)))
    (dss_cons (ds_if (PW.pt (dw_and (dt_cmp op_gt os_gt (de_var (pv 10)) (de_int).peek (nomark _)) (dw_and1 (dt_cmp (op_notInA hr.units) os_notInA (de_methIo (pv 7) D.cls_Live D.me_Live_look (ok_Live_look D) (hr.mono (by decide)) D.b_Live_look rfl (by decide +kernel) tk (da_cons (de_var (pv 13)) (da_cons de_int (da_cons (de_var (pv 14)) da_nil)))) (de_tup (da_cons de_bl (da_cons de_bl da_nil))).peek (by rfl))))) (dss_one (ds_ret de_bl)) dss_nil)
    (dss_cons (ds_expr (de_append rfl (pe_bm PySem.F.plainAttrs_list PySem.F.slot_list_append PySem.F.type_list_append mt_append (pv 8) (pa_cons (de_var (pv 11)) pa_nil))))
    (dss_one (ds_if (dt_cmp (op_neD hr.units) os_ne (de_own1Io (ok := okLen) (pe_callB (cr_lenO (ok_Live_len D) D.b_Live_len D.me_Live_len (hr.mono (by decide))) (by rfl) D.z_len (by decide +kernel) (pa_cons (pv 7) pa_nil)) rfl len_v) (de_call1 (pe_callB cr_lenA (by rfl) D.z_len (by decide +kernel) (pa_cons (dp_var (pv 8)) pa_nil)) cs_len).peek (nomark _)) (dss_one (ds_ret de_bl)) dss_nil)))))))))))
    (dss_cons (ds_for hp rfl (di_seq rfl ((dn_stepL rfl (de_var (pv 8)) (de_bin op_sub os_sub de_int (de_int).peek))).keep) (dg_name (pg_name (i := 11) nd rfl (by first | exact Or.inl rfl | exact Or.inr rfl))) (dss_one (ds_if (PW.pt (dw_or (dt_cmp op_notBl os_notB (de_methIo0 (pv 7) D.cls_Live D.me_Live_undo (ok_Live_undo D) (hr.mono (by decide)) D.b_Live_undo rfl (by decide +kernel) tk) (de_bl).peek (nomark _)) (dw_or1 (dt_cmpO (op_neTD rfl (ok_Season_eq D) D.b_Season_eq (hr.mono (by decide)) D.me_Season_eq.at_ D.me_Season_eq.fn) (os_neT rfl) (de_callIo (ok_law_look_at D) (hr.mono (by decide)) (by rfl) D.g_law_look_at D.F_law_look_at.kp D.b_law_look_at tk (pv 7) da_nil) (de_var (pv 11)) (nomark _))))) (dss_one (ds_ret de_bl)) dss_nil)))
    (dss_one (ds_if (PW.pt (dw_or (dt_cmp op_notBl os_notB (de_methIo0 (pv 7) D.cls_Live D.me_Live_undo (ok_Live_undo D) (hr.mono (by decide)) D.b_Live_undo rfl (by decide +kernel) tk) (de_bl).peek (nomark _)) (dw_or1 (dt_cmpO (op_ownNe (ok_Season_eq D) D.b_Season_eq (hr.mono (by decide)) (mro_obj D.mk_Season.makes) D.ne_Season D.me_Season_eq.at_ D.me_Season_eq.fn) (os_own true rfl) (de_attr rfl (at_season D) (dp_var (pv 7)) (by rfl)) (de_var (pv 5)) (nomark _))))) (dss_one (ds_ret de_bl)) dss_nil)))))))))
    (dss_one (ds_ret de_bl)))
theorem ok_law (D : Dfs K mg) : FnOk P w K mg base (L2.CX P w) 15 D.f_law D.fd_law ["_law_script"] (spM ⟨K, D.cl⟩ 1 false false m_law) :=
  fun_ok2 (cl := D.cl) (n := 1) (fm := m_law) D.F_law sc_law (by decide) (by rfl) (by unfold m_law; rfl) (bd_law D)
end
end Dl
namespace Dl
open PySem PySem.Spec PyProof.Rows L2
/-! ### steps of a mirror -/
abbrev vl (d : Dt) : Option Sl := some (.val d)
abbrev ow (d : Dt) : Option Sl := some (.own false d)
abbrev io (d : Dt) : Option Sl := some (.own true d)
abbrev nD (n : Nat) : Dt := .int (n : Int)
section
variable {α β : Type} {ρ ρ' ρ1 ρ2 ρ3 : En} {s t : En → So} {o : So} {m ma mb : Mi Dt} {ms : Mi (List Dt)} {d d1 d2 x y z : Dt} {ds es : List Dt} {i j n k : Nat} {f : List Dt → Fo} {c c' : Mi Bool} {b : Bool} {Q : So → Prop}
theorem seq_nx (h : s ρ = .nx ρ') (k : t ρ' = o) : sSeq s t ρ = o := by unfold sSeq; rw [h]; exact k
theorem seq_rt (h : s ρ = .rt d ρ') : sSeq s t ρ = .rt d ρ' := by unfold sSeq; rw [h]
theorem set_ok (h : m ρ = .ok d ρ1) (k : setSl i (.val d) ρ1 = some ρ2) : sSet i m ρ = .nx ρ2 := by unfold sSet sBind; rw [h]; dsimp only; unfold sPut; rw [k]
theorem setN_ok (h : m ρ = .ok d ρ1) (k : setSl i (.own false d) ρ1 = some ρ2) : sSetN i m ρ = .nx ρ2 := by unfold sSetN sBind; rw [h]; dsimp only; unfold sPut; rw [k]
theorem ret_ok (h : m ρ = .ok d ρ1) : sRet m ρ = .rt d ρ1 := by unfold sRet sBind; rw [h]
theorem drop_ok (h : m ρ = .ok d ρ1) : sDrop m ρ = .nx ρ1 := by unfold sDrop sBind; rw [h]
theorem if_t (h : c ρ = .ok true ρ1) (k : s ρ1 = o) : sIf c s t ρ = o := by unfold sIf sBind; rw [h]; exact k
theorem if_f (h : c ρ = .ok false ρ1) (k : t ρ1 = o) : sIf c s t ρ = o := by unfold sIf sBind; rw [h]; exact k
theorem asg_ok {g : Dt → En → Option En} (h : m ρ = .ok d ρ1) (k : g d ρ1 = some ρ2) : sAsg m g ρ = .nx ρ2 := by unfold sAsg sBind; rw [h]; dsimp only; rw [k]
theorem pars_ok {is : List Nat} {ks : List Bool} (h : ms ρ = .ok ds ρ1) (k : putSls is ks ds ρ1 = some ρ2) : sPars is ks ms ρ = .nx ρ2 := by unfold sPars sBind; rw [h]; dsimp only; rw [k]
theorem for_ok {mi : Mi (List Dt)} {g : Dt → En → Option En} {bd : En → So} (h : mi ρ = .ok ds ρ1) (k : forGo g bd ds ρ1 = o) : sFor mi g bd ρ = o := by unfold sFor sBind; rw [h]; exact k
theorem bind_ok {a : α} {mm : Mi α} {k : α → Mi β} {r : Ou β} (h : mm ρ = .ok a ρ1) (q : k a ρ1 = r) : mBind mm k ρ = r := by unfold mBind; rw [h]; exact q
theorem m2_ok {f : Dt → Dt → Option Dt} (ha : ma ρ = .ok x ρ1) (hb : mb ρ1 = .ok y ρ2) (hf : f x y = some z) : m2 f ma mb ρ = .ok z ρ2 := by unfold m2 mBind; rw [ha]; dsimp only; rw [hb]; dsimp only; rw [hf]; rfl
theorem m1_ok {f : Dt → Option Dt} (ha : ma ρ = .ok x ρ1) (hf : f x = some z) : m1 f ma ρ = .ok z ρ1 := by unfold m1 mBind; rw [ha]; dsimp only; rw [hf]; rfl
theorem m1N_ok {f : Dt → Option (List Dt)} (ha : ma ρ = .ok x ρ1) (hf : f x = some es) : m1N f ma ρ = .ok (.lst es) ρ1 := by unfold m1N mBind; rw [ha]; dsimp only; rw [hf]; rfl
theorem cons_ok (h : m ρ = .ok d ρ1) (k : ms ρ1 = .ok ds ρ2) : mCons m ms ρ = .ok (d :: ds) ρ2 := by unfold mCons mBind; rw [h]; dsimp only; rw [k]; rfl
theorem tup_ok (h : ms ρ = .ok ds ρ1) (hl : ds.length ≤ sizeLine) : mTup ms ρ = .ok (.tup ds) ρ1 := by unfold mTup mBind; rw [h]; dsimp only; rw [if_pos hl]; rfl
theorem lst_ok (h : ms ρ = .ok ds ρ1) (hl : ds.length ≤ sizeLine) : mLst ms ρ = .ok (.lst ds) ρ1 := by unfold mLst mBind; rw [h]; dsimp only; rw [if_pos hl]; rfl
theorem tb_ok (h : m ρ = .ok (.bl b) ρ1) : mB m ρ = .ok b ρ1 := by unfold mB mBind; rw [h]; rfl
theorem not_ok (h : c ρ = .ok b ρ1) : mNot c ρ = .ok (!b) ρ1 := by unfold mNot mBind; rw [h]; rfl
theorem and_t (h : c ρ = .ok true ρ1) (k : c' ρ1 = .ok b ρ2) : mAnd c c' ρ = .ok b ρ2 := by unfold mAnd mBind; rw [h]; exact k
theorem and_f (h : c ρ = .ok false ρ1) : mAnd c c' ρ = .ok false ρ1 := by unfold mAnd mBind; rw [h]; rfl
theorem or_t (h : c ρ = .ok true ρ1) : mOr c c' ρ = .ok true ρ1 := by unfold mOr mBind; rw [h]; rfl
theorem or_f (h : c ρ = .ok false ρ1) (k : c' ρ1 = .ok b ρ2) : mOr c c' ρ = .ok b ρ2 := by unfold mOr mBind; rw [h]; exact k
theorem ife_t (h : c ρ = .ok true ρ1) (k : ma ρ1 = .ok d ρ2) : mIfE c ma mb ρ = .ok d ρ2 := by unfold mIfE mBind; rw [h]; exact k
theorem ife_f (h : c ρ = .ok false ρ1) (k : mb ρ1 = .ok d ρ2) : mIfE c ma mb ρ = .ok d ρ2 := by unfold mIfE mBind; rw [h]; exact k
theorem andV_t (h : ma ρ = .ok (.bl true) ρ1) (k : mb ρ1 = .ok d ρ2) : mAndV ma mb ρ = .ok d ρ2 := by unfold mAndV mBind; rw [h]; exact k
theorem andV_f (h : ma ρ = .ok (.bl false) ρ1) : mAndV ma mb ρ = .ok (.bl false) ρ1 := by unfold mAndV mBind; rw [h]; rfl
theorem call_ok {r : Dt} (h : ms ρ = .ok ds ρ1) (hn : ds.length = n) (hf : f ds = .ret d r) : mCall n f ms ρ = .ok d ρ1 := by unfold mCall mBind; rw [h]; dsimp only; rw [if_pos hn, hf]
theorem callIo_ok {io0 io : Bool} {d0 d1 r : Dt} (h0 : ρ[i]? = some (some (.own io0 d0))) (h : ms ρ = .ok ds ρ1) (h1 : ρ1[i]? = some (some (.own io d1))) (hn : ds.length + 1 = n) (hf : f (d1 :: ds) = .ret d r) (hr : ρ1.set i (some (.own io r)) = ρ2) : mCallIo n f i ms ρ = .ok d ρ2 := by
  subst hr
  unfold mCallIo mBind
  rw [h0]; dsimp only; rw [h]; dsimp only; rw [h1]; dsimp only; rw [if_pos hn, hf]
theorem mut_ok {io0 : Bool} {r : Dt} {f : List Dt → Option (Dt × List Dt)} (h : ρ[i]? = some (some (.own io0 (.lst ds)))) (hf : f ds = some (r, es)) (hr : ρ.set i (some (.own io0 (.lst es))) = ρ1) : mMut i f ρ = .ok r ρ1 := by subst hr; unfold mMut; rw [h]; dsimp only; rw [hf]
theorem append_ok {io0 : Bool} (h : ρ[i]? = some (some (.own io0 (.lst es)))) (hm : m ρ = .ok d ρ1) (h1 : ρ1[i]? = some (some (.own io0 (.lst ds)))) (hl : ds.length < 1000000) (hr : ρ1.set i (some (.own io0 (.lst (ds ++ [d])))) = ρ2) : ownLst i (mAppend i m) ρ = .ok .non ρ2 := by
  unfold ownLst; rw [h]; dsimp only
  refine bind_ok hm (mut_ok h1 ?_ hr)
  rw [if_pos (Nat.lt_of_lt_of_le hl (by decide))]
theorem extend_ok {io0 : Bool} {zs : List Dt} (h : ρ[i]? = some (some (.own io0 (.lst es)))) (hm : m ρ = .ok (.lst zs) ρ1) (h1 : ρ1[i]? = some (some (.own io0 (.lst ds)))) (hl : ds.length + zs.length < 1000000) (hr : ρ1.set i (some (.own io0 (.lst (ds ++ zs)))) = ρ2) : ownLst i (mExtend i m) ρ = .ok .non ρ2 := by
  unfold ownLst; rw [h]; dsimp only
  refine bind_ok hm (mut_ok h1 ?_ hr)
  dsimp only
  rw [if_pos (Nat.le_trans (Nat.le_of_lt hl) (by decide))]
theorem popAt_ok {io0 : Bool} {q : Nat} (h : ρ[i]? = some (some (.own io0 (.lst es)))) (hm : m ρ = .ok (nD q) ρ1) (h1 : ρ1[i]? = some (some (.own io0 (.lst ds)))) (hl : ds.length < 1000000) (hq : q < ds.length) (hr : ρ1.set i (some (.own io0 (.lst (ds.eraseIdx q)))) = ρ2) : ownLst i (mPopAt i m) ρ = .ok ds[q] ρ2 := by
  unfold ownLst; rw [h]; dsimp only
  refine bind_ok hm (mut_ok h1 ?_ hr)
  dsimp only
  rw [if_pos ⟨by omega, by omega⟩, show ixN ds.length (q : Int) = some q by simp [ixN, hq]]
  simp [List.getElem?_eq_getElem hq]
theorem make_ok {cc : Nat} {r : Dt} (h : ms ρ = .ok ds ρ1) (hn : ds.length + 1 = n) (hf : f (.ins cc [] :: ds) = .ret .non r) : mMake cc n f ms ρ = .ok r ρ1 := by unfold mMake mBind; rw [h]; dsimp only; rw [if_pos hn, hf]
theorem runF_rt {io0 : Bool} {bd : En → So} {r : Dt} (h : bd (argE io0 ds ++ List.replicate (k - ds.length) none) = .rt d ρ) (ho : ioOut io0 ρ = some r) : runF k io0 false bd ds = .ret d r := by unfold runF; rw [h]; dsimp only; rw [ho]
theorem runF_rtN {io0 : Bool} {bd : En → So} {r : Dt} (h : bd (argE io0 ds ++ List.replicate (k - ds.length) none) = .rtN d ρ) (ho : ioOut io0 ρ = some r) : runF k io0 true bd ds = .ret d r := by unfold runF; rw [h]; dsimp only; rw [ho]
theorem runF_nx {io0 : Bool} {bd : En → So} {r : Dt} (h : bd (argE io0 ds ++ List.replicate (k - ds.length) none) = .nx ρ) (ho : ioOut io0 ρ = some r) : runF k io0 false bd ds = .ret .non r := by unfold runF; rw [h]; dsimp only; rw [ho]
theorem rng1_ok {N : Int} (h : ms ρ = .ok [.int N] ρ1) (l0 : -(2 ^ 62) ≤ N) (l1 : N < 2 ^ 62) : mRng1 ms ρ = .ok (rngD 0 N.toNat) ρ1 := by
  unfold mRng1 mBind
  rw [h]
  simp only
  rw [if_pos ⟨l0, l1⟩]
  rfl
theorem rngD_map : ∀ (lo : Int) (n : Nat), rngD lo n = (List.range n).map fun (i : Nat) => Dt.int (lo + (i : Int))
  | lo, 0 => rfl
  | lo, n + 1 => by
    rw [List.range_succ_eq_map, List.map_cons, List.map_map]
    show Dt.int lo :: rngD (lo + 1) n = _
    rw [rngD_map (lo + 1) n]
    congr 1
    · simp
    · apply List.map_congr_left
      intro i _
      show Dt.int (lo + 1 + (i : Int)) = Dt.int (lo + ((i + 1 : Nat) : Int))
      congr 1
      omega
theorem rngD0 (n : Nat) : rngD 0 n = (List.range n).map nD := by
  rw [rngD_map]; apply List.map_congr_left; intro i _; simp
theorem rngN_ok {N : Nat} (h : ms ρ = .ok [nD N] ρ1) (l : N < 1000000) : mRng1 ms ρ = .ok ((List.range N).map nD) ρ1 := by
  rw [rng1_ok h (by omega) (by omega)]; rw [show ((N : Int)).toNat = N by omega, rngD0]
end
/-! ### loops -/
section
variable {α σ : Type} {g : Dt → En → Option En} {bd : En → So}
/-- a loop that runs through: what it leaves is a fold -/
theorem forGo_fold (f : α → Dt) (E : σ → En) (stp : σ → α → σ) : ∀ (xs : List α) (st : σ), (∀ (pre : List α) (x : α) (post : List α), xs = pre ++ x :: post → ∃ ρ1, g (f x) (E (pre.foldl stp st)) = some ρ1 ∧ bd ρ1 = .nx (E ((pre ++ [x]).foldl stp st))) →
    forGo g bd (xs.map f) (E st) = .nx (E (xs.foldl stp st))
  | [], _, _ => rfl
  | x :: xs, st, h => by
    obtain ⟨ρ1, h1, h2⟩ := h [] x xs rfl
    have h1' : g (f x) (E st) = some ρ1 := h1
    have h2' : bd ρ1 = .nx (E (stp st x)) := h2
    show forGo g bd (f x :: xs.map f) (E st) = _
    unfold forGo
    rw [h1']; dsimp only; rw [h2']; dsimp only
    exact forGo_fold f E stp xs (stp st x) fun pre y post e => h (x :: pre) y post (by rw [e]; rfl)
/-- a loop that runs through, by what holds between two turns -/
theorem forGo_inv (f : α → Dt) (I : List α → En → Prop) : ∀ (xs pre : List α) (ρ : En), I pre ρ → (∀ (p : List α) (x : α) (q : List α) (ρ : En), pre ++ xs = p ++ x :: q → I p ρ → ∃ ρ1, g (f x) ρ = some ρ1 ∧ ∃ ρ2, (bd ρ1 = .nx ρ2 ∨ bd ρ1 = .ct ρ2) ∧ I (p ++ [x]) ρ2) →
    ∃ ρ', forGo g bd (xs.map f) ρ = .nx ρ' ∧ I (pre ++ xs) ρ'
  | [], pre, ρ, h0, _ => ⟨ρ, rfl, by rw [List.append_nil]; exact h0⟩
  | x :: xs, pre, ρ, h0, h => by
    obtain ⟨ρ1, h1, ρ2, h2, h3⟩ := h pre x xs ρ rfl h0
    obtain ⟨ρ', h4, h5⟩ := forGo_inv f I xs (pre ++ [x]) ρ2 h3 fun p y q r e => h p y q r (by rw [← e, List.append_assoc]; rfl)
    refine ⟨ρ', ?_, by rw [List.append_assoc] at h5; exact h5⟩
    show forGo g bd (f x :: xs.map f) ρ = _
    unfold forGo
    rw [h1]; dsimp only
    rcases h2 with h2 | h2 <;> rw [h2] <;> exact h4
/-- the same where what holds does not hang on the turn -/
theorem forGo_all (f : α → Dt) (I : En → Prop) (xs : List α) (ρ : En) (h0 : I ρ) (h : ∀ x ∈ xs, ∀ ρ, I ρ → ∃ ρ1, g (f x) ρ = some ρ1 ∧ ∃ ρ2, (bd ρ1 = .nx ρ2 ∨ bd ρ1 = .ct ρ2) ∧ I ρ2) :
    ∃ ρ', forGo g bd (xs.map f) ρ = .nx ρ' ∧ I ρ' :=
  forGo_inv f (fun _ => I) xs [] ρ h0 fun p x q r e k => h x (by rw [List.nil_append] at e; rw [e]; simp) r k
end
/-! ### comprehensions -/
section
variable {α : Type} {g : Dt → En → Option En} {t : Mi Bool} {e : Mi Dt} {vs : List Nat}
theorem lcGo_pure (f : α → Dt) (tf : α → Bool) (ef : α → Dt) {ρ : En} : ∀ (xs : List α) (acc : List Dt), (∀ x ∈ xs, ∃ ρ1, g (f x) ρ = some ρ1 ∧ ∃ ρ2, t ρ1 = .ok (tf x) ρ2 ∧ (tf x = false → wipeE ρ2 vs = ρ) ∧ (tf x = true → ∃ ρ3, e ρ2 = .ok (ef x) ρ3 ∧ wipeE ρ3 vs = ρ)) → acc.length + xs.length ≤ 1000000 →
    lcGo g t e vs (xs.map f) acc ρ = .ok (acc ++ (xs.filter tf).map ef) ρ
  | [], acc, _, _ => by simp [lcGo]
  | x :: xs, acc, h, hl => by
    obtain ⟨ρ1, h1, ρ2, h2, h3, h4⟩ := h x (by simp)
    rw [List.length_cons] at hl
    show lcGo g t e vs (f x :: xs.map f) acc ρ = _
    unfold lcGo
    rw [h1]; dsimp only; rw [h2]
    cases hb : tf x with
    | false =>
      dsimp only
      rw [h3 hb, lcGo_pure f tf ef xs acc (fun y hy => h y (by simp [hy])) (by omega), List.filter_cons_of_neg (by rw [hb]; decide)]
    | true =>
      obtain ⟨ρ3, h5, h6⟩ := h4 hb
      dsimp only
      rw [h5]; dsimp only
      rw [if_pos (Nat.lt_of_lt_of_le (show acc.length < 1000000 by omega) (by decide)), h6, lcGo_pure f tf ef xs (acc ++ [ef x]) (fun y hy => h y (by simp [hy])) (by rw [List.length_append]; simp; omega), List.filter_cons_of_pos hb, List.map_cons, List.append_assoc]
      rfl
theorem rest_wipe (ρ : En) : ∀ (vs : List Nat), restE ρ (wipeE ρ vs) vs = ρ := fun vs => by
  apply List.ext_getElem?
  intro i
  by_cases hi : i ∈ vs
  · by_cases hl : i < ρ.length
    · have key : ∀ us : List Nat, i ∈ us → (restE ρ (wipeE ρ vs) us)[i]? = ρ[i]? := fun us => by
        induction us with
        | nil => intro h; cases h
        | cons u us ih =>
          intro h
          unfold restE
          by_cases hu : u = i
          · subst hu
            rw [List.getElem?_set_self (by rw [restE_len, wipeE_len]; exact hl), List.getElem?_eq_getElem hl]
            rfl
          · rw [List.getElem?_set_ne hu]
            cases h with
            | head => exact absurd rfl hu
            | tail _ h => exact ih h
      exact key vs hi
    · rw [List.getElem?_eq_none (by rw [restE_len, wipeE_len]; omega), List.getElem?_eq_none (by omega)]
  · rw [restE_out hi]
    have key : ∀ us : List Nat, i ∉ us → (wipeE ρ us)[i]? = ρ[i]? := fun us => by
      induction us with
      | nil => intro _; rfl
      | cons u us ih =>
        intro h
        simp only [List.mem_cons, not_or] at h
        unfold wipeE
        rw [List.getElem?_set_ne fun z => h.1 z.symm, ih h.2]
    exact key vs hi
theorem lc_ok {mi : Mi (List Dt)} {ρ ρ0 : En} (xs : List α) (f : α → Dt) (tf : α → Bool) (ef : α → Dt) (hi : mi ρ = .ok (xs.map f) ρ0) (ho : ownAny ρ0 vs = false)
    (h : ∀ x ∈ xs, ∃ ρ1, g (f x) (wipeE ρ0 vs) = some ρ1 ∧ ∃ ρ2, t ρ1 = .ok (tf x) ρ2 ∧ (tf x = false → wipeE ρ2 vs = wipeE ρ0 vs) ∧ (tf x = true → ∃ ρ3, e ρ2 = .ok (ef x) ρ3 ∧ wipeE ρ3 vs = wipeE ρ0 vs)) (hl : xs.length ≤ 1000000) :
    mLc mi g t e vs ρ = .ok (.lst ((xs.filter tf).map ef)) ρ0 := by
  unfold mLc mBind
  rw [hi]; dsimp only
  rw [if_neg (by rw [ho]; decide), lcGo_pure f tf ef xs [] h (by simpa using hl)]
  dsimp only
  rw [rest_wipe, List.nil_append]
/-- without an if -/
theorem lc_map {mi : Mi (List Dt)} {ρ ρ0 : En} (xs : List α) (f : α → Dt) (ef : α → Dt) (hi : mi ρ = .ok (xs.map f) ρ0) (ho : ownAny ρ0 vs = false)
    (h : ∀ x ∈ xs, ∃ ρ1, g (f x) (wipeE ρ0 vs) = some ρ1 ∧ ∃ ρ3, e ρ1 = .ok (ef x) ρ3 ∧ wipeE ρ3 vs = wipeE ρ0 vs) (hl : xs.length ≤ 1000000) :
    mLc mi g (mPure true) e vs ρ = .ok (.lst (xs.map ef)) ρ0 := by
  rw [lc_ok xs f (fun _ => true) ef hi ho (fun x hx => by
    obtain ⟨ρ1, h1, ρ3, h2, h3⟩ := h x hx
    exact ⟨ρ1, h1, ρ1, rfl, (fun z => by cases z), fun _ => ⟨ρ3, h2, h3⟩⟩) hl]
  rw [List.filter_eq_self.mpr fun _ _ => rfl]
/-- what a comprehension with draws leaves: by what holds between two turns -/
theorem lcGo_inv (f : α → Dt) (I : List α → List Dt → En → Prop) : ∀ (xs pre : List α) (acc : List Dt) (ρ : En), I pre acc ρ → acc.length + xs.length ≤ 1000000 → (∀ (p : List α) (x : α) (q : List α) (acc : List Dt) (ρ : En), pre ++ xs = p ++ x :: q → I p acc ρ → ∃ ρ1, g (f x) ρ = some ρ1 ∧ ∃ b ρ2, t ρ1 = .ok b ρ2 ∧ (b = false → I (p ++ [x]) acc (wipeE ρ2 vs)) ∧ (b = true → ∃ y ρ3, e ρ2 = .ok y ρ3 ∧ I (p ++ [x]) (acc ++ [y]) (wipeE ρ3 vs))) →
    ∃ acc' ρ', lcGo g t e vs (xs.map f) acc ρ = .ok acc' ρ' ∧ I (pre ++ xs) acc' ρ'
  | [], pre, acc, ρ, h0, _, _ => ⟨acc, ρ, by simp [lcGo], by rw [List.append_nil]; exact h0⟩
  | x :: xs, pre, acc, ρ, h0, hl, h => by
    obtain ⟨ρ1, h1, b, ρ2, h2, h3, h4⟩ := h pre x xs acc ρ rfl h0
    rw [List.length_cons] at hl
    have step : ∀ p y q acc ρ, (pre ++ [x]) ++ xs = p ++ y :: q → I p acc ρ → ∃ ρ1, g (f y) ρ = some ρ1 ∧ ∃ b ρ2, t ρ1 = .ok b ρ2 ∧ (b = false → I (p ++ [y]) acc (wipeE ρ2 vs)) ∧ (b = true → ∃ y' ρ3, e ρ2 = .ok y' ρ3 ∧ I (p ++ [y]) (acc ++ [y']) (wipeE ρ3 vs)) := fun p y q acc ρ ee => h p y q acc ρ (by rw [← ee, List.append_assoc]; rfl)
    cases b with
    | false =>
      obtain ⟨a', ρ', h5, h6⟩ := lcGo_inv f I xs (pre ++ [x]) acc _ (h3 rfl) (by omega) step
      refine ⟨a', ρ', ?_, by rw [List.append_assoc] at h6; exact h6⟩
      show lcGo g t e vs (f x :: xs.map f) acc ρ = _
      unfold lcGo
      rw [h1]; dsimp only; rw [h2]; exact h5
    | true =>
      obtain ⟨y, ρ3, h7, h8⟩ := h4 rfl
      obtain ⟨a', ρ', h5, h6⟩ := lcGo_inv f I xs (pre ++ [x]) (acc ++ [y]) _ h8 (by rw [List.length_append]; simp; omega) step
      refine ⟨a', ρ', ?_, by rw [List.append_assoc] at h6; exact h6⟩
      show lcGo g t e vs (f x :: xs.map f) acc ρ = _
      unfold lcGo
      rw [h1]; dsimp only; rw [h2]; dsimp only; rw [h7]; dsimp only
      rw [if_pos (Nat.lt_of_lt_of_le (show acc.length < 1000000 by omega) (by decide))]; exact h5
end
/-! ### small facts -/
theorem sl_le {n : Nat} (h : n ≤ 1000000) : n ≤ sizeLine := Nat.le_trans h (by decide)
theorem sl_lt {n : Nat} (h : n < 1000000) : n < sizeLine := Nat.lt_of_lt_of_le h (by decide)
theorem atI_nat {α : Type} (l : List α) (i : Nat) : atI l (i : Int) = l[i]? := by
  by_cases h : i < l.length
  · simp [atI, ixN, h]
  · simp [atI, ixN, h]
theorem atI_map {α β : Type} (f : α → β) (l : List α) (i : Nat) {x : α} (h : l[i]? = some x) : atI (l.map f) (i : Int) = some (f x) := by
  rw [atI_nat, List.getElem?_map, h]; rfl
/-- a slot that a loop's variable left -/
def lv : Option Dt → Option Sl
  | none => none
  | some d => some (.val d)
theorem feq_int (a b : Int) : fEq (.int a) (.int b) = some (.bl (decide (a = b))) := by
  by_cases h : a = b
  · subst h; simp [fEq, dEq, toPy, SeqAt.shaped, PyData.canLay0, PyData.depth, PyData.eqv]
  · simp [fEq, dEq, toPy, SeqAt.shaped, PyData.canLay0, PyData.depth, PyData.eqv, h]
theorem fne_int (a b : Int) : fNe (.int a) (.int b) = some (.bl (!decide (a = b))) := by
  have h := feq_int a b
  unfold fEq at h
  unfold fNe
  cases q : dEq (.int a) (.int b) with
  | none => rw [q] at h; cases h
  | some v => rw [q] at h; simp at h; rw [h]; rfl
end Dl
namespace Dl
open PySem PySem.Spec PyProof.Rows L2
/-! ### draws (the first sort of law) -/
theorem atI0 {α : Type} (x : α) (l : List α) : atI (x :: l) 0 = some x := by
  simp [atI, ixN]
theorem atI_nn {α : Type} (l : List α) {i : Int} (h0 : 0 ≤ i) (h1 : i < l.length) : atI l i = l[i.toNat]? := by
  simp [atI, ixN, h0, h1]
theorem atI1 {α : Type} (x y : α) (l : List α) : atI (x :: y :: l) 1 = some y := by
  rw [atI_nn _ (by decide) (by simp; omega)]; rfl
theorem atI2 {α : Type} (x y z : α) (l : List α) : atI (x :: y :: z :: l) 2 = some z := by
  rw [atI_nn _ (by decide) (by simp; omega)]; rfl
/-- a box of draws -/
def bxD (b : Int × Int × Int) : Dt := .lst [.int b.1, .int b.2.1, .int b.2.2]
theorem take_pos {c s t b : Int} (hc : 0 < c) (hb : 0 < b) (hb2 : b < 1267650600228229401496703205376) :
    m_law_take [bxD (c, s, t), .int b] = .ret (.int (c % b)) (bxD (c / b, s, t)) := by
  simp [bxD, m_law_take, runF, b_law_take, sSeq, sIf, sBind, mB, m2, m1, mBind, mOpt, mPure, hasSl, mIxV, mPeek, mVar, fI, fIx, fGt, argE, atI0, hc, sSet, sPut, setSl, fMod, hb, fInt, fDiv, CDivX, hb2, sLput, putL, mMut, sRet, ioOut, ixN]
def tRaw (s t : Int) : Int := ((s + 104729 * (t + 1)) * 69623) % 2147483647
def tSeed (s t : Int) : Int := (tRaw s t * 48271 + 30103) % 2147483629 + 1
theorem take_zero {c s t b : Int} (hc : ¬ 0 < c) (hb : 0 < b) (hb2 : b < 1099511627776) :
    m_law_take [bxD (c, s, t), .int b] = .ret (.int ((tRaw s t * 2147483647 + tSeed s t) / 8191 % b)) (bxD (c, tSeed s t, t + 1)) := by
  simp [bxD, m_law_take, runF, b_law_take, sSeq, sIf, sBind, mB, m2, m1, mBind, mOpt, mPure, hasSl, mIxV, mPeek, mVar, fI, fIx, fGt, argE, atI0, atI1, atI2, hc, sSet, sPut, setSl, fMod, hb, fInt, fDiv, CDivX, hb2, sLput, putL, mMut, sRet, ioOut, ixN, fMulI, CMul, fAdd, fPow, CPow, fLt, tRaw, tSeed]
theorem take_wide {c s t b : Int} (hc : ¬ 0 < c) (hb : 0 < b) (hb2 : ¬ b < 1099511627776) :
    m_law_take [bxD (c, s, t), .int b] = .ret (.int (((tRaw s t * 2147483647 + tSeed s t) * 2147483629 ^ 3 + tSeed s t ^ 3 * 8191 + tRaw s t) % b)) (bxD (c, tSeed s t, t + 1)) := by
  have r0 : 0 ≤ tRaw s t := Int.emod_nonneg _ (by decide)
  have r1 : tRaw s t < 2147483647 := Int.emod_lt_of_pos _ (by decide)
  have s0 : 0 ≤ tSeed s t := by
    have := Int.emod_nonneg (tRaw s t * 48271 + 30103) (show (2147483629 : Int) ≠ 0 by decide)
    unfold tSeed; omega
  have s1 : tSeed s t ≤ 2147483629 := by
    have := Int.emod_lt_of_pos (tRaw s t * 48271 + 30103) (show (0 : Int) < 2147483629 by decide)
    unfold tSeed; omega
  have q1 : (tSeed s t).natAbs < 18446744073709551616 := by omega
  have q2 : -18446744073709551616 < tRaw s t * 2147483647 + tSeed s t := by omega
  have q3 : tRaw s t * 2147483647 + tSeed s t < 18446744073709551616 := by omega
  have eR : (s + 104729 * (t + 1)) * 69623 % 2147483647 = tRaw s t := rfl
  have eS : (tRaw s t * 48271 + 30103) % 2147483629 + 1 = tSeed s t := rfl
  generalize hR : tRaw s t = R at *
  generalize hS : tSeed s t = S at *
  simp [bxD, m_law_take, runF, b_law_take, sSeq, sIf, sBind, mB, m2, m1, mBind, mOpt, mPure, hasSl, mIxV, mPeek, mVar, fI, fIx, fGt, argE, atI0, atI1, atI2, hc, sSet, sPut, setSl, fMod, hb, fInt, fDiv, CDivX, hb2, sLput, putL, mMut, sRet, ioOut, ixN, fMulI, CMul, fAdd, fPow, CPow, fLt, eR, eS, q1, q2, q3]
theorem take_any (q : Int × Int × Int) (b : Int) (hb : 0 < b) (hb2 : b < 1267650600228229401496703205376) : ∃ d q', 0 ≤ d ∧ d < b ∧ m_law_take [bxD q, .int b] = .ret (.int d) (bxD q') := by
  obtain ⟨c, s, t⟩ := q
  by_cases hc : 0 < c
  · exact ⟨_, _, Int.emod_nonneg _ (by omega), Int.emod_lt_of_pos _ hb, take_pos hc hb hb2⟩
  · by_cases h : b < 1099511627776
    · exact ⟨_, _, Int.emod_nonneg _ (by omega), Int.emod_lt_of_pos _ hb, take_zero hc hb h⟩
    · exact ⟨_, _, Int.emod_nonneg _ (by omega), Int.emod_lt_of_pos _ hb, take_wide hc hb h⟩
/-- a natural number is drawn -/
theorem take_nat (q : Int × Int × Int) (b : Nat) (hb : 0 < b) (hb2 : b < 1267650600228229401496703205376) : ∃ (d : Nat) (q' : Int × Int × Int), d < b ∧ m_law_take [bxD q, nD b] = .ret (nD d) (bxD q') := by
  obtain ⟨d, q', h1, h2, h3⟩ := take_any q b (by omega) (by omega)
  obtain ⟨n, rfl⟩ : ∃ n : Nat, d = n := ⟨d.toNat, by omega⟩
  exact ⟨n, q', by omega, h3⟩
theorem sl2 : 2 ≤ sizeLine := by decide
theorem sl3 : 3 ≤ sizeLine := by decide
theorem box_any (ns : List Int) (k o : Int) (hk : 0 ≤ k) : ∃ q, m_law_box [.scr ns, .int k, .int o] = .ret (bxD q) .non := by
  have go : (∃ c s, m_law_box [.scr ns, .int k, .int o] = .ret (.lst [.int c, .int s, .int 0]) .non) → ∃ q, m_law_box [.scr ns, .int k, .int o] = .ret (bxD q) .non := fun ⟨c, s, h⟩ => ⟨(c, s, 0), h⟩
  refine go ?_
  by_cases h1 : k < ns.length
  · have hk2 : k.toNat < ns.length := by omega
    by_cases h3 : 1000000000000000000 ≤ (if ns[k.toNat] < 0 then -ns[k.toNat] else ns[k.toNat])
    · simp [m_law_box, runF, b_law_box, sSeq, sIf, sBind, mB, m2, m1, mBind, mOpt, mPure, hasSl, mIxV, mPeek, mVar, fI, fIx, fGt, fGe, argE, sSet, sPut, setSl, fMod, fInt, sRetN, ioOut, fMulI, CMul, fAdd, fPow, CPow, fLt, fLen, mLst, mCons, fAbs, atI0, atI1, sl2, sl3, atI_nn _ hk h1, h1, hk2, h3]
    · simp [m_law_box, runF, b_law_box, sSeq, sIf, sBind, mB, m2, m1, mBind, mOpt, mPure, hasSl, mIxV, mPeek, mVar, fI, fIx, fGt, fGe, argE, sSet, sPut, setSl, fMod, fInt, sRetN, ioOut, fMulI, CMul, fAdd, fPow, CPow, fLt, fLen, mLst, mCons, fAbs, atI0, atI1, sl2, sl3, atI_nn _ hk h1, h1, hk2, h3]
  · by_cases h2 : 0 < ns.length
    · have q1 : 0 ≤ k % (ns.length : Int) := Int.emod_nonneg _ (by omega)
      have q2 : k % (ns.length : Int) < ns.length := Int.emod_lt_of_pos _ (by omega)
      have hk2 : (k % (ns.length : Int)).toNat < ns.length := by omega
      by_cases h3 : 1000000000000000000 ≤ 7727 * k + 104729 * o + 43 + (if ns[(k % (ns.length : Int)).toNat] < 0 then -ns[(k % (ns.length : Int)).toNat] else ns[(k % (ns.length : Int)).toNat]) % 2147483629 * 69623
      · simp [m_law_box, runF, b_law_box, sSeq, sIf, sBind, mB, m2, m1, mBind, mOpt, mPure, hasSl, mIxV, mPeek, mVar, fI, fIx, fGt, fGe, argE, sSet, sPut, setSl, fMod, fInt, sRetN, ioOut, fMulI, CMul, fAdd, fPow, CPow, fLt, fLen, mLst, mCons, fAbs, atI0, atI1, sl2, sl3, h1, h2, atI_nn _ q1 q2, List.getElem?_eq_getElem hk2, h3]
      · simp [m_law_box, runF, b_law_box, sSeq, sIf, sBind, mB, m2, m1, mBind, mOpt, mPure, hasSl, mIxV, mPeek, mVar, fI, fIx, fGt, fGe, argE, sSet, sPut, setSl, fMod, fInt, sRetN, ioOut, fMulI, CMul, fAdd, fPow, CPow, fLt, fLen, mLst, mCons, fAbs, atI0, atI1, sl2, sl3, h1, h2, atI_nn _ q1 q2, List.getElem?_eq_getElem hk2, h3]
    · by_cases h3 : 1000000000000000000 ≤ 7727 * k + 104729 * o + 43
      · simp [m_law_box, runF, b_law_box, sSeq, sIf, sBind, mB, m2, m1, mBind, mOpt, mPure, hasSl, mIxV, mPeek, mVar, fI, fIx, fGt, fGe, argE, sSet, sPut, setSl, fMod, fInt, sRetN, ioOut, fMulI, CMul, fAdd, fPow, CPow, fLt, fLen, mLst, mCons, fAbs, atI0, atI1, sl2, sl3, h1, h2, h3]
      · simp [m_law_box, runF, b_law_box, sSeq, sIf, sBind, mB, m2, m1, mBind, mOpt, mPure, hasSl, mIxV, mPeek, mVar, fI, fIx, fGt, fGe, argE, sSet, sPut, setSl, fMod, fInt, sRetN, ioOut, fMulI, CMul, fAdd, fPow, CPow, fLt, fLen, mLst, mCons, fAbs, atI0, atI1, sl2, sl3, h1, h2, h3]
theorem pick_any (q : Int × Int × Int) (xs : List Dt) (h0 : 0 < xs.length) (h1 : xs.length < 1000000) : ∃ x q', x ∈ xs ∧ m_law_pick [bxD q, .lst xs] = .ret x (bxD q') := by
  obtain ⟨d, q', h2, h4⟩ := take_nat q xs.length h0 (by omega)
  refine ⟨xs[d], q', List.getElem_mem h2, ?_⟩
  refine runF_rt (ρ := [io (bxD q'), vl (.lst xs)]) (ret_ok ?_) rfl
  show hasSl 1 (mIxV 1 (mCallIo 2 m_law_take 0 (mCons (m1 fLen (mPeek 1)) (mPure [])))) [io (bxD q), vl (.lst xs)] = _
  show mIxV 1 (mCallIo 2 m_law_take 0 (mCons (m1 fLen (mPeek 1)) (mPure []))) [io (bxD q), vl (.lst xs)] = _
  refine bind_ok (callIo_ok (d0 := bxD q) (io0 := true) (io := true) (d1 := bxD q) rfl (cons_ok (m1_ok rfl rfl) rfl) rfl rfl h4 rfl) ?_
  refine bind_ok (a := .lst xs) (ρ1 := [io (bxD q'), vl (.lst xs)]) rfl ?_
  show mOpt (fIx (.lst xs) (.int (d : Int))) _ = _
  rw [show fIx (.lst xs) (.int (d : Int)) = atI xs (d : Int) from rfl, atI_nat, List.getElem?_eq_getElem h2]
  rfl
/-! ### a list in another order -/
def mixS : En → So := sDrop (ownLst 3 (mAppend 3 (ownLst 2 (mPopAt 2 (mCallIo 2 m_law_take 0 (mCons (m1 fLen (mPeek 2)) (mPure [])))))))
theorem mix_step (b : Int × Int × Int) (it : Dt) (L Fd : List Dt) (s4 : Option Sl) (h0 : 0 < L.length) (h1 : L.length < 1000000) (h2 : Fd.length < 1000000) : ∃ (d : Nat) (b' : Int × Int × Int) (hd : d < L.length),
    mixS [io (bxD b), vl it, ow (.lst L), ow (.lst Fd), s4] = .nx [io (bxD b'), vl it, ow (.lst (L.eraseIdx d)), ow (.lst (Fd ++ [L[d]])), s4] := by
  obtain ⟨d, b', q1, q3⟩ := take_nat b L.length h0 (by omega)
  have hz : Fd.length < sizeLine := sl_lt h2
  refine ⟨d, b', q1, ?_⟩
  refine drop_ok (d := .non) ?_
  have e0 : mCallIo 2 m_law_take 0 (mCons (m1 fLen (mPeek 2)) (mPure [])) [io (bxD b), vl it, ow (.lst L), ow (.lst Fd), s4] = .ok (nD d) [io (bxD b'), vl it, ow (.lst L), ow (.lst Fd), s4] :=
    callIo_ok (d0 := bxD b) (io0 := true) (io := true) (d1 := bxD b) rfl (cons_ok (m1_ok rfl rfl) rfl) rfl rfl q3 rfl
  have e1 : ownLst 2 (mPopAt 2 (mCallIo 2 m_law_take 0 (mCons (m1 fLen (mPeek 2)) (mPure [])))) [io (bxD b), vl it, ow (.lst L), ow (.lst Fd), s4] = .ok L[d] [io (bxD b'), vl it, ow (.lst (L.eraseIdx d)), ow (.lst Fd), s4] :=
    popAt_ok (es := L) (ρ1 := [io (bxD b'), vl it, ow (.lst L), ow (.lst Fd), s4]) rfl e0 rfl h1 q1 rfl
  exact append_ok (es := Fd) rfl e1 rfl h2 rfl
theorem perm_erase {α : Type} : ∀ (L : List α) (d : Nat) (hd : d < L.length), (L[d] :: L.eraseIdx d).Perm L
  | x :: L, 0, _ => .refl _
  | x :: L, d + 1, hd => (List.Perm.swap x (L[d]'(by simpa using hd)) (L.eraseIdx d)).trans (.cons x (perm_erase L d (by simpa using hd)))
theorem mixed_any (b : Int × Int × Int) (xs : List Dt) (h : xs.length < 100000) : ∃ (ys : List Dt) (b' : Int × Int × Int), ys.Perm xs ∧ m_law_mixed [bxD b, .lst xs] = .ret (.lst ys) (bxD b') := by
  have loop : ∃ ρ', forGo (gV 4) mixS ((List.range xs.length).map nD) [io (bxD b), vl (.lst xs), ow (.lst xs), ow (.lst []), none] = .nx ρ' ∧ ∃ b' L Fd s4, ρ' = [io (bxD b'), vl (.lst xs), ow (.lst L), ow (.lst Fd), lv s4] ∧ L.length + (List.range xs.length).length = xs.length ∧ (Fd ++ L).Perm xs := by
    refine forGo_inv (g := gV 4) (bd := mixS) nD (fun pre ρ => ∃ b' L Fd s4, ρ = [io (bxD b'), vl (.lst xs), ow (.lst L), ow (.lst Fd), lv s4] ∧ L.length + pre.length = xs.length ∧ (Fd ++ L).Perm xs) (List.range xs.length) [] _ ⟨b, xs, [], none, rfl, rfl, .refl _⟩ ?_
    rintro p x r ρ e ⟨b', L, Fd, s4, rfl, hl, hp⟩
    have hlen : p.length + (r.length + 1) = xs.length := by
      have := congrArg List.length e
      simpa using this.symm
    have hlp := hp.length_eq
    rw [List.length_append] at hlp
    obtain ⟨d, b2, hd, e2⟩ := mix_step b' (.lst xs) L Fd (vl (nD x)) (by omega) (by omega) (by omega)
    refine ⟨[io (bxD b'), vl (.lst xs), ow (.lst L), ow (.lst Fd), vl (nD x)], by cases s4 <;> rfl, _, .inl e2, b2, _, _, some (nD x), rfl, by rw [List.length_eraseIdx_of_lt hd, List.length_append]; simp; omega, ?_⟩
    rw [List.append_assoc]
    exact (List.Perm.append_left Fd (perm_erase L d hd)).trans hp
  obtain ⟨ρ', h1, b', L, Fd, s4, rfl, hl, hp⟩ := loop
  have hL : L = [] := List.length_eq_zero_iff.mp (by rw [List.length_range] at hl; omega)
  subst hL
  rw [List.append_nil] at hp
  refine ⟨Fd, b', hp, runF_rt (ρ := [io (bxD b'), vl (.lst xs), ow (.lst []), vl (.lst Fd), lv s4]) ?_ rfl⟩
  unfold b_law_mixed
  refine seq_nx (ρ' := [io (bxD b), vl (.lst xs), ow (.lst xs), ow (.lst []), none]) (pars_ok (ds := [.lst xs, .lst []]) (ρ1 := [io (bxD b), vl (.lst xs), none, none, none]) ?_ rfl) ?_
  · exact cons_ok (m1N_ok rfl rfl) rfl
  · refine seq_nx (for_ok (rngN_ok (N := xs.length) (ρ1 := [io (bxD b), vl (.lst xs), ow (.lst xs), ow (.lst []), none]) (cons_ok (m1_ok rfl rfl) rfl) (by omega)) h1) ?_
    rfl
end Dl
namespace Dl
open PySem PySem.Spec PyProof.Rows L2
/-! ### lists of numbers -/
theorem perm_map_inv {α β : Type} (f : α → β) {ys zs : List β} (h : ys.Perm zs) : ∀ xs : List α, zs = xs.map f → ∃ ws : List α, ws.Perm xs ∧ ys = ws.map f := by
  induction h with
  | nil =>
    intro xs e
    cases xs with
    | nil => exact ⟨[], .refl _, rfl⟩
    | cons _ _ => cases e
  | @cons x l1 l2 _ ih =>
    intro xs e
    cases xs with
    | nil => cases e
    | cons a as =>
      rw [List.map_cons] at e
      cases e
      obtain ⟨ws, p, e2⟩ := ih as rfl
      exact ⟨a :: ws, .cons a p, by rw [List.map_cons, e2]⟩
  | @swap x y l =>
    intro xs e
    match xs, e with
    | a :: b :: as, e =>
      rw [List.map_cons, List.map_cons] at e
      cases e
      exact ⟨b :: a :: as, .swap a b as, rfl⟩
  | @trans l1 l2 l3 _ _ ih1 ih2 =>
    intro xs e
    obtain ⟨ws, p, e2⟩ := ih2 xs e
    obtain ⟨vs, p2, e3⟩ := ih1 ws e2
    exact ⟨vs, p2.trans p, e3⟩
theorem mixed_map {α : Type} (f : α → Dt) (b : Int × Int × Int) (xs : List α) (h : xs.length < 100000) : ∃ (ys : List α) (b' : Int × Int × Int), ys.Perm xs ∧ m_law_mixed [bxD b, .lst (xs.map f)] = .ret (.lst (ys.map f)) (bxD b') := by
  obtain ⟨ys, b', p, e⟩ := mixed_any b (xs.map f) (by rw [List.length_map]; exact h)
  obtain ⟨ws, p2, rfl⟩ := perm_map_inv f p xs rfl
  exact ⟨ws, b', p2, e⟩
def insN (x : Nat) : List Nat → List Nat
  | [] => [x]
  | y :: r => if x ≤ y then x :: y :: r else y :: insN x r
def sortN : List Nat → List Nat
  | [] => []
  | x :: r => insN x (sortN r)
theorem insN_int (x : Nat) : ∀ l : List Nat, insI (x : Int) (l.map fun (n : Nat) => (n : Int)) = (insN x l).map fun (n : Nat) => (n : Int)
  | [] => rfl
  | y :: r => by
    show (if (x : Int) ≤ (y : Int) then _ else _) = (if x ≤ y then _ else _ : List Nat).map _
    by_cases h : x ≤ y
    · rw [if_pos (by omega), if_pos h]; rfl
    · rw [if_neg (by omega), if_neg h, insN_int x r]; rfl
theorem sortN_int : ∀ l : List Nat, sortI (l.map fun (n : Nat) => (n : Int)) = (sortN l).map fun (n : Nat) => (n : Int)
  | [] => rfl
  | x :: r => by
    show insI (x : Int) (sortI (r.map _)) = _
    rw [sortN_int r, insN_int]; rfl
theorem insN_perm (x : Nat) : ∀ l, (insN x l).Perm (x :: l)
  | [] => .refl _
  | y :: r => by
    unfold insN
    split
    · exact .refl _
    · exact (List.Perm.cons y (insN_perm x r)).trans (.swap x y r)
theorem sortN_perm : ∀ l, (sortN l).Perm l
  | [] => .refl _
  | x :: r => (insN_perm x (sortN r)).trans (.cons x (sortN_perm r))
theorem intsOf_nat : ∀ l : List Nat, intsOf (l.map nD) = some (l.map fun (n : Nat) => (n : Int))
  | [] => rfl
  | x :: r => by
    show (intsOf (r.map nD)).map ((x : Int) :: ·) = _
    rw [intsOf_nat r]; rfl
theorem sorted_nat (l : List Nat) : fSorted (.lst (l.map nD)) = some ((sortN l).map nD) := by
  show (intsOf (l.map nD)).map (fun ns => (sortI ns).map Dt.int) = _
  rw [intsOf_nat, Option.map_some, sortN_int, List.map_map]; rfl
/-! ### rows -/
def rowD (r : List Nat × List Nat) : Dt := .tup [.tup (r.1.map nD), .tup (r.2.map nD)]
def trowD (r : List Nat × List Nat) : Dt := .tup [.lst (r.1.map nD), .lst (r.2.map nD)]
def toldD (p : Nat) (rs : List (List Nat × List Nat)) : Dt := .tup [nD p, .lst (rs.map trowD)]
structure GoodRow (p : Nat) (r : List Nat × List Nat) : Prop where
  nd : r.1.Nodup
  lt : ∀ x ∈ r.1, x < p
  pm : r.2.Perm (List.range p)
theorem nodup_le : ∀ (p : Nat) (l : List Nat), l.Nodup → (∀ x ∈ l, x < p) → l.length ≤ p
  | 0, [], _, _ => Nat.le_refl _
  | 0, x :: l, _, h => absurd (h x (by simp)) (by omega)
  | p + 1, l, nd, h => by
    by_cases hp : p ∈ l
    · have h1 := nodup_le p (l.erase p) (nd.erase p) fun x hx => by
        have h2 : x ∈ l := List.mem_of_mem_erase hx
        have h3 : x ≠ p := fun z => by rw [z] at hx; exact (List.Nodup.not_mem_erase nd) hx
        have := h x h2
        omega
      rw [List.length_erase_of_mem hp] at h1
      omega
    · have h1 := nodup_le p l nd fun x hx => by
        have := h x hx
        have h3 : x ≠ p := fun z => hp (z ▸ hx)
        omega
      omega
theorem GoodRow.le {p : Nat} {r : List Nat × List Nat} (h : GoodRow p r) : r.1.length ≤ p := nodup_le p r.1 h.nd h.lt
theorem GoodRow.len {p : Nat} {r : List Nat × List Nat} (h : GoodRow p r) : r.2.length = p := by rw [h.pm.length_eq, List.length_range]
theorem rgD0 (n : Nat) : rgD 0 (n : Int) = (List.range n).map nD := by
  unfold rgD
  rw [show ((n : Int) - 0).toNat = n by omega]
  apply List.map_congr_left
  intro i _
  simp
theorem lstRg_ok {m : Mi Dt} {ρ ρ1 : En} {n : Nat} (h : m ρ = .ok (nD n) ρ1) (hn : n < 1000000) : mLstRg m ρ = .ok (.lst ((List.range n).map nD)) ρ1 := by
  refine bind_ok h ?_
  dsimp only
  rw [if_pos (show RgOk 0 (n : Int) from RgOk.of_le (by omega) (by omega) (by omega) (by omega)), rgD0]
  rfl
section
variable {α : Type} {g : Dt → En → Option En} {t : Mi Bool} {e : Mi Dt} {vs : List Nat}
theorem lc_inv {mi : Mi (List Dt)} {ρ ρ0 : En} (xs : List α) (f : α → Dt) (I : List α → List Dt → En → Prop) (hi : mi ρ = .ok (xs.map f) ρ0) (ho : ownAny ρ0 vs = false) (h0 : I [] [] (wipeE ρ0 vs)) (hl : xs.length ≤ 1000000)
    (h : ∀ (p : List α) (x : α) (q : List α) (acc : List Dt) (ρ : En), xs = p ++ x :: q → I p acc ρ → ∃ ρ1, g (f x) ρ = some ρ1 ∧ ∃ b ρ2, t ρ1 = .ok b ρ2 ∧ (b = false → I (p ++ [x]) acc (wipeE ρ2 vs)) ∧ (b = true → ∃ y ρ3, e ρ2 = .ok y ρ3 ∧ I (p ++ [x]) (acc ++ [y]) (wipeE ρ3 vs))) :
    ∃ acc ρ', mLc mi g t e vs ρ = .ok (.lst acc) (restE ρ0 ρ' vs) ∧ I xs acc ρ' := by
  obtain ⟨acc, ρ', h1, h2⟩ := lcGo_inv (g := g) (t := t) (e := e) (vs := vs) f I xs [] [] (wipeE ρ0 vs) h0 (by simpa using hl) fun p x q acc ρ ee => h p x q acc ρ (by simpa using ee)
  refine ⟨acc, ρ', ?_, h2⟩
  unfold mLc mBind
  rw [hi]; dsimp only
  rw [if_neg (by rw [ho]; decide), h1]
end
/-! ### a drawn rota -/
def rotaB : En → So := (sSeq (sSet 6 (mLstRg (mVar 3)))
  (sSeq (sSet 7 (mLc (mSeqI (mVar 6)) (gV 9) (mB (m2 fLt (mCallIo 2 m_law_take 0 (mCons (mPure (.int 5)) (mPure []))) (mPure (.int 2)))) (mVar 9) [9]))
  (sSeq (sSet 8 (mIfE (mB (m2 fGt (mCallIo 2 m_law_take 0 (mCons (mPure (.int 3)) (mPure []))) (mPure (.int 0)))) (mCallIo 2 m_law_mixed 0 (mCons (mVar 6) (mPure []))) (mVar 6)))
  (sDrop (ownLst 4 (mAppend 4 (mTup (mCons (mCallIo 2 m_law_mixed 0 (mCons (mVar 7) (mPure []))) (mCons (mVar 8) (mPure []))))))))))
theorem rota_turn (q : Int × Int × Int) (m r : Dt) (p : Nat) (hp : p < 1000) (Fd : List Dt) (hF : Fd.length < 1000) (s5 s6 s7 s8 : Option Dt) : ∃ q' row s6' s7' s8', GoodRow p row ∧
    rotaB [io (bxD q), vl m, vl r, vl (nD p), ow (.lst Fd), lv s5, lv s6, lv s7, lv s8, none] = .nx [io (bxD q'), vl m, vl r, vl (nD p), ow (.lst (Fd ++ [trowD row])), lv s5, lv s6', lv s7', lv s8', none] := by
  have lc : ∃ acc ρ', mLc (mSeqI (mVar 6)) (gV 9) (mB (m2 fLt (mCallIo 2 m_law_take 0 (mCons (mPure (.int 5)) (mPure []))) (mPure (.int 2)))) (mVar 9) [9] [io (bxD q), vl m, vl r, vl (nD p), ow (.lst Fd), lv s5, vl (.lst ((List.range p).map nD)), lv s7, lv s8, none] = .ok (.lst acc) (restE [io (bxD q), vl m, vl r, vl (nD p), ow (.lst Fd), lv s5, vl (.lst ((List.range p).map nD)), lv s7, lv s8, none] ρ' [9]) ∧
      ∃ (q' : Int × Int × Int) (ys : List Nat), acc = ys.map nD ∧ ys.Sublist (List.range p) ∧ ρ' = [io (bxD q'), vl m, vl r, vl (nD p), ow (.lst Fd), lv s5, vl (.lst ((List.range p).map nD)), lv s7, lv s8, none] := by
    refine lc_inv (List.range p) nD (fun pre acc ρ => ∃ (q' : Int × Int × Int) (ys : List Nat), acc = ys.map nD ∧ ys.Sublist pre ∧ ρ = [io (bxD q'), vl m, vl r, vl (nD p), ow (.lst Fd), lv s5, vl (.lst ((List.range p).map nD)), lv s7, lv s8, none]) rfl rfl ⟨q, [], rfl, .slnil, rfl⟩ (by rw [List.length_range]; omega) ?_
    rintro pre x post acc ρ e ⟨q1, ys, rfl, hs, rfl⟩
    obtain ⟨d, q2, h1, h2⟩ := take_any q1 5 (by decide) (by decide)
    refine ⟨_, rfl, decide (d < 2), [io (bxD q2), vl m, vl r, vl (nD p), ow (.lst Fd), lv s5, vl (.lst ((List.range p).map nD)), lv s7, lv s8, vl (nD x)], ?_, fun _ => ?_, fun _ => ?_⟩
    · exact tb_ok (m2_ok (callIo_ok (d0 := bxD q1) (io0 := true) (io := true) (d1 := bxD q1) rfl rfl rfl rfl h2.2 rfl) rfl rfl)
    · exact ⟨q2, ys, rfl, hs.trans (List.sublist_append_left _ _), rfl⟩
    · refine ⟨nD x, _, rfl, q2, ys ++ [x], ?_, List.Sublist.append hs (.refl _), rfl⟩
      rw [List.map_append]; rfl
  obtain ⟨acc, ρ', e1, q1, ys, rfl, hsub, rfl⟩ := lc
  have hnd : ys.Nodup := hsub.nodup List.nodup_range
  have hlt : ∀ x ∈ ys, x < p := fun x hx => List.mem_range.mp (hsub.subset hx)
  have hyl : ys.length ≤ p := by have := hsub.length_le; rwa [List.length_range] at this
  obtain ⟨d, q2, g1, g2, g3⟩ := take_any q1 3 (by decide) (by decide)
  have mv : ∃ (mvs : List Nat) (q3 : Int × Int × Int), mvs.Perm (List.range p) ∧ mIfE (mB (m2 fGt (mCallIo 2 m_law_take 0 (mCons (mPure (.int 3)) (mPure []))) (mPure (.int 0)))) (mCallIo 2 m_law_mixed 0 (mCons (mVar 6) (mPure []))) (mVar 6) [io (bxD q1), vl m, vl r, vl (nD p), ow (.lst Fd), lv s5, vl (.lst ((List.range p).map nD)), vl (.lst (ys.map nD)), lv s8, none] =
      .ok (.lst (mvs.map nD)) [io (bxD q3), vl m, vl r, vl (nD p), ow (.lst Fd), lv s5, vl (.lst ((List.range p).map nD)), vl (.lst (ys.map nD)), lv s8, none] := by
    have et : mB (m2 fGt (mCallIo 2 m_law_take 0 (mCons (mPure (.int 3)) (mPure []))) (mPure (.int 0))) [io (bxD q1), vl m, vl r, vl (nD p), ow (.lst Fd), lv s5, vl (.lst ((List.range p).map nD)), vl (.lst (ys.map nD)), lv s8, none] = .ok (decide (0 < d)) [io (bxD q2), vl m, vl r, vl (nD p), ow (.lst Fd), lv s5, vl (.lst ((List.range p).map nD)), vl (.lst (ys.map nD)), lv s8, none] :=
      tb_ok (m2_ok (callIo_ok (d0 := bxD q1) (io0 := true) (io := true) (d1 := bxD q1) rfl rfl rfl rfl g3 rfl) rfl rfl)
    by_cases hd : 0 < d
    · obtain ⟨ws, q3, h4, h5⟩ := mixed_map nD q2 (List.range p) (by rw [List.length_range]; omega)
      rw [decide_eq_true hd] at et
      exact ⟨ws, q3, h4, ife_t et (callIo_ok (d0 := bxD q2) (io0 := true) (io := true) (d1 := bxD q2) rfl rfl rfl rfl h5 rfl)⟩
    · rw [decide_eq_false hd] at et
      exact ⟨List.range p, q2, .refl _, ife_f et rfl⟩
  obtain ⟨mvs, q3, hpm, e3⟩ := mv
  obtain ⟨ts, q4, h6, h7⟩ := mixed_map nD q3 ys (by omega)
  refine ⟨q4, (ts, mvs), some (.lst ((List.range p).map nD)), some (.lst (ys.map nD)), some (.lst (mvs.map nD)), ⟨h6.nodup_iff.mpr hnd, fun x hx => hlt x (h6.mem_iff.mp hx), hpm⟩, ?_⟩
  unfold rotaB
  refine seq_nx (ρ' := [io (bxD q), vl m, vl r, vl (nD p), ow (.lst Fd), lv s5, vl (.lst ((List.range p).map nD)), lv s7, lv s8, none]) (set_ok (lstRg_ok rfl (by omega)) (by cases s6 <;> rfl)) ?_
  refine seq_nx (ρ' := [io (bxD q1), vl m, vl r, vl (nD p), ow (.lst Fd), lv s5, vl (.lst ((List.range p).map nD)), vl (.lst (ys.map nD)), lv s8, none]) (set_ok e1 (by cases s7 <;> rfl)) ?_
  refine seq_nx (ρ' := [io (bxD q3), vl m, vl r, vl (nD p), ow (.lst Fd), lv s5, vl (.lst ((List.range p).map nD)), vl (.lst (ys.map nD)), vl (.lst (mvs.map nD)), none]) (set_ok e3 (by cases s8 <;> rfl)) ?_
  refine drop_ok (append_ok (es := Fd) (ds := Fd) (d := trowD (ts, mvs)) (ρ1 := [io (bxD q4), vl m, vl r, vl (nD p), ow (.lst Fd), lv s5, vl (.lst ((List.range p).map nD)), vl (.lst (ys.map nD)), vl (.lst (mvs.map nD)), none]) rfl ?_ rfl (by omega) rfl)
  exact tup_ok (cons_ok (callIo_ok (d0 := bxD q3) (io0 := true) (io := true) (d1 := bxD q3) rfl rfl rfl rfl h7 rfl) rfl) (sl_le (by simp))
theorem rota_any (q : Int × Int × Int) (most rows : Nat) (h1 : 0 < most) (h2 : most < 100) (h3 : 0 < rows) (h4 : rows < 100) : ∃ p rs q', 0 < p ∧ p ≤ most ∧ 0 < rs.length ∧ rs.length ≤ rows ∧ (∀ r ∈ rs, GoodRow p r) ∧
    m_law_rota [bxD q, nD most, nD rows] = .ret (toldD p rs) (bxD q') := by
  obtain ⟨d, q1, e1, e2⟩ := take_nat q most h1 (by omega)
  obtain ⟨n, q2, e3, e4⟩ := take_nat q1 rows h3 (by omega)
  have loop := forGo_inv (g := gV 5) (bd := rotaB) nD (fun pre ρ => ∃ (q' : Int × Int × Int) (rs : List (List Nat × List Nat)) (s5 s6 s7 s8 : Option Dt), rs.length = pre.length ∧ (∀ r ∈ rs, GoodRow (1 + d) r) ∧ ρ = [io (bxD q'), vl (nD most), vl (nD rows), vl (nD (1 + d)), ow (.lst (rs.map trowD)), lv s5, lv s6, lv s7, lv s8, none]) (List.range (1 + n)) []
    [io (bxD q2), vl (nD most), vl (nD rows), vl (nD (1 + d)), ow (.lst []), none, none, none, none, none] ⟨q2, [], none, none, none, none, rfl, (fun _ h => nomatch h), rfl⟩ (by
      rintro pre x post ρ e ⟨q', rs, s5, s6, s7, s8, hl, hg, rfl⟩
      have hlen : pre.length + (post.length + 1) = 1 + n := by
        have := congrArg List.length e
        simpa using this.symm
      obtain ⟨q5, row, t6, t7, t8, hr, er⟩ := rota_turn q' (nD most) (nD rows) (1 + d) (by omega) (rs.map trowD) (by rw [List.length_map]; omega) (some (nD x)) s6 s7 s8
      refine ⟨_, by cases s5 <;> rfl, _, .inl er, q5, rs ++ [row], some (nD x), t6, t7, t8, by simp [hl], fun r hr' => ?_, by rw [List.map_append]; rfl⟩
      rcases List.mem_append.mp hr' with h | h
      · exact hg r h
      · rw [List.mem_singleton.mp h]; exact hr)
  obtain ⟨ρ', e5, q3, rs, s5, s6, s7, s8, hl, hg, rfl⟩ := loop
  refine ⟨1 + d, rs, q3, by omega, by omega, by rw [hl]; simp; omega, by rw [hl]; simp; omega, hg, runF_rt (ρ := [io (bxD q3), vl (nD most), vl (nD rows), vl (nD (1 + d)), vl (.lst (rs.map trowD)), lv s5, lv s6, lv s7, lv s8, none]) ?_ rfl⟩
  unfold b_law_rota
  have c1 : (1 : Int) + (d : Int) = ((1 + d : Nat) : Int) := by omega
  have c2 : (1 : Int) + (n : Int) = ((1 + n : Nat) : Int) := by omega
  refine seq_nx (ρ' := [io (bxD q1), vl (nD most), vl (nD rows), vl (nD (1 + d)), ow (.lst []), none, none, none, none, none]) (pars_ok (ds := [nD (1 + d), .lst []]) (ρ1 := [io (bxD q1), vl (nD most), vl (nD rows), none, none, none, none, none, none, none]) ?_ rfl) ?_
  · refine cons_ok (m2_ok rfl (callIo_ok (d0 := bxD q) (io0 := true) (io := true) (d1 := bxD q) rfl rfl rfl rfl e2 rfl) ?_) rfl
    show some (Dt.int (1 + (d : Int))) = _
    rw [c1]
  · refine seq_nx (for_ok (rngN_ok (N := 1 + n) (ρ1 := [io (bxD q2), vl (nD most), vl (nD rows), vl (nD (1 + d)), ow (.lst []), none, none, none, none, none]) (cons_ok (m2_ok rfl (callIo_ok (d0 := bxD q1) (io0 := true) (io := true) (d1 := bxD q1) rfl rfl rfl rfl e4 rfl) ?_) rfl) (by omega)) e5) ?_
    · show some (Dt.int (1 + (n : Int))) = _
      rw [c2]
    · rfl
end Dl
namespace Dl
open PySem PySem.Spec PyProof.Rows L2
/-! ### the small tests -/
theorem is_from_int (x l : Int) : m_is_from [.int x, .int l] = .ret (.bl (decide (l ≤ x))) .non := rfl
theorem is_below_int {x b : Int} (h0 : 0 ≤ x) : m_is_below [.int x, .int b] = .ret (.bl (decide (x < b))) .non := by
  refine runF_rt (ρ := [vl (.int x), vl (.int b)]) (ret_ok (andV_t (ρ1 := [vl (.int x), vl (.int b)]) ?_ rfl)) rfl
  refine call_ok (ds := [.int x, .int 0]) (r := .non) rfl rfl ?_
  rw [is_from_int, decide_eq_true h0]
theorem is_below_nat (x b : Nat) : m_is_below [nD x, nD b] = .ret (.bl (decide (x < b))) .non := by
  rw [is_below_int (by omega)]
  congr 2
  exact decide_eq_decide.mpr (by omega)
theorem blsOf_map : ∀ l : List Bool, blsOf (l.map .bl) = some l
  | [] => rfl
  | b :: r => by
    show (blsOf (r.map .bl)).map (b :: ·) = _
    rw [blsOf_map r]; rfl
theorem all_ok {m : Mi Dt} {ρ ρ1 : En} {α : Type} {xs : List α} {f : α → Bool} (h : m ρ = .ok (.lst (xs.map fun x => .bl (f x))) ρ1) : m1 fAll m ρ = .ok (.bl (xs.all f)) ρ1 := by
  refine m1_ok h ?_
  show (blsOf (xs.map fun x => .bl (f x))).map (fun bs => Dt.bl (bs.all id)) = _
  have e : (xs.map fun x => Dt.bl (f x)) = (xs.map f).map .bl := by rw [List.map_map]; rfl
  rw [e, blsOf_map, Option.map_some, List.all_map]; rfl
/-- items of a list or a tuple -/
def sqD : Bool → List Dt → Dt
  | true, xs => .tup xs
  | false, xs => .lst xs
theorem keyEq_nat (a b : Nat) : keyEq (nD a) (nD b) = decide (a = b) := by
  show decide ((a : Int) = (b : Int)) = _
  exact decide_eq_decide.mpr (by omega)
theorem dc_nat {g : Dt → En → Option En} {mk : Mi Dt} {vs : List Nat} {ρ : En} (h : ∀ x : Nat, ∃ ρ1, g (nD x) ρ = some ρ1 ∧ mk ρ1 = .ok (nD x) ρ1 ∧ wipeE ρ1 vs = ρ) : ∀ (xs pre : List Nat) (ds : List Dt), (pre ++ xs).Nodup → (pre ++ xs).length ≤ 1000000 →
    dcGo g (mPure true) mk (mPure (.bl true)) vs (xs.map nD) (pre.map nD) ds ρ = .ok ((pre ++ xs).map nD, ds ++ List.replicate xs.length (.bl true)) ρ
  | [], pre, ds, _, _ => by simp [dcGo]
  | x :: xs, pre, ds, nd, hl => by
    obtain ⟨ρ1, h1, h2, h3⟩ := h x
    have hx : x ∉ pre := fun hx => by
      rw [List.nodup_append] at nd
      exact nd.2.2 x hx x (by simp) rfl
    rw [List.length_append, List.length_cons] at hl
    show dcGo g (mPure true) mk (mPure (.bl true)) vs (nD x :: xs.map nD) (pre.map nD) ds ρ = _
    unfold dcGo
    rw [h1]; dsimp only
    show (match mk ρ1 with | .ok x ρ3 => _ | _ => _) = _
    rw [h2]; dsimp only
    show (if (pre.map nD).length < sizeLine then _ else _) = _
    rw [if_pos (by rw [List.length_map]; exact sl_lt (by omega)), h3]
    have e : dPut keyEq (nD x) (.bl true) (pre.map nD) ds = ((pre ++ [x]).map nD, ds ++ [.bl true]) := by
      unfold dPut
      rw [if_neg, List.map_append]; rfl
      rw [List.any_map]
      simp only [Function.comp, Bool.not_eq_true, List.any_eq_false]
      intro y hy
      rw [keyEq_nat]
      simp
      intro z; exact hx (z ▸ hy)
    rw [e]
    dsimp only
    rw [dc_nat h xs (pre ++ [x]) (ds ++ [Dt.bl true]) (by rw [List.append_assoc]; exact nd) (by rw [List.append_assoc, List.length_append]; simp; omega)]
    rw [List.append_assoc, List.append_assoc, List.length_cons, List.replicate_succ]
    rfl
theorem is_unlike_ok (b : Bool) (xs : List Nat) (p : Nat) (nd : xs.Nodup) (lt : ∀ x ∈ xs, x < p) (hl : xs.length < 1000000) : m_is_unlike [sqD b (xs.map nD), nD p] = .ret (.bl true) .non := by
  refine runF_rt (ρ := [vl (sqD b (xs.map nD)), vl (nD p), none]) ?_ rfl
  unfold b_is_unlike
  refine seq_nx (ρ' := [vl (sqD b (xs.map nD)), vl (nD p), none]) (if_f (ρ1 := [vl (sqD b (xs.map nD)), vl (nD p), none]) (or_f (ρ1 := [vl (sqD b (xs.map nD)), vl (nD p), none]) (not_ok (b := true) (tb_ok (call_ok (ds := [sqD b (xs.map nD)]) (r := .non) rfl rfl (by cases b <;> rfl)))) (not_ok (b := true) (tb_ok ?_))) rfl) ?_
  · have e : mLc (mSeqI (mVar 0)) (gV 2) (mPure true) (mCall 2 m_is_below (mCons (mVar 2) (mCons (mVar 1) (mPure [])))) [2] [vl (sqD b (xs.map nD)), vl (nD p), none] = .ok (.lst (xs.map fun x => .bl (decide (x < p)))) [vl (sqD b (xs.map nD)), vl (nD p), none] :=
      lc_map xs nD _ (by cases b <;> rfl) rfl (fun x _ => ⟨_, rfl, _, call_ok (ds := [nD x, nD p]) (r := .non) rfl rfl (is_below_nat x p), rfl⟩) (by omega)
    have e2 := all_ok (f := fun x => decide (x < p)) e
    rw [List.all_eq_true.mpr fun x hx => decide_eq_true (lt x hx)] at e2
    exact e2
  · refine ret_ok (m2_ok (x := nD xs.length) (y := nD xs.length) (ρ1 := [vl (sqD b (xs.map nD)), vl (nD p), none]) (m1_ok (x := .dic false (xs.map nD) ([] ++ List.replicate xs.length (.bl true))) ?_ ?_) (m1_ok (x := sqD b (xs.map nD)) rfl ?_) (by rw [feq_int]; simp))
    · refine bind_ok (a := xs.map nD) (ρ1 := [vl (sqD b (xs.map nD)), vl (nD p), none]) (by cases b <;> rfl) ?_
      show (if ownAny [vl (sqD b (xs.map nD)), vl (nD p), none] [2] = true then _ else _) = _
      rw [if_neg (by simp [ownAny])]
      have e := dc_nat (g := gV 2) (mk := mVar 2) (vs := [2]) (ρ := [vl (sqD b (xs.map nD)), vl (nD p), none]) (fun x => ⟨_, rfl, rfl, rfl⟩) xs [] [] nd (by simpa using Nat.le_of_lt hl)
      rw [show wipeE [vl (sqD b (xs.map nD)), vl (nD p), none] [2] = [vl (sqD b (xs.map nD)), vl (nD p), none] from rfl]
      have e' : dcGo (gV 2) (mPure true) (mVar 2) (mPure (.bl true)) [2] (xs.map nD) [] [] [vl (sqD b (xs.map nD)), vl (nD p), none] = _ := e
      rw [e']
      rfl
    · show some (Dt.int ((xs.map nD).length : Int)) = _
      rw [List.length_map]
    · cases b
      · show some (Dt.int ((xs.map nD).length : Int)) = _
        rw [List.length_map]
      · show some (Dt.int ((xs.map nD).length : Int)) = _
        rw [List.length_map]
/-- a row as it is handed in: the turned places and the moves, each a list or a tuple -/
def rowG (b c : Bool) (r : List Nat × List Nat) : Dt := .tup [sqD b (r.1.map nD), sqD c (r.2.map nD)]
theorem is_row_ok (b c : Bool) (r : List Nat × List Nat) (p : Nat) (h : GoodRow p r) (hp : p < 1000) : m_is_row [rowG b c r, nD p] = .ret (.bl true) .non := by
  have h1 := is_unlike_ok b r.1 p h.nd h.lt (Nat.lt_of_le_of_lt h.le (by omega))
  have h2 := is_unlike_ok c r.2 p (h.pm.nodup_iff.mpr List.nodup_range) (fun x hx => List.mem_range.mp (h.pm.mem_iff.mp hx)) (by rw [h.len]; omega)
  refine runF_rt (ρ := [vl (rowG b c r), vl (nD p)]) ?_ rfl
  unfold b_is_row
  refine seq_nx (ρ' := [vl (rowG b c r), vl (nD p)]) (if_f (ρ1 := [vl (rowG b c r), vl (nD p)]) (or_f (ρ1 := [vl (rowG b c r), vl (nD p)]) (not_ok (b := true) rfl) (or_f (ρ1 := [vl (rowG b c r), vl (nD p)]) (tb_ok (m2_ok (x := .int 2) (y := .int 2) (ρ1 := [vl (rowG b c r), vl (nD p)]) rfl rfl (by rw [fne_int]; rfl))) (not_ok (b := true) (tb_ok (call_ok (ds := [sqD b (r.1.map nD), nD p]) (r := .non) rfl rfl h1))))) rfl) ?_
  refine ret_ok (andV_t (ρ1 := [vl (rowG b c r), vl (nD p)]) (call_ok (ds := [sqD c (r.2.map nD), nD p]) (r := .non) rfl rfl h2) (m2_ok (x := nD p) (y := nD p) (ρ1 := [vl (rowG b c r), vl (nD p)]) (m1_ok (x := sqD c (r.2.map nD)) rfl ?_) rfl (by rw [feq_int]; simp)))
  cases c
  · show some (Dt.int ((r.2.map nD).length : Int)) = _
    rw [List.length_map, h.len]
  · show some (Dt.int ((r.2.map nD).length : Int)) = _
    rw [List.length_map, h.len]
/-! ### texts -/
def nS (n : Nat) : Str := (toString (n : Int) : String)
theorem nS_len {n : Nat} (h : n < 10) : (nS n).length ≤ 1 := by
  match n, h with
  | 0, _ => decide
  | 1, _ => decide
  | 2, _ => decide
  | 3, _ => decide
  | 4, _ => decide
  | 5, _ => decide
  | 6, _ => decide
  | 7, _ => decide
  | 8, _ => decide
  | 9, _ => decide
theorem join_len (sep : Str) : ∀ ys : List Str, (Str.join sep ys).length ≤ (ys.map (·.length)).sum + ys.length * sep.length
  | [] => Nat.zero_le _
  | [x] => by
    show x.length ≤ _
    simp only [List.map_cons, List.sum_cons]
    omega
  | x :: y :: r => by
    show (x ++ sep ++ Str.join sep (y :: r)).length ≤ _
    have h := join_len sep (y :: r)
    rw [Str.length_append, Str.length_append, List.map_cons, List.sum_cons, List.length_cons, Nat.succ_mul]
    omega
def wordsS (l : List Nat) : Str := Txt.join (" " : Str) (l.map nS)
theorem sum_le (l : List Nat) (h : ∀ x ∈ l, x < 10) : ((l.map nS).map (·.length)).sum ≤ l.length := by
  induction l with
  | nil => exact Nat.le_refl _
  | cons x r ih =>
    have h1 := nS_len (h x (by simp))
    have h2 := ih fun y hy => h y (by simp [hy])
    simp only [List.map_cons, List.sum_cons, List.length_cons]
    omega
theorem sep_len : ((" " : Str)).length = 1 := by decide
theorem wordsS_len (l : List Nat) (h : ∀ x ∈ l, x < 10) : (wordsS l).length ≤ 2 * l.length := by
  unfold wordsS
  rw [TL.join_eq]
  have h1 := join_len (" " : Str) (l.map nS)
  have h2 := sum_le l h
  rw [List.length_map, sep_len] at h1
  omega
theorem fStr_nat {n : Nat} (h : n < 10) : fStr (nD n) = some (.str (nS n)) := by
  show (if ((n : Int)).natAbs.log2 < 1920 then some (Dt.str _) else none) = _
  rw [if_pos]; rfl
  have : ((n : Int)).natAbs < 10 := by omega
  generalize ((n : Int)).natAbs = k at this
  match k, this with
  | 0, _ => decide
  | 1, _ => decide
  | 2, _ => decide
  | 3, _ => decide
  | 4, _ => decide
  | 5, _ => decide
  | 6, _ => decide
  | 7, _ => decide
  | 8, _ => decide
  | 9, _ => decide
theorem strsOf_map : ∀ l : List Str, strsOf (l.map .str) = some l
  | [] => rfl
  | b :: r => by
    show (strsOf (r.map .str)).map (b :: ·) = _
    rw [strsOf_map r]; rfl
theorem join_ok {m : Mi Dt} {ρ ρ1 : En} {l : List Nat} (h : m ρ = .ok (.lst (l.map fun n => .str (nS n))) ρ1) (hl : ∀ x ∈ l, x < 10) (hz : l.length < 1000) : mJoin (mPure (.str " ")) m ρ = .ok (.str (wordsS l)) ρ1 := by
  refine bind_ok (a := .str (" " : Str)) (ρ1 := ρ) rfl ?_
  dsimp only
  refine bind_ok h ?_
  show mOpt ((strsOf (l.map fun n => Dt.str (nS n))).bind _) _ = _
  have e : (l.map fun n => Dt.str (nS n)) = (l.map nS).map .str := by rw [List.map_map]; rfl
  have h2 := sum_le l hl
  rw [e, strsOf_map, Option.bind_some, if_pos]; rfl
  rw [List.length_map, sep_len]
  omega
theorem js_ok {ρ : En} {s0 s1 : Str} {m : Mi Dt} {r : List (Mi Dt)} {o : Ou Str} (h : m ρ = .ok (.str s1) ρ) (hl : (s0 ++ s1).length ≤ 1000000) (k : mJs r (s0 ++ s1) ρ = o) : mJs (m :: r) s0 ρ = o := by
  refine bind_ok h ?_
  dsimp only
  rw [if_pos (sl_le hl)]
  exact k
theorem joined_ok {ρ ρ1 : En} {s : Str} {ms : List (Mi Dt)} (h : mJs ms Str.empty ρ = .ok s ρ1) : mJoined ms ρ = .ok (.str s) ρ1 := bind_ok h rfl
theorem fmt_str {s : Str} (h : s.length ≤ 1000000) : fFmt (.str s) = some (.str s) := by
  show (if s.length ≤ sizeLine then _ else _) = _
  rw [if_pos (sl_le h)]
theorem fmt_nat {n : Nat} (h : n < 10) : fFmt (nD n) = some (.str (nS n)) := fStr_nat h
def spotS (l : List Nat) : Str := if 0 < l.length then wordsS l else ("none" : Str)
theorem spotS_len (l : List Nat) (h : ∀ x ∈ l, x < 10) : (spotS l).length ≤ 2 * l.length + 4 := by
  unfold spotS
  split
  · have := wordsS_len l h; omega
  · show (("none" : Str)).length ≤ _
    have : (("none" : Str)).length = 4 := by decide
    omega
def lineS (acc : Str) (r : List Nat × List Nat) : Str := ((((Str.empty ++ acc) ++ ("\nturn " : Str)) ++ spotS r.1) ++ (" move " : Str)) ++ wordsS r.2
def txtS (p : Nat) (rs : List (List Nat × List Nat)) : Str := rs.foldl lineS ((Str.empty ++ ("places " : Str)) ++ nS p)
theorem lineS_len (acc : Str) (r : List Nat × List Nat) (h1 : ∀ x ∈ r.1, x < 10) (h2 : ∀ x ∈ r.2, x < 10) (l1 : r.1.length ≤ 10) (l2 : r.2.length ≤ 10) : (lineS acc r).length ≤ acc.length + 60 := by
  unfold lineS
  have e1 : (Str.empty).length = 0 := by decide
  have e2 : (("\nturn " : Str)).length = 6 := by decide
  have e3 : ((" move " : Str)).length = 6 := by decide
  have e4 := spotS_len r.1 h1
  have e5 := wordsS_len r.2 h2
  rw [Str.length_append, Str.length_append, Str.length_append, Str.length_append, Str.length_append]
  omega
structure SmallRow (r : List Nat × List Nat) : Prop where
  a1 : ∀ x ∈ r.1, x < 10
  a2 : ∀ x ∈ r.2, x < 10
  l1 : r.1.length ≤ 10
  l2 : r.2.length ≤ 10
theorem txt_len (p : Nat) (hp : p < 10) : ∀ (rs : List (List Nat × List Nat)), (∀ r ∈ rs, SmallRow r) → ∀ acc : Str, (rs.foldl lineS acc).length ≤ acc.length + 60 * rs.length
  | [], _, acc => Nat.le_refl _
  | r :: rs, h, acc => by
    have h1 := h r (by simp)
    have h2 := lineS_len acc r h1.a1 h1.a2 h1.l1 h1.l2
    have h3 := txt_len p hp rs (fun x hx => h x (by simp [hx])) (lineS acc r)
    rw [List.foldl_cons, List.length_cons]
    omega
theorem text_ok (p : Nat) (hp : p < 10) (rs : List (List Nat × List Nat)) (h : ∀ r ∈ rs, SmallRow r) (hl : rs.length < 100) : m_text_of_rota [nD p, .tup (rs.map rowD)] = .ret (.str (txtS p rs)) .non := by
  have e0 : ((Str.empty ++ ("places " : Str)) ++ nS p).length ≤ 8 := by
    have e1 : (Str.empty).length = 0 := by decide
    have e2 : (("places " : Str)).length = 7 := by decide
    have e3 := nS_len hp
    rw [Str.length_append, Str.length_append]; omega
  have loop := forGo_fold (g := gT (gsC (gV 3) (gsC (gV 4) gsN)) 2) (bd := (sSeq (sSet 5 (mIfE (mB (m2 fGt (m1 fLen (mPeek 3)) (mPure (.int 0)))) (mJoin (mPure (.str " ")) (mLc (mSeqI (mVar 3)) (gV 7) (mPure true) (m1 fStr (mPeek 7)) [7])) (mPure (.str "none"))))
  (sSeq (sSet 6 (mJoin (mPure (.str " ")) (mLc (mSeqI (mVar 4)) (gV 7) (mPure true) (m1 fStr (mPeek 7)) [7])))
  (sSet 2 (mJoined [(m1 fFmt (mVar 2)), (mPure (.str "\nturn ")), (m1 fFmt (mVar 5)), (mPure (.str " move ")), (m1 fFmt (mVar 6))])))))
    rowD (fun (st : Str × (Option Dt × Option Dt × Option Dt × Option Dt)) => [vl (nD p), vl (.tup (rs.map rowD)), vl (.str st.1), lv st.2.1, lv st.2.2.1, lv st.2.2.2.1, lv st.2.2.2.2, none])
    (fun st r => (lineS st.1 r, some (.tup (r.1.map nD)), some (.tup (r.2.map nD)), some (.str (spotS r.1)), some (.str (wordsS r.2)))) rs ((Str.empty ++ ("places " : Str)) ++ nS p, none, none, none, none) (by
      intro pre r post e
      have hr := h r (by rw [e]; simp)
      have hfst : ∀ (l : List (List Nat × List Nat)) (st : Str × (Option Dt × Option Dt × Option Dt × Option Dt)), (l.foldl (fun st r => (lineS st.1 r, some (Dt.tup (r.1.map nD)), some (Dt.tup (r.2.map nD)), some (Dt.str (spotS r.1)), some (Dt.str (wordsS r.2)))) st).1 = l.foldl lineS st.1 := fun l => by
        induction l with
        | nil => intro st; rfl
        | cons x l ih => intro st; rw [List.foldl_cons, ih]; rfl
      have hlen := txt_len p hp pre (fun x hx => h x (by rw [e]; simp [hx])) ((Str.empty ++ ("places " : Str)) ++ nS p)
      have hpl : pre.length < 100 := by
        have := congrArg List.length e
        rw [List.length_append, List.length_cons] at this
        omega
      rw [List.foldl_append, List.foldl_cons, List.foldl_nil]
      have hA := hfst pre ((Str.empty ++ ("places " : Str)) ++ nS p, none, none, none, none)
      generalize pre.foldl _ _ = st at hA ⊢
      obtain ⟨acc, s3, s4, s5, s6⟩ := st
      dsimp only at hA ⊢
      subst hA
      generalize hacc : pre.foldl lineS ((Str.empty ++ ("places " : Str)) ++ nS p) = acc at hlen ⊢
      have hal : acc.length ≤ 10000 := by omega
      refine ⟨[vl (nD p), vl (.tup (rs.map rowD)), vl (.str acc), vl (.tup (r.1.map nD)), vl (.tup (r.2.map nD)), lv s5, lv s6, none], by cases s3 <;> cases s4 <;> rfl, ?_⟩
      have lcw : ∀ (i : Nat) (l : List Nat) (ρ : En), ρ[i]? = some (vl (.tup (l.map nD))) → ρ.length = 8 → ρ[7]? = some none → i ≠ 7 → (∀ x ∈ l, x < 10) → l.length ≤ 10 → mJoin (mPure (.str " ")) (mLc (mSeqI (mVar i)) (gV 7) (mPure true) (m1 fStr (mPeek 7)) [7]) ρ = .ok (.str (wordsS l)) ρ := fun i l ρ e1 e2 e3 e4 e5 e6 => by
        have ew : wipeE ρ [7] = ρ := by
          show ρ.set 7 none = ρ
          apply List.ext_getElem?
          intro j
          by_cases hj : 7 = j
          · subst hj; rw [List.getElem?_set_self (by omega), e3]
          · rw [List.getElem?_set_ne hj]
        refine join_ok ?_ e5 (by omega)
        refine lc_map l nD _ ?_ ?_ (fun x hx => ?_) (by omega)
        · refine bind_ok (a := .tup (l.map nD)) (ρ1 := ρ) ?_ rfl
          unfold mVar; rw [e1]
        · unfold ownAny; rw [e3]; rfl
        · rw [ew]
          refine ⟨ρ.set 7 (vl (nD x)), ?_, ρ.set 7 (vl (nD x)), m1_ok (x := nD x) ?_ (fStr_nat (e5 x hx)), ?_⟩
          · show setSl 7 _ ρ = _
            unfold setSl; rw [e3]
          · unfold mPeek; rw [List.getElem?_set_self (by omega)]
          · show (ρ.set 7 _).set 7 none = ρ
            rw [List.set_set]; exact ew
      refine seq_nx (ρ' := [vl (nD p), vl (.tup (rs.map rowD)), vl (.str acc), vl (.tup (r.1.map nD)), vl (.tup (r.2.map nD)), vl (.str (spotS r.1)), lv s6, none]) (set_ok (d := .str (spotS r.1)) (ρ1 := [vl (nD p), vl (.tup (rs.map rowD)), vl (.str acc), vl (.tup (r.1.map nD)), vl (.tup (r.2.map nD)), lv s5, lv s6, none]) ?_ (by cases s5 <;> rfl)) ?_
      · have et : mB (m2 fGt (m1 fLen (mPeek 3)) (mPure (.int 0))) [vl (nD p), vl (.tup (rs.map rowD)), vl (.str acc), vl (.tup (r.1.map nD)), vl (.tup (r.2.map nD)), lv s5, lv s6, none] = .ok (decide (0 < r.1.length)) [vl (nD p), vl (.tup (rs.map rowD)), vl (.str acc), vl (.tup (r.1.map nD)), vl (.tup (r.2.map nD)), lv s5, lv s6, none] := by
          refine tb_ok (m2_ok (x := nD r.1.length) (y := .int 0) (ρ1 := [vl (nD p), vl (.tup (rs.map rowD)), vl (.str acc), vl (.tup (r.1.map nD)), vl (.tup (r.2.map nD)), lv s5, lv s6, none]) (m1_ok (x := .tup (r.1.map nD)) rfl ?_) rfl ?_)
          · show some (Dt.int ((r.1.map nD).length : Int)) = _
            rw [List.length_map]
          · show some (Dt.bl (decide ((0 : Int) < (r.1.length : Int)))) = _
            rw [show (decide ((0 : Int) < (r.1.length : Int))) = decide (0 < r.1.length) from decide_eq_decide.mpr (by omega)]
        unfold spotS
        by_cases hz : 0 < r.1.length
        · rw [decide_eq_true hz] at et
          rw [if_pos hz]
          exact ife_t et (lcw 3 r.1 _ rfl rfl rfl (by decide) hr.a1 hr.l1)
        · rw [decide_eq_false hz] at et
          rw [if_neg hz]
          exact ife_f et rfl
      · refine seq_nx (ρ' := [vl (nD p), vl (.tup (rs.map rowD)), vl (.str acc), vl (.tup (r.1.map nD)), vl (.tup (r.2.map nD)), vl (.str (spotS r.1)), vl (.str (wordsS r.2)), none]) (set_ok (lcw 4 r.2 _ rfl rfl rfl (by decide) hr.a2 hr.l2) (by cases s6 <;> rfl)) ?_
        have e1 : (Str.empty).length = 0 := by decide
        have e2 : (("\nturn " : Str)).length = 6 := by decide
        have e3 : ((" move " : Str)).length = 6 := by decide
        have e4 := spotS_len r.1 hr.a1
        have e5 := wordsS_len r.2 hr.a2
        have l1 := hr.l1
        have l2 := hr.l2
        refine set_ok (d := .str (lineS acc r)) (joined_ok (js_ok (s1 := acc) (m1_ok rfl (fmt_str (by omega))) ?_ (js_ok (s1 := ("\nturn " : Str)) rfl ?_ (js_ok (s1 := spotS r.1) (m1_ok rfl (fmt_str (by omega))) ?_ (js_ok (s1 := (" move " : Str)) rfl ?_ (js_ok (s1 := wordsS r.2) (m1_ok rfl (fmt_str (by omega))) ?_ rfl)))))) rfl
        all_goals (simp only [Str.length_append]; omega))
  have hfst : ∀ (l : List (List Nat × List Nat)) (st : Str × (Option Dt × Option Dt × Option Dt × Option Dt)), (l.foldl (fun st r => (lineS st.1 r, some (Dt.tup (r.1.map nD)), some (Dt.tup (r.2.map nD)), some (Dt.str (spotS r.1)), some (Dt.str (wordsS r.2)))) st).1 = l.foldl lineS st.1 := fun l => by
    induction l with
    | nil => intro st; rfl
    | cons x l ih => intro st; rw [List.foldl_cons, ih]; rfl
  have hA := hfst rs ((Str.empty ++ ("places " : Str)) ++ nS p, none, none, none, none)
  generalize rs.foldl (fun (st : Str × (Option Dt × Option Dt × Option Dt × Option Dt)) r => (lineS st.1 r, some (Dt.tup (r.1.map nD)), some (Dt.tup (r.2.map nD)), some (Dt.str (spotS r.1)), some (Dt.str (wordsS r.2)))) ((Str.empty ++ ("places " : Str)) ++ nS p, none, none, none, none) = st at hA loop
  obtain ⟨acc, s3, s4, s5, s6⟩ := st
  dsimp only at hA loop
  subst hA
  refine runF_rt (ρ := [vl (nD p), vl (.tup (rs.map rowD)), vl (.str (txtS p rs)), lv s3, lv s4, lv s5, lv s6, none]) ?_ rfl
  unfold b_text_of_rota
  refine seq_nx (ρ' := [vl (nD p), vl (.tup (rs.map rowD)), vl (.str ((Str.empty ++ ("places " : Str)) ++ nS p)), none, none, none, none, none]) (set_ok (joined_ok (js_ok (s1 := ("places " : Str)) rfl ?_ (js_ok (s1 := nS p) (m1_ok rfl (fmt_nat hp)) ?_ rfl))) rfl) ?_
  · rw [Str.length_append] at e0; omega
  · omega
  · refine seq_nx (for_ok (ds := rs.map rowD) rfl loop) ?_
    rfl
end Dl
namespace Dl
open PySem PySem.Spec PyProof.Rows L2
/-! ### a rota is made -/
def srt (rs : List (List Nat × List Nat)) : List (List Nat × List Nat) := rs.map fun r => (sortN r.1, r.2)
def rotaD (p : Nat) (rs : List (List Nat × List Nat)) : Dt := .ins 0 [nD p, .tup (rs.map rowD), .str (txtS p rs)]
theorem GoodRow.small {p : Nat} {r : List Nat × List Nat} (h : GoodRow p r) (hp : p < 10) : SmallRow r := by
  refine ⟨fun x hx => ?_, fun x hx => ?_, ?_, ?_⟩
  · have := h.lt x hx; omega
  · have := List.mem_range.mp (h.pm.mem_iff.mp hx); omega
  · have := h.le; omega
  · have := h.len; omega
theorem GoodRow.srt {p : Nat} {r : List Nat × List Nat} (h : GoodRow p r) : GoodRow p (sortN r.1, r.2) :=
  ⟨(sortN_perm r.1).nodup_iff.mpr h.nd, fun x hx => h.lt x ((sortN_perm r.1).mem_iff.mp hx), h.pm⟩
theorem fput_new {i : Nat} {ix : Nat → Option Nat} {m : Mi Dt} {ρ ρ1 ρ2 : En} {d : Dt} {io0 : Bool} {c : Nat} {ds : List Dt} (h : m ρ = .ok d ρ1) (h1 : ρ1[i]? = some (some (.own io0 (.ins c ds)))) (hx : ix c = some ds.length) (hr : ρ1.set i (some (.own io0 (.ins c (ds ++ [d])))) = ρ2) : sFput i ix m ρ = .nx ρ2 := by
  subst hr
  unfold sFput sBind
  rw [h]; dsimp only
  unfold putFl
  rw [h1]; dsimp only
  rw [hx]; dsimp only
  rw [if_neg (by omega), if_pos rfl]
theorem ints_ok {m : Mi Dt} {ρ : En} {i j : Nat} {l : List Nat} {b : Bool} (h : ρ[i]? = some (vl (sqD b (l.map nD)))) (hj : ρ[j]? = some none) (hl : l.length ≤ 1000) : mLc (mSeqI (mVar i)) (gV j) (mPure true) (m1 fInt (mPeek j)) [j] ρ = .ok (.lst (l.map nD)) ρ := by
  have hlt : j < ρ.length := (List.getElem?_eq_some_iff.mp hj).1
  have ew : wipeE ρ [j] = ρ := by
    show ρ.set j none = ρ
    apply List.ext_getElem?
    intro k
    by_cases hk : j = k
    · subst hk; rw [List.getElem?_set_self hlt, hj]
    · rw [List.getElem?_set_ne hk]
  refine lc_map l nD _ ?_ ?_ (fun x hx => ?_) (by omega)
  · refine bind_ok (a := sqD b (l.map nD)) (ρ1 := ρ) ?_ (by cases b <;> rfl)
    unfold mVar; rw [h]
  · unfold ownAny; rw [hj]; rfl
  · rw [ew]
    refine ⟨ρ.set j (vl (nD x)), ?_, ρ.set j (vl (nD x)), m1_ok (x := nD x) ?_ rfl, ?_⟩
    · show setSl j _ ρ = _
      unfold setSl; rw [hj]
    · unfold mPeek; rw [List.getElem?_set_self hlt]
    · show (ρ.set j _).set j none = ρ
      rw [List.set_set]; exact ew
theorem rota_init (b c : Bool) (p : Nat) (rs : List (List Nat × List Nat)) (h0 : 0 < p) (hp : p < 10) (h1 : 0 < rs.length) (h2 : rs.length < 100) (hg : ∀ r ∈ rs, GoodRow p r) :
    m_Rota_init [.ins 0 [], nD p, .lst (rs.map (rowG b c))] = .ret .non (rotaD p (srt rs)) := by
  have ht := text_ok p hp (srt rs) (fun r hr => by
    obtain ⟨q, hq, rfl⟩ := List.mem_map.mp hr
    exact (hg q hq).srt.small hp) (by unfold srt; rw [List.length_map]; exact h2)
  generalize hR : Dt.lst (rs.map (rowG b c)) = R
  refine runF_nx (ρ := [io (rotaD p (srt rs)), vl (nD p), vl R, none, none, none, none]) ?_ rfl
  unfold b_Rota_init
  refine seq_nx (ρ' := [io (.ins 0 []), vl (nD p), vl R, none, none, none, none]) (if_f (ρ1 := [io (.ins 0 []), vl (nD p), vl R, none, none, none, none]) (not_ok (b := true) (tb_ok (call_ok (ds := [nD p, .int 1]) (r := .non) rfl rfl (by rw [is_from_int, decide_eq_true (by omega)])))) rfl) ?_
  refine seq_nx (ρ' := [io (.ins 0 []), vl (nD p), vl R, none, none, none, none]) (if_f (ρ1 := [io (.ins 0 []), vl (nD p), vl R, none, none, none, none]) (or_f (ρ1 := [io (.ins 0 []), vl (nD p), vl R, none, none, none, none]) (not_ok (b := true) (tb_ok (call_ok (ds := [R]) (r := .non) rfl rfl (by rw [← hR]; rfl)))) (or_f (ρ1 := [io (.ins 0 []), vl (nD p), vl R, none, none, none, none]) (tb_ok (m2_ok (x := nD rs.length) (y := .int 0) (ρ1 := [io (.ins 0 []), vl (nD p), vl R, none, none, none, none]) (m1_ok (x := R) rfl ?_) rfl ?_)) (not_ok (b := true) (tb_ok ?_)))) rfl) ?_
  · rw [← hR]
    show some (Dt.int ((rs.map (rowG b c)).length : Int)) = _
    rw [List.length_map]
  · rw [feq_int, decide_eq_false (by omega)]
  · have e : mLc (mSeqI (mVar 2)) (gV 3) (mPure true) (mCall 2 m_is_row (mCons (mVar 3) (mCons (mVar 1) (mPure [])))) [3] [io (.ins 0 []), vl (nD p), vl R, none, none, none, none] = .ok (.lst (rs.map fun r => .bl true)) [io (.ins 0 []), vl (nD p), vl R, none, none, none, none] :=
      lc_map rs (rowG b c) _ (by rw [← hR]; rfl) rfl (fun r hr => ⟨_, rfl, _, call_ok (ds := [rowG b c r, nD p]) (r := .non) rfl rfl (is_row_ok b c r p (hg r hr) (by omega)), rfl⟩) (by omega)
    have e2 := all_ok (f := fun _ => true) e
    rw [List.all_eq_true.mpr fun x hx => rfl] at e2
    exact e2
  · refine seq_nx (ρ' := [io (.ins 0 [nD p]), vl (nD p), vl R, none, none, none, none]) (fput_new (d := nD p) (c := 0) (ds := []) rfl rfl rfl rfl) ?_
    refine seq_nx (ρ' := [io (.ins 0 [nD p, .tup ((srt rs).map rowD)]), vl (nD p), vl R, none, none, none, none]) (fput_new (d := .tup ((srt rs).map rowD)) (c := 0) (ds := [nD p]) (ρ1 := [io (.ins 0 [nD p]), vl (nD p), vl R, none, none, none, none]) (m1_ok (x := .lst ((srt rs).map rowD)) ?_ rfl) rfl rfl rfl) ?_
    · have e := lc_map (g := gT (gsC (gV 4) (gsC (gV 5) gsN)) 2) (e := (mTup (mCons (m1 fTuple (m1N fSorted (mLc (mSeqI (mVar 4)) (gV 6) (mPure true) (m1 fInt (mPeek 6)) [6]))) (mCons (m1 fTuple (mPeek 5)) (mPure []))))) (vs := [4, 5]) (mi := mSeqI (mVar 2)) (ρ := [io (.ins 0 [nD p]), vl (nD p), vl R, none, none, none, none]) (ρ0 := [io (.ins 0 [nD p]), vl (nD p), vl R, none, none, none, none]) rs (rowG b c) (fun r => rowD (sortN r.1, r.2)) (by rw [← hR]; rfl) rfl (fun r hr => by
        refine ⟨[io (.ins 0 [nD p]), vl (nD p), vl R, none, vl (sqD b (r.1.map nD)), vl (sqD c (r.2.map nD)), none], rfl, _, tup_ok (cons_ok (ρ1 := [io (.ins 0 [nD p]), vl (nD p), vl R, none, vl (sqD b (r.1.map nD)), vl (sqD c (r.2.map nD)), none]) (m1_ok (x := .lst ((sortN r.1).map nD)) (m1N_ok (x := .lst (r.1.map nD)) (ints_ok (m := mPure .non) (b := b) rfl rfl (by have := (hg r hr).le; omega)) (sorted_nat r.1)) rfl) (cons_ok (m1_ok (x := sqD c (r.2.map nD)) (z := .tup (r.2.map nD)) rfl (by cases c <;> rfl)) rfl)) (sl_le (by simp)), rfl⟩) (by omega)
      have e3 : (srt rs).map rowD = rs.map fun r => rowD (sortN r.1, r.2) := by unfold srt; rw [List.map_map]; rfl
      rw [e3]
      exact e
    · exact fput_new (d := .str (txtS p (srt rs))) (c := 0) (ds := [nD p, .tup ((srt rs).map rowD)]) (ρ1 := [io (.ins 0 [nD p, .tup ((srt rs).map rowD)]), vl (nD p), vl R, none, none, none, none]) (call_ok (ds := [nD p, .tup ((srt rs).map rowD)]) (r := .non) rfl rfl ht) rfl rfl rfl
theorem made_ok (p : Nat) (rs : List (List Nat × List Nat)) (h0 : 0 < p) (hp : p < 10) (h1 : 0 < rs.length) (h2 : rs.length < 100) (hg : ∀ r ∈ rs, GoodRow p r) : m_law_made [toldD p rs] = .ret (rotaD p (srt rs)) .non := by
  refine runF_rt (ρ := [vl (toldD p rs), none, none]) (ret_ok (make_ok (ds := [nD p, .lst (rs.map (rowG true true))]) (cons_ok rfl (cons_ok ?_ rfl)) rfl (rota_init true true p rs h0 hp h1 h2 hg))) rfl
  exact lc_map rs trowD _ rfl rfl (fun r hr => ⟨[vl (toldD p rs), vl (.lst (r.1.map nD)), vl (.lst (r.2.map nD))], rfl, _, tup_ok (cons_ok (m1_ok rfl rfl) (cons_ok (m1_ok rfl rfl) rfl)) (sl_le (by simp)), rfl⟩) (by omega)
end Dl
namespace Dl
open PySem PySem.Spec PyProof.Rows L2
/-! ### the ways of wheels, as mathematics -/
abbrev Rw := List Nat × List Nat
def mvR (r : Rw) (s : Nat) : Nat := r.2.getD s 0
def rowAt (rs : List Rw) (d : Nat) : Rw := rs.getD (d % rs.length) ([], [])
def pos (rs : List Rw) (w : Nat) : Nat → Nat
  | 0 => w
  | d + 1 => mvR (rowAt rs d) (pos rs w d)
structure Good (p : Nat) (rs : List Rw) : Prop where
  n0 : 0 < rs.length
  row : ∀ r ∈ rs, GoodRow p r
variable {p : Nat} {rs : List Rw}
theorem Good.at (h : Good p rs) (d : Nat) : GoodRow p (rowAt rs d) := by
  unfold rowAt
  have hd : d % rs.length < rs.length := Nat.mod_lt _ h.n0
  rw [List.getD_eq_getElem?_getD, List.getElem?_eq_getElem hd]
  exact h.row _ (List.getElem_mem hd)
theorem mvR_lt {r : Rw} (h : GoodRow p r) {s : Nat} (hs : s < p) : mvR r s < p ∧ r.2[s]? = some (mvR r s) := by
  have hl : s < r.2.length := by rw [h.len]; exact hs
  unfold mvR
  rw [List.getD_eq_getElem?_getD, List.getElem?_eq_getElem hl]
  exact ⟨List.mem_range.mp (h.pm.mem_iff.mp (List.getElem_mem hl)), rfl⟩
theorem mvR_inj {r : Rw} (h : GoodRow p r) {a b : Nat} (ha : a < p) (hb : b < p) (e : mvR r a = mvR r b) : a = b := by
  have h1 := (mvR_lt h ha).2
  have h2 := (mvR_lt h hb).2
  have nd : r.2.Nodup := h.pm.nodup_iff.mpr List.nodup_range
  have la : a < r.2.length := by rw [h.len]; exact ha
  have lb : b < r.2.length := by rw [h.len]; exact hb
  rw [List.getElem?_eq_getElem la] at h1
  rw [List.getElem?_eq_getElem lb] at h2
  have e3 : r.2[a] = r.2[b] := by rw [Option.some.inj h1, Option.some.inj h2]; exact e
  exact (List.getElem_inj nd).mp e3
theorem pos_lt (h : Good p rs) {w : Nat} (hw : w < p) : ∀ d, pos rs w d < p
  | 0 => hw
  | d + 1 => (mvR_lt (h.at d) (pos_lt h hw d)).1
theorem pos_inj (h : Good p rs) {a b : Nat} (ha : a < p) (hb : b < p) : ∀ d, pos rs a d = pos rs b d → a = b
  | 0, e => e
  | d + 1, e => pos_inj h ha hb d (mvR_inj (h.at d) (pos_lt h ha d) (pos_lt h hb d) e)
theorem pos_shift (w k : Nat) : ∀ d, pos rs (pos rs w (rs.length * k)) d = pos rs w (rs.length * k + d)
  | 0 => rfl
  | d + 1 => by
    show mvR (rowAt rs d) (pos rs (pos rs w (rs.length * k)) d) = mvR (rowAt rs (rs.length * k + d)) (pos rs w (rs.length * k + d))
    rw [pos_shift w k d]
    unfold rowAt
    rw [Nat.mul_add_mod]
theorem pigeon (f : Nat → Nat) (p : Nat) (h : ∀ i, i ≤ p → f i < p) : ∃ i j, i < j ∧ j ≤ p ∧ f i = f j := by
  apply Classical.byContradiction
  intro hn
  have hd : ∀ i j, i < j → j ≤ p → f i ≠ f j := fun i j h1 h2 e => hn ⟨i, j, h1, h2, e⟩
  have nd : ((List.range (p + 1)).map f).Nodup := by
    rw [List.nodup_iff_pairwise_ne, List.pairwise_map]
    refine List.Pairwise.imp_of_mem (fun {a b} ha hb hab => ?_) (List.pairwise_lt_range (n := p + 1))
    have := List.mem_range.mp hb
    exact hd a b hab (by omega)
  have := nodup_le p _ nd fun x hx => by
    obtain ⟨i, hi, rfl⟩ := List.mem_map.mp hx
    have := List.mem_range.mp hi
    exact h i (by omega)
  rw [List.length_map, List.length_range] at this
  omega
theorem back (h : Good p rs) {w : Nat} (hw : w < p) : ∃ j, j < p ∧ pos rs w (rs.length * (j + 1)) = w := by
  obtain ⟨i, j, h1, h2, e⟩ := pigeon (fun k => pos rs w (rs.length * k)) p fun k _ => pos_lt h hw _
  have e2 : pos rs (pos rs w (rs.length * (j - i))) (rs.length * i) = pos rs w (rs.length * i) := by
    rw [pos_shift, ← Nat.mul_add, show j - i + i = j by omega]; exact e.symm
  have e3 := pos_inj h (pos_lt h hw _) hw _ e2
  exact ⟨j - i - 1, by omega, by rw [show j - i - 1 + 1 = j - i by omega]; exact e3⟩
/-- the turn in which a wheel is first on its place again -/
def firstT (p : Nat) (rs : List Rw) (w : Nat) : Nat := ((List.range p).find? fun j => decide (pos rs w (rs.length * (j + 1)) = w)).getD 0
def rnd (p : Nat) (rs : List Rw) (w : Nat) : Nat := rs.length * (firstT p rs w + 1)
theorem firstT_ok (h : Good p rs) {w : Nat} (hw : w < p) : ∃ post, List.range p = List.range (firstT p rs w) ++ firstT p rs w :: post ∧ pos rs w (rs.length * (firstT p rs w + 1)) = w ∧ ∀ j, j < firstT p rs w → pos rs w (rs.length * (j + 1)) ≠ w := by
  obtain ⟨j, hj, e⟩ := back h hw
  cases hf : (List.range p).find? fun j => decide (pos rs w (rs.length * (j + 1)) = w) with
  | none =>
    rw [List.find?_eq_none] at hf
    exact absurd (hf j (List.mem_range.mpr hj)) (by simp [e])
  | some k =>
    have ek : firstT p rs w = k := by unfold firstT; rw [hf]; rfl
    rw [ek]
    obtain ⟨h1, as, bs, h2, h3⟩ := List.find?_eq_some_iff_append.mp hf
    have hlen : as.length < p := by
      have := congrArg List.length h2
      rw [List.length_range, List.length_append, List.length_cons] at this
      omega
    have hk : as.length = k := by
      have e1 : (List.range p)[as.length]? = some k := by rw [h2]; simp
      rw [List.getElem?_range hlen] at e1
      exact Option.some.inj e1
    have ha : as = List.range k := by
      have e1 : (List.range p).take as.length = as := by rw [h2]; simp
      rw [List.take_range, Nat.min_eq_left (by omega), hk] at e1
      exact e1.symm
    subst ha
    refine ⟨bs, h2, of_decide_eq_true h1, fun j hj z => ?_⟩
    have := h3 j (List.mem_range.mpr hj)
    simp [z] at this
theorem rnd_pos (h : Good p rs) (w : Nat) : 0 < rnd p rs w := Nat.mul_pos h.n0 (Nat.succ_pos _)
theorem firstT_lt (h : Good p rs) {w : Nat} (hw : w < p) : firstT p rs w < p := by
  obtain ⟨post, h1, _⟩ := firstT_ok h hw
  have := congrArg List.length h1
  rw [List.length_range, List.length_append, List.length_cons, List.length_range] at this
  omega
theorem rnd_le (h : Good p rs) {w : Nat} (hw : w < p) : rnd p rs w ≤ rs.length * p := Nat.mul_le_mul_left _ (firstT_lt h hw)
theorem pos_rnd (h : Good p rs) {w : Nat} (hw : w < p) : pos rs w (rnd p rs w) = w := by
  obtain ⟨_, _, h2, _⟩ := firstT_ok h hw
  exact h2
theorem pos_per (h : Good p rs) {w : Nat} (hw : w < p) (d : Nat) : pos rs w (rnd p rs w + d) = pos rs w d := by
  have e : pos rs (pos rs w (rnd p rs w)) d = pos rs w (rnd p rs w + d) := pos_shift (rs := rs) w (firstT p rs w + 1) d
  rw [← e, pos_rnd h hw]
theorem pos_per_mul (h : Good p rs) {w : Nat} (hw : w < p) (d : Nat) : ∀ k, pos rs w (rnd p rs w * k + d) = pos rs w d
  | 0 => by rw [Nat.mul_zero, Nat.zero_add]
  | k + 1 => by rw [Nat.mul_succ, Nat.add_right_comm, Nat.add_comm _ (rnd p rs w), pos_per h hw, pos_per_mul h hw d k]
theorem pos_mod (h : Good p rs) {w : Nat} (hw : w < p) (d : Nat) : pos rs w (d % rnd p rs w) = pos rs w d := by
  have e := pos_per_mul h hw (d % rnd p rs w) (d / rnd p rs w)
  rw [Nat.div_add_mod] at e
  exact e.symm
/-- the way of a wheel -/
def wayL (p : Nat) (rs : List Rw) (w : Nat) : List Nat := (List.range (rnd p rs w)).map (pos rs w)
theorem wayL_len (w : Nat) : (wayL p rs w).length = rnd p rs w := by unfold wayL; rw [List.length_map, List.length_range]
/-! ### due days -/
def isDue (rs : List Rw) (w d : Nat) : Bool := decide (pos rs w d ∈ (rowAt rs d).1)
theorem due_mod (h : Good p rs) {w : Nat} (hw : w < p) (d : Nat) : isDue rs w (d % rnd p rs w) = isDue rs w d := by
  unfold isDue
  rw [pos_mod h hw]
  unfold rowAt rnd
  rw [Nat.mod_mul_right_mod]
def dueL (p : Nat) (rs : List Rw) (w : Nat) : List Nat := (List.range (rnd p rs w)).filter (isDue rs w)
end Dl
namespace Dl
open PySem PySem.Spec PyProof.Rows L2
theorem forGo_ret {α : Type} {g : Dt → En → Option En} {bd : En → So} (f : α → Dt) (I : List α → En → Prop) {d : Dt} : ∀ (xs pre : List α) (x : α) (post : List α) (ρ : En), I pre ρ → (∀ (p : List α) (y : α) (q : List α) (ρ : En), pre ++ xs = p ++ y :: q → I p ρ → ∃ ρ1, g (f y) ρ = some ρ1 ∧ ∃ ρ2, (bd ρ1 = .nx ρ2 ∨ bd ρ1 = .ct ρ2) ∧ I (p ++ [y]) ρ2) →
    (∀ ρ, I (pre ++ xs) ρ → ∃ ρ1, g (f x) ρ = some ρ1 ∧ ∃ ρ2, bd ρ1 = .rt d ρ2) → ∃ ρ', forGo g bd ((xs ++ x :: post).map f) ρ = .rt d ρ'
  | [], pre, x, post, ρ, h0, _, hx => by
    obtain ⟨ρ1, h1, ρ2, h2⟩ := hx ρ (by rw [List.append_nil]; exact h0)
    refine ⟨ρ2, ?_⟩
    show forGo g bd (f x :: post.map f) ρ = _
    unfold forGo
    rw [h1]; dsimp only; rw [h2]
  | y :: xs, pre, x, post, ρ, h0, h, hx => by
    obtain ⟨ρ1, h1, ρ2, h2, h3⟩ := h pre y xs ρ rfl h0
    obtain ⟨ρ', h4⟩ := forGo_ret f I xs (pre ++ [y]) x post ρ2 h3 (fun p z q r e => h p z q r (by rw [← e, List.append_assoc]; rfl)) fun r hr => hx r (by rw [List.append_assoc] at hr; exact hr)
    refine ⟨ρ', ?_⟩
    show forGo g bd (f y :: (xs ++ x :: post).map f) ρ = _
    unfold forGo
    rw [h1]; dsimp only
    rcases h2 with h2 | h2 <;> rw [h2] <;> exact h4
variable {p : Nat} {rs : List Rw}
theorem need_wheel_ok {w : Nat} (hw : w < p) : m_need_wheel [rotaD p rs, nD w] = .ret .non .non := by
  refine runF_nx (ρ := [vl (rotaD p rs), vl (nD w)]) ?_ rfl
  refine if_f (ρ1 := [vl (rotaD p rs), vl (nD w)]) (not_ok (b := true) (tb_ok (call_ok (ds := [nD w, nD p]) (r := .non) rfl rfl ?_))) rfl
  rw [is_below_nat, decide_eq_true hw]
theorem rowAt_of (h : Good p rs) {pre post : List Rw} {r : Rw} (e : rs = pre ++ r :: post) (j : Nat) : rowAt rs (rs.length * j + pre.length) = r := by
  unfold rowAt
  have hl : pre.length < rs.length := by rw [e, List.length_append, List.length_cons]; omega
  rw [Nat.mul_add_mod, Nat.mod_eq_of_lt hl, List.getD_eq_getElem?_getD]
  rw [show rs[pre.length]? = some r by rw [e]; simp]
  rfl
theorem way_ok (h : Good p rs) (hl : rs.length < 1000) (hp : p < 100) {w : Nat} (hw : w < p) : m_way [rotaD p rs, nD w] = .ret (.tup ((wayL p rs w).map nD)) .non := by
  let bi : En → So := (sSeq (sDrop (ownLst 2 (mAppend 2 (mVar 3)))) (sSet 3 (hasSl 6 (mIxV 6 (mVar 3)))))
  let gi : Dt → En → Option En := gT (gsC (gV 5) (gsC (gV 6) gsN)) 2
  let fd : Nat → Dt := fun k => .lst (((List.range k).map (pos rs w)).map nD)
  have inner : ∀ (j : Nat) (s4 s5 s6 : Option Dt), j < p → ∃ s5' s6', forGo gi bi (rs.map rowD) [vl (rotaD p rs), vl (nD w), ow (fd (rs.length * j)), vl (nD (pos rs w (rs.length * j))), lv s4, lv s5, lv s6] = .nx [vl (rotaD p rs), vl (nD w), ow (fd (rs.length * (j + 1))), vl (nD (pos rs w (rs.length * (j + 1)))), lv s4, lv s5', lv s6'] := fun j s4 s5 s6 hj => by
    obtain ⟨ρ', e1, s5', s6', e2⟩ := forGo_inv (g := gi) (bd := bi) rowD (fun pre ρ => ∃ s5 s6, ρ = [vl (rotaD p rs), vl (nD w), ow (fd (rs.length * j + pre.length)), vl (nD (pos rs w (rs.length * j + pre.length))), lv s4, lv s5, lv s6]) rs [] _ ⟨s5, s6, rfl⟩ (by
      rintro pre r post ρ e ⟨s5, s6, rfl⟩
      rw [List.nil_append] at e
      have hr : rowAt rs (rs.length * j + pre.length) = r := rowAt_of h e j
      have hg : GoodRow p r := h.row r (by rw [e]; simp)
      have hs := mvR_lt hg (pos_lt h hw (rs.length * j + pre.length))
      have hb : rs.length * j + pre.length < 1000000 := by
        have h1 : pre.length < rs.length := by rw [e, List.length_append, List.length_cons]; omega
        have h2 : rs.length * j ≤ 1000 * 100 := Nat.mul_le_mul (by omega) (by omega)
        omega
      refine ⟨[vl (rotaD p rs), vl (nD w), ow (fd (rs.length * j + pre.length)), vl (nD (pos rs w (rs.length * j + pre.length))), lv s4, vl (.tup (r.1.map nD)), vl (.tup (r.2.map nD))], by cases s5 <;> cases s6 <;> rfl, [vl (rotaD p rs), vl (nD w), ow (fd (rs.length * j + pre.length + 1)), vl (nD (pos rs w (rs.length * j + pre.length + 1))), lv s4, vl (.tup (r.1.map nD)), vl (.tup (r.2.map nD))], .inl ?_, some (.tup (r.1.map nD)), some (.tup (r.2.map nD)), ?_⟩
      · refine seq_nx (ρ' := [vl (rotaD p rs), vl (nD w), ow (fd (rs.length * j + pre.length + 1)), vl (nD (pos rs w (rs.length * j + pre.length))), lv s4, vl (.tup (r.1.map nD)), vl (.tup (r.2.map nD))]) (drop_ok (append_ok (es := ((List.range (rs.length * j + pre.length)).map (pos rs w)).map nD) (ds := ((List.range (rs.length * j + pre.length)).map (pos rs w)).map nD) (d := nD (pos rs w (rs.length * j + pre.length))) (ρ1 := [vl (rotaD p rs), vl (nD w), ow (fd (rs.length * j + pre.length)), vl (nD (pos rs w (rs.length * j + pre.length))), lv s4, vl (.tup (r.1.map nD)), vl (.tup (r.2.map nD))]) rfl rfl rfl (by rw [List.length_map, List.length_map, List.length_range]; exact hb) ?_)) (set_ok (d := nD (pos rs w (rs.length * j + pre.length + 1))) (ρ1 := [vl (rotaD p rs), vl (nD w), ow (fd (rs.length * j + pre.length + 1)), vl (nD (pos rs w (rs.length * j + pre.length))), lv s4, vl (.tup (r.1.map nD)), vl (.tup (r.2.map nD))]) ?_ rfl)
        · show [_, _, ow (Dt.lst (_ ++ [_])), _, _, _, _] = [_, _, ow (fd _), _, _, _, _]
          show _ = [_, _, ow (Dt.lst (((List.range (rs.length * j + pre.length + 1)).map (pos rs w)).map nD)), _, _, _, _]
          rw [List.range_succ, List.map_append, List.map_append]; rfl
        · show mIxV 6 (mVar 3) _ = _
          refine bind_ok rfl (bind_ok (a := .tup (r.2.map nD)) rfl ?_)
          show mOpt (atI (r.2.map nD) ((pos rs w (rs.length * j + pre.length) : Nat) : Int)) _ = _
          rw [atI_map nD r.2 _ hs.2]
          show Ou.ok (nD (mvR r (pos rs w (rs.length * j + pre.length)))) _ = _
          rw [show pos rs w (rs.length * j + pre.length + 1) = mvR (rowAt rs (rs.length * j + pre.length)) (pos rs w (rs.length * j + pre.length)) from rfl, hr]
      · rw [List.length_append, List.length_singleton, Nat.add_assoc]; rfl)
    subst e2
    exact ⟨s5', s6', e1⟩
  obtain ⟨post, hr, hw1, hw2⟩ := firstT_ok h hw
  let bo : En → So := (sSeq (sFor (mSeqI (m1 (fAttr ix_rows) (mPeek 0))) gi bi) (sIf (mB (m2 fEq (mVar 3) (mPeek 1))) (sRet (m1 fTuple (mPeek 2))) (fun ρ => .nx ρ)))
  have fl := firstT_lt h hw
  obtain ⟨ρ', e⟩ := forGo_ret (g := gV 4) (bd := bo) nD (fun pre ρ => ∃ s4 s5 s6, ρ = [vl (rotaD p rs), vl (nD w), ow (fd (rs.length * pre.length)), vl (nD (pos rs w (rs.length * pre.length))), lv s4, lv s5, lv s6]) (d := .tup ((wayL p rs w).map nD)) (List.range (firstT p rs w)) [] (firstT p rs w) post
    [vl (rotaD p rs), vl (nD w), ow (.lst []), vl (nD w), none, none, none] ⟨none, none, none, rfl⟩ (by
      rintro pre x q ρ e ⟨s4, s5, s6, rfl⟩
      rw [List.nil_append] at e
      have hpl : pre.length < firstT p rs w := by
        have := congrArg List.length e
        rw [List.length_range, List.length_append, List.length_cons] at this
        omega
      obtain ⟨s5', s6', e2⟩ := inner pre.length (some (nD x)) s5 s6 (by omega)
      refine ⟨_, by cases s4 <;> rfl, [vl (rotaD p rs), vl (nD w), ow (fd (rs.length * (pre.length + 1))), vl (nD (pos rs w (rs.length * (pre.length + 1)))), vl (nD x), lv s5', lv s6'], .inl ?_, some (nD x), s5', s6', by rw [List.length_append]; rfl⟩
      refine seq_nx (for_ok (ds := rs.map rowD) rfl e2) (if_f (tb_ok (m2_ok rfl rfl ?_)) rfl)
      rw [feq_int, decide_eq_false]
      have := hw2 pre.length hpl
      omega) (by
      rintro ρ ⟨s4, s5, s6, rfl⟩
      rw [List.nil_append, List.length_range]
      obtain ⟨s5', s6', e2⟩ := inner (firstT p rs w) (some (nD (firstT p rs w))) s5 s6 fl
      refine ⟨_, by cases s4 <;> rfl, _, seq_nx (for_ok (ds := rs.map rowD) rfl e2) (if_t (tb_ok (m2_ok rfl rfl ?_)) (ret_ok (m1_ok (x := fd (rnd p rs w)) rfl rfl)))⟩
      rw [feq_int, decide_eq_true]
      rw [hw1])
  rw [← hr] at e
  refine runF_rt (ρ := ρ') ?_ rfl
  unfold b_way
  refine seq_nx (ρ' := [vl (rotaD p rs), vl (nD w), ow (.lst []), vl (nD w), none, none, none]) rfl (seq_rt (for_ok (rngN_ok (N := p) rfl (by omega)) e))
theorem rnd_small (h : Good p rs) (hl : rs.length < 1000) (hp : p < 100) {w : Nat} (hw : w < p) : rnd p rs w < 100000 := by
  have h1 := rnd_le h hw
  have h2 : rs.length * p ≤ 999 * 99 := Nat.mul_le_mul (by omega) (by omega)
  omega
theorem round_ok (h : Good p rs) (hl : rs.length < 1000) (hp : p < 100) {w : Nat} (hw : w < p) : m_round_days [rotaD p rs, nD w] = .ret (nD (rnd p rs w)) .non := by
  refine runF_rt (ρ := [vl (rotaD p rs), vl (nD w)]) (seq_nx (ρ' := [vl (rotaD p rs), vl (nD w)]) (drop_ok (call_ok (ds := [rotaD p rs, nD w]) (r := .non) rfl rfl (need_wheel_ok hw))) (ret_ok (m1_ok (call_ok (ds := [rotaD p rs, nD w]) (r := .non) rfl rfl (way_ok h hl hp hw)) ?_))) rfl
  show some (Dt.int (((wayL p rs w).map nD).length : Int)) = _
  rw [List.length_map, wayL_len]
theorem fMod_nat (a b : Nat) (h : 0 < b) : fMod (nD a) (nD b) = some (nD (a % b)) := by
  show (if (0 : Int) < (b : Int) then some (Dt.int ((a : Int) % (b : Int))) else none) = _
  rw [if_pos (by omega)]; rfl
theorem find_one {p : Nat} {f : Nat → Nat} (hf : ∀ a b, a < p → b < p → f a = f b → a = b) {w : Nat} (hw : w < p) : (List.range p).filter (fun v => decide (f v = f w)) = [w] := by
  have h1 : ∀ n, n ≤ p → (List.range n).filter (fun v => decide (f v = f w)) = if w < n then [w] else [] := fun n => by
    induction n with
    | zero => intro _; rfl
    | succ n ih =>
      intro hn
      rw [List.range_succ, List.filter_append, ih (by omega)]
      by_cases e : n = w
      · subst e
        rw [if_neg (by omega), if_pos (by omega)]
        simp
      · have ne : f n ≠ f w := fun z => e (hf n w (by omega) hw z)
        rw [List.filter_cons_of_neg (by simpa using ne)]
        by_cases hlt : w < n
        · rw [if_pos hlt, if_pos (by omega)]; rfl
        · rw [if_neg hlt, if_neg (by omega)]; rfl
  rw [h1 p (Nat.le_refl _), if_pos hw]
end Dl
namespace Dl
open PySem PySem.Spec PyProof.Rows L2
/-! ### data that are compared -/
inductive Flt : Nat → Dt → Prop
  | non {k : Nat} : Flt k .non
  | bl {k : Nat} (b : Bool) : Flt k (.bl b)
  | int {k : Nat} (i : Int) : Flt k (.int i)
  | str {k : Nat} {x : Str} (h : PyData.canLay0 (.str x) = true) : Flt k (.str x)
  | lst {k : Nat} {xs : List Dt} (h : ∀ x ∈ xs, Flt k x) : Flt (k + 1) (.lst xs)
  | tup {k : Nat} {xs : List Dt} (h : ∀ x ∈ xs, Flt k x) : Flt (k + 1) (.tup xs)
structure PyOk (k : Nat) (d : Dt) (p : PyData) : Prop where
  e : toPy d = some p
  lay : p.canLay0 = true
  dep : p.depth ≤ k
  refl : PyData.eqv p p = true
theorem pys_of {k : Nat} : ∀ {xs : List Dt}, (∀ x ∈ xs, ∃ p, PyOk k x p) → ∃ ps, toPys xs = some ps ∧ PyData.canLayAll0 ps = true ∧ PyData.depthAll ps ≤ k ∧ PyData.eqvAll ps ps = true
  | [], _ => ⟨[], rfl, by simp [PyData.canLayAll0], by simp [PyData.depthAll], by simp [PyData.eqvAll]⟩
  | x :: xs, h => by
    obtain ⟨p, h1⟩ := h x (by simp)
    obtain ⟨ps, h2, h3, h4, h5⟩ := pys_of (xs := xs) fun y hy => h y (by simp [hy])
    refine ⟨p :: ps, ?_, ?_, ?_, ?_⟩
    · unfold toPys; rw [h1.e, h2]
    · simp [PyData.canLayAll0, h1.lay, h3]
    · simp only [PyData.depthAll]; have := h1.dep; omega
    · simp [PyData.eqvAll, h1.refl, h5]
theorem Flt.py {k : Nat} {d : Dt} (h : Flt k d) : ∃ p, PyOk k d p := by
  induction h with
  | non => exact ⟨.none, rfl, by simp [PyData.canLay0], by simp [PyData.depth], by simp [PyData.eqv]⟩
  | bl b => exact ⟨.bool b, rfl, by simp [PyData.canLay0], by simp [PyData.depth], by simp [PyData.eqv]⟩
  | int i => exact ⟨.int i, rfl, by simp [PyData.canLay0], by simp [PyData.depth], by simp [PyData.eqv]⟩
  | @str k x h => exact ⟨.str x, rfl, h, by simp [PyData.depth], by simp [PyData.eqv]⟩
  | @lst k xs h ih =>
    obtain ⟨ps, h1, h2, h3, h4⟩ := pys_of ih
    exact ⟨.list ps, by unfold toPy; rw [h1]; rfl, by simpa [PyData.canLay0] using h2, by simp only [PyData.depth]; omega, by simpa [PyData.eqv] using h4⟩
  | @tup k xs h ih =>
    obtain ⟨ps, h1, h2, h3, h4⟩ := pys_of ih
    exact ⟨.tuple ps, by unfold toPy; rw [h1]; rfl, by simpa [PyData.canLay0] using h2, by simp only [PyData.depth]; omega, by simpa [PyData.eqv] using h4⟩
theorem PyOk.shaped {k : Nat} {d : Dt} {p : PyData} (h : PyOk k d p) (hk : k ≤ 60) : SeqAt.shaped p = true := by
  unfold SeqAt.shaped
  rw [h.lay, decide_eq_true (by have := h.dep; omega)]; rfl
theorem dEq_self {k : Nat} {d : Dt} (h : Flt k d) (hk : k ≤ 60) : dEq d d = some true := by
  obtain ⟨p, hp⟩ := h.py
  unfold dEq
  rw [hp.e]; dsimp only
  rw [hp.shaped hk, Bool.and_self, if_pos rfl, hp.refl]
theorem feq_self {k : Nat} {d : Dt} (h : Flt k d) (hk : k ≤ 60) : fEq d d = some (.bl true) := by unfold fEq; rw [dEq_self h hk]; rfl
theorem fne_self {k : Nat} {d : Dt} (h : Flt k d) (hk : k ≤ 60) : fNe d d = some (.bl false) := by unfold fNe; rw [dEq_self h hk]; rfl
theorem flt_nats {k : Nat} (l : List Nat) : ∀ x ∈ l.map nD, Flt k x := fun x hx => by
  obtain ⟨n, _, rfl⟩ := List.mem_map.mp hx
  exact .int _
theorem toPys_nat : ∀ l : List Nat, toPys (l.map nD) = some (l.map fun (n : Nat) => PyData.int (n : Int))
  | [] => rfl
  | x :: l => by
    show (match toPy (nD x), toPys (l.map nD) with | some p, some ps => some (p :: ps) | _, _ => none) = _
    rw [toPys_nat l]; rfl
theorem in_nats {b : Bool} (a : Nat) (l : List Nat) : fInA (nD a) (sqD b (l.map nD)) = some (.bl (decide (a ∈ l))) := by
  unfold fInA dIn
  have e : (itemsD (sqD b (l.map nD))).bind toPys = some (l.map fun (n : Nat) => PyData.int (n : Int)) := by
    cases b <;> exact toPys_nat l
  rw [e, show toPy (nD a) = some (.int (a : Int)) from rfl]; dsimp only
  obtain ⟨p, hp⟩ := (Flt.lst (k := 1) (xs := l.map nD) (flt_nats l)).py
  have hs := hp.shaped (by omega)
  have ep : p = .list (l.map fun (n : Nat) => PyData.int (n : Int)) := by
    have h1 := hp.e
    unfold toPy at h1
    rw [toPys_nat] at h1
    exact (Option.some.inj h1).symm
  rw [← ep, hs]
  rw [if_pos (by simp [SeqAt.shaped, PyData.canLay0, PyData.depth]), Option.map_some, List.any_map]
  congr 2
  rw [Bool.eq_iff_iff, List.any_eq_true, decide_eq_true_iff]
  constructor
  · rintro ⟨x, hx, h⟩
    simp [PyData.eqv] at h
    have : x = a := by omega
    rw [← this]; exact hx
  · intro h
    exact ⟨a, h, by simp [PyData.eqv]⟩
/-! ### the law's own going -/
variable {p : Nat} {rs : List Rw}
theorem rowAt_srt (h : 0 < rs.length) (d : Nat) : rowAt (srt rs) d = (sortN (rowAt rs d).1, (rowAt rs d).2) := by
  unfold rowAt srt
  rw [List.length_map, List.getD_eq_getElem?_getD, List.getD_eq_getElem?_getD, List.getElem?_map, List.getElem?_eq_getElem (Nat.mod_lt _ h)]
  rfl
theorem pos_srt (h : 0 < rs.length) (w : Nat) : ∀ d, pos (srt rs) w d = pos rs w d
  | 0 => rfl
  | d + 1 => by
    show mvR (rowAt (srt rs) d) (pos (srt rs) w d) = mvR (rowAt rs d) (pos rs w d)
    rw [pos_srt h w d, rowAt_srt h]; rfl
theorem due_srt (h : 0 < rs.length) (w d : Nat) : isDue (srt rs) w d = isDue rs w d := by
  unfold isDue
  rw [pos_srt h, rowAt_srt h]
  exact decide_eq_decide.mpr (sortN_perm _).mem_iff
theorem Good.srt (h : Good p rs) : Good p (srt rs) := ⟨by unfold Dl.srt; rw [List.length_map]; exact h.n0, fun r hr => by
  obtain ⟨q, hq, rfl⟩ := List.mem_map.mp hr
  exact (h.row q hq).srt⟩
theorem srt_len (rs : List Rw) : (srt rs).length = rs.length := by unfold srt; rw [List.length_map]
def spotsD (p : Nat) (rs : List Rw) (d : Nat) : Dt := .lst (((List.range p).map fun w => pos rs w d).map nD)
def prD (q : Nat × Nat) : Dt := .tup [nD q.1, nD q.2]
def dueAt (p : Nat) (rs : List Rw) (d : Nat) : List (Nat × Nat) := ((List.range p).filter fun w => isDue rs w d).map fun w => (d, w)
def dueP (p : Nat) (rs : List Rw) (D : Nat) : List (Nat × Nat) := (List.range D).flatMap (dueAt p rs)
theorem dueP_succ (D : Nat) : dueP p rs (D + 1) = dueP p rs D ++ dueAt p rs D := by
  unfold dueP; rw [List.range_succ, List.flatMap_append]; simp
theorem dueAt_len (d : Nat) : (dueAt p rs d).length ≤ p := by
  unfold dueAt
  rw [List.length_map]
  have := List.length_filter_le (fun w => isDue rs w d) (List.range p)
  rwa [List.length_range] at this
theorem dueP_len : ∀ D, (dueP p rs D).length ≤ D * p
  | 0 => by simp [dueP]
  | D + 1 => by
    have h1 := dueP_len D
    have h2 := dueAt_len (p := p) (rs := rs) D
    rw [dueP_succ, List.length_append, Nat.succ_mul]
    omega
theorem told_row (h : Good p rs) (d : Nat) : atI (rs.map trowD) ((d % rs.length : Nat) : Int) = some (trowD (rowAt rs d)) := by
  refine atI_map trowD rs _ ?_
  unfold rowAt
  have hd : d % rs.length < rs.length := Nat.mod_lt _ h.n0
  rw [List.getD_eq_getElem?_getD, List.getElem?_eq_getElem hd]; rfl
theorem days_ok (h : Good p rs) (hl : rs.length < 1000) (hp : p < 100) (D : Nat) (hD : D < 1000) : m_law_days [toldD p rs, nD D] = .ret (.tup [.lst ((List.range (D + 1)).map (spotsD p rs)), .lst ((dueP p rs D).map prD)]) .non := by
  have e0 : spotsD p rs 0 = .lst ((List.range p).map nD) := by unfold spotsD; rw [List.map_map]; rfl
  have loop := forGo_inv (g := gV 5) (bd := (sSeq (sAsg (m2 fIx (hasSl 0 (mIxV 0 (mPure (.int 1)))) (m2 fMod (mVar 5) (m1 fLen (hasSl 0 (mIxV 0 (mPure (.int 1))))))) (gT (gsC (gV 6) (gsC (gV 7) gsN)) 2))
  (sSeq (sDrop (ownLst 3 (mAppend 3 (mVar 2))))
  (sSeq (sDrop (ownLst 4 (mExtend 4 (mLc (mRng1 (mCons (hasSl 0 (mIxV 0 (mPure (.int 0)))) (mPure []))) (gV 8) (mB (m2 fInA (hasSl 2 (mIxV 2 (mVar 8))) (mPeek 6))) (mTup (mCons (mVar 5) (mCons (mVar 8) (mPure [])))) [8]))))
  (sSet 2 (mLc (mSeqI (mVar 2)) (gV 9) (mPure true) (hasSl 7 (mIxV 7 (mVar 9))) [9])))))) nD
    (fun pre ρ => ∃ s5 s6 s7, ρ = [vl (toldD p rs), vl (nD D), vl (spotsD p rs pre.length), ow (.lst ((List.range pre.length).map (spotsD p rs))), ow (.lst ((dueP p rs pre.length).map prD)), lv s5, lv s6, lv s7, none, none]) (List.range D) []
    [vl (toldD p rs), vl (nD D), vl (spotsD p rs 0), ow (.lst []), ow (.lst []), none, none, none, none, none] ⟨none, none, none, rfl⟩ (by
      rintro pre x post ρ e ⟨s5, s6, s7, rfl⟩
      rw [List.nil_append] at e
      have hx : pre.length = x ∧ x < D := by
        have h1 := congrArg List.length e
        rw [List.length_range, List.length_append, List.length_cons] at h1
        have h2 : (List.range D)[pre.length]? = some x := by rw [e]; simp
        rw [List.getElem?_range (by omega)] at h2
        have h3 := Option.some.inj h2
        exact ⟨h3, by omega⟩
      obtain ⟨hx0, hx⟩ := hx
      rw [hx0]
      have hg := h.at x
      let R := rowAt rs x
      have hR : R = rowAt rs x := rfl
      generalize R = r at hR
      have hdl : (dueP p rs x).length ≤ 100000 := by
        have h1 := dueP_len (p := p) (rs := rs) x
        have h2 : x * p ≤ 1000 * 100 := Nat.mul_le_mul (by omega) (by omega)
        omega
      have hal := dueAt_len (p := p) (rs := rs) x
      refine ⟨[vl (toldD p rs), vl (nD D), vl (spotsD p rs x), ow (.lst ((List.range x).map (spotsD p rs))), ow (.lst ((dueP p rs x).map prD)), vl (nD x), lv s6, lv s7, none, none], by cases s5 <;> rfl,
        [vl (toldD p rs), vl (nD D), vl (spotsD p rs (x + 1)), ow (.lst ((List.range (x + 1)).map (spotsD p rs))), ow (.lst ((dueP p rs (x + 1)).map prD)), vl (nD x), vl (.lst (r.1.map nD)), vl (.lst (r.2.map nD)), none, none], .inl ?_, some (nD x), some (.lst (r.1.map nD)), some (.lst (r.2.map nD)), by rw [List.length_append, hx0]; rfl⟩
      refine seq_nx (ρ' := [vl (toldD p rs), vl (nD D), vl (spotsD p rs x), ow (.lst ((List.range x).map (spotsD p rs))), ow (.lst ((dueP p rs x).map prD)), vl (nD x), vl (.lst (r.1.map nD)), vl (.lst (r.2.map nD)), none, none]) (asg_ok (d := trowD r) (ρ1 := [vl (toldD p rs), vl (nD D), vl (spotsD p rs x), ow (.lst ((List.range x).map (spotsD p rs))), ow (.lst ((dueP p rs x).map prD)), vl (nD x), lv s6, lv s7, none, none]) (m2_ok (x := .lst (rs.map trowD)) (y := nD (x % rs.length)) (ρ1 := [vl (toldD p rs), vl (nD D), vl (spotsD p rs x), ow (.lst ((List.range x).map (spotsD p rs))), ow (.lst ((dueP p rs x).map prD)), vl (nD x), lv s6, lv s7, none, none]) rfl (m2_ok (x := nD x) (y := nD rs.length) (ρ1 := [vl (toldD p rs), vl (nD D), vl (spotsD p rs x), ow (.lst ((List.range x).map (spotsD p rs))), ow (.lst ((dueP p rs x).map prD)), vl (nD x), lv s6, lv s7, none, none]) rfl (m1_ok (x := .lst (rs.map trowD)) rfl ?_) (fMod_nat _ _ h.n0)) ?_) (by cases s6 <;> cases s7 <;> rfl)) ?_
      · show some (Dt.int ((rs.map trowD).length : Int)) = _
        rw [List.length_map]
      · rw [hR]; exact told_row h x
      · refine seq_nx (ρ' := [vl (toldD p rs), vl (nD D), vl (spotsD p rs x), ow (.lst ((List.range (x + 1)).map (spotsD p rs))), ow (.lst ((dueP p rs x).map prD)), vl (nD x), vl (.lst (r.1.map nD)), vl (.lst (r.2.map nD)), none, none]) (drop_ok (append_ok (es := (List.range x).map (spotsD p rs)) (ds := (List.range x).map (spotsD p rs)) (d := spotsD p rs x) rfl rfl rfl (by rw [List.length_map, List.length_range]; omega) (by rw [List.range_succ, List.map_append]; rfl))) ?_
        refine seq_nx (ρ' := [vl (toldD p rs), vl (nD D), vl (spotsD p rs x), ow (.lst ((List.range (x + 1)).map (spotsD p rs))), ow (.lst ((dueP p rs (x + 1)).map prD)), vl (nD x), vl (.lst (r.1.map nD)), vl (.lst (r.2.map nD)), none, none]) (drop_ok (extend_ok (es := (dueP p rs x).map prD) (ds := (dueP p rs x).map prD) (zs := (dueAt p rs x).map prD) (ρ1 := [vl (toldD p rs), vl (nD D), vl (spotsD p rs x), ow (.lst ((List.range (x + 1)).map (spotsD p rs))), ow (.lst ((dueP p rs x).map prD)), vl (nD x), vl (.lst (r.1.map nD)), vl (.lst (r.2.map nD)), none, none]) rfl ?_ rfl (by rw [List.length_map, List.length_map]; omega) (by rw [dueP_succ, List.map_append]; rfl))) ?_
        · have e2 := lc_ok (g := gV 8) (t := (mB (m2 fInA (hasSl 2 (mIxV 2 (mVar 8))) (mPeek 6)))) (e := (mTup (mCons (mVar 5) (mCons (mVar 8) (mPure []))))) (vs := [8]) (mi := (mRng1 (mCons (hasSl 0 (mIxV 0 (mPure (.int 0)))) (mPure [])))) (ρ := [vl (toldD p rs), vl (nD D), vl (spotsD p rs x), ow (.lst ((List.range (x + 1)).map (spotsD p rs))), ow (.lst ((dueP p rs x).map prD)), vl (nD x), vl (.lst (r.1.map nD)), vl (.lst (r.2.map nD)), none, none]) (ρ0 := [vl (toldD p rs), vl (nD D), vl (spotsD p rs x), ow (.lst ((List.range (x + 1)).map (spotsD p rs))), ow (.lst ((dueP p rs x).map prD)), vl (nD x), vl (.lst (r.1.map nD)), vl (.lst (r.2.map nD)), none, none])
            (List.range p) nD (fun w => isDue rs w x) (fun w => prD (x, w)) (rngN_ok (N := p) rfl (by omega)) rfl (fun w hw => by
              have hw' := List.mem_range.mp hw
              refine ⟨_, rfl, [vl (toldD p rs), vl (nD D), vl (spotsD p rs x), ow (.lst ((List.range (x + 1)).map (spotsD p rs))), ow (.lst ((dueP p rs x).map prD)), vl (nD x), vl (.lst (r.1.map nD)), vl (.lst (r.2.map nD)), vl (nD w), none], tb_ok (m2_ok (x := nD (pos rs w x)) (y := sqD false (r.1.map nD)) (ρ1 := [vl (toldD p rs), vl (nD D), vl (spotsD p rs x), ow (.lst ((List.range (x + 1)).map (spotsD p rs))), ow (.lst ((dueP p rs x).map prD)), vl (nD x), vl (.lst (r.1.map nD)), vl (.lst (r.2.map nD)), vl (nD w), none]) ?_ rfl (by rw [in_nats, hR]; rfl)), fun _ => rfl, fun _ => ⟨_, tup_ok rfl (sl_le (by simp)), rfl⟩⟩
              show mIxV 2 (mVar 8) _ = _
              refine bind_ok rfl (bind_ok (a := spotsD p rs x) rfl ?_)
              show mOpt (atI (((List.range p).map fun w => pos rs w x).map nD) (w : Int)) _ = _
              rw [atI_map nD _ w (x := pos rs w x) (by rw [List.getElem?_map, List.getElem?_range hw']; rfl)]
              rfl) (by rw [List.length_range]; omega)
          have hE : ((List.range p).filter fun w => isDue rs w x).map (fun w => prD (x, w)) = (dueAt p rs x).map prD := by unfold dueAt; rw [List.map_map]; rfl
          rw [hE] at e2
          exact e2
        · refine set_ok (d := spotsD p rs (x + 1)) (ρ1 := [vl (toldD p rs), vl (nD D), vl (spotsD p rs x), ow (.lst ((List.range (x + 1)).map (spotsD p rs))), ow (.lst ((dueP p rs (x + 1)).map prD)), vl (nD x), vl (.lst (r.1.map nD)), vl (.lst (r.2.map nD)), none, none]) ?_ rfl
          have e3 := lc_map (g := gV 9) (e := hasSl 7 (mIxV 7 (mVar 9))) (vs := [9]) (mi := mSeqI (mVar 2)) (ρ := [vl (toldD p rs), vl (nD D), vl (spotsD p rs x), ow (.lst ((List.range (x + 1)).map (spotsD p rs))), ow (.lst ((dueP p rs (x + 1)).map prD)), vl (nD x), vl (.lst (r.1.map nD)), vl (.lst (r.2.map nD)), none, none]) (ρ0 := [vl (toldD p rs), vl (nD D), vl (spotsD p rs x), ow (.lst ((List.range (x + 1)).map (spotsD p rs))), ow (.lst ((dueP p rs (x + 1)).map prD)), vl (nD x), vl (.lst (r.1.map nD)), vl (.lst (r.2.map nD)), none, none])
            ((List.range p).map fun w => pos rs w x) nD (fun s => nD (mvR r s)) rfl rfl (fun s hs => by
              obtain ⟨w, hw, rfl⟩ := List.mem_map.mp hs
              have hlt := pos_lt h (List.mem_range.mp hw) x
              rw [← hR] at hg
              have hm := mvR_lt hg hlt
              refine ⟨_, rfl, [vl (toldD p rs), vl (nD D), vl (spotsD p rs x), ow (.lst ((List.range (x + 1)).map (spotsD p rs))), ow (.lst ((dueP p rs (x + 1)).map prD)), vl (nD x), vl (.lst (r.1.map nD)), vl (.lst (r.2.map nD)), none, vl (nD (pos rs w x))], ?_, rfl⟩
              show mIxV 7 (mVar 9) _ = _
              refine bind_ok rfl (bind_ok (a := .lst (r.2.map nD)) rfl ?_)
              show mOpt (atI (r.2.map nD) ((pos rs w x : Nat) : Int)) _ = _
              rw [atI_map nD _ _ hm.2]
              rfl) (by rw [List.length_map, List.length_range]; omega)
          have hE : Dt.lst (((List.range p).map fun w => pos rs w x).map fun s => nD (mvR r s)) = spotsD p rs (x + 1) := by unfold spotsD; rw [List.map_map, List.map_map, hR]; rfl
          rw [hE] at e3
          exact e3)
  obtain ⟨ρ', e1, s5, s6, s7, rfl⟩ := loop
  rw [List.nil_append, List.length_range] at e1
  refine runF_rt (ρ := [vl (toldD p rs), vl (nD D), vl (spotsD p rs D), vl (.lst ((List.range D).map (spotsD p rs))), vl (.lst ((dueP p rs D).map prD)), lv s5, lv s6, lv s7, none, none]) ?_ rfl
  unfold b_law_days
  refine seq_nx (ρ' := [vl (toldD p rs), vl (nD D), vl (spotsD p rs 0), ow (.lst []), ow (.lst []), none, none, none, none, none]) (pars_ok (ds := [spotsD p rs 0, .lst [], .lst []]) (ρ1 := [vl (toldD p rs), vl (nD D), none, none, none, none, none, none, none, none]) (cons_ok (by rw [e0]; exact lstRg_ok rfl (by omega)) rfl) rfl) ?_
  refine seq_nx (for_ok (rngN_ok (N := D) rfl (by omega)) e1) (ret_ok (tup_ok (cons_ok (m2_ok (x := .lst ((List.range D).map (spotsD p rs))) (y := .lst [spotsD p rs D]) (ρ1 := [vl (toldD p rs), vl (nD D), vl (spotsD p rs D), vl (.lst ((List.range D).map (spotsD p rs))), ow (.lst ((dueP p rs D).map prD)), lv s5, lv s6, lv s7, none, none]) rfl (lst_ok rfl (sl_le (by simp))) ?_) rfl) (sl_le (by simp))))
  show (if ((List.range D).map (spotsD p rs)).length + [spotsD p rs D].length ≤ sizeLine then some (Dt.lst _) else none) = _
  rw [if_pos (sl_le (by simp; omega)), List.range_succ, List.map_append]; rfl
end Dl
namespace Dl
open PySem PySem.Spec PyProof.Rows L2
/-! ### the cells of a script -/
/-- a slot with a box, or with none yet -/
def bo : Option (Int × Int × Int) → Option Sl
  | none => none
  | some q => ow (bxD q)
/-- the end of a law whose loop runs through -/
theorem law_end {k : Nat} {s t : En → So} {ds : List Dt} {ρ' : En} (h : s (argE false ds ++ List.replicate (k - ds.length) none) = .nx ρ') (h2 : ∃ ρ2, t ρ' = .rt (.bl true) ρ2) : runF k false false (sSeq s t) ds = .ret (.bl true) .non := by
  obtain ⟨ρ2, h2⟩ := h2
  exact runF_rt (seq_nx h h2) rfl
theorem fSub_nat {a b : Nat} (h : b ≤ a) : fSub (nD a) (nD b) = some (nD (a - b)) := by
  show some (Dt.int _) = some (Dt.int _)
  congr 2; omega
theorem ge_nat (a b : Nat) : fGe (nD a) (nD b) = some (.bl (decide (b ≤ a))) := by
  show some (Dt.bl _) = some (Dt.bl _)
  congr 2
  exact decide_eq_decide.mpr (by omega)
end Dl
namespace Dl
open PySem PySem.Spec PyProof.Rows L2
variable {p : Nat} {rs : List Rw}
/-! ### due days, as mathematics -/
theorem mem_dueL {w d : Nat} : d ∈ dueL p rs w ↔ d < rnd p rs w ∧ isDue rs w d = true := by
  unfold dueL; rw [List.mem_filter, List.mem_range]
/-! ### the mirrors -/
theorem enum_map {α : Type} (f : α → Dt) : ∀ (k : Nat) (l : List α), enumD k (l.map f) = (l.zipIdx k).map fun x => .tup [nD x.2, f x.1]
  | _, [] => rfl
  | k, x :: l => by
    show Dt.tup [.int k, f x] :: enumD (k + 1) (l.map f) = _
    rw [enum_map f (k + 1) l]; rfl
theorem zipIdx_range (f : Nat → Nat) (n : Nat) : ((List.range n).map f).zipIdx = (List.range n).map fun i => (f i, i) := by
  apply List.ext_getElem?
  intro i
  rw [List.getElem?_zipIdx, List.getElem?_map, List.getElem?_map]
  by_cases h : i < n
  · rw [List.getElem?_range h]; simp
  · rw [List.getElem?_eq_none (by simpa using h)]; rfl
theorem enum_way (w : Nat) : enumD 0 ((wayL p rs w).map nD) = (List.range (rnd p rs w)).map fun d => .tup [nD d, nD (pos rs w d)] := by
  rw [enum_map]
  unfold wayL
  rw [zipIdx_range, List.map_map]; rfl
theorem row_get (h : Good p rs) (d : Nat) : atI (rs.map rowD) ((d % rs.length : Nat) : Int) = some (rowD (rowAt rs d)) := by
  refine atI_map rowD rs _ ?_
  unfold rowAt
  have hd : d % rs.length < rs.length := Nat.mod_lt _ h.n0
  rw [List.getD_eq_getElem?_getD, List.getElem?_eq_getElem hd]; rfl
theorem due_round_ok (h : Good p rs) (hl : rs.length < 1000) (hp : p < 100) {w : Nat} (hw : w < p) : m_due_in_round [rotaD p rs, nD w] = .ret (.tup ((dueL p rs w).map nD)) .non := by
  have hR := rnd_small h hl hp hw
  refine runF_rt (ρ := [vl (rotaD p rs), vl (nD w), vl (nD rs.length), none, none]) ?_ rfl
  unfold b_due_in_round
  refine seq_nx (ρ' := [vl (rotaD p rs), vl (nD w), vl (nD rs.length), none, none]) (set_ok (d := nD rs.length) (ρ1 := [vl (rotaD p rs), vl (nD w), none, none, none]) (m1_ok (x := .tup (rs.map rowD)) rfl ?_) rfl) (ret_ok (m1_ok (x := .lst ((dueL p rs w).map nD)) ?_ rfl))
  · show some (Dt.int ((rs.map rowD).length : Int)) = _
    rw [List.length_map]
  · refine lc_ok (List.range (rnd p rs w)) (fun d => .tup [nD d, nD (pos rs w d)]) (isDue rs w) nD ?_ rfl (fun d hd => ?_) (by rw [List.length_range]; omega)
    · refine bind_ok (call_ok (ds := [rotaD p rs, nD w]) (r := .non) rfl rfl (way_ok h hl hp hw)) ?_
      show Ou.ok (enumD 0 ((wayL p rs w).map nD)) _ = _
      rw [enum_way]
    · refine ⟨[vl (rotaD p rs), vl (nD w), vl (nD rs.length), vl (nD d), vl (nD (pos rs w d))], rfl, [vl (rotaD p rs), vl (nD w), vl (nD rs.length), vl (nD d), vl (nD (pos rs w d))], tb_ok (m2_ok (x := nD (pos rs w d)) (y := sqD true ((rowAt rs d).1.map nD)) (ρ1 := [vl (rotaD p rs), vl (nD w), vl (nD rs.length), vl (nD d), vl (nD (pos rs w d))]) rfl (m2_ok (x := rowD (rowAt rs d)) (y := .int 0) (ρ1 := [vl (rotaD p rs), vl (nD w), vl (nD rs.length), vl (nD d), vl (nD (pos rs w d))]) (m2_ok (x := .tup (rs.map rowD)) (y := nD (d % rs.length)) (ρ1 := [vl (rotaD p rs), vl (nD w), vl (nD rs.length), vl (nD d), vl (nD (pos rs w d))]) rfl (m2_ok rfl rfl (fMod_nat d _ h.n0)) (row_get h d)) rfl rfl) (in_nats _ _)), fun _ => rfl, fun _ => ⟨_, rfl, rfl⟩⟩
theorem lt64 {n : Nat} (h : n < 1000000000000000000) : (n : Int) < 2 ^ 64 := Int.lt_trans (Int.ofNat_lt.mpr h) (by decide)
theorem ge64 (n : Nat) : -(2 ^ 64) < (n : Int) := Int.lt_of_lt_of_le (by decide) (Int.natCast_nonneg n)
theorem fMul_of {i j k : Int} (hc : CMul i j) (e : i * j = k) : fMulI (.int i) (.int j) = some (.int k) := by
  subst e
  have e1 : fMulI (.int i) (.int j) = if CMul i j then some (.int (i * j)) else none := rfl
  rw [e1, if_pos hc]
theorem fMul_nat (a b : Nat) (hb : b < 1000000000000000000 ∨ a < 1000000000000000000) : fMulI (nD a) (nD b) = some (nD (a * b)) := by
  have hc : CMul (a : Int) (b : Int) := by
    rcases hb with hb | hb
    · exact .inr ⟨ge64 b, lt64 hb⟩
    · exact .inl ⟨ge64 a, lt64 hb⟩
  exact fMul_of hc (Int.natCast_mul a b).symm
theorem fAdd_nat (a b : Nat) : fAdd (nD a) (nD b) = some (nD (a + b)) := rfl
theorem fLt_nat (a b : Nat) : fLt (nD a) (nD b) = some (.bl (decide (a < b))) := by
  show some (Dt.bl _) = some (Dt.bl _)
  congr 2
  exact decide_eq_decide.mpr (by omega)
theorem len_lst {α : Type} (f : α → Dt) (l : List α) : fLen (.lst (l.map f)) = some (nD l.length) := by
  show some (Dt.int ((l.map f).length : Int)) = _
  rw [List.length_map]
theorem len_tup {α : Type} (f : α → Dt) (l : List α) : fLen (.tup (l.map f)) = some (nD l.length) := by
  show some (Dt.int ((l.map f).length : Int)) = _
  rw [List.length_map]
end Dl
namespace Dl
open PySem PySem.Spec PyProof.Rows L2
variable {p : Nat} {rs : List Rw}
/-! ### the greatest of some numbers -/
/-! ### days of turnings -/
theorem star_ok {m : Mi Dt} {ms : Mi (List Dt)} {ρ ρ1 ρ2 : En} {b : Bool} {xs ds : List Dt} (h : m ρ = .ok (sqD b xs) ρ1) (k : ms ρ1 = .ok ds ρ2) : mStar m ms ρ = .ok (xs ++ ds) ρ2 := by
  refine bind_ok h ?_
  cases b
  · show mBind ms _ _ = _
    exact bind_ok k rfl
  · show mBind ms _ _ = _
    exact bind_ok k rfl
/-! ### what is said of gaps -/
end Dl
namespace Dl
open PySem PySem.Spec PyProof.Rows L2
/-! ### days on a ring, as mathematics -/
/-- the day with a number, round and round -/
def dd (D : List Nat) (R a : Nat) : Nat := a / D.length * R + D.getD (a % D.length) 0
variable {D : List Nat} {R : Nat}
/-! ### the mirrors -/
theorem dput_ok {i : Nat} {mk mv : Mi Dt} {ρ ρ1 ρ2 ρ3 : En} {x y : Dt} (hv : mv ρ = .ok y ρ1) (hs : hasSl i mk ρ1 = .ok x ρ2) (hp : putD i x y ρ2 = .ok () ρ3) : sDput i mk mv ρ = .nx ρ3 := by
  unfold sDput sBind
  rw [hv]; dsimp only; rw [hs]; dsimp only; rw [hp]
end Dl
namespace Dl
open PySem PySem.Spec PyProof.Rows L2
variable {p : Nat} {rs : List Rw}
/-! ### due days as days on a ring -/
/-! ### a rota begun later -/
theorem cut_to {α : Type} (l : List α) (f : Nat) (h : f ≤ l.length) : cutD l none (some (f : Int)) = l.take f := by
  unfold cutD
  have e1 : HT.sIx l.length l.length (some (f : Int)) = f := by
    rw [HT.sIx_nat]
    omega
  have e2 : HT.sIx l.length 0 none = 0 := by simp [HT.sIx]
  rw [e1, e2, List.drop_zero, Nat.sub_zero]
end Dl
namespace Dl
open PySem PySem.Spec PyProof.Rows L2
/-! ### texts that are compared -/
theorem strOk_of (s : String) : PyData.canLay0 (.str (Str.ofString s)) = true := by
  have key : ∀ c : Char, c.toNat < 1114112 := fun c => by
    have h1 := c.valid
    rcases h1 with h1 | h1
    · have : c.toNat < 55296 := h1
      omega
    · exact h1.2
  rw [Str.ofString_eq_toList]
  simp only [PyData.canLay0, PyData.strOk]
  rw [List.all_toArray, List.all_map, List.all_eq_true]
  intro c _
  exact decide_eq_true (key c)
theorem flt_str {k : Nat} (s : String) : Flt k (.str (Str.ofString s)) := .str (strOk_of s)
/-! ### drawn days of a ring -/
/-! ### the law's own gap -/
variable {D : List Nat} {R : Nat}
end Dl
namespace Dl
open PySem PySem.Spec PyProof.Rows L2
variable {p : Nat} {rs : List Rw}
theorem pick_w (D w : Nat) (hw : w < p) : ((dueP p rs D).filter fun q => decide (q.2 = w)).map (·.1) = (List.range D).filter (isDue rs w) := by
  induction D with
  | zero => simp [dueP]
  | succ D ih =>
    rw [dueP_succ, List.filter_append, List.map_append, ih, List.range_succ, List.filter_append]
    congr 1
    unfold dueAt
    rw [List.filter_map, List.map_map, List.filter_filter]
    have e3 : (List.range p).filter (fun a => ((fun q : Nat × Nat => decide (q.2 = w)) ∘ fun w => (D, w)) a && isDue rs a D) = ((List.range p).filter fun a => decide (a = w)).filter fun _ => isDue rs w D := by
      rw [List.filter_filter]
      apply List.filter_congr
      intro a _
      by_cases ha : a = w
      · subst ha; simp
      · simp [ha]
    have e4 := find_one (f := fun v => v) (p := p) (fun a b _ _ z => z) hw
    rw [e3, e4]
    cases hd : isDue rs w D <;> simp [hd]
end Dl
namespace Dl
open PySem PySem.Spec PyProof.Rows L2
variable {p : Nat} {rs : List Rw}
/-! ### pairs and triples among others -/
theorem toPys_emb {α : Type} (emb : α → Dt) (pe : α → PyData) (h1 : ∀ a, toPy (emb a) = some (pe a)) : ∀ l : List α, toPys (l.map emb) = some (l.map pe)
  | [] => rfl
  | x :: l => by
    show (match toPy (emb x), toPys (l.map emb) with | some p, some ps => some (p :: ps) | _, _ => none) = _
    rw [h1, toPys_emb emb pe h1 l]; rfl
theorem dIn_emb {α : Type} [DecidableEq α] (emb : α → Dt) (pe : α → PyData) (h1 : ∀ a, toPy (emb a) = some (pe a)) (h2 : ∀ a b, PyData.eqv (pe a) (pe b) = decide (a = b)) (h3 : ∀ a, Flt 5 (emb a)) {b : Bool} (a : α) (l : List α) : dIn (emb a) (sqD b (l.map emb)) = some (decide (a ∈ l)) := by
  unfold dIn
  have e : (itemsD (sqD b (l.map emb))).bind toPys = some (l.map pe) := by
    cases b <;> exact toPys_emb emb pe h1 l
  rw [e, h1]; dsimp only
  obtain ⟨pa, hpa⟩ := (h3 a).py
  have ea : pa = pe a := by have h4 := hpa.e; rw [h1] at h4; exact (Option.some.inj h4).symm
  obtain ⟨q, hq⟩ := (Flt.lst (k := 5) (xs := l.map emb) fun x hx => by obtain ⟨y, _, rfl⟩ := List.mem_map.mp hx; exact h3 y).py
  have hs := hq.shaped (by omega)
  have eq : q = .list (l.map pe) := by
    have h4 := hq.e
    unfold toPy at h4
    rw [toPys_emb emb pe h1 l] at h4
    exact (Option.some.inj h4).symm
  rw [← eq, hs, ← ea, hpa.shaped (by omega)]
  rw [if_pos (by have := hpa.dep; simp; omega), List.any_map]
  congr 1
  rw [Bool.eq_iff_iff, List.any_eq_true, decide_eq_true_iff]
  constructor
  · rintro ⟨x, hx, h⟩
    simp only [Function.comp, ea, h2, decide_eq_true_iff] at h
    rw [← h]; exact hx
  · intro h
    exact ⟨a, h, by simp only [Function.comp, ea, h2, decide_eq_true_iff]⟩
def prP (q : Nat × Nat) : PyData := .tuple [.int q.1, .int q.2]
theorem pr_py (q : Nat × Nat) : toPy (prD q) = some (prP q) := rfl
theorem pr_eqv (a b : Nat × Nat) : PyData.eqv (prP a) (prP b) = decide (a = b) := by
  obtain ⟨a1, a2⟩ := a
  obtain ⟨b1, b2⟩ := b
  rw [Bool.eq_iff_iff, decide_eq_true_iff]
  simp [prP, PyData.eqv, PyData.eqvAll]
  omega
theorem pr_flt {k : Nat} (q : Nat × Nat) : Flt (k + 1) (prD q) := .tup fun x hx => by
  simp only [List.mem_cons, List.not_mem_nil, or_false] at hx
  rcases hx with rfl | rfl <;> exact .int _
theorem notin_pr {b : Bool} (a : Nat × Nat) (l : List (Nat × Nat)) : fNotInA (prD a) (sqD b (l.map prD)) = some (.bl (!decide (a ∈ l))) := by
  unfold fNotInA; rw [dIn_emb prD prP pr_py pr_eqv (fun q => pr_flt q), Option.map_some]; congr 3; exact decide_eq_decide.mpr Iff.rfl
/-- a look -/
abbrev Lk := Nat × Nat × Nat
def lkD (q : Lk) : Dt := .tup [nD q.1, nD q.2.1, nD q.2.2]
def lkP (q : Lk) : PyData := .tuple [.int q.1, .int q.2.1, .int q.2.2]
theorem lk_py (q : Lk) : toPy (lkD q) = some (lkP q) := rfl
theorem lk_eqv (a b : Lk) : PyData.eqv (lkP a) (lkP b) = decide (a = b) := by
  obtain ⟨a1, a2, a3⟩ := a
  obtain ⟨b1, b2, b3⟩ := b
  rw [Bool.eq_iff_iff, decide_eq_true_iff]
  simp [lkP, PyData.eqv, PyData.eqvAll]
  omega
theorem lk_flt {k : Nat} (q : Lk) : Flt (k + 1) (lkD q) := .tup fun x hx => by
  simp only [List.mem_cons, List.not_mem_nil, or_false] at hx
  rcases hx with rfl | rfl | rfl <;> exact .int _
theorem in_lk {b : Bool} (a : Lk) (l : List Lk) : fInA (lkD a) (sqD b (l.map lkD)) = some (.bl (decide (a ∈ l))) := by
  unfold fInA; rw [dIn_emb lkD lkP lk_py lk_eqv (fun q => lk_flt q), Option.map_some]; congr 2; exact decide_eq_decide.mpr Iff.rfl
/-! ### dicts with pairs as keys -/
theorem keyT_pr (a b : Nat × Nat) : keyEqT (prD a) (prD b) = decide (a = b) := by
  obtain ⟨a1, a2⟩ := a
  obtain ⟨b1, b2⟩ := b
  show (((a1 : Int) == (b1 : Int)) && (((a2 : Int) == (b2 : Int)) && true)) = _
  rw [Bool.eq_iff_iff, decide_eq_true_iff]
  simp
  omega
def mdD (M : List (Nat × Nat)) : Dt := .dic true (M.map prD) (M.map fun _ => .bl true)
theorem lookT {a : Nat × Nat} : ∀ (M : List (Nat × Nat)), (dLook keyEqT (prD a) (M.map prD) (M.map fun _ => Dt.bl true)).isSome = decide (a ∈ M)
  | [] => rfl
  | k :: M => by
    show (if keyEqT (prD k) (prD a) = true then some (Dt.bl true) else dLook keyEqT (prD a) (M.map prD) (M.map fun _ => Dt.bl true)).isSome = _
    rw [keyT_pr]
    by_cases h : k = a
    · subst h; simp
    · rw [if_neg (by simpa using h), lookT M]
      exact decide_eq_decide.mpr (by simp [Ne.symm h])
theorem din_pr (a : Nat × Nat) (M : List (Nat × Nat)) : fDin (prD a) (mdD M) = some (.bl (decide (a ∈ M))) := by
  show some (Dt.bl (dLook keyEqT (prD a) (M.map prD) (M.map fun _ => Dt.bl true)).isSome) = _
  rw [lookT]
theorem dnotin_pr (a : Nat × Nat) (M : List (Nat × Nat)) : fDnotin (prD a) (mdD M) = some (.bl (!decide (a ∈ M))) := by
  unfold fDnotin; rw [din_pr]
theorem mem_dueP {D : Nat} {q : Nat × Nat} : q ∈ dueP p rs D ↔ q.1 < D ∧ q.2 < p ∧ isDue rs q.2 q.1 = true := by
  unfold dueP dueAt
  rw [List.mem_flatMap]
  constructor
  · rintro ⟨d, hd, h⟩
    obtain ⟨w, hw, rfl⟩ := List.mem_map.mp h
    rw [List.mem_filter, List.mem_range] at hw
    exact ⟨List.mem_range.mp hd, hw.1, hw.2⟩
  · rintro ⟨h1, h2, h3⟩
    exact ⟨q.1, List.mem_range.mpr h1, List.mem_map.mpr ⟨q.2, List.mem_filter.mpr ⟨List.mem_range.mpr h2, h3⟩, rfl⟩⟩
theorem dueP_nodup (D : Nat) : (dueP p rs D).Nodup := by
  unfold dueP
  rw [List.nodup_iff_pairwise_ne, List.pairwise_flatMap]
  refine ⟨fun d _ => ?_, ?_⟩
  · unfold dueAt
    rw [List.pairwise_map]
    exact (List.nodup_iff_pairwise_ne.mp (List.nodup_range.filter _)).imp fun h e => h (by injection e)
  · refine (List.nodup_iff_pairwise_ne.mp List.nodup_range).imp fun h x hx y hy e => h ?_
    unfold dueAt at hx hy
    obtain ⟨a, _, rfl⟩ := List.mem_map.mp hx
    obtain ⟨b, _, e2⟩ := List.mem_map.mp hy
    rw [← e2] at e
    injection e
/-! ### all due turnings -/
theorem every_due_ok (h : Good p rs) (hl : rs.length < 1000) (hp : p < 100) (D : Nat) (hD : D < 1000) : m_every_due [rotaD p rs, nD D] = .ret (.tup ((dueP p rs D).map prD)) .non := by
  let kn (w : Nat) : Dt := .tup [.tup ((dueL p rs w).map nD), nD (rnd p rs w)]
  let K : Dt := .lst ((List.range p).map kn)
  let E (d : Nat) (s4 : Option Dt) : En := [vl (rotaD p rs), vl (nD D), ow (.lst ((dueP p rs d).map prD)), vl K, lv s4, none, none, none]
  obtain ⟨ρ', g1, s4', rfl⟩ := forGo_inv (g := gV 4) (bd := sDrop (ownLst 2 (mExtend 2 (mLc (mEnumI (mVar 3)) (gT (gsC (gV 5) (gsC (gT (gsC (gV 6) (gsC (gV 7) gsN)) 2) gsN)) 2) (mB (m2 fInA (m2 fMod (mVar 4) (mPeek 7)) (mPeek 6))) (mTup (mCons (mVar 4) (mCons (mVar 5) (mPure [])))) [5, 6, 7])))) nD (fun pre ρ => ∃ s4, ρ = E pre.length s4) (List.range D) [] (E 0 none) ⟨none, rfl⟩ (by
    rintro pre d post ρ e ⟨s4, rfl⟩
    rw [List.nil_append] at e
    have hd : d = pre.length ∧ d < D := by
      have h1 : (List.range D)[pre.length]? = some d := by rw [e]; simp
      have hlt : pre.length < D := by
        have := congrArg List.length e
        rw [List.length_range, List.length_append, List.length_cons] at this
        omega
      rw [List.getElem?_range hlt] at h1
      have := Option.some.inj h1
      omega
    obtain ⟨hd1, hd2⟩ := hd
    subst hd1
    let d := pre.length
    refine ⟨E d (some (nD d)), by cases s4 <;> rfl, E (d + 1) (some (nD d)), .inl ?_, some (nD d), by rw [List.length_append]; rfl⟩
    have ei : mEnumI (mVar 3) (E d (some (nD d))) = .ok ((List.range p).map fun w => .tup [nD w, kn w]) (E d (some (nD d))) := by
      refine bind_ok (a := K) (ρ1 := E d (some (nD d))) rfl ?_
      show Ou.ok (enumD 0 ((List.range p).map kn)) _ = _
      rw [enum_map]
      congr 1
      have : ((List.range p).zipIdx 0) = (List.range p).map fun i => (i, i) := by
        have := zipIdx_range (fun i => i) p
        rw [List.map_id'] at this
        exact this
      rw [this, List.map_map]; rfl
    have el := lc_ok (g := gT (gsC (gV 5) (gsC (gT (gsC (gV 6) (gsC (gV 7) gsN)) 2) gsN)) 2) (t := mB (m2 fInA (m2 fMod (mVar 4) (mPeek 7)) (mPeek 6))) (e := mTup (mCons (mVar 4) (mCons (mVar 5) (mPure [])))) (vs := [5, 6, 7]) (mi := mEnumI (mVar 3)) (ρ := E d (some (nD d))) (ρ0 := E d (some (nD d))) (List.range p) (fun w => .tup [nD w, kn w]) (fun w => isDue rs w d) (fun w => prD (d, w)) ei rfl (fun w hw => by
      have hw' := List.mem_range.mp hw
      let E1 : En := [vl (rotaD p rs), vl (nD D), ow (.lst ((dueP p rs d).map prD)), vl K, vl (nD d), vl (nD w), vl (.tup ((dueL p rs w).map nD)), vl (nD (rnd p rs w))]
      refine ⟨E1, rfl, E1, tb_ok (m2_ok (m2_ok rfl rfl (fMod_nat d _ (rnd_pos h w))) rfl ?_), fun _ => rfl, fun _ => ⟨E1, rfl, rfl⟩⟩
      have e1 := in_nats (b := true) (d % rnd p rs w) (dueL p rs w)
      rw [show sqD true ((dueL p rs w).map nD) = Dt.tup ((dueL p rs w).map nD) from rfl] at e1
      rw [e1]
      congr 2
      rw [Bool.eq_iff_iff, decide_eq_true_iff, mem_dueL, due_mod h hw']
      exact ⟨fun z => z.2, fun z => ⟨Nat.mod_lt _ (rnd_pos h w), z⟩⟩) (by rw [List.length_range]; omega)
    have e2 : ((List.range p).filter fun w => isDue rs w d).map (fun w => prD (d, w)) = (dueAt p rs d).map prD := by
      unfold dueAt; rw [List.map_map]; rfl
    rw [e2] at el
    have hlen := dueP_len (p := p) (rs := rs) d
    have hlen2 := dueAt_len (p := p) (rs := rs) d
    have hm : d * p ≤ 1000 * 100 := Nat.mul_le_mul (by omega) (by omega)
    refine drop_ok (extend_ok (es := (dueP p rs d).map prD) (ds := (dueP p rs d).map prD) rfl el rfl (by rw [List.length_map, List.length_map]; omega) ?_)
    show [vl (rotaD p rs), vl (nD D), ow (.lst ((dueP p rs d).map prD ++ (dueAt p rs d).map prD)), vl K, vl (nD d), none, none, none] = [vl (rotaD p rs), vl (nD D), ow (.lst ((dueP p rs (d + 1)).map prD)), vl K, vl (nD d), none, none, none]
    rw [dueP_succ, List.map_append])
  rw [List.nil_append, List.length_range] at g1
  refine runF_rt (ρ := E D s4') (seq_nx (ρ' := E 0 none) (pars_ok (ds := [.lst [], K]) (ρ1 := [vl (rotaD p rs), vl (nD D), none, none, none, none, none, none]) (cons_ok rfl (cons_ok ?_ rfl)) rfl) (seq_nx (for_ok (rngN_ok (N := D) (ρ1 := E 0 none) rfl (by omega)) g1) (ret_ok (m1_ok (x := .lst ((dueP p rs D).map prD)) rfl rfl)))) rfl
  refine lc_map (g := gV 5) (vs := [5]) (ρ := [vl (rotaD p rs), vl (nD D), none, none, none, none, none, none]) (ρ0 := [vl (rotaD p rs), vl (nD D), none, none, none, none, none, none]) (List.range p) nD kn (rngN_ok (N := p) rfl (by omega)) rfl (fun w hw => ?_) (by rw [List.length_range]; omega)
  have hw' := List.mem_range.mp hw
  refine ⟨[vl (rotaD p rs), vl (nD D), none, none, none, vl (nD w), none, none], rfl, [vl (rotaD p rs), vl (nD D), none, none, none, vl (nD w), none, none], tup_ok (ds := [.tup ((dueL p rs w).map nD), nD (rnd p rs w)]) (cons_ok (call_ok (ds := [rotaD p rs, nD w]) (r := .non) rfl rfl (due_round_ok h hl hp hw')) (cons_ok (call_ok (ds := [rotaD p rs, nD w]) (r := .non) rfl rfl (round_ok h hl hp hw')) rfl)) (sl_le (by simp)), rfl⟩
end Dl
namespace Dl
open PySem PySem.Spec PyProof.Rows L2
variable {p : Nat} {rs : List Rw}
/-! ### nested comprehensions -/
theorem liGo_ok {α : Type} {g : Dt → En → Option En} {t : Mi Bool} {I : Mc} {vs : List Nat} (f : α → Dt) (out : α → List Dt) {ρ : En} : ∀ (xs : List α) (acc : List Dt), (∀ x ∈ xs, ∀ acc : List Dt, acc.length + (out x).length ≤ 1000000 → ∃ ρ1, g (f x) ρ = some ρ1 ∧ ∃ ρ2, t ρ1 = .ok true ρ2 ∧ ∃ ρ3, I acc ρ2 = .ok (acc ++ out x) ρ3 ∧ wipeE ρ3 vs = ρ) →
    acc.length + (xs.flatMap out).length ≤ 1000000 → liGo g t I vs (xs.map f) acc ρ = .ok (acc ++ xs.flatMap out) ρ
  | [], acc, _, _ => by show Ou.ok acc ρ = _; simp
  | x :: xs, acc, h, hl => by
    rw [List.flatMap_cons, List.length_append] at hl
    obtain ⟨ρ1, h1, ρ2, h2, ρ3, h3, h4⟩ := h x (by simp) acc (by omega)
    rw [List.map_cons]
    unfold liGo
    rw [h1]; dsimp only; rw [h2]; dsimp only; rw [h3]; dsimp only
    rw [h4, liGo_ok f out xs (acc ++ out x) (fun y hy => h y (by simp [hy])) (by rw [List.length_append]; omega), List.flatMap_cons, List.append_assoc]
/-- all looks that can be -/
def allLk (p D : Nat) : List Lk := (List.range (D + 1)).flatMap fun d => (List.range p).flatMap fun w => (List.range 2).flatMap fun s => [(d, w, s)]
theorem mem_allLk {p D : Nat} {q : Lk} : q ∈ allLk p D ↔ q.1 ≤ D ∧ q.2.1 < p ∧ q.2.2 < 2 := by
  obtain ⟨d, w, s⟩ := q
  unfold allLk
  simp only [List.mem_flatMap, List.mem_range, List.mem_cons, List.not_mem_nil, or_false, Prod.mk.injEq]
  constructor
  · rintro ⟨a, ha, b, hb, c, hc, rfl, rfl, rfl⟩
    exact ⟨by omega, hb, hc⟩
  · rintro ⟨h1, h2, h3⟩
    exact ⟨d, by omega, w, h2, s, h3, rfl, rfl, rfl⟩
theorem flat_len {α β : Type} (f : α → List β) (k : Nat) : ∀ l : List α, (∀ x ∈ l, (f x).length ≤ k) → (l.flatMap f).length ≤ l.length * k
  | [], _ => by simp
  | x :: l, h => by
    rw [List.flatMap_cons, List.length_append, List.length_cons, Nat.succ_mul]
    have h1 := h x (by simp)
    have h2 := flat_len f k l fun y hy => h y (by simp [hy])
    omega
theorem allLk_len (p D : Nat) : (allLk p D).length ≤ (D + 1) * (p * 2) := by
  have := flat_len (fun d => (List.range p).flatMap fun w => (List.range 2).flatMap fun s => [((d, w, s) : Lk)]) (p * 2) (List.range (D + 1)) fun d _ => by
    have := flat_len (fun w => (List.range 2).flatMap fun s => [((d, w, s) : Lk)]) 2 (List.range p) fun w _ => by
      exact Nat.le_refl 2
    rw [List.length_range] at this
    exact this
  rw [List.length_range] at this
  exact this
theorem every_look_ok (hp : p < 100) (D : Nat) (hD : D < 1000) : m_every_look [rotaD p rs, nD D] = .ret (.lst ((allLk p D).map lkD)) .non := by
  let E (a b c : Option Sl) : En := [vl (rotaD p rs), vl (nD D), a, b, c]
  let o3 (d w s : Nat) : List Dt := [lkD (d, w, s)]
  let o2 (d w : Nat) : List Dt := (List.range 2).flatMap (o3 d w)
  let o1 (d : Nat) : List Dt := (List.range p).flatMap (o2 d)
  have l2 : ∀ d w, (o2 d w).length ≤ 2 := fun d w => Nat.le_refl 2
  have l1 : ∀ d, (o1 d).length ≤ p * 2 := fun d => by
    have := flat_len (o2 d) 2 (List.range p) fun w _ => l2 d w
    rw [List.length_range] at this
    exact this
  have l0 : ((List.range (D + 1)).flatMap o1).length ≤ (D + 1) * (p * 2) := by
    have := flat_len o1 (p * 2) (List.range (D + 1)) fun d _ => l1 d
    rw [List.length_range] at this
    exact this
  have hb : (D + 1) * (p * 2) ≤ 1000 * 200 := Nat.mul_le_mul (by omega) (by omega)
  have e0 : ((allLk p D).map lkD) = (List.range (D + 1)).flatMap o1 := by
    unfold allLk
    rw [List.map_flatMap]
    congr 1; funext d
    rw [List.map_flatMap]
    congr 1
  refine runF_rt (ρ := E none none none) (ret_ok ?_) rfl
  show mBind _ _ _ = _
  refine bind_ok (a := (List.range (D + 1)).map nD) (ρ1 := E none none none) (rngN_ok (N := D + 1) (cons_ok (m2_ok (y := nD 1) rfl rfl (fAdd_nat D 1)) rfl) (by omega)) ?_
  show (if ownAny (E none none none) [2, 3, 4] = true then Ou.bad else _) = _
  rw [if_neg (show ¬ ownAny (E none none none) [2, 3, 4] = true from fun z => Bool.noConfusion z)]
  have key := liGo_ok (g := gV 2) (t := mPure true) (I := iNext (mRng1 (mCons (m1 (fAttr ix_places) (mPeek 0)) (mPure []))) (gV 3) (mPure true) (iNext (mRng1 (mCons (mPure (.int 2)) (mPure []))) (gV 4) (mPure true) (iLast (mTup (mCons (mVar 2) (mCons (mVar 3) (mCons (mVar 4) (mPure [])))))) [4]) [3, 4]) (vs := [2, 3, 4]) nD o1 (ρ := E none none none) (List.range (D + 1)) [] (by
    intro d _ acc hacc
    refine ⟨E (vl (nD d)) none none, rfl, E (vl (nD d)) none none, rfl, E (vl (nD d)) none none, ?_, rfl⟩
    refine bind_ok (a := (List.range p).map nD) (ρ1 := E (vl (nD d)) none none) (rngN_ok (N := p) rfl (by omega)) ?_
    refine liGo_ok (ρ := E (vl (nD d)) none none) nD (o2 d) (List.range p) acc (fun w _ acc hacc => ?_) hacc
    refine ⟨E (vl (nD d)) (vl (nD w)) none, rfl, E (vl (nD d)) (vl (nD w)) none, rfl, E (vl (nD d)) (vl (nD w)) none, ?_, rfl⟩
    refine bind_ok (a := (List.range 2).map nD) (ρ1 := E (vl (nD d)) (vl (nD w)) none) (rngN_ok (N := 2) rfl (by omega)) ?_
    refine liGo_ok (ρ := E (vl (nD d)) (vl (nD w)) none) nD (o3 d w) (List.range 2) acc (fun s _ acc hacc => ?_) hacc
    refine ⟨E (vl (nD d)) (vl (nD w)) (vl (nD s)), rfl, E (vl (nD d)) (vl (nD w)) (vl (nD s)), rfl, E (vl (nD d)) (vl (nD w)) (vl (nD s)), ?_, rfl⟩
    refine bind_ok (a := lkD (d, w, s)) (ρ1 := E (vl (nD d)) (vl (nD w)) (vl (nD s))) rfl ?_
    have : acc.length < sizeLine := sl_lt (by
      have : (o3 d w s).length = 1 := rfl
      omega)
    rw [if_pos this]; rfl) (by
    rw [List.length_nil]; omega)
  rw [show wipeE (E none none none) [2, 3, 4] = E none none none from rfl, key, e0, List.nil_append]
  rfl
/-! ### a season is made -/
structure GoodLk (p D : Nat) (q : Lk) : Prop where
  d : q.1 ≤ D
  w : q.2.1 < p
  s : q.2.2 < 2
theorem is_look_ok {q : Lk} {D : Nat} (h : GoodLk p D q) : m_is_look [lkD q, rotaD p rs, nD D] = .ret (.bl true) .non := by
  obtain ⟨d, w, s⟩ := q
  have e1 := is_below_nat d (D + 1)
  rw [decide_eq_true (by have : d ≤ D := h.d; omega)] at e1
  have e2 := is_below_nat w p
  rw [decide_eq_true (show w < p from h.w)] at e2
  have e3 := is_below_nat s 2
  rw [decide_eq_true (show s < 2 from h.s)] at e3
  let E : En := [vl (lkD (d, w, s)), vl (rotaD p rs), vl (nD D)]
  refine runF_rt (ρ := E) (seq_nx (ρ' := E) (if_f (ρ1 := E) (or_f (ρ1 := E) (not_ok (b := true) rfl) (tb_ok (m2_ok (x := nD 3) (y := .int 3) (ρ1 := E) rfl rfl (fne_self (k := 0) (.int 3) (by decide))))) rfl) (ret_ok (andV_t (ρ1 := E) (call_ok (ds := [nD d, nD (D + 1)]) (r := .non) (cons_ok rfl (cons_ok (m2_ok (y := nD 1) rfl rfl (fAdd_nat D 1)) rfl)) rfl e1) (andV_t (ρ1 := E) (call_ok (ds := [nD w, nD p]) (r := .non) rfl rfl e2) (call_ok (ds := [nD s, nD 2]) (r := .non) rfl rfl e3))))) rfl
/-- the looks of a season, ascending -/
def lksOf (p D : Nat) (L : List Lk) : List Lk := (allLk p D).filter fun q => decide (q ∈ L)
def seasonD (p : Nat) (rs : List Rw) (D b : Nat) (L : List Lk) : Dt := .ins 1 [rotaD p rs, nD D, nD b, .tup (L.map lkD), nD p, .tup ((dueP p rs D).map prD)]
theorem season_init (h : Good p rs) (hl : rs.length < 1000) (hp : p < 100) {D b : Nat} (hD0 : 0 < D) (hD : D < 1000) {c : Bool} {L : List Lk} (hL : ∀ q ∈ L, GoodLk p D q) (hLn : L.length < 1000) :
    m_Season_init [.ins 1 [], rotaD p rs, nD D, nD b, sqD c (L.map lkD)] = .ret .non (seasonD p rs D b (lksOf p D L)) := by
  have hal := allLk_len p D
  have hb : (D + 1) * (p * 2) ≤ 1000 * 200 := Nat.mul_le_mul (by omega) (by omega)
  generalize hQ : sqD c (L.map lkD) = Q
  have hseq : m_is_sequence [Q] = .ret (.bl true) .non := by rw [← hQ]; cases c <;> rfl
  have hit : mSeqI (mVar 4) [io (.ins 1 []), vl (rotaD p rs), vl (nD D), vl (nD b), vl Q, none, none] = .ok (L.map lkD) [io (.ins 1 []), vl (rotaD p rs), vl (nD D), vl (nD b), vl Q, none, none] := by rw [← hQ]; cases c <;> rfl
  let E (fs : List Dt) : En := [io (.ins 1 fs), vl (rotaD p rs), vl (nD D), vl (nD b), vl Q, none, none]
  refine runF_nx (ρ := E [rotaD p rs, nD D, nD b, .tup ((lksOf p D L).map lkD), nD p, .tup ((dueP p rs D).map prD)]) ?_ rfl
  unfold b_Season_init
  refine seq_nx (ρ' := E []) (if_f (ρ1 := E []) (not_ok (b := true) (tb_ok (call_ok (ds := [nD D, .int 1]) (r := .non) rfl rfl (by rw [is_from_int, decide_eq_true (by omega)])))) rfl) ?_
  refine seq_nx (ρ' := E []) (if_f (ρ1 := E []) (not_ok (b := true) (tb_ok (call_ok (ds := [nD b, .int 0]) (r := .non) rfl rfl (by rw [is_from_int, decide_eq_true (by omega)])))) rfl) ?_
  refine seq_nx (ρ' := E []) (if_f (ρ1 := E []) (or_f (ρ1 := E []) (not_ok (b := true) (tb_ok (call_ok (ds := [Q]) (r := .non) rfl rfl hseq))) (not_ok (b := true) (tb_ok ?_))) rfl) ?_
  · have e : mLc (mSeqI (mVar 4)) (gV 5) (mPure true) (mCall 3 m_is_look (mCons (mVar 5) (mCons (mVar 1) (mCons (mVar 2) (mPure []))))) [5] (E []) = .ok (.lst (L.map fun _ => .bl true)) (E []) :=
      lc_map L lkD _ hit rfl (fun q hq => ⟨[io (.ins 1 []), vl (rotaD p rs), vl (nD D), vl (nD b), vl Q, vl (lkD q), none], rfl, [io (.ins 1 []), vl (rotaD p rs), vl (nD D), vl (nD b), vl Q, vl (lkD q), none], call_ok (ds := [lkD q, rotaD p rs, nD D]) (r := .non) rfl rfl (is_look_ok (hL q hq)), rfl⟩) (by omega)
    have e2 := all_ok (f := fun _ => true) e
    rw [List.all_eq_true.mpr fun x hx => rfl] at e2
    exact e2
  refine seq_nx (ρ' := E [rotaD p rs]) (fput_new (d := rotaD p rs) (c := 1) (ds := []) rfl rfl rfl rfl) ?_
  refine seq_nx (ρ' := E [rotaD p rs, nD D]) (fput_new (d := nD D) (c := 1) (ds := [rotaD p rs]) rfl rfl rfl rfl) ?_
  refine seq_nx (ρ' := E [rotaD p rs, nD D, nD b]) (fput_new (d := nD b) (c := 1) (ds := [rotaD p rs, nD D]) rfl rfl rfl rfl) ?_
  let E3 : En := E [rotaD p rs, nD D, nD b]
  have e5 := lc_ok (g := gV 6) (t := mB (m2 fInA (mVar 6) (mPeek 4))) (e := mVar 6) (vs := [6]) (mi := mSeqI (mCall 2 m_every_look (mCons (mVar 1) (mCons (mVar 2) (mPure []))))) (ρ := E3) (ρ0 := E3) (allLk p D) lkD (fun q => decide (q ∈ L)) lkD (bind_ok (a := .lst ((allLk p D).map lkD)) (ρ1 := E3) (call_ok (ds := [rotaD p rs, nD D]) (r := .non) rfl rfl (every_look_ok hp D hD)) rfl) rfl (fun q hq => by
    let E4 : En := [io (.ins 1 [rotaD p rs, nD D, nD b]), vl (rotaD p rs), vl (nD D), vl (nD b), vl Q, none, vl (lkD q)]
    refine ⟨E4, rfl, E4, tb_ok (m2_ok (x := lkD q) (y := Q) rfl rfl (by rw [← hQ]; exact in_lk q L)), fun _ => rfl, fun _ => ⟨E4, rfl, rfl⟩⟩) (by omega)
  refine seq_nx (ρ' := E [rotaD p rs, nD D, nD b, .tup ((lksOf p D L).map lkD)]) (fput_new (d := .tup ((lksOf p D L).map lkD)) (c := 1) (ds := [rotaD p rs, nD D, nD b]) (ρ1 := E3) (m1_ok e5 rfl) rfl rfl rfl) ?_
  refine seq_nx (ρ' := E [rotaD p rs, nD D, nD b, .tup ((lksOf p D L).map lkD), nD p]) (fput_new (d := nD p) (c := 1) (ds := [rotaD p rs, nD D, nD b, .tup ((lksOf p D L).map lkD)]) rfl rfl rfl rfl) ?_
  exact fput_new (d := .tup ((dueP p rs D).map prD)) (c := 1) (ds := [rotaD p rs, nD D, nD b, .tup ((lksOf p D L).map lkD), nD p]) (ρ1 := E [rotaD p rs, nD D, nD b, .tup ((lksOf p D L).map lkD), nD p]) (call_ok (ds := [rotaD p rs, nD D]) (r := .non) rfl rfl (every_due_ok h hl hp D hD)) rfl rfl rfl
end Dl
namespace Dl
open PySem PySem.Spec PyProof.Rows L2
variable {p : Nat} {rs : List Rw} {D b : Nat} {L : List Lk}
/-! ### misses -/
structure Miss (p : Nat) (rs : List Rw) (D : Nat) (M : List (Nat × Nat)) : Prop where
  nd : M.Nodup
  mem : ∀ q ∈ M, q ∈ dueP p rs D
theorem Miss.len {M : List (Nat × Nat)} (h : Miss p rs D M) : M.length ≤ D * p := by
  have h1 : M.length ≤ (dueP p rs D).length := List.Nodup.length_le_of_subset h.nd fun q hq => h.mem q hq
  have h2 := dueP_len (p := p) (rs := rs) D
  omega
/-! ### what was turned -/
theorem due_days_ok (w : Nat) (hw : w < p) (hDp : D * p ≤ 100000) : m_due_days [seasonD p rs D b L, nD w] = .ret (.tup (((List.range D).filter (isDue rs w)).map nD)) .non := by
  let E : En := [vl (seasonD p rs D b L), vl (nD w), none, none]
  have hU := dueP_len (p := p) (rs := rs) D
  have e := lc_ok (g := gT (gsC (gV 2) (gsC (gV 3) gsN)) 2) (t := mB (m2 fEq (mVar 3) (mPeek 1))) (e := mVar 2) (vs := [2, 3]) (mi := mSeqI (m1 (fAttr ix_due) (mPeek 0))) (ρ := E) (ρ0 := E) (dueP p rs D) prD (fun q => decide (q.2 = w)) (fun q => nD q.1) rfl rfl (fun x hx => by
    obtain ⟨d, v⟩ := x
    refine ⟨[vl (seasonD p rs D b L), vl (nD w), vl (nD d), vl (nD v)], rfl, [vl (seasonD p rs D b L), vl (nD w), vl (nD d), vl (nD v)], tb_ok (m2_ok rfl rfl ?_), fun _ => rfl, fun _ => ⟨_, rfl, rfl⟩⟩
    rw [feq_int]
    congr 2
    exact decide_eq_decide.mpr (by omega)) (by omega)
  have e2 : ((dueP p rs D).filter fun q => decide (q.2 = w)).map (fun q => nD q.1) = ((List.range D).filter (isDue rs w)).map nD := by
    rw [← pick_w D w hw, List.map_map]; rfl
  rw [e2] at e
  exact runF_rt (ρ := E) (ret_ok (m1_ok e rfl)) rfl
/-- the days ahead of one on which a wheel was turned -/
def madeL (rs : List Rw) (D : Nat) (M : List (Nat × Nat)) (w day : Nat) : List Nat := ((List.range D).filter (isDue rs w)).filter fun d => decide (d < day) && !decide ((d, w) ∈ M)
def sideN (rs : List Rw) (D : Nat) (M : List (Nat × Nat)) (day w : Nat) : Nat := (madeL rs D M w day).length % 2
theorem ix_last {l : List Nat} (h : 0 < l.length) : fIx (.lst (l.map nD)) (.int (-1)) = some (nD (l.getLastD 0)) := by
  show atI (l.map nD) (-1) = _
  have e : l ≠ [] := fun z => by rw [z] at h; exact absurd h (by decide)
  have h1 : (l.map nD)[l.length - 1]? = some (nD (l.getLastD 0)) := by
    rw [List.getElem?_map, ← List.getLast?_eq_getElem?, List.getLast?_eq_some_getLast e, List.getLastD_eq_getLast?, List.getLast?_eq_some_getLast e]; rfl
  unfold atI ixN
  rw [if_neg (by decide), if_pos (by rw [List.length_map]; omega)]
  show (l.map nD)[((-1 : Int) + ((l.map nD).length : Int)).toNat]? = _
  rw [List.length_map, show ((-1 : Int) + (l.length : Int)).toNat = l.length - 1 by omega, h1]
theorem gt0_nat (n : Nat) : fGt (nD n) (.int 0) = some (.bl (decide (0 < n))) := by
  show some (Dt.bl (decide ((0 : Int) < (n : Int)))) = _
  rw [show (decide ((0 : Int) < (n : Int))) = decide (0 < n) from decide_eq_decide.mpr (by omega)]
/-! ### looks that break -/
theorem fne_nat (a b : Nat) : fNe (nD a) (nD b) = some (.bl (!decide (a = b))) := by
  rw [fne_int]
  congr 3
  exact decide_eq_decide.mpr (by omega)
theorem fLe_nat (a b : Nat) : fLe (nD a) (nD b) = some (.bl (decide (a ≤ b))) := by
  show some (Dt.bl _) = some (Dt.bl _)
  congr 2
  exact decide_eq_decide.mpr (by omega)
end Dl
namespace Dl
open PySem PySem.Spec PyProof.Rows L2
variable {p : Nat} {rs : List Rw} {D b : Nat} {L : List Lk}
/-! ### misses are drawn -/
theorem fMin_nat (a b : Nat) : fMin2 (nD a) (nD b) = some (nD (min a b)) := by
  show some (Dt.int _) = some (Dt.int _)
  congr 2
  omega
theorem law_missed_any (q : Int × Int × Int) (hp : p < 100) (hD : D < 1000) (m : Nat) (hm : m < 1000) : ∃ (M : List (Nat × Nat)) (q' : Int × Int × Int), Miss p rs D M ∧ M.length ≤ m ∧ m_law_missed [bxD q, .lst ((dueP p rs D).map prD), nD m] = .ret (.lst (M.map prD)) (bxD q') := by
  have hDp : D * p ≤ 999 * 99 := Nat.mul_le_mul (by omega) (by omega)
  have hU := dueP_len (p := p) (rs := rs) D
  obtain ⟨ys, q1, pm, e1⟩ := mixed_any q ((dueP p rs D).map prD) (by rw [List.length_map]; omega)
  obtain ⟨zs, pz, rfl⟩ := perm_map_inv prD pm (dueP p rs D) rfl
  obtain ⟨k, q2, hk, e2⟩ := take_nat q1 (m + 1) (by omega) (by omega)
  let U : Dt := .lst ((dueP p rs D).map prD)
  have hzl : zs.length = (dueP p rs D).length := pz.length_eq
  let n := min (dueP p rs D).length k
  have hn : n ≤ zs.length := by rw [hzl]; exact Nat.min_le_left _ _
  refine ⟨zs.take n, q2, ⟨(pz.nodup_iff.mpr (dueP_nodup D)).sublist (List.take_sublist _ _), fun x hx => pz.mem_iff.mp (List.mem_of_mem_take hx)⟩, ?_, ?_⟩
  · rw [List.length_take]
    have : n ≤ k := Nat.min_le_right _ _
    omega
  · refine runF_rt (ρ := [io (bxD q2), vl U, vl (nD m)]) (ret_ok ?_) rfl
    refine bind_ok (a := .lst (zs.map prD)) (ρ1 := [io (bxD q1), vl U, vl (nD m)]) (callIo_ok (io0 := true) (d0 := bxD q) (io := true) (d1 := bxD q) (ds := [U]) rfl rfl rfl rfl e1 rfl) ?_
    refine bind_ok (a := none) (ρ1 := [io (bxD q1), vl U, vl (nD m)]) rfl ?_
    have e3 : m2 fMin2 (m1 fInt (m1 fLen (mPeek 1))) (m1 fInt (mCallIo 2 m_law_take 0 (mCons (m2 fAdd (mVar 2) (mPure (.int 1))) (mPure [])))) [io (bxD q1), vl U, vl (nD m)] = .ok (nD n) [io (bxD q2), vl U, vl (nD m)] :=
      m2_ok (m1_ok (x := nD (dueP p rs D).length) (f := fInt) (m1_ok (x := U) rfl (len_lst prD _)) rfl) (m1_ok (x := nD k) (f := fInt) (callIo_ok (io0 := true) (d0 := bxD q1) (io := true) (d1 := bxD q1) (ds := [nD (m + 1)]) rfl (cons_ok (m2_ok (y := nD 1) rfl rfl (fAdd_nat m 1)) rfl) rfl rfl e2 rfl) rfl) (fMin_nat _ _)
    refine bind_ok (a := some ((n : Nat) : Int)) (ρ1 := [io (bxD q2), vl U, vl (nD m)]) (bind_ok e3 rfl) ?_
    show mOpt (some (Dt.lst (cutD (zs.map prD) none (some ((n : Nat) : Int))))) _ = _
    rw [cut_map, cut_to zs n hn]; rfl
/-! ### the law's own sides -/
def mlP (M : List (Nat × Nat)) (day : Nat) (pre : List (Nat × Nat)) (w : Nat) : List Nat := ((pre.filter fun q => decide (q.2 = w)).map (·.1)).filter fun d => decide (d < day) && !decide ((d, w) ∈ M)
theorem mlP_all (M : List (Nat × Nat)) (day w : Nat) (hw : w < p) : mlP M day (dueP p rs D) w = madeL rs D M w day := by
  unfold mlP madeL
  rw [pick_w D w hw]
theorem mlP_app (M : List (Nat × Nat)) (day : Nat) (pre : List (Nat × Nat)) (d v w : Nat) : mlP M day (pre ++ [(d, v)]) w = mlP M day pre w ++ (if v = w ∧ d < day ∧ (d, v) ∉ M then [d] else []) := by
  unfold mlP
  rw [List.filter_append, List.map_append, List.filter_append]
  congr 1
  by_cases h1 : v = w
  · subst h1
    rw [List.filter_cons_of_pos (by simp)]
    show ([d].filter _) = _
    by_cases h2 : d < day ∧ (d, v) ∉ M
    · rw [if_pos ⟨rfl, h2⟩, List.filter_cons_of_pos (by simp [h2.1, h2.2])]; rfl
    · rw [if_neg (fun z => h2 z.2), List.filter_cons_of_neg (by simpa using h2)]; rfl
  · rw [List.filter_cons_of_neg (by simpa using h1), if_neg (fun z => h1 z.1)]; rfl
theorem set_map (f : Nat → Nat) (n w v : Nat) (hw : w < n) : ((List.range n).map f).set w v = (List.range n).map fun u => if u = w then v else f u := by
  apply List.ext_getElem?
  intro i
  by_cases hi : i = w
  · subst hi
    rw [List.getElem?_set_self (by simpa using hw), List.getElem?_map, List.getElem?_range hw]; simp
  · rw [List.getElem?_set_ne (Ne.symm hi), List.getElem?_map, List.getElem?_map]
    by_cases h2 : i < n
    · rw [List.getElem?_range h2]; simp [hi]
    · rw [List.getElem?_eq_none (by simpa using h2)]; rfl
theorem rep_map (n : Nat) (x : Dt) : (List.replicate n [x]).flatten = (List.range n).map fun _ => x := by
  induction n with
  | zero => rfl
  | succ n ih =>
    rw [List.replicate_succ, List.flatten_cons, ih, List.range_succ_eq_map, List.map_cons, List.map_map]; rfl
theorem rep_ok {ma mb : Mi Dt} {ρ : En} {x : Dt} {n : Nat} (ha : ma ρ = .ok (.lst [x]) ρ) (hb : mb ρ = .ok (nD n) ρ) (hn : n ≤ 1000) : mRep ma mb ρ = .ok (.lst ((List.range n).map fun _ => x)) ρ := by
  have hc : -(2 ^ 63) ≤ (n : Int) ∧ (n : Int) < 2 ^ 63 ∧ [x].length * ((n : Int)).toNat ≤ sizeLine :=
    ⟨Int.le_trans (by decide) (Int.natCast_nonneg n), Int.lt_trans (show (n : Int) < 2000 by omega) (by decide), sl_le (by rw [List.length_singleton]; omega)⟩
  unfold mRep
  refine bind_ok ha (bind_ok hb ?_)
  show (if _ then mPure (Dt.lst (List.replicate ((n : Int)).toNat [x]).flatten) else mBad) ρ = _
  rw [if_pos hc, show ((n : Int)).toNat = n by omega, rep_map]; rfl
/-- a cell of a list of numbers is put -/
theorem lput_nat {i : Nat} {mk mv : Mi Dt} {ρ : En} {l : List Nat} {w v : Nat} {ρ' : En} {io0 : Bool} (hv : mv ρ = .ok (nD v) ρ) (hk : mk ρ = .ok (nD w) ρ) (h : ρ[i]? = some (some (.own io0 (.lst (l.map nD))))) (hw : w < l.length) (hr : ρ.set i (some (.own io0 (.lst ((l.set w v).map nD)))) = ρ') : sLput i mk mv ρ = .nx ρ' := by
  subst hr
  unfold sLput sBind
  rw [hv]; dsimp only
  have e1 : hasSl i mk ρ = .ok (nD w) ρ := by unfold hasSl; rw [h]; exact hk
  rw [e1]; dsimp only
  have e2 : putL i (nD w) (nD v) ρ = .ok .non (ρ.set i (some (.own io0 (.lst ((l.set w v).map nD))))) := by
    unfold putL
    refine mut_ok h ?_ rfl
    show (ixN (l.map nD).length (w : Int)).map _ = _
    unfold ixN
    rw [if_pos (by omega), if_pos (by rw [List.length_map]; omega), Option.map_some]
    show some (Dt.non, (l.map nD).set w (nD v)) = _
    rw [List.map_set]
  rw [e2]
def sdP (M : List (Nat × Nat)) (day : Nat) (pre : List (Nat × Nat)) (w : Nat) : Nat := (mlP M day pre w).length % 2
theorem law_sides_ok (hp : p < 100) (hD : D < 1000) {c : Bool} (M : List (Nat × Nat)) (day : Nat) : m_law_sides [nD p, .lst ((dueP p rs D).map prD), sqD c (M.map prD), nD day] = .ret (.lst (((List.range p).map (sideN rs D M day)).map nD)) .non := by
  let U : Dt := .lst ((dueP p rs D).map prD)
  let Q := sqD c (M.map prD)
  let E (pre : List (Nat × Nat)) (s5 s6 : Option Dt) : En := [vl (nD p), vl U, vl Q, vl (nD day), ow (.lst (((List.range p).map (sdP M day pre)).map nD)), lv s5, lv s6]
  obtain ⟨ρ', g1, s5', s6', rfl⟩ := forGo_inv (g := gT (gsC (gV 5) (gsC (gV 6) gsN)) 2) (bd := (sIf (mAnd (mB (m2 fLt (mVar 5) (mPeek 3))) (mB (m2 fNotInA (mTup (mCons (mVar 5) (mCons (mVar 6) (mPure [])))) (mPeek 2)))) (sLput 4 (mVar 6) (m2 fSub (mPure (.int 1)) (hasSl 4 (mIxV 4 (mVar 6))))) (fun ρ => .nx ρ))) prD (fun pre ρ => ∃ s5 s6, ρ = E pre s5 s6) (dueP p rs D) [] (E [] none none) ⟨none, none, rfl⟩ (by
    rintro pre ⟨d, w⟩ post ρ e ⟨s5, s6, rfl⟩
    rw [List.nil_append] at e
    have hw : w < p := (mem_dueP.mp (show (d, w) ∈ dueP p rs D by rw [e]; simp)).2.1
    let F (pre : List (Nat × Nat)) : En := E pre (some (nD d)) (some (nD w))
    refine ⟨F pre, by cases s5 <;> cases s6 <;> rfl, F (pre ++ [(d, w)]), .inl ?_, some (nD d), some (nD w), rfl⟩
    have t1 : mB (m2 fLt (mVar 5) (mPeek 3)) (F pre) = .ok (decide (d < day)) (F pre) := tb_ok (m2_ok rfl rfl (fLt_nat _ _))
    have t2 : mB (m2 fNotInA (mTup (mCons (mVar 5) (mCons (mVar 6) (mPure [])))) (mPeek 2)) (F pre) = .ok (!decide ((d, w) ∈ M)) (F pre) := tb_ok (m2_ok (x := prD (d, w)) (y := Q) rfl rfl (notin_pr _ _))
    have same : ¬ (d < day ∧ (d, w) ∉ M) → F (pre ++ [(d, w)]) = F pre := fun hz => by
      have : (List.range p).map (sdP M day (pre ++ [(d, w)])) = (List.range p).map (sdP M day pre) := by
        apply List.map_congr_left
        intro u _
        unfold sdP
        rw [mlP_app, if_neg (fun z => hz z.2), List.append_nil]
      show [vl (nD p), vl U, vl Q, vl (nD day), ow (.lst (((List.range p).map (sdP M day (pre ++ [(d, w)]))).map nD)), _, _] = [vl (nD p), vl U, vl Q, vl (nD day), ow (.lst (((List.range p).map (sdP M day pre)).map nD)), _, _]
      rw [this]
    by_cases h1 : d < day
    · rw [decide_eq_true h1] at t1
      by_cases h2 : (d, w) ∈ M
      · rw [decide_eq_true h2] at t2
        rw [same fun z => z.2 h2]
        exact if_f (and_t t1 t2) rfl
      · rw [decide_eq_false h2] at t2
        refine if_t (and_t t1 t2) ?_
        have hle : sdP M day pre w ≤ 1 := by unfold sdP; omega
        have ei : hasSl 4 (mIxV 4 (mVar 6)) (F pre) = .ok (nD (sdP M day pre w)) (F pre) := by
          show mBind (mVar 6) (fun y => mBind (mPeek 4) fun x => mOpt (fIx x y)) (F pre) = _
          refine bind_ok (a := nD w) (ρ1 := F pre) rfl (bind_ok (a := .lst (((List.range p).map (sdP M day pre)).map nD)) (ρ1 := F pre) rfl ?_)
          show mOpt (atI (((List.range p).map (sdP M day pre)).map nD) (w : Int)) _ = _
          rw [atI_map nD _ w (x := sdP M day pre w) (by rw [List.getElem?_map, List.getElem?_range hw]; rfl)]; rfl
        refine lput_nat (l := (List.range p).map (sdP M day pre)) (w := w) (v := 1 - sdP M day pre w) (io0 := false) (m2_ok (x := nD 1) rfl ei (fSub_nat hle)) rfl rfl (by simpa using hw) ?_
        have : ((List.range p).map (sdP M day pre)).set w (1 - sdP M day pre w) = (List.range p).map (sdP M day (pre ++ [(d, w)])) := by
          rw [set_map _ _ _ _ hw]
          apply List.map_congr_left
          intro u _
          unfold sdP
          rw [mlP_app]
          by_cases hu : u = w
          · subst hu
            rw [if_pos rfl, if_pos ⟨rfl, h1, h2⟩, List.length_append, List.length_singleton]
            omega
          · rw [if_neg hu, if_neg (fun z => hu z.1.symm), List.append_nil]
        show [vl (nD p), vl U, vl Q, vl (nD day), ow (.lst ((((List.range p).map (sdP M day pre)).set w (1 - sdP M day pre w)).map nD)), _, _] = [vl (nD p), vl U, vl Q, vl (nD day), ow (.lst (((List.range p).map (sdP M day (pre ++ [(d, w)]))).map nD)), _, _]
        rw [this]
    · rw [decide_eq_false h1] at t1
      rw [same fun z => h1 z.1]
      exact if_f (and_f t1) rfl)
  rw [List.nil_append] at g1
  have hend : (List.range p).map (sdP M day (dueP p rs D)) = (List.range p).map (sideN rs D M day) := by
    apply List.map_congr_left
    intro w hw
    unfold sdP sideN
    rw [mlP_all M day w (List.mem_range.mp hw)]
  refine runF_rt (ρ := [vl (nD p), vl U, vl Q, vl (nD day), vl (.lst (((List.range p).map (sideN rs D M day)).map nD)), lv s5', lv s6']) (seq_nx (ρ' := E [] none none) (setN_ok (d := .lst (((List.range p).map (sdP M day [])).map nD)) (ρ1 := [vl (nD p), vl U, vl Q, vl (nD day), none, none, none]) ?_ rfl) (seq_nx (for_ok (ds := (dueP p rs D).map prD) (ρ1 := E [] none none) rfl g1) (ret_ok ?_))) rfl
  · have e9 := rep_ok (ma := mLst (mCons (mPure (.int 0)) (mPure []))) (mb := mPeek 0) (ρ := [vl (nD p), vl U, vl Q, vl (nD day), none, none, none]) (x := .int 0) (n := p) rfl rfl (by omega)
    rw [List.map_map]; exact e9
  · show mVar 4 (E (dueP p rs D) s5' s6') = _
    show Ou.ok (Dt.lst (((List.range p).map (sdP M day (dueP p rs D))).map nD)) [vl (nD p), vl U, vl Q, vl (nD day), vl (.lst (((List.range p).map (sdP M day (dueP p rs D))).map nD)), lv s5', lv s6'] = _
    rw [hend]
/-! ### looks are drawn -/
theorem side_lt (M : List (Nat × Nat)) (day w : Nat) : sideN rs D M day w < 2 := Nat.mod_lt _ (by decide)
theorem law_looks_any (q : Int × Int × Int) (h0 : 0 < p) (hp : p < 100) (hD : D < 1000) {c : Bool} (M : List (Nat × Nat)) : ∃ (K : List Lk) (q' : Int × Int × Int), (∀ x ∈ K, GoodLk p D x) ∧ K.length ≤ 4 ∧ m_law_looks [bxD q, nD p, nD D, .lst ((dueP p rs D).map prD), sqD c (M.map prD)] = .ret (.lst (K.map lkD)) (bxD q') := by
  let U : Dt := .lst ((dueP p rs D).map prD)
  let Q := sqD c (M.map prD)
  let E (q : Int × Int × Int) (K : List Lk) (s6 s7 s8 s9 : Option Dt) : En := [io (bxD q), vl (nD p), vl (nD D), vl U, vl Q, ow (.lst (K.map lkD)), lv s6, lv s7, lv s8, lv s9]
  obtain ⟨n, q1, hn, t1⟩ := take_nat q 5 (by decide) (by decide)
  let bd : En → So := (sSeq (sPars [7, 8] [false, false] (mCons (mCallIo 2 m_law_take 0 (mCons (m2 fAdd (mVar 2) (mPure (.int 1))) (mPure []))) (mCons (mCallIo 2 m_law_take 0 (mCons (mVar 1) (mPure []))) (mPure []))))
  (sSeq (sSet 9 (m2 fIx (mCall 4 m_law_sides (mCons (mVar 1) (mCons (mVar 3) (mCons (mVar 4) (mCons (mVar 7) (mPure [])))))) (mPeek 8)))
  (sDrop (ownLst 5 (mAppend 5 (mTup (mCons (mVar 7) (mCons (mVar 8) (mCons (mIfE (mB (m2 fGt (mCallIo 2 m_law_take 0 (mCons (mPure (.int 9)) (mPure []))) (mPure (.int 0)))) (mVar 9) (m2 fSub (mPure (.int 1)) (mPeek 9))) (mPure []))))))))))
  obtain ⟨ρ', g1, q2, K, s6, s7, s8, s9, rfl, hK, hKl⟩ := forGo_inv (g := gV 6) (bd := bd) nD (fun pre ρ => ∃ q K s6 s7 s8 s9, ρ = E q K s6 s7 s8 s9 ∧ (∀ x ∈ K, GoodLk p D x) ∧ K.length = pre.length) (List.range n) [] (E q1 [] none none none none) ⟨q1, [], none, none, none, none, rfl, (fun x hx => nomatch hx), rfl⟩ (by
    rintro pre i post ρ e ⟨q, K, s6, s7, s8, s9, rfl, hK, hKl⟩
    rw [List.nil_append] at e
    have hpl : pre.length < 5 := by
      have := congrArg List.length e
      rw [List.length_range, List.length_append, List.length_cons] at this
      omega
    obtain ⟨d, q1, hd, t1⟩ := take_nat q (D + 1) (by omega) (by omega)
    obtain ⟨w, q2, hw, t2⟩ := take_nat q1 p (by omega) (by omega)
    obtain ⟨z, q3, hz, t3⟩ := take_nat q2 9 (by decide) (by decide)
    let sd := sideN rs D M d w
    have hsd : sd < 2 := side_lt M d w
    let S (q : Int × Int × Int) (s9 : Option Dt) : En := E q K (some (nD i)) (some (nD d)) (some (nD w)) s9
    let v : Nat := if 0 < z then sd else 1 - sd
    have hv : v < 2 := by show (if 0 < z then sd else 1 - sd) < 2; split <;> omega
    refine ⟨E q K (some (nD i)) s7 s8 s9, by cases s6 <;> rfl, E q3 (K ++ [(d, w, v)]) (some (nD i)) (some (nD d)) (some (nD w)) (some (nD sd)), .inl ?_, q3, K ++ [(d, w, v)], some (nD i), some (nD d), some (nD w), some (nD sd), rfl, ?_, by rw [List.length_append, List.length_append, hKl]; rfl⟩
    · refine seq_nx (ρ' := S q2 s9) (pars_ok (ds := [nD d, nD w]) (ρ1 := E q2 K (some (nD i)) s7 s8 s9) (cons_ok (ρ1 := E q1 K (some (nD i)) s7 s8 s9) (callIo_ok (io0 := true) (d0 := bxD q) (io := true) (d1 := bxD q) (ds := [nD (D + 1)]) rfl (cons_ok (m2_ok (y := nD 1) rfl rfl (fAdd_nat D 1)) rfl) rfl rfl t1 rfl) (cons_ok (ρ1 := E q2 K (some (nD i)) s7 s8 s9) (callIo_ok (io0 := true) (d0 := bxD q1) (io := true) (d1 := bxD q1) (ds := [nD p]) rfl rfl rfl rfl t2 rfl) rfl)) (by cases s7 <;> cases s8 <;> rfl)) ?_
      refine seq_nx (ρ' := S q2 (some (nD sd))) (set_ok (m2_ok (call_ok (ds := [nD p, U, Q, nD d]) (r := .non) rfl rfl (law_sides_ok hp hD M d)) rfl ?_) (by cases s9 <;> rfl)) ?_
      · show atI (((List.range p).map (sideN rs D M d)).map nD) (w : Int) = _
        exact atI_map nD _ w (x := sd) (by rw [List.getElem?_map, List.getElem?_range hw]; rfl)
      · have t4 : mCallIo 2 m_law_take 0 (mCons (mPure (.int 9)) (mPure [])) (S q2 (some (nD sd))) = .ok (nD z) (S q3 (some (nD sd))) := callIo_ok (io0 := true) (d0 := bxD q2) (io := true) (d1 := bxD q2) (ds := [nD 9]) rfl rfl rfl rfl t3 rfl
        have et : mB (m2 fGt (mCallIo 2 m_law_take 0 (mCons (mPure (.int 9)) (mPure []))) (mPure (.int 0))) (S q2 (some (nD sd))) = .ok (decide (0 < z)) (S q3 (some (nD sd))) := tb_ok (m2_ok t4 rfl (gt0_nat z))
        have ev : mIfE (mB (m2 fGt (mCallIo 2 m_law_take 0 (mCons (mPure (.int 9)) (mPure []))) (mPure (.int 0)))) (mVar 9) (m2 fSub (mPure (.int 1)) (mPeek 9)) (S q2 (some (nD sd))) = .ok (nD v) (S q3 (some (nD sd))) := by
          by_cases hz0 : 0 < z
          · rw [decide_eq_true hz0] at et
            have : v = sd := if_pos hz0
            rw [this]
            exact ife_t et rfl
          · rw [decide_eq_false hz0] at et
            have : v = 1 - sd := if_neg hz0
            rw [this]
            exact ife_f et (m2_ok (x := nD 1) (y := nD sd) rfl rfl (fSub_nat (by omega)))
        refine drop_ok (append_ok (es := K.map lkD) (ds := K.map lkD) (d := lkD (d, w, v)) (ρ1 := S q3 (some (nD sd))) rfl (tup_ok (ds := [nD d, nD w, nD v]) (cons_ok rfl (cons_ok rfl (cons_ok ev rfl))) (sl_le (by simp))) rfl (by rw [List.length_map]; omega) ?_)
        show [io (bxD q3), vl (nD p), vl (nD D), vl U, vl Q, ow (.lst (K.map lkD ++ [lkD (d, w, v)])), _, _, _, _] = [io (bxD q3), vl (nD p), vl (nD D), vl U, vl Q, ow (.lst ((K ++ [(d, w, v)]).map lkD)), _, _, _, _]
        have em : (K ++ [(d, w, v)]).map lkD = K.map lkD ++ [lkD (d, w, v)] := List.map_append
        rw [em]
    · intro x hx
      rcases List.mem_append.mp hx with hx | hx
      · exact hK x hx
      · rw [List.mem_singleton] at hx
        subst hx
        exact ⟨by show d ≤ D; omega, hw, hv⟩)
  rw [List.nil_append, List.length_range] at hKl
  refine ⟨K, q2, hK, by omega, runF_rt (ρ := [io (bxD q2), vl (nD p), vl (nD D), vl U, vl Q, vl (.lst (K.map lkD)), lv s6, lv s7, lv s8, lv s9]) (seq_nx (ρ' := E q [] none none none none) rfl (seq_nx (for_ok (rngN_ok (N := n) (ρ1 := E q1 [] none none none none) (cons_ok (callIo_ok (io0 := true) (d0 := bxD q) (io := true) (d1 := bxD q) (ds := [nD 5]) rfl rfl rfl rfl t1 rfl) rfl) (by omega)) g1) (ret_ok rfl))) rfl⟩
end Dl
namespace Dl
open PySem PySem.Spec PyProof.Rows L2
variable {p : Nat} {rs : List Rw} {D b : Nat} {L : List Lk}
/-! ### a season of the told rota -/
theorem dueP_srt (h : 0 < rs.length) (D : Nat) : dueP p (srt rs) D = dueP p rs D := by
  unfold dueP dueAt
  congr 1
  funext d
  congr 1
  apply List.filter_congr
  intro w _
  exact due_srt h w d
theorem Miss.srt {M : List (Nat × Nat)} (h0 : 0 < rs.length) (h : Miss p rs D M) : Miss p (srt rs) D M := ⟨h.nd, fun q hq => by rw [dueP_srt h0]; exact h.mem q hq⟩
theorem Miss.nil : Miss p rs D [] := ⟨List.nodup_nil, fun q hq => nomatch hq⟩
theorem flt_prs {k : Nat} (M : List (Nat × Nat)) : ∀ x ∈ M.map prD, Flt (k + 1) x := fun x hx => by
  obtain ⟨q, _, rfl⟩ := List.mem_map.mp hx
  exact pr_flt q
end Dl
namespace Dl
open PySem PySem.Spec PyProof.Rows L2
variable {p : Nat} {rs : List Rw} {D : Nat} {M : List (Nat × Nat)}
/-! ### what was turned ahead of a day, by the days themselves -/
/-! ### small steps -/
theorem gt_nat (a b : Nat) : fGt (nD a) (nD b) = some (.bl (decide (b < a))) := by
  show some (Dt.bl _) = some (Dt.bl _)
  congr 2
  exact decide_eq_decide.mpr (by omega)
end Dl
namespace Dl
open PySem PySem.Spec PyProof.Rows L2
variable {p : Nat} {rs : List Rw} {D b : Nat} {M : List (Nat × Nat)} {L K : List Lk}
theorem lks_good (K : List Lk) : ∀ q ∈ lksOf p D K, GoodLk p D q := fun q hq => by
  have := mem_allLk.mp (List.mem_filter.mp hq).1
  exact ⟨this.1, this.2.1, this.2.2⟩
theorem lks_mem {K : List Lk} {q : Lk} (h : q ∈ lksOf p D K) : q ∈ K := of_decide_eq_true (List.mem_filter.mp h).2
theorem mem_lks {K : List Lk} {q : Lk} (h : q ∈ K) (hg : GoodLk p D q) : q ∈ lksOf p D K := List.mem_filter.mpr ⟨mem_allLk.mpr ⟨hg.d, hg.w, hg.s⟩, decide_eq_true h⟩
theorem allLk_nodup (p D : Nat) : (allLk p D).Nodup := by
  unfold allLk
  rw [List.nodup_iff_pairwise_ne, List.pairwise_flatMap]
  refine ⟨fun d _ => ?_, (List.nodup_iff_pairwise_ne.mp List.nodup_range).imp fun h x hx y hy e => h ?_⟩
  · rw [List.pairwise_flatMap]
    refine ⟨fun w _ => ?_, (List.nodup_iff_pairwise_ne.mp List.nodup_range).imp fun h x hx y hy e => h ?_⟩
    · rw [List.pairwise_flatMap]
      refine ⟨fun s _ => List.pairwise_singleton _ _, (List.nodup_iff_pairwise_ne.mp List.nodup_range).imp fun h x hx y hy e => h ?_⟩
      rw [List.mem_singleton] at hx hy
      rw [hx, hy] at e
      injection e with _ e; injection e with _ e
    · simp only [List.mem_flatMap, List.mem_singleton] at hx hy
      obtain ⟨s, _, rfl⟩ := hx
      obtain ⟨s', _, rfl⟩ := hy
      injection e with _ e; injection e
  · simp only [List.mem_flatMap, List.mem_singleton] at hx hy
    obtain ⟨w, _, s, _, rfl⟩ := hx
    obtain ⟨w', _, s', _, rfl⟩ := hy
    injection e
theorem lks_nodup (K : List Lk) : (lksOf p D K).Nodup := (allLk_nodup p D).filter _
theorem season_seen_ok (h : Good p rs) (hl : rs.length < 1000) (hp : p < 100) (hD0 : 0 < D) (hD : D < 1000) {c : Bool} (hL : ∀ q ∈ L, GoodLk p D q) (hK : ∀ q ∈ K, GoodLk p D q) (hn : (L ++ K).length < 1000) : m_Season_seen [seasonD p rs D b L, sqD c (K.map lkD)] = .ret (seasonD p rs D b (lksOf p D (L ++ K))) .non := by
  let S := seasonD p rs D b L
  let Q := sqD c (K.map lkD)
  let E : En := [vl S, vl Q]
  have hLK : ∀ q ∈ L ++ K, GoodLk p D q := fun q hq => (List.mem_append.mp hq).elim (hL q) (hK q)
  have e := season_init (b := b) h hl hp hD0 hD (c := false) (L := L ++ K) hLK hn
  refine runF_rt (ρ := E) (seq_nx (ρ' := E) (if_f (ρ1 := E) (not_ok (b := true) (tb_ok (call_ok (ds := [Q]) (r := .non) rfl rfl (by show m_is_sequence [sqD c (K.map lkD)] = _; cases c <;> rfl)))) rfl) (ret_ok (make_ok (ds := [rotaD p rs, nD D, nD b, .lst ((L ++ K).map lkD)]) (ρ1 := E) (cons_ok rfl (cons_ok rfl (cons_ok rfl (cons_ok (lst_ok (ds := (L ++ K).map lkD) ?_ (sl_le (by rw [List.length_map]; omega))) rfl)))) rfl e))) rfl
  have em : (L ++ K).map lkD = L.map lkD ++ (K.map lkD ++ []) := by rw [List.append_nil, List.map_append]
  rw [em]
  have e2 : mStar (mPeek 1) (mPure []) E = .ok (K.map lkD ++ []) E := bind_ok (a := Q) (ρ1 := E) rfl (by show (match sqD c (K.map lkD) with | .lst xs => _ | .tup xs => _ | _ => _ : Mi (List Dt)) E = _; cases c <;> rfl)
  show mStar (m1 (fAttr ix_looks) (mPeek 0)) (mStar (mPeek 1) (mPure [])) E = _
  exact bind_ok (mm := m1 (fAttr ix_looks) (mPeek 0)) (a := Dt.tup (L.map lkD)) (ρ1 := E) rfl (show mBind (mStar (mPeek 1) (mPure [])) (fun ds => mPure (L.map lkD ++ ds)) E = _ from bind_ok e2 rfl)
/-! ### how many looks break -/
theorem filter_eq_one {α : Type} [DecidableEq α] {z : α} : ∀ {l : List α}, l.Nodup → z ∈ l → (l.filter fun x => decide (x = z)).length = 1
  | [], _, h => by cases h
  | x :: l, nd, h => by
    rw [List.nodup_cons] at nd
    by_cases e : x = z
    · subst e
      rw [List.filter_cons_of_pos (by simp), List.length_cons]
      have : l.filter (fun y => decide (y = x)) = [] := by
        rw [List.filter_eq_nil_iff]
        intro y hy
        simp
        intro e2; exact nd.1 (e2 ▸ hy)
      rw [this]; rfl
    · rw [List.filter_cons_of_neg (by simpa using e)]
      exact filter_eq_one nd.2 (by simpa [Ne.symm e] using h)
/-! ### the first miss is made up for -/
theorem meth_ok {c n : Nat} {f : List Dt → Fo} {m : Mi Dt} {ms : Mi (List Dt)} {ρ ρ1 ρ2 : En} {vs ds : List Dt} {d r : Dt} (hm : m ρ = .ok (.ins c vs) ρ1) (h : ms ρ1 = .ok ds ρ2) (hn : ds.length + 1 = n) (hf : f (.ins c vs :: ds) = .ret d r) : mMeth c n f m ms ρ = .ok d ρ2 := by
  unfold mMeth
  refine bind_ok hm ?_
  dsimp only
  rw [if_pos rfl]
  refine bind_ok h ?_
  rw [if_pos (by rw [List.length_cons]; exact hn), hf]
end Dl
namespace Dl
open PySem PySem.Spec PyProof.Rows L2
variable {p : Nat} {rs : List Rw} {D b : Nat} {M : List (Nat × Nat)} {K : List Lk}
/-! ### places by other numbers -/
/-- an order of the places -/
structure Ord (p : Nat) (o : List Nat) : Prop where
  pm : o.Perm (List.range p)
theorem Ord.len {o : List Nat} (h : Ord p o) : o.length = p := by rw [h.pm.length_eq, List.length_range]
theorem Ord.nd {o : List Nat} (h : Ord p o) : o.Nodup := h.pm.nodup_iff.mpr List.nodup_range
def oat (o : List Nat) (w : Nat) : Nat := o.getD w 0
theorem Ord.get {o : List Nat} (h : Ord p o) {w : Nat} (hw : w < p) : o[w]? = some (oat o w) := by
  unfold oat
  rw [List.getD_eq_getElem?_getD, List.getElem?_eq_getElem (by rw [h.len]; exact hw)]; rfl
theorem Ord.lt {o : List Nat} (h : Ord p o) {w : Nat} (hw : w < p) : oat o w < p := List.mem_range.mp (h.pm.mem_iff.mp (List.mem_of_getElem? (h.get hw)))
theorem Ord.inj {o : List Nat} (h : Ord p o) {a b : Nat} (ha : a < p) (hb : b < p) (e : oat o a = oat o b) : a = b := by
  have h1 := h.get ha
  have h2 := h.get hb
  rw [e] at h1
  have la : a < o.length := by rw [h.len]; exact ha
  have lb : b < o.length := by rw [h.len]; exact hb
  rw [List.getElem?_eq_getElem la] at h1
  rw [List.getElem?_eq_getElem lb] at h2
  exact (List.getElem_inj h.nd).mp ((Option.some.inj h1).trans (Option.some.inj h2).symm)
end Dl
namespace Dl
/-! ### lots: all sublists, ascending as tuples -/
section
variable {α : Type}
def lotT : List α → List (List α)
  | [] => []
  | x :: xs => ([] :: lotT xs).map (x :: ·) ++ lotT xs
def lots (xs : List α) : List (List α) := [] :: lotT xs
theorem cnt_cons (p : List α → Bool) (x : α) (xs : List α) : (lots (x :: xs)).countP p = (lots xs).countP (fun L => p (x :: L)) + (lots xs).countP p := by
  unfold lots
  rw [lotT, List.countP_cons, List.countP_append, List.countP_map, List.countP_cons]
  rw [List.countP_cons, List.countP_cons (l := lotT xs) (p := p)]
  simp only [Function.comp_def]
  omega
theorem cnt_nil (p : List α → Bool) : (lots ([] : List α)).countP p = if p [] = true then 1 else 0 := by
  unfold lots lotT; rw [List.countP_cons, List.countP_nil, Nat.zero_add]
theorem mem_lots {L : List α} : ∀ {xs : List α}, L ∈ lots xs ↔ L.Sublist xs
  | [] => by unfold lots lotT; simp
  | x :: xs => by
    have ih := @mem_lots L xs
    have ih2 := fun (M : List α) => @mem_lots M xs
    unfold lots at ih ih2 ⊢
    rw [lotT, List.mem_cons, List.mem_append, List.mem_map]
    constructor
    · rintro (h | ⟨M, h1, h2⟩ | h)
      · subst h; exact List.nil_sublist _
      · subst h2; exact ((ih2 M).mp h1).cons_cons x
      · exact (ih.mp (List.mem_cons_of_mem _ h)).cons x
    · intro h
      cases h with
      | cons _ h =>
        rcases List.mem_cons.mp (ih.mpr h) with e | e
        · exact .inl e
        · exact .inr (.inr e)
      | cons_cons _ h => exact .inr (.inl ⟨_, (ih2 _).mpr h, rfl⟩)
/-- a lot is parted by a test -/
theorem cnt_split (q : α → Bool) : ∀ (xs : List α) (P : List α → List α → Bool),
    (lots xs).countP (fun L => P (L.filter q) (L.filter fun x => !q x)) = ((lots (xs.filter q)).map fun A => (lots (xs.filter fun x => !q x)).countP (P A)).sum
  | [], P => by
    rw [cnt_nil]; simp only [List.filter_nil]
    show _ = ((lots ([] : List α)).map _).sum
    unfold lots lotT
    by_cases h : P [] [] = true
    · simp [List.countP_cons, h]
    · simp [List.countP_cons, h]
  | x :: xs, P => by
    rw [cnt_cons]
    by_cases hx : q x = true
    · have e1 := cnt_split q xs (fun A B => P (x :: A) B)
      have e2 := cnt_split q xs P
      rw [List.filter_cons_of_pos hx, List.filter_cons_of_neg (by simp [hx])]
      simp only [List.filter_cons_of_pos hx, List.filter_cons_of_neg (p := fun x => !q x) (a := x) (by simp [hx])]
      rw [e1, e2]
      have key : ∀ (f : List α → Nat), ((lots (x :: xs.filter q)).map f).sum = ((lots (xs.filter q)).map fun A => f (x :: A)).sum + ((lots (xs.filter q)).map f).sum := by
        intro f
        unfold lots
        rw [lotT]
        simp only [List.map_cons, List.map_append, List.sum_cons, List.sum_append, List.map_map, Function.comp_def]
        omega
      rw [key]
    · have hx' : q x = false := by simpa using hx
      have e1 := cnt_split q xs (fun A B => P A (x :: B))
      have e2 := cnt_split q xs P
      rw [List.filter_cons_of_neg hx, List.filter_cons_of_pos (p := fun x => !q x) (by simp [hx'])]
      simp only [List.filter_cons_of_neg hx, List.filter_cons_of_pos (p := fun x => !q x) (a := x) (by simp [hx'])]
      rw [e1, e2]
      have key : ∀ (l : List (List α)) (f g : List α → Nat), (l.map f).sum + (l.map g).sum = (l.map fun A => f A + g A).sum := by
        intro l f g
        induction l with
        | nil => rfl
        | cons a l ih => simp only [List.map_cons, List.sum_cons]; omega
      rw [key]
      congr 1
      apply List.map_congr_left
      intro A _
      rw [cnt_cons]
end
/-! ### sums by sizes -/
def conv (f g : Nat → Nat) (j : Nat) : Nat := ((List.range (j + 1)).map fun i => f i * g (j - i)).sum
theorem sum_zero {α : Type} {l : List α} {f : α → Nat} (h : ∀ x ∈ l, f x = 0) : (l.map f).sum = 0 := by
  induction l with
  | nil => rfl
  | cons a l ih => rw [List.map_cons, List.sum_cons, h a (by simp), ih fun x hx => h x (List.mem_cons_of_mem _ hx)]
theorem sum_pos {α : Type} {l : List α} {f : α → Nat} {x : α} (hx : x ∈ l) (h : 0 < f x) : 0 < (l.map f).sum := by
  induction l with
  | nil => cases hx
  | cons a l ih =>
    rw [List.map_cons, List.sum_cons]
    rcases List.mem_cons.mp hx with e | e
    · subst e; omega
    · have := ih e; omega
theorem sum_add {α : Type} (l : List α) (f g : α → Nat) : (l.map f).sum + (l.map g).sum = (l.map fun A => f A + g A).sum := by
  induction l with
  | nil => rfl
  | cons a l ih => simp only [List.map_cons, List.sum_cons]; omega
theorem sum_congr {α : Type} {l : List α} {f g : α → Nat} (h : ∀ x ∈ l, f x = g x) : (l.map f).sum = (l.map g).sum := by
  rw [List.map_congr_left h]
/-- a sum over things by their sizes -/
theorem sum_by_size {α : Type} (sz : α → Nat) (ok : α → Bool) (g : Nat → Nat) (j : Nat) : ∀ l : List α,
    (l.map fun A => if ok A = true ∧ sz A ≤ j then g (j - sz A) else 0).sum = conv (fun i => l.countP fun A => ok A && decide (sz A = i)) g j
  | [] => by
    unfold conv
    rw [List.map_nil]
    exact (sum_zero fun i _ => by simp).symm
  | a :: l => by
    rw [List.map_cons, List.sum_cons, sum_by_size sz ok g j l]
    unfold conv
    have e : ((List.range (j + 1)).map fun i => (if (ok a && decide (sz a = i)) = true then 1 else 0) * g (j - i)).sum = if ok a = true ∧ sz a ≤ j then g (j - sz a) else 0 := by
      by_cases ha : ok a = true
      · by_cases hs : sz a ≤ j
        · rw [if_pos ⟨ha, hs⟩]
          have : ∀ n, ((List.range n).map fun i => (if (ok a && decide (sz a = i)) = true then 1 else 0) * g (j - i)).sum = if sz a < n then g (j - sz a) else 0 := by
            intro n
            induction n with
            | zero => rfl
            | succ n ih =>
              rw [List.range_succ, List.map_append, List.sum_append, ih]
              simp only [List.map_cons, List.map_nil, List.sum_cons, List.sum_nil, ha, Bool.true_and, decide_eq_true_eq]
              by_cases h1 : sz a = n
              · subst h1
                simp
              · rw [if_neg h1]
                by_cases h2 : sz a < n
                · rw [if_pos h2, if_pos (by omega)]; omega
                · rw [if_neg h2, if_neg (by omega)]; omega
          rw [this, if_pos (by omega)]
        · rw [if_neg (fun z => hs z.2)]
          exact sum_zero fun i hi => by
            have := List.mem_range.mp hi
            have hne : sz a ≠ i := by omega
            simp [hne]
      · rw [if_neg (fun z => ha z.1)]
        exact sum_zero fun i hi => by simp [ha]
    rw [← e, sum_add]
    apply sum_congr
    intro i _
    dsimp only
    rw [List.countP_cons, Nat.add_mul, Nat.add_comm]
/-- the first size that there is -/
def Lead (f : Nat → Nat) (k : Nat) : Prop := 0 < f k ∧ ∀ i, i < k → f i = 0
theorem conv_lead {f g : Nat → Nat} {a b : Nat} (h1 : Lead f a) (h2 : Lead g b) : Lead (conv f g) (a + b) := by
  constructor
  · unfold conv
    refine sum_pos (x := a) (List.mem_range.mpr (by omega)) ?_
    rw [show a + b - a = b by omega]
    exact Nat.mul_pos h1.1 h2.1
  · intro i hi
    unfold conv
    refine sum_zero fun x hx => ?_
    have hx := List.mem_range.mp hx
    by_cases hxa : x < a
    · rw [h1.2 x hxa, Nat.zero_mul]
    · rw [h2.2 (i - x) (by omega), Nat.mul_zero]
theorem conv_none {f g : Nat → Nat} (h : (∀ i, f i = 0) ∨ ∀ i, g i = 0) (j : Nat) : conv f g j = 0 := by
  unfold conv
  refine sum_zero fun x _ => ?_
  rcases h with h | h
  · rw [h, Nat.zero_mul]
  · rw [h, Nat.mul_zero]
/-! ### Pascal's numbers -/
def ch : Nat → Nat → Nat
  | _, 0 => 1
  | 0, _ + 1 => 0
  | n + 1, k + 1 => ch n k + ch n (k + 1)
theorem ch_zero (n : Nat) : ch n 0 = 1 := by cases n <;> rfl
theorem ch_over : ∀ (n k : Nat), n < k → ch n k = 0
  | _, 0, h => by omega
  | 0, k + 1, _ => rfl
  | n + 1, k + 1, h => by
    show ch n k + ch n (k + 1) = 0
    rw [ch_over n k (by omega), ch_over n (k + 1) (by omega)]
theorem ch_one : ∀ n, ch n 1 = n
  | 0 => rfl
  | n + 1 => by show ch n 0 + ch n 1 = n + 1; rw [ch_zero, ch_one n]; omega
/-- what is wanted of a lot: some are missed, some are made -/
def okMN {α : Type} [DecidableEq α] (M N : List α) (ps L : List α) : Bool := ps.all fun x => (!decide (x ∈ M) || decide (x ∈ L)) && (!decide (x ∈ N) || !decide (x ∈ L))
theorem okMN_iff {α : Type} [DecidableEq α] {M N ps L : List α} : okMN M N ps L = true ↔ ∀ x ∈ ps, (x ∈ M → x ∈ L) ∧ (x ∈ N → x ∉ L) := by
  unfold okMN
  rw [List.all_eq_true]
  constructor
  · intro h x hx
    have := h x hx
    simp only [Bool.and_eq_true, Bool.or_eq_true, Bool.not_eq_true', decide_eq_true_eq, decide_eq_false_iff_not] at this
    exact ⟨fun m => this.1.resolve_left (fun z => z m), fun n => this.2.resolve_left (fun z => z n)⟩
  · intro h x hx
    have := h x hx
    simp only [Bool.and_eq_true, Bool.or_eq_true, Bool.not_eq_true', decide_eq_true_eq, decide_eq_false_iff_not]
    exact ⟨(Decidable.em (x ∈ M)).symm.imp_right this.1, (Decidable.em (x ∈ N)).symm.imp_right this.2⟩
def goneN {α : Type} [DecidableEq α] (M : List α) (ps : List α) : Nat := ps.countP fun x => decide (x ∈ M)
def freeN {α : Type} [DecidableEq α] (M N : List α) (ps : List α) : Nat := ps.countP fun x => !decide (x ∈ M) && !decide (x ∈ N)
theorem cnt_size {α : Type} [DecidableEq α] {M N : List α} (hMN : ∀ x ∈ M, x ∉ N) : ∀ {ps : List α} (_ : ps.Nodup) (j : Nat),
    (lots ps).countP (fun A => okMN M N ps A && decide (A.length = j)) = if goneN M ps ≤ j then ch (freeN M N ps) (j - goneN M ps) else 0
  | [], _, j => by
    rw [cnt_nil]
    unfold okMN goneN freeN
    simp only [List.all_nil, List.length_nil, Bool.true_and, List.countP_nil, Nat.zero_le, if_true, Nat.sub_zero, decide_eq_true_eq]
    cases j with
    | zero => rfl
    | succ j => simp [ch]
  | x :: xs, nd, j => by
    have nd' := (List.nodup_cons.mp nd).2
    have hx := (List.nodup_cons.mp nd).1
    rw [cnt_cons]
    have sub : ∀ L ∈ lots xs, x ∉ L := fun L hL z => hx ((mem_lots.mp hL).subset z)
    have e1 : (lots xs).countP (fun L => okMN M N (x :: xs) (x :: L) && decide ((x :: L).length = j)) = if x ∈ N then 0 else if 0 < j then (lots xs).countP (fun A => okMN M N xs A && decide (A.length = j - 1)) else 0 := by
      have cg : ∀ L ∈ lots xs, (okMN M N (x :: xs) (x :: L) && decide ((x :: L).length = j)) = (if x ∈ N then false else if 0 < j then (okMN M N xs L && decide (L.length = j - 1)) else false) := by
        intro L hL
        have e : okMN M N (x :: xs) (x :: L) = (!decide (x ∈ N) && okMN M N xs L) := by
          unfold okMN
          rw [List.all_cons]
          simp only [List.mem_cons, true_or, decide_true, Bool.or_true, Bool.true_and, Bool.not_true, Bool.or_false]
          congr 1
          rw [Bool.eq_iff_iff, List.all_eq_true, List.all_eq_true]
          constructor
          · intro h y hy
            have hne : y ≠ x := fun z => hx (z ▸ hy)
            have := h y hy
            simpa [hne] using this
          · intro h y hy
            have hne : y ≠ x := fun z => hx (z ▸ hy)
            have := h y hy
            simpa [hne] using this
        rw [e, List.length_cons]
        by_cases hN : x ∈ N
        · simp [hN]
        · rw [if_neg hN]
          by_cases hj : 0 < j
          · rw [if_pos hj]
            have : decide (L.length + 1 = j) = decide (L.length = j - 1) := by
              apply decide_eq_decide.mpr; omega
            rw [this]; simp [hN]
          · rw [if_neg hj]
            have : decide (L.length + 1 = j) = false := by simp; omega
            rw [this, Bool.and_false]
      rw [List.countP_congr fun L hL => by rw [cg L hL]]
      by_cases hN : x ∈ N
      · simp [hN]
      · by_cases hj : 0 < j
        · simp [hN, hj]
        · simp [hN, hj]
    have e2 : (lots xs).countP (fun L => okMN M N (x :: xs) L && decide (L.length = j)) = if x ∈ M then 0 else (lots xs).countP (fun A => okMN M N xs A && decide (A.length = j)) := by
      have cg : ∀ L ∈ lots xs, (okMN M N (x :: xs) L && decide (L.length = j)) = (if x ∈ M then false else (okMN M N xs L && decide (L.length = j))) := by
        intro L hL
        have hxL := sub L hL
        unfold okMN
        rw [List.all_cons]
        by_cases hM : x ∈ M
        · simp [hM, hxL]
        · simp [hM, hxL]
      rw [List.countP_congr fun L hL => by rw [cg L hL]]
      by_cases hM : x ∈ M
      · simp [hM]
      · simp [hM]
    rw [e1, e2, cnt_size hMN nd', cnt_size hMN nd']
    unfold goneN freeN
    rw [List.countP_cons, List.countP_cons]
    by_cases hM : x ∈ M
    · have hN := hMN x hM
      simp only [hM, hN, if_true, if_false, decide_true, Bool.not_true, Bool.false_and, Bool.false_eq_true, Nat.add_zero]
      by_cases hj : 0 < j
      · rw [if_pos hj]
        by_cases h2 : xs.countP (fun x => decide (x ∈ M)) ≤ j - 1
        · rw [if_pos h2, if_pos (by omega)]
          congr 1; omega
        · rw [if_neg h2, if_neg (by omega)]
      · rw [if_neg hj, if_neg (by omega)]
    · by_cases hN : x ∈ N
      · simp [hM, hN]
      · simp only [hM, hN, if_false, decide_false, Bool.not_false, Bool.true_and, if_true, Bool.false_eq_true, Nat.add_zero]
        generalize hg : xs.countP (fun x => decide (x ∈ M)) = g
        generalize hf : xs.countP (fun x => !decide (x ∈ M) && !decide (x ∈ N)) = f
        by_cases hj : 0 < j
        · rw [if_pos hj]
          by_cases h2 : g ≤ j - 1
          · rw [if_pos h2, if_pos (by omega), if_pos (by omega)]
            have : j - g = (j - 1 - g) + 1 := by omega
            rw [this]; rfl
          · rw [if_neg h2, Nat.zero_add]
            by_cases h3 : g ≤ j
            · rw [if_pos h3, if_pos h3]
              have : j - g = 0 := by omega
              rw [this, ch_zero, ch_zero]
            · rw [if_neg h3, if_neg h3]
        · rw [if_neg hj, Nat.zero_add]
          by_cases h3 : g ≤ j
          · rw [if_pos h3, if_pos h3]
            have : j - g = 0 := by omega
            rw [this, ch_zero, ch_zero]
          · rw [if_neg h3, if_neg h3]
end Dl
namespace Dl
/-! ### parts: tests and what is asked of the number of the missed ones -/
section
variable {α : Type} [DecidableEq α]
abbrev Pt (α : Type) := (α → Bool) × (Nat → Bool)
def inAny (pre : List (Pt α)) (x : α) : Bool := pre.any fun t => t.1 x
def cntP (M N xs : List α) (pre : List (Pt α)) (j : Nat) : Nat :=
  (lots (xs.filter (inAny pre))).countP fun L => (okMN M N (xs.filter (inAny pre)) L && pre.all fun t => t.2 (L.countP t.1)) && decide (L.length = j)
def partP (M N xs : List α) (t : Pt α) (i : Nat) : Nat := (lots (xs.filter t.1)).countP fun A => (okMN M N (xs.filter t.1) A && t.2 A.length) && decide (A.length = i)
theorem inAny_app (pre : List (Pt α)) (t : Pt α) (x : α) : inAny (pre ++ [t]) x = (inAny pre x || t.1 x) := by
  unfold inAny; rw [List.any_append, List.any_cons, List.any_nil, Bool.or_false]
theorem cntP_nil (M N xs : List α) (j : Nat) : cntP M N xs [] j = if j = 0 then 1 else 0 := by
  unfold cntP
  have e : xs.filter (inAny ([] : List (Pt α))) = [] := by
    apply List.filter_eq_nil_iff.mpr
    intro x _; simp [inAny]
  rw [e, cnt_nil]
  simp only [okMN, List.all_nil, Bool.true_and, List.length_nil, decide_eq_true_eq]
  by_cases h : j = 0
  · simp [h]
  · rw [if_neg (fun z => h z.symm), if_neg h]
theorem cntP_snoc {M N xs : List α} {pre : List (Pt α)} {t : Pt α} (hd : ∀ x ∈ xs, inAny pre x = true → t.1 x = false) (j : Nat) : cntP M N xs (pre ++ [t]) j = conv (cntP M N xs pre) (partP M N xs t) j := by
  let U := xs.filter (inAny (pre ++ [t]))
  have hU : ∀ x, x ∈ U ↔ x ∈ xs ∧ (inAny pre x = true ∨ t.1 x = true) := fun x => by
    show x ∈ List.filter _ _ ↔ _
    rw [List.mem_filter, inAny_app, Bool.or_eq_true]
  have f1 : U.filter (fun x => !t.1 x) = xs.filter (inAny pre) := by
    show (xs.filter _).filter _ = _
    rw [List.filter_filter]
    apply List.filter_congr
    intro x hx
    rw [inAny_app]
    cases h1 : inAny pre x with
    | true => rw [hd x hx h1]; rfl
    | false => cases t.1 x <;> rfl
  have f2 : U.filter (fun x => !!t.1 x) = xs.filter t.1 := by
    show (xs.filter _).filter _ = _
    rw [List.filter_filter]
    apply List.filter_congr
    intro x hx
    rw [inAny_app]
    cases t.1 x with
    | true => simp
    | false => simp
  let P : List α → List α → Bool := fun B A => (okMN M N (xs.filter (inAny pre)) B && pre.all fun s => s.2 (B.countP s.1)) && ((okMN M N (xs.filter t.1) A && t.2 A.length) && decide (B.length + A.length = j))
  have e0 : cntP M N xs (pre ++ [t]) j = (lots U).countP fun L => P (L.filter fun x => !t.1 x) (L.filter fun x => !!t.1 x) := by
    show (lots U).countP _ = _
    apply List.countP_congr
    intro L hL
    have hLU : ∀ x ∈ L, x ∈ U := fun x hx => (mem_lots.mp hL).subset hx
    have e1 : okMN M N U L = (okMN M N (xs.filter (inAny pre)) (L.filter fun x => !t.1 x) && okMN M N (xs.filter t.1) (L.filter fun x => !!t.1 x)) := by
      rw [Bool.eq_iff_iff, Bool.and_eq_true, okMN_iff, okMN_iff, okMN_iff]
      constructor
      · intro h
        refine ⟨fun x hx => ?_, fun x hx => ?_⟩
        · obtain ⟨h1, h2⟩ := List.mem_filter.mp hx
          have h3 := hd x h1 h2
          have := h x ((hU x).mpr ⟨h1, .inl h2⟩)
          rw [List.mem_filter, h3]
          simpa using this
        · obtain ⟨h1, h2⟩ := List.mem_filter.mp hx
          have := h x ((hU x).mpr ⟨h1, .inr h2⟩)
          rw [List.mem_filter, h2]
          simpa using this
      · rintro ⟨ha, hb⟩ x hx
        obtain ⟨h1, h2 | h2⟩ := (hU x).mp hx
        · have := ha x (List.mem_filter.mpr ⟨h1, h2⟩)
          rw [List.mem_filter, hd x h1 h2] at this
          simpa using this
        · have := hb x (List.mem_filter.mpr ⟨h1, h2⟩)
          rw [List.mem_filter, h2] at this
          simpa using this
    have e2 : ((pre ++ [t]).all fun s => s.2 (L.countP s.1)) = ((pre.all fun s => s.2 ((L.filter fun x => !t.1 x).countP s.1)) && t.2 (L.filter fun x => !!t.1 x).length) := by
      rw [List.all_append, List.all_cons, List.all_nil, Bool.and_true]
      congr 1
      · rw [Bool.eq_iff_iff, List.all_eq_true, List.all_eq_true]
        have : ∀ s ∈ pre, (L.filter fun x => !t.1 x).countP s.1 = L.countP s.1 := by
          intro s hs
          rw [List.countP_filter]
          apply List.countP_congr
          intro x hx
          constructor
          · intro h; exact (Bool.and_eq_true _ _ ▸ h).1
          · intro h
            have : inAny pre x = true := List.any_eq_true.mpr ⟨s, hs, h⟩
            rw [h, hd x ((hU x).mp (hLU x hx)).1 this]; rfl
        exact ⟨fun h s hs => by rw [this s hs]; exact h s hs, fun h s hs => by rw [← this s hs]; exact h s hs⟩
      · rw [List.countP_eq_length_filter]
        congr 2
        simp
    have e3 : L.length = (L.filter fun x => !t.1 x).length + (L.filter fun x => !!t.1 x).length := by
      have h1 := List.length_eq_countP_add_countP (fun x => !t.1 x) (l := L)
      rw [List.countP_eq_length_filter, List.countP_eq_length_filter] at h1
      rw [h1]
      congr 3
      funext x; cases t.1 x <;> rfl
    show ((okMN M N U L && _) && decide (L.length = j)) = true ↔ P _ _ = true
    rw [e1, e2, e3]
    show _ ↔ ((_ && _) && ((_ && _) && _)) = true
    simp only [Bool.and_eq_true]
    constructor
    · rintro ⟨⟨⟨a, b⟩, c, d⟩, e⟩; exact ⟨⟨a, c⟩, ⟨b, d⟩, e⟩
    · rintro ⟨⟨a, c⟩, ⟨b, d⟩, e⟩; exact ⟨⟨⟨a, b⟩, c, d⟩, e⟩
  rw [e0, cnt_split, f1, f2]
  rw [show conv (cntP M N xs pre) (partP M N xs t) j = _ from (sum_by_size (fun B : List α => B.length) (fun B => okMN M N (xs.filter (inAny pre)) B && pre.all fun s => s.2 (B.countP s.1)) (partP M N xs t) j (lots (xs.filter (inAny pre)))).symm]
  apply sum_congr
  intro B _
  by_cases hB : (okMN M N (xs.filter (inAny pre)) B && pre.all fun s => s.2 (B.countP s.1)) = true
  · by_cases hj : B.length ≤ j
    · rw [if_pos ⟨hB, hj⟩]
      unfold partP
      apply List.countP_congr
      intro A _
      show (_ && _) = true ↔ _
      rw [hB, Bool.true_and]
      have : decide (B.length + A.length = j) = decide (A.length = j - B.length) := by
        apply decide_eq_decide.mpr; omega
      rw [this]
    · rw [if_neg (fun z => hj z.2)]
      apply List.countP_eq_zero.mpr
      intro A _
      show ¬ (_ && _) = true
      have : decide (B.length + A.length = j) = false := by simp; omega
      rw [this]; simp
  · rw [if_neg (fun z => hB z.1)]
    apply List.countP_eq_zero.mpr
    intro A _
    show ¬ (_ && _) = true
    rw [Bool.eq_false_iff.mpr hB]; simp
/-- a part by its numbers -/
def parO : Option Bool → Nat → Bool
  | none, _ => true
  | some o, n => decide (n % 2 = 1) == o
def pp (gone free : Nat) (odd : Option Bool) (i : Nat) : Nat := if parO odd i = true then (if gone ≤ i then ch free (i - gone) else 0) else 0
theorem partP_eq {M N xs : List α} (nd : xs.Nodup) (hMN : ∀ x ∈ M, x ∉ N) (q : α → Bool) (odd : Option Bool) (i : Nat) :
    partP M N xs (q, parO odd) i = pp (goneN M (xs.filter q)) (freeN M N (xs.filter q)) odd i := by
  unfold partP pp
  rw [← cnt_size hMN (nd.filter q)]
  by_cases h : parO odd i = true
  · rw [if_pos h]
    apply List.countP_congr
    intro A _
    constructor
    · intro z
      simp only [Bool.and_eq_true, decide_eq_true_eq] at z ⊢
      exact ⟨z.1.1, z.2⟩
    · intro z
      simp only [Bool.and_eq_true, decide_eq_true_eq] at z ⊢
      exact ⟨⟨z.1, by rw [z.2]; exact h⟩, z.2⟩
  · rw [if_neg h]
    apply List.countP_eq_zero.mpr
    intro A _ z
    simp only [Bool.and_eq_true, decide_eq_true_eq] at z
    exact h (z.2 ▸ z.1.2)
end
/-- the first number of misses of a part -/
def leadP (gone free : Nat) (odd : Option Bool) : Option Nat :=
  if odd = none ∨ odd = some (decide (gone % 2 = 1)) then some gone else if free = 0 then none else some (gone + 1)
theorem leadP_ok {gone free : Nat} {odd : Option Bool} : (∀ k, leadP gone free odd = some k → Lead (pp gone free odd) k) ∧ (leadP gone free odd = none → ∀ i, pp gone free odd i = 0) := by
  unfold leadP
  by_cases h : odd = none ∨ odd = some (decide (gone % 2 = 1))
  · rw [if_pos h]
    refine ⟨fun k hk => ?_, fun z => nomatch z⟩
    cases hk
    have hp : parO odd gone = true := by
      rcases h with h | h
      · subst h; rfl
      · subst h; simp [parO]
    refine ⟨?_, fun i hi => ?_⟩
    · unfold pp
      rw [if_pos hp, if_pos (Nat.le_refl _), Nat.sub_self, ch_zero]; decide
    · unfold pp
      rw [if_neg (show ¬ gone ≤ i by omega)]
      split <;> rfl
  · rw [if_neg h]
    have hno : odd = some (!decide (gone % 2 = 1)) := by
      cases odd with
      | none => exact absurd (.inl rfl) h
      | some o =>
        have : o ≠ decide (gone % 2 = 1) := fun z => h (.inr (by rw [z]))
        cases o <;> cases hd : decide (gone % 2 = 1) <;> simp_all
    have p0 : parO odd gone = false := by subst hno; cases hd : decide (gone % 2 = 1) <;> simp_all [parO]
    by_cases hf : free = 0
    · rw [if_pos hf]
      refine ⟨fun k hk => (nomatch hk), fun _ i => ?_⟩
      unfold pp
      by_cases hi : i = gone
      · subst hi; rw [p0]; rfl
      · subst hf
        by_cases h2 : gone ≤ i
        · rw [if_pos h2, ch_over 0 (i - gone) (by omega)]; split <;> rfl
        · rw [if_neg h2]; split <;> rfl
    · rw [if_neg hf]
      refine ⟨fun k hk => ?_, fun z => nomatch z⟩
      cases hk
      have p1 : parO odd (gone + 1) = true := by
        subst hno
        show (decide ((gone + 1) % 2 = 1) == !decide (gone % 2 = 1)) = true
        by_cases h2 : gone % 2 = 1
        · have : ¬ (gone + 1) % 2 = 1 := by omega
          simp [h2, this]
        · have : (gone + 1) % 2 = 1 := by omega
          simp [h2, this]
      refine ⟨?_, fun i hi => ?_⟩
      · unfold pp
        rw [if_pos p1, if_pos (by omega), show gone + 1 - gone = 1 by omega, ch_one]; omega
      · unfold pp
        by_cases hi2 : i = gone
        · subst hi2; rw [p0]; rfl
        · rw [if_neg (show ¬ gone ≤ i by omega)]; split <;> rfl
end Dl
namespace Dl
/-! ### stretches of one wheel: from what was seen -/
abbrev Str3 := Nat × Nat × Option Bool
def sttL (sz : Nat → Nat → Nat) (D : Nat) : List (Nat × List Nat) → Nat → Nat → List Str3
  | [], first, _ => [(first, D, none)]
  | (day, seen) :: g, first, up => (first, day, some (decide ((sz first day + up + seen.headD 0) % 2 = 1))) :: ((if 1 < seen.length then [(day, day, some true)] else []) ++ sttL sz D g day (seen.getLastD 0))
structure SeenOk (D : Nat) (g : List (Nat × List Nat)) : Prop where
  asc : g.Pairwise fun a b => a.1 < b.1
  le : ∀ x ∈ g, x.1 ≤ D
  ne : ∀ x ∈ g, x.2 ≠ []
  lt : ∀ x ∈ g, ∀ s ∈ x.2, s < 2
  two : ∀ x ∈ g, 1 < x.2.length → x.2 = [0, 1]
theorem SeenOk.tail {D : Nat} {x : Nat × List Nat} {g : List (Nat × List Nat)} (h : SeenOk D (x :: g)) : SeenOk D g :=
  ⟨(List.pairwise_cons.mp h.asc).2, fun y hy => h.le y (List.mem_cons_of_mem _ hy), fun y hy => h.ne y (List.mem_cons_of_mem _ hy), fun y hy => h.lt y (List.mem_cons_of_mem _ hy), fun y hy => h.two y (List.mem_cons_of_mem _ hy)⟩
structure Cnt2 (cd cl : Nat → Nat → Nat) : Prop where
  dd : ∀ a b e, a ≤ b → b ≤ e → cd a b + cd b e = cd a e
  ll : ∀ a b e, a ≤ b → b ≤ e → cl a b + cl b e = cl a e
  le : ∀ a b, cl a b ≤ cd a b
  z : ∀ a, cl a a = 0
theorem strs_ok {cd cl : Nat → Nat → Nat} (C : Cnt2 cd cl) {D : Nat} : ∀ (g : List (Nat × List Nat)) (first up : Nat), SeenOk D g → (∀ x ∈ g, first ≤ x.1) → up < 2 → (cd 0 first - cl 0 first) % 2 = up →
    ((∀ x ∈ g, ∀ s ∈ x.2, (cd 0 x.1 - cl 0 x.1) % 2 = s) ↔ ∀ t ∈ sttL cd D g first up, parO t.2.2 (cl t.1 t.2.1) = true)
  | [], first, up, _, _, _, _ => by
    unfold sttL
    constructor
    · intro _ t ht
      rw [List.mem_singleton.mp ht]; rfl
    · intro _ x hx; cases hx
  | (day, seen) :: g, first, up, h, hf, hu, hs => by
    have hday : first ≤ day := hf (day, seen) (by simp)
    have hne : seen ≠ [] := h.ne (day, seen) (by simp)
    have hlt : ∀ s ∈ seen, s < 2 := h.lt (day, seen) (by simp)
    have e1 := C.dd 0 first day (Nat.zero_le _) hday
    have e2 := C.ll 0 first day (Nat.zero_le _) hday
    have l1 := C.le first day
    have l2 := C.le 0 first
    have hhead : seen.headD 0 ∈ seen := by
      cases seen with
      | nil => exact absurd rfl hne
      | cons a l => simp
    have hh := hlt _ hhead
    have key : (cd 0 day - cl 0 day) % 2 = seen.headD 0 ↔ parO (some (decide ((cd first day + up + seen.headD 0) % 2 = 1))) (cl first day) = true := by
      show _ ↔ (decide (cl first day % 2 = 1) == decide ((cd first day + up + seen.headD 0) % 2 = 1)) = true
      rw [beq_iff_eq, decide_eq_decide]
      omega
    unfold sttL
    by_cases h1 : 1 < seen.length
    · have e := h.two (day, seen) (by simp) h1
      dsimp only at e
      subst e
      rw [if_pos h1]
      constructor
      · intro z
        have z0 := z (day, [0, 1]) (by simp) 0 (by simp)
        have z1 := z (day, [0, 1]) (by simp) 1 (by simp)
        dsimp only at z0 z1
        omega
      · intro z
        have := z (day, day, some true) (by simp)
        dsimp only at this
        rw [C.z] at this
        exact absurd this (by decide)
    · rw [if_neg h1]
      obtain ⟨s, rfl⟩ : ∃ s, seen = [s] := by
        cases seen with
        | nil => exact absurd rfl hne
        | cons a l => cases l with
          | nil => exact ⟨a, rfl⟩
          | cons b l => simp at h1
      have hg : ∀ x ∈ g, day ≤ x.1 := fun x hx => Nat.le_of_lt ((List.pairwise_cons.mp h.asc).1 x hx)
      rw [List.nil_append]
      show _ ↔ ∀ t ∈ (first, day, some (decide ((cd first day + up + s) % 2 = 1))) :: sttL cd D g day s, _
      have key' : (cd 0 day - cl 0 day) % 2 = s ↔ parO (some (decide ((cd first day + up + s) % 2 = 1))) (cl first day) = true := key
      constructor
      · intro z
        have z0 := z (day, [s]) (by simp) s (by simp)
        dsimp only at z0
        have ih := strs_ok C g day s h.tail hg hh z0
        intro t ht
        rcases List.mem_cons.mp ht with e | e
        · subst e; exact key'.mp z0
        · exact ih.mp (fun x hx => z x (List.mem_cons_of_mem _ hx)) t e
      · intro z
        have z0 := key'.mpr (z (first, day, some (decide ((cd first day + up + s) % 2 = 1))) (by simp))
        have ih := strs_ok C g day s h.tail hg hh z0
        intro x hx
        rcases List.mem_cons.mp hx with e | e
        · subst e
          intro u hu
          rw [List.mem_singleton.mp hu]; exact z0
        · exact ih.mpr (fun t ht => z t (List.mem_cons_of_mem _ ht)) x e
/-- each day of a wheel is in just one stretch -/
theorem strs_cover {cd : Nat → Nat → Nat} {D : Nat} : ∀ (g : List (Nat × List Nat)) (first up : Nat), SeenOk D g → (∀ x ∈ g, first ≤ x.1) → ∀ d, first ≤ d → d < D → ∃ t ∈ sttL cd D g first up, t.1 ≤ d ∧ d < t.2.1
  | [], first, up, _, _, d, h1, h2 => ⟨(first, D, none), by unfold sttL; simp, h1, h2⟩
  | (day, seen) :: g, first, up, h, hf, d, h1, h2 => by
    by_cases hd : d < day
    · exact ⟨(first, day, _), by unfold sttL; exact List.mem_cons_self .., h1, hd⟩
    · obtain ⟨t, ht, h3⟩ := strs_cover (cd := cd) g day (seen.getLastD 0) h.tail (fun x hx => Nat.le_of_lt ((List.pairwise_cons.mp h.asc).1 x hx)) d (by omega) h2
      exact ⟨t, by unfold sttL; exact List.mem_cons_of_mem _ (List.mem_append_right _ ht), h3⟩
theorem strs_from {cd : Nat → Nat → Nat} {D : Nat} : ∀ (g : List (Nat × List Nat)) (first up : Nat), SeenOk D g → (∀ x ∈ g, first ≤ x.1) → ∀ t ∈ sttL cd D g first up, first ≤ t.1
  | [], first, up, _, _, t, ht => by unfold sttL at ht; rw [List.mem_singleton.mp ht]; exact Nat.le_refl _
  | (day, seen) :: g, first, up, h, hf, t, ht => by
    have hday : first ≤ day := hf (day, seen) (by simp)
    unfold sttL at ht
    rcases List.mem_cons.mp ht with e | e
    · rw [e]; exact Nat.le_refl _
    · rcases List.mem_append.mp e with e | e
      · split at e
        · rw [List.mem_singleton.mp e]; exact hday
        · cases e
      · have := strs_from (cd := cd) g day (seen.getLastD 0) h.tail (fun x hx => Nat.le_of_lt ((List.pairwise_cons.mp h.asc).1 x hx)) t e
        omega
theorem strs_apart {cd : Nat → Nat → Nat} {D : Nat} : ∀ (g : List (Nat × List Nat)) (first up : Nat), SeenOk D g → (∀ x ∈ g, first ≤ x.1) → (sttL cd D g first up).Pairwise fun a b => ∀ d, ¬ ((a.1 ≤ d ∧ d < a.2.1) ∧ b.1 ≤ d ∧ d < b.2.1)
  | [], first, up, _, _ => by unfold sttL; exact List.pairwise_singleton _ _
  | (day, seen) :: g, first, up, h, hf => by
    have hg : ∀ x ∈ g, day ≤ x.1 := fun x hx => Nat.le_of_lt ((List.pairwise_cons.mp h.asc).1 x hx)
    have ih := strs_apart (cd := cd) g day (seen.getLastD 0) h.tail hg
    have fr := strs_from (cd := cd) g day (seen.getLastD 0) h.tail hg
    unfold sttL
    refine List.pairwise_cons.mpr ⟨fun t ht d hd => ?_, List.pairwise_append.mpr ⟨?_, ih, fun a ha b hb d hd => ?_⟩⟩
    · rcases List.mem_append.mp ht with e | e
      · split at e
        · rw [List.mem_singleton.mp e] at hd; dsimp only at hd; omega
        · cases e
      · have := fr t e; dsimp only at hd; omega
    · split
      · exact List.pairwise_singleton _ _
      · exact List.Pairwise.nil
    · split at ha
      · rw [List.mem_singleton.mp ha] at hd; dsimp only at hd; omega
      · cases ha
end Dl
namespace Dl
/-! ### what was seen, day by day -/
def putG (d s : Nat) : List (Nat × List Nat) → List (Nat × List Nat)
  | [] => [(d, [s])]
  | (e, l) :: g => if e = d then (e, l ++ [s]) :: g else (e, l) :: putG d s g
def flatG (g : List (Nat × List Nat)) : List (Nat × Nat) := g.flatMap fun x => x.2.map fun s => (x.1, s)
structure GInv (g : List (Nat × List Nat)) : Prop where
  asc : g.Pairwise fun a b => a.1 < b.1
  ne : ∀ x ∈ g, x.2 ≠ []
  up : ∀ x ∈ g, x.2.Pairwise (· < ·)
theorem putG_keys {d s : Nat} : ∀ {g : List (Nat × List Nat)} {x : Nat × List Nat}, x ∈ putG d s g → x.1 = d ∨ ∃ y ∈ g, y.1 = x.1
  | [], x, h => by rw [putG, List.mem_singleton] at h; rw [h]; exact .inl rfl
  | (e, l) :: g, x, h => by
    rw [putG] at h
    split at h
    · rcases List.mem_cons.mp h with z | z
      · rw [z]; exact .inr ⟨(e, l), by simp, rfl⟩
      · exact .inr ⟨x, List.mem_cons_of_mem _ z, rfl⟩
    · rcases List.mem_cons.mp h with z | z
      · rw [z]; exact .inr ⟨(e, l), by simp, rfl⟩
      · rcases putG_keys z with q | ⟨y, hy, q⟩
        · exact .inl q
        · exact .inr ⟨y, List.mem_cons_of_mem _ hy, q⟩
theorem putG_ok {d s : Nat} : ∀ {g : List (Nat × List Nat)}, GInv g → (∀ x ∈ g, x.1 < d ∨ (x.1 = d ∧ ∀ u ∈ x.2, u < s)) → GInv (putG d s g) ∧ flatG (putG d s g) = flatG g ++ [(d, s)]
  | [], _, _ => ⟨⟨List.pairwise_singleton _ _, fun x hx => by rw [putG, List.mem_singleton] at hx; rw [hx]; simp, fun x hx => by rw [putG, List.mem_singleton] at hx; rw [hx]; exact List.pairwise_singleton _ _⟩, rfl⟩
  | (e, l) :: g, h, hk => by
    have h1 := (List.pairwise_cons.mp h.asc).1
    have hg : GInv g := ⟨(List.pairwise_cons.mp h.asc).2, fun x hx => h.ne x (List.mem_cons_of_mem _ hx), fun x hx => h.up x (List.mem_cons_of_mem _ hx)⟩
    rw [putG]
    by_cases he : e = d
    · rw [if_pos he]
      have gn : g = [] := by
        cases g with
        | nil => rfl
        | cons y g =>
          have a1 := h1 y (by simp)
          have a2 := hk y (by simp)
          dsimp only at a1
          omega
      subst gn
      have hl : ∀ u ∈ l, u < s := by
        rcases hk (e, l) (by simp) with z | z
        · dsimp only at z; omega
        · exact z.2
      refine ⟨⟨List.pairwise_singleton _ _, fun x hx => ?_, fun x hx => ?_⟩, ?_⟩
      · rw [List.mem_singleton.mp hx]; simp
      · rw [List.mem_singleton.mp hx]
        exact List.pairwise_append.mpr ⟨h.up (e, l) (by simp), List.pairwise_singleton _ _, fun a ha b hb => by rw [List.mem_singleton.mp hb]; exact hl a ha⟩
      · unfold flatG; simp [he]
    · rw [if_neg he]
      have hed : e < d := by
        rcases hk (e, l) (by simp) with z | z
        · exact z
        · exact absurd z.1 he
      obtain ⟨i1, i2⟩ := putG_ok (d := d) (s := s) hg fun x hx => hk x (List.mem_cons_of_mem _ hx)
      refine ⟨⟨List.pairwise_cons.mpr ⟨fun x hx => ?_, i1.asc⟩, fun x hx => ?_, fun x hx => ?_⟩, ?_⟩
      · dsimp only
        rcases putG_keys hx with z | ⟨y, hy, z⟩
        · omega
        · have := h1 y hy; dsimp only at this; omega
      · rcases List.mem_cons.mp hx with z | z
        · rw [z]; exact h.ne (e, l) (by simp)
        · exact i1.ne x z
      · rcases List.mem_cons.mp hx with z | z
        · rw [z]; exact h.up (e, l) (by simp)
        · exact i1.up x z
      · show ((l.map fun s => (e, s)) ++ flatG (putG d s g)) = _
        rw [i2]; show _ = ((l.map fun s => (e, s)) ++ flatG g) ++ _
        rw [List.append_assoc]
def grpG (P : List (Nat × Nat)) : List (Nat × List Nat) := P.foldl (fun g q => putG q.1 q.2 g) []
def ltP (a b : Nat × Nat) : Prop := a.1 < b.1 ∨ (a.1 = b.1 ∧ a.2 < b.2)
theorem mem_flat {g : List (Nat × List Nat)} {d s : Nat} : (d, s) ∈ flatG g ↔ ∃ x ∈ g, x.1 = d ∧ s ∈ x.2 := by
  unfold flatG
  rw [List.mem_flatMap]
  constructor
  · rintro ⟨x, hx, h⟩
    obtain ⟨u, hu, e⟩ := List.mem_map.mp h
    cases e
    exact ⟨x, hx, rfl, hu⟩
  · rintro ⟨x, hx, rfl, h⟩
    exact ⟨x, hx, List.mem_map.mpr ⟨s, h, rfl⟩⟩
theorem grp_go : ∀ (P : List (Nat × Nat)) (g : List (Nat × List Nat)), GInv g → (flatG g ++ P).Pairwise ltP → GInv (P.foldl (fun g q => putG q.1 q.2 g) g) ∧ flatG (P.foldl (fun g q => putG q.1 q.2 g) g) = flatG g ++ P
  | [], g, h, _ => ⟨h, by simp⟩
  | (d, s) :: P, g, h, hp => by
    have hk : ∀ x ∈ g, x.1 < d ∨ (x.1 = d ∧ ∀ u ∈ x.2, u < s) := fun x hx => by
      have hlt : ∀ u ∈ x.2, ltP (x.1, u) (d, s) := fun u hu => (List.pairwise_append.mp hp).2.2 (x.1, u) (mem_flat.mpr ⟨x, hx, rfl, hu⟩) (d, s) (by simp)
      by_cases hxd : x.1 < d
      · exact .inl hxd
      · refine .inr ⟨?_, fun u hu => ?_⟩
        · cases hx2 : x.2 with
          | nil => exact absurd hx2 (h.ne x hx)
          | cons u l =>
            have := hlt u (by rw [hx2]; simp)
            unfold ltP at this; dsimp only at this; omega
        · have := hlt u hu
          unfold ltP at this; dsimp only at this; omega
    obtain ⟨i1, i2⟩ := putG_ok h hk
    have := grp_go P (putG d s g) i1 (by rw [i2, List.append_assoc]; exact hp)
    rw [i2, List.append_assoc] at this
    exact this
theorem grp_ok {P : List (Nat × Nat)} (h : P.Pairwise ltP) : GInv (grpG P) ∧ flatG (grpG P) = P := by
  have := grp_go P [] ⟨.nil, fun x hx => (nomatch hx), fun x hx => (nomatch hx)⟩ (by simpa [flatG] using h)
  rw [show flatG ([] : List (Nat × List Nat)) ++ P = P from rfl] at this
  exact this
theorem grp_seen {D : Nat} {P : List (Nat × Nat)} (h : P.Pairwise ltP) (h1 : ∀ q ∈ P, q.1 ≤ D) (h2 : ∀ q ∈ P, q.2 < 2) : SeenOk D (grpG P) := by
  obtain ⟨i1, i2⟩ := grp_ok h
  have mem : ∀ x ∈ grpG P, ∀ s ∈ x.2, (x.1, s) ∈ P := fun x hx s hs => by rw [← i2]; exact mem_flat.mpr ⟨x, hx, rfl, hs⟩
  refine ⟨i1.asc, fun x hx => ?_, i1.ne, fun x hx s hs => h2 _ (mem x hx s hs), fun x hx hl => ?_⟩
  · cases hx2 : x.2 with
    | nil => exact absurd hx2 (i1.ne x hx)
    | cons u l => exact h1 _ (mem x hx u (by rw [hx2]; simp))
  · have hu := i1.up x hx
    have hlt : ∀ s ∈ x.2, s < 2 := fun s hs => h2 _ (mem x hx s hs)
    generalize x.2 = l at hl hu hlt
    match l, hl, hu, hlt with
    | a :: b :: r, _, hu, hlt =>
      have h3 := (List.pairwise_cons.mp hu).1
      have h4 := h3 b (by simp)
      have h5 := hlt a (by simp)
      have h6 := hlt b (by simp)
      have : r = [] := by
        cases r with
        | nil => rfl
        | cons c r =>
          have h7 := (List.pairwise_cons.mp (List.pairwise_cons.mp hu).2).1 c (by simp)
          have h8 := hlt c (by simp)
          omega
      subst this
      rw [show a = 0 by omega, show b = 1 by omega]
/-! ### a season's turnings, looks and parts -/
abbrev Lk3 := Nat × Nat × Nat
def cnW (w a b : Nat) (L : List (Nat × Nat)) : Nat := L.countP fun x => decide (x.2 = w) && (decide (a ≤ x.1) && decide (x.1 < b))
def sdU (U L : List (Nat × Nat)) (w d : Nat) : Nat := (U.countP fun x => decide (x.2 = w) && (decide (x.1 < d) && !decide (x ∈ L))) % 2
def unb (U : List (Nat × Nat)) (K : List Lk3) (L : List (Nat × Nat)) : Bool := K.all fun q => decide (sdU U L q.2.1 q.1 = q.2.2)
def lkW (K : List Lk3) (w : Nat) : List (Nat × Nat) := (K.filter fun q => decide (q.2.1 = w)).map fun q => (q.1, q.2.2)
def stW (U : List (Nat × Nat)) (D : Nat) (K : List Lk3) (w : Nat) : List Str3 := sttL (fun a b => cnW w a b U) D (grpG (lkW K w)) 0 0
def prts (U : List (Nat × Nat)) (p D : Nat) (K : List Lk3) : List (Nat × Str3) := (List.range p).flatMap fun w => (stW U D K w).map fun t => (w, t)
def qOf (x : Nat × Str3) (y : Nat × Nat) : Bool := decide (y.2 = x.1) && (decide (x.2.1 ≤ y.1) && decide (y.1 < x.2.2.1))
def ptOf (x : Nat × Str3) : Pt (Nat × Nat) := (qOf x, parO x.2.2.2)
/-- looks as a season holds them -/
structure LooksOk (p D : Nat) (K : List Lk3) : Prop where
  asc : ∀ w, (lkW K w).Pairwise ltP
  d : ∀ q ∈ K, q.1 ≤ D
  w : ∀ q ∈ K, q.2.1 < p
  s : ∀ q ∈ K, q.2.2 < 2
structure DueOk (p D : Nat) (U : List (Nat × Nat)) : Prop where
  nd : U.Nodup
  d : ∀ x ∈ U, x.1 < D
  w : ∀ x ∈ U, x.2 < p
section
variable {p D : Nat} {U L : List (Nat × Nat)} {K : List Lk3}
theorem mem_lkW {w d s : Nat} : (d, s) ∈ lkW K w ↔ (d, w, s) ∈ K := by
  unfold lkW
  rw [List.mem_map]
  constructor
  · rintro ⟨⟨a, b, c⟩, h, e⟩
    obtain ⟨h1, h2⟩ := List.mem_filter.mp h
    have h3 : b = w := of_decide_eq_true h2
    dsimp only at e
    cases e; subst h3
    exact h1
  · intro h
    exact ⟨(d, w, s), List.mem_filter.mpr ⟨h, by simp⟩, rfl⟩
theorem LooksOk.seen (h : LooksOk p D K) (w : Nat) : SeenOk D (grpG (lkW K w)) := grp_seen (h.asc w) (fun q hq => h.d _ (mem_lkW.mp (show (q.1, q.2) ∈ _ from hq))) fun q hq => h.s _ (mem_lkW.mp (show (q.1, q.2) ∈ _ from hq))
theorem cnW_zero (w a : Nat) (L : List (Nat × Nat)) : cnW w a a L = 0 := by
  unfold cnW
  apply List.countP_eq_zero.mpr
  intro x _ h
  simp only [Bool.and_eq_true, decide_eq_true_eq] at h
  omega
theorem cnW_add (w : Nat) {a b e : Nat} (h1 : a ≤ b) (h2 : b ≤ e) (L : List (Nat × Nat)) : cnW w a b L + cnW w b e L = cnW w a e L := by
  unfold cnW
  induction L with
  | nil => rfl
  | cons x L ih =>
    rw [List.countP_cons, List.countP_cons, List.countP_cons, ← ih]
    by_cases hw : x.2 = w
    · simp only [hw, decide_true, Bool.true_and, Bool.and_eq_true, decide_eq_true_eq]
      by_cases c1 : a ≤ x.1 <;> by_cases c2 : x.1 < b <;> by_cases c3 : x.1 < e <;> by_cases c4 : b ≤ x.1 <;> simp only [c1, c2, c3, c4, and_true, and_false, if_true, if_false, true_and, false_and] <;> omega
    · simp [hw]
theorem cnW_le (w a b : Nat) (h : L.Sublist U) : cnW w a b L ≤ cnW w a b U := h.countP_le
theorem cnt2 (w : Nat) (h : L.Sublist U) : Cnt2 (fun a b => cnW w a b U) (fun a b => cnW w a b L) :=
  ⟨fun a b e h1 h2 => cnW_add w h1 h2 U, fun a b e h1 h2 => cnW_add w h1 h2 L, fun a b => cnW_le w a b h, fun a => cnW_zero w a L⟩
theorem made_cnt (nd : U.Nodup) (h : L.Sublist U) (w d : Nat) : (U.countP fun x => decide (x.2 = w) && (decide (x.1 < d) && !decide (x ∈ L))) = cnW w 0 d U - cnW w 0 d L := by
  have : (U.countP fun x => decide (x.2 = w) && (decide (x.1 < d) && !decide (x ∈ L))) + cnW w 0 d L = cnW w 0 d U := by
    induction h with
    | slnil => rfl
    | @cons l₁ l₂ a h ih =>
      have na := (List.nodup_cons.mp nd).1
      have ih := ih (List.nodup_cons.mp nd).2
      have ha : a ∉ l₁ := fun z => na (h.subset z)
      unfold cnW at ih ⊢
      rw [List.countP_cons, List.countP_cons]
      simp only [ha, not_false_eq_true, decide_false, Bool.not_false, Bool.and_true, Nat.zero_le, decide_true, Bool.true_and] at ih ⊢
      omega
    | @cons_cons l₁ l₂ a h ih =>
      have na := (List.nodup_cons.mp nd).1
      have ih := ih (List.nodup_cons.mp nd).2
      unfold cnW at ih ⊢
      rw [List.countP_cons, List.countP_cons, List.countP_cons]
      have e : l₂.countP (fun x => decide (x.2 = w) && (decide (x.1 < d) && !decide (x ∈ a :: l₁))) = l₂.countP (fun x => decide (x.2 = w) && (decide (x.1 < d) && !decide (x ∈ l₁))) := by
        apply List.countP_congr
        intro x hx
        have : x ≠ a := fun z => na (z ▸ hx)
        simp [this]
      rw [e]
      simp only [List.mem_cons, true_or, decide_true, Bool.not_true, Bool.and_false, Bool.false_eq_true, if_false, Nat.add_zero, Nat.zero_le, Bool.true_and] at ih ⊢
      omega
  omega
theorem sdU_eq (nd : U.Nodup) (h : L.Sublist U) (w d : Nat) : sdU U L w d = (cnW w 0 d U - cnW w 0 d L) % 2 := by
  unfold sdU; rw [made_cnt nd h]
/-- a lot breaks no look just if it fills each part as it is asked -/
theorem unb_parts (hU : DueOk p D U) (hK : LooksOk p D K) (h : L.Sublist U) : unb U K L = (prts U p D K).all fun x => (ptOf x).2 (L.countP (ptOf x).1) := by
  rw [Bool.eq_iff_iff]
  unfold unb
  rw [List.all_eq_true, List.all_eq_true]
  have one : ∀ w, (∀ x ∈ grpG (lkW K w), ∀ s ∈ x.2, (cnW w 0 x.1 U - cnW w 0 x.1 L) % 2 = s) ↔ ∀ t ∈ stW U D K w, parO t.2.2 (cnW w t.1 t.2.1 L) = true := fun w =>
    strs_ok (cnt2 w h) _ 0 0 (hK.seen w) (fun _ _ => Nat.zero_le _) (by decide) (by
      show (cnW w 0 0 U - cnW w 0 0 L) % 2 = 0
      rw [cnW_zero, cnW_zero])
  have flat : ∀ w, (∀ x ∈ grpG (lkW K w), ∀ s ∈ x.2, (cnW w 0 x.1 U - cnW w 0 x.1 L) % 2 = s) ↔ ∀ d s, (d, w, s) ∈ K → sdU U L w d = s := fun w => by
    constructor
    · intro z d s hs
      have : (d, s) ∈ flatG (grpG (lkW K w)) := by rw [(grp_ok (hK.asc w)).2]; exact mem_lkW.mpr hs
      obtain ⟨x, hx, e, hs'⟩ := mem_flat.mp this
      have := z x hx s hs'
      rw [e] at this
      rw [sdU_eq hU.nd h]; exact this
    · intro z x hx s hs
      have : (x.1, s) ∈ flatG (grpG (lkW K w)) := mem_flat.mpr ⟨x, hx, rfl, hs⟩
      rw [(grp_ok (hK.asc w)).2] at this
      have := z x.1 s (mem_lkW.mp this)
      rw [sdU_eq hU.nd h] at this; exact this
  constructor
  · intro z x hx
    unfold prts at hx
    obtain ⟨w, hw, hx⟩ := List.mem_flatMap.mp hx
    obtain ⟨t, ht, e⟩ := List.mem_map.mp hx
    subst e
    exact (one w).mp ((flat w).mpr fun d s hs => of_decide_eq_true (z (d, w, s) hs)) t ht
  · rintro z ⟨d, w, s⟩ hq
    have := (flat w).mp ((one w).mpr fun t ht => z (w, t) (List.mem_flatMap.mpr ⟨w, List.mem_range.mpr (hK.w _ hq), List.mem_map.mpr ⟨t, ht, rfl⟩⟩)) d s hq
    exact decide_eq_true this
theorem prts_cover (hU : DueOk p D U) (hK : LooksOk p D K) {x : Nat × Nat} (hx : x ∈ U) : inAny ((prts U p D K).map ptOf) x = true := by
  obtain ⟨t, ht, h1, h2⟩ := strs_cover (cd := fun a b => cnW x.2 a b U) _ 0 0 (hK.seen x.2) (fun _ _ => Nat.zero_le _) x.1 (Nat.zero_le _) (hU.d x hx)
  refine List.any_eq_true.mpr ⟨ptOf (x.2, t), List.mem_map.mpr ⟨(x.2, t), List.mem_flatMap.mpr ⟨x.2, List.mem_range.mpr (hU.w x hx), List.mem_map.mpr ⟨t, ht, rfl⟩⟩, rfl⟩, ?_⟩
  show (decide (x.2 = x.2) && (decide (t.1 ≤ x.1) && decide (x.1 < t.2.1))) = true
  simp [h1, h2]
theorem prts_apart (hK : LooksOk p D K) : (prts U p D K).Pairwise fun a b => ∀ x, ¬ (qOf a x = true ∧ qOf b x = true) := by
  unfold prts
  have go : ∀ ws : List Nat, ws.Nodup → (ws.flatMap fun w => (stW U D K w).map fun t => (w, t)).Pairwise fun a b => ∀ x, ¬ (qOf a x = true ∧ qOf b x = true) := by
    intro ws
    induction ws with
    | nil => intro _; exact .nil
    | cons w ws ih =>
      intro nd
      rw [List.flatMap_cons]
      refine List.pairwise_append.mpr ⟨?_, ih (List.nodup_cons.mp nd).2, fun a ha b hb x hx => ?_⟩
      · rw [List.pairwise_map]
        refine (strs_apart (cd := fun a b => cnW w a b U) _ 0 0 (hK.seen w) (fun _ _ => Nat.zero_le _)).imp fun {a b} h x hx => ?_
        unfold qOf at hx
        simp only [Bool.and_eq_true, decide_eq_true_eq] at hx
        exact h x.1 ⟨hx.1.2, hx.2.2⟩
      · obtain ⟨t, _, e⟩ := List.mem_map.mp ha
        obtain ⟨v, hv, hb⟩ := List.mem_flatMap.mp hb
        obtain ⟨u, _, e2⟩ := List.mem_map.mp hb
        subst e e2
        unfold qOf at hx
        simp only [Bool.and_eq_true, decide_eq_true_eq] at hx
        have : w = v := by rw [← hx.1.1, ← hx.2.1]
        exact (List.nodup_cons.mp nd).1 (this ▸ hv)
  exact go _ List.nodup_range
/-! ### all parts together -/
def numsOf (U : List (Nat × Nat)) (p D : Nat) (K : List Lk3) (M N : List (Nat × Nat)) : List (Nat × Nat × Option Bool) := (prts U p D K).map fun x => (goneN M (U.filter (qOf x)), freeN M N (U.filter (qOf x)), x.2.2.2)
def polyL (l : List (Nat × Nat × Option Bool)) : Nat → Nat := l.foldl (fun f t => conv f (pp t.1 t.2.1 t.2.2)) (fun j => if j = 0 then 1 else 0)
def costL : List (Nat × Nat × Option Bool) → Option Nat
  | [] => some 0
  | t :: l => match leadP t.1 t.2.1 t.2.2 with
    | none => none
    | some k => (costL l).map (k + ·)
def cntMN (U : List (Nat × Nat)) (K : List Lk3) (M N : List (Nat × Nat)) (j : Nat) : Nat := (lots U).countP fun L => (okMN M N U L && unb U K L) && decide (L.length = j)
theorem cnt_all (hU : DueOk p D U) (hK : LooksOk p D K) {M N : List (Nat × Nat)} (hMN : ∀ x ∈ M, x ∉ N) : cntMN U K M N = polyL (numsOf U p D K M N) := by
  have go : ∀ (l : List (Nat × Str3)) (pre : List (Nat × Str3)), (pre ++ l).Pairwise (fun a b => ∀ x, ¬ (qOf a x = true ∧ qOf b x = true)) →
      cntP M N U ((pre ++ l).map ptOf) = (l.map fun x => (goneN M (U.filter (qOf x)), freeN M N (U.filter (qOf x)), x.2.2.2)).foldl (fun f t => conv f (pp t.1 t.2.1 t.2.2)) (cntP M N U (pre.map ptOf)) := by
    intro l
    induction l with
    | nil => intro pre _; rw [List.append_nil]; rfl
    | cons x l ih =>
      intro pre hp
      have e := ih (pre ++ [x]) (by rw [List.append_assoc]; exact hp)
      rw [List.append_assoc] at e
      rw [show pre ++ x :: l = pre ++ ([x] ++ l) from rfl, e]
      rw [List.map_cons, List.foldl_cons]
      congr 1
      funext j
      rw [List.map_append, List.map_singleton, cntP_snoc]
      · congr 1
        funext i
        exact partP_eq hU.nd hMN (qOf x) x.2.2.2 i
      · intro y hy h
        obtain ⟨t, ht, hty⟩ := List.any_eq_true.mp h
        obtain ⟨z, hz, rfl⟩ := List.mem_map.mp ht
        have := (List.pairwise_append.mp hp).2.2 z hz x (by simp) y
        cases hq : (ptOf x).1 y with
        | false => rfl
        | true => exact absurd ⟨hty, hq⟩ this
  have e := go (prts U p D K) [] (by simpa using prts_apart hK)
  rw [List.nil_append] at e
  unfold polyL numsOf
  have e0 : cntP M N U (([] : List (Nat × Str3)).map ptOf) = fun j => if j = 0 then 1 else 0 := funext fun j => cntP_nil M N U j
  rw [e0] at e
  rw [← e]
  funext j
  unfold cntMN cntP
  have ef : U.filter (inAny ((prts U p D K).map ptOf)) = U := List.filter_eq_self.mpr fun x hx => prts_cover hU hK hx
  rw [ef]
  apply List.countP_congr
  intro L hL
  rw [unb_parts hU hK (mem_lots.mp hL), List.all_map]
  rfl
theorem lead_go : ∀ (l : List (Nat × Nat × Option Bool)) (f : Nat → Nat) (c : Nat), Lead f c →
    (∀ k, costL l = some k → Lead (l.foldl (fun f t => conv f (pp t.1 t.2.1 t.2.2)) f) (c + k)) ∧ (costL l = none → ∀ j, l.foldl (fun f t => conv f (pp t.1 t.2.1 t.2.2)) f j = 0)
  | [], f, c, h => ⟨fun k hk => by cases hk; exact h, fun z => nomatch z⟩
  | t :: l, f, c, h => by
    rw [List.foldl_cons]
    unfold costL
    cases ht : leadP t.1 t.2.1 t.2.2 with
    | none =>
      dsimp only
      refine ⟨fun k hk => (nomatch hk), fun _ => ?_⟩
      have z : ∀ j, conv f (pp t.1 t.2.1 t.2.2) j = 0 := fun j => conv_none (.inr (leadP_ok.2 ht)) j
      have stay : ∀ (l : List (Nat × Nat × Option Bool)) (g : Nat → Nat), (∀ j, g j = 0) → ∀ j, l.foldl (fun f t => conv f (pp t.1 t.2.1 t.2.2)) g j = 0 := by
        intro l
        induction l with
        | nil => intro g hg; exact hg
        | cons t l ih => intro g hg; exact ih _ fun j => conv_none (.inl hg) j
      exact stay l _ z
    | some a =>
      dsimp only
      have := lead_go l _ (c + a) (conv_lead h (leadP_ok.1 a ht))
      refine ⟨fun k hk => ?_, fun hn => ?_⟩
      · cases hc : costL l with
        | none => rw [hc] at hk; cases hk
        | some b =>
          rw [hc] at hk
          cases hk
          have := this.1 b hc
          rw [Nat.add_assoc] at this
          exact this
      · cases hc : costL l with
        | none => exact this.2 hc
        | some b => rw [hc] at hn; cases hn
theorem cost_lead (l : List (Nat × Nat × Option Bool)) : (∀ k, costL l = some k → Lead (polyL l) k) ∧ (costL l = none → ∀ j, polyL l j = 0) := by
  have := lead_go l (fun j => if j = 0 then 1 else 0) 0 ⟨by simp, fun i hi => by omega⟩
  refine ⟨fun k hk => ?_, this.2⟩
  have := this.1 k hk
  rw [Nat.zero_add] at this
  exact this
end
end Dl
namespace Dl
open PySem PySem.Spec PyProof.Rows L2
variable {p : Nat} {rs : List Rw} {D b : Nat} {L : List Lk}
theorem key_nat (a c : Nat) : keyEq (nD a) (nD c) = decide (a = c) := by
  have := keyEq_k (.inl (a : Int)) (.inl (c : Int))
  show keyEq (kD (.inl (a : Int))) (kD (.inl (c : Int))) = _
  rw [this]
  apply decide_eq_decide.mpr
  constructor
  · intro h; exact Int.ofNat.inj (Sum.inl.inj h)
  · intro h; rw [h]
def gKs (g : List (Nat × List Nat)) : List Dt := g.map fun x => nD x.1
def gDs (g : List (Nat × List Nat)) : List Dt := g.map fun x => .lst (x.2.map nD)
def gDic (g : List (Nat × List Nat)) : Dt := .dic false (gKs g) (gDs g)
def lookG (d : Nat) : List (Nat × List Nat) → Option (List Nat)
  | [] => none
  | (e, l) :: g => if e = d then some l else lookG d g
theorem look_g (d : Nat) : ∀ g, dLook keyEq (nD d) (gKs g) (gDs g) = (lookG d g).map fun l => .lst (l.map nD)
  | [] => rfl
  | (e, l) :: g => by
    show (if keyEq (nD e) (nD d) = true then _ else _) = _
    rw [key_nat]
    unfold lookG
    by_cases h : e = d
    · simp [h]
    · simp only [h, decide_false, if_false, Bool.false_eq_true]; exact look_g d g
theorem any_g (d : Nat) : ∀ g, ((gKs g).any fun k => keyEq k (nD d)) = (lookG d g).isSome
  | [] => rfl
  | (e, l) :: g => by
    show (keyEq (nD e) (nD d) || (gKs g).any _) = _
    rw [key_nat, any_g d g]
    show _ = (if e = d then some l else lookG d g).isSome
    by_cases h : e = d <;> simp [h]
theorem rep_same (d : Nat) (y : Dt) : ∀ g, (∀ x ∈ g, x.1 ≠ d) → dRep keyEq (nD d) y (gKs g) (gDs g) = gDs g
  | [], _ => rfl
  | (e, l) :: g, h => by
    show (if keyEq (nD e) (nD d) = true then y else Dt.lst (l.map nD)) :: dRep keyEq (nD d) y (gKs g) (gDs g) = _
    have h1 : e ≠ d := h (e, l) (by simp)
    rw [key_nat, decide_eq_false h1, rep_same d y g fun x hx => h x (List.mem_cons_of_mem _ hx)]
    rfl
theorem put_g (d s : Nat) : ∀ {g : List (Nat × List Nat)}, (g.map (·.1)).Nodup → dPut keyEq (nD d) (.lst (((lookG d g).getD [] ++ [s]).map nD)) (gKs g) (gDs g) = (gKs (putG d s g), gDs (putG d s g)) := by
  have go : ∀ g : List (Nat × List Nat), (g.map (·.1)).Nodup → (∀ l, lookG d g = some l → (gKs (putG d s g) = gKs g ∧ gDs (putG d s g) = dRep keyEq (nD d) (.lst ((l ++ [s]).map nD)) (gKs g) (gDs g))) ∧ (lookG d g = none → gKs (putG d s g) = gKs g ++ [nD d] ∧ gDs (putG d s g) = gDs g ++ [.lst ([s].map nD)]) := by
    intro g
    induction g with
    | nil => intro _; exact ⟨fun l h => (nomatch h), fun _ => ⟨rfl, rfl⟩⟩
    | cons x g ih =>
      obtain ⟨e, l⟩ := x
      intro nd
      have nd' := (List.nodup_cons.mp nd).2
      have ne := (List.nodup_cons.mp nd).1
      by_cases h : e = d
      · subst h
        refine ⟨fun l' hl => ?_, fun hn => ?_⟩
        · unfold lookG at hl
          rw [if_pos rfl] at hl
          cases hl
          unfold putG
          rw [if_pos rfl]
          refine ⟨rfl, ?_⟩
          show Dt.lst ((l ++ [s]).map nD) :: gDs g = (if keyEq (nD e) (nD e) = true then _ else _) :: dRep _ _ _ (gKs g) (gDs g)
          rw [key_nat, rep_same]
          · simp
          · intro x hx z
            exact ne (List.mem_map.mpr ⟨x, hx, z⟩)
        · unfold lookG at hn
          rw [if_pos rfl] at hn
          cases hn
      · obtain ⟨i1, i2⟩ := ih nd'
        refine ⟨fun l' hl => ?_, fun hn => ?_⟩
        · unfold lookG at hl
          rw [if_neg h] at hl
          obtain ⟨j1, j2⟩ := i1 l' hl
          unfold putG
          rw [if_neg h]
          refine ⟨?_, ?_⟩
          · show nD e :: gKs (putG d s g) = _; rw [j1]; rfl
          · show Dt.lst (l.map nD) :: gDs (putG d s g) = (if keyEq (nD e) (nD d) = true then _ else _) :: dRep _ _ _ (gKs g) (gDs g)
            rw [j2, key_nat, decide_eq_false h]
            rfl
        · unfold lookG at hn
          rw [if_neg h] at hn
          obtain ⟨j1, j2⟩ := i2 hn
          unfold putG
          rw [if_neg h]
          refine ⟨?_, ?_⟩
          · show nD e :: gKs (putG d s g) = _; rw [j1]; rfl
          · show Dt.lst (l.map nD) :: gDs (putG d s g) = _; rw [j2]; rfl
  intro g nd
  obtain ⟨i1, i2⟩ := go g nd
  unfold dPut
  rw [any_g]
  cases hl : lookG d g with
  | none => obtain ⟨j1, j2⟩ := i2 hl; rw [j1, j2]; rfl
  | some l => obtain ⟨j1, j2⟩ := i1 l hl; rw [j1, j2]; rfl
/-- looks as a season holds them, with bounds -/
theorem lkW_app (A B : List Lk) (w : Nat) : lkW (A ++ B) w = lkW A w ++ lkW B w := by unfold lkW; rw [List.filter_append, List.map_append]
theorem grp_app (P : List (Nat × Nat)) (q : Nat × Nat) : grpG (P ++ [q]) = putG q.1 q.2 (grpG P) := by unfold grpG; rw [List.foldl_append]; rfl
theorem grp_len : ∀ (P : List (Nat × Nat)) , (grpG P).length ≤ P.length ∧ ∀ x ∈ grpG P, x.2.length ≤ P.length := by
  intro P
  have put : ∀ (d s n : Nat) (g : List (Nat × List Nat)), (∀ x ∈ g, x.2.length ≤ n) → (putG d s g).length ≤ g.length + 1 ∧ ∀ x ∈ putG d s g, x.2.length ≤ n + 1 := by
    intro d s n g
    induction g with
    | nil => intro _; exact ⟨by simp [putG], fun x hx => by simp [putG] at hx; rw [hx]; simp⟩
    | cons y g ih =>
      obtain ⟨e, l⟩ := y
      intro h
      obtain ⟨j1, j2⟩ := ih fun x hx => h x (List.mem_cons_of_mem _ hx)
      have hl := h (e, l) (by simp)
      dsimp only at hl
      unfold putG
      split
      · refine ⟨by simp, fun x hx => ?_⟩
        rcases List.mem_cons.mp hx with z | z
        · rw [z]; simp; exact hl
        · have := h x (List.mem_cons_of_mem _ z); omega
      · refine ⟨by simp; exact j1, fun x hx => ?_⟩
        rcases List.mem_cons.mp hx with z | z
        · rw [z]; show l.length ≤ _; omega
        · exact j2 x z
  have rev : ∀ P : List (Nat × Nat), (grpG P.reverse).length ≤ P.length ∧ ∀ x ∈ grpG P.reverse, x.2.length ≤ P.length := by
    intro P
    induction P with
    | nil => exact ⟨Nat.le_refl _, fun x hx => (nomatch hx)⟩
    | cons q P ih =>
      rw [List.reverse_cons, grp_app]
      have := put q.1 q.2 P.length _ ih.2
      refine ⟨?_, fun x hx => ?_⟩
      · have := this.1; rw [List.length_cons]; omega
      · have := this.2 x hx; rw [List.length_cons]; omega
  have := rev P.reverse
  rwa [List.reverse_reverse, List.length_reverse] at this
theorem seen_ok (hL : LooksOk p D L) (hn : L.length < 1000) (w : Nat) : m_seen_by_day [seasonD p rs D b L, nD w] = .ret (gDic (grpG (lkW L w))) .non := by
  let S := seasonD p rs D b L
  let E (g : List (Nat × List Nat)) (s3 s4 s5 : Option Dt) : En := [vl S, vl (nD w), ow (gDic g), lv s3, lv s4, lv s5]
  obtain ⟨ρ', g1, s3', s4', s5', rfl⟩ := forGo_inv (g := gT (gsC (gV 3) (gsC (gV 4) (gsC (gV 5) gsN))) 3) (bd := sIf (mB (m2 fEq (mVar 4) (mPeek 1))) (sDput 2 (mVar 3) (mLst (mStar (mDget2 2 (mVar 3) (mLst (mPure []))) (mCons (mVar 5) (mPure []))))) (fun ρ => .nx ρ)) lkD (fun pre ρ => ∃ s3 s4 s5, ρ = E (grpG (lkW pre w)) s3 s4 s5) L [] (E [] none none none) ⟨none, none, none, rfl⟩ (by
    rintro pre ⟨d, v, s⟩ post ρ e ⟨s3, s4, s5, rfl⟩
    rw [List.nil_append] at e
    let F : En := E (grpG (lkW pre w)) (some (nD d)) (some (nD v)) (some (nD s))
    refine ⟨F, by cases s3 <;> cases s4 <;> cases s5 <;> rfl, E (grpG (lkW (pre ++ [(d, v, s)]) w)) (some (nD d)) (some (nD v)) (some (nD s)), .inl ?_, _, _, _, rfl⟩
    have ec : mB (m2 fEq (mVar 4) (mPeek 1)) F = .ok (decide (v = w)) F := tb_ok (m2_ok rfl rfl ((feq_int _ _).trans (by congr 2; exact decide_eq_decide.mpr (by omega))))
    rw [lkW_app]
    by_cases hv : v = w
    · subst hv
      rw [decide_eq_true rfl] at ec
      have e1 : lkW [(d, v, s)] v = [(d, s)] := by unfold lkW; simp
      rw [e1, grp_app]
      have hasc : (lkW pre v).Pairwise ltP := by
        have := hL.asc v
        rw [e, lkW_app] at this
        exact (List.pairwise_append.mp this).1
      have nd : ((grpG (lkW pre v)).map (·.1)).Nodup := by
        have := (grp_ok hasc).1.asc
        exact List.pairwise_map.mpr (this.imp fun {a b} h => Nat.ne_of_lt h)
      obtain ⟨b1, b2⟩ := grp_len (lkW pre v)
      have b3 : (lkW pre v).length < 1000 := by
        have h1 : (lkW pre v).length ≤ pre.length := by unfold lkW; rw [List.length_map]; exact List.length_filter_le _ _
        have h2 := congrArg List.length e
        rw [List.length_append, List.length_cons] at h2
        omega
      refine if_t ec ?_
      generalize hg : grpG (lkW pre v) = g at nd b1 b2
      have hgb : ((lookG d g).getD []).length ≤ 1000 := by
        cases hl : lookG d g with
        | none => simp
        | some l =>
          have : ∃ x ∈ g, x.2 = l := by
            clear b1 b2 nd hg
            induction g with
            | nil => cases hl
            | cons x g ih =>
              unfold lookG at hl
              split at hl
              · cases hl; exact ⟨x, by simp, rfl⟩
              · obtain ⟨y, hy, e⟩ := ih hl; exact ⟨y, List.mem_cons_of_mem _ hy, e⟩
          obtain ⟨x, hx, e⟩ := this
          have := b2 x hx
          rw [e] at this
          simp; omega
      have hF : F = [vl S, vl (nD v), ow (gDic g), vl (nD d), vl (nD v), vl (nD s)] := by show E _ _ _ _ = _; rw [hg]; rfl
      rw [hF]
      let G : En := [vl S, vl (nD v), ow (gDic g), vl (nD d), vl (nD v), vl (nD s)]
      show sDput 2 _ _ G = _
      have e2 : mDget2 2 (mVar 3) (mLst (mPure [])) G = .ok (.lst (((lookG d g).getD []).map nD)) G := by
        show (if isDicSl (some (ow (gDic g))) = true then mBind (mVar 3) _ G else .bad) = _
        rw [if_pos (show isDicSl (some (ow (gDic g))) = true from rfl)]
        refine bind_ok (a := nD d) (ρ1 := G) rfl (bind_ok (a := .lst []) (ρ1 := G) rfl (bind_ok (a := gDic g) (ρ1 := G) rfl ?_))
        show mOpt (some ((dLook keyEq (nD d) (gKs g) (gDs g)).getD (.lst []))) G = _
        rw [look_g]
        cases lookG d g <;> rfl
      refine dput_ok (ρ1 := G) (ρ2 := G) (x := nD d) (y := .lst (((lookG d g).getD [] ++ [s]).map nD)) ?_ rfl ?_
      · have e3 : mLst (mStar (mDget2 2 (mVar 3) (mLst (mPure []))) (mCons (mVar 5) (mPure []))) G = .ok (.lst (((lookG d g).getD []).map nD ++ [nD s])) G :=
          lst_ok (star_ok (b := false) e2 (cons_ok (d := nD s) (ds := []) (ρ1 := G) rfl rfl)) (sl_le (by simp; omega))
        rw [e3, List.map_append]; rfl
      · show (if (gKs g).length < sizeLine then Ou.ok () [vl S, vl (nD v), ow (.dic false (dPut keyEq (nD d) _ (gKs g) (gDs g)).1 (dPut keyEq (nD d) _ (gKs g) (gDs g)).2), _, _, _] else .bad) = _
        rw [if_pos (by unfold gKs; rw [List.length_map]; exact sl_lt (by omega)), put_g d s nd]
        rfl
    · rw [decide_eq_false hv] at ec
      have e1 : lkW [(d, v, s)] w = [] := by unfold lkW; simp [hv]
      rw [e1, List.append_nil]
      exact if_f ec rfl)
  rw [List.nil_append] at g1
  refine runF_rtN (ρ := [vl S, vl (nD w), none, lv s3', lv s4', lv s5']) ?_ rfl
  unfold b_seen_by_day
  refine seq_nx (ρ' := E [] none none none) rfl ?_
  refine seq_nx (for_ok (ds := L.map lkD) (ρ1 := E [] none none none) rfl g1) ?_
  cases s3' <;> cases s4' <;> cases s5' <;> rfl
end Dl
namespace Dl
open PySem PySem.Spec PyProof.Rows L2
variable {p : Nat} {rs : List Rw} {D b : Nat} {L : List Lk}
theorem chain_nat {ma mb mc : Mi Dt} {ρ : En} {x y z : Nat} (ha : ma ρ = .ok (nD x) ρ) (hb : mb ρ = .ok (nD y) ρ) (hc : mc ρ = .ok (nD z) ρ) : mB (mChain fLe fLt ma mb mc) ρ = .ok (decide (x ≤ y) && decide (y < z)) ρ := by
  refine tb_ok ?_
  refine bind_ok ha (bind_ok hb ?_)
  rw [fLe_nat]
  by_cases h : x ≤ y
  · rw [decide_eq_true h]
    refine bind_ok (a := .bl true) (ρ1 := ρ) rfl ?_
    rw [Bool.true_and]
    refine bind_ok hc ?_
    rw [fLt_nat]; rfl
  · rw [decide_eq_false h]
    exact bind_ok (a := .bl false) (ρ1 := ρ) rfl rfl
def dayL (rs : List Rw) (D w : Nat) : List Nat := (List.range D).filter (isDue rs w)
theorem cnW_days {w : Nat} (hw : w < p) (x y : Nat) : cnW w x y (dueP p rs D) = ((dayL rs D w).filter fun d => decide (x ≤ d) && decide (d < y)).length := by
  unfold cnW dayL
  rw [← pick_w D w hw, ← List.countP_eq_length_filter, List.countP_map, List.countP_filter]
  apply List.countP_congr
  intro q _
  simp only [Function.comp_def, Bool.and_eq_true, decide_eq_true_eq]
  constructor
  · rintro ⟨a, c⟩; exact ⟨c, a⟩
  · rintro ⟨a, c⟩; exact ⟨c, a⟩
def oD : Option Bool → Dt
  | none => .non
  | some b => .bl b
def stD (t : Str3) : Dt := .tup [nD t.1, nD t.2.1, oD t.2.2]
def stStep (sz : Nat → Nat → Nat) (s : List Str3 × Nat × Nat) (x : Nat × List Nat) : List Str3 × Nat × Nat :=
  (s.1 ++ ((s.2.1, x.1, some (decide ((sz s.2.1 x.1 + s.2.2 + x.2.headD 0) % 2 = 1))) :: (if 1 < x.2.length then [(x.1, x.1, some true)] else [])), x.1, x.2.getLastD 0)
theorem strs_fold (sz : Nat → Nat → Nat) (D : Nat) : ∀ (g : List (Nat × List Nat)) (acc : List Str3) (first up : Nat), acc ++ sttL sz D g first up = (g.foldl (stStep sz) (acc, first, up)).1 ++ [((g.foldl (stStep sz) (acc, first, up)).2.1, D, none)]
  | [], acc, first, up => rfl
  | (day, seen) :: g, acc, first, up => by
    rw [List.foldl_cons]
    show _ = ((g.foldl (stStep sz) (stStep sz (acc, first, up) (day, seen))).1) ++ _
    have := strs_fold sz D g (stStep sz (acc, first, up) (day, seen)).1 day (seen.getLastD 0)
    show acc ++ sttL sz D ((day, seen) :: g) first up = _
    rw [show stStep sz (acc, first, up) (day, seen) = ((stStep sz (acc, first, up) (day, seen)).1, day, seen.getLastD 0) from rfl, ← this]
    show acc ++ ((first, day, some (decide ((sz first day + up + seen.headD 0) % 2 = 1))) :: ((if 1 < seen.length then [(day, day, some true)] else []) ++ sttL sz D g day (seen.getLastD 0))) = (acc ++ ((first, day, some (decide ((sz first day + up + seen.headD 0) % 2 = 1))) :: (if 1 < seen.length then [(day, day, some true)] else []))) ++ sttL sz D g day (seen.getLastD 0)
    rw [List.append_assoc, List.cons_append]
theorem items_g : ∀ g, itemsK (gKs g) (gDs g) = g.map fun x => .tup [nD x.1, .lst (x.2.map nD)]
  | [] => rfl
  | (e, l) :: g => by
    show .tup [nD e, .lst (l.map nD)] :: itemsK (gKs g) (gDs g) = _
    rw [items_g g]; rfl
theorem ix0_lst {l : List Nat} (h : l ≠ []) : fIx (.lst (l.map nD)) (.int 0) = some (nD (l.headD 0)) := by
  cases l with
  | nil => exact absurd rfl h
  | cons a l =>
    show atI ((a :: l).map nD) ((0 : Nat) : Int) = _
    rw [atI_nat]; rfl
theorem ixv {ρ : En} {i : Nat} {m : Mi Dt} {s : Sl} {d y z : Dt} (h1 : ρ[i]? = some (some s)) (h2 : m ρ = .ok y ρ) (h3 : mPeek i ρ = .ok d ρ) (h4 : fIx d y = some z) : hasSl i (mIxV i m) ρ = .ok z ρ := by
  unfold hasSl
  rw [h1]
  exact bind_ok h2 (bind_ok h3 (by rw [h4]; rfl))
theorem stSt_len {sz : Nat → Nat → Nat} : ∀ (g : List (Nat × List Nat)) (s : List Str3 × Nat × Nat), (g.foldl (stStep sz) s).1.length ≤ s.1.length + 2 * g.length
  | [], s => Nat.le_refl _
  | x :: g, s => by
    rw [List.foldl_cons]
    have := stSt_len (sz := sz) g (stStep sz s x)
    have h : (stStep sz s x).1.length ≤ s.1.length + 2 := by
      unfold stStep
      dsimp only
      rw [List.length_append, List.length_cons]
      split <;> simp
    rw [List.length_cons]; omega
theorem lkW_len (L : List Lk) (w : Nat) : (lkW L w).length ≤ L.length := by unfold lkW; rw [List.length_map]; exact List.length_filter_le _ _
theorem dayL_len (w : Nat) : (dayL rs D w).length ≤ D := by
  have := List.length_filter_le (isDue rs w) (List.range D)
  rw [List.length_range] at this
  exact this
theorem stretches_ok (hL : LooksOk p D L) (hn : L.length < 1000) (hp : p < 100) (hD : D < 1000) {w : Nat} (hw : w < p) : m_stretches_of [seasonD p rs D b L, nD w] = .ret (.tup ((stW (dueP p rs D) D L w).map stD)) .non := by
  let S := seasonD p rs D b L
  let sz := fun x y => cnW w x y (dueP p rs D)
  have hDp : D * p ≤ 100000 := Nat.mul_le_mul (by omega : D ≤ 1000) (by omega : p ≤ 100)
  have so := hL.seen w
  have gl := (grp_len (lkW L w)).1
  have ll := lkW_len L w
  have dl := dayL_len (rs := rs) (D := D) w
  generalize hg : grpG (lkW L w) = g at so gl
  let E (s : List Str3 × Nat × Nat) (s6 s7 s8 : Option Dt) : En := [vl S, vl (nD w), ow (.lst (s.1.map stD)), vl (nD s.2.1), vl (nD s.2.2), vl (.tup ((dayL rs D w).map nD)), lv s6, lv s7, lv s8, none]
  obtain ⟨ρ', g1, s6', s7', s8', rfl⟩ := forGo_inv (g := gT (gsC (gV 6) (gsC (gV 7) gsN)) 2) (bd := (sSeq (sSet 8 (m1 fLen (mLc (mSeqI (mVar 5)) (gV 9) (mB (mChain fLe fLt (mVar 3) (mVar 9) (mPeek 6))) (mVar 9) [9])))
  (sSeq (sDrop (ownLst 2 (mAppend 2 (mTup (mCons (mVar 3) (mCons (mVar 6) (mCons (m2 fEq (m2 fMod (m2 fAdd (m2 fAdd (mVar 8) (mPeek 4)) (hasSl 7 (mIxV 7 (mPure (.int 0))))) (mPure (.int 2))) (mPure (.int 1))) (mPure []))))))))
  (sSeq (sIf (mB (m2 fGt (m1 fLen (mPeek 7)) (mPure (.int 1)))) (sDrop (ownLst 2 (mAppend 2 (mTup (mCons (mVar 6) (mCons (mVar 6) (mCons (mPure (.bl true)) (mPure [])))))))) (fun ρ => .nx ρ))
  (sPars [3, 4] [false, false] (mCons (mVar 6) (mCons (hasSl 7 (mIxV 7 (m1 fNeg (mPure (.int 1))))) (mPure []))))))))
    (fun (x : Nat × List Nat) => Dt.tup [nD x.1, .lst (x.2.map nD)]) (fun pre ρ => ∃ s6 s7 s8, ρ = E (pre.foldl (stStep sz) ([], 0, 0)) s6 s7 s8) g [] (E ([], 0, 0) none none none) ⟨none, none, none, rfl⟩ (by
    rintro pre ⟨day, seen⟩ post ρ e ⟨s6, s7, s8, rfl⟩
    rw [List.nil_append] at e
    have hx : (day, seen) ∈ g := by rw [e]; simp
    have hne : seen ≠ [] := so.ne _ hx
    have hsl := stSt_len (sz := sz) pre ([], 0, 0)
    have hpl : pre.length ≤ g.length := by rw [e]; simp
    have hlp : 0 < seen.length := by cases seen with | nil => exact absurd rfl hne | cons a l => simp
    rw [List.foldl_append, List.foldl_cons, List.foldl_nil]
    generalize pre.foldl (stStep sz) ([], 0, 0) = s at hsl
    obtain ⟨acc, first, up⟩ := s
    dsimp only [List.length_nil] at hsl
    let T1 : En := [vl S, vl (nD w), ow (.lst (acc.map stD)), vl (nD first), vl (nD up), vl (.tup ((dayL rs D w).map nD)), vl (nD day), vl (.lst (seen.map nD)), lv s8, none]
    let T2 (acc : List Str3) (f u : Nat) : En := [vl S, vl (nD w), ow (.lst (acc.map stD)), vl (nD f), vl (nD u), vl (.tup ((dayL rs D w).map nD)), vl (nD day), vl (.lst (seen.map nD)), vl (nD (sz first day)), none]
    let t1 : Str3 := (first, day, some (decide ((sz first day + up + seen.headD 0) % 2 = 1)))
    refine ⟨T1, by cases s6 <;> cases s7 <;> rfl, T2 (stStep sz (acc, first, up) (day, seen)).1 day (seen.getLastD 0), .inl ?_, some (nD day), some (.lst (seen.map nD)), some (nD (sz first day)), rfl⟩
    have eL : mLc (mSeqI (mVar 5)) (gV 9) (mB (mChain fLe fLt (mVar 3) (mVar 9) (mPeek 6))) (mVar 9) [9] T1 = .ok (.lst (((dayL rs D w).filter fun d => decide (first ≤ d) && decide (d < day)).map nD)) T1 := by
      refine lc_ok (ρ0 := T1) (dayL rs D w) nD (fun d => decide (first ≤ d) && decide (d < day)) nD rfl (by cases s8 <;> rfl) (fun d _ => ?_) (by omega)
      let T3 : En := [vl S, vl (nD w), ow (.lst (acc.map stD)), vl (nD first), vl (nD up), vl (.tup ((dayL rs D w).map nD)), vl (nD day), vl (.lst (seen.map nD)), lv s8, vl (nD d)]
      exact ⟨T3, by cases s8 <;> rfl, T3, chain_nat rfl rfl rfl, fun _ => by cases s8 <;> rfl, fun _ => ⟨T3, rfl, by cases s8 <;> rfl⟩⟩
    have e8 : sSet 8 (m1 fLen (mLc (mSeqI (mVar 5)) (gV 9) (mB (mChain fLe fLt (mVar 3) (mVar 9) (mPeek 6))) (mVar 9) [9])) T1 = .nx (T2 acc first up) := by
      refine set_ok (m1_ok eL (len_lst nD _)) ?_
      rw [← cnW_days hw]
      cases s8 <;> rfl
    refine seq_nx e8 ?_
    have eO : m2 fEq (m2 fMod (m2 fAdd (m2 fAdd (mVar 8) (mPeek 4)) (hasSl 7 (mIxV 7 (mPure (.int 0))))) (mPure (.int 2))) (mPure (.int 1)) (T2 acc first up) = .ok (.bl (decide ((sz first day + up + seen.headD 0) % 2 = 1))) (T2 acc first up) := by
      have e1 : hasSl 7 (mIxV 7 (mPure (.int 0))) (T2 acc first up) = .ok (nD (seen.headD 0)) (T2 acc first up) :=
        ixv (y := .int 0) (d := .lst (seen.map nD)) rfl rfl rfl (ix0_lst hne)
      refine m2_ok (x := nD ((sz first day + up + seen.headD 0) % 2)) (y := .int 1) (m2_ok (x := nD (sz first day + up + seen.headD 0)) (y := nD 2) (m2_ok (x := nD (sz first day + up)) (m2_ok rfl rfl (fAdd_nat _ _)) e1 (fAdd_nat _ _)) rfl (fMod_nat _ _ (by decide))) rfl ((feq_int _ 1).trans ?_)
      congr 2
      exact decide_eq_decide.mpr (by omega)
    have eA : sDrop (ownLst 2 (mAppend 2 (mTup (mCons (mVar 3) (mCons (mVar 6) (mCons (m2 fEq (m2 fMod (m2 fAdd (m2 fAdd (mVar 8) (mPeek 4)) (hasSl 7 (mIxV 7 (mPure (.int 0))))) (mPure (.int 2))) (mPure (.int 1))) (mPure []))))))) (T2 acc first up) = .nx (T2 (acc ++ [t1]) first up) := by
      refine drop_ok (append_ok (ds := acc.map stD) rfl (tup_ok (cons_ok (d := nD first) rfl (cons_ok (d := nD day) rfl (cons_ok eO rfl))) (sl_le (by show 3 ≤ 1000000; decide))) rfl (by rw [List.length_map]; omega) ?_)
      show [_, _, ow (.lst (acc.map stD ++ [stD t1])), _, _, _, _, _, _, _] = T2 (acc ++ [t1]) first up
      rw [show acc.map stD ++ [stD t1] = (acc ++ [t1]).map stD by rw [List.map_append]; rfl]
    refine seq_nx eA ?_
    have eG : mB (m2 fGt (m1 fLen (mPeek 7)) (mPure (.int 1))) (T2 (acc ++ [t1]) first up) = .ok (decide (1 < seen.length)) (T2 (acc ++ [t1]) first up) :=
      tb_ok (m2_ok (x := nD seen.length) (y := nD 1) (m1_ok rfl (len_lst nD seen)) rfl (gt_nat _ _))
    have ef : ∀ a : List Str3, sPars [3, 4] [false, false] (mCons (mVar 6) (mCons (hasSl 7 (mIxV 7 (m1 fNeg (mPure (.int 1))))) (mPure []))) (T2 a first up) = .nx (T2 a day (seen.getLastD 0)) := fun a => by
      have e1 : hasSl 7 (mIxV 7 (m1 fNeg (mPure (.int 1)))) (T2 a first up) = .ok (nD (seen.getLastD 0)) (T2 a first up) :=
        ixv (y := .int (-1)) (d := .lst (seen.map nD)) rfl rfl rfl (ix_last hlp)
      exact pars_ok (ds := [nD day, nD (seen.getLastD 0)]) (ρ1 := T2 a first up) (cons_ok rfl (cons_ok e1 rfl)) rfl
    by_cases h1 : 1 < seen.length
    · rw [decide_eq_true h1] at eG
      refine seq_nx (ρ' := T2 (acc ++ [t1] ++ [(day, day, some true)]) first up) (if_t eG ?_) ?_
      · refine drop_ok (append_ok (ds := (acc ++ [t1]).map stD) rfl (tup_ok (ds := [nD day, nD day, .bl true]) rfl (sl_le (by show 3 ≤ 1000000; decide))) rfl (by rw [List.length_map, List.length_append]; simp; omega) ?_)
        show [_, _, ow (.lst ((acc ++ [t1]).map stD ++ [stD (day, day, some true)])), _, _, _, _, _, _, _] = T2 (acc ++ [t1] ++ [(day, day, some true)]) first up
        rw [show (acc ++ [t1]).map stD ++ [stD (day, day, some true)] = (acc ++ [t1] ++ [(day, day, some true)]).map stD by rw [List.map_append (l₂ := [(day, day, some true)])]; rfl]
      · rw [ef]
        unfold stStep
        dsimp only
        rw [if_pos h1]
        simp only [List.append_assoc]
        rfl
    · rw [decide_eq_false h1] at eG
      refine seq_nx (if_f eG rfl) ?_
      rw [ef]
      unfold stStep
      dsimp only
      rw [if_neg h1])
  rw [List.nil_append] at g1
  have hsl := stSt_len (sz := sz) g ([], 0, 0)
  have hf := strs_fold sz D g [] 0 0
  rw [List.nil_append] at hf
  have hst : stW (dueP p rs D) D L w = (g.foldl (stStep sz) ([], 0, 0)).1 ++ [((g.foldl (stStep sz) ([], 0, 0)).2.1, D, none)] := by
    unfold stW; rw [hg]; exact hf
  rw [hst]
  generalize g.foldl (stStep sz) ([], 0, 0) = s at g1 hsl
  dsimp only [List.length_nil] at hsl
  refine runF_rt (ρ := E s s6' s7' s8') ?_ rfl
  unfold b_stretches_of
  let E0 : En := [vl S, vl (nD w), ow (.lst []), vl (nD 0), vl (nD 0), none, none, none, none, none]
  refine seq_nx (ρ' := E0) rfl ?_
  refine seq_nx (ρ' := E ([], 0, 0) none none none) (set_ok (d := .tup ((dayL rs D w).map nD)) (ρ1 := E0) (call_ok (ds := [S, nD w]) (r := .non) rfl rfl (due_days_ok w hw hDp)) rfl) ?_
  refine seq_nx (for_ok (ds := g.map fun x => .tup [nD x.1, .lst (x.2.map nD)]) (ρ1 := E ([], 0, 0) none none none) ?_ g1) ?_
  · refine bind_ok (a := gDic g) (ρ1 := E ([], 0, 0) none none none) (call_ok (ds := [S, nD w]) (r := .non) rfl rfl (by rw [← hg]; exact seen_ok hL hn w)) ?_
    show mPure (itemsK (gKs g) (gDs g)) _ = _
    rw [items_g]; rfl
  · refine ret_ok ?_
    rw [List.map_append]
    refine tup_ok (star_ok (b := false) (xs := s.1.map stD) rfl (cons_ok (d := stD (s.2.1, D, none)) rfl rfl)) (sl_le ?_)
    rw [List.length_append, List.length_map]
    show _ + 1 ≤ _
    omega
end Dl
namespace Dl
open PySem PySem.Spec PyProof.Rows L2
variable {p : Nat} {rs : List Rw} {D b : Nat} {L : List Lk}
def nuD (x : Nat × Nat × Option Bool) : Dt := .tup [nD x.1, nD x.2.1, oD x.2.2]
theorem due_w {w : Nat} (hw : w < p) : ((dueP p rs D).filter fun q => decide (q.2 = w)) = (dayL rs D w).map fun d => (d, w) := by
  unfold dayL
  rw [← pick_w D w hw, List.map_map]
  have : ∀ l : List (Nat × Nat), (∀ q ∈ l, q.2 = w) → l = l.map ((fun d => (d, w)) ∘ (·.1)) := fun l h => by
    induction l with
    | nil => rfl
    | cons q l ih =>
      rw [List.map_cons, ← ih fun x hx => h x (List.mem_cons_of_mem _ hx)]
      congr 1
      have := h q (by simp)
      show q = (q.1, w)
      rw [← this]
  exact this _ fun q hq => of_decide_eq_true (List.mem_filter.mp hq).2
theorem due_part {w : Nat} (hw : w < p) (t : Str3) : (dueP p rs D).filter (qOf (w, t)) = ((dayL rs D w).filter fun d => decide (t.1 ≤ d) && decide (d < t.2.1)).map fun d => (d, w) := by
  have e : qOf (w, t) = fun q => (decide (t.1 ≤ q.1) && decide (q.1 < t.2.1)) && decide (q.2 = w) := by
    funext q
    unfold qOf
    rw [Bool.and_comm]
  rw [e, ← List.filter_filter, due_w hw, List.filter_map]
  rfl
theorem numsOf_w (M N : List (Nat × Nat)) : numsOf (dueP p rs D) p D L M N = (List.range p).flatMap fun w => (stW (dueP p rs D) D L w).map fun t => (goneN M ((dueP p rs D).filter (qOf (w, t))), freeN M N ((dueP p rs D).filter (qOf (w, t))), t.2.2) := by
  unfold numsOf prts
  rw [List.map_flatMap]
  congr 1
  funext w
  rw [List.map_map]
  rfl
theorem sttL_len' {cd : Nat → Nat → Nat} {D : Nat} : ∀ (g : List (Nat × List Nat)) (f u : Nat), (sttL cd D g f u).length ≤ 2 * g.length + 1
  | [], _, _ => Nat.le_refl _
  | (day, seen) :: g, f, u => by
    have := sttL_len' (cd := cd) (D := D) g day (seen.getLastD 0)
    show ((f, day, some _) :: ((if 1 < seen.length then [(day, day, some true)] else []) ++ sttL cd D g day (seen.getLastD 0))).length ≤ _
    rw [List.length_cons, List.length_append, List.length_cons]
    generalize seen.getLastD 0 = z at this ⊢
    split <;> simp <;> omega
theorem parts_ok (hL : LooksOk p D L) (hn : L.length < 1000) (hp : p < 100) (hD : D < 1000) (M N : List (Nat × Nat)) : m_parts_of [seasonD p rs D b L, mdD M, mdD N] = .ret (.lst ((numsOf (dueP p rs D) p D L M N).map nuD)) .non := by
  let S := seasonD p rs D b L
  let U := dueP p rs D
  have hDp : D * p ≤ 100000 := Nat.mul_le_mul (by omega : D ≤ 1000) (by omega : p ≤ 100)
  let nu (w : Nat) (t : Str3) : Nat × Nat × Option Bool := (goneN M (U.filter (qOf (w, t))), freeN M N (U.filter (qOf (w, t))), t.2.2)
  have stl : ∀ w, (stW U D L w).length ≤ 2001 := fun w => by
    have h1 := sttL_len' (cd := fun a c => cnW w a c U) (D := D) (grpG (lkW L w)) 0 0
    have h2 := (grp_len (lkW L w)).1
    have h3 := lkW_len L w
    show (sttL _ D (grpG (lkW L w)) 0 0).length ≤ _
    omega
  rw [numsOf_w]
  let E (a : List (Nat × Nat × Option Bool)) (s4 s5 s6 s7 s8 s9 s10 s11 : Option Dt) : En := [vl S, vl (mdD M), vl (mdD N), ow (.lst (a.map nuD)), lv s4, lv s5, lv s6, lv s7, lv s8, lv s9, lv s10, lv s11, none, none]
  let bd2 : En → So := (sSeq (sSet 9 (mLc (mSeqI (mVar 5)) (gV 12) (mB (mChain fLe fLt (mVar 6) (mVar 12) (mPeek 7))) (mTup (mCons (mVar 12) (mCons (mVar 4) (mPure [])))) [12]))
  (sSeq (sSet 10 (m1 fLen (mLc (mSeqI (mVar 9)) (gV 13) (mB (m2 fDin (mVar 13) (mPeek 1))) (mVar 13) [13])))
  (sSeq (sSet 11 (m1 fLen (mLc (mSeqI (mVar 9)) (gV 13) (mAnd (mB (m2 fDnotin (mVar 13) (mPeek 1))) (mB (m2 fDnotin (mVar 13) (mPeek 2)))) (mVar 13) [13])))
  (sDrop (ownLst 3 (mAppend 3 (mTup (mCons (mVar 10) (mCons (mVar 11) (mCons (mVar 8) (mPure []))))))))))) 
  have inner : ∀ (w : Nat) (hw : w < p) (a0 : List (Nat × Nat × Option Bool)) (h0 : a0.length ≤ 300000) (s6 s7 s8 s9 s10 s11 : Option Dt), ∃ t6 t7 t8 t9 t10 t11, forGo (gT (gsC (gV 6) (gsC (gV 7) (gsC (gV 8) gsN))) 3) bd2 ((stW U D L w).map stD) (E a0 (some (nD w)) (some (.tup ((dayL rs D w).map nD))) s6 s7 s8 s9 s10 s11) = .nx (E (a0 ++ (stW U D L w).map (nu w)) (some (nD w)) (some (.tup ((dayL rs D w).map nD))) t6 t7 t8 t9 t10 t11) := by
    intro w hw a0 h0 s6 s7 s8 s9 s10 s11
    have dl := dayL_len (rs := rs) (D := D) w
    obtain ⟨ρ', g1, t6, t7, t8, t9, t10, t11, rfl⟩ := forGo_inv (g := gT (gsC (gV 6) (gsC (gV 7) (gsC (gV 8) gsN))) 3) (bd := bd2) stD (fun pre ρ => ∃ t6 t7 t8 t9 t10 t11, ρ = E (a0 ++ pre.map (nu w)) (some (nD w)) (some (.tup ((dayL rs D w).map nD))) t6 t7 t8 t9 t10 t11) (stW U D L w) [] (E a0 (some (nD w)) (some (.tup ((dayL rs D w).map nD))) s6 s7 s8 s9 s10 s11) ⟨s6, s7, s8, s9, s10, s11, by simp⟩ (by
      rintro pre t post ρ e ⟨t6, t7, t8, t9, t10, t11, rfl⟩
      rw [List.nil_append] at e
      have hpl : pre.length ≤ 2001 := by
        have h1 := stl w
        rw [e] at h1
        simp at h1
        omega
      let a := a0 ++ pre.map (nu w)
      have hal : a.length < 1000000 := by show (a0 ++ _).length < _; rw [List.length_append, List.length_map]; omega
      let dl2 := (dayL rs D w).filter fun d => decide (t.1 ≤ d) && decide (d < t.2.1)
      have hdl2 : dl2.length ≤ 1000 := by
        have : dl2.length ≤ (dayL rs D w).length := List.length_filter_le _ _
        omega
      let ps := U.filter (qOf (w, t))
      have eps : ps = dl2.map fun d => (d, w) := due_part hw t
      have hpsl : ps.length ≤ 1000 := by rw [eps, List.length_map]; exact hdl2
      let T1 : En := [vl S, vl (mdD M), vl (mdD N), ow (.lst (a.map nuD)), vl (nD w), vl (.tup ((dayL rs D w).map nD)), vl (nD t.1), vl (nD t.2.1), vl (oD t.2.2), lv t9, lv t10, lv t11, none, none]
      let T2 (t10 t11 : Option Dt) : En := [vl S, vl (mdD M), vl (mdD N), ow (.lst (a.map nuD)), vl (nD w), vl (.tup ((dayL rs D w).map nD)), vl (nD t.1), vl (nD t.2.1), vl (oD t.2.2), vl (.lst (ps.map prD)), lv t10, lv t11, none, none]
      refine ⟨T1, by cases t6 <;> cases t7 <;> cases t8 <;> rfl, E (a ++ [nu w t]) (some (nD w)) (some (.tup ((dayL rs D w).map nD))) (some (nD t.1)) (some (nD t.2.1)) (some (oD t.2.2)) (some (.lst (ps.map prD))) (some (nD (nu w t).1)) (some (nD (nu w t).2.1)), .inl ?_, _, _, _, _, _, _, by rw [List.map_append, ← List.append_assoc]; rfl⟩
      have e9 : sSet 9 (mLc (mSeqI (mVar 5)) (gV 12) (mB (mChain fLe fLt (mVar 6) (mVar 12) (mPeek 7))) (mTup (mCons (mVar 12) (mCons (mVar 4) (mPure [])))) [12]) T1 = .nx (T2 t10 t11) := by
        have eL : mLc (mSeqI (mVar 5)) (gV 12) (mB (mChain fLe fLt (mVar 6) (mVar 12) (mPeek 7))) (mTup (mCons (mVar 12) (mCons (mVar 4) (mPure [])))) [12] T1 = .ok (.lst (dl2.map fun d => prD (d, w))) T1 := by
          refine lc_ok (ρ0 := T1) (dayL rs D w) nD (fun d => decide (t.1 ≤ d) && decide (d < t.2.1)) (fun d => prD (d, w)) rfl (by cases t9 <;> cases t10 <;> cases t11 <;> rfl) (fun d _ => ?_) (by omega)
          let T3 : En := [vl S, vl (mdD M), vl (mdD N), ow (.lst (a.map nuD)), vl (nD w), vl (.tup ((dayL rs D w).map nD)), vl (nD t.1), vl (nD t.2.1), vl (oD t.2.2), lv t9, lv t10, lv t11, vl (nD d), none]
          exact ⟨T3, by cases t9 <;> cases t10 <;> cases t11 <;> rfl, T3, chain_nat rfl rfl rfl, fun _ => by cases t9 <;> cases t10 <;> cases t11 <;> rfl, fun _ => ⟨T3, rfl, by cases t9 <;> cases t10 <;> cases t11 <;> rfl⟩⟩
        refine set_ok eL ?_
        have e2 : dl2.map (fun d => prD (d, w)) = ps.map prD := by rw [eps, List.map_map]; rfl
        rw [e2]
        cases t9 <;> cases t10 <;> cases t11 <;> rfl
      have e10 : sSet 10 (m1 fLen (mLc (mSeqI (mVar 9)) (gV 13) (mB (m2 fDin (mVar 13) (mPeek 1))) (mVar 13) [13])) (T2 t10 t11) = .nx (T2 (some (nD (nu w t).1)) t11) := by
        have eL : mLc (mSeqI (mVar 9)) (gV 13) (mB (m2 fDin (mVar 13) (mPeek 1))) (mVar 13) [13] (T2 t10 t11) = .ok (.lst ((ps.filter fun q => decide (q ∈ M)).map prD)) (T2 t10 t11) := by
          refine lc_ok (ρ0 := T2 t10 t11) ps prD (fun q => decide (q ∈ M)) prD rfl (by cases t10 <;> cases t11 <;> rfl) (fun q _ => ?_) (by omega)
          let T3 : En := [vl S, vl (mdD M), vl (mdD N), ow (.lst (a.map nuD)), vl (nD w), vl (.tup ((dayL rs D w).map nD)), vl (nD t.1), vl (nD t.2.1), vl (oD t.2.2), vl (.lst (ps.map prD)), lv t10, lv t11, none, vl (prD q)]
          exact ⟨T3, by cases t10 <;> cases t11 <;> rfl, T3, tb_ok (m2_ok (x := prD q) (y := mdD M) rfl rfl (din_pr _ _)), fun _ => by cases t10 <;> cases t11 <;> rfl, fun _ => ⟨T3, rfl, by cases t10 <;> cases t11 <;> rfl⟩⟩
        refine set_ok (m1_ok eL (len_lst prD _)) ?_
        have e2 : (nu w t).1 = (ps.filter fun q => decide (q ∈ M)).length := by show goneN M ps = _; unfold goneN; rw [List.countP_eq_length_filter]; exact congrArg List.length (List.filter_congr fun x _ => Bool.eq_iff_iff.mpr (by simp))
        rw [← e2]
        cases t10 <;> cases t11 <;> rfl
      have e11 : sSet 11 (m1 fLen (mLc (mSeqI (mVar 9)) (gV 13) (mAnd (mB (m2 fDnotin (mVar 13) (mPeek 1))) (mB (m2 fDnotin (mVar 13) (mPeek 2)))) (mVar 13) [13])) (T2 (some (nD (nu w t).1)) t11) = .nx (T2 (some (nD (nu w t).1)) (some (nD (nu w t).2.1))) := by
        have eL : mLc (mSeqI (mVar 9)) (gV 13) (mAnd (mB (m2 fDnotin (mVar 13) (mPeek 1))) (mB (m2 fDnotin (mVar 13) (mPeek 2)))) (mVar 13) [13] (T2 (some (nD (nu w t).1)) t11) = .ok (.lst ((ps.filter fun q => !decide (q ∈ M) && !decide (q ∈ N)).map prD)) (T2 (some (nD (nu w t).1)) t11) := by
          refine lc_ok (ρ0 := T2 (some (nD (nu w t).1)) t11) ps prD (fun q => !decide (q ∈ M) && !decide (q ∈ N)) prD rfl (by cases t11 <;> rfl) (fun q _ => ?_) (by omega)
          let T3 : En := [vl S, vl (mdD M), vl (mdD N), ow (.lst (a.map nuD)), vl (nD w), vl (.tup ((dayL rs D w).map nD)), vl (nD t.1), vl (nD t.2.1), vl (oD t.2.2), vl (.lst (ps.map prD)), vl (nD (nu w t).1), lv t11, none, vl (prD q)]
          refine ⟨T3, by cases t11 <;> rfl, T3, ?_, fun _ => by cases t11 <;> rfl, fun _ => ⟨T3, rfl, by cases t11 <;> rfl⟩⟩
          have c1 : mB (m2 fDnotin (mVar 13) (mPeek 1)) T3 = .ok (!decide (q ∈ M)) T3 := tb_ok (m2_ok (x := prD q) (y := mdD M) rfl rfl (dnotin_pr _ _))
          have c2 : mB (m2 fDnotin (mVar 13) (mPeek 2)) T3 = .ok (!decide (q ∈ N)) T3 := tb_ok (m2_ok (x := prD q) (y := mdD N) rfl rfl (dnotin_pr _ _))
          by_cases hq : q ∈ M
          · rw [decide_eq_true hq] at c1 ⊢; exact and_f c1
          · rw [decide_eq_false hq] at c1 ⊢; exact and_t c1 c2
        refine set_ok (m1_ok eL (len_lst prD _)) ?_
        have e2 : (nu w t).2.1 = (ps.filter fun q => !decide (q ∈ M) && !decide (q ∈ N)).length := by show freeN M N ps = _; unfold freeN; rw [List.countP_eq_length_filter]; exact congrArg List.length (List.filter_congr fun x _ => Bool.eq_iff_iff.mpr (by simp))
        rw [← e2]
        cases t11 <;> rfl
      refine seq_nx e9 (seq_nx e10 (seq_nx e11 ?_))
      refine drop_ok (append_ok (ds := a.map nuD) rfl (tup_ok (ds := [nD (nu w t).1, nD (nu w t).2.1, oD t.2.2]) rfl (sl_le (by show 3 ≤ 1000000; decide))) rfl (by rw [List.length_map]; exact hal) ?_)
      show [_, _, _, ow (.lst (a.map nuD ++ [nuD (nu w t)])), _, _, _, _, _, _, _, _, _, _] = E (a ++ [nu w t]) _ _ _ _ _ _ _ _
      rw [show a.map nuD ++ [nuD (nu w t)] = (a ++ [nu w t]).map nuD from (List.map_append (f := nuD) (l₁ := a) (l₂ := [nu w t])).symm]
      rfl)
    rw [List.nil_append] at g1
    exact ⟨t6, t7, t8, t9, t10, t11, g1⟩
  have tot : ∀ n, n ≤ p → ((List.range n).flatMap fun w => (stW U D L w).map (nu w)).length ≤ n * 2001 := fun n hn => by
    have := flat_len (fun w => (stW U D L w).map (nu w)) 2001 (List.range n) fun w _ => by rw [List.length_map]; exact stl w
    rwa [List.length_range] at this
  obtain ⟨ρ', g1, s4, s5, s6, s7, s8, s9, s10, s11, rfl⟩ := forGo_inv (g := gV 4) (bd := (sSeq (sSet 5 (mCall 2 m_due_days (mCons (mVar 0) (mCons (mVar 4) (mPure [])))))
  (sFor (mSeqI (mCall 2 m_stretches_of (mCons (mVar 0) (mCons (mVar 4) (mPure []))))) (gT (gsC (gV 6) (gsC (gV 7) (gsC (gV 8) gsN))) 3) bd2))) nD (fun pre ρ => ∃ s4 s5 s6 s7 s8 s9 s10 s11, ρ = E (pre.flatMap fun w => (stW U D L w).map (nu w)) s4 s5 s6 s7 s8 s9 s10 s11) (List.range p) [] (E [] none none none none none none none none) ⟨none, none, none, none, none, none, none, none, rfl⟩ (by
    rintro pre w post ρ e ⟨s4, s5, s6, s7, s8, s9, s10, s11, rfl⟩
    rw [List.nil_append] at e
    have hw : w < p := by
      have : w ∈ List.range p := by rw [e]; simp
      exact List.mem_range.mp this
    have hpre : pre = List.range w := by
      have h1 : pre.length = w := by
        have := congrArg (fun l => l[pre.length]?) e
        simp only [List.getElem?_append_right (Nat.le_refl _), Nat.sub_self, List.getElem?_cons_zero] at this
        have hl : pre.length < p := by
          have := congrArg List.length e
          simp at this
          omega
        rw [List.getElem?_range hl] at this
        exact Option.some.inj this
      have h2 := congrArg (List.take pre.length) e
      rw [List.take_left, h1] at h2
      rw [← h2, List.take_range]
      congr 1
      omega
    subst hpre
    have hb := tot w (by omega)
    let a0 := (List.range w).flatMap fun w => (stW U D L w).map (nu w)
    obtain ⟨t6, t7, t8, t9, t10, t11, gi⟩ := inner w hw a0 (by show ((List.range w).flatMap _).length ≤ _; have : w * 2001 ≤ 100 * 2001 := Nat.mul_le_mul_right _ (by omega); omega) s6 s7 s8 s9 s10 s11
    refine ⟨E a0 (some (nD w)) s5 s6 s7 s8 s9 s10 s11, by cases s4 <;> rfl, _, .inl ?_, some (nD w), some (.tup ((dayL rs D w).map nD)), t6, t7, t8, t9, t10, t11, rfl⟩
    refine seq_nx (ρ' := E a0 (some (nD w)) (some (.tup ((dayL rs D w).map nD))) s6 s7 s8 s9 s10 s11) (set_ok (ρ1 := E a0 (some (nD w)) s5 s6 s7 s8 s9 s10 s11) (call_ok (ds := [S, nD w]) (r := .non) rfl rfl (due_days_ok w hw hDp)) (by cases s5 <;> rfl)) ?_
    rw [List.flatMap_append, List.flatMap_singleton]
    exact for_ok (bind_ok (a := .tup ((stW U D L w).map stD)) (ρ1 := E a0 (some (nD w)) (some (.tup ((dayL rs D w).map nD))) s6 s7 s8 s9 s10 s11) (call_ok (ds := [S, nD w]) (r := .non) rfl rfl (stretches_ok hL hn hp hD hw)) rfl) gi)
  rw [List.nil_append] at g1
  refine runF_rt (ρ := [vl S, vl (mdD M), vl (mdD N), vl (.lst (((List.range p).flatMap fun w => (stW U D L w).map (nu w)).map nuD)), lv s4, lv s5, lv s6, lv s7, lv s8, lv s9, lv s10, lv s11, none, none]) ?_ rfl
  unfold b_parts_of
  refine seq_nx (ρ' := E [] none none none none none none none none) rfl (seq_nx (for_ok (ds := (List.range p).map nD) (ρ1 := E [] none none none none none none none none) ?_ g1) (ret_ok rfl))
  exact rngN_ok (N := p) rfl (by omega)
end Dl
namespace Dl
open PySem PySem.Spec PyProof.Rows L2
variable {p : Nat} {rs : List Rw} {D b : Nat} {L : List Lk}
def nO : Option Nat → Dt
  | none => .non
  | some k => nD k
theorem feq_bl (x y : Bool) : fEq (.bl x) (.bl y) = some (.bl (x == y)) := by cases x <;> cases y <;> rfl
def isE (g : Nat) (o : Option Bool) : Bool := match o with
  | none => true
  | some o => decide (g % 2 = 1) == o
theorem leadP_isE (g f : Nat) (o : Option Bool) : leadP g f o = if isE g o = true then some g else if f = 0 then none else some (g + 1) := by
  unfold leadP isE
  cases o with
  | none => simp
  | some o =>
    by_cases h : o = decide (g % 2 = 1)
    · rw [if_pos (.inr (by rw [h])), if_pos (by rw [h]; simp)]
    · have h2 : (decide (g % 2 = 1) == o) = false := by
        cases hb : (decide (g % 2 = 1) == o) with
        | false => rfl
        | true => exact absurd (beq_iff_eq.mp hb).symm h
      rw [if_neg (fun z => z.elim (fun z => nomatch z) fun z => h (Option.some.inj z))]
      exact (if_neg (show ¬ (decide (g % 2 = 1) == o) = true by rw [h2]; simp)).symm
theorem costL_cons (g f : Nat) (o : Option Bool) (l : List (Nat × Nat × Option Bool)) : costL ((g, f, o) :: l) = (match leadP g f o with | none => none | some k => (costL l).map (k + ·)) := rfl
/-- odd is None or (n % 2 == 1) == odd -/
theorem isE_ok {ρ : En} {mg : Mi Dt} {i g : Nat} {o : Option Bool} (h : ρ[i]? = some (vl (oD o))) (hg : mg ρ = .ok (nD g) ρ) : mOrV (m2 fIsN (mVar i) (mPure .non)) (m2 fEq (m2 fEq (m2 fMod mg (mPure (.int 2))) (mPure (.int 1))) (mPeek i)) ρ = .ok (.bl (isE g o)) ρ := by
  have e1 : mVar i ρ = .ok (oD o) ρ := by unfold mVar; rw [h]
  have e2 : mPeek i ρ = .ok (oD o) ρ := by unfold mPeek; rw [h]
  cases o with
  | none =>
    have e3 : m2 fIsN (mVar i) (mPure .non) ρ = .ok (.bl true) ρ := m2_ok e1 rfl rfl
    unfold mOrV mBind; rw [e3]; rfl
  | some o =>
    have e3 : m2 fIsN (mVar i) (mPure .non) ρ = .ok (.bl false) ρ := m2_ok e1 rfl rfl
    unfold mOrV mBind; rw [e3]
    dsimp only
    refine m2_ok (x := .bl (decide (g % 2 = 1))) (m2_ok (x := nD (g % 2)) (y := .int 1) (m2_ok hg (show mPure (.int 2) ρ = .ok (nD 2) ρ from rfl) (fMod_nat _ _ (by decide))) rfl ((feq_int _ 1).trans (by congr 2; exact decide_eq_decide.mpr (by omega)))) e2 ?_
    exact feq_bl _ _
theorem cost_ok (hL : LooksOk p D L) (hn : L.length < 1000) (hp : p < 100) (hD : D < 1000) (M N : List (Nat × Nat)) : m_cost [seasonD p rs D b L, mdD M, mdD N] = .ret (nO (costL (numsOf (dueP p rs D) p D L M N))) .non := by
  let S := seasonD p rs D b L
  let E (c : Nat) (s4 s5 s6 s7 : Option Dt) : En := [vl S, vl (mdD M), vl (mdD N), vl (nD c), lv s4, lv s5, lv s6, lv s7]
  let bd : En → So := (sSeq (sSet 7 (mOrV (m2 fIsN (mVar 6) (mPure .non)) (m2 fEq (m2 fEq (m2 fMod (mVar 4) (mPure (.int 2))) (mPure (.int 1))) (mPeek 6))))
  (sSeq (sIf (mAnd (mNot (mB (mVar 7))) (mB (m2 fEq (mVar 5) (mPure (.int 0))))) (sRet (mPure .non)) (fun ρ => .nx ρ))
  (sAug 3 (fI fun i j => some (.int (i + j))) (mIfE (mB (mVar 7)) (mVar 4) (m2 fAdd (mVar 4) (mPure (.int 1)))))))
  have loop : ∀ (l : List (Nat × Nat × Option Bool)) (c : Nat) (s4 s5 s6 s7 : Option Dt), ∃ ρ', forGo (gT (gsC (gV 4) (gsC (gV 5) (gsC (gV 6) gsN))) 3) bd (l.map nuD) (E c s4 s5 s6 s7) = (match costL l with | none => .rt .non ρ' | some k => .nx ρ') ∧ (∀ k, costL l = some k → ∃ t4 t5 t6 t7, ρ' = E (c + k) t4 t5 t6 t7) := by
    intro l
    induction l with
    | nil => intro c s4 s5 s6 s7; exact ⟨_, rfl, fun k hk => by cases hk; exact ⟨s4, s5, s6, s7, rfl⟩⟩
    | cons x l ih =>
      obtain ⟨g, f, o⟩ := x
      intro c s4 s5 s6 s7
      let T1 : En := [vl S, vl (mdD M), vl (mdD N), vl (nD c), vl (nD g), vl (nD f), vl (oD o), lv s7]
      let T2 (c : Nat) : En := [vl S, vl (mdD M), vl (mdD N), vl (nD c), vl (nD g), vl (nD f), vl (oD o), vl (.bl (isE g o))]
      have eg : gT (gsC (gV 4) (gsC (gV 5) (gsC (gV 6) gsN))) 3 (nuD (g, f, o)) (E c s4 s5 s6 s7) = some T1 := by cases s4 <;> cases s5 <;> cases s6 <;> rfl
      have e7 : sSet 7 (mOrV (m2 fIsN (mVar 6) (mPure .non)) (m2 fEq (m2 fEq (m2 fMod (mVar 4) (mPure (.int 2))) (mPure (.int 1))) (mPeek 6))) T1 = .nx (T2 c) :=
        set_ok (isE_ok rfl rfl) (by cases s7 <;> rfl)
      have hc : mNot (mB (mVar 7)) (T2 c) = .ok (!isE g o) (T2 c) := not_ok (tb_ok rfl)
      have hf : mB (m2 fEq (mVar 5) (mPure (.int 0))) (T2 c) = .ok (decide (f = 0)) (T2 c) := tb_ok (m2_ok rfl rfl ((feq_int _ 0).trans (by congr 2; exact decide_eq_decide.mpr (by omega))))
      have step : ∀ o', bd T1 = o' → forGo (gT (gsC (gV 4) (gsC (gV 5) (gsC (gV 6) gsN))) 3) bd ((⟨g, f, o⟩ :: l).map nuD) (E c s4 s5 s6 s7) = (match o' with | .nx ρ2 => forGo (gT (gsC (gV 4) (gsC (gV 5) (gsC (gV 6) gsN))) 3) bd (l.map nuD) ρ2 | .ct ρ2 => forGo (gT (gsC (gV 4) (gsC (gV 5) (gsC (gV 6) gsN))) 3) bd (l.map nuD) ρ2 | .bk ρ2 => .nx ρ2 | o => o) := fun o' ho => by
        rw [List.map_cons]
        show (match gT (gsC (gV 4) (gsC (gV 5) (gsC (gV 6) gsN))) 3 (nuD (g, f, o)) (E c s4 s5 s6 s7) with | none => _ | some ρ1 => _) = _
        rw [eg]
        dsimp only
        rw [ho]
        try (cases o' <;> rfl)
      have hl := leadP_isE g f o
      rw [costL_cons]
      cases hE : isE g o with
      | true =>
        rw [hE] at hl hc
        rw [if_pos rfl] at hl
        rw [hl]
        have hb : bd T1 = .nx (T2 (c + g)) := by
          refine seq_nx e7 (seq_nx (ρ' := T2 c) (if_f (and_f hc) rfl) ?_)
          show sBind (mVar 3) _ (T2 c) = _
          have e4 : mIfE (mB (mVar 7)) (mVar 4) (m2 fAdd (mVar 4) (mPure (.int 1))) (T2 c) = .ok (nD g) (T2 c) := ife_t (ρ1 := T2 c) (tb_ok (by show Ou.ok (Dt.bl (isE g o)) _ = _; rw [hE])) rfl
          unfold sBind
          rw [show mVar 3 (T2 c) = .ok (nD c) (T2 c) from rfl]
          dsimp only
          rw [e4]
          rfl
        obtain ⟨ρ', h1, h2⟩ := ih (c + g) (some (nD g)) (some (nD f)) (some (oD o)) (some (.bl (isE g o)))
        refine ⟨ρ', ?_, fun k hk => ?_⟩
        · rw [step _ hb]
          dsimp only
          rw [show T2 (c + g) = E (c + g) (some (nD g)) (some (nD f)) (some (oD o)) (some (.bl (isE g o))) from rfl, h1]
          cases costL l <;> rfl
        · dsimp only at hk
          cases hcl : costL l with
          | none => rw [hcl] at hk; cases hk
          | some k' =>
            rw [hcl] at hk
            cases hk
            obtain ⟨t4, t5, t6, t7, e⟩ := h2 k' hcl
            exact ⟨t4, t5, t6, t7, by rw [e]; rw [Nat.add_assoc]⟩
      | false =>
        rw [hE] at hl hc
        rw [if_neg (by simp)] at hl
        by_cases h0 : f = 0
        · rw [if_pos h0] at hl
          rw [hl]
          rw [decide_eq_true h0] at hf
          have hb : bd T1 = .rt .non (T2 c) := seq_nx e7 (seq_rt (if_t (and_t hc hf) (ret_ok rfl)))
          exact ⟨T2 c, by rw [step _ hb], fun k hk => (by cases hk)⟩
        · rw [if_neg h0] at hl
          rw [hl]
          rw [decide_eq_false h0] at hf
          have hb : bd T1 = .nx (T2 (c + (g + 1))) := by
            refine seq_nx e7 (seq_nx (ρ' := T2 c) (if_f (and_t hc hf) rfl) ?_)
            show sBind (mVar 3) _ (T2 c) = _
            have e4 : mIfE (mB (mVar 7)) (mVar 4) (m2 fAdd (mVar 4) (mPure (.int 1))) (T2 c) = .ok (nD (g + 1)) (T2 c) := ife_f (ρ1 := T2 c) (tb_ok (by show Ou.ok (Dt.bl (isE g o)) _ = _; rw [hE])) (m2_ok rfl (show mPure (.int 1) _ = .ok (nD 1) _ from rfl) (fAdd_nat _ _))
            unfold sBind
            rw [show mVar 3 (T2 c) = .ok (nD c) (T2 c) from rfl]
            dsimp only
            rw [e4]
            rfl
          obtain ⟨ρ', h1, h2⟩ := ih (c + (g + 1)) (some (nD g)) (some (nD f)) (some (oD o)) (some (.bl (isE g o)))
          refine ⟨ρ', ?_, fun k hk => ?_⟩
          · rw [step _ hb]
            dsimp only
            rw [show T2 (c + (g + 1)) = E (c + (g + 1)) (some (nD g)) (some (nD f)) (some (oD o)) (some (.bl (isE g o))) from rfl, h1]
            cases costL l <;> rfl
          · dsimp only at hk
            cases hcl : costL l with
            | none => rw [hcl] at hk; cases hk
            | some k' =>
              rw [hcl] at hk
              cases hk
              obtain ⟨t4, t5, t6, t7, e⟩ := h2 k' hcl
              exact ⟨t4, t5, t6, t7, by rw [e]; rw [Nat.add_assoc]⟩
  obtain ⟨ρ', h1, h2⟩ := loop (numsOf (dueP p rs D) p D L M N) 0 none none none none
  have ei : mSeqI (mCall 3 m_parts_of (mCons (mVar 0) (mCons (mVar 1) (mCons (mVar 2) (mPure []))))) (E 0 none none none none) = .ok ((numsOf (dueP p rs D) p D L M N).map nuD) (E 0 none none none none) :=
    bind_ok (a := .lst ((numsOf (dueP p rs D) p D L M N).map nuD)) (ρ1 := E 0 none none none none) (call_ok (ds := [S, mdD M, mdD N]) (r := .non) rfl rfl (parts_ok hL hn hp hD M N)) rfl
  cases hc : costL (numsOf (dueP p rs D) p D L M N) with
  | none =>
    rw [hc] at h1
    refine runF_rt (ρ := ρ') ?_ rfl
    unfold b_cost
    exact seq_nx (ρ' := E 0 none none none none) rfl (seq_rt (for_ok ei h1))
  | some k =>
    rw [hc] at h1
    obtain ⟨t4, t5, t6, t7, e⟩ := h2 k hc
    rw [Nat.zero_add] at e
    subst e
    refine runF_rt (ρ := E k t4 t5 t6 t7) ?_ rfl
    unfold b_cost
    exact seq_nx (ρ' := E 0 none none none none) rfl (seq_nx (for_ok ei h1) (ret_ok rfl))
def canB (c : Option Nat) (b : Nat) : Bool := match c with
  | none => false
  | some k => decide (k ≤ b)
theorem can_be_ok (hL : LooksOk p D L) (hn : L.length < 1000) (hp : p < 100) (hD : D < 1000) (M N : List (Nat × Nat)) : m_can_be [seasonD p rs D b L, mdD M, mdD N] = .ret (.bl (canB (costL (numsOf (dueP p rs D) p D L M N)) b)) .non := by
  let S := seasonD p rs D b L
  generalize hc : costL (numsOf (dueP p rs D) p D L M N) = c
  let E : En := [vl S, vl (mdD M), vl (mdD N), vl (nO c)]
  refine runF_rt (ρ := E) ?_ rfl
  unfold b_can_be
  refine seq_nx (ρ' := E) (set_ok (ρ1 := [vl S, vl (mdD M), vl (mdD N), none]) (call_ok (ds := [S, mdD M, mdD N]) (r := .non) rfl rfl (by rw [← hc]; exact cost_ok hL hn hp hD M N)) rfl) (ret_ok ?_)
  cases c with
  | none => exact andV_f (ρ1 := E) (m2_ok rfl rfl rfl)
  | some k => exact andV_t (ρ1 := E) (m2_ok rfl rfl rfl) (m2_ok (x := nD k) (y := nD b) rfl rfl (fLe_nat _ _))
theorem possible_ok (hL : LooksOk p D L) (hn : L.length < 1000) (hp : p < 100) (hD : D < 1000) : m_possible [seasonD p rs D b L] = .ret (.bl (canB (costL (numsOf (dueP p rs D) p D L [] [])) b)) .non :=
  runF_rt (ρ := [vl (seasonD p rs D b L)]) (ret_ok (call_ok (ds := [seasonD p rs D b L, mdD [], mdD []]) (r := .non) rfl rfl (can_be_ok hL hn hp hD [] []))) rfl
end Dl
namespace Dl
open PySem PySem.Spec PyProof.Rows L2
variable {p : Nat} {rs : List Rw} {D b : Nat} {K L : List Lk}
/-! ### turnings and looks as a season holds them -/
theorem due_ok : DueOk p D (dueP p rs D) := ⟨dueP_nodup D, fun x hx => (mem_dueP.mp hx).1, fun x hx => (mem_dueP.mp hx).2.1⟩
def lt3 (a c : Lk) : Prop := a.1 < c.1 ∨ (a.1 = c.1 ∧ (a.2.1 < c.2.1 ∨ (a.2.1 = c.2.1 ∧ a.2.2 < c.2.2)))
theorem allLk_asc (p D : Nat) : (allLk p D).Pairwise lt3 := by
  unfold allLk
  rw [List.pairwise_flatMap]
  refine ⟨fun d _ => ?_, List.pairwise_lt_range.imp fun {a c} h x hx y hy => ?_⟩
  · rw [List.pairwise_flatMap]
    refine ⟨fun w _ => ?_, List.pairwise_lt_range.imp fun {a c} h x hx y hy => ?_⟩
    · rw [List.pairwise_flatMap]
      refine ⟨fun s _ => List.pairwise_singleton _ _, List.pairwise_lt_range.imp fun {a c} h x hx y hy => ?_⟩
      rw [List.mem_singleton.mp hx, List.mem_singleton.mp hy]
      exact .inr ⟨rfl, .inr ⟨rfl, h⟩⟩
    · obtain ⟨s, _, hx⟩ := List.mem_flatMap.mp hx
      obtain ⟨t, _, hy⟩ := List.mem_flatMap.mp hy
      rw [List.mem_singleton.mp hx, List.mem_singleton.mp hy]
      exact .inr ⟨rfl, .inl h⟩
  · obtain ⟨u, _, hx⟩ := List.mem_flatMap.mp hx
    obtain ⟨s, _, hx⟩ := List.mem_flatMap.mp hx
    obtain ⟨v, _, hy⟩ := List.mem_flatMap.mp hy
    obtain ⟨t, _, hy⟩ := List.mem_flatMap.mp hy
    rw [List.mem_singleton.mp hx, List.mem_singleton.mp hy]
    exact .inl h
theorem lks_ok (K : List Lk) : LooksOk p D (lksOf p D K) := by
  refine ⟨fun w => ?_, fun q hq => ?_, fun q hq => ?_, fun q hq => ?_⟩
  · unfold lkW
    rw [List.pairwise_map]
    have h1 : (lksOf p D K).Pairwise lt3 := (allLk_asc p D).filter _
    refine (h1.filter _).imp_of_mem fun {a c} ha hc h => ?_
    have e1 : a.2.1 = w := of_decide_eq_true (List.mem_filter.mp ha).2
    have e2 : c.2.1 = w := of_decide_eq_true (List.mem_filter.mp hc).2
    unfold lt3 at h
    unfold ltP
    dsimp only
    omega
  · exact (mem_allLk.mp (List.mem_filter.mp hq).1).1
  · exact (mem_allLk.mp (List.mem_filter.mp hq).1).2.1
  · exact (mem_allLk.mp (List.mem_filter.mp hq).1).2.2
theorem lks_len (K : List Lk) (hK : K.Nodup ∨ True) : (lksOf p D K).length ≤ K.length := by
  have nd : (lksOf p D K).Nodup := lks_nodup K
  have sub : ∀ q ∈ lksOf p D K, q ∈ K := fun q hq => lks_mem hq
  clear hK
  generalize lksOf p D K = l at nd sub
  induction l generalizing K with
  | nil => simp
  | cons x l ih =>
    have hx := sub x (by simp)
    have := ih (K.erase x) (List.nodup_cons.mp nd).2 fun q hq => by
      have hne : q ≠ x := fun z => (List.nodup_cons.mp nd).1 (z ▸ hq)
      exact (List.mem_erase_of_ne hne).mpr (sub q (List.mem_cons_of_mem _ hq))
    rw [List.length_erase_of_mem hx] at this
    have : 0 < K.length := List.length_pos_of_mem hx
    rw [List.length_cons]; omega
/-! ### what fits -/
abbrev Pr := Nat × Nat
theorem side_sd (M : List Pr) {w : Nat} (hw : w < p) (d : Nat) : sdU (dueP p rs D) M w d = sideN rs D M d w := by
  unfold sdU sideN madeL
  rw [← List.countP_eq_length_filter]
  congr 1
  rw [show ((List.range D).filter (isDue rs w)) = dayL rs D w from rfl]
  have h := due_w (p := p) (rs := rs) (D := D) hw
  have e : (dueP p rs D).countP (fun x => decide (x.2 = w) && (decide (x.1 < d) && !decide (x ∈ M))) = ((dueP p rs D).filter fun q => decide (q.2 = w)).countP fun x => decide (x.1 < d) && !decide (x ∈ M) := by
    rw [List.countP_filter]
    apply List.countP_congr
    intro x _
    simp only [Bool.and_eq_true]
    exact ⟨fun z => ⟨z.2, z.1⟩, fun z => ⟨z.2, z.1⟩⟩
  rw [e, h, List.countP_map]
  rfl
def unK (rs : List Rw) (D : Nat) (K : List Lk) (M : List Pr) : Bool := K.all fun q => decide (sideN rs D M q.1 q.2.1 = q.2.2)
theorem unb_un (hK : ∀ q ∈ K, q.2.1 < p) (M : List Pr) : unb (dueP p rs D) K M = unK rs D K M := by
  unfold unb unK
  rw [Bool.eq_iff_iff, List.all_eq_true, List.all_eq_true]
  exact ⟨fun h q hq => by rw [← side_sd M (hK q hq)]; exact h q hq, fun h q hq => by rw [side_sd M (hK q hq)]; exact h q hq⟩
theorem unK_lks (hK : ∀ q ∈ K, GoodLk p D q) (M : List Pr) : unK rs D (lksOf p D K) M = unK rs D K M := by
  unfold unK
  rw [Bool.eq_iff_iff, List.all_eq_true, List.all_eq_true]
  exact ⟨fun h q hq => h q (mem_lks hq (hK q hq)), fun h q hq => h q (lks_mem hq)⟩
theorem unK_app (K K' : List Lk) (M : List Pr) : unK rs D (K ++ K') M = (unK rs D K M && unK rs D K' M) := by unfold unK; rw [List.all_append]
/-- all lots that fit, ascending -/
def fitL (p : Nat) (rs : List Rw) (D b : Nat) (K : List Lk) : List (List Pr) := (lots (dueP p rs D)).filter fun M => unK rs D K M && decide (M.length ≤ b)
theorem mem_fitL {M : List Pr} : M ∈ fitL p rs D b K ↔ M.Sublist (dueP p rs D) ∧ unK rs D K M = true ∧ M.length ≤ b := by
  unfold fitL
  rw [List.mem_filter, mem_lots, Bool.and_eq_true, decide_eq_true_eq]
/-- a season whose looks come of K -/
structure Sn (p : Nat) (rs : List Rw) (D b : Nat) (K : List Lk) : Prop where
  good : Good p rs
  rl : rs.length < 1000
  hp : p < 100
  D0 : 0 < D
  hD : D ≤ 60
  hb : b < 1000
  hK : ∀ q ∈ K, GoodLk p D q
  kl : K.length < 900
def snD (p : Nat) (rs : List Rw) (D b : Nat) (K : List Lk) : Dt := seasonD p rs D b (lksOf p D K)
theorem Sn.lk (h : Sn p rs D b K) : (lksOf p D K).length < 1000 := by have := lks_len (p := p) (D := D) K (.inr trivial); have := h.kl; omega
theorem Sn.un (h : Sn p rs D b K) (M : List Pr) : unb (dueP p rs D) (lksOf p D K) M = unK rs D K M := by
  rw [unb_un (fun q hq => (lks_good K q hq).w), unK_lks h.hK]
/-- the lots that fit, with some missed and some made -/
def wMN (p : Nat) (rs : List Rw) (D b : Nat) (K : List Lk) (M N : List Pr) : Nat := (fitL p rs D b K).countP (okMN M N (dueP p rs D))
theorem poly_cnt (h : Sn p rs D b K) {M N : List Pr} (hMN : ∀ x ∈ M, x ∉ N) (j : Nat) : polyL (numsOf (dueP p rs D) p D (lksOf p D K) M N) j = (lots (dueP p rs D)).countP fun x => (okMN M N (dueP p rs D) x && unK rs D K x) && decide (x.length = j) := by
  rw [← cnt_all due_ok (lks_ok K) hMN]
  unfold cntMN
  apply List.countP_congr
  intro x _
  rw [h.un]
theorem cost_min (h : Sn p rs D b K) {M N : List Pr} (hMN : ∀ x ∈ M, x ∉ N) :
    (∀ k, costL (numsOf (dueP p rs D) p D (lksOf p D K) M N) = some k → (∃ x, x.Sublist (dueP p rs D) ∧ okMN M N (dueP p rs D) x = true ∧ unK rs D K x = true ∧ x.length = k) ∧ ∀ x, x.Sublist (dueP p rs D) → okMN M N (dueP p rs D) x = true → unK rs D K x = true → k ≤ x.length) ∧
    (costL (numsOf (dueP p rs D) p D (lksOf p D K) M N) = none → ∀ x, x.Sublist (dueP p rs D) → okMN M N (dueP p rs D) x = true → unK rs D K x = false) := by
  obtain ⟨c1, c2⟩ := cost_lead (numsOf (dueP p rs D) p D (lksOf p D K) M N)
  refine ⟨fun k hk => ?_, fun hn x hx ho => ?_⟩
  · obtain ⟨h1, h2⟩ := c1 k hk
    rw [poly_cnt h hMN] at h1
    obtain ⟨x, hx, hP⟩ := List.countP_pos_iff.mp h1
    simp only [Bool.and_eq_true, decide_eq_true_eq] at hP
    refine ⟨⟨x, mem_lots.mp hx, hP.1.1, hP.1.2, hP.2⟩, fun y hy ho hu => ?_⟩
    rcases Nat.lt_or_ge y.length k with hlt | hge
    · have := h2 y.length hlt
      rw [poly_cnt h hMN, List.countP_eq_zero] at this
      exact absurd (show ((okMN M N (dueP p rs D) y && unK rs D K y) && decide (y.length = y.length)) = true by rw [ho, hu]; simp) (this y (mem_lots.mpr hy))
    · exact hge
  · have := c2 hn x.length
    rw [poly_cnt h hMN, List.countP_eq_zero] at this
    have := this x (mem_lots.mpr hx)
    rw [ho] at this
    simpa using this
theorem can_w (h : Sn p rs D b K) {M N : List Pr} (hMN : ∀ x ∈ M, x ∉ N) : canB (costL (numsOf (dueP p rs D) p D (lksOf p D K) M N)) b = decide (0 < wMN p rs D b K M N) := by
  obtain ⟨c1, c2⟩ := cost_min h hMN
  rw [Bool.eq_iff_iff, decide_eq_true_eq]
  unfold wMN
  rw [List.countP_pos_iff]
  cases hc : costL (numsOf (dueP p rs D) p D (lksOf p D K) M N) with
  | none =>
    refine ⟨fun z => (by cases z), fun ⟨x, hx, ho⟩ => ?_⟩
    obtain ⟨h1, h2, h3⟩ := mem_fitL.mp hx
    rw [c2 hc x h1 ho] at h2
    cases h2
  | some k =>
    obtain ⟨⟨x, x1, x2, x3, x4⟩, hmin⟩ := c1 k hc
    show decide (k ≤ b) = true ↔ _
    rw [decide_eq_true_eq]
    refine ⟨fun hk => ⟨x, mem_fitL.mpr ⟨x1, x3, by omega⟩, x2⟩, fun ⟨y, hy, ho⟩ => ?_⟩
    obtain ⟨h1, h2, h3⟩ := mem_fitL.mp hy
    have := hmin y h1 ho h2
    omega
theorem ok_nil (U x : List Pr) : okMN [] [] U x = true := okMN_iff.mpr fun y _ => ⟨fun z => (by cases z), fun z => (by cases z)⟩
theorem w_nil : wMN p rs D b K [] [] = (fitL p rs D b K).length := by
  unfold wMN
  rw [List.countP_eq_length_filter, List.filter_eq_self.mpr fun x _ => ok_nil _ x]
end Dl
namespace Dl
open PySem PySem.Spec PyProof.Rows L2
variable {p : Nat} {rs : List Rw} {D b : Nat} {K L : List Lk}
theorem lks_lks (K K' : List Lk) : lksOf p D (lksOf p D K ++ K') = lksOf p D (K ++ K') := by
  unfold lksOf
  apply List.filter_congr
  intro q hq
  apply decide_eq_decide.mpr
  rw [List.mem_append, List.mem_append, List.mem_filter, decide_eq_true_eq]
  exact ⟨fun z => z.elim (fun z => .inl z.2) .inr, fun z => z.elim (fun z => .inl ⟨hq, z⟩) .inr⟩
theorem Sn.add (h : Sn p rs D b K) {K' : List Lk} (hx : ∀ x ∈ K', GoodLk p D x) (hl : (K ++ K').length < 900) : Sn p rs D b (K ++ K') :=
  ⟨h.good, h.rl, h.hp, h.D0, h.hD, h.hb, fun q hq => (List.mem_append.mp hq).elim (h.hK q) (hx q), hl⟩
theorem Sn.lkl (h : Sn p rs D b K) : (lksOf p D K).length ≤ K.length := lks_len K (.inr trivial)
theorem seen_sn (h : Sn p rs D b K) {K' : List Lk} (hx : ∀ x ∈ K', GoodLk p D x) (hl : (K ++ K').length < 900) {c : Bool} : m_Season_seen [snD p rs D b K, sqD c (K'.map lkD)] = .ret (snD p rs D b (K ++ K')) .non := by
  have hD := h.hD
  have := h.lkl
  have e := season_seen_ok (b := b) h.good h.rl h.hp h.D0 (by omega) (c := c) (L := lksOf p D K) (K := K') (lks_good K) hx (by rw [List.length_append] at hl ⊢; omega)
  rw [lks_lks] at e
  exact e
theorem fit_add (K : List Lk) (x : Lk) : fitL p rs D b (K ++ [x]) = (fitL p rs D b K).filter fun M => decide (sideN rs D M x.1 x.2.1 = x.2.2) := by
  unfold fitL
  rw [List.filter_filter]
  apply List.filter_congr
  intro M _
  rw [unK_app]
  have : unK rs D [x] M = decide (sideN rs D M x.1 x.2.1 = x.2.2) := by unfold unK; simp
  rw [this]
  cases unK rs D K M <;> cases decide (sideN rs D M x.1 x.2.1 = x.2.2) <;> cases decide (M.length ≤ b) <;> rfl
theorem possible_sn (h : Sn p rs D b K) : m_possible [snD p rs D b K] = .ret (.bl (decide (0 < (fitL p rs D b K).length))) .non := by
  have hD := h.hD
  have e := possible_ok (b := b) (rs := rs) (lks_ok K) h.lk h.hp (by omega)
  rw [can_w h (M := []) (N := []) (fun _ hx => by cases hx), w_nil] at e
  exact e
/-- some lot that fits shows a side -/
def hasS (rs : List Rw) (D : Nat) (F : List (List Pr)) (w d s : Nat) : Bool := F.any fun M => decide (sideN rs D M d w = s)
theorem hasS_pos {F : List (List Pr)} {w d s : Nat} : hasS rs D F w d s = decide (0 < (F.filter fun M => decide (sideN rs D M d w = s)).length) := by
  unfold hasS
  rw [Bool.eq_iff_iff, List.any_eq_true, decide_eq_true_eq, List.length_pos_iff_exists_mem]
  constructor
  · rintro ⟨M, h1, h2⟩; exact ⟨M, List.mem_filter.mpr ⟨h1, h2⟩⟩
  · rintro ⟨M, h⟩; exact ⟨M, (List.mem_filter.mp h).1, (List.mem_filter.mp h).2⟩
def showL (rs : List Rw) (D : Nat) (F : List (List Pr)) (w d : Nat) : List Nat := (List.range 2).filter (hasS rs D F w d)
theorem look_lst (d w s : Nat) {ρ : En} {md mw ms : Mi Dt} (h1 : md ρ = .ok (nD d) ρ) (h2 : mw ρ = .ok (nD w) ρ) (h3 : ms ρ = .ok (nD s) ρ) : mLst (mCons (mTup (mCons md (mCons mw (mCons ms (mPure []))))) (mPure [])) ρ = .ok (.lst [lkD (d, w, s)]) ρ :=
  lst_ok (cons_ok (tup_ok (cons_ok h1 (cons_ok h2 (cons_ok h3 rfl))) (sl_le (by show 3 ≤ 1000000; decide))) rfl) (sl_le (by show 1 ≤ 1000000; decide))
/-- season.seen([(day, wheel, side)]) -/
theorem seen_call (h : Sn p rs D b K) {d w s : Nat} (hg : GoodLk p D (d, w, s)) (hl : K.length < 899) {ρ : En} {mS ml : Mi Dt} (hS : mS ρ = .ok (snD p rs D b K) ρ) (hm : ml ρ = .ok (.lst [lkD (d, w, s)]) ρ) : mMeth 1 2 m_Season_seen mS (mCons ml (mPure [])) ρ = .ok (snD p rs D b (K ++ [(d, w, s)])) ρ :=
  meth_ok (ds := [.lst [lkD (d, w, s)]]) (r := .non) hS (cons_ok hm rfl) rfl (seen_sn h (K' := [(d, w, s)]) (c := false) (fun x hx => by rw [List.mem_singleton.mp hx]; exact hg) (by rw [List.length_append, List.length_singleton]; omega))
theorem Sn.add1 (h : Sn p rs D b K) {x : Lk} (hx : GoodLk p D x) (hl : K.length < 899) : Sn p rs D b (K ++ [x]) := h.add (fun y hy => by rw [List.mem_singleton.mp hy]; exact hx) (by rw [List.length_append, List.length_singleton]; omega)
theorem can_show_sn (h : Sn p rs D b K) (hl : K.length < 899) {w d : Nat} (hw : w < p) (hd : d ≤ D) : m_can_show [snD p rs D b K, nD w, nD d] = .ret (.lst ((showL rs D (fitL p rs D b K) w d).map nD)) .non := by
  let S := snD p rs D b K
  let E : En := [vl S, vl (nD w), vl (nD d), none]
  refine runF_rt (ρ := E) (ret_ok ?_) rfl
  refine lc_ok (ρ0 := E) (List.range 2) nD (hasS rs D (fitL p rs D b K) w d) nD (rngN_ok (N := 2) rfl (by decide)) rfl (fun s hs => ?_) (by decide)
  have hs := List.mem_range.mp hs
  let E1 : En := [vl S, vl (nD w), vl (nD d), vl (nD s)]
  have hg : GoodLk p D (d, w, s) := ⟨hd, hw, hs⟩
  refine ⟨E1, rfl, E1, tb_ok ?_, fun _ => rfl, fun _ => ⟨E1, rfl, rfl⟩⟩
  have e := possible_sn (h.add1 hg hl)
  rw [fit_add, ← hasS_pos] at e
  exact call_ok (ds := [snD p rs D b (K ++ [(d, w, s)])]) (r := .non) (cons_ok (seen_call h hg hl rfl (look_lst d w s rfl rfl rfl)) rfl) rfl e
def sideO (l : List Nat) : Dt := match l with
  | [s] => nD s
  | _ => .non
theorem sideO_ok {l : List Nat} {ρ : En} {i : Nat} (h : ρ[i]? = some (vl (.lst (l.map nD)))) : mIfE (mB (m2 fEq (m1 fLen (mPeek i)) (mPure (.int 1)))) (hasSl i (mIxV i (mPure (.int 0)))) (mPure .non) ρ = .ok (sideO l) ρ := by
  have e1 : mPeek i ρ = .ok (.lst (l.map nD)) ρ := by unfold mPeek; rw [h]
  have ec : mB (m2 fEq (m1 fLen (mPeek i)) (mPure (.int 1))) ρ = .ok (decide (l.length = 1)) ρ := tb_ok (m2_ok (m1_ok e1 (len_lst nD l)) rfl ((feq_int _ 1).trans (by congr 2; exact decide_eq_decide.mpr (by omega))))
  match l, h, e1, ec with
  | [], h, e1, ec => exact ife_f ec rfl
  | [s], h, e1, ec => exact ife_t ec (ixv h rfl e1 (ix0_lst (l := [s]) (by simp)))
  | a :: c :: l, h, e1, ec =>
    rw [decide_eq_false (by simp)] at ec
    exact ife_f ec rfl
theorem sure_sides_sn (h : Sn p rs D b K) (hl : K.length < 899) {d : Nat} (hd : d ≤ D) : m_sure_sides [snD p rs D b K, nD d] = .ret (.tup ((List.range p).map fun w => sideO (showL rs D (fitL p rs D b K) w d))) .non := by
  let S := snD p rs D b K
  have hp := h.hp
  let E0 : En := [vl S, vl (nD d), none, none, none]
  let sh := fun w => showL rs D (fitL p rs D b K) w d
  let E : En := [vl S, vl (nD d), vl (.lst ((List.range p).map fun w => .lst ((sh w).map nD))), none, none]
  refine runF_rt (ρ := E) ?_ rfl
  unfold b_sure_sides
  have e1 : mLc (mRng1 (mCons (m1 (fAttr ix_wheels) (mPeek 0)) (mPure []))) (gV 3) (mPure true) (mCall 3 m_can_show (mCons (mVar 0) (mCons (mVar 3) (mCons (mVar 1) (mPure []))))) [3] E0 = .ok (.lst ((List.range p).map fun w => .lst ((sh w).map nD))) E0 := by
    refine lc_map (ρ0 := E0) (List.range p) nD (fun w => .lst ((sh w).map nD)) (rngN_ok (N := p) rfl (by omega)) rfl (fun w hw => ?_) (by rw [List.length_range]; omega)
    have hw := List.mem_range.mp hw
    let E1 : En := [vl S, vl (nD d), none, vl (nD w), none]
    exact ⟨E1, rfl, E1, call_ok (ds := [S, nD w, nD d]) (r := .non) rfl rfl (can_show_sn h hl hw hd), rfl⟩
  refine seq_nx (set_ok e1 rfl) (ret_ok (m1_ok (lc_map (ρ0 := E) (List.range p) (fun w => Dt.lst ((sh w).map nD)) (fun w => sideO (sh w)) rfl rfl (fun w hw => ?_) (by rw [List.length_range]; omega)) rfl))
  let E1 : En := [vl S, vl (nD d), vl (.lst ((List.range p).map fun w => .lst ((sh w).map nD))), none, vl (.lst ((sh w).map nD))]
  exact ⟨E1, rfl, E1, sideO_ok rfl, rfl⟩
end Dl
namespace Dl
open PySem PySem.Spec PyProof.Rows L2
/-! ### == [] and != [] -/
/-! ### draws of a deal -/
def dlD (q : List Int × Int) : Dt := .deal q.1 q.2
abbrev Dq := { q : List Int × Int // q.1.length < 900 }
end Dl
namespace Dl
open PySem PySem.Spec PyProof.Rows L2
variable {p : Nat} {rs : List Rw} {D b : Nat} {K : List Lk}
theorem feq_nat (a b : Nat) : fEq (nD a) (nD b) = some (.bl (decide (a = b))) := (feq_int _ _).trans (by congr 2; exact decide_eq_decide.mpr (by omega))
/-! ### the side by the law -/
/-! ### drawn looks -/
/-! ### a season told -/
structure Told (most p : Nat) (rs : List Rw) (D b : Nat) (K : List Lk) : Prop where
  good : Good p rs
  p0 : 0 < p
  p3 : p ≤ 3
  l3 : rs.length ≤ 3
  D0 : 0 < D
  D6 : D ≤ 6
  b9 : b ≤ 18
  hK : ∀ x ∈ K, GoodLk p D x
  k5 : K.length ≤ 4
  due : (dueP p rs D).length ≤ max 3 most
theorem wh_f {C : Mi Bool} {B : En → So} {n : Nat} {ρ ρ1 : En} (h : C ρ = .ok false ρ1) : whGo C B (n + 1) ρ = .nx ρ1 := by unfold whGo; rw [h]
theorem wh_t {C : Mi Bool} {B : En → So} {n : Nat} {ρ ρ1 ρ2 : En} {o : So} (h : C ρ = .ok true ρ1) (hb : B ρ1 = .nx ρ2) (k : whGo C B n ρ2 = o) : whGo C B (n + 1) ρ = o := by unfold whGo; rw [h]; dsimp only; rw [hb]; exact k
def tE (p : Nat) (rs : List Rw) (most : Nat) (q : Dq) (D : Option Nat) (s4 s5 s6 : Option Dt) : En := [io (dlD q.1), vl (nD most), vl (toldD p rs), lv (D.map nD), lv s4, lv s5, lv s6]
def tC : Mi Bool := mAnd (mB (m2 fGt (m1 fLen (mCall 2 m_law_due (mCons (mVar 2) (mCons (mVar 3) (mPure []))))) (mPeek 1))) (mB (m2 fGt (mVar 3) (mPure (.int 1))))
def tB : En → So := sSet 3 (m2 fSub (mVar 3) (mPure (.int 1)))
end Dl
namespace Dl
open PySem PySem.Spec PyProof.Rows L2
variable {p : Nat} {rs : List Rw} {D b : Nat} {K : List Lk}
/-! ### each look once, and the season made -/
variable {most : Nat}
theorem Told.sn (h : Told most p rs D b K) : Sn p (srt rs) D b K :=
  ⟨h.good.srt, by rw [srt_len]; have := h.l3; omega, by have := h.p3; omega, h.D0, by have := h.D6; omega, by have := h.b9; omega, h.hK, by have := h.k5; omega⟩
/-! ### whether a lot fits -/
/-! ### all lots, one behind the other -/
end Dl
namespace Dl
open PySem PySem.Spec PyProof.Rows L2
variable {p : Nat} {rs : List Rw} {D b : Nat} {K : List Lk} {most : Nat}
theorem Told.n0 (h : Told most p rs D b K) : 0 < rs.length := h.good.n0
abbrev cstO (p : Nat) (rs : List Rw) (D : Nat) (K : List Lk) : Option Nat := costL (numsOf (dueP p rs D) p D (lksOf p D K) [] [])
def oDq : Option Dq → Option Sl
  | none => none
  | some q => ow (dlD q.1)
theorem no_flt {k : Nat} (o : Option Nat) : Flt k (nO o) := by cases o with
  | none => exact .non
  | some n => exact .int _
end Dl
namespace Dl
open PySem PySem.Spec PyProof.Rows L2
variable {p : Nat} {rs : List Rw} {D b : Nat} {K : List Lk} {most : Nat}
/-! ### whether a turning was missed -/
def anM (F : List (List Pr)) (x : Pr) : Bool := F.any fun M => decide (x ∈ M)
def anN (F : List (List Pr)) (x : Pr) : Bool := F.any fun M => !decide (x ∈ M)
theorem ok_m {U : List Pr} {x : Pr} (hx : x ∈ U) (M : List Pr) : okMN [x] [] U M = decide (x ∈ M) := by
  rw [Bool.eq_iff_iff, okMN_iff, decide_eq_true_eq]
  exact ⟨fun h => (h x hx).1 (by simp), fun h y _ => ⟨fun z => by rw [List.mem_singleton.mp z]; exact h, fun z => by cases z⟩⟩
theorem ok_n {U : List Pr} {x : Pr} (hx : x ∈ U) (M : List Pr) : okMN [] [x] U M = !decide (x ∈ M) := by
  rw [Bool.eq_iff_iff, okMN_iff]
  simp only [Bool.not_eq_true', decide_eq_false_iff_not]
  exact ⟨fun h => (h x hx).2 (by simp), fun h y _ => ⟨(fun z => by cases z), (fun z => by rw [List.mem_singleton.mp z]; exact h)⟩⟩
theorem pos_any {F : List (List Pr)} {f : List Pr → Bool} : decide (0 < F.countP f) = F.any f := by
  rw [Bool.eq_iff_iff, decide_eq_true_eq, List.countP_pos_iff, List.any_eq_true]
/-! ### sides shown -/
end Dl
namespace Dl
open PySem PySem.Spec PyProof.Rows L2
/-! ### steps that leave the slots as they are -/
section
variable {ρ ρ1 ρ2 : En} {i j n : Nat} {m ma mb : Mi Dt} {ms : Mi (List Dt)} {d r x y z : Dt} {ds : List Dt} {f : List Dt → Fo} {s : Option Dt} {t : Sl} {io0 : Bool}
theorem callP (hf : f ds = .ret d r) (h : ms ρ = .ok ds ρ) (hn : ds.length = n) : mCall n f ms ρ = .ok d ρ := call_ok h hn hf
theorem sl_lv (h : ρ[i]? = some (lv s)) : setSl i t ρ = some (ρ.set i (some t)) := by unfold setSl; rw [h]; cases s <;> rfl
theorem sl_vl (h : ρ[i]? = some (some (.val d))) : setSl i t ρ = some (ρ.set i (some t)) := by unfold setSl; rw [h]
theorem sl_ow (h : ρ[i]? = some (some (.own false d))) : setSl i t ρ = some (ρ.set i (some t)) := by unfold setSl; rw [h]
theorem sl_no (h : ρ[i]? = some none) : setSl i t ρ = some (ρ.set i (some t)) := by unfold setSl; rw [h]
end
end Dl
namespace Dl
open PySem PySem.Spec PyProof.Rows L2
/-! ### what the step words lean on -/
section
variable {α : Type} {ρ ρ1 ρ2 ρ3 : En} {i j n : Nat} {m ma mb : Mi Dt} {ms : Mi (List Dt)} {d r x y z : Dt} {ds : List Dt} {f : List Dt → Fo} {s : Option Dt} {t : Sl} {io0 : Bool} {c : Mi Bool} {a b : Nat}
theorem var_ok (h : ρ[i]? = some (some (.val d))) : mVar i ρ = .ok d ρ := by unfold mVar; rw [h]
theorem peek_ok (h : ρ[i]? = some (some (.val d))) : mPeek i ρ = .ok d ρ := by unfold mPeek; rw [h]
theorem peek_ow (h : ρ[i]? = some (some (.own io0 d))) : mPeek i ρ = .ok d ρ := by unfold mPeek; rw [h]
theorem pure_ok {a : α} : mPure a ρ = .ok a ρ := rfl
theorem lit_ok {k : Nat} : mPure (Dt.int (OfNat.ofNat k : Int)) ρ = .ok (nD (OfNat.ofNat k)) ρ := rfl
theorem chain_ge {ma mb mc : Mi Dt} {ρ : En} {x y z : Nat} (ha : ma ρ = .ok (nD x) ρ) (hb : mb ρ = .ok (nD y) ρ) (hc : mc ρ = .ok (nD z) ρ) : mB (mChain fGe fGe ma mb mc) ρ = .ok (decide (y ≤ x) && decide (z ≤ y)) ρ := by
  refine tb_ok ?_
  refine bind_ok ha (bind_ok hb ?_)
  rw [ge_nat]
  by_cases h : y ≤ x
  · rw [decide_eq_true h]
    refine bind_ok (a := .bl true) (ρ1 := ρ) rfl ?_
    rw [Bool.true_and]
    refine bind_ok hc ?_
    rw [ge_nat]; rfl
  · rw [decide_eq_false h]
    exact bind_ok (a := .bl false) (ρ1 := ρ) rfl rfl
theorem chain_ge_t {ma mb mc : Mi Dt} {x y z : Nat} (ha : ma ρ = .ok (nD x) ρ) (hb : mb ρ = .ok (nD y) ρ) (hc : mc ρ = .ok (nD z) ρ) (h1 : y ≤ x) (h2 : z ≤ y) : mB (mChain fGe fGe ma mb mc) ρ = .ok true ρ := by
  rw [chain_ge ha hb hc, decide_eq_true h1, decide_eq_true h2]; rfl
theorem chainT {ma mb mc : Mi Dt} {x y z : Nat} (ha : ma ρ = .ok (nD x) ρ) (hb : mb ρ = .ok (nD y) ρ) (hc : mc ρ = .ok (nD z) ρ) (h1 : x ≤ y) (h2 : y < z) : mB (mChain fLe fLt ma mb mc) ρ = .ok true ρ := by
  rw [chain_nat ha hb hc, decide_eq_true h1, decide_eq_true h2]; rfl
theorem callQ' (h : ms ρ = .ok ds ρ1) (hn : ds.length = n) (hf : f ds = .ret d r) : mCall n f ms ρ = .ok d ρ1 := call_ok h hn hf
theorem methQ {c : Nat} {S : Dt} (hm : m ρ = .ok S ρ1) (h : ms ρ1 = .ok ds ρ2) (hn : ds.length + 1 = n) (hf : f (S :: ds) = .ret d r) (hS : ∃ vs, S = .ins c vs) : mMeth c n f m ms ρ = .ok d ρ2 := by
  obtain ⟨vs, rfl⟩ := hS
  exact meth_ok hm h hn hf
theorem callJ {io1 : Bool} (h0 : ρ[i]? = some (some (.own io0 x))) (h : ms ρ = .ok ds ρ1) (h1 : ρ1[i]? = some (some (.own io1 y))) (hn : ds.length + 1 = n) (hf : f (y :: ds) = .ret d r) : mCallIo n f i ms ρ = .ok d (ρ1.set i (some (.own io1 r))) := callIo_ok h0 h h1 hn hf rfl
theorem not_f (h : c ρ = .ok true ρ1) : mNot c ρ = .ok false ρ1 := not_ok h
theorem not_t (h : c ρ = .ok false ρ1) : mNot c ρ = .ok true ρ1 := not_ok h
theorem ixv' {s : Sl} (h1 : ρ[i]? = some (some s)) (h2 : m ρ = .ok y ρ) (h3 : mPeek i ρ = .ok d ρ) (h4 : fIx d y = some z) : hasSl i (mIxV i m) ρ = .ok z ρ := ixv h1 h2 h3 h4
theorem pars2_ok (h : ms ρ = .ok [x, y] ρ1) (k1 : setSl i (.val x) ρ1 = some ρ2) (k2 : setSl j (.val y) ρ2 = some ρ3) : sPars [i, j] [false, false] ms ρ = .nx ρ3 := pars_ok h (by show (setSl i (.val x) ρ1).bind _ = _; rw [k1]; show (setSl j (.val y) ρ2).bind _ = _; rw [k2]; rfl)
theorem lt_f (h : ¬ a < b) : fLt (nD a) (nD b) = some (.bl false) := by rw [fLt_nat, decide_eq_false h]
theorem lt_t (h : a < b) : fLt (nD a) (nD b) = some (.bl true) := by rw [fLt_nat, decide_eq_true h]
theorem le_f (h : ¬ a ≤ b) : fLe (nD a) (nD b) = some (.bl false) := by rw [fLe_nat, decide_eq_false h]
theorem le_t (h : a ≤ b) : fLe (nD a) (nD b) = some (.bl true) := by rw [fLe_nat, decide_eq_true h]
theorem gt_f (h : ¬ b < a) : fGt (nD a) (nD b) = some (.bl false) := by rw [gt_nat, decide_eq_false h]
theorem gt_t (h : b < a) : fGt (nD a) (nD b) = some (.bl true) := by rw [gt_nat, decide_eq_true h]
theorem ge_f (h : ¬ b ≤ a) : fGe (nD a) (nD b) = some (.bl false) := by rw [ge_nat, decide_eq_false h]
theorem ge_t (h : b ≤ a) : fGe (nD a) (nD b) = some (.bl true) := by rw [ge_nat, decide_eq_true h]
theorem eq_f (h : ¬ a = b) : fEq (nD a) (nD b) = some (.bl false) := by rw [feq_nat, decide_eq_false h]
theorem eq_t (h : a = b) : fEq (nD a) (nD b) = some (.bl true) := by rw [feq_nat, decide_eq_true h]
theorem ne_f (h : a = b) : fNe (nD a) (nD b) = some (.bl false) := by rw [fne_nat, decide_eq_true h]; rfl
theorem ne_t (h : ¬ a = b) : fNe (nD a) (nD b) = some (.bl true) := by rw [fne_nat, decide_eq_false h]; rfl
theorem flt_tup_nats {k : Nat} (l : List Nat) : Flt (k + 1) (.tup (l.map nD)) := .tup (flt_nats l)
theorem flt_lst_nats {k : Nat} (l : List Nat) : Flt (k + 1) (.lst (l.map nD)) := .lst (flt_nats l)
theorem flt_side {k : Nat} (l : List Nat) : Flt k (sideO l) := by
  unfold sideO
  split
  · exact .int _
  · exact .non
theorem seq_ct {s t : En → So} {ρ ρ' : En} (h : s ρ = .ct ρ') : sSeq s t ρ = .ct ρ' := by unfold sSeq; rw [h]
theorem sl_dq {ρ : En} {i : Nat} {q : Option Dq} {t : Sl} (h : ρ[i]? = some (oDq q)) : setSl i t ρ = some (ρ.set i (some t)) := by unfold setSl; rw [h]; cases q <;> rfl
/-- a turn of a loop runs through, and leaves what is asked -/
def Run (s : En → So) (ρ : En) (I : En → Prop) : Prop := ∃ ρ', (s ρ = .nx ρ' ∨ s ρ = .ct ρ') ∧ I ρ'
section
variable {s t : En → So} {I : En → Prop} {c : Mi Bool} {ρ ρ1 : En}
theorem run_seq (h : s ρ = .nx ρ1) (k : Run t ρ1 I) : Run (sSeq s t) ρ I := by
  obtain ⟨ρ', h1, h2⟩ := k
  exact ⟨ρ', h1.imp (fun z => seq_nx h z) (fun z => seq_nx h z), h2⟩
theorem run_end (h : s ρ = .nx ρ1) (k : I ρ1) : Run s ρ I := ⟨ρ1, .inl h, k⟩
theorem run_ct (h : s ρ = .ct ρ1) (k : I ρ1) : Run (sSeq s t) ρ I := ⟨ρ1, .inr (seq_ct h), k⟩
theorem run_eif (h : c ρ = .ok false ρ) (k : I ρ) : Run (sIf c s (fun ρ => .nx ρ)) ρ I := run_end (if_f h rfl) k
end
end
end Dl
namespace Dl
open PySem PySem.Spec PyProof.Rows L2
variable {p : Nat} {rs : List Rw} {D b : Nat} {K : List Lk} {most : Nat}
def cellM (k : Nat) (ns : List Int) : Nat := max 1 (min k ns.length)
theorem cellsM_ok {k : Nat} (hk : k < 100) {ns : List Int} {ρ : En} (h : ρ[0]? = some (vl (.scr ns))) : mRng1 (mCons (m2 fMax2 (mPure (.int 1)) (m2 fMin2 (mPure (.int k)) (m1 fLen (mPeek 0)))) (mPure [])) ρ = .ok ((List.range (cellM k ns)).map nD) ρ := by
  refine rngN_ok (cons_ok (m2_ok rfl (m2_ok rfl (m1_ok (x := .scr ns) (z := nD ns.length) ?_ rfl) rfl) ?_) rfl) (by unfold cellM; omega)
  · unfold mPeek; rw [h]
  · show some (Dt.int _) = some (Dt.int _)
    congr 2
    unfold cellM
    show (if (if (ns.length : Int) < k then (ns.length : Int) else k) > 1 then (if (ns.length : Int) < k then (ns.length : Int) else k) else 1) = _
    split <;> split <;> omega
/-! ### the lots that a look leaves -/
end Dl
namespace Dl
open PySem PySem.Spec PyProof.Rows L2
variable {p : Nat} {rs : List Rw} {D b : Nat} {K : List Lk} {most : Nat}
local macro_rules | `(tactic| array_mem_dec) => `(tactic| first
  | with_reducible assumption
  | with_reducible exact fAdd_nat _ _
  | with_reducible exact fMul_nat _ _ (by omega)
  | with_reducible exact fSub_nat (by first | assumption | omega)
  | with_reducible exact lt_f (by first | assumption | omega)
  | with_reducible exact lt_t (by first | assumption | omega)
  | with_reducible exact le_f (by first | assumption | omega)
  | with_reducible exact le_t (by first | assumption | omega)
  | with_reducible exact gt_f (by first | assumption | omega)
  | with_reducible exact gt_t (by first | assumption | omega)
  | with_reducible exact ge_f (by first | assumption | omega)
  | with_reducible exact ge_t (by first | assumption | omega)
  | with_reducible exact eq_f (by first | assumption | omega)
  | with_reducible exact eq_t (by first | assumption | omega)
  | with_reducible exact ne_f (by first | assumption | omega)
  | with_reducible exact ne_t (by first | assumption | omega)
  | with_reducible exact feq_nat _ _
  | with_reducible exact fne_nat _ _
  | with_reducible exact fLt_nat _ _
  | with_reducible exact fLe_nat _ _
  | with_reducible exact gt_nat _ _
  | with_reducible exact ge_nat _ _
  | with_reducible exact len_lst _ _
  | with_reducible exact len_tup _ _
  | with_reducible exact fne_self (k := 2) (by first | assumption | exact .int _ | exact .bl _ | exact .non | exact flt_tup_nats _ | exact flt_lst_nats _ | exact flt_side _ | exact flt_str _) (by decide)
  | with_reducible exact feq_self (k := 2) (by first | assumption | exact .int _ | exact .bl _ | exact .non | exact flt_tup_nats _ | exact flt_lst_nats _ | exact flt_side _ | exact flt_str _) (by decide)
  | rfl)
local macro_rules | `(tactic| array_get_dec) => `(tactic| first
  | ((with_reducible apply var_ok); rfl)
  | ((with_reducible apply peek_ok); rfl)
  | ((with_reducible apply peek_ow); rfl)
  | with_reducible exact lit_ok
  | with_reducible exact pure_ok
  | ((with_reducible apply cons_ok); array_get_dec; array_get_dec)
  | ((with_reducible apply callQ'); array_get_dec; rfl; with_reducible assumption)
  | ((with_reducible apply methQ); array_get_dec; array_get_dec; rfl; (with_reducible assumption); exact ⟨_, rfl⟩)
  | ((with_reducible apply callJ); rfl; array_get_dec; rfl; rfl; with_reducible assumption)
  | ((with_reducible apply m2_ok); array_get_dec; array_get_dec; array_mem_dec)
  | ((with_reducible apply m1_ok); array_get_dec; array_mem_dec)
  | ((with_reducible apply m1N_ok); array_get_dec; array_mem_dec)
  | ((with_reducible apply tup_ok); array_get_dec; exact sl_le (by simp))
  | ((with_reducible apply lst_ok); array_get_dec; exact sl_le (by simp))
  | ((with_reducible apply chain_ge_t); array_get_dec; array_get_dec; array_get_dec; omega; omega)
  | ((with_reducible apply chainT); array_get_dec; array_get_dec; array_get_dec; omega; omega)
  | ((with_reducible apply tb_ok); array_get_dec)
  | ((with_reducible apply not_f); array_get_dec)
  | ((with_reducible apply not_t); array_get_dec)
  | ((with_reducible apply not_ok); array_get_dec)
  | ((with_reducible apply and_t); array_get_dec; array_get_dec)
  | ((with_reducible apply and_f); array_get_dec)
  | ((with_reducible apply or_f); array_get_dec; array_get_dec)
  | ((with_reducible apply or_t); array_get_dec)
  | ((with_reducible apply ixv'); rfl; array_get_dec; rfl; array_mem_dec)
  | with_reducible assumption)
local macro_rules | `(tactic| decreasing_trivial) => `(tactic| first
  | ((with_reducible apply sl_lv); rfl)
  | ((with_reducible apply sl_vl); rfl)
  | ((with_reducible apply sl_no); rfl)
  | ((with_reducible apply sl_ow); rfl)
  | ((with_reducible apply sl_dq); rfl))
local macro_rules | `(tactic| get_elem_tactic_extensible) => `(tactic| first
  | ((with_reducible apply set_ok); array_get_dec; decreasing_trivial)
  | ((with_reducible apply setN_ok); array_get_dec; decreasing_trivial)
  | ((with_reducible apply pars2_ok); array_get_dec; decreasing_trivial; decreasing_trivial)
  | ((with_reducible apply drop_ok); array_get_dec)
  | ((with_reducible apply if_f (t := fun ρ => So.nx ρ)); array_get_dec; rfl)
  | ((with_reducible apply if_f); array_get_dec; rfl))
/-! ### dicts of pairs by a comprehension -/
/-! ### how long a wheel lay: all cases -/
end Dl
namespace Dl
open PySem PySem.Spec PyProof.Rows L2
variable {p : Nat} {rs : List Rw} {D b : Nat} {K : List Lk} {most : Nat}
local macro_rules | `(tactic| array_mem_dec) => `(tactic| first
  | with_reducible assumption
  | with_reducible exact fAdd_nat _ _
  | with_reducible exact fMul_nat _ _ (by omega)
  | with_reducible exact fSub_nat (by first | assumption | omega)
  | with_reducible exact lt_f (by first | assumption | omega)
  | with_reducible exact lt_t (by first | assumption | omega)
  | with_reducible exact le_f (by first | assumption | omega)
  | with_reducible exact le_t (by first | assumption | omega)
  | with_reducible exact gt_f (by first | assumption | omega)
  | with_reducible exact gt_t (by first | assumption | omega)
  | with_reducible exact ge_f (by first | assumption | omega)
  | with_reducible exact ge_t (by first | assumption | omega)
  | with_reducible exact eq_f (by first | assumption | omega)
  | with_reducible exact eq_t (by first | assumption | omega)
  | with_reducible exact ne_f (by first | assumption | omega)
  | with_reducible exact ne_t (by first | assumption | omega)
  | with_reducible exact feq_nat _ _
  | with_reducible exact fne_nat _ _
  | with_reducible exact fLt_nat _ _
  | with_reducible exact fLe_nat _ _
  | with_reducible exact gt_nat _ _
  | with_reducible exact ge_nat _ _
  | with_reducible exact len_lst _ _
  | with_reducible exact len_tup _ _
  | with_reducible exact fne_self (k := 2) (by first | assumption | exact .int _ | exact .bl _ | exact .non | exact flt_tup_nats _ | exact flt_lst_nats _ | exact flt_side _ | exact flt_str _) (by decide)
  | with_reducible exact feq_self (k := 2) (by first | assumption | exact .int _ | exact .bl _ | exact .non | exact flt_tup_nats _ | exact flt_lst_nats _ | exact flt_side _ | exact flt_str _) (by decide)
  | rfl)
local macro_rules | `(tactic| array_get_dec) => `(tactic| first
  | ((with_reducible apply var_ok); rfl)
  | ((with_reducible apply peek_ok); rfl)
  | ((with_reducible apply peek_ow); rfl)
  | with_reducible exact lit_ok
  | with_reducible exact pure_ok
  | ((with_reducible apply cons_ok); array_get_dec; array_get_dec)
  | ((with_reducible apply callQ'); array_get_dec; rfl; with_reducible assumption)
  | ((with_reducible apply methQ); array_get_dec; array_get_dec; rfl; (with_reducible assumption); exact ⟨_, rfl⟩)
  | ((with_reducible apply callJ); rfl; array_get_dec; rfl; rfl; with_reducible assumption)
  | ((with_reducible apply m2_ok); array_get_dec; array_get_dec; array_mem_dec)
  | ((with_reducible apply m1_ok); array_get_dec; array_mem_dec)
  | ((with_reducible apply m1N_ok); array_get_dec; array_mem_dec)
  | ((with_reducible apply tup_ok); array_get_dec; exact sl_le (by simp))
  | ((with_reducible apply lst_ok); array_get_dec; exact sl_le (by simp))
  | ((with_reducible apply chain_ge_t); array_get_dec; array_get_dec; array_get_dec; omega; omega)
  | ((with_reducible apply chainT); array_get_dec; array_get_dec; array_get_dec; omega; omega)
  | ((with_reducible apply tb_ok); array_get_dec)
  | ((with_reducible apply not_f); array_get_dec)
  | ((with_reducible apply not_t); array_get_dec)
  | ((with_reducible apply not_ok); array_get_dec)
  | ((with_reducible apply and_t); array_get_dec; array_get_dec)
  | ((with_reducible apply and_f); array_get_dec)
  | ((with_reducible apply or_f); array_get_dec; array_get_dec)
  | ((with_reducible apply or_t); array_get_dec)
  | ((with_reducible apply ixv'); rfl; array_get_dec; rfl; array_mem_dec)
  | with_reducible assumption)
local macro_rules | `(tactic| decreasing_trivial) => `(tactic| first
  | ((with_reducible apply sl_lv); rfl)
  | ((with_reducible apply sl_vl); rfl)
  | ((with_reducible apply sl_no); rfl)
  | ((with_reducible apply sl_ow); rfl)
  | ((with_reducible apply sl_dq); rfl))
local macro_rules | `(tactic| get_elem_tactic_extensible) => `(tactic| first
  | ((with_reducible apply set_ok); array_get_dec; decreasing_trivial)
  | ((with_reducible apply setN_ok); array_get_dec; decreasing_trivial)
  | ((with_reducible apply pars2_ok); array_get_dec; decreasing_trivial; decreasing_trivial)
  | ((with_reducible apply drop_ok); array_get_dec)
  | ((with_reducible apply if_f (t := fun ρ => So.nx ρ)); array_get_dec; rfl)
  | ((with_reducible apply if_f); array_get_dec; rfl))
/-! ### the longest case -/
end Dl
namespace Dl
open PySem PySem.Spec PyProof.Rows L2
variable {p : Nat} {rs : List Rw} {D b : Nat} {K : List Lk} {most : Nat}
local macro_rules | `(tactic| array_mem_dec) => `(tactic| first
  | with_reducible assumption
  | with_reducible exact fAdd_nat _ _
  | with_reducible exact fMul_nat _ _ (by omega)
  | with_reducible exact fSub_nat (by first | assumption | omega)
  | with_reducible exact lt_f (by first | assumption | omega)
  | with_reducible exact lt_t (by first | assumption | omega)
  | with_reducible exact le_f (by first | assumption | omega)
  | with_reducible exact le_t (by first | assumption | omega)
  | with_reducible exact gt_f (by first | assumption | omega)
  | with_reducible exact gt_t (by first | assumption | omega)
  | with_reducible exact ge_f (by first | assumption | omega)
  | with_reducible exact ge_t (by first | assumption | omega)
  | with_reducible exact eq_f (by first | assumption | omega)
  | with_reducible exact eq_t (by first | assumption | omega)
  | with_reducible exact ne_f (by first | assumption | omega)
  | with_reducible exact ne_t (by first | assumption | omega)
  | with_reducible exact feq_nat _ _
  | with_reducible exact fne_nat _ _
  | with_reducible exact fLt_nat _ _
  | with_reducible exact fLe_nat _ _
  | with_reducible exact gt_nat _ _
  | with_reducible exact ge_nat _ _
  | with_reducible exact len_lst _ _
  | with_reducible exact len_tup _ _
  | with_reducible exact fne_self (k := 2) (by first | assumption | exact .int _ | exact .bl _ | exact .non | exact flt_tup_nats _ | exact flt_lst_nats _ | exact flt_side _ | exact flt_str _) (by decide)
  | with_reducible exact feq_self (k := 2) (by first | assumption | exact .int _ | exact .bl _ | exact .non | exact flt_tup_nats _ | exact flt_lst_nats _ | exact flt_side _ | exact flt_str _) (by decide)
  | rfl)
local macro_rules | `(tactic| array_get_dec) => `(tactic| first
  | ((with_reducible apply var_ok); rfl)
  | ((with_reducible apply peek_ok); rfl)
  | ((with_reducible apply peek_ow); rfl)
  | with_reducible exact lit_ok
  | with_reducible exact pure_ok
  | ((with_reducible apply cons_ok); array_get_dec; array_get_dec)
  | ((with_reducible apply callQ'); array_get_dec; rfl; with_reducible assumption)
  | ((with_reducible apply methQ); array_get_dec; array_get_dec; rfl; (with_reducible assumption); exact ⟨_, rfl⟩)
  | ((with_reducible apply callJ); rfl; array_get_dec; rfl; rfl; with_reducible assumption)
  | ((with_reducible apply m2_ok); array_get_dec; array_get_dec; array_mem_dec)
  | ((with_reducible apply m1_ok); array_get_dec; array_mem_dec)
  | ((with_reducible apply m1N_ok); array_get_dec; array_mem_dec)
  | ((with_reducible apply tup_ok); array_get_dec; exact sl_le (by simp))
  | ((with_reducible apply lst_ok); array_get_dec; exact sl_le (by simp))
  | ((with_reducible apply chain_ge_t); array_get_dec; array_get_dec; array_get_dec; omega; omega)
  | ((with_reducible apply chainT); array_get_dec; array_get_dec; array_get_dec; omega; omega)
  | ((with_reducible apply tb_ok); array_get_dec)
  | ((with_reducible apply not_f); array_get_dec)
  | ((with_reducible apply not_t); array_get_dec)
  | ((with_reducible apply not_ok); array_get_dec)
  | ((with_reducible apply and_t); array_get_dec; array_get_dec)
  | ((with_reducible apply and_f); array_get_dec)
  | ((with_reducible apply or_f); array_get_dec; array_get_dec)
  | ((with_reducible apply or_t); array_get_dec)
  | ((with_reducible apply ixv'); rfl; array_get_dec; rfl; array_mem_dec)
  | with_reducible assumption)
local macro_rules | `(tactic| decreasing_trivial) => `(tactic| first
  | ((with_reducible apply sl_lv); rfl)
  | ((with_reducible apply sl_vl); rfl)
  | ((with_reducible apply sl_no); rfl)
  | ((with_reducible apply sl_ow); rfl)
  | ((with_reducible apply sl_dq); rfl))
local macro_rules | `(tactic| get_elem_tactic_extensible) => `(tactic| first
  | ((with_reducible apply set_ok); array_get_dec; decreasing_trivial)
  | ((with_reducible apply setN_ok); array_get_dec; decreasing_trivial)
  | ((with_reducible apply pars2_ok); array_get_dec; decreasing_trivial; decreasing_trivial)
  | ((with_reducible apply drop_ok); array_get_dec)
  | ((with_reducible apply if_f (t := fun ρ => So.nx ρ)); array_get_dec; rfl)
  | ((with_reducible apply if_f); array_get_dec; rfl))
end Dl
namespace Dl
open PySem PySem.Spec PyProof.Rows L2
variable {p : Nat} {rs : List Rw} {D b : Nat} {K : List Lk} {most : Nat}
local macro_rules | `(tactic| array_mem_dec) => `(tactic| first
  | with_reducible assumption
  | with_reducible exact fAdd_nat _ _
  | with_reducible exact fMul_nat _ _ (by omega)
  | with_reducible exact fSub_nat (by first | assumption | omega)
  | with_reducible exact lt_f (by first | assumption | omega)
  | with_reducible exact lt_t (by first | assumption | omega)
  | with_reducible exact le_f (by first | assumption | omega)
  | with_reducible exact le_t (by first | assumption | omega)
  | with_reducible exact gt_f (by first | assumption | omega)
  | with_reducible exact gt_t (by first | assumption | omega)
  | with_reducible exact ge_f (by first | assumption | omega)
  | with_reducible exact ge_t (by first | assumption | omega)
  | with_reducible exact eq_f (by first | assumption | omega)
  | with_reducible exact eq_t (by first | assumption | omega)
  | with_reducible exact ne_f (by first | assumption | omega)
  | with_reducible exact ne_t (by first | assumption | omega)
  | with_reducible exact feq_nat _ _
  | with_reducible exact fne_nat _ _
  | with_reducible exact fLt_nat _ _
  | with_reducible exact fLe_nat _ _
  | with_reducible exact gt_nat _ _
  | with_reducible exact ge_nat _ _
  | with_reducible exact len_lst _ _
  | with_reducible exact len_tup _ _
  | ((with_reducible apply fne_self (k := 2)); (first | with_reducible assumption | exact .int _ | exact .bl _ | exact .non | exact flt_tup_nats _ | exact flt_lst_nats _ | exact flt_side _ | exact flt_str _ | exact no_flt _ | exact .tup (flt_prs _) | exact .lst (flt_prs _)); decide)
  | ((with_reducible apply feq_self (k := 2)); (first | with_reducible assumption | exact .int _ | exact .bl _ | exact .non | exact flt_tup_nats _ | exact flt_lst_nats _ | exact flt_side _ | exact flt_str _ | exact no_flt _ | exact .tup (flt_prs _) | exact .lst (flt_prs _)); decide)
  | rfl)
local macro_rules | `(tactic| array_get_dec) => `(tactic| first
  | ((with_reducible apply var_ok); rfl)
  | ((with_reducible apply peek_ok); rfl)
  | ((with_reducible apply peek_ow); rfl)
  | with_reducible exact lit_ok
  | with_reducible exact pure_ok
  | ((with_reducible apply cons_ok); array_get_dec; array_get_dec)
  | ((with_reducible apply callQ'); array_get_dec; rfl; with_reducible assumption)
  | ((with_reducible apply methQ); array_get_dec; array_get_dec; rfl; (with_reducible assumption); exact ⟨_, rfl⟩)
  | ((with_reducible apply callJ); rfl; array_get_dec; rfl; rfl; with_reducible assumption)
  | ((with_reducible apply m2_ok); array_get_dec; array_get_dec; array_mem_dec)
  | ((with_reducible apply m1_ok); array_get_dec; array_mem_dec)
  | ((with_reducible apply m1N_ok); array_get_dec; array_mem_dec)
  | ((with_reducible apply tup_ok); array_get_dec; exact sl_le (by simp))
  | ((with_reducible apply lst_ok); array_get_dec; exact sl_le (by simp))
  | ((with_reducible apply chain_ge_t); array_get_dec; array_get_dec; array_get_dec; omega; omega)
  | ((with_reducible apply chainT); array_get_dec; array_get_dec; array_get_dec; omega; omega)
  | ((with_reducible apply tb_ok); array_get_dec)
  | ((with_reducible apply not_f); array_get_dec)
  | ((with_reducible apply not_t); array_get_dec)
  | ((with_reducible apply not_ok); array_get_dec)
  | ((with_reducible apply and_t); array_get_dec; array_get_dec)
  | ((with_reducible apply and_f); array_get_dec)
  | ((with_reducible apply or_f); array_get_dec; array_get_dec)
  | ((with_reducible apply or_t); array_get_dec)
  | ((with_reducible apply ixv'); rfl; array_get_dec; rfl; array_mem_dec)
  | with_reducible assumption)
local macro_rules | `(tactic| decreasing_trivial) => `(tactic| first
  | ((with_reducible apply sl_lv); rfl)
  | ((with_reducible apply sl_vl); rfl)
  | ((with_reducible apply sl_no); rfl)
  | ((with_reducible apply sl_ow); rfl)
  | ((with_reducible apply sl_dq); rfl))
local macro_rules | `(tactic| get_elem_tactic_extensible) => `(tactic| first
  | ((with_reducible apply set_ok); array_get_dec; decreasing_trivial)
  | ((with_reducible apply setN_ok); array_get_dec; decreasing_trivial)
  | ((with_reducible apply pars2_ok); array_get_dec; decreasing_trivial; decreasing_trivial)
  | ((with_reducible apply drop_ok); array_get_dec)
  | ((with_reducible apply if_f (t := fun ρ => So.nx ρ)); array_get_dec; rfl)
  | ((with_reducible apply if_f); array_get_dec; rfl))
/-! ### the fewest misses with some missed and some made -/
end Dl
namespace Dl
open PySem PySem.Spec PyProof.Rows L2
variable {p : Nat} {rs : List Rw} {D b : Nat} {K L : List Lk} {most : Nat}
local macro_rules | `(tactic| array_mem_dec) => `(tactic| first
  | with_reducible assumption
  | with_reducible exact fAdd_nat _ _
  | with_reducible exact fMul_nat _ _ (by omega)
  | with_reducible exact fSub_nat (by first | assumption | omega)
  | with_reducible exact lt_f (by first | assumption | omega)
  | with_reducible exact lt_t (by first | assumption | omega)
  | with_reducible exact le_f (by first | assumption | omega)
  | with_reducible exact le_t (by first | assumption | omega)
  | with_reducible exact gt_f (by first | assumption | omega)
  | with_reducible exact gt_t (by first | assumption | omega)
  | with_reducible exact ge_f (by first | assumption | omega)
  | with_reducible exact ge_t (by first | assumption | omega)
  | with_reducible exact eq_f (by first | assumption | omega)
  | with_reducible exact eq_t (by first | assumption | omega)
  | with_reducible exact ne_f (by first | assumption | omega)
  | with_reducible exact ne_t (by first | assumption | omega)
  | with_reducible exact feq_nat _ _
  | with_reducible exact fne_nat _ _
  | with_reducible exact fLt_nat _ _
  | with_reducible exact fLe_nat _ _
  | with_reducible exact gt_nat _ _
  | with_reducible exact ge_nat _ _
  | with_reducible exact len_lst _ _
  | with_reducible exact len_tup _ _
  | ((with_reducible apply fne_self (k := 2)); (first | with_reducible assumption | exact .int _ | exact .bl _ | exact .non | exact flt_tup_nats _ | exact flt_lst_nats _ | exact flt_side _ | exact flt_str _ | exact no_flt _ | exact .tup (flt_prs _) | exact .lst (flt_prs _)); decide)
  | ((with_reducible apply feq_self (k := 2)); (first | with_reducible assumption | exact .int _ | exact .bl _ | exact .non | exact flt_tup_nats _ | exact flt_lst_nats _ | exact flt_side _ | exact flt_str _ | exact no_flt _ | exact .tup (flt_prs _) | exact .lst (flt_prs _)); decide)
  | rfl)
local macro_rules | `(tactic| array_get_dec) => `(tactic| first
  | ((with_reducible apply var_ok); rfl)
  | ((with_reducible apply peek_ok); rfl)
  | ((with_reducible apply peek_ow); rfl)
  | with_reducible exact lit_ok
  | with_reducible exact pure_ok
  | ((with_reducible apply cons_ok); array_get_dec; array_get_dec)
  | ((with_reducible apply callQ'); array_get_dec; rfl; with_reducible assumption)
  | ((with_reducible apply methQ); array_get_dec; array_get_dec; rfl; (with_reducible assumption); exact ⟨_, rfl⟩)
  | ((with_reducible apply callJ); rfl; array_get_dec; rfl; rfl; with_reducible assumption)
  | ((with_reducible apply m2_ok); array_get_dec; array_get_dec; array_mem_dec)
  | ((with_reducible apply m1_ok); array_get_dec; array_mem_dec)
  | ((with_reducible apply m1N_ok); array_get_dec; array_mem_dec)
  | ((with_reducible apply tup_ok); array_get_dec; exact sl_le (by simp))
  | ((with_reducible apply lst_ok); array_get_dec; exact sl_le (by simp))
  | ((with_reducible apply chain_ge_t); array_get_dec; array_get_dec; array_get_dec; omega; omega)
  | ((with_reducible apply chainT); array_get_dec; array_get_dec; array_get_dec; omega; omega)
  | ((with_reducible apply tb_ok); array_get_dec)
  | ((with_reducible apply not_f); array_get_dec)
  | ((with_reducible apply not_t); array_get_dec)
  | ((with_reducible apply not_ok); array_get_dec)
  | ((with_reducible apply and_t); array_get_dec; array_get_dec)
  | ((with_reducible apply and_f); array_get_dec)
  | ((with_reducible apply or_f); array_get_dec; array_get_dec)
  | ((with_reducible apply or_t); array_get_dec)
  | ((with_reducible apply ixv'); rfl; array_get_dec; rfl; array_mem_dec)
  | with_reducible assumption)
local macro_rules | `(tactic| decreasing_trivial) => `(tactic| first
  | ((with_reducible apply sl_lv); rfl)
  | ((with_reducible apply sl_vl); rfl)
  | ((with_reducible apply sl_no); rfl)
  | ((with_reducible apply sl_ow); rfl)
  | ((with_reducible apply sl_dq); rfl))
local macro_rules | `(tactic| get_elem_tactic_extensible) => `(tactic| first
  | ((with_reducible apply set_ok); array_get_dec; decreasing_trivial)
  | ((with_reducible apply setN_ok); array_get_dec; decreasing_trivial)
  | ((with_reducible apply pars2_ok); array_get_dec; decreasing_trivial; decreasing_trivial)
  | ((with_reducible apply drop_ok); array_get_dec)
  | ((with_reducible apply if_f (t := fun ρ => So.nx ρ)); array_get_dec; rfl)
  | ((with_reducible apply if_f); array_get_dec; rfl))
end Dl
namespace Dl
open PySem PySem.Spec PyProof.Rows L2
variable {p : Nat} {rs : List Rw} {D b : Nat} {K L : List Lk} {most : Nat}
/-! ### lots among others -/
theorem dEq_emb {α : Type} [DecidableEq α] (emb : α → Dt) (pe : α → PyData) (h1 : ∀ a, toPy (emb a) = some (pe a)) (h2 : ∀ a b, PyData.eqv (pe a) (pe b) = decide (a = b)) (h3 : ∀ a, Flt 5 (emb a)) (a c : α) : dEq (emb a) (emb c) = some (decide (a = c)) := by
  obtain ⟨pa, hpa⟩ := (h3 a).py
  have ea : pa = pe a := by have h4 := hpa.e; rw [h1] at h4; exact (Option.some.inj h4).symm
  obtain ⟨pc, hpc⟩ := (h3 c).py
  have ec : pc = pe c := by have h4 := hpc.e; rw [h1] at h4; exact (Option.some.inj h4).symm
  unfold dEq
  rw [h1, h1]; dsimp only
  rw [← ea, ← ec, hpa.shaped (by omega), hpc.shaped (by omega), Bool.and_self, if_pos rfl, ea, ec, h2]
theorem feq_emb {α : Type} [DecidableEq α] (emb : α → Dt) (pe : α → PyData) (h1 : ∀ a, toPy (emb a) = some (pe a)) (h2 : ∀ a b, PyData.eqv (pe a) (pe b) = decide (a = b)) (h3 : ∀ a, Flt 5 (emb a)) (a c : α) : fEq (emb a) (emb c) = some (.bl (decide (a = c))) := by unfold fEq; rw [dEq_emb emb pe h1 h2 h3]; rfl
theorem eqvAll_emb {α : Type} [DecidableEq α] (pe : α → PyData) (h2 : ∀ a b, PyData.eqv (pe a) (pe b) = decide (a = b)) : ∀ l m : List α, PyData.eqvAll (l.map pe) (m.map pe) = decide (l = m)
  | [], [] => by simp [PyData.eqvAll]
  | [], _ :: _ => by simp [PyData.eqvAll]
  | _ :: _, [] => by simp [PyData.eqvAll]
  | x :: l, y :: m => by
    rw [List.map_cons, List.map_cons]
    unfold PyData.eqvAll
    rw [h2, eqvAll_emb pe h2 l m, Bool.eq_iff_iff]
    simp
/-! ### chains -/
theorem chain_le {ma mb mc : Mi Dt} {ρ : En} {x y z : Nat} (ha : ma ρ = .ok (nD x) ρ) (hb : mb ρ = .ok (nD y) ρ) (hc : mc ρ = .ok (nD z) ρ) (h1 : x ≤ y) (h2 : y ≤ z) : mB (mChain fLe fLe ma mb mc) ρ = .ok true ρ := by
  refine tb_ok ?_
  refine bind_ok ha (bind_ok hb ?_)
  rw [fLe_nat, decide_eq_true h1]
  refine bind_ok (a := .bl true) (ρ1 := ρ) rfl ?_
  refine bind_ok hc ?_
  rw [fLe_nat, decide_eq_true h2]; rfl
/-! ### the greatest one of some numbers, step by step -/
end Dl
namespace Dl
open PySem PySem.Spec PyProof.Rows L2
variable {p : Nat} {rs : List Rw} {D b : Nat} {K L : List Lk} {most : Nat}
local macro_rules | `(tactic| array_mem_dec) => `(tactic| first
  | with_reducible assumption
  | with_reducible exact fAdd_nat _ _
  | with_reducible exact fMul_nat _ _ (by omega)
  | with_reducible exact fSub_nat (by first | assumption | omega)
  | with_reducible exact lt_f (by first | assumption | omega)
  | with_reducible exact lt_t (by first | assumption | omega)
  | with_reducible exact le_f (by first | assumption | omega)
  | with_reducible exact le_t (by first | assumption | omega)
  | with_reducible exact gt_f (by first | assumption | omega)
  | with_reducible exact gt_t (by first | assumption | omega)
  | with_reducible exact ge_f (by first | assumption | omega)
  | with_reducible exact ge_t (by first | assumption | omega)
  | with_reducible exact eq_f (by first | assumption | omega)
  | with_reducible exact eq_t (by first | assumption | omega)
  | with_reducible exact ne_f (by first | assumption | omega)
  | with_reducible exact ne_t (by first | assumption | omega)
  | with_reducible exact feq_nat _ _
  | with_reducible exact fne_nat _ _
  | with_reducible exact fLt_nat _ _
  | with_reducible exact fLe_nat _ _
  | with_reducible exact gt_nat _ _
  | with_reducible exact ge_nat _ _
  | with_reducible exact len_lst _ _
  | with_reducible exact len_tup _ _
  | ((with_reducible apply fne_self (k := 2)); (first | with_reducible assumption | exact .int _ | exact .bl _ | exact .non | exact flt_tup_nats _ | exact flt_lst_nats _ | exact flt_side _ | exact flt_str _ | exact no_flt _ | exact .tup (flt_prs _) | exact .lst (flt_prs _)); decide)
  | ((with_reducible apply feq_self (k := 2)); (first | with_reducible assumption | exact .int _ | exact .bl _ | exact .non | exact flt_tup_nats _ | exact flt_lst_nats _ | exact flt_side _ | exact flt_str _ | exact no_flt _ | exact .tup (flt_prs _) | exact .lst (flt_prs _)); decide)
  | rfl)
local macro_rules | `(tactic| array_get_dec) => `(tactic| first
  | ((with_reducible apply var_ok); rfl)
  | ((with_reducible apply peek_ok); rfl)
  | ((with_reducible apply peek_ow); rfl)
  | with_reducible exact lit_ok
  | with_reducible exact pure_ok
  | ((with_reducible apply cons_ok); array_get_dec; array_get_dec)
  | ((with_reducible apply callQ'); array_get_dec; rfl; with_reducible assumption)
  | ((with_reducible apply methQ); array_get_dec; array_get_dec; rfl; (with_reducible assumption); exact ⟨_, rfl⟩)
  | ((with_reducible apply callJ); rfl; array_get_dec; rfl; rfl; with_reducible assumption)
  | ((with_reducible apply m2_ok); array_get_dec; array_get_dec; array_mem_dec)
  | ((with_reducible apply m1_ok); array_get_dec; array_mem_dec)
  | ((with_reducible apply m1N_ok); array_get_dec; array_mem_dec)
  | ((with_reducible apply tup_ok); array_get_dec; exact sl_le (by simp))
  | ((with_reducible apply lst_ok); array_get_dec; exact sl_le (by simp))
  | ((with_reducible apply chain_ge_t); array_get_dec; array_get_dec; array_get_dec; omega; omega)
  | ((with_reducible apply chain_le); array_get_dec; array_get_dec; array_get_dec; omega; omega)
  | ((with_reducible apply chainT); array_get_dec; array_get_dec; array_get_dec; omega; omega)
  | ((with_reducible apply tb_ok); array_get_dec)
  | ((with_reducible apply not_f); array_get_dec)
  | ((with_reducible apply not_t); array_get_dec)
  | ((with_reducible apply not_ok); array_get_dec)
  | ((with_reducible apply and_t); array_get_dec; array_get_dec)
  | ((with_reducible apply and_f); array_get_dec)
  | ((with_reducible apply or_f); array_get_dec; array_get_dec)
  | ((with_reducible apply or_t); array_get_dec)
  | ((with_reducible apply ixv'); rfl; array_get_dec; rfl; array_mem_dec)
  | with_reducible assumption)
local macro_rules | `(tactic| decreasing_trivial) => `(tactic| first
  | ((with_reducible apply sl_lv); rfl)
  | ((with_reducible apply sl_vl); rfl)
  | ((with_reducible apply sl_no); rfl)
  | ((with_reducible apply sl_ow); rfl)
  | ((with_reducible apply sl_dq); rfl))
local macro_rules | `(tactic| get_elem_tactic_extensible) => `(tactic| first
  | ((with_reducible apply set_ok); array_get_dec; decreasing_trivial)
  | ((with_reducible apply setN_ok); array_get_dec; decreasing_trivial)
  | ((with_reducible apply pars2_ok); array_get_dec; decreasing_trivial; decreasing_trivial)
  | ((with_reducible apply drop_ok); array_get_dec)
  | ((with_reducible apply if_f (t := fun ρ => So.nx ρ)); array_get_dec; rfl)
  | ((with_reducible apply if_f); array_get_dec; rfl))
/-! ### lots by their numbers -/
/-! ### the walk -/
end Dl
namespace Dl
open PySem PySem.Spec PyProof.Rows L2
variable {p : Nat} {rs : List Rw} {D b : Nat} {K L : List Lk} {most : Nat}
local macro_rules | `(tactic| array_mem_dec) => `(tactic| first
  | with_reducible assumption
  | with_reducible exact fAdd_nat _ _
  | with_reducible exact fMul_nat _ _ (by omega)
  | with_reducible exact fSub_nat (by first | assumption | omega)
  | with_reducible exact lt_f (by first | assumption | omega)
  | with_reducible exact lt_t (by first | assumption | omega)
  | with_reducible exact le_f (by first | assumption | omega)
  | with_reducible exact le_t (by first | assumption | omega)
  | with_reducible exact gt_f (by first | assumption | omega)
  | with_reducible exact gt_t (by first | assumption | omega)
  | with_reducible exact ge_f (by first | assumption | omega)
  | with_reducible exact ge_t (by first | assumption | omega)
  | with_reducible exact eq_f (by first | assumption | omega)
  | with_reducible exact eq_t (by first | assumption | omega)
  | with_reducible exact ne_f (by first | assumption | omega)
  | with_reducible exact ne_t (by first | assumption | omega)
  | with_reducible exact feq_nat _ _
  | with_reducible exact fne_nat _ _
  | with_reducible exact fLt_nat _ _
  | with_reducible exact fLe_nat _ _
  | with_reducible exact gt_nat _ _
  | with_reducible exact ge_nat _ _
  | with_reducible exact len_lst _ _
  | with_reducible exact len_tup _ _
  | ((with_reducible apply fne_self (k := 2)); (first | with_reducible assumption | exact .int _ | exact .bl _ | exact .non | exact flt_tup_nats _ | exact flt_lst_nats _ | exact flt_side _ | exact flt_str _ | exact no_flt _ | exact .tup (flt_prs _) | exact .lst (flt_prs _)); decide)
  | ((with_reducible apply feq_self (k := 2)); (first | with_reducible assumption | exact .int _ | exact .bl _ | exact .non | exact flt_tup_nats _ | exact flt_lst_nats _ | exact flt_side _ | exact flt_str _ | exact no_flt _ | exact .tup (flt_prs _) | exact .lst (flt_prs _)); decide)
  | rfl)
local macro_rules | `(tactic| array_get_dec) => `(tactic| first
  | ((with_reducible apply var_ok); rfl)
  | ((with_reducible apply peek_ok); rfl)
  | ((with_reducible apply peek_ow); rfl)
  | with_reducible exact lit_ok
  | with_reducible exact pure_ok
  | ((with_reducible apply cons_ok); array_get_dec; array_get_dec)
  | ((with_reducible apply callQ'); array_get_dec; rfl; with_reducible assumption)
  | ((with_reducible apply methQ); array_get_dec; array_get_dec; rfl; (with_reducible assumption); exact ⟨_, rfl⟩)
  | ((with_reducible apply callJ); rfl; array_get_dec; rfl; rfl; with_reducible assumption)
  | ((with_reducible apply m2_ok); array_get_dec; array_get_dec; array_mem_dec)
  | ((with_reducible apply m1_ok); array_get_dec; array_mem_dec)
  | ((with_reducible apply m1N_ok); array_get_dec; array_mem_dec)
  | ((with_reducible apply tup_ok); array_get_dec; exact sl_le (by simp))
  | ((with_reducible apply lst_ok); array_get_dec; exact sl_le (by simp))
  | ((with_reducible apply chain_ge_t); array_get_dec; array_get_dec; array_get_dec; omega; omega)
  | ((with_reducible apply chain_le); array_get_dec; array_get_dec; array_get_dec; omega; omega)
  | ((with_reducible apply chainT); array_get_dec; array_get_dec; array_get_dec; omega; omega)
  | ((with_reducible apply tb_ok); array_get_dec)
  | ((with_reducible apply not_f); array_get_dec)
  | ((with_reducible apply not_t); array_get_dec)
  | ((with_reducible apply not_ok); array_get_dec)
  | ((with_reducible apply and_t); array_get_dec; array_get_dec)
  | ((with_reducible apply and_f); array_get_dec)
  | ((with_reducible apply or_f); array_get_dec; array_get_dec)
  | ((with_reducible apply or_t); array_get_dec)
  | ((with_reducible apply ixv'); rfl; array_get_dec; rfl; array_mem_dec)
  | with_reducible assumption)
local macro_rules | `(tactic| decreasing_trivial) => `(tactic| first
  | ((with_reducible apply sl_lv); rfl)
  | ((with_reducible apply sl_vl); rfl)
  | ((with_reducible apply sl_no); rfl)
  | ((with_reducible apply sl_ow); rfl)
  | ((with_reducible apply sl_dq); rfl))
local macro_rules | `(tactic| get_elem_tactic_extensible) => `(tactic| first
  | ((with_reducible apply set_ok); array_get_dec; decreasing_trivial)
  | ((with_reducible apply setN_ok); array_get_dec; decreasing_trivial)
  | ((with_reducible apply pars2_ok); array_get_dec; decreasing_trivial; decreasing_trivial)
  | ((with_reducible apply drop_ok); array_get_dec)
  | ((with_reducible apply if_f (t := fun ρ => So.nx ρ)); array_get_dec; rfl)
  | ((with_reducible apply if_f); array_get_dec; rfl))
end Dl
namespace Dl
open PySem PySem.Spec PyProof.Rows L2
variable {p : Nat} {rs : List Rw} {D b : Nat} {K L : List Lk} {most : Nat}
local macro_rules | `(tactic| array_mem_dec) => `(tactic| first
  | with_reducible assumption
  | with_reducible exact fAdd_nat _ _
  | with_reducible exact fMul_nat _ _ (by omega)
  | with_reducible exact fSub_nat (by first | assumption | omega)
  | with_reducible exact lt_f (by first | assumption | omega)
  | with_reducible exact lt_t (by first | assumption | omega)
  | with_reducible exact le_f (by first | assumption | omega)
  | with_reducible exact le_t (by first | assumption | omega)
  | with_reducible exact gt_f (by first | assumption | omega)
  | with_reducible exact gt_t (by first | assumption | omega)
  | with_reducible exact ge_f (by first | assumption | omega)
  | with_reducible exact ge_t (by first | assumption | omega)
  | with_reducible exact eq_f (by first | assumption | omega)
  | with_reducible exact eq_t (by first | assumption | omega)
  | with_reducible exact ne_f (by first | assumption | omega)
  | with_reducible exact ne_t (by first | assumption | omega)
  | with_reducible exact feq_nat _ _
  | with_reducible exact fne_nat _ _
  | with_reducible exact fLt_nat _ _
  | with_reducible exact fLe_nat _ _
  | with_reducible exact gt_nat _ _
  | with_reducible exact ge_nat _ _
  | with_reducible exact len_lst _ _
  | with_reducible exact len_tup _ _
  | ((with_reducible apply fne_self (k := 2)); (first | with_reducible assumption | exact .int _ | exact .bl _ | exact .non | exact flt_tup_nats _ | exact flt_lst_nats _ | exact flt_side _ | exact flt_str _ | exact no_flt _ | exact .tup (flt_prs _) | exact .lst (flt_prs _)); decide)
  | ((with_reducible apply feq_self (k := 2)); (first | with_reducible assumption | exact .int _ | exact .bl _ | exact .non | exact flt_tup_nats _ | exact flt_lst_nats _ | exact flt_side _ | exact flt_str _ | exact no_flt _ | exact .tup (flt_prs _) | exact .lst (flt_prs _)); decide)
  | rfl)
local macro_rules | `(tactic| array_get_dec) => `(tactic| first
  | ((with_reducible apply var_ok); rfl)
  | ((with_reducible apply peek_ok); rfl)
  | ((with_reducible apply peek_ow); rfl)
  | with_reducible exact lit_ok
  | with_reducible exact pure_ok
  | ((with_reducible apply cons_ok); array_get_dec; array_get_dec)
  | ((with_reducible apply callQ'); array_get_dec; rfl; with_reducible assumption)
  | ((with_reducible apply methQ); array_get_dec; array_get_dec; rfl; (with_reducible assumption); exact ⟨_, rfl⟩)
  | ((with_reducible apply callJ); rfl; array_get_dec; rfl; rfl; with_reducible assumption)
  | ((with_reducible apply m2_ok); array_get_dec; array_get_dec; array_mem_dec)
  | ((with_reducible apply m1_ok); array_get_dec; array_mem_dec)
  | ((with_reducible apply m1N_ok); array_get_dec; array_mem_dec)
  | ((with_reducible apply tup_ok); array_get_dec; exact sl_le (by simp))
  | ((with_reducible apply lst_ok); array_get_dec; exact sl_le (by simp))
  | ((with_reducible apply chain_ge_t); array_get_dec; array_get_dec; array_get_dec; omega; omega)
  | ((with_reducible apply chain_le); array_get_dec; array_get_dec; array_get_dec; omega; omega)
  | ((with_reducible apply chainT); array_get_dec; array_get_dec; array_get_dec; omega; omega)
  | ((with_reducible apply tb_ok); array_get_dec)
  | ((with_reducible apply not_f); array_get_dec)
  | ((with_reducible apply not_t); array_get_dec)
  | ((with_reducible apply not_ok); array_get_dec)
  | ((with_reducible apply and_t); array_get_dec; array_get_dec)
  | ((with_reducible apply and_f); array_get_dec)
  | ((with_reducible apply or_f); array_get_dec; array_get_dec)
  | ((with_reducible apply or_t); array_get_dec)
  | ((with_reducible apply ixv'); rfl; array_get_dec; rfl; array_mem_dec)
  | with_reducible assumption)
local macro_rules | `(tactic| decreasing_trivial) => `(tactic| first
  | ((with_reducible apply sl_lv); rfl)
  | ((with_reducible apply sl_vl); rfl)
  | ((with_reducible apply sl_no); rfl)
  | ((with_reducible apply sl_ow); rfl)
  | ((with_reducible apply sl_dq); rfl))
local macro_rules | `(tactic| get_elem_tactic_extensible) => `(tactic| first
  | ((with_reducible apply set_ok); array_get_dec; decreasing_trivial)
  | ((with_reducible apply setN_ok); array_get_dec; decreasing_trivial)
  | ((with_reducible apply pars2_ok); array_get_dec; decreasing_trivial; decreasing_trivial)
  | ((with_reducible apply drop_ok); array_get_dec)
  | ((with_reducible apply if_f (t := fun ρ => So.nx ρ)); array_get_dec; rfl)
  | ((with_reducible apply if_f); array_get_dec; rfl))
/-! ### small drawn seasons -/
structure Sml (p : Nat) (rs : List Rw) (D b : Nat) (K : List Lk) : Prop where
  good : Good p rs
  p0 : 0 < p
  p3 : p ≤ 3
  l4 : rs.length ≤ 4
  D0 : 0 < D
  D9 : D ≤ 9
  b9 : b ≤ 20
  hK : ∀ x ∈ K, GoodLk p D x
  k4 : K.length ≤ 4
  due : (dueP p rs D).length ≤ 10
theorem Sml.sn (h : Sml p rs D b K) : Sn p (srt rs) D b K := by
  have := h.p3
  have := h.l4
  have := h.D9
  have := h.b9
  have := h.k4
  exact ⟨h.good.srt, by rw [srt_len]; omega, by omega, h.D0, by omega, by omega, h.hK, by omega⟩
def smlD (p : Nat) (rs : List Rw) (D b : Nat) (K : List Lk) : Dt := .tup [toldD p rs, nD D, nD b, .lst (K.map lkD), .lst ((dueP p rs D).map prD)]
abbrev Bq := Int × Int × Int
def sE (q : Bq) (m p : Nat) (rs : List Rw) (D : Nat) : En := [io (bxD q), vl (nD m), vl (toldD p rs), vl (nD D), vl (.lst ((dueP p rs D).map prD)), none, none]
theorem small_wh (hG : Good p rs) (hl : rs.length ≤ 4) (hp : p ≤ 3) (q : Bq) (m : Nat) : ∀ (n D : Nat), 0 < D → D ≤ 9 → D < n → ∃ D', 0 < D' ∧ D' ≤ 9 ∧ (dueP p rs D').length ≤ 10 ∧ whGo (mB (m2 fGt (m1 fLen (mPeek 4)) (mPure (.int 10)))) (sSeq (sSet 3 (m2 fSub (mVar 3) (mPure (.int 1))))
  (sSet 4 (m2 fIx (mCall 2 m_law_days (mCons (mVar 2) (mCons (mVar 3) (mPure [])))) (mPure (.int 1))))) n (sE q m p rs D) = .nx (sE q m p rs D')
  | 0, D, _, _, h => by omega
  | n + 1, D, h0, h9, hn => by
    have t1 : mB (m2 fGt (m1 fLen (mPeek 4)) (mPure (.int 10))) (sE q m p rs D) = .ok (decide (10 < (dueP p rs D).length)) (sE q m p rs D) := tb_ok (m2_ok (x := nD (dueP p rs D).length) (y := nD 10) (m1_ok (x := .lst ((dueP p rs D).map prD)) rfl (len_lst prD _)) rfl (gt_nat _ _))
    by_cases hc : 10 < (dueP p rs D).length
    · rw [decide_eq_true hc] at t1
      have hD1 : 1 < D := by
        rcases Nat.lt_or_ge 1 D with z | z
        · exact z
        · have := dueP_len (p := p) (rs := rs) D
          have : D * p ≤ 1 * 3 := Nat.mul_le_mul z hp
          omega
      obtain ⟨D', a1, a2, a3, a4⟩ := small_wh hG hl hp q m n (D - 1) (by omega) (by omega) (by omega)
      have e := days_ok hG (by omega) (by omega) (D - 1) (by omega)
      refine ⟨D', a1, a2, a3, wh_t t1 (ρ2 := sE q m p rs (D - 1)) (seq_nx (ρ' := [io (bxD q), vl (nD m), vl (toldD p rs), vl (nD (D - 1)), vl (.lst ((dueP p rs D).map prD)), none, none]) (set_ok (ρ1 := sE q m p rs D) (m2_ok (x := nD D) (y := nD 1) rfl rfl (fSub_nat (by omega))) rfl) (set_ok (ρ1 := [io (bxD q), vl (nD m), vl (toldD p rs), vl (nD (D - 1)), vl (.lst ((dueP p rs D).map prD)), none, none]) (m2_ok (callP e rfl rfl) rfl rfl) rfl)) a4⟩
    · rw [decide_eq_false hc] at t1
      exact ⟨D, h0, h9, by omega, wh_f t1⟩
theorem small_any (q : Bq) (m : Nat) (hm : m ≤ 8) : ∃ (p : Nat) (rs : List Rw) (D b : Nat) (K : List Lk) (q' : Bq), Sml p rs D b K ∧ b ≤ m + 1 ∧ m_law_season [bxD q, nD m] = .ret (smlD p rs D b K) (bxD q') := by
  obtain ⟨p, rs, q1, p0, p3, r0, r4, hg, e1⟩ := rota_any q 3 4 (by decide) (by decide) (by decide) (by decide)
  have hG : Good p rs := ⟨r0, hg⟩
  obtain ⟨d, q2, hd, e2⟩ := take_nat q1 9 (by decide) (by decide)
  have e3 := days_ok hG (by omega) (by omega) (1 + d) (by omega)
  obtain ⟨D, D0, D9, hdl, hw⟩ := small_wh hG r4 p3 q2 m 1000 (1 + d) (by omega) (by omega) (by omega)
  obtain ⟨M, q3, hM, hMl, e4⟩ := law_missed_any (rs := rs) (D := D) q2 (by omega : p < 100) (by omega) m (by omega)
  obtain ⟨K, q4, hK, hKl, e5⟩ := law_looks_any (rs := rs) (D := D) q3 p0 (by omega : p < 100) (by omega) (c := false) M
  obtain ⟨b, q5, hb, e6⟩ := take_nat q4 (m + 2) (by omega) (by omega)
  refine ⟨p, rs, D, b, K, q5, ⟨hG, p0, p3, r4, D0, D9, by omega, hK, hKl, hdl⟩, by omega, ?_⟩
  let U : Dt := .lst ((dueP p rs D).map prD)
  have body : b_law_season ([io (bxD q), vl (nD m)] ++ List.replicate 5 none) = .rt (smlD p rs D b K) [io (bxD q5), vl (nD m), vl (toldD p rs), vl (nD D), vl U, vl (.lst (M.map prD)), vl (.lst (K.map lkD))] := by
    unfold b_law_season
    refine seq_nx (ρ' := [io (bxD q1), vl (nD m), vl (toldD p rs), none, none, none, none]) (set_ok (ρ1 := [io (bxD q1), vl (nD m), none, none, none, none, none]) (callIo_ok (io0 := true) (d0 := bxD q) (io := true) (d1 := bxD q) (ds := [nD 3, nD 4]) rfl rfl rfl rfl e1 rfl) rfl) ?_
    refine seq_nx (ρ' := [io (bxD q2), vl (nD m), vl (toldD p rs), vl (nD (1 + d)), none, none, none]) (set_ok (ρ1 := [io (bxD q2), vl (nD m), vl (toldD p rs), none, none, none, none]) (m2_ok (x := nD 1) (y := nD d) (ρ1 := [io (bxD q1), vl (nD m), vl (toldD p rs), none, none, none, none]) rfl (callIo_ok (io0 := true) (d0 := bxD q1) (io := true) (d1 := bxD q1) (ds := [nD 9]) rfl rfl rfl rfl e2 rfl) (fAdd_nat 1 d)) rfl) ?_
    refine seq_nx (ρ' := sE q2 m p rs (1 + d)) (set_ok (ρ1 := [io (bxD q2), vl (nD m), vl (toldD p rs), vl (nD (1 + d)), none, none, none]) (m2_ok (callP e3 rfl rfl) rfl rfl) rfl) ?_
    refine seq_nx hw ?_
    refine seq_nx (ρ' := [io (bxD q3), vl (nD m), vl (toldD p rs), vl (nD D), vl U, vl (.lst (M.map prD)), none]) (set_ok (ρ1 := [io (bxD q3), vl (nD m), vl (toldD p rs), vl (nD D), vl U, none, none]) (callIo_ok (io0 := true) (d0 := bxD q2) (io := true) (d1 := bxD q2) (ds := [U, nD m]) rfl rfl rfl rfl e4 rfl) rfl) ?_
    refine seq_nx (ρ' := [io (bxD q4), vl (nD m), vl (toldD p rs), vl (nD D), vl U, vl (.lst (M.map prD)), vl (.lst (K.map lkD))]) (set_ok (ρ1 := [io (bxD q4), vl (nD m), vl (toldD p rs), vl (nD D), vl U, vl (.lst (M.map prD)), none]) (callIo_ok (io0 := true) (d0 := bxD q3) (io := true) (d1 := bxD q3) (ds := [nD p, nD D, U, .lst (M.map prD)]) rfl rfl rfl rfl e5 rfl) rfl) ?_
    refine ret_ok (tup_ok (ds := [toldD p rs, nD D, nD b, .lst (K.map lkD), U]) (cons_ok (ρ1 := [io (bxD q4), vl (nD m), vl (toldD p rs), vl (nD D), vl U, vl (.lst (M.map prD)), vl (.lst (K.map lkD))]) rfl (cons_ok (ρ1 := [io (bxD q4), vl (nD m), vl (toldD p rs), vl (nD D), vl U, vl (.lst (M.map prD)), vl (.lst (K.map lkD))]) rfl (cons_ok (callIo_ok (io0 := true) (d0 := bxD q4) (io := true) (d1 := bxD q4) (ds := [nD (m + 2)]) rfl (cons_ok (m2_ok (x := nD m) (y := nD 2) rfl rfl (fAdd_nat m 2)) rfl) rfl rfl e6 rfl) rfl))) (sl_le (by simp)))
  exact runF_rt body rfl
theorem of_ok (h : Sml p rs D b K) : m_law_of [smlD p rs D b K] = .ret (snD p (srt rs) D b K) .non := by
  have := h.p3
  have := h.l4
  have := h.D9
  have := h.k4
  have e1 := made_ok p rs h.p0 (by omega) h.good.n0 (by omega) h.good.row
  have e2 := season_init (b := b) h.good.srt (by rw [srt_len]; omega) (by omega : p < 100) h.D0 (by omega : D < 1000) (c := false) h.hK (by omega)
  exact runF_rt (ρ := [vl (smlD p rs D b K)]) (ret_ok (make_ok (ds := [rotaD p (srt rs), nD D, nD b, .lst (K.map lkD)]) (cons_ok (callP e1 (cons_ok (ixv' rfl rfl rfl rfl) rfl) rfl) (cons_ok (ixv' rfl rfl rfl rfl) (cons_ok (ixv' rfl rfl rfl rfl) (cons_ok (ixv' rfl rfl rfl rfl) rfl)))) rfl e2)) rfl
theorem sl_bo {ρ : En} {i : Nat} {q : Option Bq} {t : Sl} (h : ρ[i]? = some (bo q)) : setSl i t ρ = some (ρ.set i (some t)) := by unfold setSl; rw [h]; cases q <;> rfl
end Dl
namespace Dl
open PySem PySem.Spec PyProof.Rows L2
variable {p : Nat} {rs : List Rw} {D b : Nat} {K L : List Lk} {most : Nat}
/-! ### stretches, one behind the other -/
/-! ### odd stretches -/
def isT (o : Option Bool) : Bool := decide (o = some true)
/-! ### lots and stretches -/
end Dl
namespace Dl
open PySem PySem.Spec PyProof.Rows L2
variable {p : Nat} {rs : List Rw} {D b : Nat} {K L : List Lk} {most : Nat}
/-! ### sorted numbers and pairs; more misses lie no shorter -/
theorem Sn.bare (h : Sn p rs D b K) : Sn p rs D b [] := ⟨h.good, h.rl, h.hp, h.D0, h.hD, h.hb, (fun _ z => by cases z), by simp⟩
end Dl
namespace Dl
open PySem PySem.Spec PyProof.Rows L2
variable {p : Nat} {rs : List Rw}
/-! ### texts joined -/
/-! ### a list of texts is empty or not -/
/-! ### the law's own text of a rota -/
/-! ### texts that can be compared -/
def sOk (s : Str) : Prop := PyData.canLay0 (.str s) = true
theorem sOk_of (s : String) : sOk (Str.ofString s) := strOk_of s
theorem sOk_app {a b : Str} (ha : sOk a) (hb : sOk b) : sOk (a ++ b) := by
  unfold sOk at *
  simp only [PyData.canLay0, PyData.strOk] at *
  rw [Str.cps_append, Array.all_append, ha, hb]; rfl
theorem sOk_empty : sOk Str.empty := by
  unfold sOk
  simp [PyData.canLay0, PyData.strOk, Str.empty]
theorem sOk_join {sep : Str} (hs : sOk sep) : ∀ {ys : List Str}, (∀ y ∈ ys, sOk y) → sOk (Str.join sep ys)
  | [], _ => sOk_empty
  | [x], h => h x (by simp)
  | x :: y :: r, h => by
    show sOk (x ++ sep ++ Str.join sep (y :: r))
    exact sOk_app (sOk_app (h x (by simp)) hs) (sOk_join hs fun z hz => h z (by simp at hz ⊢; exact .inr hz))
theorem sOk_words (l : List Nat) : sOk (wordsS l) := by
  unfold wordsS
  rw [TL.join_eq]
  refine sOk_join (sOk_of " ") fun y hy => ?_
  obtain ⟨n, _, rfl⟩ := List.mem_map.mp hy
  exact sOk_of _
theorem sOk_line {acc : Str} (h : sOk acc) (r : Rw) : sOk (lineS acc r) := by
  unfold lineS
  refine sOk_app (sOk_app (sOk_app (sOk_app (sOk_app sOk_empty h) (sOk_of _)) ?_) (sOk_of _)) (sOk_words _)
  unfold spotS
  split
  · exact sOk_words _
  · exact sOk_of _
theorem sOk_fold : ∀ (rs : List Rw) {acc : Str}, sOk acc → sOk (rs.foldl lineS acc)
  | [], _, h => h
  | r :: rs, _, h => sOk_fold rs (sOk_line h r)
theorem sOk_txt (p : Nat) (rs : List Rw) : sOk (txtS p rs) := sOk_fold rs (sOk_app (sOk_app sOk_empty (sOk_of _)) (sOk_of _))
theorem flt_txt {k : Nat} (p : Nat) (rs : List Rw) : Flt k (.str (txtS p rs)) := .str (sOk_txt p rs)
end Dl
namespace Dl
open PySem PySem.Spec PyProof.Rows L2
variable {p : Nat} {rs : List Rw} {D b : Nat} {K L : List Lk} {most : Nat}
/-! ### seasons that are alike -/
theorem rota_eq_self (p : Nat) (rs : List Rw) : m_Rota_eq [rotaD p rs, rotaD p rs] = .ret (.bl true) .non := by
  refine runF_rt (ρ := [vl (rotaD p rs), vl (rotaD p rs)]) ?_ rfl
  unfold b_Rota_eq
  exact ret_ok (andV_t (m1_ok (x := rotaD p rs) rfl rfl) (m2_ok (x := .str (txtS p rs)) (y := .str (txtS p rs)) (m1_ok (x := rotaD p rs) rfl rfl) (m1_ok (x := rotaD p rs) rfl rfl) (feq_self (k := 0) (flt_txt p rs) (by decide))))
def lksP (L : List Lk) : PyData := .tuple (L.map lkP)
theorem lks_py (L : List Lk) : toPy (.tup (L.map lkD)) = some (lksP L) := by
  show (toPys (L.map lkD)).map PyData.tuple = _
  rw [toPys_emb lkD lkP lk_py]; rfl
theorem lks_eqv (a b : List Lk) : PyData.eqv (lksP a) (lksP b) = decide (a = b) := by
  unfold lksP PyData.eqv
  exact eqvAll_emb lkP lk_eqv a b
theorem feq_lks (a c : List Lk) : fEq (.tup (a.map lkD)) (.tup (c.map lkD)) = some (.bl (decide (a = c))) := feq_emb (fun l : List Lk => .tup (l.map lkD)) lksP lks_py lks_eqv (fun l => .tup fun x hx => by
  obtain ⟨q, _, rfl⟩ := List.mem_map.mp hx
  exact .tup fun y hy => by
    rcases List.mem_cons.mp hy with rfl | hy
    · exact .int _
    rcases List.mem_cons.mp hy with rfl | hy
    · exact .int _
    rw [List.mem_singleton.mp hy]; exact .int _) a c
theorem season_eq_ok (p : Nat) (rs : List Rw) (D b c : Nat) (L L' : List Lk) : m_Season_eq [seasonD p rs D b L, seasonD p rs D c L'] = .ret (.bl (decide (b = c) && decide (L = L'))) .non := by
  refine runF_rt (ρ := [vl (seasonD p rs D b L), vl (seasonD p rs D c L')]) ?_ rfl
  unfold b_Season_eq
  refine seq_nx (ρ' := [vl (seasonD p rs D b L), vl (seasonD p rs D c L')]) (if_f (or_f (not_f (tb_ok (m1_ok (x := seasonD p rs D c L') rfl rfl))) (or_f (tb_ok (m2_ok (x := rotaD p rs) (y := rotaD p rs) (m1_ok (x := seasonD p rs D b L) rfl rfl) (m1_ok (x := seasonD p rs D c L') rfl rfl) ?_)) (tb_ok (m2_ok (x := nD D) (y := nD D) (m1_ok (x := seasonD p rs D b L) rfl rfl) (m1_ok (x := seasonD p rs D c L') rfl rfl) (ne_f rfl))))) rfl) (ret_ok ?_)
  · show (match m_Rota_eq [rotaD p rs, rotaD p rs] with | .ret (.bl r) _ => some (Dt.bl (r != true)) | _ => none) = _
    rw [rota_eq_self]; rfl
  · by_cases z : b = c
    · rw [decide_eq_true z, Bool.true_and]
      exact andV_t (m2_ok (x := nD b) (y := nD c) (m1_ok (x := seasonD p rs D b L) rfl rfl) (m1_ok (x := seasonD p rs D c L') rfl rfl) (eq_t z)) (m2_ok (x := .tup (L.map lkD)) (y := .tup (L'.map lkD)) (m1_ok (x := seasonD p rs D b L) rfl rfl) (m1_ok (x := seasonD p rs D c L') rfl rfl) (feq_lks L L'))
    · rw [decide_eq_false z, Bool.false_and]
      exact andV_f (m2_ok (x := nD b) (y := nD c) (m1_ok (x := seasonD p rs D b L) rfl rfl) (m1_ok (x := seasonD p rs D c L') rfl rfl) (eq_f z))
theorem fown_sn (neg : Bool) (p : Nat) (rs : List Rw) (D b c : Nat) (K K' : List Lk) : fOwnC 1 m_Season_eq neg (snD p rs D b K) (snD p rs D c K') = some (.bl ((decide (b = c) && decide (lksOf p D K = lksOf p D K')) != neg)) := by
  show (match m_Season_eq [seasonD p rs D b (lksOf p D K), seasonD p rs D c (lksOf p D K')] with | .ret (.bl r) _ => some (Dt.bl (r != neg)) | _ => none) = _
  rw [season_eq_ok]
end Dl
namespace Dl
open PySem PySem.Spec PyProof.Rows L2
/-! ### what is shown by repr() -/
inductive Shw : Nat → Nat → Dt → Prop
  | non {k n : Nat} (h : 4 ≤ n) : Shw k n .non
  | bl {k n : Nat} (b : Bool) (h : 5 ≤ n) : Shw k n (.bl b)
  | nat {k n : Nat} {m : Nat} (hm : m < 10 ^ 10) (h : 10 ≤ n) : Shw k n (nD m)
  | tup {k n c l : Nat} {xs : List Dt} (h : ∀ x ∈ xs, Shw k n x) (hl : xs.length ≤ l) (hc : (n + 2) * l + 3 ≤ c) : Shw (k + 1) c (.tup xs)
structure ShP (k n : Nat) (d : Dt) (p : PyData) : Prop where
  e : toPy d = some p
  sh : p.showable = true
  nd : p.hasDict = false
  dep : p.depth ≤ k
  len : p.shown.length ≤ n
  ok : PyData.strOk p.shown = true
theorem ok_of (s : String) : PyData.strOk (Str.ofString s) = true := by simpa [PyData.canLay0] using strOk_of s
theorem ok_app {a b : Str} (ha : PyData.strOk a = true) (hb : PyData.strOk b = true) : PyData.strOk (a ++ b) = true := by
  show (a.cps ++ b.cps).all _ = true
  rw [Array.all_append, Bool.and_eq_true]
  exact ⟨ha, hb⟩
theorem ok_join {s : Str} (hs : PyData.strOk s = true) : ∀ ts : List Str, (∀ t ∈ ts, PyData.strOk t = true) → PyData.strOk (Str.join s ts) = true
  | [], _ => ok_of ""
  | [t], h => h t (by simp)
  | t :: u :: ts, h => by
    show PyData.strOk (t ++ s ++ Str.join s (u :: ts)) = true
    exact ok_app (ok_app (h t (by simp)) hs) (ok_join hs (u :: ts) fun y hy => h y (by simp [hy]))
theorem shp_all {k n : Nat} : ∀ {xs : List Dt}, (∀ x ∈ xs, ∃ p, ShP k n x p) → ∃ ps, toPys xs = some ps ∧ PyData.showableAll ps = true ∧ PyData.hasDictAll ps = false ∧ PyData.depthAll ps ≤ k ∧ (PyData.shownAll ps).length = xs.length ∧ ∀ t ∈ PyData.shownAll ps, t.length ≤ n ∧ PyData.strOk t = true
  | [], _ => ⟨[], rfl, by simp [PyData.showableAll], by simp [PyData.hasDictAll], by simp [PyData.depthAll], by simp [PyData.shownAll], by simp [PyData.shownAll]⟩
  | x :: xs, h => by
    obtain ⟨p, h1⟩ := h x (by simp)
    obtain ⟨ps, h2, h3, h4, h5, h6, h7⟩ := shp_all (xs := xs) fun y hy => h y (by simp [hy])
    refine ⟨p :: ps, ?_, ?_, ?_, ?_, ?_, ?_⟩
    · unfold toPys; rw [h1.e, h2]
    · simp [PyData.showableAll, h1.sh, h3]
    · simp [PyData.hasDictAll, h1.nd, h4]
    · simp only [PyData.depthAll]; have := h1.dep; omega
    · simp [PyData.shownAll, h6]
    · intro t ht
      simp only [PyData.shownAll, List.mem_cons] at ht
      rcases ht with rfl | ht
      · exact ⟨h1.len, h1.ok⟩
      · exact h7 t ht
theorem piled_le {n : Nat} : ∀ (ts : List Str), (∀ t ∈ ts, t.length ≤ n) → piled ts ≤ (n + 2) * ts.length
  | [], _ => by simp [piled]
  | t :: ts, h => by
    have := piled_le ts fun y hy => h y (by simp [hy])
    have h1 := h t (by simp)
    unfold piled at this ⊢
    rw [List.map_cons, List.sum_cons, List.length_cons, Nat.mul_succ]
    omega
theorem tupText_le {n : Nat} {ts : List Str} (h : ∀ t ∈ ts, t.length ≤ n) : (tupleText ts).length ≤ (n + 2) * ts.length + 3 := by
  have hj : (Str.join ", " ts).length ≤ (n + 2) * ts.length := by
    cases ts with
    | nil => exact Nat.le_of_eq rfl
    | cons t r =>
      have := join_length_add (t :: r) (by simp)
      have := piled_le _ h
      omega
  unfold tupleText
  rw [strLen_append, strLen_append]
  have e1 : (("(" : String) : Str).length = 1 := rfl
  have e2 : ((if ts.length == 1 then ",)" else ")" : String) : Str).length ≤ 2 := by split <;> decide
  omega
theorem Shw.py {k n : Nat} {d : Dt} (h : Shw k n d) : ∃ p, ShP k n d p := by
  induction h with
  | non h => exact ⟨.none, rfl, by simp [PyData.showable], by simp [PyData.hasDict], by simp [PyData.depth], by simp only [PyData.shown]; exact h, by simp only [PyData.shown]; exact ok_of _⟩
  | bl b h => exact ⟨.bool b, rfl, by simp [PyData.showable], by simp [PyData.hasDict], by simp [PyData.depth], by simp only [PyData.shown]; cases b <;> exact Nat.le_trans (by decide) h, by simp only [PyData.shown]; cases b <;> exact ok_of _⟩
  | @nat k n m hm h =>
    refine ⟨.int (m : Int), rfl, ?_, by simp [PyData.hasDict], by simp [PyData.depth], ?_, by simp only [PyData.shown]; exact ok_of _⟩
    · simp only [PyData.showable, decide_eq_true_eq]
      have : (m : Int).natAbs.log2 ≤ 34 := by
        rw [Int.natAbs_natCast]
        by_cases z : m = 0
        · subst z; decide
        · exact Nat.le_of_lt_succ ((Nat.log2_lt z).mpr (Nat.lt_trans hm (by decide)))
      omega
    · simp only [PyData.shown]
      exact Nat.le_trans (toString_length_le (by omega) (k := 10) (by decide) (by exact_mod_cast hm)) h
  | @tup k n c l xs h hl hc ih =>
    obtain ⟨ps, h1, h2, h3, h4, h5, h6⟩ := shp_all ih
    refine ⟨.tuple ps, by unfold toPy; rw [h1]; rfl, by simpa [PyData.showable] using h2, by simpa [PyData.hasDict] using h3, by simp only [PyData.depth]; omega, ?_, ?_⟩
    rotate_left
    · simp only [PyData.shown]
      unfold tupleText
      exact ok_app (ok_app (ok_of _) (ok_join (ok_of _) _ fun t ht => (h6 t ht).2)) (ok_of _)
    simp only [PyData.shown]
    have := tupText_le fun t ht => (h6 t ht).1
    rw [h5] at this
    have := Nat.mul_le_mul_left (n + 2) hl
    omega
end Dl
namespace Dl
open PySem PySem.Spec PyProof.Rows L2
variable {p : Nat} {rs : List Rw} {D b : Nat} {K L : List Lk} {most : Nat}
/-! ### wheels by themselves -/
/-! ### one turning missed, or made -/
theorem cost_at {α : Type} {g g0 : α → Nat × Nat × Option Bool} : ∀ {A B : List α} {P : α} {k : Nat}, costL ((A ++ P :: B).map g0) = some k → (∀ y ∈ A, g y = g0 y) → (∀ y ∈ B, g y = g0 y) → ∃ k0, leadP (g0 P).1 (g0 P).2.1 (g0 P).2.2 = some k0 ∧ k0 ≤ k ∧ costL ((A ++ P :: B).map g) = (leadP (g P).1 (g P).2.1 (g P).2.2).map fun y => k - k0 + y
  | [], B, P, k, hc, _, hB => by
    rw [List.nil_append, List.map_cons] at hc ⊢
    rw [show B.map g = B.map g0 from List.map_congr_left hB]
    unfold costL at hc ⊢
    cases h0 : leadP (g0 P).1 (g0 P).2.1 (g0 P).2.2 with
    | none => rw [h0] at hc; cases hc
    | some k0 =>
      rw [h0] at hc
      cases hr : costL (B.map g0) with
      | none => rw [hr] at hc; cases hc
      | some kb =>
        rw [hr] at hc
        have hk : k0 + kb = k := Option.some.inj hc
        refine ⟨k0, rfl, by omega, ?_⟩
        cases leadP (g P).1 (g P).2.1 (g P).2.2 with
        | none => rfl
        | some y => show some (y + kb) = some (k - k0 + y); congr 1; omega
  | a :: A, B, P, k, hc, hA, hB => by
    rw [List.cons_append, List.map_cons] at hc ⊢
    unfold costL at hc ⊢
    rw [hA a (by simp)]
    cases h0 : leadP (g0 a).1 (g0 a).2.1 (g0 a).2.2 with
    | none => rw [h0] at hc; cases hc
    | some ka =>
      rw [h0] at hc
      cases hr : costL ((A ++ P :: B).map g0) with
      | none => rw [hr] at hc; cases hc
      | some kr =>
        rw [hr] at hc
        have hk : ka + kr = k := Option.some.inj hc
        obtain ⟨k0, i1, i2, i3⟩ := cost_at hr (fun y hy => hA y (by simp [hy])) hB
        refine ⟨k0, i1, by omega, ?_⟩
        dsimp only
        rw [i3]
        cases leadP (g P).1 (g P).2.1 (g P).2.2 with
        | none => rfl
        | some y => show some (ka + (kr - k0 + y)) = some (k - k0 + y); congr 1; omega
theorem an_m (h : Sn p rs D b K) {x : Pr} (hx : x ∈ dueP p rs D) : anM (fitL p rs D b K) x = canB (costL (numsOf (dueP p rs D) p D (lksOf p D K) [x] [])) b := by
  rw [can_w h (M := [x]) (N := []) (fun _ _ z => by cases z)]
  unfold wMN anM
  rw [pos_any, show okMN [x] [] (dueP p rs D) = fun M => decide (x ∈ M) from funext fun M => ok_m hx M]
theorem an_n (h : Sn p rs D b K) {x : Pr} (hx : x ∈ dueP p rs D) : anN (fitL p rs D b K) x = canB (costL (numsOf (dueP p rs D) p D (lksOf p D K) [] [x])) b := by
  rw [can_w h (M := []) (N := [x]) (fun _ z => by cases z)]
  unfold wMN anN
  rw [pos_any, show okMN [] [x] (dueP p rs D) = fun M => !decide (x ∈ M) from funext fun M => ok_n hx M]
/-- the numbers of parts, with one turning missed or made -/
theorem gone_one {l : List Pr} {x : Pr} (nd : l.Nodup) (hx : x ∈ l) : goneN [x] l = 1 := by
  unfold goneN
  rw [List.countP_eq_length_filter]
  have := filter_eq_one nd hx
  rw [← this]
  exact congrArg List.length (List.filter_congr fun y _ => Bool.eq_iff_iff.mpr (by simp))
theorem gone_none {l : List Pr} {x : Pr} (hx : x ∉ l) : goneN [x] l = 0 := by
  unfold goneN
  rw [List.countP_eq_zero]
  intro y hy z
  simp at z
  exact hx (z ▸ hy)
theorem gone_nil (l : List Pr) : goneN [] l = 0 := by unfold goneN; simp
theorem free_nil (l : List Pr) : freeN [] [] l = l.length := by unfold freeN; simp [List.countP_eq_length_filter]
theorem free_m (l : List Pr) (x : Pr) : freeN [x] [] l + goneN [x] l = l.length := by
  unfold freeN goneN
  induction l with
  | nil => rfl
  | cons a l ih =>
    rw [List.countP_cons, List.countP_cons, List.length_cons]
    by_cases h : a = x
    · simp [h] at ih ⊢; omega
    · simp [h] at ih ⊢; omega
theorem free_n (l : List Pr) (x : Pr) : freeN [] [x] l + goneN [x] l = l.length := by
  unfold freeN goneN
  induction l with
  | nil => rfl
  | cons a l ih =>
    rw [List.countP_cons, List.countP_cons, List.length_cons]
    by_cases h : a = x
    · simp [h] at ih ⊢; omega
    · simp [h] at ih ⊢; omega
theorem split_part {x : Pr} {P : Nat × Str3} {K : List Lk3} (hK : LooksOk p D K) {U : List Pr} (hP : P ∈ prts U p D K) (hq : qOf P x = true) : ∃ A B, prts U p D K = A ++ P :: B ∧ (∀ y ∈ A, x ∉ U.filter (qOf y)) ∧ (∀ y ∈ B, x ∉ U.filter (qOf y)) := by
  obtain ⟨A, B, e⟩ := List.append_of_mem hP
  have hp := prts_apart (U := U) hK
  rw [e, List.pairwise_append] at hp
  refine ⟨A, B, e, fun y hy hz => ?_, fun y hy hz => ?_⟩
  · exact hp.2.2 y hy P (by simp) x ⟨(List.mem_filter.mp hz).2, hq⟩
  · exact (List.pairwise_cons.mp hp.2.1).1 y hy x ⟨hq, (List.mem_filter.mp hz).2⟩
/-- with no budget to spare a turning is told by its stretch -/
theorem tight {k : Nat} (h : Sn p rs D k K) (hk : cstO p rs D K = some k) {x : Pr} {P : Nat × Str3} (hP : P ∈ prts (dueP p rs D) p D (lksOf p D K)) (hx : x ∈ (dueP p rs D).filter (qOf P)) : anM (fitL p rs D k K) x = isT P.2.2.2 ∧ (isT P.2.2.2 = true → anN (fitL p rs D k K) x = decide (1 < ((dueP p rs D).filter (qOf P)).length)) := by
  obtain ⟨hxU, hxq⟩ := List.mem_filter.mp hx
  obtain ⟨A, B, e, hA, hB⟩ := split_part (lks_ok (p := p) (D := D) K) hP hxq
  let U := dueP p rs D
  let g0 : Nat × Str3 → Nat × Nat × Option Bool := fun y => (goneN [] (U.filter (qOf y)), freeN [] [] (U.filter (qOf y)), y.2.2.2)
  let g1 : Nat × Str3 → Nat × Nat × Option Bool := fun y => (goneN [x] (U.filter (qOf y)), freeN [x] [] (U.filter (qOf y)), y.2.2.2)
  let g2 : Nat × Str3 → Nat × Nat × Option Bool := fun y => (goneN [] (U.filter (qOf y)), freeN [] [x] (U.filter (qOf y)), y.2.2.2)
  have s1 : ∀ y, x ∉ U.filter (qOf y) → g1 y = g0 y := fun y hy => by
    have a := gone_none hy
    have c := free_m (U.filter (qOf y)) x
    show (_, _, _) = (_, _, _)
    rw [a, gone_nil, free_nil, show freeN [x] [] (U.filter (qOf y)) = (U.filter (qOf y)).length by omega]
  have s2 : ∀ y, x ∉ U.filter (qOf y) → g2 y = g0 y := fun y hy => by
    have a := gone_none hy
    have c := free_n (U.filter (qOf y)) x
    show (_, _, _) = (_, _, _)
    rw [gone_nil, free_nil, show freeN [] [x] (U.filter (qOf y)) = (U.filter (qOf y)).length by omega]
  have hc : costL ((A ++ P :: B).map g0) = some k := by rw [← e]; exact hk
  obtain ⟨k0, i1, i2, i3⟩ := cost_at (g := g1) hc (fun y hy => s1 y (hA y hy)) (fun y hy => s1 y (hB y hy))
  obtain ⟨k0', j1, j2, j3⟩ := cost_at (g := g2) hc (fun y hy => s2 y (hA y hy)) (fun y hy => s2 y (hB y hy))
  have hg := gone_one ((dueP_nodup (p := p) (rs := rs) D).filter (qOf P)) hx
  have hfm := free_m ((dueP p rs D).filter (qOf P)) x
  have hfn := free_n ((dueP p rs D).filter (qOf P)) x
  have l0 : leadP (g0 P).1 (g0 P).2.1 (g0 P).2.2 = leadP 0 (U.filter (qOf P)).length P.2.2.2 := by show leadP (goneN [] _) (freeN [] [] _) _ = _; rw [gone_nil, free_nil]
  have l1 : leadP (g1 P).1 (g1 P).2.1 (g1 P).2.2 = leadP 1 ((U.filter (qOf P)).length - 1) P.2.2.2 := by
    show leadP (goneN [x] (U.filter (qOf P))) (freeN [x] [] (U.filter (qOf P))) _ = _
    rw [show goneN [x] (U.filter (qOf P)) = 1 from hg, show freeN [x] [] (U.filter (qOf P)) = (U.filter (qOf P)).length - 1 by show freeN [x] [] ((dueP p rs D).filter (qOf P)) = ((dueP p rs D).filter (qOf P)).length - 1; omega]
  have l2 : leadP (g2 P).1 (g2 P).2.1 (g2 P).2.2 = leadP 0 ((U.filter (qOf P)).length - 1) P.2.2.2 := by
    show leadP (goneN [] (U.filter (qOf P))) (freeN [] [x] (U.filter (qOf P))) _ = _
    rw [gone_nil, show freeN [] [x] (U.filter (qOf P)) = (U.filter (qOf P)).length - 1 by show freeN [] [x] ((dueP p rs D).filter (qOf P)) = ((dueP p rs D).filter (qOf P)).length - 1; omega]
  rw [l0] at i1 j1
  rw [l1] at i3
  rw [l2] at j3
  rw [an_m h hxU, an_n h hxU]
  have n1 : numsOf (dueP p rs D) p D (lksOf p D K) [x] [] = (A ++ P :: B).map g1 := by rw [← e]; rfl
  have n2 : numsOf (dueP p rs D) p D (lksOf p D K) [] [x] = (A ++ P :: B).map g2 := by rw [← e]; rfl
  rw [n1, n2, i3, j3]
  have hlp : 0 < (U.filter (qOf P)).length := List.length_pos_of_mem hx
  show canB _ k = _ ∧ (_ → canB _ k = decide (1 < (U.filter (qOf P)).length))
  generalize (U.filter (qOf P)).length = n at i1 j1 hlp ⊢
  generalize P.2.2.2 = o at i1 j1 ⊢
  rw [leadP_isE] at i1 j1 ⊢
  rw [leadP_isE]
  cases o with
  | none =>
    simp [isE] at i1 j1
    subst i1
    refine ⟨?_, fun z => by cases z⟩
    show decide (k - 0 + 1 ≤ k) = false
    exact decide_eq_false (by omega)
  | some c =>
    cases c with
    | false =>
      simp [isE] at i1 j1
      subst i1
      refine ⟨?_, fun z => by cases z⟩
      simp only [isE]
      by_cases hn : n - 1 = 0
      · simp [hn, canB, isT]
      · simp [hn, canB, isT] <;> omega
    | true =>
      simp [isE, Nat.pos_iff_ne_zero.mp hlp] at i1 j1
      subst i1
      refine ⟨?_, fun _ => ?_⟩
      · simp [isE, canB, isT] <;> omega
      · simp only [isE]
        by_cases hn : n - 1 = 0
        · have : ¬ 1 < n := by omega
          simp [hn, canB, this]
        · have : 1 < n := by omega
          subst j1
          simp [hn, canB, this] <;> omega
end Dl
namespace Dl
open PySem PySem.Spec PyProof.Rows L2
/-! ### live cellars: a season, whether it is possible, what is sure -/
variable {p : Nat} {rs : List Rw} {D b : Nat} {K : List Lk}
def posB (p : Nat) (rs : List Rw) (D b : Nat) (K : List Lk) : Bool := decide (0 < (fitL p rs D b K).length)
def nonL (p : Nat) : List Dt := (List.range p).map fun _ => .non
def sureL (p : Nat) (rs : List Rw) (D b : Nat) (K : List Lk) : List Dt := if posB p rs D b K = true then (List.range p).map fun w => sideO (showL rs D (fitL p rs D b K) w D) else nonL p
def liveV (past : List Dt) (p : Nat) (rs : List Rw) (D b : Nat) (K : List Lk) : Dt := .ins 5 [.tup past, snD p rs D b K, .bl (posB p rs D b K), .tup (sureL p rs D b K)]
theorem fput_go {i : Nat} {ix : Nat → Option Nat} {m : Mi Dt} {ρ ρ1 ρ2 : En} {d : Dt} (h : m ρ = .ok d ρ1) (h2 : putFl i ix d ρ1 = .ok () ρ2) : sFput i ix m ρ = .nx ρ2 := by
  unfold sFput sBind
  rw [h]
  dsimp only
  rw [h2]
def okD (vs : List Dt) : Prop := vs = [] ∨ ∃ a b c, vs = [a, b, c]
theorem show_ok (h : Sn p rs D b K) (hl : K.length < 899) (past : List Dt) {vs : List Dt} (hv : okD vs) : m_Live_show_k70 [.ins 5 (.tup past :: vs), snD p rs D b K] = .ret .non (liveV past p rs D b K) := by
  have hp := h.hp
  have eP := possible_sn h
  have eS := sure_sides_sn h hl (Nat.le_refl D)
  let S := snD p rs D b K
  let E (vs : List Dt) : En := [some (.own true (.ins 5 (.tup past :: vs))), vl S, none]
  let B : Dt := .bl (posB p rs D b K)
  have lcE : ∀ vs, mLc (mRng1 (mCons (m1 (fAttr ix_wheels) (mPeek 1)) (mPure []))) (gV 2) (mPure true) (mPure .non) [2] (E vs) = .ok (.lst (nonL p)) (E vs) := fun vs =>
    lc_map (ρ0 := E vs) (List.range p) nD (fun _ => .non) (rngN_ok (N := p) rfl (by omega)) rfl (fun w _ => ⟨[some (.own true (.ins 5 (.tup past :: vs))), vl S, vl (nD w)], rfl, _, rfl, rfl⟩) (by rw [List.length_range]; omega)
  have s1 : ∃ a b, sFput 0 ix_season (mVar 1) (E vs) = .nx (E [S, a, b]) ∨ sFput 0 ix_season (mVar 1) (E vs) = .nx (E [S]) := by
    rcases hv with rfl | ⟨a, b, c, rfl⟩
    · exact ⟨.non, .non, .inr (fput_go (d := S) (ρ1 := E []) rfl rfl)⟩
    · exact ⟨b, c, .inl (fput_go (d := S) (ρ1 := E [a, b, c]) rfl rfl)⟩
  have s4 : sIf (mB (m1 (fAttr ix_is_possible) (mPeek 0))) (sFput 0 ix_sure (mCall 2 m_sure_sides (mCons (mVar 1) (mCons (m1 (fAttr ix_days) (mPeek 1)) (mPure []))))) (fun ρ => .nx ρ) (E [S, B, .tup (nonL p)]) = .nx (E [S, B, .tup (sureL p rs D b K)]) := by
    cases z : posB p rs D b K with
    | false =>
      have e : sureL p rs D b K = nonL p := by unfold sureL; rw [z]; rfl
      rw [e]
      have hB : B = .bl false := by show Dt.bl _ = _; rw [z]
      rw [hB]
      exact if_f (ρ1 := E [S, .bl false, .tup (nonL p)]) (tb_ok rfl) rfl
    | true =>
      have e : sureL p rs D b K = (List.range p).map fun w => sideO (showL rs D (fitL p rs D b K) w D) := by unfold sureL; rw [z]; rfl
      rw [e]
      have hB : B = .bl true := by show Dt.bl _ = _; rw [z]
      rw [hB]
      exact (if_t (ρ1 := E [S, .bl true, .tup (nonL p)]) (tb_ok rfl) (fput_go (ρ1 := E [S, .bl true, .tup (nonL p)]) (call_ok (ds := [S, nD D]) (r := .non) rfl rfl eS) rfl))
  have cP : ∀ vs, mCall 1 m_possible (mCons (mVar 1) (mPure [])) (E vs) = .ok B (E vs) := fun vs => call_ok (ds := [S]) (r := .non) rfl rfl eP
  refine runF_nx (ρ := E [S, B, .tup (sureL p rs D b K)]) ?_ rfl
  unfold b_Live_show_k70
  obtain ⟨a, b2, s1 | s1⟩ := s1
  · exact seq_nx s1 (seq_nx (ρ' := E [S, B, b2]) (fput_go (cP _) rfl) (seq_nx (ρ' := E [S, B, .tup (nonL p)]) (fput_go (ρ1 := E [S, B, b2]) (m1_ok (lcE _) rfl) rfl) s4))
  · exact seq_nx s1 (seq_nx (ρ' := E [S, B]) (fput_go (cP _) rfl) (seq_nx (ρ' := E [S, B, .tup (nonL p)]) (fput_go (ρ1 := E [S, B]) (m1_ok (lcE _) rfl) rfl) s4))
theorem methIo_ok {c n i : Nat} {f : List Dt → Fo} {ms : Mi (List Dt)} {ρ ρ1 ρ2 : En} {io0 io : Bool} {dv dv1 : List Dt} {ds : List Dt} {x o : Dt} (h : ρ[i]? = some (some (.own io0 (.ins c dv)))) (hm : ms ρ = .ok ds ρ1) (h1 : ρ1[i]? = some (some (.own io (.ins c dv1)))) (hn : ds.length + 1 = n) (hf : f (.ins c dv1 :: ds) = .ret x o) (hr : ρ1.set i (some (.own io o)) = ρ2) : mMethIo c n f i ms ρ = .ok x ρ2 := by
  unfold mMethIo
  rw [h]
  show (if c = c then mCallIo n f i ms ρ else .bad) = _
  rw [if_pos rfl]
  exact callIo_ok (io0 := io0) (io := io) h hm h1 hn hf hr
theorem live_init (h : Sn p rs D b K) (hl : K.length < 899) : m_Live_init_k70 [.ins 5 [], snD p rs D b K] = .ret .non (liveV [] p rs D b K) := by
  let S := snD p rs D b K
  refine runF_nx (ρ := [some (.own true (liveV [] p rs D b K)), vl S]) ?_ rfl
  unfold b_Live_init_k70
  refine seq_nx (ρ' := [some (.own true (.ins 5 [.tup []])), vl S]) (fput_go (d := .tup []) (ρ1 := [some (.own true (.ins 5 [])), vl S]) rfl rfl) ?_
  exact drop_ok (methIo_ok (io0 := true) (io := true) (ds := [S]) rfl rfl rfl rfl (show_ok h hl [] (.inl rfl)) rfl)
theorem go_on (h : Sn p rs D b K) (hl : K.length < 899) (past : List Dt) (s x y : Dt) (hq : past.length < 1000) : m_Live_go_on_k70 [.ins 5 [.tup past, s, x, y], snD p rs D b K] = .ret .non (liveV (past ++ [s]) p rs D b K) := by
  let S := snD p rs D b K
  refine runF_nx (ρ := [some (.own true (liveV (past ++ [s]) p rs D b K)), vl S]) ?_ rfl
  unfold b_Live_go_on_k70
  refine seq_nx (ρ' := [some (.own true (.ins 5 [.tup (past ++ [s]), s, x, y])), vl S]) (fput_go (d := .tup (past ++ [s])) (ρ1 := [some (.own true (.ins 5 [.tup past, s, x, y])), vl S]) (tup_ok (star_ok (b := true) (xs := past) (ds := [s]) rfl rfl) (sl_le (by simp; omega))) rfl) ?_
  exact drop_ok (methIo_ok (io0 := true) (io := true) (ds := [S]) rfl rfl rfl rfl (show_ok h hl _ (.inr ⟨_, _, _, rfl⟩)) rfl)
theorem at_last (past : List Dt) (s : Dt) : fIx (.tup (past ++ [s])) (.int (-1)) = some s := by
  show atI (past ++ [s]) (-1) = _
  unfold atI ixN
  rw [if_neg (by decide), if_pos (by rw [List.length_append, List.length_singleton]; omega)]
  show (past ++ [s])[((-1 : Int) + ((past ++ [s]).length : Int)).toNat]? = _
  rw [List.length_append, List.length_singleton, show ((-1 : Int) + ((past.length + 1 : Nat) : Int)).toNat = past.length by omega]
  exact List.getElem?_concat_length
theorem cut_last (past : List Dt) (s : Dt) : fSl (.tup (past ++ [s])) none (some (-1)) = some (.tup past) := by
  show some (Dt.tup (cutD (past ++ [s]) none (some (-1)))) = _
  unfold cutD HT.sIx
  simp
  rw [show (-1 + ((past.length : Int) + 1)).toNat = past.length by omega]
  exact List.take_left
theorem live_look (h : Sn p rs D b K) (hl : K.length < 898) (past : List Dt) (hq : past.length < 1000) {d w s : Nat} (hg : GoodLk p D (d, w, s)) : m_Live_look_k70 [liveV past p rs D b K, nD d, nD w, nD s] = .ret (.bl (posB p rs D b (K ++ [(d, w, s)]))) (liveV (past ++ [snD p rs D b K]) p rs D b (K ++ [(d, w, s)])) := by
  let E (o : Dt) (x : Option Dt) : En := [some (.own true o), vl (nD d), vl (nD w), vl (nD s), lv x]
  let L0 := liveV past p rs D b K
  let L1 := liveV (past ++ [snD p rs D b K]) p rs D b (K ++ [(d, w, s)])
  let T := lkD (d, w, s)
  refine runF_rt (ρ := E L1 (some T)) ?_ rfl
  unfold b_Live_look_k70
  refine seq_nx (ρ' := E L0 (some T)) (set_ok (d := T) (ρ1 := E L0 none) (tup_ok rfl (sl_le (by simp))) rfl) ?_
  refine seq_nx (ρ' := E L0 (some T)) (if_f (not_f (tb_ok (call_ok (ds := [T, rotaD p rs, nD D]) (r := .non) rfl rfl (is_look_ok hg)))) rfl) ?_
  refine seq_nx (ρ' := E L1 (some T)) (drop_ok (methIo_ok (io0 := true) (io := true) (ds := [snD p rs D b (K ++ [(d, w, s)])]) (ρ1 := E L0 (some T)) rfl (cons_ok (seen_call h hg (by omega) rfl (lst_ok (ds := [T]) rfl (sl_le (by simp)))) rfl) rfl rfl (go_on (h.add1 hg (by omega)) (by rw [List.length_append, List.length_singleton]; omega) past _ _ _ hq) rfl)) ?_
  exact ret_ok rfl
theorem live_undo {K2 : List Lk} (h : Sn p rs D b K2) (hl : K2.length < 899) (past : List Dt) (hq : past.length < 1000) (s x y : Dt) : m_Live_undo_k70 [.ins 5 [.tup (past ++ [snD p rs D b K2]), s, x, y]] = .ret (.bl true) (liveV past p rs D b K2) := by
  let S := snD p rs D b K2
  let E (o : Dt) (x : Option Dt) : En := [some (.own true o), lv x]
  let o0 : Dt := .ins 5 [.tup (past ++ [S]), s, x, y]
  let o1 : Dt := .ins 5 [.tup past, s, x, y]
  refine runF_rt (ρ := E (liveV past p rs D b K2) (some S)) ?_ rfl
  unfold b_Live_undo_k70
  refine seq_nx (ρ' := E o0 none) (if_f (tb_ok (m2_ok (x := nD (past ++ [S]).length) (y := nD 0) (m1_ok (x := .tup (past ++ [S])) rfl rfl) rfl ?_)) rfl) ?_
  · exact (feq_nat _ 0).trans (by rw [decide_eq_false (by rw [List.length_append, List.length_singleton]; omega)])
  refine seq_nx (ρ' := E o0 (some S)) (set_ok (d := S) (ρ1 := E o0 none) (m2_ok (x := .tup (past ++ [S])) (y := .int (-1)) rfl rfl (at_last past S)) rfl) ?_
  refine seq_nx (ρ' := E o1 (some S)) (fput_go (d := .tup past) (ρ1 := E o0 (some S)) (bind_ok (a := .tup (past ++ [S])) rfl (bind_ok (a := none) rfl (bind_ok (a := some (-1)) rfl ?_))) rfl) ?_
  · show mOpt (fSl (.tup (past ++ [S])) none (some (-1))) _ = _
    rw [cut_last]; rfl
  refine seq_nx (ρ' := E (liveV past p rs D b K2) (some S)) (drop_ok (methIo_ok (io0 := true) (io := true) (ds := [S]) (ρ1 := E o1 (some S)) rfl rfl rfl rfl (show_ok h hl past (.inr ⟨_, _, _, rfl⟩)) rfl)) ?_
  exact ret_ok rfl
end Dl
namespace Dl
open PySem PySem.Spec PyProof.Rows L2 TL
/-! ### seasons that are led -/
structure Sea where
  p : Nat
  rs : List Rw
  D : Nat
  b : Nat
  K : List Lk
def Sea.d (S : Sea) : Dt := snD S.p S.rs S.D S.b S.K
def Sea.lv (S : Sea) (P : List Dt) : Dt := liveV P S.p S.rs S.D S.b S.K
def Sea.see (S : Sea) (n : Nat) : Dt := .tup [S.d, .bl (posB S.p S.rs S.D S.b S.K), .tup (sureL S.p S.rs S.D S.b S.K), nD n]
def Sea.put (S : Sea) (L : List Lk) : Sea := ⟨S.p, S.rs, S.D, S.b, S.K ++ L⟩
structure Sea.Ok (S : Sea) (m : Nat) : Prop where
  sn : Sn S.p S.rs S.D S.b S.K
  k : S.K.length ≤ m
  p0 : 0 < S.p
theorem Sea.Ok.more {S : Sea} {m n : Nat} (h : S.Ok m) (hm : m ≤ n) : S.Ok n := ⟨h.sn, Nat.le_trans h.k hm, h.p0⟩
theorem Sea.Ok.put {S : Sea} {m : Nat} (h : S.Ok m) {L : List Lk} (hg : ∀ x ∈ L, GoodLk S.p S.D x) (hl : L.length ≤ 2) (hm : m < 800) : (S.put L).Ok (m + 2) := by
  have := h.k
  exact ⟨h.sn.add hg (by rw [List.length_append]; omega), by show (S.K ++ L).length ≤ m + 2; rw [List.length_append]; omega, h.p0⟩
theorem sea_one {p : Nat} {rs : List Rw} {D b : Nat} {K : List Lk} (h : Sml p rs D b K) : (⟨p, srt rs, D, b, K⟩ : Sea).Ok 4 := ⟨h.sn, h.k4, h.p0⟩
variable {S T : Sea} {m : Nat} {P : List Dt}
theorem Sea.init (h : S.Ok m) (hm : m < 800) : m_Live_init_k70 [.ins 5 [], S.d] = .ret .non (S.lv []) := live_init h.sn (by have := h.k; omega)
theorem Sea.follow (h : T.Ok m) (hm : m < 800) (hP : P.length < 1000) : m_Live_follow_k70 [S.lv P, T.d] = .ret .non (T.lv (P ++ [S.d])) := by
  refine runF_nx (ρ := [some (.own true (T.lv (P ++ [S.d]))), vl T.d]) ?_ rfl
  have hk := h.k
  exact drop_ok (methIo_ok (io0 := true) (io := true) (ds := [T.d]) (ρ1 := [some (.own true (S.lv P)), vl T.d]) rfl rfl rfl rfl (go_on h.sn (by omega) P _ _ _ hP) rfl)
theorem Sea.look (h : S.Ok m) (hm : m < 800) (hP : P.length < 1000) {d w s : Nat} (hg : GoodLk S.p S.D (d, w, s)) : ∃ c, m_Live_look_k70 [S.lv P, nD d, nD w, nD s] = .ret (.bl c) ((S.put [(d, w, s)]).lv (P ++ [S.d])) := by
  have hk := h.k
  exact ⟨_, live_look h.sn (by omega) P hP hg⟩
theorem Sea.several (h : S.Ok m) (hm : m < 800) (hP : P.length < 1000) {L : List Lk} (h0 : 0 < L.length) (h2 : L.length ≤ 2) (hg : ∀ x ∈ L, GoodLk S.p S.D x) : ∃ c, m_Live_several_k70 [S.lv P, .lst (L.map lkD)] = .ret (.bl c) ((S.put L).lv (P ++ [S.d])) := by
  have hk := h.k
  have hS := h.sn.add (K' := L) hg (by rw [List.length_append]; omega)
  let l : Dt := .lst (L.map lkD)
  let E (o : Dt) (s : Option Dt) : En := [some (.own true o), vl l, Dl.lv s]
  let V := S.lv P
  let V2 := (S.put L).lv (P ++ [S.d])
  obtain ⟨ρ', g, s', rfl⟩ := forGo_all (g := gV 2) (bd := (sIf (mNot (mB (mCall 3 m_is_look (mCons (mVar 2) (mCons (m1 (fAttr ix_rota) (m1 (fAttr ix_season) (mPeek 0))) (mCons (m1 (fAttr ix_days) (m1 (fAttr ix_season) (mPeek 0))) (mPure []))))))) (fun _ => .bad) (fun ρ => .nx ρ))) lkD (fun ρ => ∃ s, ρ = E V s) L (E V none) ⟨none, rfl⟩ (by
    rintro x hx ρ ⟨s, rfl⟩
    refine ⟨E V (some (lkD x)), by cases s <;> rfl, E V (some (lkD x)), .inl ?_, _, rfl⟩
    exact if_f (not_ok (b := true) (tb_ok (call_ok (ds := [lkD x, rotaD S.p S.rs, nD S.D]) (r := .non) rfl rfl (is_look_ok (hg x hx))))) rfl)
  refine ⟨posB S.p S.rs S.D S.b (S.K ++ L), runF_rt (ρ := E V2 s') ?_ rfl⟩
  unfold b_Live_several_k70
  refine seq_nx (ρ' := E V s') (for_ok (ds := L.map lkD) (ρ1 := E V none) rfl g) ?_
  have eg : mB (m2 fGt (m1 fLen (mPeek 1)) (mPure (.int 0))) (E V s') = .ok true (E V s') := tb_ok (m2_ok (x := nD L.length) (y := nD 0) (m1_ok (x := l) rfl (len_lst lkD L)) rfl (gt_t h0))
  refine seq_nx (ρ' := E V2 s') (if_t eg ?_) (ret_ok rfl)
  have es : mMeth 1 2 m_Season_seen (m1 (fAttr ix_season) (mPeek 0)) (mCons (mVar 1) (mPure [])) (E V s') = .ok (S.put L).d (E V s') := meth_ok (ds := [l]) (r := .non) rfl rfl rfl (seen_sn h.sn (c := false) hg (by rw [List.length_append]; omega))
  exact drop_ok (methIo_ok (io0 := true) (io := true) (ds := [(S.put L).d]) (ρ1 := E V s') rfl (cons_ok es rfl) rfl rfl (go_on hS (by show (S.K ++ L).length < 899; rw [List.length_append]; omega) P _ _ _ hP) rfl)
theorem Sea.undo (h : T.Ok m) (hm : m < 800) (hP : P.length < 1000) : m_Live_undo_k70 [S.lv (P ++ [T.d])] = .ret (.bl true) (T.lv P) := by
  have hk := h.k
  exact live_undo h.sn (by omega) P hP _ _ _
theorem Sea.undo0 (S : Sea) : m_Live_undo_k70 [S.lv []] = .ret (.bl false) (S.lv []) := by
  let E : En := [some (.own true (S.lv [])), none]
  exact runF_rt (ρ := E) (seq_rt (if_t (ρ1 := E) (tb_ok (m2_ok (x := nD 0) (y := nD 0) rfl rfl (eq_t rfl))) rfl)) rfl
/-! ### what is seen of them -/
theorem live_len (past : List Dt) (vs : List Dt) : m_Live_len [.ins 5 (.tup past :: vs)] = .ret (nD past.length) (.ins 5 (.tup past :: vs)) :=
  runF_rt (ρ := [some (.own true (.ins 5 (.tup past :: vs)))]) (ret_ok (m1_ok (x := .tup past) rfl rfl)) rfl
theorem len_own {i : Nat} {ρ : En} {io : Bool} (hn : P.length < 1000) (h : ρ[i]? = some (some (.own io (S.lv P)))) : mOwn1Io 5 m_Live_len okLen i ρ = .ok (nD P.length) ρ := by
  unfold mOwn1Io
  rw [h]
  let o : Dt := S.lv P
  show (if (5 : Nat) = 5 then (match m_Live_len [o] with | .ret z o => if okLen z = true then Ou.ok z (ρ.set i (some (.own io o))) else .bad | _ => .bad) else .bad) = _
  rw [if_pos rfl, show m_Live_len [o] = .ret (nD P.length) o from live_len P _]
  show (if okLen (nD P.length) = true then Ou.ok (nD P.length) (ρ.set i (some (.own io o))) else .bad) = _
  have ho : okLen (nD P.length) = true := by
    show (decide (0 ≤ (P.length : Int)) && decide ((P.length : Int) < 4611686018427387904)) = true
    rw [decide_eq_true (by omega), decide_eq_true (by omega)]; rfl
  rw [if_pos ho]
  have e : ρ.set i (some (.own io o)) = ρ := by
    apply List.ext_getElem?
    intro j
    by_cases hj : i = j
    · subst hj
      have hi : i < ρ.length := by
        rcases Nat.lt_or_ge i ρ.length with z | z
        · exact z
        · rw [List.getElem?_eq_none z] at h; cases h
      rw [List.getElem?_set_self hi, h]
    · rw [List.getElem?_set_ne hj]
  rw [e]
theorem Sea.seen (S : Sea) (hP : P.length < 1000) : m_law_look_at [S.lv P] = .ret (S.see P.length) (S.lv P) := by
  let E : En := [some (.own true (S.lv P))]
  exact runF_rt (ρ := E) (ret_ok (tup_ok (ds := [S.d, .bl (posB S.p S.rs S.D S.b S.K), .tup (sureL S.p S.rs S.D S.b S.K), nD P.length]) (cons_ok (ρ1 := E) rfl (cons_ok (ρ1 := E) rfl (cons_ok (ρ1 := E) rfl (cons_ok (len_own hP rfl) rfl)))) (sl_le (by simp)))) rfl
theorem fe_side (l : List Nat) : flatEq (sideO l) (sideO l) = true := by
  unfold sideO
  split
  · show ((_ : Int) == _) = true
    exact beq_self_eq_true _
  · rfl
theorem fes_self : ∀ l : List Dt, (∀ x ∈ l, flatEq x x = true) → flatEqs l l = true
  | [], _ => rfl
  | x :: l, h => by
    show (flatEq x x && flatEqs l l) = true
    rw [h x List.mem_cons_self, fes_self l (fun y hy => h y (List.mem_cons_of_mem _ hy))]; rfl
theorem fe_nat (n : Nat) : flatEq (nD n) (nD n) = true := by
  show ((n : Int) == (n : Int)) = true
  exact beq_self_eq_true _
theorem fe_bl (c : Bool) : flatEq (.bl c) (.bl c) = true := by cases c <;> rfl
theorem sure_self (p : Nat) (rs : List Rw) (D b : Nat) (K : List Lk) : flatEqs (sureL p rs D b K) (sureL p rs D b K) = true := by
  refine fes_self _ fun x hx => ?_
  unfold sureL nonL at hx
  split at hx
  · obtain ⟨w, _, rfl⟩ := List.mem_map.mp hx
    exact fe_side _
  · obtain ⟨w, _, rfl⟩ := List.mem_map.mp hx
    rfl
theorem season_self (p : Nat) (rs : List Rw) (D b : Nat) (K : List Lk) : sureEq 1 m_Season_eq (snD p rs D b K) (snD p rs D b K) = true := by
  show (decide ((1 : Nat) = 1) && (decide ((1 : Nat) = 1) && isYes (m_Season_eq [seasonD p rs D b (lksOf p D K), seasonD p rs D b (lksOf p D K)]))) = true
  have e : m_Season_eq [seasonD p rs D b (lksOf p D K), seasonD p rs D b (lksOf p D K)] = .ret (.bl true) .non := by rw [season_eq_ok]; simp
  rw [e]; rfl
theorem see_ne (S : Sea) (n : Nat) : fNeT 1 m_Season_eq (S.see n) (S.see n) = some (.bl false) := by
  let l : List Dt := [S.d, .bl (posB S.p S.rs S.D S.b S.K), .tup (sureL S.p S.rs S.D S.b S.K), nD n]
  show (if sureEqs 1 m_Season_eq l l = true then _ else _) = _
  rw [if_pos]
  show (sureEq 1 m_Season_eq (snD S.p S.rs S.D S.b S.K) (snD S.p S.rs S.D S.b S.K) && (flatEq (.bl (posB S.p S.rs S.D S.b S.K)) (.bl (posB S.p S.rs S.D S.b S.K)) && (flatEqs (sureL S.p S.rs S.D S.b S.K) (sureL S.p S.rs S.D S.b S.K) && (flatEq (nD n) (nD n) && true)))) = true
  rw [season_self, sure_self, fe_nat, fe_bl]; rfl
theorem own_sea (S : Sea) : fOwnC 1 m_Season_eq true S.d S.d = some (.bl false) := by
  show fOwnC 1 m_Season_eq true (snD S.p S.rs S.D S.b S.K) (snD S.p S.rs S.D S.b S.K) = _
  rw [fown_sn]; simp
/-! ### what was seen ahead of each deed -/
def sees (hs : List Sea) : List Dt := hs.mapIdx fun i S => S.see i
theorem sees_snoc (hs : List Sea) (S : Sea) : sees (hs ++ [S]) = sees hs ++ [S.see hs.length] := by
  unfold sees
  rw [List.mapIdx_concat]
theorem sees_len (hs : List Sea) : (sees hs).length = hs.length := by unfold sees; exact List.length_mapIdx
theorem dmap_snoc (hs : List Sea) (S : Sea) : (hs ++ [S]).map Sea.d = hs.map Sea.d ++ [S.d] := by rw [List.map_append]; rfl
end Dl
namespace Dl
open PySem PySem.Spec PyProof.Rows L2 TL
def oo : Option Dt → Option Sl
  | none => none
  | some d => ow d
theorem cut_last1 (l : List Dt) (x : Dt) : cutD (l ++ [x]) none (some (-1)) = l := by
  unfold cutD HT.sIx
  simp
  rw [show (-1 + ((l.length : Int) + 1)).toNat = l.length by omega]
  exact List.take_left
theorem nil_snoc {α : Type} (l : List α) : l = [] ∨ ∃ a x, l = a ++ [x] := by
  rcases List.eq_nil_or_concat l with h | ⟨a, x, h⟩
  · exact .inl h
  · exact .inr ⟨a, x, by rw [h, List.concat_eq_append]⟩
theorem at_lastL (l : List Dt) (x : Dt) : fIx (.lst (l ++ [x])) (.int (-1)) = some x := at_last l x
theorem head_snoc {α : Type} {l : List α} {a b c : α} (h : (l ++ [a]).head? = some c) : ((l ++ [a]) ++ [b]).head? = some c := by
  cases l with
  | nil => exact h
  | cons y l => exact h
theorem head_init {α : Type} {l : List α} {a b c : α} (h : ((l ++ [a]) ++ [b]).head? = some c) : (l ++ [a]).head? = some c := by
  cases l with
  | nil => exact h
  | cons y l => exact h
abbrev e70 (ns : List Int) (k : Nat) (q : Bq) (S1 S2 : Dt) (A B : Sea) (live past : Dt) (s9 s10 s11 s12 s13 s14 : Option Dt) : En := [vl (.scr ns), vl (nD k), ow (bxD q), vl S1, vl S2, vl A.d, vl B.d, ow live, ow past, lv s9, lv s10, lv s11, lv s12, lv s13, lv s14]
def J70 (ns : List Int) (k : Nat) (S1 S2 : Dt) (A B : Sea) (n : Nat) (ρ : En) : Prop := ∃ (q : Bq) (hs : List Sea) (C : Sea) (s9 s10 s11 s12 s13 s14 : Option Dt), hs.length ≤ n ∧ (∀ S ∈ hs, S.Ok (4 + 2 * n)) ∧ C.Ok (4 + 2 * n) ∧ (hs ++ [C]).head? = some A ∧ ρ = e70 ns k q S1 S2 A B (C.lv (hs.map Sea.d)) (.lst (sees hs)) s9 s10 s11 s12 s13 s14
theorem turn70 (ns : List Int) (k : Nat) (S1 S2 : Dt) {A B : Sea} (hA : A.Ok 4) (hB : B.Ok 4) {n : Nat} (hn : n < 36) {ρ : En} (hJ : J70 ns k S1 S2 A B n ρ) (t : Nat) : ∃ ρ1, gV 9 (nD t) ρ = some ρ1 ∧ Run lp_law_0 ρ1 (J70 ns k S1 S2 A B (n + 1)) := by
  obtain ⟨q, hs, C, s9, s10, s11, s12, s13, s14, hl, hh, hC, hf, rfl⟩ := hJ
  let E (q : Bq) (live past : Dt) (s10 s11 s12 s13 s14 : Option Dt) : En := e70 ns k q S1 S2 A B live past (some (nD t)) s10 s11 s12 s13 s14
  refine ⟨E q (C.lv (hs.map Sea.d)) (.lst (sees hs)) s10 s11 s12 s13 s14, by cases s9 <;> rfl, ?_⟩
  let P := hs.map Sea.d
  let L := C.lv P
  have hP : P.length < 1000 := by show (hs.map Sea.d).length < 1000; rw [List.length_map]; omega
  have hPe : P.length = hs.length := List.length_map _
  have hsl : (sees hs).length = hs.length := sees_len hs
  let V := C.see P.length
  obtain ⟨u, q1, hu, t1⟩ := take_nat q 6 (by decide) (by decide)
  have eS := C.seen hP
  let Z (q : Bq) (live : Dt) (s12 s13 s14 : Option Dt) : En := E q live (.lst (sees hs)) (some (nD u)) (some V) s12 s13 s14
  unfold lp_law_0
  refine run_seq (ρ1 := Z q1 L s12 s13 s14) (pars_ok (ds := [nD u, V]) (ρ1 := E q1 L (.lst (sees hs)) s10 s11 s12 s13 s14) (cons_ok (ρ1 := E q1 L (.lst (sees hs)) s10 s11 s12 s13 s14) (callIo_ok (io0 := false) (d0 := bxD q) (io := false) (d1 := bxD q) (ds := [nD 6]) (ρ1 := E q L (.lst (sees hs)) s10 s11 s12 s13 s14) rfl rfl rfl rfl t1 rfl) (cons_ok (callIo_ok (io0 := false) (d0 := L) (io := false) (d1 := L) (ds := []) (ρ1 := E q1 L (.lst (sees hs)) s10 s11 s12 s13 s14) rfl rfl rfl rfl eS rfl) rfl)) (by cases s10 <;> cases s11 <;> rfl)) ?_
  have more : ∀ S ∈ hs, S.Ok (4 + 2 * (n + 1)) := fun S hS => (hh S hS).more (by omega)
  have ePast : ∀ ρ : En, ρ[8]? = some (ow (.lst (sees hs))) → m1 (fun d => fNeLen d (.lst [])) (mPeek 8) ρ = .ok (.bl (!(sees hs).isEmpty)) ρ := fun ρ a8 => m1_ok (peek_ow a8) rfl
  have c0 : mB (m2 fEq (mVar 10) (mPure (.int 0))) (Z q1 L s12 s13 s14) = .ok (decide (u = 0)) (Z q1 L s12 s13 s14) := tb_ok (m2_ok (x := nD u) (y := nD 0) rfl rfl (feq_nat u 0))
  by_cases hu0 : u = 0
  · -- taken back
    rw [decide_eq_true hu0] at c0
    refine run_ct (ρ1 := E q1 (match hs.reverse with | [] => L | S :: r => S.lv (r.reverse.map Sea.d)) (.lst (sees hs.dropLast)) (some (nD u)) (some V) s12 s13 s14) (if_t c0 ?_) ?_
    · rcases nil_snoc hs with rfl | ⟨hs', S, rfl⟩
      · have un := C.undo0
        refine seq_nx (ρ' := Z q1 L s12 s13 s14) (if_f (tb_ok (m2_ok (x := .bl false) (y := .bl false) (methIo_ok (io0 := false) (io := false) (ds := []) (ρ1 := Z q1 L s12 s13 s14) rfl rfl rfl rfl un rfl) (ePast _ rfl) rfl)) rfl) ?_
        refine seq_nx (ρ' := Z q1 L s12 s13 s14) (if_f (and_f (ρ1 := Z q1 L s12 s13 s14) (tb_ok (ePast _ rfl))) rfl) ?_
        exact seq_nx (ρ' := Z q1 L s12 s13 s14) (setN_ok (d := .lst []) (ρ1 := E q1 L (.lst []) (some (nD u)) (some V) s12 s13 s14 |>.set 8 (vl (.lst []))) rfl rfl) rfl
      · have hSk : S.Ok (4 + 2 * n) := hh S (by simp)
        let P' := hs'.map Sea.d
        have hP' : P'.length = hs'.length := List.length_map _
        rw [List.length_append, List.length_singleton] at hl
        have eL : L = C.lv (P' ++ [S.d]) := by show C.lv ((hs' ++ [S]).map Sea.d) = _; rw [dmap_snoc]
        have un : m_Live_undo_k70 [L] = .ret (.bl true) (S.lv P') := by rw [eL]; exact Sea.undo hSk (by omega) (by omega)
        have eV : V = C.see P.length := rfl
        have eSn := S.seen (P := P') (by omega)
        have ss := sees_snoc hs' S
        have hne : (!(sees (hs' ++ [S])).isEmpty) = true := by rw [ss]; simp
        let L2 := S.lv P'
        have hr : (match (hs' ++ [S]).reverse with | [] => L | S :: r => S.lv (r.reverse.map Sea.d)) = L2 := by rw [List.reverse_append]; simp; rfl
        rw [hr, List.dropLast_concat]
        have ePt : m1 (fun d => fNeLen d (.lst [])) (mPeek 8) (Z q1 L2 s12 s13 s14) = .ok (.bl true) (Z q1 L2 s12 s13 s14) := by rw [ePast _ rfl, hne]
        refine seq_nx (ρ' := Z q1 L2 s12 s13 s14) (if_f (tb_ok (m2_ok (x := .bl true) (y := .bl true) (methIo_ok (io0 := false) (io := false) (ds := []) (ρ1 := Z q1 L s12 s13 s14) rfl rfl rfl rfl un rfl) ePt rfl)) rfl) ?_
        have ix : hasSl 8 (mIxV 8 (m1 fNeg (mPure (.int 1)))) (Z q1 L2 s12 s13 s14) = .ok (S.see P'.length) (Z q1 L2 s12 s13 s14) := ixv' (y := .int (-1)) rfl rfl rfl (by rw [ss, hP']; exact at_lastL _ _)
        refine seq_nx (ρ' := Z q1 L2 s12 s13 s14) (if_f (and_t (ρ1 := Z q1 L2 s12 s13 s14) (tb_ok ePt) (tb_ok (m2_ok (x := S.see P'.length) (y := S.see P'.length) (callIo_ok (io0 := false) (d0 := L2) (io := false) (d1 := L2) (ds := []) (ρ1 := Z q1 L2 s12 s13 s14) rfl rfl rfl rfl eSn rfl) ix (see_ne S _)))) rfl) ?_
        refine seq_nx (ρ' := E q1 L2 (.lst (sees hs')) (some (nD u)) (some V) s12 s13 s14) (setN_ok (d := .lst (sees hs')) (ρ1 := (Z q1 L2 s12 s13 s14).set 8 (vl (.lst (sees (hs' ++ [S]))))) ?_ rfl) rfl
        refine bind_ok (a := .lst (sees (hs' ++ [S]))) (ρ1 := (Z q1 L2 s12 s13 s14).set 8 (vl (.lst (sees (hs' ++ [S]))))) rfl (bind_ok (a := none) rfl (bind_ok (a := some (-1)) rfl ?_))
        show mOpt (some (Dt.lst (cutD (sees (hs' ++ [S])) none (some (-1))))) _ = _
        rw [ss, cut_last1]; rfl
    · rcases nil_snoc hs with rfl | ⟨hs', S, rfl⟩
      · exact ⟨q1, [], C, _, _, _, _, _, _, Nat.zero_le _, (fun S hS => nomatch hS), hC.more (by omega), hf, rfl⟩
      · rw [List.length_append, List.length_singleton] at hl
        have hr : (match (hs' ++ [S]).reverse with | [] => L | S :: r => S.lv (r.reverse.map Sea.d)) = S.lv (hs'.map Sea.d) := by rw [List.reverse_append]; simp
        rw [hr, List.dropLast_concat]
        exact ⟨q1, hs', S, _, _, _, _, _, _, by omega, (fun T hT => more T (by simp [hT])), more S (by simp), head_init hf, rfl⟩
  · rw [decide_eq_false hu0] at c0
    refine run_seq (ρ1 := Z q1 L s12 s13 s14) (if_f c0 rfl) ?_
    -- some fresh season
    obtain ⟨x, q2, hx, t2⟩ := pick_any q1 [A.d, B.d, C.d] (by simp) (by simp)
    obtain ⟨Fr, hFr, rfl⟩ : ∃ Fr : Sea, Fr.Ok (4 + 2 * n) ∧ x = Fr.d := by
      simp only [List.mem_cons, List.not_mem_nil, or_false] at hx
      rcases hx with rfl | rfl | rfl
      · exact ⟨A, hA.more (by omega), rfl⟩
      · exact ⟨B, hB.more (by omega), rfl⟩
      · exact ⟨C, hC, rfl⟩
    let Fd : Option Dt := some Fr.d
    refine run_seq (ρ1 := Z q2 L Fd s13 s14) (set_ok (d := Fr.d) (ρ1 := Z q2 L s12 s13 s14) (callIo_ok (io0 := false) (d0 := bxD q1) (io := false) (d1 := bxD q1) (ds := [.lst [A.d, B.d, C.d]]) (ρ1 := Z q1 L s12 s13 s14) rfl (cons_ok (lst_ok (ds := [A.d, B.d, C.d]) rfl (sl_le (by simp))) rfl) rfl rfl t2 rfl) (by cases s12 <;> rfl)) ?_
    have g0 : GoodLk C.p C.D (0, 0, 0) := ⟨Nat.zero_le _, hC.p0, by decide⟩
    have g1 : GoodLk C.p C.D (1, 0, 0) := ⟨hC.sn.D0, hC.p0, by decide⟩
    obtain ⟨d, q3, hd, t3⟩ := take_nat q2 2 (by decide) (by decide)
    obtain ⟨w, q4, hw, t4⟩ := take_nat q3 2 (by decide) (by decide)
    have gd : GoodLk C.p C.D (d, 0, w) := ⟨by have := hC.sn.D0; show d ≤ C.D; omega, hC.p0, hw⟩
    obtain ⟨b1, e1⟩ := Sea.several hC (by omega) hP (L := [(0, 0, 0), (1, 0, 0)]) (by decide) (by decide) (by
      intro y hy
      simp only [List.mem_cons, List.not_mem_nil, or_false] at hy
      rcases hy with rfl | rfl
      · exact g0
      · exact g1)
    obtain ⟨b2, e2⟩ := Sea.look hC (by omega) hP gd
    have e3 := Sea.follow (S := C) hFr (by omega) hP
    -- the season behind
    let N : Sea := if u = 1 then Fr else if u = 2 then C.put [(0, 0, 0), (1, 0, 0)] else C.put [(d, 0, w)]
    have hN : N.Ok (4 + 2 * (n + 1)) := by
      show Sea.Ok (if u = 1 then Fr else if u = 2 then C.put [(0, 0, 0), (1, 0, 0)] else C.put [(d, 0, w)]) _
      split
      · exact hFr.more (by omega)
      · split
        · exact (hC.put (fun y hy => by
            simp only [List.mem_cons, List.not_mem_nil, or_false] at hy
            rcases hy with rfl | rfl
            · exact g0
            · exact g1) (by decide) (by omega)).more (by omega)
        · exact (hC.put (fun y hy => by rw [List.mem_singleton.mp hy]; exact gd) (by simp) (by omega)).more (by omega)
    let LN := N.lv (P ++ [C.d])
    let L1 := if u = 1 then LN else L
    let L2 := if u = 1 ∨ u = 2 then LN else L
    have k1 : mB (m2 fEq (mVar 10) (mPure (.int 1))) (Z q2 L Fd s13 s14) = .ok (decide (u = 1)) (Z q2 L Fd s13 s14) := tb_ok (m2_ok (x := nD u) (y := nD 1) rfl rfl (feq_nat u 1))
    refine run_seq (ρ1 := Z q2 L1 Fd s13 s14) ?_ ?_
    · by_cases h1 : u = 1
      · rw [decide_eq_true h1] at k1
        have hL1 : L1 = Fr.lv (P ++ [C.d]) := by show (if u = 1 then (if u = 1 then Fr else _).lv _ else L) = _; rw [if_pos h1, if_pos h1]
        rw [hL1]
        exact if_f (and_t k1 (tb_ok (m2_ok (x := .non) (y := .non) (methIo_ok (io0 := false) (io := false) (ds := [Fr.d]) (ρ1 := Z q2 L Fd s13 s14) rfl rfl rfl rfl e3 rfl) rfl rfl))) rfl
      · rw [decide_eq_false h1] at k1
        have hL1 : L1 = L := if_neg h1
        rw [hL1]
        exact if_f (and_f k1) rfl
    have k2 : mB (m2 fEq (mVar 10) (mPure (.int 2))) (Z q2 L1 Fd s13 s14) = .ok (decide (u = 2)) (Z q2 L1 Fd s13 s14) := tb_ok (m2_ok (x := nD u) (y := nD 2) rfl rfl (feq_nat u 2))
    have inB : ∀ c : Bool, fNotInA (.bl c) (.tup [.bl true, .bl false]) = some (.bl false) := fun c => by cases c <;> rfl
    refine run_seq (ρ1 := Z q2 L2 Fd s13 s14) ?_ ?_
    · by_cases h2 : u = 2
      · rw [decide_eq_true h2] at k2
        have h1 : ¬ u = 1 := by omega
        have hL1 : L1 = L := if_neg h1
        have hL2 : L2 = (C.put [(0, 0, 0), (1, 0, 0)]).lv (P ++ [C.d]) := by show (if u = 1 ∨ u = 2 then (if u = 1 then Fr else if u = 2 then _ else _).lv _ else L) = _; rw [if_pos (.inr h2), if_neg h1, if_pos h2]
        rw [hL1] at k2 ⊢
        rw [hL2]
        exact if_f (and_t k2 (tb_ok (m2_ok (x := .bl b1) (y := .tup [.bl true, .bl false]) (methIo_ok (io0 := false) (io := false) (ds := [.lst ([(0, 0, 0), (1, 0, 0)].map lkD)]) (ρ1 := Z q2 L Fd s13 s14) rfl (cons_ok (lst_ok (ds := [(0, 0, 0), (1, 0, 0)].map lkD) (cons_ok (tup_ok (ds := [nD 0, nD 0, nD 0]) rfl (sl_le (by simp))) (cons_ok (tup_ok (ds := [nD 1, nD 0, nD 0]) rfl (sl_le (by simp))) rfl)) (sl_le (by simp))) rfl) rfl rfl e1 rfl) (tup_ok (ds := [.bl true, .bl false]) rfl (sl_le (by simp))) (inB b1)))) rfl
      · rw [decide_eq_false h2] at k2
        have hL : L2 = L1 := by
          show (if u = 1 ∨ u = 2 then LN else L) = if u = 1 then LN else L
          by_cases h1 : u = 1
          · rw [if_pos (.inl h1), if_pos h1]
          · rw [if_neg (by omega), if_neg h1]
        rw [hL]
        exact if_f (and_f k2) rfl
    let Y (q : Bq) (live past : Dt) : En := E q live past (some (nD u)) (some V) Fd (some (nD d)) (some (nD w))
    refine run_seq (ρ1 := Y q4 L2 (.lst (sees hs))) (pars2_ok (x := nD d) (y := nD w) (ρ1 := Z q4 L2 Fd s13 s14) (cons_ok (ρ1 := Z q3 L2 Fd s13 s14) (callIo_ok (io0 := false) (d0 := bxD q2) (io := false) (d1 := bxD q2) (ds := [nD 2]) (ρ1 := Z q2 L2 Fd s13 s14) rfl rfl rfl rfl t3 rfl) (cons_ok (callIo_ok (io0 := false) (d0 := bxD q3) (io := false) (d1 := bxD q3) (ds := [nD 2]) (ρ1 := Z q3 L2 Fd s13 s14) rfl rfl rfl rfl t4 rfl) rfl)) (by cases s13 <;> rfl) (by cases s14 <;> rfl)) ?_
    have k3 : mB (m2 fGt (mVar 10) (mPure (.int 2))) (Y q4 L2 (.lst (sees hs))) = .ok (decide (2 < u)) (Y q4 L2 (.lst (sees hs))) := tb_ok (m2_ok (x := nD u) (y := nD 2) rfl rfl (gt_nat u 2))
    refine run_seq (ρ1 := Y q4 LN (.lst (sees hs))) ?_ ?_
    · by_cases h3 : 2 < u
      · rw [decide_eq_true h3] at k3
        have hL2 : L2 = L := if_neg (by omega)
        have hLN : LN = (C.put [(d, 0, w)]).lv (P ++ [C.d]) := by show (if u = 1 then Fr else if u = 2 then _ else _).lv _ = _; rw [if_neg (by omega), if_neg (by omega)]
        rw [hL2] at k3 ⊢
        rw [hLN]
        exact if_f (and_t k3 (tb_ok (m2_ok (x := .bl b2) (y := .tup [.bl true, .bl false]) (methIo_ok (io0 := false) (io := false) (ds := [nD d, nD 0, nD w]) (ρ1 := Y q4 L (.lst (sees hs))) rfl rfl rfl rfl e2 rfl) (tup_ok (ds := [.bl true, .bl false]) rfl (sl_le (by simp))) (inB b2)))) rfl
      · rw [decide_eq_false h3] at k3
        have hL2 : L2 = LN := if_pos (by omega)
        rw [hL2] at k3 ⊢
        exact if_f (and_f k3) rfl
    have ss := sees_snoc hs C
    have hsn : (sees (hs ++ [C])).length = hs.length + 1 := by rw [sees_len, List.length_append, List.length_singleton]
    have eA : ownLst 8 (mAppend 8 (mVar 11)) (Y q4 LN (.lst (sees hs))) = .ok .non (Y q4 LN (.lst (sees (hs ++ [C])))) := by
      unfold ownLst
      show mAppend 8 (mVar 11) (Y q4 LN (.lst (sees hs))) = _
      refine bind_ok (a := V) (ρ1 := Y q4 LN (.lst (sees hs))) rfl (mut_ok (ρ := Y q4 LN (.lst (sees hs))) (io0 := false) (ds := sees hs) rfl (r := .non) (es := sees (hs ++ [C])) ?_ rfl)
      rw [if_pos (sl_lt (by omega)), ss]
      show some (Dt.non, sees hs ++ [C.see P.length]) = _
      rw [hPe]
    refine run_seq (ρ1 := Y q4 LN (.lst (sees (hs ++ [C])))) (drop_ok eA) ?_
    refine run_eif (ρ := Y q4 LN (.lst (sees (hs ++ [C])))) (tb_ok (m2_ok (x := nD (P ++ [C.d]).length) (y := nD (sees (hs ++ [C])).length) (len_own (S := N) (P := P ++ [C.d]) (by rw [List.length_append, List.length_singleton]; omega) rfl) (m1_ok (x := .lst (sees (hs ++ [C]))) rfl rfl) (ne_f (by rw [hsn, List.length_append, List.length_singleton, hPe])))) ?_
    refine ⟨q4, hs ++ [C], N, some (nD t), some (nD u), some V, Fd, some (nD d), some (nD w), by rw [List.length_append, List.length_singleton]; omega, fun S hS => ?_, hN, head_snoc hf, ?_⟩
    · rcases List.mem_append.mp hS with z | z
      · exact more S z
      · rw [List.mem_singleton.mp z]; exact hC.more (by omega)
    · rw [dmap_snoc]
end Dl
namespace Dl
open PySem PySem.Spec PyProof.Rows L2 TL
def av : Bool → Dt → Option Sl
  | true, d => ow d
  | false, d => vl d
abbrev f70 (ns : List Int) (k : Nat) (q : Bq) (S1 S2 : Dt) (A B : Sea) (live past : Dt) (s9 s10 s11 s12 s13 s14 : Option Dt) : En := [vl (.scr ns), vl (nD k), ow (bxD q), vl S1, vl S2, vl A.d, vl B.d, ow live, vl past, lv s9, lv s10, lv s11, lv s12, lv s13, lv s14]
theorem back70 (ns : List Int) (k : Nat) (q : Bq) (S1 S2 : Dt) {A B : Sea} {m : Nat} (hm : m < 800) (pst : Dt) (s9 s10 s12 s13 s14 : Option Dt) : ∀ (n : Nat) (hs : List Sea) (C : Sea) (s11 : Option Dt), hs.length = n → n ≤ 36 → (∀ S ∈ hs, S.Ok m) → (hs ++ [C]).head? = some A →
    ∃ s11', forGo (gV 11) lp_law_1 ((sees hs).reverse) (f70 ns k q S1 S2 A B (C.lv (hs.map Sea.d)) pst s9 s10 s11 s12 s13 s14) = .nx (f70 ns k q S1 S2 A B (A.lv []) pst s9 s10 s11' s12 s13 s14)
  | 0, hs, C, s11, h0, _, _, hf => by
    have : hs = [] := List.length_eq_zero_iff.mp h0
    subst this
    have e : C = A := Option.some.inj hf
    subst e
    exact ⟨s11, rfl⟩
  | n + 1, hs, C, s11, h0, hn, hh, hf => by
    rcases nil_snoc hs with rfl | ⟨hs', S, rfl⟩
    · cases h0
    · have hl : hs'.length = n := by rw [List.length_append, List.length_singleton] at h0; omega
      let P' := hs'.map Sea.d
      have hP' : P'.length = hs'.length := List.length_map _
      let E (live : Dt) (s11 : Option Dt) : En := f70 ns k q S1 S2 A B live pst s9 s10 s11 s12 s13 s14
      obtain ⟨r11, ih⟩ := back70 ns k q S1 S2 (A := A) (B := B) hm pst s9 s10 s12 s13 s14 n hs' S (some (S.see hs'.length)) hl (by omega) (fun T hT => hh T (by simp [hT])) (head_init hf)
      refine ⟨r11, ?_⟩
      have hS : S.Ok m := hh S (by simp)
      let L := C.lv ((hs' ++ [S]).map Sea.d)
      have un : m_Live_undo_k70 [L] = .ret (.bl true) (S.lv P') := by
        have := Sea.undo (S := C) (T := S) (P := P') hS hm (by omega)
        show m_Live_undo_k70 [C.lv ((hs' ++ [S]).map Sea.d)] = _
        rw [dmap_snoc]; exact this
      have eSn := S.seen (P := P') (by omega)
      rw [hP'] at eSn
      rw [sees_snoc, List.reverse_append]
      show forGo (gV 11) lp_law_1 (S.see hs'.length :: (sees hs').reverse) (E L s11) = _
      rw [forGo.eq_def]
      have e1 : gV 11 (S.see hs'.length) (E L s11) = some (E L (some (S.see hs'.length))) := by cases s11 <;> rfl
      have e2 : lp_law_1 (E L (some (S.see hs'.length))) = .nx (E (S.lv P') (some (S.see hs'.length))) := by
        unfold lp_law_1
        exact if_f (or_f (ρ1 := E (S.lv P') (some (S.see hs'.length))) (tb_ok (m2_ok (x := .bl true) (y := .bl true) (methIo_ok (io0 := false) (io := false) (ds := []) (ρ1 := E L (some (S.see hs'.length))) rfl rfl rfl rfl un rfl) rfl rfl)) (tb_ok (m2_ok (x := S.see hs'.length) (y := S.see hs'.length) (callIo_ok (io0 := false) (d0 := S.lv P') (io := false) (d1 := S.lv P') (ds := []) (ρ1 := E (S.lv P') (some (S.see hs'.length))) rfl rfl rfl rfl eSn rfl) rfl (see_ne S _)))) rfl
      dsimp only
      rw [e1]; dsimp only; rw [e2]
      exact ih
def C70 (ns : List Int) (ρ : En) : Prop := ∃ (q : Option Bq) (s1 s3 s4 s5 s6 o7 : Option Dt) (c8 : Option (Bool × Dt)) (s9 s10 s11 s12 s13 s14 : Option Dt), ρ = [vl (.scr ns), lv s1, bo q, lv s3, lv s4, lv s5, lv s6, oo o7, (c8.map fun x => av x.1 x.2).getD none, lv s9, lv s10, lv s11, lv s12, lv s13, lv s14]
theorem cell70 (ns : List Int) (k : Nat) (q : Option Bq) (s3 s4 s5 s6 o7 : Option Dt) (c8 : Option (Bool × Dt)) (s9 s10 s11 s12 s13 s14 : Option Dt) : Run lp_law_2 [vl (.scr ns), vl (nD k), bo q, lv s3, lv s4, lv s5, lv s6, oo o7, (c8.map fun x => av x.1 x.2).getD none, lv s9, lv s10, lv s11, lv s12, lv s13, lv s14] (C70 ns) := by
  obtain ⟨q0, e0⟩ := box_any ns k 70 (by omega)
  obtain ⟨p1, r1, D1, b1, K1, q1, hS1, hb1, e1⟩ := small_any q0 2 (by decide)
  obtain ⟨p2, r2, D2, b2, K2, q2, hS2, hb2, e2⟩ := small_any q1 2 (by decide)
  let A : Sea := ⟨p1, srt r1, D1, b1, K1⟩
  let B : Sea := ⟨p2, srt r2, D2, b2, K2⟩
  have hA : A.Ok 4 := sea_one hS1
  have hB : B.Ok 4 := sea_one hS2
  let S1 := smlD p1 r1 D1 b1 K1
  let S2 := smlD p2 r2 D2 b2 K2
  have oA : m_law_of [S1] = .ret A.d .non := of_ok hS1
  have oB : m_law_of [S2] = .ret B.d .non := of_ok hS2
  let E (q : Option Bq) (s3 s4 s5 s6 o7 : Option Dt) (c8 : Option (Bool × Dt)) : En := [vl (.scr ns), vl (nD k), bo q, lv s3, lv s4, lv s5, lv s6, oo o7, (c8.map fun x => av x.1 x.2).getD none, lv s9, lv s10, lv s11, lv s12, lv s13, lv s14]
  unfold lp_law_2
  refine run_seq (ρ1 := E (some q0) s3 s4 s5 s6 o7 c8) (setN_ok (callP (ds := [.scr ns, nD k, .int 70]) e0 rfl rfl) (sl_bo rfl)) ?_
  refine run_seq (ρ1 := E (some q2) (some S1) (some S2) s5 s6 o7 c8) (pars2_ok (x := S1) (y := S2) (ρ1 := E (some q2) s3 s4 s5 s6 o7 c8) (cons_ok (ρ1 := E (some q1) s3 s4 s5 s6 o7 c8) (callIo_ok (io0 := false) (d0 := bxD q0) (io := false) (d1 := bxD q0) (ds := [nD 2]) (ρ1 := E (some q0) s3 s4 s5 s6 o7 c8) rfl rfl rfl rfl e1 rfl) (cons_ok (callIo_ok (io0 := false) (d0 := bxD q1) (io := false) (d1 := bxD q1) (ds := [nD 2]) (ρ1 := E (some q1) s3 s4 s5 s6 o7 c8) rfl rfl rfl rfl e2 rfl) rfl)) (by cases s3 <;> rfl) (by cases s4 <;> rfl)) ?_
  refine run_seq (ρ1 := E (some q2) (some S1) (some S2) (some A.d) (some B.d) o7 c8) (pars2_ok (x := A.d) (y := B.d) (ρ1 := E (some q2) (some S1) (some S2) s5 s6 o7 c8) (cons_ok (callQ' (ds := [S1]) (r := .non) rfl rfl oA) (cons_ok (callQ' (ds := [S2]) (r := .non) rfl rfl oB) rfl)) (by cases s5 <;> rfl) (by cases s6 <;> rfl)) ?_
  let G (q : Bq) (live past : Dt) (s9 s10 s11 s12 s13 s14 : Option Dt) : En := e70 ns k q S1 S2 A B live past s9 s10 s11 s12 s13 s14
  refine run_seq (ρ1 := G q2 (A.lv []) (.lst []) s9 s10 s11 s12 s13 s14) (pars_ok (ds := [A.lv [], .lst []]) (ρ1 := E (some q2) (some S1) (some S2) (some A.d) (some B.d) o7 c8) (cons_ok (make_ok (ds := [A.d]) rfl rfl (Sea.init hA (by decide))) (cons_ok (lst_ok (ds := []) rfl (sl_le (by simp))) rfl)) ?_) ?_
  · cases o7 <;> rcases c8 with _ | ⟨c, d⟩ <;> first | rfl | (cases c <;> rfl)
  obtain ⟨x, q3, hx, e3⟩ := pick_any q2 [.int 14, .int 36] (by simp) (by simp)
  obtain ⟨N, hN, rfl⟩ : ∃ N : Nat, N ≤ 36 ∧ x = nD N := by
    simp only [List.mem_cons, List.not_mem_nil, or_false] at hx
    rcases hx with rfl | rfl
    · exact ⟨14, by decide, rfl⟩
    · exact ⟨36, by decide, rfl⟩
  obtain ⟨ρ1, g1, hJ⟩ := forGo_inv (g := gV 9) (bd := lp_law_0) nD (fun pre ρ => J70 ns k S1 S2 A B pre.length ρ) (List.range N) [] (G q3 (A.lv []) (.lst []) s9 s10 s11 s12 s13 s14) ⟨q3, [], A, s9, s10, s11, s12, s13, s14, Nat.le_refl _, (fun S hS => nomatch hS), hA, rfl, rfl⟩ (by
    intro pre t post ρ e hJ
    have hp : pre.length < 36 := by
      have := congrArg List.length e
      rw [List.nil_append, List.length_append, List.length_cons, List.length_range] at this; omega
    obtain ⟨ρ1, h1, ρ2, h2, h3⟩ := turn70 ns k S1 S2 hA hB hp hJ t
    exact ⟨ρ1, h1, ρ2, h2, by rw [List.length_append, List.length_singleton]; exact h3⟩)
  rw [List.nil_append, List.length_range] at hJ
  obtain ⟨q4, hs, C, t9, t10, t11, t12, t13, t14, hl, hh, hC, hf, rfl⟩ := hJ
  have eN : mRng1 (mCons (mCallIo 2 m_law_pick 2 (mCons (mLst (mCons (mPure (.int 14)) (mCons (mPure (.int 36)) (mPure [])))) (mPure []))) (mPure [])) (G q2 (A.lv []) (.lst []) s9 s10 s11 s12 s13 s14) = .ok ((List.range N).map nD) (G q3 (A.lv []) (.lst []) s9 s10 s11 s12 s13 s14) :=
    rngN_ok (N := N) (cons_ok (callIo_ok (io0 := false) (d0 := bxD q2) (io := false) (d1 := bxD q2) (ds := [.lst [.int 14, .int 36]]) (ρ1 := G q2 (A.lv []) (.lst []) s9 s10 s11 s12 s13 s14) rfl (cons_ok (lst_ok (ds := [.int 14, .int 36]) rfl (sl_le (by simp))) rfl) rfl rfl e3 rfl) rfl) (by omega)
  refine run_seq (for_ok eN g1) ?_
  let Fv (live : Dt) (s11 : Option Dt) : En := f70 ns k q4 S1 S2 A B live (.lst (sees hs)) t9 t10 s11 t12 t13 t14
  obtain ⟨r11, g2⟩ := back70 ns k q4 S1 S2 (A := A) (B := B) (m := 4 + 2 * N) (by omega) (.lst (sees hs)) t9 t10 t12 t13 t14 hs.length hs C t11 rfl (by omega) hh hf
  have eR : mSeqI (m2 fStepN (mVar 8) (m2 fSub (mPure (.int 0)) (mPure (.int 1)))) (G q4 (C.lv (hs.map Sea.d)) (.lst (sees hs)) t9 t10 t11 t12 t13 t14) = .ok ((sees hs).reverse) (Fv (C.lv (hs.map Sea.d)) t11) :=
    bind_ok (a := .lst ((sees hs).reverse)) (m2_ok (x := .lst (sees hs)) (y := .int (-1)) (ρ1 := Fv (C.lv (hs.map Sea.d)) t11) rfl rfl rfl) rfl
  refine run_seq (for_ok eR g2) ?_
  have un := A.undo0
  refine run_end (ρ1 := Fv (A.lv []) r11) (if_f (or_f (ρ1 := Fv (A.lv []) r11) (tb_ok (m2_ok (x := .bl false) (y := .bl false) (methIo_ok (io0 := false) (io := false) (ds := []) (ρ1 := Fv (A.lv []) r11) rfl rfl rfl rfl un rfl) rfl rfl)) (tb_ok (m2_ok (x := A.d) (y := A.d) rfl rfl (own_sea A)))) rfl) ?_
  exact ⟨some q4, some (nD k), some S1, some S2, some A.d, some B.d, some (A.lv []), some (false, .lst (sees hs)), t9, t10, r11, t12, t13, t14, rfl⟩
theorem law_true (ns : List Int) (_ : ns.length ≤ 63) : m_law [.scr ns] = .ret (.bl true) .non := by
  unfold m_law b_law
  obtain ⟨ρ', h1, _⟩ := forGo_all (g := gV 1) (bd := lp_law_2) nD (C70 ns) (List.range (cellM 3 ns)) (vl (.scr ns) :: List.replicate 14 none) ⟨none, none, none, none, none, none, none, none, none, none, none, none, none, none, rfl⟩ (by
    rintro k hk ρ ⟨q, s1, s3, s4, s5, s6, o7, c8, s9, s10, s11, s12, s13, s14, rfl⟩
    exact ⟨_, sl_lv (i := 1) (s := s1) rfl, cell70 ns k q s3 s4 s5 s6 o7 c8 s9 s10 s11 s12 s13 s14⟩)
  exact law_end (k := 15) (for_ok (cellsM_ok (k := 3) (by decide) rfl) h1) ⟨_, rfl⟩
end Dl
namespace Dl
open PySem PySem.Spec PyProof.Rows L2
/-! ### what the top has written -/
def spL (K : PySem.W.Frag) : Sp := fun vs H Q E => ∀ cl : Nat → Option (Addr × List Str), spM ⟨K, cl⟩ 1 false false m_law vs H Q E
theorem all_mk {P : Program} {w : World} {K : PySem.W.Frag} {h : Heap} {mg : Str → Option Value} {fa : Addr} (X : K.In h) (G : h.Ns mainGlobals mg) (hfa : mg "law" = some (.ref fa))
    {C_Season : Addr}
    {C_Live : Addr}
    {C_Rota : Addr}
    {f0 : Addr} {od0 an0 : Option Addr} {sl0 : Array (Option Value)} {oc0 kV0 dc0 pm0 cd0 ct0 : Value}
    {f1 : Addr} {od1 an1 : Option Addr} {sl1 : Array (Option Value)} {oc1 kV1 dc1 pm1 cd1 ct1 : Value}
    {f2 : Addr} {od2 an2 : Option Addr} {sl2 : Array (Option Value)} {oc2 kV2 dc2 pm2 cd2 ct2 : Value}
    {f3 : Addr} {od3 an3 : Option Addr} {sl3 : Array (Option Value)} {oc3 kV3 dc3 pm3 cd3 ct3 : Value}
    {f4 : Addr} {od4 an4 : Option Addr} {sl4 : Array (Option Value)} {oc4 kV4 dc4 pm4 cd4 ct4 : Value}
    {f5 : Addr} {od5 an5 : Option Addr} {sl5 : Array (Option Value)} {oc5 kV5 dc5 pm5 cd5 ct5 : Value}
    {f6 : Addr} {od6 an6 : Option Addr} {sl6 : Array (Option Value)} {oc6 kV6 dc6 pm6 cd6 ct6 : Value}
    {f7 : Addr} {od7 an7 : Option Addr} {sl7 : Array (Option Value)} {oc7 kV7 dc7 pm7 cd7 ct7 : Value}
    {f8 : Addr} {od8 an8 : Option Addr} {sl8 : Array (Option Value)} {oc8 kV8 dc8 pm8 cd8 ct8 : Value}
    {f9 : Addr} {od9 an9 : Option Addr} {sl9 : Array (Option Value)} {oc9 kV9 dc9 pm9 cd9 ct9 : Value}
    {f10 : Addr} {od10 an10 : Option Addr} {sl10 : Array (Option Value)} {oc10 kV10 dc10 pm10 cd10 ct10 : Value}
    {f11 : Addr} {od11 an11 : Option Addr} {sl11 : Array (Option Value)} {oc11 kV11 dc11 pm11 cd11 ct11 : Value}
    {f12 : Addr} {od12 an12 : Option Addr} {sl12 : Array (Option Value)} {oc12 kV12 dc12 pm12 cd12 ct12 : Value}
    {f13 : Addr} {od13 an13 : Option Addr} {sl13 : Array (Option Value)} {oc13 kV13 dc13 pm13 cd13 ct13 : Value}
    {f14 : Addr} {od14 an14 : Option Addr} {sl14 : Array (Option Value)} {oc14 kV14 dc14 pm14 cd14 ct14 : Value}
    {f15 : Addr} {od15 an15 : Option Addr} {sl15 : Array (Option Value)} {oc15 kV15 dc15 pm15 cd15 ct15 : Value}
    {f16 : Addr} {od16 an16 : Option Addr} {sl16 : Array (Option Value)} {oc16 kV16 dc16 pm16 cd16 ct16 : Value}
    {f17 : Addr} {od17 an17 : Option Addr} {sl17 : Array (Option Value)} {oc17 kV17 dc17 pm17 cd17 ct17 : Value}
    {f18 : Addr} {od18 an18 : Option Addr} {sl18 : Array (Option Value)} {oc18 kV18 dc18 pm18 cd18 ct18 : Value}
    {f19 : Addr} {od19 an19 : Option Addr} {sl19 : Array (Option Value)} {oc19 kV19 dc19 pm19 cd19 ct19 : Value}
    {f20 : Addr} {od20 an20 : Option Addr} {sl20 : Array (Option Value)} {oc20 kV20 dc20 pm20 cd20 ct20 : Value}
    {f21 : Addr} {od21 an21 : Option Addr} {sl21 : Array (Option Value)} {oc21 kV21 dc21 pm21 cd21 ct21 : Value}
    {f22 : Addr} {od22 an22 : Option Addr} {sl22 : Array (Option Value)} {oc22 kV22 dc22 pm22 cd22 ct22 : Value}
    {f23 : Addr} {od23 an23 : Option Addr} {sl23 : Array (Option Value)} {oc23 kV23 dc23 pm23 cd23 ct23 : Value}
    {f24 : Addr} {od24 an24 : Option Addr} {sl24 : Array (Option Value)} {oc24 kV24 dc24 pm24 cd24 ct24 : Value}
    {f25 : Addr} {od25 an25 : Option Addr} {sl25 : Array (Option Value)} {oc25 kV25 dc25 pm25 cd25 ct25 : Value}
    {f26 : Addr} {od26 an26 : Option Addr} {sl26 : Array (Option Value)} {oc26 kV26 dc26 pm26 cd26 ct26 : Value}
    {f27 : Addr} {od27 an27 : Option Addr} {sl27 : Array (Option Value)} {oc27 kV27 dc27 pm27 cd27 ct27 : Value}
    {f28 : Addr} {od28 an28 : Option Addr} {sl28 : Array (Option Value)} {oc28 kV28 dc28 pm28 cd28 ct28 : Value}
    {f29 : Addr} {od29 an29 : Option Addr} {sl29 : Array (Option Value)} {oc29 kV29 dc29 pm29 cd29 ct29 : Value}
    {f30 : Addr} {od30 an30 : Option Addr} {sl30 : Array (Option Value)} {oc30 kV30 dc30 pm30 cd30 ct30 : Value}
    {f31 : Addr} {od31 an31 : Option Addr} {sl31 : Array (Option Value)} {oc31 kV31 dc31 pm31 cd31 ct31 : Value}
    {f32 : Addr} {od32 an32 : Option Addr} {sl32 : Array (Option Value)} {oc32 kV32 dc32 pm32 cd32 ct32 : Value}
    {f33 : Addr} {od33 an33 : Option Addr} {sl33 : Array (Option Value)} {oc33 kV33 dc33 pm33 cd33 ct33 : Value}
    {f34 : Addr} {od34 an34 : Option Addr} {sl34 : Array (Option Value)} {oc34 kV34 dc34 pm34 cd34 ct34 : Value}
    {f35 : Addr} {od35 an35 : Option Addr} {sl35 : Array (Option Value)} {oc35 kV35 dc35 pm35 cd35 ct35 : Value}
    {f36 : Addr} {od36 an36 : Option Addr} {sl36 : Array (Option Value)} {oc36 kV36 dc36 pm36 cd36 ct36 : Value}
    {tT36 tE36 : Addr} {td36 ed36 : Option Addr} {tc36 : Value} {ts36 es36 : Array (Option Value)} {tn36 en36 : Nat}
    {f37 : Addr} {od37 an37 : Option Addr} {sl37 : Array (Option Value)} {oc37 kV37 dc37 pm37 cd37 ct37 : Value}
    {f38 : Addr} {od38 an38 : Option Addr} {sl38 : Array (Option Value)} {oc38 kV38 dc38 pm38 cd38 ct38 : Value}
    {f39 : Addr} {od39 an39 : Option Addr} {sl39 : Array (Option Value)} {oc39 kV39 dc39 pm39 cd39 ct39 : Value}
    {f40 : Addr} {od40 an40 : Option Addr} {sl40 : Array (Option Value)} {oc40 kV40 dc40 pm40 cd40 ct40 : Value}
    {f41 : Addr} {od41 an41 : Option Addr} {sl41 : Array (Option Value)} {oc41 kV41 dc41 pm41 cd41 ct41 : Value}
    {f42 : Addr} {od42 an42 : Option Addr} {sl42 : Array (Option Value)} {oc42 kV42 dc42 pm42 cd42 ct42 : Value}
    {f43 : Addr} {od43 an43 : Option Addr} {sl43 : Array (Option Value)} {oc43 kV43 dc43 pm43 cd43 ct43 : Value}
    {f44 : Addr} {od44 an44 : Option Addr} {sl44 : Array (Option Value)} {oc44 kV44 dc44 pm44 cd44 ct44 : Value}
    {f45 : Addr} {od45 an45 : Option Addr} {sl45 : Array (Option Value)} {oc45 kV45 dc45 pm45 cd45 ct45 : Value}
    {f46 : Addr} {od46 an46 : Option Addr} {sl46 : Array (Option Value)} {oc46 kV46 dc46 pm46 cd46 ct46 : Value}
    {f47 : Addr} {od47 an47 : Option Addr} {sl47 : Array (Option Value)} {oc47 kV47 dc47 pm47 cd47 ct47 : Value}
    {f48 : Addr} {od48 an48 : Option Addr} {sl48 : Array (Option Value)} {oc48 kV48 dc48 pm48 cd48 ct48 : Value}
    {f49 : Addr} {od49 an49 : Option Addr} {sl49 : Array (Option Value)} {oc49 kV49 dc49 pm49 cd49 ct49 : Value}
    {t0 : Tok}
    {t1 : Tok}
    {t2 : Tok}
    (aC_Season : PySem.W.nsIn K mainGlobals "Season" = some (some (.ref C_Season)))
    (pg_Season : PySem.W.plainGet K C_Season Str.empty = true)
    (hd_Season : PySem.W.hasDictIn K C_Season = true)
    (po_Season : PySem.W.plainOver K C_Season = true)
    (sa_Season : PySem.W.findIn K (.ref C_Season) "__setattr__" = some (some (.builtin "object.__setattr__")))
    (mk_Season : PySem.W.makesIn K C_Season = true)
    (kc_Season : PySem.W.keepIn K (.ref C_Season) = true)
    (na_Season_rota : PySem.W.findIn K (.ref C_Season) "rota" = some none)
    (na_Season_days : PySem.W.findIn K (.ref C_Season) "days" = some none)
    (na_Season_budget : PySem.W.findIn K (.ref C_Season) "budget" = some none)
    (na_Season_looks : PySem.W.findIn K (.ref C_Season) "looks" = some none)
    (na_Season_wheels : PySem.W.findIn K (.ref C_Season) "wheels" = some none)
    (na_Season_due : PySem.W.findIn K (.ref C_Season) "due" = some none)
    (ne_Season : PySem.W.findIn K (.ref C_Season) "__ne__" = some (some (.builtin "object.__ne__")))
    (iha_Season : PySem.W.findIn K (.ref C_Season) "__class__" = some (some (.builtin "object.__class__")))
    (ihn_Season : PySem.W.specialIn K (.builtin "object.__class__") "__get__" = some (some (.builtin "getset_descriptor.__get__")))
    (iht_Season : PySem.W.takesIn K (.builtin "object.__class__") = some true)
    (aC_Live : PySem.W.nsIn K mainGlobals "Live" = some (some (.ref C_Live)))
    (pg_Live : PySem.W.plainGet K C_Live Str.empty = true)
    (hd_Live : PySem.W.hasDictIn K C_Live = true)
    (po_Live : PySem.W.plainOver K C_Live = true)
    (sa_Live : PySem.W.findIn K (.ref C_Live) "__setattr__" = some (some (.builtin "object.__setattr__")))
    (mk_Live : PySem.W.makesIn K C_Live = true)
    (kc_Live : PySem.W.keepIn K (.ref C_Live) = true)
    (na_Live_past : PySem.W.findIn K (.ref C_Live) "past" = some none)
    (na_Live_season : PySem.W.findIn K (.ref C_Live) "season" = some none)
    (na_Live_is_possible : PySem.W.findIn K (.ref C_Live) "is_possible" = some none)
    (na_Live_sure : PySem.W.findIn K (.ref C_Live) "sure" = some none)
    (aC_Rota : PySem.W.nsIn K mainGlobals "Rota" = some (some (.ref C_Rota)))
    (pg_Rota : PySem.W.plainGet K C_Rota Str.empty = true)
    (hd_Rota : PySem.W.hasDictIn K C_Rota = true)
    (po_Rota : PySem.W.plainOver K C_Rota = true)
    (sa_Rota : PySem.W.findIn K (.ref C_Rota) "__setattr__" = some (some (.builtin "object.__setattr__")))
    (mk_Rota : PySem.W.makesIn K C_Rota = true)
    (kc_Rota : PySem.W.keepIn K (.ref C_Rota) = true)
    (na_Rota_places : PySem.W.findIn K (.ref C_Rota) "places" = some none)
    (na_Rota_rows : PySem.W.findIn K (.ref C_Rota) "rows" = some none)
    (na_Rota_text : PySem.W.findIn K (.ref C_Rota) "text" = some none)
    (ne_Rota : PySem.W.findIn K (.ref C_Rota) "__ne__" = some (some (.builtin "object.__ne__")))
    (iha_Rota : PySem.W.findIn K (.ref C_Rota) "__class__" = some (some (.builtin "object.__class__")))
    (ihn_Rota : PySem.W.specialIn K (.builtin "object.__class__") "__get__" = some (some (.builtin "getset_descriptor.__get__")))
    (iht_Rota : PySem.W.takesIn K (.builtin "object.__class__") = some true)
    (a0 : PySem.W.nsIn K mainGlobals "is_integer" = some (some (.ref f0)))
    (l0 : K.lookup f0 = some ⟨oc0, od0, .func (PySem.W.fnOf "is_integer" "is_integer" (defArgs s_is_integer) (defBody s_is_integer) (defScope s_is_integer) .none kV0 dc0 pm0 an0 cd0 ct0), sl0⟩)
    (c0 : PySem.W.codeIn K cd0 "is_integer" = true)
    (k0 : PySem.W.keepIn K (.ref f0) = true)
    (a1 : PySem.W.nsIn K mainGlobals "is_sequence" = some (some (.ref f1)))
    (l1 : K.lookup f1 = some ⟨oc1, od1, .func (PySem.W.fnOf "is_sequence" "is_sequence" (defArgs s_is_sequence) (defBody s_is_sequence) (defScope s_is_sequence) .none kV1 dc1 pm1 an1 cd1 ct1), sl1⟩)
    (c1 : PySem.W.codeIn K cd1 "is_sequence" = true)
    (k1 : PySem.W.keepIn K (.ref f1) = true)
    (a2 : PySem.W.nsIn K mainGlobals "way" = some (some (.ref f2)))
    (l2 : K.lookup f2 = some ⟨oc2, od2, .func (PySem.W.fnOf "way" "way" (defArgs s_way) (defBody s_way) (defScope s_way) .none kV2 dc2 pm2 an2 cd2 ct2), sl2⟩)
    (c2 : PySem.W.codeIn K cd2 "way" = true)
    (k2 : PySem.W.keepIn K (.ref f2) = true)
    (a3 : PySem.W.nsIn K mainGlobals "every_look" = some (some (.ref f3)))
    (l3 : K.lookup f3 = some ⟨oc3, od3, .func (PySem.W.fnOf "every_look" "every_look" (defArgs s_every_look) (defBody s_every_look) (defScope s_every_look) .none kV3 dc3 pm3 an3 cd3 ct3), sl3⟩)
    (c3 : PySem.W.codeIn K cd3 "every_look" = true)
    (k3 : PySem.W.keepIn K (.ref f3) = true)
    (a4 : PySem.W.nsIn K mainGlobals "due_days" = some (some (.ref f4)))
    (l4 : K.lookup f4 = some ⟨oc4, od4, .func (PySem.W.fnOf "due_days" "due_days" (defArgs s_due_days) (defBody s_due_days) (defScope s_due_days) .none kV4 dc4 pm4 an4 cd4 ct4), sl4⟩)
    (c4 : PySem.W.codeIn K cd4 "due_days" = true)
    (k4 : PySem.W.keepIn K (.ref f4) = true)
    (a5 : PySem.W.nsIn K mainGlobals "seen_by_day" = some (some (.ref f5)))
    (l5 : K.lookup f5 = some ⟨oc5, od5, .func (PySem.W.fnOf "seen_by_day" "seen_by_day" (defArgs s_seen_by_day) (defBody s_seen_by_day) (defScope s_seen_by_day) .none kV5 dc5 pm5 an5 cd5 ct5), sl5⟩)
    (c5 : PySem.W.codeIn K cd5 "seen_by_day" = true)
    (k5 : PySem.W.keepIn K (.ref f5) = true)
    (a6 : PySem.W.findIn K (.ref C_Live) "__len__" = some (some (.ref f6)))
    (i6 : PySem.W.isFn K (.ref f6) = true)
    (l6 : K.lookup f6 = some ⟨oc6, od6, .func (PySem.W.fnOf "__len__" "Live.__len__" (defArgs s_Live_len) (defBody s_Live_len) (defScope s_Live_len) .none kV6 dc6 pm6 an6 cd6 ct6), sl6⟩)
    (c6 : PySem.W.codeIn K cd6 "Live.__len__" = true)
    (k6 : PySem.W.keepIn K (.ref f6) = true)
    (a7 : PySem.W.findIn K (.ref C_Rota) "__eq__" = some (some (.ref f7)))
    (i7 : PySem.W.isFn K (.ref f7) = true)
    (l7 : K.lookup f7 = some ⟨oc7, od7, .func (PySem.W.fnOf "__eq__" "Rota.__eq__" (defArgs s_Rota_eq) (defBody s_Rota_eq) (defScope s_Rota_eq) .none kV7 dc7 pm7 an7 cd7 ct7), sl7⟩)
    (c7 : PySem.W.codeIn K cd7 "Rota.__eq__" = true)
    (k7 : PySem.W.keepIn K (.ref f7) = true)
    (a8 : PySem.W.nsIn K mainGlobals "text_of_rota" = some (some (.ref f8)))
    (l8 : K.lookup f8 = some ⟨oc8, od8, .func (PySem.W.fnOf "text_of_rota" "text_of_rota" (defArgs s_text_of_rota) (defBody s_text_of_rota) (defScope s_text_of_rota) .none kV8 dc8 pm8 an8 cd8 ct8), sl8⟩)
    (c8 : PySem.W.codeIn K cd8 "text_of_rota" = true)
    (k8 : PySem.W.keepIn K (.ref f8) = true)
    (a9 : PySem.W.nsIn K mainGlobals "_law_box" = some (some (.ref f9)))
    (l9 : K.lookup f9 = some ⟨oc9, od9, .func (PySem.W.fnOf "_law_box" "_law_box" (defArgs s_law_box) (defBody s_law_box) (defScope s_law_box) .none kV9 dc9 pm9 an9 cd9 ct9), sl9⟩)
    (c9 : PySem.W.codeIn K cd9 "_law_box" = true)
    (k9 : PySem.W.keepIn K (.ref f9) = true)
    (a10 : PySem.W.nsIn K mainGlobals "_law_take" = some (some (.ref f10)))
    (l10 : K.lookup f10 = some ⟨oc10, od10, .func (PySem.W.fnOf "_law_take" "_law_take" (defArgs s_law_take) (defBody s_law_take) (defScope s_law_take) .none kV10 dc10 pm10 an10 cd10 ct10), sl10⟩)
    (c10 : PySem.W.codeIn K cd10 "_law_take" = true)
    (k10 : PySem.W.keepIn K (.ref f10) = true)
    (a11 : PySem.W.nsIn K mainGlobals "_law_days" = some (some (.ref f11)))
    (l11 : K.lookup f11 = some ⟨oc11, od11, .func (PySem.W.fnOf "_law_days" "_law_days" (defArgs s_law_days) (defBody s_law_days) (defScope s_law_days) .none kV11 dc11 pm11 an11 cd11 ct11), sl11⟩)
    (c11 : PySem.W.codeIn K cd11 "_law_days" = true)
    (k11 : PySem.W.keepIn K (.ref f11) = true)
    (a12 : PySem.W.nsIn K mainGlobals "_law_sides" = some (some (.ref f12)))
    (l12 : K.lookup f12 = some ⟨oc12, od12, .func (PySem.W.fnOf "_law_sides" "_law_sides" (defArgs s_law_sides) (defBody s_law_sides) (defScope s_law_sides) .none kV12 dc12 pm12 an12 cd12 ct12), sl12⟩)
    (c12 : PySem.W.codeIn K cd12 "_law_sides" = true)
    (k12 : PySem.W.keepIn K (.ref f12) = true)
    (a13 : PySem.W.nsIn K mainGlobals "is_from" = some (some (.ref f13)))
    (l13 : K.lookup f13 = some ⟨oc13, od13, .func (PySem.W.fnOf "is_from" "is_from" (defArgs s_is_from) (defBody s_is_from) (defScope s_is_from) .none kV13 dc13 pm13 an13 cd13 ct13), sl13⟩)
    (c13 : PySem.W.codeIn K cd13 "is_from" = true)
    (k13 : PySem.W.keepIn K (.ref f13) = true)
    (a14 : PySem.W.nsIn K mainGlobals "due_in_round" = some (some (.ref f14)))
    (l14 : K.lookup f14 = some ⟨oc14, od14, .func (PySem.W.fnOf "due_in_round" "due_in_round" (defArgs s_due_in_round) (defBody s_due_in_round) (defScope s_due_in_round) .none kV14 dc14 pm14 an14 cd14 ct14), sl14⟩)
    (c14 : PySem.W.codeIn K cd14 "due_in_round" = true)
    (k14 : PySem.W.keepIn K (.ref f14) = true)
    (a15 : PySem.W.nsIn K mainGlobals "stretches_of" = some (some (.ref f15)))
    (l15 : K.lookup f15 = some ⟨oc15, od15, .func (PySem.W.fnOf "stretches_of" "stretches_of" (defArgs s_stretches_of) (defBody s_stretches_of) (defScope s_stretches_of) .none kV15 dc15 pm15 an15 cd15 ct15), sl15⟩)
    (c15 : PySem.W.codeIn K cd15 "stretches_of" = true)
    (k15 : PySem.W.keepIn K (.ref f15) = true)
    (a16 : PySem.W.nsIn K mainGlobals "_law_pick" = some (some (.ref f16)))
    (l16 : K.lookup f16 = some ⟨oc16, od16, .func (PySem.W.fnOf "_law_pick" "_law_pick" (defArgs s_law_pick) (defBody s_law_pick) (defScope s_law_pick) .none kV16 dc16 pm16 an16 cd16 ct16), sl16⟩)
    (c16 : PySem.W.codeIn K cd16 "_law_pick" = true)
    (k16 : PySem.W.keepIn K (.ref f16) = true)
    (a17 : PySem.W.nsIn K mainGlobals "_law_mixed" = some (some (.ref f17)))
    (l17 : K.lookup f17 = some ⟨oc17, od17, .func (PySem.W.fnOf "_law_mixed" "_law_mixed" (defArgs s_law_mixed) (defBody s_law_mixed) (defScope s_law_mixed) .none kV17 dc17 pm17 an17 cd17 ct17), sl17⟩)
    (c17 : PySem.W.codeIn K cd17 "_law_mixed" = true)
    (k17 : PySem.W.keepIn K (.ref f17) = true)
    (a18 : PySem.W.nsIn K mainGlobals "_law_looks" = some (some (.ref f18)))
    (l18 : K.lookup f18 = some ⟨oc18, od18, .func (PySem.W.fnOf "_law_looks" "_law_looks" (defArgs s_law_looks) (defBody s_law_looks) (defScope s_law_looks) .none kV18 dc18 pm18 an18 cd18 ct18), sl18⟩)
    (c18 : PySem.W.codeIn K cd18 "_law_looks" = true)
    (k18 : PySem.W.keepIn K (.ref f18) = true)
    (a19 : PySem.W.nsIn K mainGlobals "is_below" = some (some (.ref f19)))
    (l19 : K.lookup f19 = some ⟨oc19, od19, .func (PySem.W.fnOf "is_below" "is_below" (defArgs s_is_below) (defBody s_is_below) (defScope s_is_below) .none kV19 dc19 pm19 an19 cd19 ct19), sl19⟩)
    (c19 : PySem.W.codeIn K cd19 "is_below" = true)
    (k19 : PySem.W.keepIn K (.ref f19) = true)
    (a20 : PySem.W.findIn K (.ref C_Season) "__eq__" = some (some (.ref f20)))
    (i20 : PySem.W.isFn K (.ref f20) = true)
    (l20 : K.lookup f20 = some ⟨oc20, od20, .func (PySem.W.fnOf "__eq__" "Season.__eq__" (defArgs s_Season_eq) (defBody s_Season_eq) (defScope s_Season_eq) .none kV20 dc20 pm20 an20 cd20 ct20), sl20⟩)
    (c20 : PySem.W.codeIn K cd20 "Season.__eq__" = true)
    (k20 : PySem.W.keepIn K (.ref f20) = true)
    (a21 : PySem.W.nsIn K mainGlobals "parts_of" = some (some (.ref f21)))
    (l21 : K.lookup f21 = some ⟨oc21, od21, .func (PySem.W.fnOf "parts_of" "parts_of" (defArgs s_parts_of) (defBody s_parts_of) (defScope s_parts_of) .none kV21 dc21 pm21 an21 cd21 ct21), sl21⟩)
    (c21 : PySem.W.codeIn K cd21 "parts_of" = true)
    (k21 : PySem.W.keepIn K (.ref f21) = true)
    (a22 : PySem.W.nsIn K mainGlobals "_law_rota" = some (some (.ref f22)))
    (l22 : K.lookup f22 = some ⟨oc22, od22, .func (PySem.W.fnOf "_law_rota" "_law_rota" (defArgs s_law_rota) (defBody s_law_rota) (defScope s_law_rota) .none kV22 dc22 pm22 an22 cd22 ct22), sl22⟩)
    (c22 : PySem.W.codeIn K cd22 "_law_rota" = true)
    (k22 : PySem.W.keepIn K (.ref f22) = true)
    (a23 : PySem.W.nsIn K mainGlobals "_law_missed" = some (some (.ref f23)))
    (l23 : K.lookup f23 = some ⟨oc23, od23, .func (PySem.W.fnOf "_law_missed" "_law_missed" (defArgs s_law_missed) (defBody s_law_missed) (defScope s_law_missed) .none kV23 dc23 pm23 an23 cd23 ct23), sl23⟩)
    (c23 : PySem.W.codeIn K cd23 "_law_missed" = true)
    (k23 : PySem.W.keepIn K (.ref f23) = true)
    (a24 : PySem.W.nsIn K mainGlobals "_law_look_at" = some (some (.ref f24)))
    (l24 : K.lookup f24 = some ⟨oc24, od24, .func (PySem.W.fnOf "_law_look_at" "_law_look_at" (defArgs s_law_look_at) (defBody s_law_look_at) (defScope s_law_look_at) .none kV24 dc24 pm24 an24 cd24 ct24), sl24⟩)
    (c24 : PySem.W.codeIn K cd24 "_law_look_at" = true)
    (k24 : PySem.W.keepIn K (.ref f24) = true)
    (a25 : PySem.W.nsIn K mainGlobals "need_wheel" = some (some (.ref f25)))
    (l25 : K.lookup f25 = some ⟨oc25, od25, .func (PySem.W.fnOf "need_wheel" "need_wheel" (defArgs s_need_wheel) (defBody s_need_wheel) (defScope s_need_wheel) .none kV25 dc25 pm25 an25 cd25 ct25), sl25⟩)
    (c25 : PySem.W.codeIn K cd25 "need_wheel" = true)
    (k25 : PySem.W.keepIn K (.ref f25) = true)
    (a26 : PySem.W.nsIn K mainGlobals "is_look" = some (some (.ref f26)))
    (l26 : K.lookup f26 = some ⟨oc26, od26, .func (PySem.W.fnOf "is_look" "is_look" (defArgs s_is_look) (defBody s_is_look) (defScope s_is_look) .none kV26 dc26 pm26 an26 cd26 ct26), sl26⟩)
    (c26 : PySem.W.codeIn K cd26 "is_look" = true)
    (k26 : PySem.W.keepIn K (.ref f26) = true)
    (a27 : PySem.W.nsIn K mainGlobals "cost" = some (some (.ref f27)))
    (l27 : K.lookup f27 = some ⟨oc27, od27, .func (PySem.W.fnOf "cost" "cost" (defArgs s_cost) (defBody s_cost) (defScope s_cost) .none kV27 dc27 pm27 an27 cd27 ct27), sl27⟩)
    (c27 : PySem.W.codeIn K cd27 "cost" = true)
    (k27 : PySem.W.keepIn K (.ref f27) = true)
    (a28 : PySem.W.nsIn K mainGlobals "is_unlike" = some (some (.ref f28)))
    (l28 : K.lookup f28 = some ⟨oc28, od28, .func (PySem.W.fnOf "is_unlike" "is_unlike" (defArgs s_is_unlike) (defBody s_is_unlike) (defScope s_is_unlike) .none kV28 dc28 pm28 an28 cd28 ct28), sl28⟩)
    (c28 : PySem.W.codeIn K cd28 "is_unlike" = true)
    (k28 : PySem.W.keepIn K (.ref f28) = true)
    (a29 : PySem.W.nsIn K mainGlobals "_law_season" = some (some (.ref f29)))
    (l29 : K.lookup f29 = some ⟨oc29, od29, .func (PySem.W.fnOf "_law_season" "_law_season" (defArgs s_law_season) (defBody s_law_season) (defScope s_law_season) .none kV29 dc29 pm29 an29 cd29 ct29), sl29⟩)
    (c29 : PySem.W.codeIn K cd29 "_law_season" = true)
    (k29 : PySem.W.keepIn K (.ref f29) = true)
    (a30 : PySem.W.nsIn K mainGlobals "round_days" = some (some (.ref f30)))
    (l30 : K.lookup f30 = some ⟨oc30, od30, .func (PySem.W.fnOf "round_days" "round_days" (defArgs s_round_days) (defBody s_round_days) (defScope s_round_days) .none kV30 dc30 pm30 an30 cd30 ct30), sl30⟩)
    (c30 : PySem.W.codeIn K cd30 "round_days" = true)
    (k30 : PySem.W.keepIn K (.ref f30) = true)
    (a31 : PySem.W.nsIn K mainGlobals "can_be" = some (some (.ref f31)))
    (l31 : K.lookup f31 = some ⟨oc31, od31, .func (PySem.W.fnOf "can_be" "can_be" (defArgs s_can_be) (defBody s_can_be) (defScope s_can_be) .none kV31 dc31 pm31 an31 cd31 ct31), sl31⟩)
    (c31 : PySem.W.codeIn K cd31 "can_be" = true)
    (k31 : PySem.W.keepIn K (.ref f31) = true)
    (a32 : PySem.W.nsIn K mainGlobals "is_row" = some (some (.ref f32)))
    (l32 : K.lookup f32 = some ⟨oc32, od32, .func (PySem.W.fnOf "is_row" "is_row" (defArgs s_is_row) (defBody s_is_row) (defScope s_is_row) .none kV32 dc32 pm32 an32 cd32 ct32), sl32⟩)
    (c32 : PySem.W.codeIn K cd32 "is_row" = true)
    (k32 : PySem.W.keepIn K (.ref f32) = true)
    (a33 : PySem.W.nsIn K mainGlobals "every_due" = some (some (.ref f33)))
    (l33 : K.lookup f33 = some ⟨oc33, od33, .func (PySem.W.fnOf "every_due" "every_due" (defArgs s_every_due) (defBody s_every_due) (defScope s_every_due) .none kV33 dc33 pm33 an33 cd33 ct33), sl33⟩)
    (c33 : PySem.W.codeIn K cd33 "every_due" = true)
    (k33 : PySem.W.keepIn K (.ref f33) = true)
    (a34 : PySem.W.nsIn K mainGlobals "possible" = some (some (.ref f34)))
    (l34 : K.lookup f34 = some ⟨oc34, od34, .func (PySem.W.fnOf "possible" "possible" (defArgs s_possible) (defBody s_possible) (defScope s_possible) .none kV34 dc34 pm34 an34 cd34 ct34), sl34⟩)
    (c34 : PySem.W.codeIn K cd34 "possible" = true)
    (k34 : PySem.W.keepIn K (.ref f34) = true)
    (a35 : PySem.W.findIn K (.ref C_Rota) "__init__" = some (some (.ref f35)))
    (i35 : PySem.W.isFn K (.ref f35) = true)
    (l35 : K.lookup f35 = some ⟨oc35, od35, .func (PySem.W.fnOf "__init__" "Rota.__init__" (defArgs s_Rota_init) (defBody s_Rota_init) (defScope s_Rota_init) .none kV35 dc35 pm35 an35 cd35 ct35), sl35⟩)
    (c35 : PySem.W.codeIn K cd35 "Rota.__init__" = true)
    (k35 : PySem.W.keepIn K (.ref f35) = true)
    (a36 : PySem.W.findIn K (.ref C_Season) "__init__" = some (some (.ref f36)))
    (i36 : PySem.W.isFn K (.ref f36) = true)
    (l36 : K.lookup f36 = some ⟨oc36, od36, .func (PySem.W.fnOf "__init__" "Season.__init__" (defArgs s_Season_init) (defBody s_Season_init) (defScope s_Season_init) (.ref tT36) kV36 dc36 pm36 an36 cd36 ct36), sl36⟩)
    (lt36 : K.lookup tT36 = some ⟨tc36, td36, .seq #[.ref tE36] tn36, ts36⟩)
    (le36 : K.lookup tE36 = some ⟨.type "tuple", ed36, .seq #[] en36, es36⟩)
    (c36 : PySem.W.codeIn K cd36 "Season.__init__" = true)
    (k36 : PySem.W.keepIn K (.ref f36) = true)
    (a37 : PySem.W.nsIn K mainGlobals "_law_made" = some (some (.ref f37)))
    (l37 : K.lookup f37 = some ⟨oc37, od37, .func (PySem.W.fnOf "_law_made" "_law_made" (defArgs s_law_made) (defBody s_law_made) (defScope s_law_made) .none kV37 dc37 pm37 an37 cd37 ct37), sl37⟩)
    (c37 : PySem.W.codeIn K cd37 "_law_made" = true)
    (k37 : PySem.W.keepIn K (.ref f37) = true)
    (a38 : PySem.W.findIn K (.ref C_Season) "seen" = some (some (.ref f38)))
    (i38 : PySem.W.isFn K (.ref f38) = true)
    (l38 : K.lookup f38 = some ⟨oc38, od38, .func (PySem.W.fnOf "seen" "Season.seen" (defArgs s_Season_seen) (defBody s_Season_seen) (defScope s_Season_seen) .none kV38 dc38 pm38 an38 cd38 ct38), sl38⟩)
    (c38 : PySem.W.codeIn K cd38 "Season.seen" = true)
    (k38 : PySem.W.keepIn K (.ref f38) = true)
    (a39 : PySem.W.nsIn K mainGlobals "_law_of" = some (some (.ref f39)))
    (l39 : K.lookup f39 = some ⟨oc39, od39, .func (PySem.W.fnOf "_law_of" "_law_of" (defArgs s_law_of) (defBody s_law_of) (defScope s_law_of) .none kV39 dc39 pm39 an39 cd39 ct39), sl39⟩)
    (c39 : PySem.W.codeIn K cd39 "_law_of" = true)
    (k39 : PySem.W.keepIn K (.ref f39) = true)
    (a40 : PySem.W.nsIn K mainGlobals "can_show" = some (some (.ref f40)))
    (l40 : K.lookup f40 = some ⟨oc40, od40, .func (PySem.W.fnOf "can_show" "can_show" (defArgs s_can_show) (defBody s_can_show) (defScope s_can_show) .none kV40 dc40 pm40 an40 cd40 ct40), sl40⟩)
    (c40 : PySem.W.codeIn K cd40 "can_show" = true)
    (k40 : PySem.W.keepIn K (.ref f40) = true)
    (a41 : PySem.W.nsIn K mainGlobals "sure_sides" = some (some (.ref f41)))
    (l41 : K.lookup f41 = some ⟨oc41, od41, .func (PySem.W.fnOf "sure_sides" "sure_sides" (defArgs s_sure_sides) (defBody s_sure_sides) (defScope s_sure_sides) .none kV41 dc41 pm41 an41 cd41 ct41), sl41⟩)
    (c41 : PySem.W.codeIn K cd41 "sure_sides" = true)
    (k41 : PySem.W.keepIn K (.ref f41) = true)
    (a42 : PySem.W.findIn K (.ref C_Live) "show" = some (some (.ref f42)))
    (i42 : PySem.W.isFn K (.ref f42) = true)
    (l42 : K.lookup f42 = some ⟨oc42, od42, .func (PySem.W.fnOf "show" "Live.show" (defArgs s_Live_show) (defBody s_Live_show) (defScope s_Live_show) .none kV42 dc42 pm42 an42 cd42 ct42), sl42⟩)
    (c42 : PySem.W.codeIn K cd42 "Live.show" = true)
    (k42 : PySem.W.keepIn K (.ref f42) = true)
    (a43 : PySem.W.findIn K (.ref C_Live) "__init__" = some (some (.ref f43)))
    (i43 : PySem.W.isFn K (.ref f43) = true)
    (l43 : K.lookup f43 = some ⟨oc43, od43, .func (PySem.W.fnOf "__init__" "Live.__init__" (defArgs s_Live_init) (defBody s_Live_init) (defScope s_Live_init) .none kV43 dc43 pm43 an43 cd43 ct43), sl43⟩)
    (c43 : PySem.W.codeIn K cd43 "Live.__init__" = true)
    (k43 : PySem.W.keepIn K (.ref f43) = true)
    (a44 : PySem.W.findIn K (.ref C_Live) "go_on" = some (some (.ref f44)))
    (i44 : PySem.W.isFn K (.ref f44) = true)
    (l44 : K.lookup f44 = some ⟨oc44, od44, .func (PySem.W.fnOf "go_on" "Live.go_on" (defArgs s_Live_go_on) (defBody s_Live_go_on) (defScope s_Live_go_on) .none kV44 dc44 pm44 an44 cd44 ct44), sl44⟩)
    (c44 : PySem.W.codeIn K cd44 "Live.go_on" = true)
    (k44 : PySem.W.keepIn K (.ref f44) = true)
    (a45 : PySem.W.findIn K (.ref C_Live) "undo" = some (some (.ref f45)))
    (i45 : PySem.W.isFn K (.ref f45) = true)
    (l45 : K.lookup f45 = some ⟨oc45, od45, .func (PySem.W.fnOf "undo" "Live.undo" (defArgs s_Live_undo) (defBody s_Live_undo) (defScope s_Live_undo) .none kV45 dc45 pm45 an45 cd45 ct45), sl45⟩)
    (c45 : PySem.W.codeIn K cd45 "Live.undo" = true)
    (k45 : PySem.W.keepIn K (.ref f45) = true)
    (a46 : PySem.W.findIn K (.ref C_Live) "look" = some (some (.ref f46)))
    (i46 : PySem.W.isFn K (.ref f46) = true)
    (l46 : K.lookup f46 = some ⟨oc46, od46, .func (PySem.W.fnOf "look" "Live.look" (defArgs s_Live_look) (defBody s_Live_look) (defScope s_Live_look) .none kV46 dc46 pm46 an46 cd46 ct46), sl46⟩)
    (c46 : PySem.W.codeIn K cd46 "Live.look" = true)
    (k46 : PySem.W.keepIn K (.ref f46) = true)
    (a47 : PySem.W.findIn K (.ref C_Live) "several" = some (some (.ref f47)))
    (i47 : PySem.W.isFn K (.ref f47) = true)
    (l47 : K.lookup f47 = some ⟨oc47, od47, .func (PySem.W.fnOf "several" "Live.several" (defArgs s_Live_several) (defBody s_Live_several) (defScope s_Live_several) .none kV47 dc47 pm47 an47 cd47 ct47), sl47⟩)
    (c47 : PySem.W.codeIn K cd47 "Live.several" = true)
    (k47 : PySem.W.keepIn K (.ref f47) = true)
    (a48 : PySem.W.findIn K (.ref C_Live) "follow" = some (some (.ref f48)))
    (i48 : PySem.W.isFn K (.ref f48) = true)
    (l48 : K.lookup f48 = some ⟨oc48, od48, .func (PySem.W.fnOf "follow" "Live.follow" (defArgs s_Live_follow) (defBody s_Live_follow) (defScope s_Live_follow) .none kV48 dc48 pm48 an48 cd48 ct48), sl48⟩)
    (c48 : PySem.W.codeIn K cd48 "Live.follow" = true)
    (k48 : PySem.W.keepIn K (.ref f48) = true)
    (a49 : PySem.W.nsIn K mainGlobals "law" = some (some (.ref f49)))
    (l49 : K.lookup f49 = some ⟨oc49, od49, .func (PySem.W.fnOf "law" "law" (defArgs s_law) (defBody s_law) (defScope s_law) .none kV49 dc49 pm49 an49 cd49 ct49), sl49⟩)
    (c49 : PySem.W.codeIn K cd49 "law" = true)
    (k49 : PySem.W.keepIn K (.ref f49) = true)
    (z0 : PySem.W.nsIn K mainGlobals "abs" = some none)
    (z1 : PySem.W.nsIn K mainGlobals "all" = some none)
    (z2 : PySem.W.nsIn K mainGlobals "bool" = some none)
    (z3 : PySem.W.nsIn K mainGlobals "enumerate" = some none)
    (z4 : PySem.W.nsIn K mainGlobals "int" = some none)
    (z5 : PySem.W.nsIn K mainGlobals "isinstance" = some none)
    (z6 : PySem.W.nsIn K mainGlobals "len" = some none)
    (z7 : PySem.W.nsIn K mainGlobals "list" = some none)
    (z8 : PySem.W.nsIn K mainGlobals "max" = some none)
    (z9 : PySem.W.nsIn K mainGlobals "min" = some none)
    (z10 : PySem.W.nsIn K mainGlobals "range" = some none)
    (z11 : PySem.W.nsIn K mainGlobals "sorted" = some none)
    (z12 : PySem.W.nsIn K mainGlobals "str" = some none)
    (z13 : PySem.W.nsIn K mainGlobals "tuple" = some none)
    (y0 : PySem.W.nsIn K mainGlobals "PAIR_rotas" = some (some (.int 2 t0)))
    (y1 : PySem.W.nsIn K mainGlobals "PAIR_seasons" = some (some (.int 2 t1)))
    (y2 : PySem.W.nsIn K mainGlobals "TRIPLE" = some (some (.int 3 t2)))
    : ∃ fd : FuncData, (∀ (s : Shared) (v : Value), BindsTo s fd ⟨[v], []⟩ [("_law_script", v)]) ∧ ∀ base : Heap, K.In base → base.Ns mainGlobals mg → FnOk P w K mg base (L2.CX P w) 15 fa fd ["_law_script"] (spL K) := by
  have e := hfa.symm.trans (PySem.W.mg_of X G a49)
  cases e
  have F0 := fun_mk (st := s_is_integer) l0 c0 k0
  have b0 := F0.binds (ps := ["value"]) fun _ _ _ _ _ _ us hl => match us, hl with | [_], _ => rfl
  have F1 := fun_mk (st := s_is_sequence) l1 c1 k1
  have b1 := F1.binds (ps := ["value"]) fun _ _ _ _ _ _ us hl => match us, hl with | [_], _ => rfl
  have F2 := fun_mk (st := s_way) l2 c2 k2
  have b2 := F2.binds (ps := ["rota", "wheel"]) fun _ _ _ _ _ _ us hl => match us, hl with | [_, _], _ => rfl
  have F3 := fun_mk (st := s_every_look) l3 c3 k3
  have b3 := F3.binds (ps := ["rota", "days"]) fun _ _ _ _ _ _ us hl => match us, hl with | [_, _], _ => rfl
  have F4 := fun_mk (st := s_due_days) l4 c4 k4
  have b4 := F4.binds (ps := ["season", "wheel"]) fun _ _ _ _ _ _ us hl => match us, hl with | [_, _], _ => rfl
  have F5 := fun_mk (st := s_seen_by_day) l5 c5 k5
  have b5 := F5.binds (ps := ["season", "wheel"]) fun _ _ _ _ _ _ us hl => match us, hl with | [_, _], _ => rfl
  have F6 := fun_mk (st := s_Live_len) l6 c6 k6
  have b6 := F6.binds (ps := ["self"]) fun _ _ _ _ _ _ us hl => match us, hl with | [_], _ => rfl
  have F7 := fun_mk (st := s_Rota_eq) l7 c7 k7
  have b7 := F7.binds (ps := ["self", "other"]) fun _ _ _ _ _ _ us hl => match us, hl with | [_, _], _ => rfl
  have F8 := fun_mk (st := s_text_of_rota) l8 c8 k8
  have b8 := F8.binds (ps := ["places", "rows"]) fun _ _ _ _ _ _ us hl => match us, hl with | [_, _], _ => rfl
  have F9 := fun_mk (st := s_law_box) l9 c9 k9
  have b9 := F9.binds (ps := ["_law_script", "_law_k", "_law_own"]) fun _ _ _ _ _ _ us hl => match us, hl with | [_, _, _], _ => rfl
  have F10 := fun_mk (st := s_law_take) l10 c10 k10
  have b10 := F10.binds (ps := ["_law_box_here", "_law_bound"]) fun _ _ _ _ _ _ us hl => match us, hl with | [_, _], _ => rfl
  have F11 := fun_mk (st := s_law_days) l11 c11 k11
  have b11 := F11.binds (ps := ["_law_told", "_law_days_here"]) fun _ _ _ _ _ _ us hl => match us, hl with | [_, _], _ => rfl
  have F12 := fun_mk (st := s_law_sides) l12 c12 k12
  have b12 := F12.binds (ps := ["_law_places", "_law_due", "_law_missed_here", "_law_day"]) fun _ _ _ _ _ _ us hl => match us, hl with | [_, _, _, _], _ => rfl
  have F13 := fun_mk (st := s_is_from) l13 c13 k13
  have b13 := F13.binds (ps := ["value", "least"]) fun _ _ _ _ _ _ us hl => match us, hl with | [_, _], _ => rfl
  have F14 := fun_mk (st := s_due_in_round) l14 c14 k14
  have b14 := F14.binds (ps := ["rota", "wheel"]) fun _ _ _ _ _ _ us hl => match us, hl with | [_, _], _ => rfl
  have F15 := fun_mk (st := s_stretches_of) l15 c15 k15
  have b15 := F15.binds (ps := ["season", "wheel"]) fun _ _ _ _ _ _ us hl => match us, hl with | [_, _], _ => rfl
  have F16 := fun_mk (st := s_law_pick) l16 c16 k16
  have b16 := F16.binds (ps := ["_law_box_here", "_law_items"]) fun _ _ _ _ _ _ us hl => match us, hl with | [_, _], _ => rfl
  have F17 := fun_mk (st := s_law_mixed) l17 c17 k17
  have b17 := F17.binds (ps := ["_law_box_here", "_law_items"]) fun _ _ _ _ _ _ us hl => match us, hl with | [_, _], _ => rfl
  have F18 := fun_mk (st := s_law_looks) l18 c18 k18
  have b18 := F18.binds (ps := ["_law_box_here", "_law_places", "_law_days_here", "_law_due", "_law_missed_here"]) fun _ _ _ _ _ _ us hl => match us, hl with | [_, _, _, _, _], _ => rfl
  have F19 := fun_mk (st := s_is_below) l19 c19 k19
  have b19 := F19.binds (ps := ["value", "bound"]) fun _ _ _ _ _ _ us hl => match us, hl with | [_, _], _ => rfl
  have F20 := fun_mk (st := s_Season_eq) l20 c20 k20
  have b20 := F20.binds (ps := ["self", "other"]) fun _ _ _ _ _ _ us hl => match us, hl with | [_, _], _ => rfl
  have F21 := fun_mk (st := s_parts_of) l21 c21 k21
  have b21 := F21.binds (ps := ["season", "missed", "made"]) fun _ _ _ _ _ _ us hl => match us, hl with | [_, _, _], _ => rfl
  have F22 := fun_mk (st := s_law_rota) l22 c22 k22
  have b22 := F22.binds (ps := ["_law_box_here", "_law_most", "_law_rows"]) fun _ _ _ _ _ _ us hl => match us, hl with | [_, _, _], _ => rfl
  have F23 := fun_mk (st := s_law_missed) l23 c23 k23
  have b23 := F23.binds (ps := ["_law_box_here", "_law_due", "_law_most"]) fun _ _ _ _ _ _ us hl => match us, hl with | [_, _, _], _ => rfl
  have F24 := fun_mk (st := s_law_look_at) l24 c24 k24
  have b24 := F24.binds (ps := ["_law_live"]) fun _ _ _ _ _ _ us hl => match us, hl with | [_], _ => rfl
  have F25 := fun_mk (st := s_need_wheel) l25 c25 k25
  have b25 := F25.binds (ps := ["rota", "wheel"]) fun _ _ _ _ _ _ us hl => match us, hl with | [_, _], _ => rfl
  have F26 := fun_mk (st := s_is_look) l26 c26 k26
  have b26 := F26.binds (ps := ["value", "rota", "days"]) fun _ _ _ _ _ _ us hl => match us, hl with | [_, _, _], _ => rfl
  have F27 := fun_mk (st := s_cost) l27 c27 k27
  have b27 := F27.binds (ps := ["season", "missed", "made"]) fun _ _ _ _ _ _ us hl => match us, hl with | [_, _, _], _ => rfl
  have F28 := fun_mk (st := s_is_unlike) l28 c28 k28
  have b28 := F28.binds (ps := ["value", "bound"]) fun _ _ _ _ _ _ us hl => match us, hl with | [_, _], _ => rfl
  have F29 := fun_mk (st := s_law_season) l29 c29 k29
  have b29 := F29.binds (ps := ["_law_box_here", "_law_most"]) fun _ _ _ _ _ _ us hl => match us, hl with | [_, _], _ => rfl
  have F30 := fun_mk (st := s_round_days) l30 c30 k30
  have b30 := F30.binds (ps := ["rota", "wheel"]) fun _ _ _ _ _ _ us hl => match us, hl with | [_, _], _ => rfl
  have F31 := fun_mk (st := s_can_be) l31 c31 k31
  have b31 := F31.binds (ps := ["season", "missed", "made"]) fun _ _ _ _ _ _ us hl => match us, hl with | [_, _, _], _ => rfl
  have F32 := fun_mk (st := s_is_row) l32 c32 k32
  have b32 := F32.binds (ps := ["value", "places"]) fun _ _ _ _ _ _ us hl => match us, hl with | [_, _], _ => rfl
  have F33 := fun_mk (st := s_every_due) l33 c33 k33
  have b33 := F33.binds (ps := ["rota", "days"]) fun _ _ _ _ _ _ us hl => match us, hl with | [_, _], _ => rfl
  have F34 := fun_mk (st := s_possible) l34 c34 k34
  have b34 := F34.binds (ps := ["season"]) fun _ _ _ _ _ _ us hl => match us, hl with | [_], _ => rfl
  have F35 := fun_mk (st := s_Rota_init) l35 c35 k35
  have b35 := F35.binds (ps := ["self", "places", "rows"]) fun _ _ _ _ _ _ us hl => match us, hl with | [_, _, _], _ => rfl
  have F36 := funD_mk (st := s_Season_init) l36 c36 k36 lt36
  have b36 := binds_all (ps := ["self", "rota", "days", "budget", "looks"]) F36 fun _ _ _ _ _ _ _ us its hl hi => match us, its, hl, hi with | [_, _, _, _, _], [_], _, _ => ⟨_, rfl, rfl⟩
  obtain ⟨ds36, bv36, bb36⟩ := binds_but (ps := ["self", "rota", "days", "budget", "looks"]) F36 4 rfl fun _ _ _ _ _ _ _ us its hl hi => match us, its, hl, hi with | [_, _, _, _], [_], _, _ => ⟨_, rfl, rfl⟩
  have F37 := fun_mk (st := s_law_made) l37 c37 k37
  have b37 := F37.binds (ps := ["_law_told"]) fun _ _ _ _ _ _ us hl => match us, hl with | [_], _ => rfl
  have F38 := fun_mk (st := s_Season_seen) l38 c38 k38
  have b38 := F38.binds (ps := ["self", "looks"]) fun _ _ _ _ _ _ us hl => match us, hl with | [_, _], _ => rfl
  have F39 := fun_mk (st := s_law_of) l39 c39 k39
  have b39 := F39.binds (ps := ["_law_some"]) fun _ _ _ _ _ _ us hl => match us, hl with | [_], _ => rfl
  have F40 := fun_mk (st := s_can_show) l40 c40 k40
  have b40 := F40.binds (ps := ["season", "wheel", "day"]) fun _ _ _ _ _ _ us hl => match us, hl with | [_, _, _], _ => rfl
  have F41 := fun_mk (st := s_sure_sides) l41 c41 k41
  have b41 := F41.binds (ps := ["season", "day"]) fun _ _ _ _ _ _ us hl => match us, hl with | [_, _], _ => rfl
  have F42 := fun_mk (st := s_Live_show) l42 c42 k42
  have b42 := F42.binds (ps := ["self", "season"]) fun _ _ _ _ _ _ us hl => match us, hl with | [_, _], _ => rfl
  have F43 := fun_mk (st := s_Live_init) l43 c43 k43
  have b43 := F43.binds (ps := ["self", "season"]) fun _ _ _ _ _ _ us hl => match us, hl with | [_, _], _ => rfl
  have F44 := fun_mk (st := s_Live_go_on) l44 c44 k44
  have b44 := F44.binds (ps := ["self", "season"]) fun _ _ _ _ _ _ us hl => match us, hl with | [_, _], _ => rfl
  have F45 := fun_mk (st := s_Live_undo) l45 c45 k45
  have b45 := F45.binds (ps := ["self"]) fun _ _ _ _ _ _ us hl => match us, hl with | [_], _ => rfl
  have F46 := fun_mk (st := s_Live_look) l46 c46 k46
  have b46 := F46.binds (ps := ["self", "day", "wheel", "side"]) fun _ _ _ _ _ _ us hl => match us, hl with | [_, _, _, _], _ => rfl
  have F47 := fun_mk (st := s_Live_several) l47 c47 k47
  have b47 := F47.binds (ps := ["self", "looks"]) fun _ _ _ _ _ _ us hl => match us, hl with | [_, _], _ => rfl
  have F48 := fun_mk (st := s_Live_follow) l48 c48 k48
  have b48 := F48.binds (ps := ["self", "season"]) fun _ _ _ _ _ _ us hl => match us, hl with | [_, _], _ => rfl
  have F49 := fun_mk (st := s_law) l49 c49 k49
  have b49 := F49.binds (ps := ["_law_script"]) fun _ _ _ _ _ _ us hl => match us, hl with | [_], _ => rfl
  let D : Dfs K mg := { f_is_integer := f0, fd_is_integer := _, F_is_integer := F0, b_is_integer := b0, g_is_integer := PySem.W.mg_of X G a0, f_is_sequence := f1, fd_is_sequence := _, F_is_sequence := F1, b_is_sequence := b1, g_is_sequence := PySem.W.mg_of X G a1, f_way := f2, fd_way := _, F_way := F2, b_way := b2, g_way := PySem.W.mg_of X G a2, f_every_look := f3, fd_every_look := _, F_every_look := F3, b_every_look := b3, g_every_look := PySem.W.mg_of X G a3, f_due_days := f4, fd_due_days := _, F_due_days := F4, b_due_days := b4, g_due_days := PySem.W.mg_of X G a4, f_seen_by_day := f5, fd_seen_by_day := _, F_seen_by_day := F5, b_seen_by_day := b5, g_seen_by_day := PySem.W.mg_of X G a5, f_Live_len := f6, fd_Live_len := _, F_Live_len := F6, b_Live_len := b6, f_Rota_eq := f7, fd_Rota_eq := _, F_Rota_eq := F7, b_Rota_eq := b7, f_text_of_rota := f8, fd_text_of_rota := _, F_text_of_rota := F8, b_text_of_rota := b8, g_text_of_rota := PySem.W.mg_of X G a8, f_law_box := f9, fd_law_box := _, F_law_box := F9, b_law_box := b9, g_law_box := PySem.W.mg_of X G a9, f_law_take := f10, fd_law_take := _, F_law_take := F10, b_law_take := b10, g_law_take := PySem.W.mg_of X G a10, f_law_days := f11, fd_law_days := _, F_law_days := F11, b_law_days := b11, g_law_days := PySem.W.mg_of X G a11, f_law_sides := f12, fd_law_sides := _, F_law_sides := F12, b_law_sides := b12, g_law_sides := PySem.W.mg_of X G a12, f_is_from := f13, fd_is_from := _, F_is_from := F13, b_is_from := b13, g_is_from := PySem.W.mg_of X G a13, f_due_in_round := f14, fd_due_in_round := _, F_due_in_round := F14, b_due_in_round := b14, g_due_in_round := PySem.W.mg_of X G a14, f_stretches_of := f15, fd_stretches_of := _, F_stretches_of := F15, b_stretches_of := b15, g_stretches_of := PySem.W.mg_of X G a15, f_law_pick := f16, fd_law_pick := _, F_law_pick := F16, b_law_pick := b16, g_law_pick := PySem.W.mg_of X G a16, f_law_mixed := f17, fd_law_mixed := _, F_law_mixed := F17, b_law_mixed := b17, g_law_mixed := PySem.W.mg_of X G a17, f_law_looks := f18, fd_law_looks := _, F_law_looks := F18, b_law_looks := b18, g_law_looks := PySem.W.mg_of X G a18, f_is_below := f19, fd_is_below := _, F_is_below := F19, b_is_below := b19, g_is_below := PySem.W.mg_of X G a19, f_Season_eq := f20, fd_Season_eq := _, F_Season_eq := F20, b_Season_eq := b20, f_parts_of := f21, fd_parts_of := _, F_parts_of := F21, b_parts_of := b21, g_parts_of := PySem.W.mg_of X G a21, f_law_rota := f22, fd_law_rota := _, F_law_rota := F22, b_law_rota := b22, g_law_rota := PySem.W.mg_of X G a22, f_law_missed := f23, fd_law_missed := _, F_law_missed := F23, b_law_missed := b23, g_law_missed := PySem.W.mg_of X G a23, f_law_look_at := f24, fd_law_look_at := _, F_law_look_at := F24, b_law_look_at := b24, g_law_look_at := PySem.W.mg_of X G a24, f_need_wheel := f25, fd_need_wheel := _, F_need_wheel := F25, b_need_wheel := b25, g_need_wheel := PySem.W.mg_of X G a25, f_is_look := f26, fd_is_look := _, F_is_look := F26, b_is_look := b26, g_is_look := PySem.W.mg_of X G a26, f_cost := f27, fd_cost := _, F_cost := F27, b_cost := b27, g_cost := PySem.W.mg_of X G a27, f_is_unlike := f28, fd_is_unlike := _, F_is_unlike := F28, b_is_unlike := b28, g_is_unlike := PySem.W.mg_of X G a28, f_law_season := f29, fd_law_season := _, F_law_season := F29, b_law_season := b29, g_law_season := PySem.W.mg_of X G a29, f_round_days := f30, fd_round_days := _, F_round_days := F30, b_round_days := b30, g_round_days := PySem.W.mg_of X G a30, f_can_be := f31, fd_can_be := _, F_can_be := F31, b_can_be := b31, g_can_be := PySem.W.mg_of X G a31, f_is_row := f32, fd_is_row := _, F_is_row := F32, b_is_row := b32, g_is_row := PySem.W.mg_of X G a32, f_every_due := f33, fd_every_due := _, F_every_due := F33, b_every_due := b33, g_every_due := PySem.W.mg_of X G a33, f_possible := f34, fd_possible := _, F_possible := F34, b_possible := b34, g_possible := PySem.W.mg_of X G a34, f_Rota_init := f35, fd_Rota_init := _, F_Rota_init := F35, b_Rota_init := b35, f_Season_init := f36, fd_Season_init := _, tE_Season_init := _, F_Season_init := F36, b_Season_init := b36, ds_Season_init := ds36, bv_Season_init := bv36, bb_Season_init := bb36, be_Season_init := ⟨_, _, _, le36⟩, f_law_made := f37, fd_law_made := _, F_law_made := F37, b_law_made := b37, g_law_made := PySem.W.mg_of X G a37, f_Season_seen := f38, fd_Season_seen := _, F_Season_seen := F38, b_Season_seen := b38, f_law_of := f39, fd_law_of := _, F_law_of := F39, b_law_of := b39, g_law_of := PySem.W.mg_of X G a39, f_can_show := f40, fd_can_show := _, F_can_show := F40, b_can_show := b40, g_can_show := PySem.W.mg_of X G a40, f_sure_sides := f41, fd_sure_sides := _, F_sure_sides := F41, b_sure_sides := b41, g_sure_sides := PySem.W.mg_of X G a41, f_Live_show := f42, fd_Live_show := _, F_Live_show := F42, b_Live_show := b42, f_Live_init := f43, fd_Live_init := _, F_Live_init := F43, b_Live_init := b43, f_Live_go_on := f44, fd_Live_go_on := _, F_Live_go_on := F44, b_Live_go_on := b44, f_Live_undo := f45, fd_Live_undo := _, F_Live_undo := F45, b_Live_undo := b45, f_Live_look := f46, fd_Live_look := _, F_Live_look := F46, b_Live_look := b46, f_Live_several := f47, fd_Live_several := _, F_Live_several := F47, b_Live_several := b47, f_Live_follow := f48, fd_Live_follow := _, F_Live_follow := F48, b_Live_follow := b48, f_law := fa, fd_law := _, F_law := F49, b_law := b49, g_law := PySem.W.mg_of X G a49, C_Season := C_Season, gC_Season := PySem.W.mg_of X G aC_Season, cls_Season := ⟨pg_Season, hd_Season, po_Season, sa_Season⟩, mk_Season := ⟨mk_Season, a36, i36, kc_Season⟩, na_Season_rota := na_Season_rota, na_Season_days := na_Season_days, na_Season_budget := na_Season_budget, na_Season_looks := na_Season_looks, na_Season_wheels := na_Season_wheels, na_Season_due := na_Season_due, ne_Season := ne_Season, ic_Season := ⟨⟨pg_Season, hd_Season, po_Season, sa_Season⟩, iha_Season, ihn_Season, iht_Season, mro_obj mk_Season, if_pos (beq_self_eq_true _)⟩, me_Season_eq := ⟨a20, i20, k20⟩, me_Season_seen := ⟨a38, i38, k38⟩, C_Live := C_Live, gC_Live := PySem.W.mg_of X G aC_Live, cls_Live := ⟨pg_Live, hd_Live, po_Live, sa_Live⟩, mk_Live := ⟨mk_Live, a43, i43, kc_Live⟩, na_Live_past := na_Live_past, na_Live_season := na_Live_season, na_Live_is_possible := na_Live_is_possible, na_Live_sure := na_Live_sure, me_Live_len := ⟨a6, i6, k6⟩, me_Live_follow := ⟨a48, i48, k48⟩, me_Live_go_on := ⟨a44, i44, k44⟩, me_Live_look := ⟨a46, i46, k46⟩, me_Live_several := ⟨a47, i47, k47⟩, me_Live_show := ⟨a42, i42, k42⟩, me_Live_undo := ⟨a45, i45, k45⟩, C_Rota := C_Rota, gC_Rota := PySem.W.mg_of X G aC_Rota, cls_Rota := ⟨pg_Rota, hd_Rota, po_Rota, sa_Rota⟩, mk_Rota := ⟨mk_Rota, a35, i35, kc_Rota⟩, na_Rota_places := na_Rota_places, na_Rota_rows := na_Rota_rows, na_Rota_text := na_Rota_text, ne_Rota := ne_Rota, ic_Rota := ⟨⟨pg_Rota, hd_Rota, po_Rota, sa_Rota⟩, iha_Rota, ihn_Rota, iht_Rota, mro_obj mk_Rota, if_pos (beq_self_eq_true _)⟩, me_Rota_eq := ⟨a7, i7, k7⟩, z_abs := PySem.W.mg_none_of X G z0, z_all := PySem.W.mg_none_of X G z1, z_bool := PySem.W.mg_none_of X G z2, z_enumerate := PySem.W.mg_none_of X G z3, z_int := PySem.W.mg_none_of X G z4, z_isinstance := PySem.W.mg_none_of X G z5, z_len := PySem.W.mg_none_of X G z6, z_list := PySem.W.mg_none_of X G z7, z_max := PySem.W.mg_none_of X G z8, z_min := PySem.W.mg_none_of X G z9, z_range := PySem.W.mg_none_of X G z10, z_sorted := PySem.W.mg_none_of X G z11, z_str := PySem.W.mg_none_of X G z12, z_tuple := PySem.W.mg_none_of X G z13, v_PAIR_rotas := _, c_PAIR_rotas := PySem.W.mg_of X G y0, r_PAIR_rotas := ⟨_, rfl⟩, v_PAIR_seasons := _, c_PAIR_seasons := PySem.W.mg_of X G y1, r_PAIR_seasons := ⟨_, rfl⟩, v_TRIPLE := _, c_TRIPLE := PySem.W.mg_of X G y2, r_TRIPLE := ⟨_, rfl⟩ }
  exact ⟨D.fd_law, fun s v => .of_eq rfl, fun base _ _ => (ok_law D).imp fun vs H Q E h => h D.cl⟩
theorem law_sp {K : PySem.W.Frag} (hm : ∀ ns : List Int, ns.length ≤ 63 → m_law [.scr ns] = .ret (.bl true) .non) (H : Hp) (a : Addr) (ns : List Int) (hl : ns.length ≤ 63) (hS : SqL K H a (ns.map V.int)) : spL K [.ref a] H (fun v _ => v = .bl true) fun _ _ _ => False := by
  intro cl
  refine ⟨H, [.scr ns], none, rfl, le_refl H, ⟨.cons (.scr hS) .nil, rfl⟩, ?_⟩
  rw [hm ns hl]
  exact fun F' H' v _ _ _ r => Rep.bl_inv (show Rep _ _ _ _ from r)
end Dl
open PySem PySem.W PyProof.Rows
theorem Dl.cx_none {P : Program} {w : World} {H : L2.Hp} {s : Shared} {e : Value} {s' : Shared} (h : L2.CX P w [] H s (fun _ _ _ => False) e s') : False := by
  obtain ⟨_, _, _, _, _, _, _, _, _, _, _, _, z⟩ := h
  exact z
set_option maxHeartbeats 0 in
theorem PySem.Challenge.cw_turnrota_k70_looks_taken_back_holds : PySem.Challenge.rw_turnrota_k70_looks_taken_back.Holds := by
  w_on; o_law; k_head; (case hw => w_witness2)
  k_fill
  refine L2.walk_of (l := PySem.Challenge.rw_turnrota_k70_looks_taken_back) (n := 63) (k := 15) (x := "_law_script") (CX := fun w => L2.CX PySem.Challenge.rw_turnrota_k70_looks_taken_back.prog w) (sp := fun w => Dl.spL _) rfl (by decide) rfl ⟨rfl, by decide, by decide⟩ (fun w h Y => PySem.W.kIn_of Y) ?F (fun _ H a ns hl _ hS => Dl.law_sp Dl.law_true H a ns hl hS) (fun _ _ _ _ _ h => Dl.cx_none h)
  case F =>
    intro w mg fa h KX G hmg
    refine' Dl.all_mk KX G hmg ?aC_Season ?pg_Season ?hd_Season ?po_Season ?sa_Season ?mk_Season ?kc_Season ?na_Season_rota ?na_Season_days ?na_Season_budget ?na_Season_looks ?na_Season_wheels ?na_Season_due ?ne_Season ?iha_Season ?ihn_Season ?iht_Season ?aC_Live ?pg_Live ?hd_Live ?po_Live ?sa_Live ?mk_Live ?kc_Live ?na_Live_past ?na_Live_season ?na_Live_is_possible ?na_Live_sure ?aC_Rota ?pg_Rota ?hd_Rota ?po_Rota ?sa_Rota ?mk_Rota ?kc_Rota ?na_Rota_places ?na_Rota_rows ?na_Rota_text ?ne_Rota ?iha_Rota ?ihn_Rota ?iht_Rota ?a0 ?l0 ?c0 ?k0 ?a1 ?l1 ?c1 ?k1 ?a2 ?l2 ?c2 ?k2 ?a3 ?l3 ?c3 ?k3 ?a4 ?l4 ?c4 ?k4 ?a5 ?l5 ?c5 ?k5 ?a6 ?i6 ?l6 ?c6 ?k6 ?a7 ?i7 ?l7 ?c7 ?k7 ?a8 ?l8 ?c8 ?k8 ?a9 ?l9 ?c9 ?k9 ?a10 ?l10 ?c10 ?k10 ?a11 ?l11 ?c11 ?k11 ?a12 ?l12 ?c12 ?k12 ?a13 ?l13 ?c13 ?k13 ?a14 ?l14 ?c14 ?k14 ?a15 ?l15 ?c15 ?k15 ?a16 ?l16 ?c16 ?k16 ?a17 ?l17 ?c17 ?k17 ?a18 ?l18 ?c18 ?k18 ?a19 ?l19 ?c19 ?k19 ?a20 ?i20 ?l20 ?c20 ?k20 ?a21 ?l21 ?c21 ?k21 ?a22 ?l22 ?c22 ?k22 ?a23 ?l23 ?c23 ?k23 ?a24 ?l24 ?c24 ?k24 ?a25 ?l25 ?c25 ?k25 ?a26 ?l26 ?c26 ?k26 ?a27 ?l27 ?c27 ?k27 ?a28 ?l28 ?c28 ?k28 ?a29 ?l29 ?c29 ?k29 ?a30 ?l30 ?c30 ?k30 ?a31 ?l31 ?c31 ?k31 ?a32 ?l32 ?c32 ?k32 ?a33 ?l33 ?c33 ?k33 ?a34 ?l34 ?c34 ?k34 ?a35 ?i35 ?l35 ?c35 ?k35 ?a36 ?i36 ?l36 ?lt36 ?le36 ?c36 ?k36 ?a37 ?l37 ?c37 ?k37 ?a38 ?i38 ?l38 ?c38 ?k38 ?a39 ?l39 ?c39 ?k39 ?a40 ?l40 ?c40 ?k40 ?a41 ?l41 ?c41 ?k41 ?a42 ?i42 ?l42 ?c42 ?k42 ?a43 ?i43 ?l43 ?c43 ?k43 ?a44 ?i44 ?l44 ?c44 ?k44 ?a45 ?i45 ?l45 ?c45 ?k45 ?a46 ?i46 ?l46 ?c46 ?k46 ?a47 ?i47 ?l47 ?c47 ?k47 ?a48 ?i48 ?l48 ?c48 ?k48 ?a49 ?l49 ?c49 ?k49 ?z0 ?z1 ?z2 ?z3 ?z4 ?z5 ?z6 ?z7 ?z8 ?z9 ?z10 ?z11 ?z12 ?z13 ?y0 ?y1 ?y2
    (case aC_Season => k_is); (case aC_Live => k_is); (case aC_Rota => k_is); (case pg_Season => k_is); (case hd_Season => k_is); (case po_Season => k_is); (case sa_Season => k_is); (case mk_Season => k_is); (case kc_Season => k_is); (case na_Season_rota => k_is); (case na_Season_days => k_is); (case na_Season_budget => k_is); (case na_Season_looks => k_is); (case na_Season_wheels => k_is); (case na_Season_due => k_is); (case ne_Season => k_is); (case iha_Season => k_is); (case ihn_Season => k_is); (case iht_Season => k_is); (case pg_Live => k_is); (case hd_Live => k_is); (case po_Live => k_is); (case sa_Live => k_is); (case mk_Live => k_is); (case kc_Live => k_is); (case na_Live_past => k_is); (case na_Live_season => k_is); (case na_Live_is_possible => k_is); (case na_Live_sure => k_is); (case pg_Rota => k_is); (case hd_Rota => k_is); (case po_Rota => k_is); (case sa_Rota => k_is); (case mk_Rota => k_is); (case kc_Rota => k_is); (case na_Rota_places => k_is); (case na_Rota_rows => k_is); (case na_Rota_text => k_is); (case ne_Rota => k_is); (case iha_Rota => k_is); (case ihn_Rota => k_is); (case iht_Rota => k_is); (case a0 => k_is); (case l0 => k_is); (case c0 => k_is); (case k0 => k_is); (case a1 => k_is); (case l1 => k_is); (case c1 => k_is); (case k1 => k_is); (case a2 => k_is); (case l2 => k_is); (case c2 => k_is); (case k2 => k_is); (case a3 => k_is); (case l3 => k_is); (case c3 => k_is); (case k3 => k_is); (case a4 => k_is); (case l4 => k_is); (case c4 => k_is); (case k4 => k_is); (case a5 => k_is); (case l5 => k_is); (case c5 => k_is); (case k5 => k_is); (case a6 => k_is); (case i6 => k_is); (case l6 => k_is); (case c6 => k_is); (case k6 => k_is); (case a7 => k_is); (case i7 => k_is); (case l7 => k_is); (case c7 => k_is); (case k7 => k_is); (case a8 => k_is); (case l8 => k_is); (case c8 => k_is); (case k8 => k_is); (case a9 => k_is); (case l9 => k_is); (case c9 => k_is); (case k9 => k_is); (case a10 => k_is); (case l10 => k_is); (case c10 => k_is); (case k10 => k_is); (case a11 => k_is); (case l11 => k_is); (case c11 => k_is); (case k11 => k_is); (case a12 => k_is); (case l12 => k_is); (case c12 => k_is); (case k12 => k_is); (case a13 => k_is); (case l13 => k_is); (case c13 => k_is); (case k13 => k_is); (case a14 => k_is); (case l14 => k_is); (case c14 => k_is); (case k14 => k_is); (case a15 => k_is); (case l15 => k_is); (case c15 => k_is); (case k15 => k_is); (case a16 => k_is); (case l16 => k_is); (case c16 => k_is); (case k16 => k_is); (case a17 => k_is); (case l17 => k_is); (case c17 => k_is); (case k17 => k_is); (case a18 => k_is); (case l18 => k_is); (case c18 => k_is); (case k18 => k_is); (case a19 => k_is); (case l19 => k_is); (case c19 => k_is); (case k19 => k_is); (case a20 => k_is); (case i20 => k_is); (case l20 => k_is); (case c20 => k_is); (case k20 => k_is); (case a21 => k_is); (case l21 => k_is); (case c21 => k_is); (case k21 => k_is); (case a22 => k_is); (case l22 => k_is); (case c22 => k_is); (case k22 => k_is); (case a23 => k_is); (case l23 => k_is); (case c23 => k_is); (case k23 => k_is); (case a24 => k_is); (case l24 => k_is); (case c24 => k_is); (case k24 => k_is); (case a25 => k_is); (case l25 => k_is); (case c25 => k_is); (case k25 => k_is); (case a26 => k_is); (case l26 => k_is); (case c26 => k_is); (case k26 => k_is); (case a27 => k_is); (case l27 => k_is); (case c27 => k_is); (case k27 => k_is); (case a28 => k_is); (case l28 => k_is); (case c28 => k_is); (case k28 => k_is); (case a29 => k_is); (case l29 => k_is); (case c29 => k_is); (case k29 => k_is); (case a30 => k_is); (case l30 => k_is); (case c30 => k_is); (case k30 => k_is); (case a31 => k_is); (case l31 => k_is); (case c31 => k_is); (case k31 => k_is); (case a32 => k_is); (case l32 => k_is); (case c32 => k_is); (case k32 => k_is); (case a33 => k_is); (case l33 => k_is); (case c33 => k_is); (case k33 => k_is); (case a34 => k_is); (case l34 => k_is); (case c34 => k_is); (case k34 => k_is); (case a35 => k_is); (case i35 => k_is); (case l35 => k_is); (case c35 => k_is); (case k35 => k_is); (case a36 => k_is); (case i36 => k_is); (case l36 => k_is); (case lt36 => k_is); (case le36 => k_is); (case c36 => k_is); (case k36 => k_is); (case a37 => k_is); (case l37 => k_is); (case c37 => k_is); (case k37 => k_is); (case a38 => k_is); (case i38 => k_is); (case l38 => k_is); (case c38 => k_is); (case k38 => k_is); (case a39 => k_is); (case l39 => k_is); (case c39 => k_is); (case k39 => k_is); (case a40 => k_is); (case l40 => k_is); (case c40 => k_is); (case k40 => k_is); (case a41 => k_is); (case l41 => k_is); (case c41 => k_is); (case k41 => k_is); (case a42 => k_is); (case i42 => k_is); (case l42 => k_is); (case c42 => k_is); (case k42 => k_is); (case a43 => k_is); (case i43 => k_is); (case l43 => k_is); (case c43 => k_is); (case k43 => k_is); (case a44 => k_is); (case i44 => k_is); (case l44 => k_is); (case c44 => k_is); (case k44 => k_is); (case a45 => k_is); (case i45 => k_is); (case l45 => k_is); (case c45 => k_is); (case k45 => k_is); (case a46 => k_is); (case i46 => k_is); (case l46 => k_is); (case c46 => k_is); (case k46 => k_is); (case a47 => k_is); (case i47 => k_is); (case l47 => k_is); (case c47 => k_is); (case k47 => k_is); (case a48 => k_is); (case i48 => k_is); (case l48 => k_is); (case c48 => k_is); (case k48 => k_is); (case a49 => k_is); (case l49 => k_is); (case c49 => k_is); (case k49 => k_is); (case z0 => k_is); (case z1 => k_is); (case z2 => k_is); (case z3 => k_is); (case z4 => k_is); (case z5 => k_is); (case z6 => k_is); (case z7 => k_is); (case z8 => k_is); (case z9 => k_is); (case z10 => k_is); (case z11 => k_is); (case z12 => k_is); (case z13 => k_is); (case y0 => k_is); (case y1 => k_is); (case y2 => k_is)
