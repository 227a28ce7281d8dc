import PyProof.Rows.All
import Wide.All
import OpenK.AllK
import Wide.FinOn
import HandS.ForMost
import HandS.Star
import HandS.IsInst
import HandS.SortInts
import HandS.Wide
import HandS.WordsExc
import HandS.Walk
import HandS.Flow
import HandS.CallSlots
import HandS.Deep
import HandS.WordsDict
import HandS.TupAny
import KE.GoesMore
import HandS.Style
import HandS.FStr
import HandS.DictComp
import HandS.Comp
import HandS.DictTup
import HandS.List
import PyProof.P3In
import HandS.Defaults
import HandS.Conv
import HandS.RaiseMore
import HandS.OwnEq
import HandS.TupMul
import HandS.SortRule
import HandS.Iter
import KE.KDictDisplayH
import PyProof.Rows.SumAny
import KE.KDictCopyH
import KE.KDictList
import HandS.TupLen
import HandS.More
import HandS.Codes
import PyProof.InstNe
import HandS.SetFor
import HandS.SetKeys
import PyProof.Rows.SetFrom
import PyProof.SetRoads
import HandS.TupLe
import HandS.TryOnly
import HandS.Text
import HandS.ExcField
import HandS.ExcIs
import HandS.ExcInit
import KE.KExcIs
import HandS.TryMany
import PyProof.StrBlock2
import HandS.ClsMeth
import HandS.NoneIn
import HandS.MakeKw
import HandS.HeadHook3
import HandS.ReplaceLit
import HandS.SortOrd
import HandS.NamedTupSort
import KE.SortData
import PySem.Challenge.RW_turnrota_k73_desks_refuse
import PyProof.Rows.StrJoinMade
import PyProof.Rows.SetFoldBridge
set_option Elab.async false
set_option linter.all false
set_option maxRecDepth 100000
set_option maxHeartbeats 4000000
namespace Dl
open PySem PySem.Spec PyProof.Rows L2
/-! ### data -/
inductive Dt where
  | non | bl (b : Bool) | int (i : Int) | str (x : Str) | ty (n : String)
  | scr (ns : List Int) | lst (xs : List Dt) | tup (xs : List Dt) | dic (t : Bool) (ks vs : List Dt) | ins (c : Nat) (vs : List Dt)
  /-- a list of an inner list of ints, held by it alone, and an int -/
  | deal (cs : List Int) (bl : Int)
  /-- a class of the text; an instance of which it is known where it is -/
  | cls (c : Nat) | obj (a c : Nat) (vs : List Dt)
/-- a parameter that the caller goes on holding: where it is, and what it holds alone -/
abbrev Pin := Addr × List Addr
/-- the classes of the text: their addresses, their fields in order -/
structure Tx where
  K : PySem.W.Frag
  cl : Nat → Option (Addr × List Str)
def kD : Key → Dt
  | .inl i => .int i
  | .inr x => .str x
abbrev Le (F H : Hp) : Prop := ∀ a o, F a = some o → H a = some o
mutual
inductive Rep (T : Tx) (F : Hp) : V → Dt → Prop
  | non : Rep T F .non .non
  | bl (b : Bool) : Rep T F (.bl b) (.bl b)
  | int (i : Int) : Rep T F (.int i) (.int i)
  | str (x : Str) : Rep T F (.str x) (.str x)
  | ty (n : String) : Rep T F (.ty n) (.ty n)
  | scr {a : Addr} {ns : List Int} : SqL T.K F a (ns.map V.int) → Rep T F (.ref a) (.scr ns)
  | lst {a : Addr} {vs : List V} {ds : List Dt} : F a = some (.lst vs) → Reps T F vs ds → Rep T F (.ref a) (.lst ds)
  | tup {a : Addr} {vs : List V} {ds : List Dt} : F a = some (.tup vs) → Reps T F vs ds → Rep T F (.ref a) (.tup ds)
  | tup0 {a : Addr} : SqT T.K F a [] → Rep T F (.ref a) (.tup [])
  | dicK {a : Addr} {ks : List Key} {vs : List V} {ds : List Dt} : F a = some (.dK (ks.zip vs)) → ks.length = vs.length → Reps T F vs ds → Rep T F (.ref a) (.dic false (ks.map kD) ds)
  | dicT {a : Addr} {ks : List (List Key)} {vs : List V} {ds : List Dt} : F a = some (.dT (ks.zip vs)) → ks.length = vs.length → Reps T F vs ds → Rep T F (.ref a) (.dic true (ks.map fun l => .tup (l.map kD)) ds)
  | ins {a C dx : Addr} {c : Nat} {ns : List Str} {vs : List V} {ds : List Dt} : T.cl c = some (C, ns) → F a = some (.ins C dx (ns.zip vs)) → vs.length ≤ ns.length → Reps T F vs ds → Rep T F (.ref a) (.ins c ds)
  | deal {a b : Addr} {cs : List Int} {bl : Int} : F a = some (.lst [.ref b, .int bl]) → F b = some (.lst (cs.map V.int)) → Rep T F (.ref a) (.deal cs bl)
  | cls {C : Addr} {c : Nat} {ns : List Str} : T.cl c = some (C, ns) → Rep T F (.ref C) (.cls c)
  | obj {a C dx : Addr} {c : Nat} {ns : List Str} {vs : List V} {ds : List Dt} : T.cl c = some (C, ns) → F a = some (.ins C dx (ns.zip vs)) → vs.length ≤ ns.length → Reps T F vs ds → Rep T F (.ref a) (.obj a c ds)
inductive Reps (T : Tx) (F : Hp) : List V → List Dt → Prop
  | nil : Reps T F [] []
  | cons {v : V} {vs : List V} {d : Dt} {ds : List Dt} : Rep T F v d → Reps T F vs ds → Reps T F (v :: vs) (d :: ds)
end
theorem le_refl (H : Hp) : Le H H := fun _ _ h => h
theorem le_trans {A B C : Hp} (h : Le A B) (k : Le B C) : Le A C := fun a o e => k a o (h a o e)
theorem le_new {H : Hp} {p : Addr} {o : HO} (h : H p = none) : Le H (upd H p o) := fun a u e => by
  rw [upd_ne (ne_of_none e h)]; exact e
theorem sql_mono {K : PySem.W.Frag} {H H' : Hp} {a : Addr} {xs : List V} (e : Le H H') (h : SqL K H a xs) : SqL K H' a xs := Same.seq e h
theorem sqt_mono {K : PySem.W.Frag} {H H' : Hp} {a : Addr} {xs : List V} (e : Le H H') (h : SqT K H a xs) : SqT K H' a xs := by
  rcases h with (h | ⟨o, h⟩) | h
  · exact .inl (.inl (e _ _ h))
  · exact .inl (.inr ⟨o, e _ _ h⟩)
  · exact .inr h
section
variable {T : Tx} {F F' : Hp}
mutual
theorem Rep.mono (e : Le F F') : ∀ {v : V} {d : Dt}, Rep T F v d → Rep T F' v d
  | _, _, .non => .non
  | _, _, .bl b => .bl b
  | _, _, .int i => .int i
  | _, _, .str x => .str x
  | _, _, .ty n => .ty n
  | _, _, .scr h => .scr (sql_mono e h)
  | _, _, .lst h r => .lst (e _ _ h) (Reps.mono e r)
  | _, _, .tup h r => .tup (e _ _ h) (Reps.mono e r)
  | _, _, .tup0 h => .tup0 (sqt_mono e h)
  | _, _, .dicK h l r => .dicK (e _ _ h) l (Reps.mono e r)
  | _, _, .dicT h l r => .dicT (e _ _ h) l (Reps.mono e r)
  | _, _, .ins c h l r => .ins c (e _ _ h) l (Reps.mono e r)
  | _, _, .deal h l => .deal (e _ _ h) (e _ _ l)
  | _, _, .cls h => .cls h
  | _, _, .obj c h l r => .obj c (e _ _ h) l (Reps.mono e r)
theorem Reps.mono (e : Le F F') : ∀ {vs : List V} {ds : List Dt}, Reps T F vs ds → Reps T F' vs ds
  | _, _, .nil => .nil
  | _, _, .cons h r => .cons (Rep.mono e h) (Reps.mono e r)
end
theorem Reps.length : ∀ {vs : List V} {ds : List Dt}, Reps T F vs ds → vs.length = ds.length
  | _, _, .nil => rfl
  | _, _, .cons _ r => by rw [List.length_cons, List.length_cons, Reps.length r]
theorem Reps.get : ∀ {vs : List V} {ds : List Dt} {i : Nat} {d : Dt}, Reps T F vs ds → ds[i]? = some d → ∃ v, vs[i]? = some v ∧ Rep T F v d
  | _, _, _, _, .nil, e => by simp at e
  | _, _, 0, _, .cons h _, e => by simp at e; subst e; exact ⟨_, rfl, h⟩
  | _, _, i + 1, d, .cons _ r, e => by
    obtain ⟨v, h1, h2⟩ := Reps.get (i := i) (d := d) r (by simpa using e)
    exact ⟨v, by simpa using h1, h2⟩
theorem Reps.append : ∀ {vs ws : List V} {ds es : List Dt}, Reps T F vs ds → Reps T F ws es → Reps T F (vs ++ ws) (ds ++ es)
  | _, _, _, _, .nil, s => s
  | _, _, _, _, .cons h r, s => .cons h (Reps.append r s)
theorem Reps.set {v : V} {d : Dt} (h : Rep T F v d) : ∀ {vs : List V} {ds : List Dt} (i : Nat), Reps T F vs ds → Reps T F (vs.set i v) (ds.set i d)
  | _, _, _, .nil => .nil
  | _, _, 0, .cons _ r => .cons h r
  | _, _, i + 1, .cons q r => .cons q (Reps.set h i r)
theorem Reps.take : ∀ {vs : List V} {ds : List Dt} (n : Nat), Reps T F vs ds → Reps T F (vs.take n) (ds.take n)
  | _, _, 0, _ => .nil
  | _, _, _ + 1, .nil => .nil
  | _, _, n + 1, .cons h r => .cons h (Reps.take n r)
theorem Reps.drop : ∀ {vs : List V} {ds : List Dt} (n : Nat), Reps T F vs ds → Reps T F (vs.drop n) (ds.drop n)
  | _, _, 0, h => h
  | _, _, _ + 1, .nil => .nil
  | _, _, n + 1, .cons _ r => Reps.drop n r
theorem Reps.mk : ∀ {vs : List V} {ds : List Dt}, vs.length = ds.length → (∀ (i : Nat) v d, vs[i]? = some v → ds[i]? = some d → Rep T F v d) → Reps T F vs ds
  | [], [], _, _ => .nil
  | [], _ :: _, h, _ => by simp at h
  | _ :: _, [], h, _ => by simp at h
  | v :: vs, d :: ds, h, f => .cons (f 0 v d rfl rfl) (Reps.mk (by simpa using h) fun i w e a b => f (i + 1) w e (by simpa using a) (by simpa using b))
end
theorem Rep.tup_inv {T : Tx} {F : Hp} {v : V} {ds : List Dt} (h : Rep T F v (.tup ds)) : ∃ a vs, v = .ref a ∧ SqT T.K F a vs ∧ Reps T F vs ds := by
  cases h with
  | tup e r => exact ⟨_, _, rfl, SqT.of e, r⟩
  | tup0 e => exact ⟨_, _, rfl, e, .nil⟩
/-- an object that one slot holds alone: it stands in H, not among the frozen ones -/
def OwnAt (T : Tx) (F H : Hp) (a : Addr) : Dt → Prop
  | .lst ds => ∃ vs, H a = some (.lst vs) ∧ Reps T F vs ds
  | .dic false ks ds => ∃ (kk : List Key) (vs : List V), H a = some (.dK (kk.zip vs)) ∧ kk.length = vs.length ∧ ks = kk.map kD ∧ Reps T F vs ds
  | .dic true ks ds => ∃ (kk : List (List Key)) (vs : List V), H a = some (.dT (kk.zip vs)) ∧ kk.length = vs.length ∧ (ks = kk.map fun l => .tup (l.map kD)) ∧ Reps T F vs ds
  | .ins c ds => ∃ (C dx : Addr) (ns : List Str) (vs : List V), T.cl c = some (C, ns) ∧ H a = some (.ins C dx (ns.zip vs)) ∧ vs.length ≤ ns.length ∧ Reps T F vs ds
  | .deal cs bl => ∃ b, H a = some (.lst [.ref b, .int bl]) ∧ H b = some (.lst (cs.map V.int)) ∧ b ≠ a
  | _ => False
/-- what a slot's own object holds alone -/
def inH (H : Hp) (a : Addr) : Dt → List Addr
  | .deal _ _ => (match H a with | some (.lst (.ref b :: _)) => [b] | _ => [])
  | _ => []
theorem OwnAt.has {T : Tx} {F H : Hp} {a : Addr} {d : Dt} (h : OwnAt T F H a d) : ∃ o, H a = some o ∧ ∀ vs, o ≠ .tup vs := by
  cases d with
  | lst ds => obtain ⟨_, e, _⟩ := h; exact ⟨_, e, fun _ z => nomatch z⟩
  | dic t ks ds =>
    cases t with
    | false => obtain ⟨_, _, e, _⟩ := h; exact ⟨_, e, fun _ z => nomatch z⟩
    | true => obtain ⟨_, _, e, _⟩ := h; exact ⟨_, e, fun _ z => nomatch z⟩
  | ins c ds => obtain ⟨_, _, _, _, _, e, _⟩ := h; exact ⟨_, e, fun _ z => nomatch z⟩
  | deal cs bl => obtain ⟨_, e, _⟩ := h; exact ⟨_, e, fun _ z => nomatch z⟩
  | _ => exact h.elim
theorem inH_deal {H : Hp} {a b : Addr} {cs : List Int} {bl bl' : Int} (h : H a = some (.lst [.ref b, .int bl])) : inH H a (.deal cs bl') = [b] := by
  unfold inH; dsimp only; rw [h]
theorem OwnAt.hasI {T : Tx} {F H : Hp} {a x : Addr} {d : Dt} (h : OwnAt T F H a d) (hx : x = a ∨ x ∈ inH H a d) : ∃ o, H x = some o ∧ ∀ vs, o ≠ .tup vs := by
  rcases hx with hx | hx
  · rw [hx]; exact h.has
  · cases d with
    | deal cs bl => obtain ⟨b, e1, e2, e3⟩ := h; rw [inH_deal e1] at hx; rw [List.mem_singleton.mp hx]; exact ⟨_, e2, fun _ z => nomatch z⟩
    | _ => cases hx
theorem OwnAt.same {T : Tx} {F H H' : Hp} {a : Addr} {d : Dt} (h : OwnAt T F H a d) (ha : ∀ o, H a = some o → H' a = some o) : inH H' a d = inH H a d := by
  cases d with
  | deal cs bl => obtain ⟨b, e1, e2, e3⟩ := h; rw [inH_deal e1, inH_deal (ha _ e1)]
  | _ => rfl
theorem OwnAt.mono {T : Tx} {F F' H H' : Hp} {a : Addr} {d : Dt} (e : Le F F') (ha : ∀ x, (x = a ∨ x ∈ inH H a d) → ∀ o, H x = some o → H' x = some o) (h : OwnAt T F H a d) : OwnAt T F' H' a d := by
  have ha0 := ha a (.inl rfl)
  cases d with
  | lst ds => obtain ⟨vs, x, r⟩ := h; exact ⟨vs, ha0 _ x, r.mono e⟩
  | dic t ks ds =>
    cases t with
    | false => obtain ⟨kk, vs, x, l, k, r⟩ := h; exact ⟨kk, vs, ha0 _ x, l, k, r.mono e⟩
    | true => obtain ⟨kk, vs, x, l, k, r⟩ := h; exact ⟨kk, vs, ha0 _ x, l, k, r.mono e⟩
  | ins c ds => obtain ⟨C, dx, ns, vs, c1, x, l, r⟩ := h; exact ⟨C, dx, ns, vs, c1, ha0 _ x, l, r.mono e⟩
  | deal cs bl => obtain ⟨b, e1, e2, e3⟩ := h; exact ⟨b, ha0 _ e1, ha b (.inr (by rw [inH_deal e1]; exact List.mem_singleton.mpr rfl)) _ e2, e3⟩
  | _ => exact h.elim
/-- it is frozen -/
theorem OwnAt.frozen {T : Tx} {F H : Hp} {a : Addr} {d : Dt} (h : OwnAt T F H a d) (le : Le F H) (hf : F a = none) (hi : ∀ x ∈ inH H a d, F x = none) :
    ∃ F', Le F F' ∧ Le F' H ∧ (∀ y, y ≠ a → y ∉ inH H a d → F' y = F y) ∧ Rep T F' (.ref a) d := by
  have one : ∀ o, H a = some o → Le F (upd F a o) ∧ Le (upd F a o) H ∧ ∀ y, y ≠ a → upd F a o y = F y := fun o ho =>
    ⟨le_new hf, fun y u z => by
      by_cases zz : y = a
      · subst zz; rw [upd_same] at z; cases z; exact ho
      · rw [upd_ne zz] at z; exact le y u z, fun y hy => upd_ne hy⟩
  cases d with
  | lst ds =>
    obtain ⟨vs, x, r⟩ := h; obtain ⟨e1, e2, e3⟩ := one _ x
    exact ⟨_, e1, e2, fun y hy _ => e3 y hy, .lst upd_same (r.mono e1)⟩
  | dic t ks ds =>
    cases t with
    | false =>
      obtain ⟨kk, vs, x, l, k, r⟩ := h; obtain ⟨e1, e2, e3⟩ := one _ x; subst k
      exact ⟨_, e1, e2, fun y hy _ => e3 y hy, .dicK upd_same l (r.mono e1)⟩
    | true =>
      obtain ⟨kk, vs, x, l, k, r⟩ := h; obtain ⟨e1, e2, e3⟩ := one _ x; subst k
      exact ⟨_, e1, e2, fun y hy _ => e3 y hy, .dicT upd_same l (r.mono e1)⟩
  | ins c ds =>
    obtain ⟨C, dx, ns, vs, c1, x, l, r⟩ := h; obtain ⟨e1, e2, e3⟩ := one _ x
    exact ⟨_, e1, e2, fun y hy _ => e3 y hy, .ins c1 upd_same l (r.mono e1)⟩
  | deal cs bl =>
    obtain ⟨b, g1, g2, g3⟩ := h
    obtain ⟨e1, e2, e3⟩ := one _ g1
    rw [inH_deal g1] at hi ⊢
    have hb : F b = none := hi b (List.mem_singleton.mpr rfl)
    have hb2 : upd F a (.lst [.ref b, .int bl]) b = none := by rw [upd_ne g3]; exact hb
    refine ⟨upd (upd F a (.lst [.ref b, .int bl])) b (.lst (cs.map V.int)), le_trans e1 (le_new hb2), fun y u z => ?_, fun y hy hyi => ?_, .deal (b := b) ?_ upd_same⟩
    · by_cases zz : y = b
      · subst zz; rw [upd_same] at z; cases z; exact g2
      · rw [upd_ne zz] at z; exact e2 y u z
    · rw [upd_ne (fun z => hyi (List.mem_singleton.mpr z))]; exact e3 y hy
    · rw [upd_ne (fun z => g3 z.symm)]; exact upd_same
  | _ => exact h.elim
/-- to be read: frozen, or a slot's own -/
def RepS (T : Tx) (F H : Hp) (v : V) (d : Dt) : Prop := Rep T F v d ∨ ∃ a, v = .ref a ∧ OwnAt T F H a d
theorem Rep.s {T : Tx} {F H : Hp} {v : V} {d : Dt} (h : Rep T F v d) : RepS T F H v d := .inl h
/-! ### slots -/
inductive Sl where
  | val (d : Dt)
  /-- held alone; io: a parameter that the caller goes on holding -/
  | own (io : Bool) (d : Dt)
abbrev En := List (Option Sl)
def IsOwn (H : Hp) (σ : L2.St) (ρ : En) (x : Addr) : Prop := ∃ (i : Nat) (io : Bool) (d : Dt) (a : Addr), ρ[i]? = some (some (.own io d)) ∧ σ[i]? = some (some (.ref a)) ∧ (x = a ∨ x ∈ inH H a d)
structure Ok (T : Tx) (π : Nat → Option Pin) (A : Addr → Prop) (F H : Hp) (σ : L2.St) (ρ : En) : Prop where
  le : Le F H
  len : σ.length = ρ.length
  val : ∀ (i : Nat) d, ρ[i]? = some (some (.val d)) → ∃ v, σ[i]? = some (some v) ∧ Rep T F v d
  own : ∀ (i : Nat) io d, ρ[i]? = some (some (.own io d)) → ∃ a, σ[i]? = some (some (.ref a)) ∧ F a = none ∧ OwnAt T F H a d ∧ A a ∧ (io = true → π i = some (a, inH H a d)) ∧ ∀ x ∈ inH H a d, F x = none ∧ A x
  dis : ∀ (i j : Nat) io jo d e a b x, ρ[i]? = some (some (.own io d)) → ρ[j]? = some (some (.own jo e)) → σ[i]? = some (some (.ref a)) → σ[j]? = some (some (.ref b)) → (x = a ∨ x ∈ inH H a d) → (x = b ∨ x ∈ inH H b e) → i = j
structure Fr (A : Addr → Prop) (F H F' H' : Hp) : Prop where
  f : Le F F'
  h : ∀ a o, ¬ A a → H a = some o → H' a = some o
  n : ∀ a o, ¬ A a → H a = some o → (∀ vs, o ≠ .tup vs) → F' a = F a
  t : ∀ a, H' a = none → H a = none
theorem Fr.refl {A : Addr → Prop} {F H : Hp} : Fr A F H F H := ⟨le_refl F, fun _ _ _ e => e, fun _ _ _ _ _ => rfl, fun _ e => e⟩
theorem Fr.trans {A : Addr → Prop} {F H F1 H1 F2 H2 : Hp} (a : Fr A F H F1 H1) (b : Fr A F1 H1 F2 H2) : Fr A F H F2 H2 :=
  ⟨le_trans a.f b.f, fun x o hx e => b.h x o hx (a.h x o hx e), fun x o hx e t => by
    rw [b.n x o hx (a.h x o hx e) t, a.n x o hx e t], fun x e => a.t x (b.t x e)⟩
theorem up_none {H : Hp} {p x : Addr} {o : HO} (e : upd H p o x = none) : H x = none := by
  by_cases z : x = p
  · subst z; rw [upd_same] at e; cases e
  · rw [upd_ne z] at e; exact e
/-- a new object, frozen at once -/
theorem Fr.new {A : Addr → Prop} {F H : Hp} {p : Addr} {o : HO} (hf : Le F H) (hp : H p = none) : Fr A F H (upd F p o) (upd H p o) := by
  have fp : F p = none := by
    cases q : F p with
    | none => rfl
    | some u => rw [hf p u q] at hp; cases hp
  refine ⟨le_new fp, fun a u _ e => le_new hp a u e, fun a o _ e _ => ?_, fun a e => up_none e⟩
  rw [upd_ne fun z => by rw [z, hp] at e; cases e]
theorem f_none {F H : Hp} {p : Addr} (hf : Le F H) (hp : H p = none) : F p = none := by
  cases q : F p with
  | none => rfl
  | some u => rw [hf p u q] at hp; cases hp
/-- a new object, not frozen -/
theorem Fr.newO {A : Addr → Prop} {F H : Hp} {p : Addr} {o : HO} (hp : H p = none) : Fr A F H F (upd H p o) := ⟨le_refl F, fun a u _ e => le_new hp a u e, fun _ _ _ _ _ => rfl, fun a e => up_none e⟩
section
variable {T : Tx} {π : Nat → Option Pin} {A : Addr → Prop} {F H F' H' : Hp} {σ : L2.St} {ρ : En}
/-- what stands is kept, the frozen part grows -/
theorem Ok.grow (k : Ok T π A F H σ ρ) (hf : Le F F') (hl : Le F' H') (hn : ∀ a, IsOwn H σ ρ a → F' a = none) (hh : ∀ a o, IsOwn H σ ρ a → H a = some o → H' a = some o) : Ok T π A F' H' σ ρ := by
  have sm : ∀ (i : Nat) io d a, ρ[i]? = some (some (.own io d)) → σ[i]? = some (some (.ref a)) → inH H' a d = inH H a d := fun i io d a e s => by
    obtain ⟨b, h1, h2, h3, h4, h5, h6⟩ := k.own i io d e
    rw [s] at h1
    cases h1
    exact h3.same fun o q => hh a o ⟨i, io, d, a, e, s, .inl rfl⟩ q
  refine ⟨hl, k.len, fun i d e => ?_, fun i io d e => ?_, fun i j io jo d e a b x h1 h2 h3 h4 h5 h6 => k.dis i j io jo d e a b x h1 h2 h3 h4 (by rw [← sm i io d a h1 h3]; exact h5) (by rw [← sm j jo e b h2 h4]; exact h6)⟩
  · obtain ⟨v, h1, h2⟩ := k.val i d e
    exact ⟨v, h1, h2.mono hf⟩
  · obtain ⟨a, h1, h2, h3, h4, h5, h6⟩ := k.own i io d e
    have w : ∀ x, (x = a ∨ x ∈ inH H a d) → IsOwn H σ ρ x := fun x hx => ⟨i, io, d, a, e, h1, hx⟩
    rw [← sm i io d a e h1] at h5 h6
    exact ⟨a, h1, hn a (w a (.inl rfl)), h3.mono hf fun x hx o q => hh x o (w x hx) q, h4, h5, fun x hx => ⟨hn x (w x (.inr (by rw [← sm i io d a e h1]; exact hx))), (h6 x hx).2⟩⟩
/-- the slots' own things are the same where what stands is kept -/
theorem Ok.sameOwn (k : Ok T π A F H σ ρ) (hh : ∀ a o, IsOwn H σ ρ a → H a = some o → H' a = some o) {x : Addr} : IsOwn H' σ ρ x ↔ IsOwn H σ ρ x := by
  have sm : ∀ (i : Nat) io d a, ρ[i]? = some (some (.own io d)) → σ[i]? = some (some (.ref a)) → inH H' a d = inH H a d := fun i io d a e s => by
    obtain ⟨b, h1, h2, h3, h4, h5, h6⟩ := k.own i io d e
    rw [s] at h1
    cases h1
    exact h3.same fun o q => hh a o ⟨i, io, d, a, e, s, .inl rfl⟩ q
  constructor
  · rintro ⟨i, io, d, a, e, s, hx⟩
    exact ⟨i, io, d, a, e, s, by rw [← sm i io d a e s]; exact hx⟩
  · rintro ⟨i, io, d, a, e, s, hx⟩
    exact ⟨i, io, d, a, e, s, by rw [sm i io d a e s]; exact hx⟩
theorem Ok.ownT (k : Ok T π A F H σ ρ) {a : Addr} (w : IsOwn H σ ρ a) : A a ∧ F a = none ∧ ∃ o, H a = some o ∧ ∀ vs, o ≠ .tup vs := by
  obtain ⟨i, io, d, b, e, s, hx⟩ := w
  obtain ⟨c, h1, h2, h3, h4, h5, h6⟩ := k.own i io d e
  rw [s] at h1
  cases h1
  refine ⟨?_, ?_, h3.hasI hx⟩
  · rcases hx with hx | hx
    · rw [hx]; exact h4
    · exact (h6 a hx).2
  · rcases hx with hx | hx
    · rw [hx]; exact h2
    · exact (h6 a hx).1
theorem Ok.ownH (k : Ok T π A F H σ ρ) {a : Addr} (w : IsOwn H σ ρ a) : A a ∧ F a = none ∧ ∃ o, H a = some o := by
  obtain ⟨h1, h2, o, h3, _⟩ := k.ownT w
  exact ⟨h1, h2, o, h3⟩
theorem Ok.new (k : Ok T π A F H σ ρ) {p : Addr} {o : HO} (hp : H p = none) : Ok T π A (upd F p o) (upd H p o) σ ρ := by
  have ne : ∀ a, IsOwn H σ ρ a → a ≠ p := fun a w z => by
    obtain ⟨_, _, u, e⟩ := k.ownH w
    rw [z, hp] at e; cases e
  refine k.grow (le_new (f_none k.le hp)) (fun a u e => ?_) (fun a w => ?_) fun a u w e => ?_
  · by_cases z : a = p
    · subst z; rw [upd_same] at e ⊢; exact e
    · rw [upd_ne z] at e ⊢; exact k.le a u e
  · rw [upd_ne (ne a w)]; exact (k.ownH w).2.1
  · rw [upd_ne (ne a w)]; exact e
theorem Ok.newO (k : Ok T π A F H σ ρ) {p : Addr} {o : HO} (hp : H p = none) : Ok T π A F (upd H p o) σ ρ := by
  refine k.grow (le_refl F) (le_trans k.le (le_new hp)) (fun a w => (k.ownH w).2.1) fun a u w e => ?_
  rw [upd_ne fun z => by rw [z, hp] at e; cases e]; exact e
end
/-! ### results -/
/-- an exception: its class's number, its fields -/
structure Ex where
  c : Nat
  fs : List Dt
inductive Ou (α : Type) where
  | ok (a : α) (ρ : En)
  | exc (x : Ex) (ρ : En)
  | bad
abbrev Mi (α : Type) := En → Ou α
def mPure {α : Type} (a : α) : Mi α := fun ρ => .ok a ρ
def mBad {α : Type} : Mi α := fun _ => .bad
def mBind {α β : Type} (m : Mi α) (k : α → Mi β) : Mi β := fun ρ => match m ρ with
  | .ok a ρ' => k a ρ'
  | .exc x ρ' => .exc x ρ'
  | .bad => .bad
def mOpt {α : Type} : Option α → Mi α
  | some a => mPure a
  | none => mBad
/-- what is known of a flying exception (filled in where exceptions are) -/
def RepX (T : Tx) (F H : Hp) (cls : Value) (d : Option Addr) (x : Ex) : Prop :=
  ∃ (C dx : Addr) (ns : List Str) (vs : List V), T.cl x.c = some (C, ns) ∧ cls = .ref C ∧ vs.length = ns.length ∧ Reps T F vs x.fs ∧
    ((ns = [] ∧ d = none) ∨ (d = some dx ∧ H dx = some (.xd (ns.zip vs))))
def Post {α : Type} (T : Tx) (π : Nat → Option Pin) (W : WX) (σ : L2.St) (A : Addr → Prop) (F H : Hp) (P : α → En → Hp → Hp → Prop) : Ou α → Prop
  | .ok a ρ' => ∀ F' H', Ok T π A F' H' σ ρ' → Fr A F H F' H' → P a ρ' F' H'
  | .exc x ρ' => ∀ F' H' cls d, Ok T π A F' H' σ ρ' → Fr A F H F' H' → RepX T F' H' cls d x → W cls d σ H'
  | .bad => False
section
variable {T : Tx} {π : Nat → Option Pin} {W : WX} {A : Addr → Prop} {F H : Hp} {σ : L2.St} {α β : Type}
theorem Post.imp {P P' : α → En → Hp → Hp → Prop} {o : Ou α} (h : Post T π W σ A F H P o) (f : ∀ a ρ' F' H', Ok T π A F' H' σ ρ' → Fr A F H F' H' → P a ρ' F' H' → P' a ρ' F' H') : Post T π W σ A F H P' o := by
  cases o with
  | ok a ρ' => exact fun F' H' k r => f a ρ' F' H' k r (h F' H' k r)
  | exc x ρ' => exact h
  | bad => exact h
theorem Post.bind {P : β → En → Hp → Hp → Prop} {m : Mi α} {k : α → Mi β} {ρ : En} (h : Post T π W σ A F H P (mBind m k ρ)) :
    Post T π W σ A F H (fun a ρ1 F1 H1 => Post T π W σ A F1 H1 P (k a ρ1)) (m ρ) := by
  unfold mBind at h
  cases e : m ρ with
  | ok a ρ1 =>
    rw [e] at h
    intro F1 H1 k1 r1
    dsimp only at h
    cases e2 : k a ρ1 with
    | ok b ρ2 =>
      rw [e2] at h
      exact fun F2 H2 k2 r2 => h F2 H2 k2 (r1.trans r2)
    | exc x ρ2 =>
      rw [e2] at h
      exact fun F2 H2 c d k2 r2 => h F2 H2 c d k2 (r1.trans r2)
    | bad => rw [e2] at h; exact h.elim
  | exc x ρ1 => rw [e] at h; exact h
  | bad => rw [e] at h; exact h.elim
theorem Post.pure {P : α → En → Hp → Hp → Prop} {a : α} {ρ : En} (h : Post T π W σ A F H P (mPure a ρ)) (k : Ok T π A F H σ ρ) : P a ρ F H := h F H k .refl
theorem Post.opt {P : α → En → Hp → Hp → Prop} {o : Option α} {ρ : En} (h : Post T π W σ A F H P (mOpt o ρ)) : ∃ a, o = some a ∧ Post T π W σ A F H P (mPure a ρ) := by
  cases o with
  | none => exact h.elim
  | some a => exact ⟨a, rfl, h⟩
end
/-! ### the readings of mirrors -/
section
variable (T : Tx) (π : Nat → Option Pin) (W : WX)
/-- a value that may be kept -/
def TMe (m : Mi Dt) : TE := fun σ H Q => ∃ A F ρ, Ok T π A F H σ ρ ∧ Post T π W σ A F H (fun d _ F' H' => ∀ v, Rep T F' v d → Q v H') (m ρ)
/-- a value to be read at once -/
def TMp (m : Mi Dt) : TE := fun σ H Q => ∃ A F ρ, Ok T π A F H σ ρ ∧ Post T π W σ A F H (fun d _ F' H' => ∀ v, RepS T F' H' v d → Q v H') (m ρ)
/-- a new object that nobody else holds -/
def TMn (m : Mi Dt) : TE := fun σ H Q => ∃ A F ρ, Ok T π A F H σ ρ ∧ Post T π W σ A F H (fun d ρ' F' H' => ∀ p, F' p = none → ¬ IsOwn H' σ ρ' p → H p = none → OwnAt T F' H' p d → (∀ x ∈ inH H' p d, F' x = none ∧ ¬ IsOwn H' σ ρ' x ∧ H x = none) → Q (.ref p) H') (m ρ)
def TMt (m : Mi Bool) : TT := fun σ H Q => ∃ A F ρ, Ok T π A F H σ ρ ∧ Post T π W σ A F H (fun b _ _ H' => Q b H') (m ρ)
def TMa (m : Mi (List Dt)) : TA := fun σ H Q => ∃ A F ρ, Ok T π A F H σ ρ ∧ Post T π W σ A F H (fun ds _ F' H' => ∀ vs, Reps T F' vs ds → Q vs H') (m ρ)
end
end Dl
namespace Dl
open PySem PySem.Spec PyProof.Rows L2
theorem _root_.L2.PE.imp {X : Cx} {e : Expr} {t t' : TE} (h : PE X e t) (f : ∀ σ H Q, t' σ H Q → t σ H Q) : PE X e t' := ⟨fun pins s σ H Q I q => h.run pins s σ H Q I (f σ H Q q)⟩
theorem _root_.L2.PT.imp {X : Cx} {e : Expr} {t t' : TT} (h : PT X e t) (f : ∀ σ H Q, t' σ H Q → t σ H Q) : PT X e t' := ⟨fun pins s σ H Q I q => h.run pins s σ H Q I (f σ H Q q)⟩
theorem _root_.L2.PA.imp {X : Cx} {e : List Expr} {t t' : TA} (h : PA X e t) (f : ∀ σ H Q, t' σ H Q → t σ H Q) : PA X e t' := ⟨fun pos pins s σ H Q I q => h.run pos pins s σ H Q I (f σ H Q q)⟩
theorem _root_.L2.PS.imp {X : Cx} {e : Stmt} {t t' : TS} (h : PS X e t) (f : ∀ D σ H, t' D σ H → t D σ H) : PS X e t' := ⟨fun pins s σ H D I q => h.run pins s σ H D I (f D σ H q)⟩
theorem _root_.L2.PSs.imp {X : Cx} {e : List Stmt} {t t' : TS} (h : PSs X e t) (f : ∀ D σ H, t' D σ H → t D σ H) : PSs X e t' := ⟨fun pins s σ H D I q => h.run pins s σ H D I (f D σ H q)⟩
theorem _root_.L2.PG.imp {X : Cx} {e : Expr} {t t' : TG} (h : PG X e t) (f : ∀ v σ H Q, t' v σ H Q → t v σ H Q) : PG X e t' := ⟨fun pins s σ H v u Q I r q => h.run pins s σ H v u Q I r (f v σ H Q q)⟩
theorem _root_.L2.PI.imp {X : Cx} {tg e : Expr} {t t' : TI} (h : PI X tg e t) (f : ∀ σ H Q, t' σ H Q → t σ H Q) : PI X tg e t' := ⟨fun pins s σ H Q I q => h.run pins s σ H Q I (f σ H Q q)⟩
theorem Post.imp2 {T : Tx} {π : Nat → Option Pin} {W : WX} {A : Addr → Prop} {F H : Hp} {σ : L2.St} {α : Type} {P P' : α → En → Hp → Hp → Prop} {o : Ou α} (h : Post T π W σ A F H P o)
    (f : ∀ a ρ', (∀ F' H', Ok T π A F' H' σ ρ' → Fr A F H F' H' → P a ρ' F' H') → ∀ F' H', Ok T π A F' H' σ ρ' → Fr A F H F' H' → P' a ρ' F' H') : Post T π W σ A F H P' o := by
  cases o with
  | ok a ρ' => exact f a ρ' h
  | exc x ρ' => exact h
  | bad => exact h
section
variable {X : Cx} {T : Tx} {π : Nat → Option Pin} {W : WX} {a b c e : Expr} {es : List Expr} {pos : Pos} {m ma mb mc : Mi Dt}
/-! ### from one kind of value to another -/
theorem _root_.L2.PE.peek (h : PE X e (TMe T π W m)) : PE X e (TMp T π W m) := h.imp fun σ H Q ⟨A, F, ρ, k, p⟩ => ⟨A, F, ρ, k, p.imp fun d ρ' F' H' _ _ q v r => q v r.s⟩
theorem _root_.L2.PE.keep (h : PE X e (TMn T π W m)) : PE X e (TMe T π W m) := h.imp fun σ H Q ⟨A, F, ρ, k, p⟩ => ⟨A, F, ρ, k, p.imp2 fun d ρ' q F' H' k' r' x hx nx hp ho hi => by
  obtain ⟨F2, e1, e2, e3, e4⟩ := ho.frozen k'.le hx (fun y hy => (hi y hy).1)
  have ne : ∀ y, IsOwn H' σ ρ' y → F2 y = F' y := fun y w => e3 y (fun z => nx (z ▸ w)) fun z => (hi y z).2.1 w
  have k2 : Ok T π A F2 H' σ ρ' := k'.grow e1 e2 (fun y w => by rw [ne y w]; exact (k'.ownH w).2.1) fun y u w z => z
  refine q F2 H' k2 ⟨le_trans r'.f e1, r'.h, fun y o hy z t => ?_, r'.t⟩ _ e4
  rw [e3 y (fun zz => by rw [zz, hp] at z; cases z) fun zz => by rw [(hi y zz).2.2] at z; cases z]
  exact r'.n y o hy z t⟩
/-! ### names -/
def mVar (i : Nat) : Mi Dt := fun ρ => match ρ[i]? with
  | some (some (.val d)) => .ok d ρ
  | some (some (.own false d)) => .ok d (ρ.set i (some (.val d)))
  | _ => .bad
def mPeek (i : Nat) : Mi Dt := fun ρ => match ρ[i]? with
  | some (some (.val d)) => .ok d ρ
  | some (some (.own _ d)) => .ok d ρ
  | _ => .bad
/-- a slot's own object is frozen -/
theorem Ok.freeze {A : Addr → Prop} {F H : Hp} {σ : L2.St} {ρ : En} (k : Ok T π A F H σ ρ) {i : Nat} {io : Bool} {d : Dt} (e : ρ[i]? = some (some (.own io d))) :
    ∃ a F', σ[i]? = some (some (.ref a)) ∧ Ok T π A F' H σ (ρ.set i (some (.val d))) ∧ Rep T F' (.ref a) d ∧ Fr A F H F' H := by
  obtain ⟨a, h1, h2, h3, h4, h5, h6⟩ := k.own i io d e
  obtain ⟨F2, e1, e2, e3, e4⟩ := h3.frozen k.le h2 (fun y hy => (h6 y hy).1)
  have hi : i < ρ.length := (List.getElem?_eq_some_iff.mp e).1
  have old : ∀ {j : Nat} {jo : Bool} {dj : Dt}, (ρ.set i (some (Sl.val d)))[j]? = some (some (.own jo dj)) → ρ[j]? = some (some (.own jo dj)) ∧ i ≠ j := fun {j jo dj} ej => by
    by_cases hj : i = j
    · subst hj; rw [List.getElem?_set_self hi] at ej; cases ej
    · rw [List.getElem?_set_ne hj] at ej; exact ⟨ej, hj⟩
  refine ⟨a, F2, h1, ⟨e2, by simpa using k.len, fun j dj ej => ?_, fun j jo dj ej => ?_, fun j l jo lo dj dl b c x ej el => k.dis j l jo lo dj dl b c x (old ej).1 (old el).1⟩, e4, ⟨e1, fun _ _ _ z => z, fun b o hb _ _ => e3 b (fun z => hb (by rw [z]; exact h4)) fun z => hb (h6 b z).2, fun _ z => z⟩⟩
  · by_cases hj : i = j
    · subst hj
      rw [List.getElem?_set_self hi] at ej
      cases ej
      exact ⟨.ref a, h1, e4⟩
    · rw [List.getElem?_set_ne hj] at ej
      obtain ⟨v, q1, q2⟩ := k.val j dj ej
      exact ⟨v, q1, q2.mono e1⟩
  · obtain ⟨ej, hj⟩ := old ej
    obtain ⟨b, q1, q2, q3, q4, q5, q6⟩ := k.own j jo dj ej
    have ne : ∀ x, (x = b ∨ x ∈ inH H b dj) → F2 x = F x := fun x hx => e3 x (fun z => hj (k.dis i j io jo d dj a b x e ej h1 q1 (.inl z) hx)) fun z => hj (k.dis i j io jo d dj a b x e ej h1 q1 (.inr z) hx)
    exact ⟨b, q1, by rw [ne b (.inl rfl)]; exact q2, q3.mono e1 fun _ _ _ z => z, q4, q5, fun x hx => ⟨by rw [ne x (.inr hx)]; exact (q6 x hx).1, (q6 x hx).2⟩⟩
theorem de_var {i : Nat} {x : Str} (h : PE X (.Name x pos) (tVar i)) : PE X (.Name x pos) (TMe T π W (mVar i)) := h.imp fun σ H Q ⟨A, F, ρ, k, p⟩ => by
  unfold mVar at p
  cases e : ρ[i]? with
  | none => rw [e] at p; exact p.elim
  | some s =>
    cases s with
    | none => rw [e] at p; exact p.elim
    | some s =>
      cases s with
      | val d =>
        rw [e] at p
        obtain ⟨v, h1, h2⟩ := k.val i d e
        exact ⟨v, h1, p F H k .refl v h2⟩
      | own io d =>
        cases io with
        | true => rw [e] at p; exact p.elim
        | false =>
          rw [e] at p
          obtain ⟨a, F', h1, h5, h6, h7⟩ := k.freeze e
          exact ⟨.ref a, h1, p F' H h5 h7 _ h6⟩
theorem dp_var {i : Nat} {x : Str} (h : PE X (.Name x pos) (tVar i)) : PE X (.Name x pos) (TMp T π W (mPeek i)) := h.imp fun σ H Q ⟨A, F, ρ, k, p⟩ => by
  unfold mPeek at p
  cases e : ρ[i]? with
  | none => rw [e] at p; exact p.elim
  | some s =>
    cases s with
    | none => rw [e] at p; exact p.elim
    | some s =>
      cases s with
      | val d =>
        rw [e] at p
        obtain ⟨v, h1, h2⟩ := k.val i d e
        exact ⟨v, h1, p F H k .refl v h2.s⟩
      | own io d =>
        rw [e] at p
        obtain ⟨a, h1, h2, h3, h4, h5⟩ := k.own i io d e
        exact ⟨.ref a, h1, p F H k .refl _ (.inr ⟨a, rfl, h3⟩)⟩
/-! ### constants -/
theorem de_c {v : V} {d : Dt} (h : PE X e (tC v)) (r : ∀ F, Rep T F v d) : PE X e (TMe T π W (mPure d)) := h.imp fun σ H Q ⟨A, F, ρ, k, p⟩ => p.pure k v (r F)
theorem de_int {i j} : PE X (.Constant (.int i) j pos) (TMe T π W (mPure (.int i))) := de_c pe_int fun _ => .int i
theorem de_bl {i j} : PE X (.Constant (.bool i) j pos) (TMe T π W (mPure (.bl i))) := de_c pe_bl fun _ => .bl i
theorem de_non {j} : PE X (.Constant .none j pos) (TMe T π W (mPure .non)) := de_c pe_non fun _ => .non
theorem de_str {i j} : PE X (.Constant (.str i) j pos) (TMe T π W (mPure (.str i))) := de_c pe_str fun _ => .str i
/-! ### operators -/
def OpS (T : Tx) (r : R2) (f : Dt → Dt → Option Dt) : Prop := ∀ (π : Nat → Option Pin) (A : Addr → Prop) (F H : Hp) (σ : L2.St) (ρ : En) (v w : V) (d e z : Dt) (Q : VK), Ok T π A F H σ ρ → RepS T F H v d → RepS T F H w e → f d e = some z →
  (∀ F' H' u, Ok T π A F' H' σ ρ → Fr A F H F' H' → Rep T F' u z → Q u H') → r v w H Q
def UnS (T : Tx) (r : V → Hp → VK → Prop) (f : Dt → Option Dt) : Prop := ∀ (π : Nat → Option Pin) (A : Addr → Prop) (F H : Hp) (σ : L2.St) (ρ : En) (v : V) (d z : Dt) (Q : VK), Ok T π A F H σ ρ → RepS T F H v d → f d = some z →
  (∀ F' H' u, Ok T π A F' H' σ ρ → Fr A F H F' H' → Rep T F' u z → Q u H') → r v H Q
def m2 (f : Dt → Dt → Option Dt) (ma mb : Mi Dt) : Mi Dt := mBind ma fun x => mBind mb fun y => mOpt (f x y)
def m1 (f : Dt → Option Dt) (m : Mi Dt) : Mi Dt := mBind m fun x => mOpt (f x)
theorem de_tOp {r : R2} {f : Dt → Dt → Option Dt} (h : PE X e (tOp r (TMe T π W ma) (TMp T π W mb))) (hs : OpS T r f) : PE X e (TMe T π W (m2 f ma mb)) := h.imp fun σ H Q ⟨A, F, ρ, k, p⟩ =>
  ⟨A, F, ρ, k, p.bind.imp fun x ρ1 F1 H1 k1 r1 p1 v rv => ⟨A, F1, ρ1, k1, p1.bind.imp fun y ρ2 F2 H2 k2 r2 p2 w rw => by
    obtain ⟨z, e, p3⟩ := p2.opt
    exact hs π A F2 H2 σ ρ2 v w x y z Q k2 (rv.mono r2.f).s rw e fun F' H' u k' r' ru => p3 F' H' k' r' u ru⟩⟩
theorem de_bin {op : Operator} {r : R2} {f : Dt → Dt → Option Dt} (ho : OpR X (binaryOp op) r) (hs : OpS T r f) (ha : PE X a (TMe T π W ma)) (hb : PE X b (TMp T π W mb)) : PE X (.BinOp a op b pos) (TMe T π W (m2 f ma mb)) :=
  de_tOp (pe_op ho ha hb) hs
theorem de_cmp {op : CmpOp} {r : R2} {f : Dt → Dt → Option Dt} (ho : OpR X (compareOp op) r) (hs : OpS T r f) (ha : PE X a (TMe T π W ma)) (hb : PE X b (TMp T π W mb)) (hm : behindInMarks op b = false) : PE X (.Compare a [op] [b] pos) (TMe T π W (m2 f ma mb)) :=
  de_tOp (pe_cmpR ho ha hb hm) hs
theorem de_un {op : UnaryOp} {r : V → Hp → VK → Prop} {f : Dt → Option Dt} (ho : UnR X (unaryOp op) r) (hs : UnS T r f) (ha : PE X a (TMp T π W ma)) : PE X (.UnaryOp op a pos) (TMe T π W (m1 f ma)) :=
  (pe_un ho ha).imp fun σ H Q ⟨A, F, ρ, k, p⟩ => ⟨A, F, ρ, k, p.bind.imp fun x ρ1 F1 H1 k1 r1 p1 v rv => by
    obtain ⟨z, e, p3⟩ := p1.opt
    exact hs π A F1 H1 σ ρ1 v x z Q k1 rv e fun F' H' u k' r' ru => p3 F' H' k' r' u ru⟩
/-! ### tests -/
def mB (m : Mi Dt) : Mi Bool := mBind m fun d => match d with
  | .bl b => mPure b
  | _ => mBad
theorem Rep.bl_inv {F : Hp} {v : V} {b : Bool} (h : Rep T F v (.bl b)) : v = .bl b := by cases h; rfl
theorem Rep.int_inv {F : Hp} {v : V} {b : Int} (h : Rep T F v (.int b)) : v = .int b := by cases h; rfl
theorem Rep.str_inv {F : Hp} {v : V} {b : Str} (h : Rep T F v (.str b)) : v = .str b := by cases h; rfl
theorem Rep.non_inv {F : Hp} {v : V} (h : Rep T F v .non) : v = .non := by cases h; rfl
theorem RepS.flat {F H : Hp} {v : V} {d : Dt} (h : RepS T F H v d) (hd : match d with | .lst _ => False | .dic _ _ _ => False | .ins _ _ => False | .deal _ _ => False | _ => True) : Rep T F v d := by
  rcases h with h | ⟨a, e, h⟩
  · exact h
  · cases d <;> first | exact hd.elim | exact h.elim
theorem dt_val (h : PE X e (TMe T π W m)) (he : ∀ whole, isTrue e X.env whole = (do let v ← whole; standAt e.pos; holding [v] (truthy v)) := by intro _; rfl) : PT X e (TMt T π W (mB m)) :=
  (pt_val h he).imp fun σ H Q ⟨A, F, ρ, k, p⟩ => ⟨A, F, ρ, k, p.bind.imp fun d ρ1 F1 H1 k1 r1 p1 v rv => by
    cases d with
    | bl b => exact ⟨b, rv.bl_inv, p1.pure k1⟩
    | _ => exact p1.elim⟩
theorem dt_tOp {r : R2} {f : Dt → Dt → Option Dt} (h : PT X e (tTest (tOp r (TMe T π W ma) (TMp T π W mb)))) (hs : OpS T r f) : PT X e (TMt T π W (mB (m2 f ma mb))) := h.imp fun σ H Q ⟨A, F, ρ, k, p⟩ => by
  have p' := p.bind
  exact ⟨A, F, ρ, k, p'.bind.imp fun x ρ1 F1 H1 k1 r1 p1 v rv => ⟨A, F1, ρ1, k1, p1.bind.imp fun y ρ2 F2 H2 k2 r2 p2 w rw => by
    obtain ⟨z, e, p3⟩ := p2.opt
    refine hs π A F2 H2 σ ρ2 v w x y z _ k2 (rv.mono r2.f).s rw e fun F' H' u k' r' ru => ?_
    have p4 := p3 F' H' k' r'
    cases z with
    | bl b => exact ⟨b, ru.bl_inv, p4 F' H' k' .refl⟩
    | _ => exact p4.elim⟩⟩
theorem dt_cmp {op : CmpOp} {r : R2} {f : Dt → Dt → Option Dt} (ho : OpR X (compareOp op) r) (hs : OpS T r f) (ha : PE X a (TMe T π W ma)) (hb : PE X b (TMp T π W mb)) (hm : behindInMarks op b = false) : PT X (.Compare a [op] [b] pos) (TMt T π W (mB (m2 f ma mb))) :=
  dt_tOp (pt_cmpR ho ha hb hm) hs
variable {ta tb : Mi Bool} {rest : List Expr}
def mAnd (s t : Mi Bool) : Mi Bool := mBind s fun b => match b with | true => t | false => mPure false
def mOr (s t : Mi Bool) : Mi Bool := mBind s fun b => match b with | true => mPure true | false => t
def mNot (s : Mi Bool) : Mi Bool := mBind s fun b => mPure (!b)
theorem _root_.L2.PW.imp {t t' : TT} (h : PW X e t) (f : ∀ σ H Q, t' σ H Q → t σ H Q) : PW X e t' := ⟨fun wh pins s σ H Q I q => h.run wh pins s σ H Q I (f σ H Q q)⟩
theorem dw_and1 (ha : PT X a (TMt T π W ta)) : PW X (.BoolOp .And [a] pos) (TMt T π W ta) := pw_and1 ha
theorem dw_or1 (ha : PT X a (TMt T π W ta)) : PW X (.BoolOp .Or [a] pos) (TMt T π W ta) := pw_or1 ha
theorem dw_and (ha : PT X a (TMt T π W ta)) (hb : PW X (.BoolOp .And (b :: rest) pos) (TMt T π W tb)) : PW X (.BoolOp .And (a :: b :: rest) pos) (TMt T π W (mAnd ta tb)) :=
  PW.imp (pw_and ha hb) fun σ H Q ⟨A, F, ρ, k, p⟩ => ⟨A, F, ρ, k, p.bind.imp fun c ρ1 F1 H1 k1 r1 p1 => by
    cases c with
    | true => exact iteT ⟨A, F1, ρ1, k1, p1⟩
    | false => exact iteF (p1.pure k1)⟩
theorem dw_or (ha : PT X a (TMt T π W ta)) (hb : PW X (.BoolOp .Or (b :: rest) pos) (TMt T π W tb)) : PW X (.BoolOp .Or (a :: b :: rest) pos) (TMt T π W (mOr ta tb)) :=
  PW.imp (pw_or ha hb) fun σ H Q ⟨A, F, ρ, k, p⟩ => ⟨A, F, ρ, k, p.bind.imp fun c ρ1 F1 H1 k1 r1 p1 => by
    cases c with
    | false => exact iteF ⟨A, F1, ρ1, k1, p1⟩
    | true => exact iteT (p1.pure k1)⟩
theorem dt_not (ha : PT X a (TMt T π W ta)) : PT X (.UnaryOp .Not a pos) (TMt T π W (mNot ta)) := (pt_not ha).imp fun σ H Q ⟨A, F, ρ, k, p⟩ => ⟨A, F, ρ, k, p.bind.imp fun c ρ1 F1 H1 k1 r1 p1 => p1.pure k1⟩
/-! ### and, or, not as values -/
def mAndV (s t : Mi Dt) : Mi Dt := mBind s fun d => match d with | .bl true => t | .bl false => mPure (.bl false) | _ => mBad
def mOrV (s t : Mi Dt) : Mi Dt := mBind s fun d => match d with | .bl true => mPure (.bl true) | .bl false => t | _ => mBad
def mNotV (s : Mi Dt) : Mi Dt := mBind s fun d => match d with | .bl b => mPure (.bl (!b)) | _ => mBad
theorem de_and (ha : PE X a (TMe T π W ma)) (hb : PE X (.BoolOp .And (b :: rest) pos) (TMe T π W mb)) : PE X (.BoolOp .And (a :: b :: rest) pos) (TMe T π W (mAndV ma mb)) :=
  (pe_and ha hb).imp fun σ H Q ⟨A, F, ρ, k, p⟩ => ⟨A, F, ρ, k, p.bind.imp fun c ρ1 F1 H1 k1 r1 p1 v rv => by
    cases c with
    | bl c =>
      refine ⟨c, rv.bl_inv, ?_⟩
      cases c with
      | true => exact iteT ⟨A, F1, ρ1, k1, p1⟩
      | false => exact iteF (p1.pure k1 _ (.bl false))
    | _ => exact p1.elim⟩
theorem de_or (ha : PE X a (TMe T π W ma)) (hb : PE X (.BoolOp .Or (b :: rest) pos) (TMe T π W mb)) : PE X (.BoolOp .Or (a :: b :: rest) pos) (TMe T π W (mOrV ma mb)) :=
  (pe_or ha hb).imp fun σ H Q ⟨A, F, ρ, k, p⟩ => ⟨A, F, ρ, k, p.bind.imp fun c ρ1 F1 H1 k1 r1 p1 v rv => by
    cases c with
    | bl c =>
      refine ⟨c, rv.bl_inv, ?_⟩
      cases c with
      | false => exact iteF ⟨A, F1, ρ1, k1, p1⟩
      | true => exact iteT (p1.pure k1 _ (.bl true))
    | _ => exact p1.elim⟩
theorem de_one {op} (ha : PE X a (TMe T π W ma)) : PE X (.BoolOp op [a] pos) (TMe T π W ma) := pe_one ha
theorem de_not (ha : PE X a (TMe T π W ma)) : PE X (.UnaryOp .Not a pos) (TMe T π W (mNotV ma)) := (pe_not ha).imp fun σ H Q ⟨A, F, ρ, k, p⟩ => ⟨A, F, ρ, k, p.bind.imp fun c ρ1 F1 H1 k1 r1 p1 v rv => by
    cases c with
    | bl c => exact ⟨c, rv.bl_inv, p1.pure k1 _ (.bl _)⟩
    | _ => exact p1.elim⟩
/-- a if t else b -/
def mIfE (t : Mi Bool) (ma mb : Mi Dt) : Mi Dt := mBind t fun b => match b with | true => ma | false => mb
theorem de_ifExp (hc : PT X c (TMt T π W ta)) (ha : PE X a (TMe T π W ma)) (hb : PE X b (TMe T π W mb)) : PE X (.IfExp c a b pos) (TMe T π W (mIfE ta ma mb)) :=
  (pe_ifExp hc ha hb).imp fun σ H Q ⟨A, F, ρ, k, p⟩ => ⟨A, F, ρ, k, p.bind.imp fun c ρ1 F1 H1 k1 r1 p1 => by
    cases c with
    | true => exact iteT ⟨A, F1, ρ1, k1, p1⟩
    | false => exact iteF ⟨A, F1, ρ1, k1, p1⟩⟩
/-! ### displays -/
def mCons (m : Mi Dt) (ms : Mi (List Dt)) : Mi (List Dt) := mBind m fun d => mBind ms fun ds => mPure (d :: ds)
def mStar (m : Mi Dt) (ms : Mi (List Dt)) : Mi (List Dt) := mBind m fun d => match d with
  | .lst xs => mBind ms fun ds => mPure (xs ++ ds)
  | .tup xs => mBind ms fun ds => mPure (xs ++ ds)
  | _ => mBad
variable {ms : Mi (List Dt)}
theorem da_nil : PA X [] (TMa T π W (mPure [])) := pa_nil.imp fun σ H Q ⟨A, F, ρ, k, p⟩ => p.pure k [] .nil
theorem da_cons (he : PE X e (TMe T π W m)) (hr : PA X es (TMa T π W ms)) (hs : starEach (e :: es) X.env = (false, eval e X.env) :: starEach es X.env := by rfl) : PA X (e :: es) (TMa T π W (mCons m ms)) :=
  (pa_cons he hr hs).imp fun σ H Q ⟨A, F, ρ, k, p⟩ => ⟨A, F, ρ, k, p.bind.imp fun d ρ1 F1 H1 k1 r1 p1 v rv => ⟨A, F1, ρ1, k1, p1.bind.imp fun ds ρ2 F2 H2 k2 r2 p2 vs rvs => p2.pure k2 (v :: vs) (.cons (rv.mono r2.f) rvs)⟩⟩
theorem RepS.seq {F H : Hp} {v : V} {d : Dt} {xs : List Dt} (h : RepS T F H v d) (le : Le F H) (hd : d = .lst xs ∨ d = .tup xs) : ∃ p vs, v = .ref p ∧ (SqL T.K H p vs ∨ SqT T.K H p vs) ∧ Reps T F vs xs ∧ (d = .lst xs → SqL T.K H p vs) ∧ (d = .tup xs → SqT T.K H p vs) := by
  rcases h with h | ⟨a, e, h⟩
  · rcases hd with rfl | rfl
    · cases h with
      | lst q r => exact ⟨_, _, rfl, .inl (SqL.of (le _ _ q)), r, fun _ => SqL.of (le _ _ q), fun z => by cases z⟩
    · obtain ⟨a, vs, e, q, r⟩ := h.tup_inv
      exact ⟨a, vs, e, .inr (sqt_mono le q), r, (fun z => by cases z), fun _ => sqt_mono le q⟩
  · rcases hd with rfl | rfl
    · obtain ⟨vs, q, r⟩ := h
      exact ⟨a, vs, e, .inl (SqL.of q), r, fun _ => SqL.of q, fun z => by cases z⟩
    · exact h.elim
theorem da_star {p : Pos} (hK : X.K = T.K) (he : PE X e (TMp T π W m)) (hr : PA X es (TMa T π W ms)) (hpa : PA X (.Starred e p :: es) (StX.tStar X.K (TMp T π W m) (TMa T π W ms))) : PA X (.Starred e p :: es) (TMa T π W (mStar m ms)) :=
  hpa.imp fun σ H Q ⟨A, F, ρ, k, p⟩ => ⟨A, F, ρ, k, p.bind.imp fun d ρ1 F1 H1 k1 r1 p1 v rv => by
    have go : ∀ xs, (d = .lst xs ∨ d = .tup xs) → Post T π W σ A F1 H1 (fun ds _ F' H' => ∀ vs, Reps T F' vs ds → Q vs H') ((mBind ms fun ds => mPure (xs ++ ds)) ρ1) →
        ∃ p ys, v = V.ref p ∧ (SqT X.K H1 p ys ∨ SqL X.K H1 p ys) ∧ TMa T π W ms σ H1 fun zs H2 => Q (ys ++ zs) H2 := fun xs hx pp => by
      obtain ⟨a, vs, e1, q, r, _⟩ := rv.seq k1.le hx
      rw [hK]
      exact ⟨a, vs, e1, q.symm, A, F1, ρ1, k1, pp.bind.imp fun ds ρ2 F2 H2 k2 r2 p2 ws rws => p2.pure k2 _ ((r.mono r2.f).append rws)⟩
    cases d with
    | lst xs => exact go xs (.inl rfl) p1
    | tup xs => exact go xs (.inr rfl) p1
    | _ => exact p1.elim⟩
def mTup (ms : Mi (List Dt)) : Mi Dt := mBind ms fun ds => if ds.length ≤ sizeLine then mPure (.tup ds) else mBad
def mLst (ms : Mi (List Dt)) : Mi Dt := mBind ms fun ds => if ds.length ≤ sizeLine then mPure (.lst ds) else mBad
theorem de_tup {x1} (h : PA X es (TMa T π W ms)) : PE X (.Tuple es x1 pos) (TMe T π W (mTup ms)) := (pe_tup h).imp fun σ H Q ⟨A, F, ρ, k, p⟩ => ⟨A, F, ρ, k, p.bind.imp fun ds ρ1 F1 H1 k1 r1 p1 vs rvs => by
  split at p1
  · rename_i hl
    refine ⟨by rw [rvs.length]; exact hl, fun x hx => ?_⟩
    exact p1 (upd F1 x (.tup vs)) (upd H1 x (.tup vs)) (k1.new hx) (.new k1.le hx) _ (.tup upd_same (rvs.mono (le_new (f_none k1.le hx))))
  · exact p1.elim⟩
/-- a fresh address is no slot's own -/
theorem Ok.fresh_own {A : Addr → Prop} {F H : Hp} {σ : L2.St} {ρ : En} (k : Ok T π A F H σ ρ) {p : Addr} (hp : H p = none) : ¬ IsOwn H σ ρ p := fun w => by
  obtain ⟨_, _, o, e⟩ := k.ownH w
  rw [hp] at e; cases e
theorem Ok.fresh_new {A : Addr → Prop} {F H : Hp} {σ : L2.St} {ρ : En} (k : Ok T π A F H σ ρ) {p : Addr} {o : HO} (hp : H p = none) : ¬ IsOwn (upd H p o) σ ρ p := fun w =>
  k.fresh_own hp ((k.sameOwn fun a u _ e => le_new hp a u e).mp w)
end
end Dl
namespace Dl
open PySem PySem.Spec PyProof.Rows L2
section
variable {X : Cx} {T : Tx} {π : Nat → Option Pin} {W : WX} {a b c e : Expr} {es : List Expr} {pos : Pos} {m ma mb mc : Mi Dt} {ms : Mi (List Dt)} {A A' : Addr → Prop} {F H F' H' F0 H0 : Hp} {σ : L2.St} {ρ : En}
theorem Ok.weak (k : Ok T π A F H σ ρ) (h : ∀ a, A a → A' a) : Ok T π A' F H σ ρ := ⟨k.le, k.len, k.val, fun i io d e => by
  obtain ⟨x, h1, h2, h3, h4, h5⟩ := k.own i io d e
  exact ⟨x, h1, h2, h3, h _ h4, h5.1, fun y hy => ⟨(h5.2 y hy).1, h _ (h5.2 y hy).2⟩⟩, k.dis⟩
theorem Ok.tight (k : Ok T π A F H σ ρ) : Ok T π (IsOwn H σ ρ) F H σ ρ := ⟨k.le, k.len, k.val, fun i io d e => by
  obtain ⟨x, h1, h2, h3, h4, h5⟩ := k.own i io d e
  exact ⟨x, h1, h2, h3, ⟨i, io, d, x, e, h1, .inl rfl⟩, h5.1, fun y hy => ⟨(h5.2 y hy).1, ⟨i, io, d, x, e, h1, .inr hy⟩⟩⟩, k.dis⟩
theorem Fr.weak (r : Fr A F H F' H') (h : ∀ a, A a → A' a) : Fr A' F H F' H' := ⟨r.f, fun a o n e => r.h a o (fun z => n (h a z)) e, fun a o n e t => r.n a o (fun z => n (h a z)) e t, r.t⟩
theorem Post.weak {α : Type} {P : α → En → Hp → Hp → Prop} {o : Ou α} (p : Post T π W σ A F H P o) (h : ∀ a, A' a → A a) : Post T π W σ A' F H P o := by
  cases o with
  | ok a ρ' => exact fun F' H' k r => p F' H' (k.weak h) (r.weak h)
  | exc x ρ' => exact fun F' H' c d k r => p F' H' c d (k.weak h) (r.weak h)
  | bad => exact p
theorem Ok.ownA (k : Ok T π A F H σ ρ) {a : Addr} (w : IsOwn H σ ρ a) : A a := (k.ownH w).1
/-- [..]: a new list -/
theorem dn_lst (h : PA X es (TMa T π W ms)) : PE X (.List es pos) (TMn T π W (mLst ms)) := (pe_lst h).imp fun σ H Q ⟨A, F, ρ, k, p⟩ => ⟨A, F, ρ, k, p.bind.imp fun ds ρ1 F1 H1 k1 r1 p1 vs rvs => by
  split at p1
  · rename_i hl
    refine ⟨by rw [rvs.length]; exact hl, fun x hx => ?_⟩
    exact p1 F1 (upd H1 x (.lst vs)) (k1.newO hx) (.newO hx) x (f_none k1.le hx) (k1.fresh_new hx) (r1.t x hx) ⟨vs, upd_same, rvs⟩ (fun _ z => nomatch z)
  · exact p1.elim⟩
/-! ### several values, some of them new objects -/
inductive Gk (T : Tx) (F H : Hp) (A : Addr → Prop) : List Bool → List V → List Dt → List Addr → Prop
  | nil : Gk T F H A [] [] [] []
  | val {v : V} {d : Dt} {ks : List Bool} {vs : List V} {ds : List Dt} {as : List Addr} : Rep T F v d → Gk T F H A ks vs ds as → Gk T F H A (false :: ks) (v :: vs) (d :: ds) as
  | own {p : Addr} {d : Dt} {ks : List Bool} {vs : List V} {ds : List Dt} {as : List Addr} : F p = none → ¬ A p → OwnAt T F H p d → p ∉ as → (∀ x ∈ inH H p d, F x = none ∧ ¬ A x ∧ x ∉ as) → Gk T F H A ks vs ds as → Gk T F H A (true :: ks) (.ref p :: vs) (d :: ds) (p :: (inH H p d ++ as))
def TMk (T : Tx) (π : Nat → Option Pin) (W : WX) (ks : List Bool) (m : Mi (List Dt)) : TA := fun σ H Q => ∃ A F ρ, Ok T π A F H σ ρ ∧ (∀ a, A a → H a ≠ none) ∧
  Post T π W σ A F H (fun ds _ F' H' => ∀ vs as, Gk T F' H' A ks vs ds as → (∀ a ∈ as, H a = none) → Q vs H') (m ρ)
variable {ks : List Bool}
theorem dk_nil : PA X [] (TMk T π W [] (mPure [])) := pa_nil.imp fun σ H Q ⟨A, F, ρ, k, ht, p⟩ => p.pure k [] [] .nil (fun _ z => nomatch z)
theorem dk_val (he : PE X e (TMe T π W m)) (hr : PA X es (TMk T π W ks ms)) (hs : starEach (e :: es) X.env = (false, eval e X.env) :: starEach es X.env := by rfl) : PA X (e :: es) (TMk T π W (false :: ks) (mCons m ms)) :=
  (pa_cons he hr hs).imp fun σ H Q ⟨A, F, ρ, k, ht, p⟩ => ⟨A, F, ρ, k, p.bind.imp fun d ρ1 F1 H1 k1 r1 p1 v rv =>
    ⟨A, F1, ρ1, k1, fun a z e => ht a z (r1.t a e), p1.bind.imp fun ds ρ2 F2 H2 k2 r2 p2 vs as g ha => p2.pure k2 (v :: vs) as (.val (rv.mono r2.f) g) fun a z => r1.t a (ha a z)⟩⟩
theorem dk_own (he : PE X e (TMn T π W m)) (hr : PA X es (TMk T π W ks ms)) (hs : starEach (e :: es) X.env = (false, eval e X.env) :: starEach es X.env := by rfl) : PA X (e :: es) (TMk T π W (true :: ks) (mCons m ms)) :=
  (pa_cons he hr hs).imp fun σ H Q ⟨A, F, ρ, k, ht, p⟩ => ⟨A, F, ρ, k, p.bind.imp fun d ρ1 F1 H1 k1 r1 p1 x hx nx hp ho hi =>
    ⟨A, F1, ρ1, k1, fun a z e => ht a z (r1.t a e), p1.bind.imp fun ds ρ2 F2 H2 k2 r2 p2 vs as g ha => by
      have hpi : ∀ y, (y = x ∨ y ∈ inH H1 x d) → H y = none := fun y hy => hy.elim (fun z => z ▸ hp) fun z => (hi y z).2.2
      have hfi : ∀ y, (y = x ∨ y ∈ inH H1 x d) → F1 y = none := fun y hy => hy.elim (fun z => z ▸ hx) fun z => (hi y z).1
      have nA : ∀ y, (y = x ∨ y ∈ inH H1 x d) → ¬ A y := fun y hy z => ht y z (hpi y hy)
      have f2 : ∀ y, (y = x ∨ y ∈ inH H1 x d) → F2 y = none := fun y hy => by
        obtain ⟨o, eo, et⟩ := ho.hasI hy
        rw [r2.n y o (nA y hy) eo et]; exact hfi y hy
      have nas : ∀ y, (y = x ∨ y ∈ inH H1 x d) → y ∉ as := fun y hy z => by
        obtain ⟨o, eo, et⟩ := ho.hasI hy
        rw [ha y z] at eo; cases eo
      have sm : inH H2 x d = inH H1 x d := ho.same fun o q => r2.h x o (nA x (.inl rfl)) q
      refine p2.pure k2 (.ref x :: vs) (x :: (inH H2 x d ++ as)) (.own (f2 x (.inl rfl)) (nA x (.inl rfl)) (ho.mono r2.f fun y hy o q => r2.h y o (nA y hy) q) (nas x (.inl rfl)) (fun y hy => by rw [sm] at hy; exact ⟨f2 y (.inr hy), nA y (.inr hy), nas y (.inr hy)⟩) g) fun a z => ?_
      rw [sm] at z
      rcases List.mem_cons.mp z with z | z
      · exact hpi a (.inl z)
      · rcases List.mem_append.mp z with z | z
        · exact hpi a (.inr z)
        · exact r1.t a (ha a z)⟩⟩
/-! ### statements -/
inductive So where
  | nx (ρ : En) | rt (d : Dt) (ρ : En) | rtN (d : Dt) (ρ : En) | bk (ρ : En) | ct (ρ : En) | exc (x : Ex) (ρ : En) | bad
structure StOk (T : Tx) (π : Nat → Option Pin) (A : Addr → Prop) (F0 H0 F H : Hp) (σ : L2.St) (ρ : En) : Prop where
  ok : Ok T π (fun a => A a ∨ H0 a = none) F H σ ρ
  fr : Fr A F0 H0 F H
theorem StOk.step {σ' : L2.St} {ρ' : En} (s : StOk T π A F0 H0 F H σ ρ) (k : Ok T π (fun a => A a ∨ H0 a = none) F' H' σ' ρ') (r : Fr (fun a => A a ∨ H0 a = none) F H F' H') : StOk T π A F0 H0 F' H' σ' ρ' :=
  ⟨k, le_trans s.fr.f r.f, fun a o n e => r.h a o (fun z => z.elim n fun z => by rw [z] at e; cases e) (s.fr.h a o n e), fun a o n e t => by
    rw [r.n a o (fun z => z.elim n fun z => by rw [z] at e; cases e) (s.fr.h a o n e) t, s.fr.n a o n e t], fun a e => s.fr.t a (r.t a e)⟩
theorem StOk.start (s : StOk T π A F0 H0 F H σ ρ) {σ' : L2.St} {ρ' : En} (k : Ok T π (fun a => A a ∨ H0 a = none) F H σ' ρ') : StOk T π (fun a => A a ∨ H0 a = none) F H F H σ' ρ' := ⟨k.weak fun _ z => .inl z, .refl⟩
theorem StOk.rebase {σ' : L2.St} {ρ' : En} (s : StOk T π A F0 H0 F H σ ρ) (k : StOk T π (fun a => A a ∨ H0 a = none) F H F' H' σ' ρ') : StOk T π A F0 H0 F' H' σ' ρ' :=
  s.step (k.ok.weak fun a z => z.elim id fun z => .inr (s.fr.t a z)) k.fr
def PostS (T : Tx) (π : Nat → Option Pin) (W : WX) (A : Addr → Prop) (F0 H0 : Hp) (D : Ends) : So → Prop
  | .nx ρ' => ∀ σ' F' H', StOk T π A F0 H0 F' H' σ' ρ' → D.nx σ' H'
  | .bk ρ' => ∀ σ' F' H', StOk T π A F0 H0 F' H' σ' ρ' → D.bk σ' H'
  | .ct ρ' => ∀ σ' F' H', StOk T π A F0 H0 F' H' σ' ρ' → D.ct σ' H'
  | .rt d ρ' => ∀ σ' F' H' v, StOk T π A F0 H0 F' H' σ' ρ' → Rep T F' v d → D.rt v H'
  | .rtN d ρ' => ∀ σ' F' H' p, StOk T π A F0 H0 F' H' σ' ρ' → F' p = none → ¬ IsOwn H' σ' ρ' p → (A p ∨ H0 p = none) → OwnAt T F' H' p d → (∀ x ∈ inH H' p d, F' x = none ∧ ¬ IsOwn H' σ' ρ' x ∧ (A x ∨ H0 x = none)) → D.rt (.ref p) H'
  | .exc x ρ' => ∀ σ' F' H' cls d, StOk T π A F0 H0 F' H' σ' ρ' → RepX T F' H' cls d x → W cls d σ' H'
  | .bad => False
def TMs (T : Tx) (π : Nat → Option Pin) (W : WX) (s : En → So) : TS := fun D σ H => ∃ A F0 H0 F ρ, StOk T π A F0 H0 F H σ ρ ∧ PostS T π W A F0 H0 D (s ρ)
def sBind {α : Type} (m : Mi α) (k : α → En → So) : En → So := fun ρ => match m ρ with
  | .ok a ρ' => k a ρ'
  | .exc x ρ' => .exc x ρ'
  | .bad => .bad
theorem PostS.bind {α : Type} {D : Ends} {m : Mi α} {k : α → En → So} (p : PostS T π W A F0 H0 D (sBind m k ρ)) (s : StOk T π A F0 H0 F H σ ρ) :
    Post T π W σ (fun a => A a ∨ H0 a = none) F H (fun a ρ1 F1 H1 => StOk T π A F0 H0 F1 H1 σ ρ1 ∧ PostS T π W A F0 H0 D (k a ρ1)) (m ρ) := by
  unfold sBind at p
  cases e : m ρ with
  | ok x ρ1 =>
    rw [e] at p
    exact fun F1 H1 k1 r1 => ⟨s.step k1 r1, p⟩
  | exc x ρ1 =>
    rw [e] at p
    exact fun F1 H1 c d k1 r1 x => p σ F1 H1 c d (s.step k1 r1) x
  | bad => rw [e] at p; exact p.elim
variable {s t : En → So} {st : Stmt} {rest : List Stmt}
def sSeq (s t : En → So) : En → So := fun ρ => match s ρ with
  | .nx ρ' => t ρ'
  | o => o
theorem dss_cons (h1 : PS X st (TMs T π W s)) (h2 : PSs X rest (TMs T π W t)) : PSs X (st :: rest) (TMs T π W (sSeq s t)) := (pss_cons h1 h2).imp fun D σ H ⟨A, F0, H0, F, ρ, k, p⟩ => ⟨A, F0, H0, F, ρ, k, by
  unfold sSeq at p
  cases e : s ρ with
  | nx ρ' => rw [e] at p; exact fun σ' F' H' k' => ⟨A, F0, H0, F', ρ', k', p⟩
  | rt d ρ' => rw [e] at p; exact p
  | rtN d ρ' => rw [e] at p; exact p
  | bk ρ' => rw [e] at p; exact p
  | ct ρ' => rw [e] at p; exact p
  | exc d ρ' => rw [e] at p; exact p
  | bad => rw [e] at p; exact p⟩
theorem dss_one (h1 : PS X st (TMs T π W s)) : PSs X [st] (TMs T π W s) := pss_one h1
theorem dss_nil : PSs X [] (TMs T π W (fun ρ => .nx ρ)) := pss_nil.imp fun D σ H ⟨A, F0, H0, F, ρ, k, p⟩ => p σ F H k
def sIf (c : Mi Bool) (s t : En → So) : En → So := sBind c fun b => match b with | true => s | false => t
theorem ds_if {x y : List Stmt} {mc : Mi Bool} (hc : PT X c (TMt T π W mc)) (ha : PSs X x (TMs T π W s)) (hb : PSs X y (TMs T π W t)) : PS X (.If c x y pos) (TMs T π W (sIf mc s t)) :=
  (ps_if hc ha hb).imp fun D σ H ⟨A, F0, H0, F, ρ, k, p⟩ => ⟨_, F, ρ, k.ok, (p.bind k).imp fun b ρ1 F1 H1 _ _ ⟨k1, p1⟩ => by
    cases b with
    | true => exact iteT ⟨A, F0, H0, F1, ρ1, k1, p1⟩
    | false => exact iteF ⟨A, F0, H0, F1, ρ1, k1, p1⟩⟩
def sRet (m : Mi Dt) : En → So := sBind m fun d ρ => .rt d ρ
def sRetN (m : Mi Dt) : En → So := sBind m fun d ρ => .rtN d ρ
def sDrop (m : Mi Dt) : En → So := sBind m fun _ ρ => .nx ρ
theorem ds_ret (he : PE X e (TMe T π W m)) : PS X (.Return (some e) pos) (TMs T π W (sRet m)) := (ps_ret he).imp fun D σ H ⟨A, F0, H0, F, ρ, k, p⟩ => ⟨_, F, ρ, k.ok, (p.bind k).imp fun d ρ1 F1 H1 _ _ ⟨k1, p1⟩ v rv => p1 σ F1 H1 v k1 rv⟩
theorem ds_retN (he : PE X e (TMn T π W m)) : PS X (.Return (some e) pos) (TMs T π W (sRetN m)) := (ps_ret he).imp fun D σ H ⟨A, F0, H0, F, ρ, k, p⟩ => ⟨_, F, ρ, k.ok, (p.bind k).imp fun d ρ1 F1 H1 _ _ ⟨k1, p1⟩ x h1 h2 h3 h4 h5 =>
  p1 σ F1 H1 x k1 h1 h2 (.inr (k.fr.t x h3)) h4 fun y hy => ⟨(h5 y hy).1, (h5 y hy).2.1, .inr (k.fr.t y (h5 y hy).2.2)⟩⟩
theorem ds_expr (he : PE X e (TMe T π W m)) (hs : swapsWith e none pos.line X.env = pure false := by rfl) : PS X (.Expr e pos) (TMs T π W (sDrop m)) := (ps_expr he hs).imp fun D σ H ⟨A, F0, H0, F, ρ, k, p⟩ => ⟨_, F, ρ, k.ok, (p.bind k).imp fun d ρ1 F1 H1 _ _ ⟨k1, p1⟩ v rv => p1 σ F1 H1 k1⟩
/-! ### names are stored -/
def setSl (i : Nat) (s : Sl) (ρ : En) : Option En := match ρ[i]? with
  | some (some (.own true _)) => none
  | some _ => some (ρ.set i (some s))
  | none => none
theorem setSl_inv {i : Nat} {s : Sl} {ρ ρ' : En} (h : setSl i s ρ = some ρ') : i < ρ.length ∧ ρ' = ρ.set i (some s) ∧ ∀ d, ρ[i]? ≠ some (some (.own true d)) := by
  unfold setSl at h
  split at h
  · cases h
  · rename_i x hn hx
    cases h
    exact ⟨(List.getElem?_eq_some_iff.mp hx).1, rfl, fun d z => hn d (Option.some.inj (hx.symm.trans z))⟩
  · cases h
theorem Ok.set {i : Nat} {v : V} {d : Dt} {ρ' : En} (k : Ok T π A F H σ ρ) (r : Rep T F v d) (h : setSl i (.val d) ρ = some ρ') : Ok T π A F H (σ.set i (some v)) ρ' := by
  obtain ⟨hi, rfl, hio⟩ := setSl_inv h
  have hσ : i < σ.length := by rw [k.len]; exact hi
  have ol : ∀ (j : Nat) jo dj, (ρ.set i (some (.val d)))[j]? = some (some (.own jo dj)) → i ≠ j ∧ ρ[j]? = some (some (.own jo dj)) := fun j jo dj ej => by
    by_cases hj : i = j
    · subst hj; rw [List.getElem?_set_self hi] at ej; cases ej
    · rw [List.getElem?_set_ne hj] at ej; exact ⟨hj, ej⟩
  refine ⟨k.le, by simpa using k.len, fun j dj ej => ?_, fun j jo dj ej => ?_, fun j l jo lo dj dl a b x ej el sj sl => ?_⟩
  · by_cases hj : i = j
    · subst hj
      rw [List.getElem?_set_self hi] at ej
      cases ej
      exact ⟨v, List.getElem?_set_self hσ, r⟩
    · rw [List.getElem?_set_ne hj] at ej
      rw [List.getElem?_set_ne hj]
      exact k.val j dj ej
  · obtain ⟨hj, q⟩ := ol j jo dj ej
    rw [List.getElem?_set_ne hj]
    exact k.own j jo dj q
  · obtain ⟨hj, q⟩ := ol j jo dj ej
    obtain ⟨hl, q2⟩ := ol l lo dl el
    rw [List.getElem?_set_ne hj] at sj
    rw [List.getElem?_set_ne hl] at sl
    exact k.dis j l jo lo dj dl a b x q q2 sj sl
theorem Ok.setN {i : Nat} {p : Addr} {d : Dt} {ρ' : En} (k : Ok T π A F H σ ρ) (hf : F p = none) (hn : ¬ IsOwn H σ ρ p) (hA : A p) (ho : OwnAt T F H p d) (hI : ∀ x ∈ inH H p d, F x = none ∧ ¬ IsOwn H σ ρ x ∧ A x) (h : setSl i (.own false d) ρ = some ρ') : Ok T π A F H (σ.set i (some (.ref p))) ρ' := by
  obtain ⟨hi, rfl, hio⟩ := setSl_inv h
  have hσ : i < σ.length := by rw [k.len]; exact hi
  have nI : ∀ x, (x = p ∨ x ∈ inH H p d) → ¬ IsOwn H σ ρ x := fun x hx => hx.elim (fun z => z ▸ hn) fun z => (hI x z).2.1
  refine ⟨k.le, by simpa using k.len, fun j dj ej => ?_, fun j jo dj ej => ?_, fun j l jo lo dj dl a b x ej el sj sl xj xl => ?_⟩
  · by_cases hj : i = j
    · subst hj
      rw [List.getElem?_set_self hi] at ej
      cases ej
    · rw [List.getElem?_set_ne hj] at ej
      rw [List.getElem?_set_ne hj]
      exact k.val j dj ej
  · by_cases hj : i = j
    · subst hj
      rw [List.getElem?_set_self hi] at ej
      cases ej
      exact ⟨p, List.getElem?_set_self hσ, hf, ho, hA, (fun z => by cases z), fun x hx => ⟨(hI x hx).1, (hI x hx).2.2⟩⟩
    · rw [List.getElem?_set_ne hj] at ej
      rw [List.getElem?_set_ne hj]
      exact k.own j jo dj ej
  · by_cases hj : i = j
    · by_cases hl : i = l
      · rw [← hj, ← hl]
      · subst hj
        rw [List.getElem?_set_ne hl] at el sl
        rw [List.getElem?_set_self hσ] at sj
        rw [List.getElem?_set_self hi] at ej
        cases sj; cases ej
        exact absurd ⟨l, lo, dl, b, el, sl, xl⟩ (nI x xj)
    · by_cases hl : i = l
      · subst hl
        rw [List.getElem?_set_ne hj] at ej sj
        rw [List.getElem?_set_self hσ] at sl
        rw [List.getElem?_set_self hi] at el
        cases sl; cases el
        exact absurd ⟨j, jo, dj, a, ej, sj, xj⟩ (nI x xl)
      · rw [List.getElem?_set_ne hj] at ej sj
        rw [List.getElem?_set_ne hl] at el sl
        exact k.dis j l jo lo dj dl a b x ej el sj sl xj xl
def sPut (i : Nat) (s : Sl) : En → So := fun ρ => match setSl i s ρ with
  | some ρ' => .nx ρ'
  | none => .bad
def sSet (i : Nat) (m : Mi Dt) : En → So := sBind m fun d => sPut i (.val d)
def sSetN (i : Nat) (m : Mi Dt) : En → So := sBind m fun d => sPut i (.own false d)
theorem ds_asgV {i : Nat} (h : PS X st (tAsg (TMe T π W m) (gName i))) : PS X st (TMs T π W (sSet i m)) := h.imp fun D σ H ⟨A, F0, H0, F, ρ, k, p⟩ => ⟨_, F, ρ, k.ok, (p.bind k).imp fun d ρ1 F1 H1 _ _ ⟨k1, p1⟩ v rv => by
  unfold sPut at p1
  cases e : setSl i (.val d) ρ1 with
  | none => rw [e] at p1; exact p1.elim
  | some ρ' => rw [e] at p1; exact p1 _ F1 H1 ⟨k1.ok.set rv e, k1.fr⟩⟩
theorem ds_asgN {i : Nat} (h : PS X st (tAsg (TMn T π W m) (gName i))) : PS X st (TMs T π W (sSetN i m)) := h.imp fun D σ H ⟨A, F0, H0, F, ρ, k, p⟩ => ⟨_, F, ρ, k.ok, (p.bind k).imp fun d ρ1 F1 H1 _ _ ⟨k1, p1⟩ x h1 h2 h3 h4 h5 => by
  unfold sPut at p1
  cases e : setSl i (.own false d) ρ1 with
  | none => rw [e] at p1; exact p1.elim
  | some ρ' => rw [e] at p1; exact p1 _ F1 H1 ⟨k1.ok.setN h1 h2 (.inr (k.fr.t x h3)) h4 (fun y hy => ⟨(h5 y hy).1, (h5 y hy).2.1, .inr (k.fr.t y (h5 y hy).2.2)⟩) e, k1.fr⟩⟩
/-! ### targets -/
def TMg (T : Tx) (π : Nat → Option Pin) (g : Dt → En → Option En) (sl : List Nat) : TG := fun v σ H Q => ∃ A F ρ d ρ', Ok T π A F H σ ρ ∧ Rep T F v d ∧ g d ρ = some ρ' ∧
  ∀ σ', Ok T π A F H σ' ρ' → σ'.length = σ.length → (∀ i, i ∉ sl → σ'[i]? = σ[i]?) → Q σ' H
def TMgs (T : Tx) (π : Nat → Option Pin) (g : List Dt → En → Option En) (sl : List Nat) : TGs := fun vs σ H Q => ∃ A F ρ ds ρ', Ok T π A F H σ ρ ∧ Reps T F vs ds ∧ g ds ρ = some ρ' ∧
  ∀ σ', Ok T π A F H σ' ρ' → σ'.length = σ.length → (∀ i, i ∉ sl → σ'[i]? = σ[i]?) → Q σ' H
theorem _root_.L2.PGs.imp {ts : List Expr} {t t' : TGs} (h : PGs X ts t) (f : ∀ v σ H Q, t' v σ H Q → t v σ H Q) : PGs X ts t' := ⟨fun pins s σ H v u Q I r q => h.run pins s σ H v u Q I r (f v σ H Q q)⟩
def gV (i : Nat) : Dt → En → Option En := fun d => setSl i (.val d)
theorem dg_name {i : Nat} (h : PG X e (gName i)) : PG X e (TMg T π (gV i) [i]) := h.imp fun v σ H Q ⟨A, F, ρ, d, ρ', k, r, e, q⟩ => q _ (k.set r e) (by simp) fun j hj => List.getElem?_set_ne (fun z => hj (by simp [z]))
def gsN : List Dt → En → Option En
  | [], ρ => some ρ
  | _, _ => none
def gsC (g : Dt → En → Option En) (gs : List Dt → En → Option En) : List Dt → En → Option En
  | d :: ds, ρ => (g d ρ).bind (gs ds)
  | [], _ => none
theorem dgs_nil : PGs X [] (TMgs T π gsN []) := pgs_nil.imp fun vs σ H Q ⟨A, F, ρ, ds, ρ', k, r, e, q⟩ => by
  cases ds with
  | nil => cases r; cases e; exact ⟨rfl, q σ k rfl fun _ _ => rfl⟩
  | cons _ _ => cases e
theorem dgs_cons {g : Dt → En → Option En} {gs : List Dt → En → Option En} {sl sls : List Nat} (h1 : PG X e (TMg T π g sl)) (h2 : PGs X es (TMgs T π gs sls)) (hs : (assignEach (e :: es) X.env).map (·.2) = assign e X.env :: (assignEach es X.env).map (·.2) := by rfl) :
    PGs X (e :: es) (TMgs T π (gsC g gs) (sl ++ sls)) := (pgs_cons h1 h2 hs).imp fun vs σ H Q ⟨A, F, ρ, ds, ρ', k, r, e, q⟩ => by
  cases ds with
  | nil => cases e
  | cons d ds =>
    cases r with
    | @cons v vs _ _ rv rvs =>
      have e' : (g d ρ).bind (gs ds) = some ρ' := e
      cases e1 : g d ρ with
      | none => rw [e1] at e'; cases e'
      | some ρ1 =>
        rw [e1] at e'
        exact ⟨v, vs, rfl, A, F, ρ, d, ρ1, k, rv, e1, fun σ1 k1 l1 s1 => ⟨A, F, ρ1, ds, ρ', k1, rvs, e', fun σ2 k2 l2 s2 => q σ2 k2 (l2.trans l1) fun i hi => by
          rw [List.mem_append, not_or] at hi
          rw [s2 i hi.2, s1 i hi.1]⟩⟩
def gT (gs : List Dt → En → Option En) (n : Nat) : Dt → En → Option En
  | .tup ds, ρ => if ds.length = n then gs ds ρ else none
  | _, _ => none
theorem dg_tup {k : Nat} {gs : List Dt → En → Option En} {sl : List Nat} {n : Nat} (hK : X.K = T.K) (hc : X.calm = true) (h : PGs X es (TMgs T π gs sl))
    (hn : (assignEach es X.env).length = n := by rfl) (hst : (assignEach es X.env).findIdx? (·.1) = none := by rfl) : PG X (.Tuple es k pos) (TMg T π (gT gs n) sl) := (pg_tup hc h hn hst).imp fun v σ H Q ⟨A, F, ρ, d, ρ', k, r, e, q⟩ => by
  cases d with
  | tup ds =>
    obtain ⟨a, vs, ev, hq, rs⟩ := r.tup_inv
    have e' : (if ds.length = n then gs ds ρ else none) = some ρ' := e
    by_cases hl : ds.length = n
    · rw [if_pos hl] at e'
      exact ⟨a, vs, ev, by rw [hK]; exact sqt_mono k.le hq, by rw [rs.length]; exact hl, A, F, ρ, ds, ρ', k, rs, e', q⟩
    · rw [if_neg hl] at e'; cases e'
  | _ => cases e
def sAsg (m : Mi Dt) (g : Dt → En → Option En) : En → So := sBind m fun d ρ => match g d ρ with
  | some ρ' => .nx ρ'
  | none => .bad
theorem ds_asg {g : Dt → En → Option En} {sl : List Nat} (h : PS X st (tAsg (TMe T π W m) (TMg T π g sl))) : PS X st (TMs T π W (sAsg m g)) := h.imp fun D σ H ⟨A, F0, H0, F, ρ, k, p⟩ => ⟨_, F, ρ, k.ok, (p.bind k).imp fun d ρ1 F1 H1 _ _ ⟨k1, p1⟩ v rv => by
  cases e : g d ρ1 with
  | none => rw [e] at p1; exact p1.elim
  | some ρ' => rw [e] at p1; exact ⟨_, F1, ρ1, d, ρ', k1.ok, rv, e, fun σ' k' l' s' => p1 σ' F1 H1 ⟨k', k1.fr⟩⟩⟩
/-! ### loops -/
/-- J walks ds while what is frozen in F stands -/
structure Wk (T : Tx) (J : It) (ds : List Dt) (F : Hp) : Prop where
  goes : ∀ i H, i < ds.length → Le F H → J.go i H
  stops : ∀ H, Le F H → J.stop ds.length H
  yields : ∀ i H x H' d, ds[i]? = some d → Le F H → J.yld i H x H' → (H' = H ∧ Rep T F x d) ∨ ∃ p vs es, H p = none ∧ H' = upd H p (.tup vs) ∧ x = .ref p ∧ Reps T F vs es ∧ d = .tup es
def TMi (T : Tx) (π : Nat → Option Pin) (W : WX) (m : Mi (List Dt)) : TI := fun σ H R => ∃ A F ρ, Ok T π A F H σ ρ ∧ Post T π W σ A F H (fun ds _ F' H' => ∀ J, Wk T J ds F' → R J H') (m ρ)
/-- what a turn yields, frozen -/
theorem Wk.turn {J : It} {ds : List Dt} {Fs : Hp} (w : Wk T J ds Fs) {i : Nat} {x : V} {d : Dt} (hd : ds[i]? = some d) (k : Ok T π A F H σ ρ) (le : Le Fs F) (y : J.yld i H x H') :
    ∃ F', Ok T π A F' H' σ ρ ∧ Fr A F H F' H' ∧ Rep T F' x d ∧ Le Fs F' := by
  rcases w.yields i H x H' d hd (le_trans le k.le) y with ⟨rfl, r⟩ | ⟨p, vs, es, hp, rfl, rfl, rs, rfl⟩
  · exact ⟨F, k, .refl, r.mono le, le⟩
  · exact ⟨upd F p (.tup vs), k.new hp, .new k.le hp, .tup upd_same ((rs.mono le).mono (le_new (f_none k.le hp))), le_trans le (le_new (f_none k.le hp))⟩
def forGo (g : Dt → En → Option En) (b : En → So) : List Dt → En → So
  | [], ρ => .nx ρ
  | d :: ds, ρ => match g d ρ with
    | none => .bad
    | some ρ1 => match b ρ1 with
      | .nx ρ2 => forGo g b ds ρ2
      | .ct ρ2 => forGo g b ds ρ2
      | .bk ρ2 => .nx ρ2
      | o => o
def sFor (m : Mi (List Dt)) (g : Dt → En → Option En) (b : En → So) : En → So := sBind m (forGo g b)
theorem walk_of_wk {J : It} {ds : List Dt} {Fs : Hp} (w : Wk T J ds Fs) : Walk J ds.length (fun H => Le Fs H) (fun i H x H' => J.yld i H x H') := ⟨fun i H hi h => w.goes i H hi h, fun H h => w.stops H h, fun _ _ _ _ _ _ y => y⟩
theorem ds_for {tg iter : Expr} {body : List Stmt} {g : Dt → En → Option En} {sl : List Nat} {bm : En → So} (hp : PassesOwn (model X.prog X.w) X.A X.env X.xe) (hc : X.calm = true) (hi : PI X tg iter (TMi T π W ms)) (hg : PG X tg (TMg T π g sl)) (hb : PSs X body (TMs T π W bm))
    (hs : ∀ x, foldedSetIterable iter X.env x = pure x := by intro _; rfl) : PS X (.For tg iter body [] pos) (TMs T π W (sFor ms g bm)) := (ps_for hp hc hi hg hb hs).imp fun D σ H ⟨A, F0, H0, F, ρ, k, p⟩ =>
  ⟨_, F, ρ, k.ok, (p.bind k).imp fun ds ρ1 F1 H1 _ _ ⟨k1, p1⟩ J w => by
    refine for_it (walk_of_wk w) (fun i σ H => ∃ F ρ, StOk T π A F0 H0 F H σ ρ ∧ Le F1 F ∧ PostS T π W A F0 H0 D (forGo g bm (ds.drop i) ρ)) ⟨F1, ρ1, k1, le_refl F1, p1⟩ (fun i σ H _ ⟨F, ρ, k, l, _⟩ => le_trans l k.ok.le) (fun i x σ H H' hi ⟨F, ρ, k, l, p⟩ y => ?_) (fun σ H ⟨F, ρ, k, l, p⟩ => ?_)
    · have hd : ds[i]? = some ds[i] := List.getElem?_eq_getElem hi
      obtain ⟨F', k', r', rx, l'⟩ := w.turn hd k.ok l y
      rw [List.drop_eq_getElem_cons hi] at p
      unfold forGo at p
      cases e : g ds[i] ρ with
      | none => rw [e] at p; exact p.elim
      | some ρ2 =>
        rw [e] at p
        have k0 := k.step k' r'
        refine ⟨_, F', ρ, ds[i], ρ2, k', rx, e, fun σ2 k2 _ _ => ⟨_, F', H', F', ρ2, k0.start k2, ?_⟩⟩
        dsimp only at p
        cases eb : bm ρ2 with
        | nx ρ3 => rw [eb] at p; exact fun σ3 F3 H3 k3 => ⟨F3, ρ3, k0.rebase k3, le_trans l' k3.fr.f, p⟩
        | ct ρ3 => rw [eb] at p; exact fun σ3 F3 H3 k3 => ⟨F3, ρ3, k0.rebase k3, le_trans l' k3.fr.f, p⟩
        | bk ρ3 => rw [eb] at p; exact fun σ3 F3 H3 k3 => p σ3 F3 H3 (k0.rebase k3)
        | rt d ρ3 => rw [eb] at p; exact fun σ3 F3 H3 v k3 => p σ3 F3 H3 v (k0.rebase k3)
        | rtN d ρ3 => rw [eb] at p; exact fun σ3 F3 H3 v k3 h1 h2 h3 h4 h5 => p σ3 F3 H3 v (k0.rebase k3) h1 h2 (h3.elim id fun z => .inr (k0.fr.t v z)) h4 fun y hy => ⟨(h5 y hy).1, (h5 y hy).2.1, (h5 y hy).2.2.elim id fun z => .inr (k0.fr.t y z)⟩
        | exc x ρ3 => rw [eb] at p; exact fun σ3 F3 H3 c d k3 => p σ3 F3 H3 c d (k0.rebase k3)
        | bad => rw [eb] at p; exact p.elim
    · have e : ds.drop ds.length = [] := List.drop_length
      rw [e] at p
      exact p σ _ H k⟩
end
end Dl
namespace Dl
open PySem PySem.Spec PyProof.Rows L2
section
variable {X : Cx} {T : Tx} {π : Nat → Option Pin} {W : WX} {a b c e : Expr} {es : List Expr} {pos : Pos} {m ma mb mc : Mi Dt} {ms : Mi (List Dt)} {A A' : Addr → Prop} {F H F' H' F0 H0 : Hp} {σ : L2.St} {ρ : En}
/-! ### while -/
/-! ### comprehensions -/
def wipeE (ρ : En) : List Nat → En
  | [] => ρ
  | v :: vs => (wipeE ρ vs).set v none
def restE (ρ0 ρ : En) : List Nat → En
  | [] => ρ
  | v :: vs => (restE ρ0 ρ vs).set v (ρ0[v]?.getD none)
def ownAny (ρ : En) : List Nat → Bool
  | [] => false
  | v :: vs => (match ρ[v]? with | some (some (.own _ _)) => true | _ => false) || ownAny ρ vs
theorem wipeE_len (ρ : En) : ∀ vs, (wipeE ρ vs).length = ρ.length
  | [] => rfl
  | v :: vs => by unfold wipeE; rw [List.length_set, wipeE_len ρ vs]
theorem restE_len (ρ0 ρ : En) : ∀ vs, (restE ρ0 ρ vs).length = ρ.length
  | [] => rfl
  | v :: vs => by unfold restE; rw [List.length_set, restE_len ρ0 ρ vs]
theorem wipeE_some {ρ : En} {i : Nat} {x : Sl} : ∀ {vs : List Nat}, (wipeE ρ vs)[i]? = some (some x) → ρ[i]? = some (some x) ∧ i ∉ vs
  | [], h => ⟨h, by simp⟩
  | v :: vs, h => by
    unfold wipeE at h
    by_cases hi : v = i
    · subst hi
      by_cases hv : v < (wipeE ρ vs).length
      · rw [List.getElem?_set_self hv] at h; cases h
      · rw [List.getElem?_eq_none (by simpa using hv)] at h; cases h
    · rw [List.getElem?_set_ne hi] at h
      obtain ⟨h1, h2⟩ := wipeE_some h
      exact ⟨h1, by simp only [List.mem_cons, not_or]; exact ⟨fun e => hi e.symm, h2⟩⟩
theorem restE_out {ρ0 ρ : En} {i : Nat} : ∀ {vs : List Nat}, i ∉ vs → (restE ρ0 ρ vs)[i]? = ρ[i]?
  | [], _ => rfl
  | v :: vs, h => by
    simp only [List.mem_cons, not_or] at h
    unfold restE
    rw [List.getElem?_set_ne fun e => h.1 e.symm]
    exact restE_out h.2
theorem restE_in {ρ0 ρ : En} {i : Nat} {x : Sl} : ∀ {vs : List Nat}, i ∈ vs → (restE ρ0 ρ vs)[i]? = some (some x) → ρ0[i]? = some (some x)
  | [], h, _ => nomatch h
  | v :: vs, h, e => by
    unfold restE at e
    by_cases hi : v = i
    · subst hi
      by_cases hv : v < (restE ρ0 ρ vs).length
      · rw [List.getElem?_set_self hv] at e
        cases q : ρ0[v]? with
        | none => rw [q] at e; cases e
        | some s => rw [q] at e; exact e
      · rw [List.getElem?_eq_none (by simpa using hv)] at e; cases e
    · rw [List.getElem?_set_ne hi] at e
      cases h with
      | head => exact absurd rfl hi
      | tail _ h => exact restE_in h e
theorem ownAny_no {ρ : En} {i : Nat} {io : Bool} {d : Dt} : ∀ {vs : List Nat}, ownAny ρ vs = false → i ∈ vs → ρ[i]? ≠ some (some (.own io d))
  | [], _, q, _ => nomatch q
  | v :: vs, h, q, e => by
    unfold ownAny at h
    rcases List.mem_cons.mp q with q | q
    · subst q
      rw [e] at h
      cases h
    · exact ownAny_no (Bool.or_eq_false_iff.mp h).2 q e
theorem wipe_ext {σ σ' : L2.St} (hl : σ'.length = σ.length) : ∀ {vs : List Nat}, (∀ i, i ∉ vs → σ'[i]? = σ[i]?) → wipe σ' vs = wipe σ vs := fun {vs} h => by
  apply List.ext_getElem?
  intro i
  by_cases hi : i ∈ vs
  · have hw : ∀ τ : L2.St, i < τ.length → (wipe τ vs)[i]? = some none := fun τ ht => by
      have hlt : i < (wipe τ vs).length := by rw [wipe_length]; exact ht
      cases q : (wipe τ vs)[i]? with
      | none => rw [List.getElem?_eq_none_iff] at q; omega
      | some s =>
        cases s with
        | none => rfl
        | some v => exact absurd hi (wipe_some q).2
    by_cases hs : i < σ.length
    · rw [hw σ hs, hw σ' (by omega)]
    · rw [List.getElem?_eq_none (by rw [wipe_length]; omega), List.getElem?_eq_none (by rw [wipe_length]; omega)]
  · rw [wipe_out hi, wipe_out hi]
    exact h i hi
theorem wipe_wipe (σ : L2.St) (vs : List Nat) : wipe (wipe σ vs) vs = wipe σ vs := wipe_ext (wipe_length σ vs) fun i hi => wipe_out hi
theorem Ok.wipe (k : Ok T π A F H σ ρ) (vs : List Nat) : Ok T π A F H (L2.wipe σ vs) (wipeE ρ vs) := by
  refine ⟨k.le, by rw [wipe_length, wipeE_len]; exact k.len, fun i d e => ?_, fun i io d e => ?_, fun i j io jo d e a b x ei ej si sj => ?_⟩
  · obtain ⟨h1, h2⟩ := wipeE_some e
    rw [wipe_out h2]
    exact k.val i d h1
  · obtain ⟨h1, h2⟩ := wipeE_some e
    rw [wipe_out h2]
    exact k.own i io d h1
  · obtain ⟨h1, h2⟩ := wipeE_some ei
    obtain ⟨h3, h4⟩ := wipeE_some ej
    rw [wipe_out h2] at si
    rw [wipe_out h4] at sj
    exact k.dis i j io jo d e a b x h1 h3 si sj
/-- behind the block -/
theorem Ok.rest {ρ0 : En} {vs : List Nat} (k0 : Ok T π A F0 H0 σ ρ0) (no : ownAny ρ0 vs = false) (f : Le F0 F) (k : Ok T π A F H (L2.wipe σ vs) ρ) : Ok T π A F H σ (restE ρ0 ρ vs) := by
  have ol : ∀ (i : Nat) io d, (restE ρ0 ρ vs)[i]? = some (some (.own io d)) → i ∉ vs ∧ ρ[i]? = some (some (.own io d)) := fun i io d e => by
    by_cases hi : i ∈ vs
    · exact absurd (restE_in hi e) (ownAny_no no hi)
    · rw [restE_out hi] at e; exact ⟨hi, e⟩
  refine ⟨k.le, by rw [restE_len, ← k.len, wipe_length], fun i d e => ?_, fun i io d e => ?_, fun i j io jo d e a b x ei ej si sj => ?_⟩
  · by_cases hi : i ∈ vs
    · obtain ⟨v, h1, h2⟩ := k0.val i d (restE_in hi e)
      exact ⟨v, h1, h2.mono f⟩
    · rw [restE_out hi] at e
      obtain ⟨v, h1, h2⟩ := k.val i d e
      rw [wipe_out hi] at h1
      exact ⟨v, h1, h2⟩
  · obtain ⟨hi, e⟩ := ol i io d e
    obtain ⟨x, h1, h2⟩ := k.own i io d e
    rw [wipe_out hi] at h1
    exact ⟨x, h1, h2⟩
  · obtain ⟨hi, ei⟩ := ol i io d ei
    obtain ⟨hj, ej⟩ := ol j jo e ej
    exact k.dis i j io jo d e a b x ei ej (by rw [wipe_out hi]; exact si) (by rw [wipe_out hj]; exact sj)
def lcGo (g : Dt → En → Option En) (t : Mi Bool) (e : Mi Dt) (vs : List Nat) : List Dt → List Dt → En → Ou (List Dt)
  | [], acc, ρ => .ok acc ρ
  | d :: ds, acc, ρ => match g d ρ with
    | none => .bad
    | some ρ1 => match t ρ1 with
      | .ok true ρ2 => (match e ρ2 with
        | .ok y ρ3 => if acc.length < sizeLine then lcGo g t e vs ds (acc ++ [y]) (wipeE ρ3 vs) else .bad
        | _ => .bad)
      | .ok false ρ2 => lcGo g t e vs ds acc (wipeE ρ2 vs)
      | _ => .bad
def mLc (mi : Mi (List Dt)) (g : Dt → En → Option En) (t : Mi Bool) (e : Mi Dt) (vs : List Nat) : Mi Dt := mBind mi fun ds ρ =>
  if ownAny ρ vs then .bad else match lcGo g t e vs ds [] (wipeE ρ vs) with
    | .ok acc ρ' => .ok (.lst acc) (restE ρ ρ' vs)
    | _ => .bad
def W0 : WX := fun _ _ _ _ => False
theorem tme_tmn {Q : VK} (h : TMe T π W m σ H Q) : TMn T π W m σ H Q := by
  obtain ⟨A, F, ρ, k, p⟩ := h
  refine ⟨A, F, ρ, k, p.imp2 fun d ρ' q F' H' k' r' x hx nx hp ho hi => ?_⟩
  obtain ⟨F2, e1, e2, e3, e4⟩ := ho.frozen k'.le hx (fun y hy => (hi y hy).1)
  have ne : ∀ y, IsOwn H' σ ρ' y → F2 y = F' y := fun y w => e3 y (fun z => nx (z ▸ w)) fun z => (hi y z).2.1 w
  have k2 : Ok T π A F2 H' σ ρ' := k'.grow e1 e2 (fun y w => by rw [ne y w]; exact (k'.ownH w).2.1) fun y u w z => z
  refine q F2 H' k2 ⟨le_trans r'.f e1, r'.h, fun y o hy z t => ?_, r'.t⟩ _ e4
  rw [e3 y (fun zz => by rw [zz, hp] at z; cases z) fun zz => by rw [(hi y zz).2.2] at z; cases z]
  exact r'.n y o hy z t
/-- an object that is none of the slots' own changes -/
theorem Ok.upd_other {p : Addr} {o : HO} (k : Ok T π A F H σ ρ) (hf : F p = none) (hn : ¬ A p) : Ok T π A F (upd H p o) σ ρ := by
  refine k.grow (le_refl F) (fun a u e => ?_) (fun a w => (k.ownH w).2.1) fun a u w e => ?_
  · rw [upd_ne fun z => by rw [z, hf] at e; cases e]; exact k.le a u e
  · rw [upd_ne fun z => hn (by rw [← z]; exact k.ownA w)]; exact e
theorem tlc_of {g : Dt → En → Option En} {sl vs : List Nat} {mt : Mi Bool} {me : Mi Dt} {Q : VK} (hsl : ∀ i ∈ sl, i ∈ vs) (h : TMn T π W (mLc ms g mt me vs) σ H Q) : tLc (TMi T π W ms) (TMg T π g sl) (TMt T π W0 mt) (TMe T π W0 me) vs σ H Q := by
  obtain ⟨A0, F, ρ, k, p⟩ := h
  refine ⟨IsOwn H σ ρ, F, ρ, k.tight, ((p.weak (A' := IsOwn H σ ρ) fun a z => k.ownA z).bind).imp fun ds ρ1 F1 H1 k1 r1 p1 J w D hD => ?_⟩
  have nA : ¬ IsOwn H σ ρ D := k.fresh_own (r1.t D hD)
  by_cases hown : ownAny ρ1 vs = true
  · rw [if_pos hown] at p1; exact p1.elim
  · rw [if_neg hown] at p1
    have hown : ownAny ρ1 vs = false := by simpa using hown
    cases el : lcGo g mt me vs ds [] (wipeE ρ1 vs) with
    | exc x r => rw [el] at p1; exact p1.elim
    | bad => rw [el] at p1; exact p1.elim
    | ok accF ρF =>
      rw [el] at p1
      refine lc_it (walk_of_wk w) (fun i Hc => ∃ F ρ' acc vacc, Ok T π (IsOwn H σ ρ) F Hc (wipe σ vs) ρ' ∧ Fr (IsOwn H σ ρ) F1 H1 F Hc ∧ F D = none ∧ Hc D = some (.lst vacc) ∧ Reps T F vacc acc ∧ lcGo g mt me vs (ds.drop i) acc ρ' = .ok accF ρF)
        ⟨F1, wipeE ρ1 vs, [], [], (k1.newO hD).wipe vs, .newO hD, f_none k1.le hD, upd_same, .nil, el⟩ (fun i Hc _ ⟨F, _, _, _, k, r, _⟩ => le_trans r.f k.le) (fun i x Hc H' hi ⟨F2, ρ', acc, vacc, k2, r2, fD, hDc, rs, eg⟩ y => ?_) (fun Hc ⟨F2, ρ', acc, vacc, k2, r2, fD, hDc, rs, eg⟩ => ?_)
      · have hd : ds[i]? = some ds[i] := List.getElem?_eq_getElem hi
        obtain ⟨F3, k3, r3, rx, l3⟩ := w.turn hd k2 r2.f y
        rw [List.drop_eq_getElem_cons hi] at eg
        unfold lcGo at eg
        cases e1 : g ds[i] ρ' with
        | none => rw [e1] at eg; cases eg
        | some ρ2 =>
          rw [e1] at eg
          dsimp only at eg
          refine ⟨_, F3, ρ', ds[i], ρ2, k3, rx, e1, fun σ2 k4 l4 s4 => ?_⟩
          have ew : wipe σ2 vs = wipe σ vs := by
            rw [wipe_ext (σ := wipe σ vs) (σ' := σ2) l4 fun i hi => s4 i fun z => hi (hsl i z), wipe_wipe]
          refine ⟨ew, _, F3, ρ2, k4, ?_⟩
          have keep : ∀ {F5 H5 : Hp} {ρ5 : En}, Ok T π (IsOwn H σ ρ) F5 H5 σ2 ρ5 → Fr (IsOwn H σ ρ) F3 H' F5 H5 → H5 D = some (.lst vacc) ∧ F5 D = none ∧ Reps T F5 vacc acc ∧ Fr (IsOwn H σ ρ) F1 H1 F5 H5 ∧ Ok T π (IsOwn H σ ρ) F5 H5 (wipe σ vs) (wipeE ρ5 vs) := fun {F5 H5 ρ5} k5 r5 => by
            have rr := r3.trans r5
            refine ⟨rr.h D _ nA hDc, ?_, rs.mono rr.f, r2.trans rr, by rw [← ew]; exact k5.wipe vs⟩
            rw [rr.n D _ nA hDc (fun _ z => nomatch z)]; exact fD
          cases e2 : mt ρ2 with
          | exc x r => rw [e2] at eg; cases eg
          | bad => rw [e2] at eg; cases eg
          | ok b ρ3 =>
            rw [e2] at eg
            intro F5 H5 k5 r5
            cases b with
            | false =>
              obtain ⟨q1, q2, q3, q4, q5⟩ := keep k5 r5
              exact iteF ⟨F5, _, acc, vacc, q5, q4, q2, q1, q3, eg⟩
            | true =>
              dsimp only at eg
              refine iteT ⟨_, F5, ρ3, k5, ?_⟩
              cases e3 : me ρ3 with
              | exc x r => rw [e3] at eg; cases eg
              | bad => rw [e3] at eg; cases eg
              | ok yv ρ4 =>
                rw [e3] at eg
                dsimp only at eg
                intro F6 H6 k6 r6 v rv
                obtain ⟨q1, q2, q3, q4, q5⟩ := keep k6 (r5.trans r6)
                by_cases hz : acc.length < sizeLine
                · rw [if_pos hz] at eg
                  refine ⟨vacc, q1, by rw [rs.length]; exact hz, F6, _, acc ++ [yv], vacc ++ [v], q5.upd_other q2 nA, ?_, q2, upd_same, q3.append (.cons rv .nil), eg⟩
                  exact ⟨q4.f, fun a o n e => by
                    rw [upd_ne fun z => by rw [z, hD] at e; cases e]; exact q4.h a o n e, q4.n, fun a e => q4.t a (up_none e)⟩
                · rw [if_neg hz] at eg; cases eg
      · have e : ds.drop ds.length = [] := List.drop_length
        rw [e] at eg
        unfold lcGo at eg
        cases eg
        have k5 := k1.rest hown r2.f k2
        exact p1 F2 Hc k5 r2 D fD (fun z => nA (k5.ownA z)) (r1.t D hD) ⟨vacc, hDc, rs⟩ (fun _ z => nomatch z)
theorem dn_lc {elt tg iter : Expr} {ifs : List Expr} {scope : Scope} {own : List (Str × Nat)} {g : Dt → En → Option En} {sl : List Nat} {mt : Mi Bool} {me : Mi Dt} (h : PE X (.ListComp elt [⟨tg, iter, ifs, 0⟩] scope pos) (tLc (TMi T π W ms) (TMg T π g sl) (TMt T π W0 mt) (TMe T π W0 me) (own.map (·.2)))) (hsl : ∀ i ∈ sl, i ∈ own.map (·.2)) :
    PE X (.ListComp elt [⟨tg, iter, ifs, 0⟩] scope pos) (TMn T π W (mLc ms g mt me (own.map (·.2)))) := h.imp fun σ H Q q => tlc_of hsl q
theorem ds_setLcN {i : Nat} {g : Dt → En → Option En} {sl vs : List Nat} {st : Stmt} {mt : Mi Bool} {me : Mi Dt} (h : PS X st (tAsg (tLc (TMi T π W ms) (TMg T π g sl) (TMt T π W0 mt) (TMe T π W0 me) vs) (gName i))) (hsl : ∀ i ∈ sl, i ∈ vs) : PS X st (TMs T π W (sSetN i (mLc ms g mt me vs))) :=
  ds_asgN (h.imp fun D σ H q => tlc_of hsl q)
theorem ds_setLcV {i : Nat} {g : Dt → En → Option En} {sl vs : List Nat} {st : Stmt} {mt : Mi Bool} {me : Mi Dt} (h : PS X st (tAsg (tLc (TMi T π W ms) (TMg T π g sl) (TMt T π W0 mt) (TMe T π W0 me) vs) (gName i))) (hsl : ∀ i ∈ sl, i ∈ vs) : PS X st (TMs T π W (sSet i (mLc ms g mt me vs))) :=
  ds_asgV (h.imp fun D σ H q => tlc_of hsl (tme_tmn q))
theorem dts_nil : PTs X [] (TMt T π W (mPure true)) := ⟨fun pins s σ H Q I ⟨A, F, ρ, k, p⟩ => pts_nil.run pins s σ H Q I (p.pure k)⟩
theorem dts_one {mt : Mi Bool} (h : PT X c (TMt T π W mt)) : PTs X [c] (TMt T π W mt) := pts_one h
end
end Dl
namespace Dl
open PySem PySem.Spec PyProof.Rows L2
/-! ### what a def promises -/
inductive Fo where
  | ret (d o : Dt) | exc (x : Ex) (o : Dt) | bad
def pinA (π0 : Option Pin) : Addr → Prop := fun x => ∃ q, π0 = some q ∧ (x = q.1 ∨ x ∈ q.2)
def ArgsOk (T : Tx) (F H : Hp) : Bool → List V → List Dt → Option Pin → Prop
  | false, vs, ds, π0 => Reps T F vs ds ∧ π0 = none
  | true, vs, ds, π0 => ∃ a vr d dr, vs = .ref a :: vr ∧ ds = d :: dr ∧ F a = none ∧ OwnAt T F H a d ∧ Reps T F vr dr ∧ π0 = some (a, inH H a d) ∧ ∀ x ∈ inH H a d, F x = none
def RetOk (T : Tx) (H F' H' : Hp) (v : V) (d : Dt) : Bool → Prop
  | false => Rep T F' v d
  | true => ∃ p, v = .ref p ∧ F' p = none ∧ H p = none ∧ OwnAt T F' H' p d ∧ ∀ x ∈ inH H' p d, F' x = none ∧ H x = none
def IoOk (T : Tx) (F' H' : Hp) (π0 : Option Pin) (o : Dt) : Prop := ∀ q, π0 = some q → F' q.1 = none ∧ OwnAt T F' H' q.1 o ∧ inH H' q.1 o = q.2 ∧ ∀ x ∈ q.2, F' x = none
def FoOk (T : Tx) (rn : Bool) (π0 : Option Pin) (F H : Hp) (Q : VK) (E : XK) : Fo → Prop
  | .ret d o => ∀ F' H' v, Le F' H' → Fr (pinA π0) F H F' H' → IoOk T F' H' π0 o → RetOk T H F' H' v d rn → Q v H'
  | .exc x o => ∀ F' H' cls dx, Le F' H' → Fr (pinA π0) F H F' H' → IoOk T F' H' π0 o → RepX T F' H' cls dx x → E cls dx H'
  | .bad => False
def spM (T : Tx) (n : Nat) (io rn : Bool) (f : List Dt → Fo) : Sp := fun vs H Q E => ∃ F ds π0, vs.length = n ∧ Le F H ∧ ArgsOk T F H io vs ds π0 ∧ FoOk T rn π0 F H Q E (f ds)
def argE : Bool → List Dt → En
  | true, d :: r => some (.own true d) :: r.map fun d => some (.val d)
  | _, ds => ds.map fun d => some (.val d)
def ioOut (io : Bool) (ρ : En) : Option Dt := match io with
  | true => (match ρ[0]? with | some (some (Sl.own true d)) => some d | _ => none)
  | false => some .non
def runF (k : Nat) (io rn : Bool) (body : En → So) (ds : List Dt) : Fo := match body (argE io ds ++ List.replicate (k - ds.length) none) with
  | .nx ρ => (match ioOut io ρ with | some o => (match rn with | false => .ret .non o | true => .bad) | none => .bad)
  | .rt d ρ => (match ioOut io ρ with | some o => (match rn with | false => .ret d o | true => .bad) | none => .bad)
  | .rtN d ρ => (match ioOut io ρ with | some o => (match rn with | true => .ret d o | false => .bad) | none => .bad)
  | .exc x ρ => (match ioOut io ρ with | some o => .exc x o | none => .bad)
  | _ => .bad
theorem Reps.slots {T : Tx} {F : Hp} : ∀ {vs : List V} {ds : List Dt} {i : Nat} {d : Dt}, Reps T F vs ds → (ds.map fun d => (some (Sl.val d)))[i]? = some (some (.val d)) → ∃ v, vs[i]? = some v ∧ Rep T F v d := fun {vs ds i d} r e => by
  rw [List.getElem?_map] at e
  cases q : ds[i]? with
  | none => rw [q] at e; cases e
  | some d' =>
    rw [q] at e
    cases e
    exact r.get q
theorem noown (ds : List Dt) (i : Nat) (io : Bool) (d : Dt) : (ds.map fun d => (some (Sl.val d)))[i]? ≠ some (some (.own io d)) := fun e => by
  rw [List.getElem?_map] at e
  cases q : ds[i]? with
  | none => rw [q] at e; cases e
  | some d' => rw [q] at e; cases e
theorem app_some {ρ : En} {n : Nat} {i : Nat} {s : Sl} (h : (ρ ++ List.replicate n none)[i]? = some (some s)) : ρ[i]? = some (some s) ∧ i < ρ.length := by
  by_cases hi : i < ρ.length
  · rw [List.getElem?_append_left hi] at h; exact ⟨h, hi⟩
  · rw [List.getElem?_append_right (by omega), List.getElem?_replicate] at h
    split at h
    · cases h
    · cases h
theorem argsOk_len {T : Tx} {F H : Hp} {io : Bool} {vs : List V} {ds : List Dt} {π0 : Option Pin} (h : ArgsOk T F H io vs ds π0) : vs.length = ds.length := by
  cases io with
  | false => exact h.1.length
  | true =>
    obtain ⟨a, vr, d, dr, rfl, rfl, _, _, r, _⟩ := h
    rw [List.length_cons, List.length_cons, r.length]
def pi0 (π0 : Option Pin) : Nat → Option Pin
  | 0 => π0
  | _ + 1 => none
theorem ok_start {T : Tx} {N : List Str} {F H : Hp} {io : Bool} {vs : List V} {ds : List Dt} {π0 : Option Pin} (hl : vs.length ≤ N.length) (le : Le F H) (h : ArgsOk T F H io vs ds π0) :
    StOk T (pi0 π0) (pinA π0) F H F H (L2.start N vs) (argE io ds ++ List.replicate (N.length - ds.length) none) := by
  have hn := argsOk_len h
  have sl : ∀ (i : Nat) v, vs[i]? = some v → (L2.start N vs)[i]? = some (some v) := fun i v e => by
    unfold L2.start
    rw [List.getElem?_append_left (by rw [List.length_map]; exact (List.getElem?_eq_some_iff.mp e).1), List.getElem?_map, e]
    rfl
  refine ⟨⟨le, ?_, fun i d e => ?_, fun i jo d e => ?_, fun i j jo lo d e a b x ei ej si sj _ _ => ?_⟩, .refl⟩
  · unfold L2.start
    cases io with
    | false => unfold argE; simp; omega
    | true =>
      obtain ⟨a, vr, d, dr, rfl, rfl, _, _, r, _⟩ := h
      have := r.length
      unfold argE; simp at hl ⊢; omega
  · obtain ⟨e, hi⟩ := app_some e
    cases io with
    | false =>
      obtain ⟨v, h1, h2⟩ := h.1.slots (show (ds.map fun d => (some (Sl.val d)))[i]? = _ from e)
      exact ⟨v, sl i v h1, h2⟩
    | true =>
      obtain ⟨a, vr, d0, dr, rfl, rfl, h1, h2, r, h3⟩ := h
      cases i with
      | zero => cases e
      | succ i =>
        obtain ⟨v, q1, q2⟩ := r.slots (show (dr.map fun d => (some (Sl.val d)))[i]? = _ from e)
        exact ⟨v, sl (i + 1) v q1, q2⟩
  · obtain ⟨e, hi⟩ := app_some e
    cases io with
    | false => exact absurd e (noown ds i jo d)
    | true =>
      obtain ⟨a, vr, d0, dr, rfl, rfl, h1, h2, r, h3⟩ := h
      cases i with
      | succ i => exact absurd (show (dr.map fun d => (some (Sl.val d)))[i]? = _ from e) (noown dr i jo d)
      | zero =>
        cases e
        exact ⟨a, sl 0 _ rfl, h1, h2, .inl ⟨_, h3.1, .inl rfl⟩, (fun _ => h3.1), fun x hx => ⟨h3.2 x hx, .inl ⟨_, h3.1, .inr hx⟩⟩⟩
  · obtain ⟨ei, _⟩ := app_some ei
    obtain ⟨ej, _⟩ := app_some ej
    cases io with
    | false => exact absurd ei (noown ds i jo d)
    | true =>
      obtain ⟨a, vr, d0, dr, rfl, rfl, h1, h2, r, h3⟩ := h
      cases i with
      | succ i => exact absurd (show (dr.map fun d => (some (Sl.val d)))[i]? = _ from ei) (noown dr i jo d)
      | zero =>
        cases j with
        | succ j => exact absurd (show (dr.map fun d => (some (Sl.val d)))[j]? = _ from ej) (noown dr j lo e)
        | zero => rfl
theorem io_end {T : Tx} {F H F' H' : Hp} {io : Bool} {vs : List V} {ds : List Dt} {π0 : Option Pin} {σ : L2.St} {ρ : En} {o : Dt} (h : ArgsOk T F H io vs ds π0) (k : StOk T (pi0 π0) (pinA π0) F H F' H' σ ρ) (e : ioOut io ρ = some o) : IoOk T F' H' π0 o := fun a ha => by
  cases io with
  | false => rw [h.2] at ha; cases ha
  | true =>
    unfold ioOut at e
    dsimp only at e
    split at e
    · rename_i d hd
      cases e
      obtain ⟨b, h1, h2, h3, h4, h5⟩ := k.ok.own 0 true _ hd
      have e2 : π0 = some (b, _) := h5.1 rfl
      rw [ha] at e2
      cases e2
      exact ⟨h2, h3, rfl, fun x hx => (h5.2 x hx).1⟩
    · cases e
section
variable {P : Program} {w : World} {K : PySem.W.Frag} {mg : Str → Option Value} {base : Heap}
/-- a def keeps the promise of its mirror -/
theorem rtn_new {T : Tx} {F H F' H' : Hp} {io : Bool} {vs : List V} {ds : List Dt} {π0 : Option Pin} {σ : L2.St} {ρ : En} {o : Dt} {p : Addr} (h : ArgsOk T F H io vs ds π0) (k : StOk T (pi0 π0) (pinA π0) F H F' H' σ ρ) (e : ioOut io ρ = some o) (hn : ¬ IsOwn H' σ ρ p) (hp : pinA π0 p ∨ H p = none) : H p = none := by
  rcases hp with hp | hp
  · exfalso
    cases io with
    | false => obtain ⟨q, hq, _⟩ := hp; rw [h.2] at hq; cases hq
    | true =>
      unfold ioOut at e
      dsimp only at e
      split at e
      · rename_i d q
        obtain ⟨a, h1, _, _, _, h5⟩ := k.ok.own 0 true d q
        have h6 : π0 = some (a, inH H' a d) := h5.1 rfl
        obtain ⟨r, hr, hx⟩ := hp
        rw [h6] at hr
        cases hr
        exact hn ⟨0, true, d, a, q, h1, hx⟩
      · cases e
  · exact hp
theorem fun_ok {x qual : Str} {st : Stmt} {f : Addr} {fd : FuncData} {N ps : List Str} {k : Nat} {cl : Nat → Option (Addr × List Str)} {io rn : Bool} {body : En → So} (F : Fun K x qual st f fd) (S : FnScope N ps (defScope st)) (hN : ps.length ≤ N.length)
    (hb : ∀ (cdv : Value) (A : Around) (outer : List Env) (s : Shared) (H : Hp) (E : XK) (π : Nat → Option Pin), Room k (A.deeper (envOfC qual (defScope st) s.heap.objs.size f cdv)) →
      PSs (cxOf (L2.CX P w) P w K mg base N qual (defScope st) f cdv A outer s H E) (defBody st) (TMs ⟨K, cl⟩ π (fun cls d _ H => E cls d H) body)) :
    FnOk P w K mg base (L2.CX P w) (k + 1) f fd ps (spM ⟨K, cl⟩ ps.length io rn (runF N.length io rn body)) := by
  refine F.okX S (fun vs H Q E h => ?_) (fun cdv A outer s H vs Q E hr h => ?_)
  · obtain ⟨F, ds, π0, hl, _⟩ := h
    exact hl
  · obtain ⟨F0, ds, π0, hl, le, ha, q⟩ := h
    refine ⟨_, hb cdv A outer s H E (pi0 π0) hr, _, F0, H, F0, _, ok_start (by rw [hl]; exact hN) le ha, ?_⟩
    unfold runF at q
    cases eb : body (argE io ds ++ List.replicate (N.length - ds.length) none) with
    | nx ρ =>
      rw [eb] at q
      dsimp only at q
      cases eo : ioOut io ρ with
      | none => rw [eo] at q; exact q.elim
      | some o =>
        rw [eo] at q
        cases rn with
        | true => exact q.elim
        | false => exact fun σ' F' H' k' => q F' H' .non k'.ok.le k'.fr (io_end ha k' eo) .non
    | rt d ρ =>
      rw [eb] at q
      dsimp only at q
      cases eo : ioOut io ρ with
      | none => rw [eo] at q; exact q.elim
      | some o =>
        rw [eo] at q
        cases rn with
        | true => exact q.elim
        | false => exact fun σ' F' H' v k' rv => q F' H' v k'.ok.le k'.fr (io_end ha k' eo) rv
    | rtN d ρ =>
      rw [eb] at q
      dsimp only at q
      cases eo : ioOut io ρ with
      | none => rw [eo] at q; exact q.elim
      | some o =>
        rw [eo] at q
        cases rn with
        | false => exact q.elim
        | true => exact fun σ' F' H' p k' h1 h2 h3 h4 h5 => q F' H' (.ref p) k'.ok.le k'.fr (io_end ha k' eo) ⟨p, rfl, h1, rtn_new ha k' eo h2 h3, h4, fun y hy => ⟨(h5 y hy).1, rtn_new ha k' eo (h5 y hy).2.1 (h5 y hy).2.2⟩⟩
    | exc x ρ =>
      rw [eb] at q
      dsimp only at q
      cases eo : ioOut io ρ with
      | none => rw [eo] at q; exact q.elim
      | some o =>
        rw [eo] at q
        exact fun σ' F' H' c d k' rx => q F' H' c d k'.ok.le k'.fr (io_end ha k' eo) rx
    | bk ρ => rw [eb] at q; exact q.elim
    | ct ρ => rw [eb] at q; exact q.elim
    | bad => rw [eb] at q; exact q.elim
end
section
variable {P : Program} {w : World} {K : PySem.W.Frag} {mg : Str → Option Value} {base : Heap}
theorem fun_ok2 {x qual : Str} {st : Stmt} {f : Addr} {fd : FuncData} {N ps : List Str} {k n : Nat} {cl : Nat → Option (Addr × List Str)} {io rn : Bool} {body : En → So} {fm : List Dt → Fo} (F : Fun K x qual st f fd) (S : FnScope N ps (defScope st)) (hN : ps.length ≤ N.length) (hn : n = ps.length) (hm : fm = runF N.length io rn body)
    (hb : ∀ (cdv : Value) (A : Around) (outer : List Env) (s : Shared) (H : Hp) (E : XK) (π : Nat → Option Pin), Room k (A.deeper (envOfC qual (defScope st) s.heap.objs.size f cdv)) →
      PSs (cxOf (L2.CX P w) P w K mg base N qual (defScope st) f cdv A outer s H E) (defBody st) (TMs ⟨K, cl⟩ π (fun cls d _ H => E cls d H) body)) :
    FnOk P w K mg base (L2.CX P w) (k + 1) f fd ps (spM ⟨K, cl⟩ n io rn fm) := by
  subst hn hm
  exact fun_ok F S hN hb
end
section
variable {X : Cx} {T : Tx} {π : Nat → Option Pin} {W : WX} {a b c e o : Expr} {es : List Expr} {pos : Pos} {m ma mb mc : Mi Dt} {ms : Mi (List Dt)} {A A' : Addr → Prop} {F H F' H' F0 H0 : Hp} {σ : L2.St} {ρ : En}
/-! ### a def is called -/
def mCall (n : Nat) (f : List Dt → Fo) (ms : Mi (List Dt)) : Mi Dt := mBind ms fun ds ρ => if ds.length = n then (match f ds with
  | .ret d _ => .ok d ρ
  | .exc x _ => .exc x ρ
  | .bad => .bad) else .bad
/-- behind a call that changes none of the slots' own objects -/
theorem Ok.called (k : Ok T π A F H σ ρ) (le : Le F' H') (r : Fr (pinA none) F H F' H') : Ok T π A F' H' σ ρ :=
  k.grow r.f le (fun a w => by
    obtain ⟨_, h2, o, h3, h4⟩ := k.ownT w
    rw [r.n a o (fun ⟨_, z, _⟩ => nomatch z) h3 h4]; exact h2) fun a o w e => r.h a o (fun ⟨_, z, _⟩ => nomatch z) e
theorem sp_call {n : Nat} {rn : Bool} {f : List Dt → Fo} {Q : VK} {vs : List V} {ds : List Dt} {P : Dt → En → Hp → Hp → Prop} (k : Ok T π A F H σ ρ) (r : Reps T F vs ds)
    (p : Post T π W σ A F H P (if ds.length = n then (match f ds with | .ret d _ => Ou.ok d ρ | .exc x _ => .exc x ρ | .bad => .bad) else .bad))
    (q : ∀ d F' H' v, Ok T π A F' H' σ ρ → Fr (pinA none) F H F' H' → RetOk T H F' H' v d rn → P d ρ F' H' → Q v H') : spM T n false rn f vs H Q (WE W σ) := by
  by_cases hl : ds.length = n
  · rw [if_pos hl] at p
    refine ⟨F, ds, none, by rw [r.length]; exact hl, k.le, ⟨r, rfl⟩, ?_⟩
    cases e : f ds with
    | ret d o =>
      rw [e] at p
      exact fun F' H' v le fr _ rv => q d F' H' v (k.called le fr) fr rv (p F' H' (k.called le fr) (fr.weak fun a ⟨_, z, _⟩ => nomatch z))
    | exc x o =>
      rw [e] at p
      exact fun F' H' c d le fr _ rx => p F' H' c d (k.called le fr) (fr.weak fun a ⟨_, z, _⟩ => nomatch z) rx
    | bad => rw [e] at p; exact p.elim
  · rw [if_neg hl] at p; exact p.elim
variable {k n : Nat} {f : Addr} {fd : FuncData} {ps : List Str} {x : Str} {p : Pos} {fm : List Dt → Fo}
theorem de_call (G : FnOk X.prog X.w X.K X.mg X.base (L2.CX X.prog X.w) k f fd ps (spM T n false false fm)) (hr : Room k X.A) (hg : Gl X x) (hm : X.mg x = some (.ref f)) (hk : PySem.W.keepIn X.K (.ref f) = true) (hb : Binds X.K fd ps []) (tk : Takes X W) (ha : PA X (e :: es) (TMa T π W ms))
    (hdb : (x == ("__debug__" : Str)) = false := by decide) (he : starEach (e :: es) X.env = (false, eval e X.env) :: starEach es X.env := by rfl) (hpl : (backTo pos (starEach es X.env)).any (·.1) = false := by rfl) :
    PE X (.Call (.Name x p) (e :: es) [] pos) (TMe T π W (mCall n fm ms)) := (pe_callSD (E := WE W) G hr hg hm hk hb .nil (fun σ => passAt tk σ) ha hdb he hpl).imp fun σ H Q ⟨A, F, ρ, k, p⟩ => ⟨A, F, ρ, k, p.bind.imp fun ds ρ1 F1 H1 k1 r1 p1 vs rvs => by
  show spM T n false false fm (vs ++ []) H1 Q (WE W σ)
  rw [List.append_nil]
  exact sp_call k1 rvs p1 fun d F' H' v _ _ rv q => q v rv⟩
theorem dn_call (G : FnOk X.prog X.w X.K X.mg X.base (L2.CX X.prog X.w) k f fd ps (spM T n false true fm)) (hr : Room k X.A) (hg : Gl X x) (hm : X.mg x = some (.ref f)) (hk : PySem.W.keepIn X.K (.ref f) = true) (hb : Binds X.K fd ps []) (tk : Takes X W) (ha : PA X (e :: es) (TMa T π W ms))
    (hdb : (x == ("__debug__" : Str)) = false := by decide) (he : starEach (e :: es) X.env = (false, eval e X.env) :: starEach es X.env := by rfl) (hpl : (backTo pos (starEach es X.env)).any (·.1) = false := by rfl) :
    PE X (.Call (.Name x p) (e :: es) [] pos) (TMn T π W (mCall n fm ms)) := (pe_callSD (E := WE W) G hr hg hm hk hb .nil (fun σ => passAt tk σ) ha hdb he hpl).imp fun σ H Q ⟨A, F, ρ, k, p⟩ => ⟨A, F, ρ, k, p.bind.imp fun ds ρ1 F1 H1 k1 r1 p1 vs rvs => by
  show spM T n false true fm (vs ++ []) H1 Q (WE W σ)
  rw [List.append_nil]
  exact sp_call k1 rvs p1 fun d F' H' v k' r' ⟨p, e, h1, h2, h3, h4⟩ q => by
    rw [e]
    have no : ∀ y, H1 y = none → ¬ IsOwn H' σ ρ1 y := fun y hy w => by
      have w' : IsOwn H1 σ ρ1 y := (k1.sameOwn fun a o w e => r'.h a o (fun ⟨_, z, _⟩ => nomatch z) e).mp w
      obtain ⟨_, _, o, ho⟩ := k1.ownH w'
      rw [hy] at ho; cases ho
    exact q p h1 (no p h2) (r1.t p h2) h3 fun y hy => ⟨(h4 y hy).1, no y (h4 y hy).2, r1.t y (h4 y hy).2⟩⟩
/-! ### a slot's own list is changed -/
/-- the slot's object changes, and what it holds alone -/
theorem Ok.putG {i : Nat} {io : Bool} {d d' : Dt} {a : Addr} {H' : Hp} (k : Ok T π A F H σ ρ) (e : ρ[i]? = some (some (.own io d))) (s : σ[i]? = some (some (.ref a))) (hH : ∀ b, b ≠ a → b ∉ inH H a d → H' b = H b) (ho : OwnAt T F H' a d') (hin : inH H' a d' = inH H a d) : Ok T π A F H' σ (ρ.set i (some (.own io d'))) := by
  have hi : i < ρ.length := (List.getElem?_eq_some_iff.mp e).1
  obtain ⟨a', h1, h2, h3, h4, h5⟩ := k.own i io d e
  rw [s] at h1
  cases h1
  have oth : ∀ (j : Nat) jo dj b, i ≠ j → ρ[j]? = some (some (.own jo dj)) → σ[j]? = some (some (.ref b)) → ∀ x, (x = b ∨ x ∈ inH H b dj) → H' x = H x := fun j jo dj b hj ej sj x hx =>
    hH x (fun z => hj (k.dis i j io jo d dj a b x e ej s sj (.inl z) hx)) fun z => hj (k.dis i j io jo d dj a b x e ej s sj (.inr z) hx)
  have smj : ∀ (j : Nat) jo dj b, i ≠ j → ρ[j]? = some (some (.own jo dj)) → σ[j]? = some (some (.ref b)) → inH H' b dj = inH H b dj := fun j jo dj b hj ej sj => by
    obtain ⟨b', q1, q2, q3, q4, q5⟩ := k.own j jo dj ej
    rw [sj] at q1
    cases q1
    exact q3.same fun o q => by rw [oth j jo dj b hj ej sj b (.inl rfl)]; exact q
  refine ⟨fun b u z => ?_, by simpa using k.len, fun j dj ej => ?_, fun j jo dj ej => ?_, fun j l jo lo dj dl b c x ej el sj sl xj xl => ?_⟩
  · rw [hH b (fun q => by rw [q, h2] at z; cases z) fun q => by rw [(h5.2 b q).1] at z; cases z]; exact k.le b u z
  · by_cases hj : i = j
    · subst hj; rw [List.getElem?_set_self hi] at ej; cases ej
    · rw [List.getElem?_set_ne hj] at ej; exact k.val j dj ej
  · by_cases hj : i = j
    · subst hj
      rw [List.getElem?_set_self hi] at ej
      cases ej
      exact ⟨a, s, h2, ho, h4, by rw [hin]; exact h5⟩
    · rw [List.getElem?_set_ne hj] at ej
      obtain ⟨b, q1, q2, q3, q4, q5⟩ := k.own j jo dj ej
      exact ⟨b, q1, q2, q3.mono (le_refl F) fun x hx u q => by rw [oth j jo dj b hj ej q1 x hx]; exact q, q4, by rw [smj j jo dj b hj ej q1]; exact q5⟩
  · have back : ∀ (j : Nat) jo dj b, (ρ.set i (some (.own io d')))[j]? = some (some (.own jo dj)) → σ[j]? = some (some (.ref b)) → ∃ jo dk, ρ[j]? = some (some (.own jo dk)) ∧ inH H b dk = inH H' b dj := fun j jo dj b ej sj => by
      by_cases hj : i = j
      · subst hj; rw [List.getElem?_set_self hi] at ej; cases ej; rw [s] at sj; cases sj; exact ⟨io, d, e, hin.symm⟩
      · rw [List.getElem?_set_ne hj] at ej; exact ⟨jo, dj, ej, (smj j jo dj b hj ej sj).symm⟩
    obtain ⟨_, _, gj, ij⟩ := back j jo dj b ej sj
    obtain ⟨_, _, gl, il⟩ := back l lo dl c el sl
    exact k.dis j l _ _ _ _ b c x gj gl sj sl (by rw [ij]; exact xj) (by rw [il]; exact xl)
/-- the slot's object changes -/
theorem Ok.put {i : Nat} {io : Bool} {d d' : Dt} {a : Addr} {o : HO} (k : Ok T π A F H σ ρ) (e : ρ[i]? = some (some (.own io d))) (s : σ[i]? = some (some (.ref a))) (ho : OwnAt T F (upd H a o) a d') (hin : inH (upd H a o) a d' = inH H a d := by rfl) : Ok T π A F (upd H a o) σ (ρ.set i (some (.own io d'))) :=
  k.putG e s (fun b hb _ => upd_ne hb) ho hin
theorem Fr.put {i : Nat} {io : Bool} {d : Dt} {a : Addr} {o : HO} (k : Ok T π A F H σ ρ) (e : ρ[i]? = some (some (.own io d))) (s : σ[i]? = some (some (.ref a))) : Fr A F H F (upd H a o) := by
  have hA : A a := k.ownA ⟨i, io, d, a, e, s, .inl rfl⟩
  exact ⟨le_refl F, fun b u n q => by rw [upd_ne fun z => n (by rw [z]; exact hA)]; exact q, fun _ _ _ _ _ => rfl, fun _ z => up_none z⟩
/-- the list in slot i, changed by f of the list and a value -/
def mMut (i : Nat) (f : List Dt → Option (Dt × List Dt)) : Mi Dt := fun ρ => match ρ[i]? with
  | some (some (.own io (.lst ds))) => (match f ds with
    | some (r, es) => .ok r (ρ.set i (some (.own io (.lst es))))
    | none => .bad)
  | _ => .bad
theorem mMut_inv {i : Nat} {f : List Dt → Option (Dt × List Dt)} {P : Dt → En → Hp → Hp → Prop} (p : Post T π W σ A F H P (mMut i f ρ)) (k : Ok T π A F H σ ρ) :
    ∃ io ds r es a vs, ρ[i]? = some (some (.own io (.lst ds))) ∧ f ds = some (r, es) ∧ σ[i]? = some (some (.ref a)) ∧ H a = some (.lst vs) ∧ Reps T F vs ds ∧
      ∀ vs', Reps T F vs' es → P r (ρ.set i (some (.own io (.lst es)))) F (upd H a (.lst vs')) := by
  unfold mMut at p
  split at p
  · rename_i io ds e
    split at p
    · rename_i r es ef
      obtain ⟨a, h1, h2, ⟨vs, h3, h4⟩, _⟩ := k.own i io _ e
      exact ⟨io, ds, r, es, a, vs, e, ef, h1, h3, h4, fun vs' rv => p F (upd H a (.lst vs')) (k.put e h1 ⟨vs', upd_same, rv⟩) (.put k e h1)⟩
    · exact p.elim
  · exact p.elim
def mAppend (i : Nat) (m : Mi Dt) : Mi Dt := mBind m fun y => mMut i fun ds => if ds.length < sizeLine then some (.non, ds ++ [y]) else none
def mExtend (i : Nat) (m : Mi Dt) : Mi Dt := mBind m fun y => mMut i fun ds => match y with
  | .lst es => if ds.length + es.length ≤ sizeLine then some (.non, ds ++ es) else none
  | _ => none
/-- the slot's own list is there, whatever comes -/
theorem own_first {i : Nat} {io : Bool} {ds : List Dt} (hK : X.K = T.K) (k : Ok T π A F H σ ρ) (e : ρ[i]? = some (some (.own io (.lst ds)))) : ∃ a, σ[i]? = some (some (.ref a)) ∧ tyV X.K "list" (.ref a) H := by
  obtain ⟨a, h1, h2, ⟨vs, h3, h4⟩, _⟩ := k.own i io _ e
  exact ⟨a, h1, .inl ⟨rfl, vs, SqL.of h3⟩⟩
def ownLst (i : Nat) (m : Mi Dt) : Mi Dt := fun ρ => match ρ[i]? with
  | some (some (.own _ (.lst _))) => m ρ
  | _ => .bad
theorem de_append {i : Nat} (hK : X.K = T.K) (h : PE X o (tBM X.K "list" rAppend (tVar i) (tCons (TMe T π W m) tNil))) : PE X o (TMe T π W (ownLst i (mAppend i m))) := h.imp fun σ H Q ⟨A, F, ρ, k, p⟩ => by
  unfold ownLst at p
  split at p
  · rename_i io ds e
    obtain ⟨a, h1, h2⟩ := own_first hK k e
    refine ⟨.ref a, h1, h2, A, F, ρ, k, p.bind.imp fun y ρ1 F1 H1 k1 r1 p1 v rv => ?_⟩
    obtain ⟨io1, ds1, r, es, a1, vs, e1, ef, s1, h3, h4, q⟩ := mMut_inv p1 k1
    rw [h1] at s1
    cases s1
    by_cases hz : ds1.length < sizeLine
    · rw [if_pos hz] at ef
      cases ef
      exact ⟨a, vs, v, rfl, rfl, h3, by rw [h4.length]; exact hz, q _ (h4.append (.cons rv .nil)) _ .non⟩
    · rw [if_neg hz] at ef; cases ef
  · exact p.elim
theorem de_extend {i : Nat} (hK : X.K = T.K) (h : PE X o (tBM X.K "list" rExtend (tVar i) (tCons (TMn T π W m) tNil))) : PE X o (TMe T π W (ownLst i (mExtend i m))) := h.imp fun σ H Q ⟨A, F, ρ, k, p⟩ => by
  unfold ownLst at p
  split at p
  · rename_i io ds e
    obtain ⟨a, h1, h2⟩ := own_first hK k e
    refine ⟨.ref a, h1, h2, A, F, ρ, k, p.bind.imp fun y ρ1 F1 H1 k1 r1 p1 x h5 h6 h7 h8 _ => ?_⟩
    obtain ⟨io1, ds1, r, es, a1, vs, e1, ef, s1, h3, h4, q⟩ := mMut_inv p1 k1
    rw [h1] at s1
    cases s1
    cases y with
    | lst zs =>
      dsimp only at ef
      obtain ⟨ws, h9, h10⟩ := h8
      by_cases hz : ds1.length + zs.length ≤ sizeLine
      · rw [if_pos hz] at ef
        cases ef
        exact ⟨a, x, vs, ws, rfl, rfl, h3, h9, by rw [h4.length, h10.length]; exact hz, q _ (h4.append h10) _ .non⟩
      · rw [if_neg hz] at ef; cases ef
    | _ => cases ef
  · exact p.elim
end
end Dl
namespace Dl
open PySem PySem.Spec PyProof.Rows L2
section
variable {X : Cx} {T : Tx} {π : Nat → Option Pin} {W : WX} {a b c e o : Expr} {es : List Expr} {pos : Pos} {m ma mb mc : Mi Dt} {ms : Mi (List Dt)} {A A' : Addr → Prop} {F H F' H' F0 H0 : Hp} {σ : L2.St} {ρ : En}
theorem ops_pure {r : R2} {f : Dt → Dt → Option Dt} (h : ∀ F H v w d e z (Q : VK), Le F H → RepS T F H v d → RepS T F H w e → f d e = some z → (∀ u, Rep T F u z → Q u H) → r v w H Q) : OpS T r f :=
  fun π A F H σ ρ v w d e z Q k rv rw ef q => h F H v w d e z Q k.le rv rw ef fun u ru => q F H u k .refl ru
theorem uns_pure {r : V → Hp → VK → Prop} {f : Dt → Option Dt} (h : ∀ F H v d z (Q : VK), Le F H → RepS T F H v d → f d = some z → (∀ u, Rep T F u z → Q u H) → r v H Q) : UnS T r f :=
  fun π A F H σ ρ v d z Q k rv ef q => h F H v d z Q k.le rv ef fun u ru => q F H u k .refl ru
theorem RepS.int_inv {v : V} {i : Int} (h : RepS T F H v (.int i)) : v = .int i := (h.flat trivial).int_inv
theorem RepS.str_inv {v : V} {i : Str} (h : RepS T F H v (.str i)) : v = .str i := (h.flat trivial).str_inv
theorem RepS.bl_inv {v : V} {i : Bool} (h : RepS T F H v (.bl i)) : v = .bl i := (h.flat trivial).bl_inv
/-! ### whole numbers -/
def fI (g : Int → Int → Option Dt) : Dt → Dt → Option Dt
  | .int i, .int j => g i j
  | _, _ => none
theorem fI_inv {g : Int → Int → Option Dt} {d e z : Dt} (h : fI g d e = some z) : ∃ i j, d = .int i ∧ e = .int j ∧ g i j = some z := by
  unfold fI at h
  split at h
  · exact ⟨_, _, rfl, rfl, h⟩
  · cases h
theorem os_I0 {g : Int → Int → V} {gd : Int → Int → Dt} (hg : ∀ F i j, Rep T F (g i j) (gd i j)) : OpS T (rI0 g) (fI fun i j => some (gd i j)) := ops_pure fun F H v w d e z Q le rv rw ef q => by
  obtain ⟨i, j, rfl, rfl, h⟩ := fI_inv ef
  cases h
  exact ⟨i, j, rv.int_inv, rw.int_inv, q _ (hg F i j)⟩
theorem os_I {C : Int → Int → Prop} [∀ i j, Decidable (C i j)] {g : Int → Int → V} {gd : Int → Int → Dt} (hg : ∀ F i j, Rep T F (g i j) (gd i j)) : OpS T (rI C g) (fI fun i j => if C i j then some (gd i j) else none) := ops_pure fun F H v w d e z Q le rv rw ef q => by
  obtain ⟨i, j, rfl, rfl, h⟩ := fI_inv ef
  split at h
  · rename_i hc
    cases h
    exact ⟨i, j, rv.int_inv, rw.int_inv, hc, q _ (hg F i j)⟩
  · cases h
instance (i j : Int) : Decidable (CMul i j) := by unfold CMul; exact inferInstance
/-- // by a positive divisor below 2 ^ 100 -/
def CDivX (_ j : Int) : Prop := 0 < j ∧ j < 1267650600228229401496703205376
instance (i j : Int) : Decidable (CDivX i j) := by unfold CDivX; exact inferInstance
theorem CDivX.w {i j : Int} (h : CDivX i j) : CDivW i j := wide_div (b := 100) h.1 (by have h1 := h.1; have h2 := h.2; omega) (by decide) (by decide)
instance (i j : Int) : Decidable (CPow i j) := by unfold CPow; exact inferInstance
def fSub : Dt → Dt → Option Dt := fI fun i j => some (.int (i - j))
def fMulI : Dt → Dt → Option Dt := fI fun i j => if CMul i j then some (.int (i * j)) else none
def fDiv : Dt → Dt → Option Dt := fI fun i j => if CDivX i j then some (.int (i / j)) else none
def fMod : Dt → Dt → Option Dt := fI fun i j => if 0 < j then some (.int (i % j)) else none
def fPow : Dt → Dt → Option Dt := fI fun i j => if CPow i j then some (.int (i ^ j.toNat)) else none
def fLt : Dt → Dt → Option Dt := fI fun i j => some (.bl (decide (i < j)))
def fLe : Dt → Dt → Option Dt := fI fun i j => some (.bl (decide (i ≤ j)))
def fGt : Dt → Dt → Option Dt := fI fun i j => some (.bl (decide (j < i)))
def fGe : Dt → Dt → Option Dt := fI fun i j => some (.bl (decide (j ≤ i)))
theorem os_sub : OpS T (rI0 fun i j => .int (i - j)) fSub := os_I0 fun F i j => .int _
theorem os_mulI : OpS T (rI CMul fun i j => .int (i * j)) fMulI := os_I fun F i j => .int _
theorem rI_mono {C C' : Int → Int → Prop} {g : Int → Int → V} {x y : V} {H : Hp} {Q : VK} (hC : ∀ i j, C' i j → C i j) (h : rI C' g x y H Q) : rI C g x y H Q := by
  obtain ⟨i, j, h1, h2, h3, h4⟩ := h
  exact ⟨i, j, h1, h2, hC i j h3, h4⟩
theorem os_div : OpS T (rI CDivW fun i j => .int (i / j)) fDiv := fun π A F H σ ρ v w d e z Q k rv rw ef q => rI_mono (fun _ _ => CDivX.w) (os_I (T := T) (C := CDivX) (g := fun i j => .int (i / j)) (gd := fun i j => .int (i / j)) (fun F i j => .int _) π A F H σ ρ v w d e z Q k rv rw ef q)
theorem os_mod : OpS T (rI (fun _ j => 0 < j) fun i j => .int (i % j)) fMod := os_I fun F i j => .int _
theorem os_pow : OpS T (rI CPow fun i j => .int (i ^ j.toNat)) fPow := os_I fun F i j => .int _
theorem os_lt : OpS T (rI0 fun i j => .bl (decide (i < j))) fLt := os_I0 fun F i j => .bl _
theorem os_le : OpS T (rI0 fun i j => .bl (decide (i ≤ j))) fLe := os_I0 fun F i j => .bl _
theorem os_gt : OpS T (rI0 fun i j => .bl (decide (j < i))) fGt := os_I0 fun F i j => .bl _
theorem os_ge : OpS T (rI0 fun i j => .bl (decide (j ≤ i))) fGe := os_I0 fun F i j => .bl _
def fNeg : Dt → Option Dt
  | .int i => some (.int (-i))
  | _ => none
theorem us_neg : UnS T (rU fun i => .int (-i)) fNeg := uns_pure fun F H v d z Q le rv ef q => by
  cases d with
  | int i => cases ef; exact ⟨i, rv.int_inv, q _ (.int _)⟩
  | _ => cases ef
/-! ### + of numbers, texts, lists, tuples -/
def fAdd : Dt → Dt → Option Dt
  | .int i, .int j => some (.int (i + j))
  | .str x, .str y => if x.length + y.length ≤ sizeLine then some (.str (x ++ y)) else none
  | .lst xs, .lst ys => if xs.length + ys.length ≤ sizeLine then some (.lst (xs ++ ys)) else none
  | .tup xs, .tup ys => if xs.length + ys.length ≤ sizeLine then some (.tup (xs ++ ys)) else none
  | _, _ => none
def rAddS : R2 := fun x y H Q => ∃ i j, x = V.str i ∧ y = V.str j ∧ i.length + j.length ≤ sizeLine ∧ Q (.str (i ++ j)) H
def rAdd (K : PySem.W.Frag) : R2 := fun x y H Q => rI0 (fun i j => .int (i + j)) x y H Q ∨ (rAddS x y H Q ∨ (rCat x y H Q ∨ rCatA K x y H Q))
theorem op_addA : OpR X (binaryOp .Add) (rAdd X.K) := OpR.or op_add (OpR.or op_add_str (OpR.or op_cat op_catA))
theorem RepS.lst_inv {v : V} {ds : List Dt} (r : RepS T F H v (.lst ds)) (le : Le F H) : ∃ a vs, v = .ref a ∧ H a = some (.lst vs) ∧ Reps T F vs ds := by
  rcases r with r | ⟨a, e, vs, h, r⟩
  · cases r with
    | lst h r => exact ⟨_, _, rfl, le _ _ h, r⟩
  · exact ⟨a, vs, e, h, r⟩
theorem os_add : OpS T (rAdd T.K) fAdd := fun π A F H σ ρ v w d e z Q k rv rw ef q => by
  unfold fAdd at ef
  split at ef
  · cases ef
    exact .inl ⟨_, _, rv.int_inv, rw.int_inv, q F H _ k .refl (.int _)⟩
  · split at ef
    · cases ef
      exact .inr (.inl ⟨_, _, rv.str_inv, rw.str_inv, by assumption, q F H _ k .refl (.str _)⟩)
    · cases ef
  · split at ef
    · rename_i hz
      cases ef
      obtain ⟨a, vs, e1, h1, r1⟩ := rv.lst_inv k.le
      obtain ⟨b, ws, e2, h2, r2⟩ := rw.lst_inv k.le
      refine .inr (.inr (.inl ⟨a, b, vs, ws, e1, e2, h1, h2, by rw [r1.length, r2.length]; exact hz, fun p hp => ?_⟩))
      exact q (upd F p (.lst (vs ++ ws))) _ (.ref p) (k.new hp) (.new k.le hp) (.lst upd_same ((r1.append r2).mono (le_new (f_none k.le hp))))
    · cases ef
  · rename_i xs ys
    split at ef
    · rename_i hz
      cases ef
      have rv' := rv.flat trivial
      have rw' := rw.flat trivial
      obtain ⟨a, vs, e1, h1, r1⟩ := rv'.tup_inv
      obtain ⟨b, ws, e2, h2, r2⟩ := rw'.tup_inv
      refine .inr (.inr (.inr ⟨a, b, vs, ws, e1, e2, sqt_mono k.le h1, sqt_mono k.le h2, by rw [r1.length, r2.length]; exact hz, fun z => ?_, fun z1 z2 => ?_, fun z1 z2 p hp => ?_⟩))
      · subst z
        cases r1
        exact q F H _ k .refl (by rw [← e2]; exact rw')
      · subst z2
        cases r2
        rw [List.append_nil] at q
        exact q F H _ k .refl (by rw [← e1]; exact rv')
      · exact q (upd F p (.tup (vs ++ ws))) _ (.ref p) (k.new hp) (.new k.le hp) (.tup upd_same ((r1.append r2).mono (le_new (f_none k.le hp))))
    · cases ef
  · cases ef
/-- xs + ys, a new list of one's own -/
def mCat (ma mb : Mi Dt) : Mi Dt := mBind ma fun x => mBind mb fun y => match x, y with
  | .lst xs, .lst ys => if xs.length + ys.length ≤ sizeLine then mPure (.lst (xs ++ ys)) else mBad
  | _, _ => mBad
theorem dn_cat (ha : PE X a (TMe T π W ma)) (hb : PE X b (TMp T π W mb)) : PE X (.BinOp a .Add b pos) (TMn T π W (mCat ma mb)) := (pe_op op_cat ha hb).imp fun σ H Q ⟨A, F, ρ, k, p⟩ =>
  ⟨A, F, ρ, k, p.bind.imp fun x ρ1 F1 H1 k1 r1 p1 v rv => ⟨A, F1, ρ1, k1, p1.bind.imp fun y ρ2 F2 H2 k2 r2 p2 w rw => by
    split at p2
    · split at p2
      · rename_i hz
        obtain ⟨a, vs, e1, h1, q1⟩ := (rv.mono r2.f).s.lst_inv k2.le
        obtain ⟨b, ws, e2, h2, q2⟩ := rw.lst_inv k2.le
        refine ⟨a, b, vs, ws, e1, e2, h1, h2, by rw [q1.length, q2.length]; exact hz, fun x hx => ?_⟩
        exact p2 F2 _ (k2.newO hx) (.newO hx) x (f_none k2.le hx) (k2.fresh_new hx) (r1.t x (r2.t x hx)) ⟨_, upd_same, q1.append q2⟩ (fun _ z => nomatch z)
      · exact p2.elim
    · exact p2.elim⟩⟩
/-! ### == -/
mutual
def toPy : Dt → Option PyData
  | .non => some .none
  | .bl b => some (.bool b)
  | .int i => some (.int i)
  | .str x => some (.str x)
  | .lst xs => (toPys xs).map .list
  | .tup xs => (toPys xs).map .tuple
  | _ => none
def toPys : List Dt → Option (List PyData)
  | [] => some []
  | d :: ds => match toPy d, toPys ds with
    | some p, some ps => some (p :: ps)
    | _, _ => none
end
mutual
theorem dp_of (le : Le F H) : ∀ {d : Dt} {v : V} {p : PyData}, Rep T F v d → toPy d = some p → Dp T.K H v p
  | .non, _, _, r, e => by cases r; cases e; exact .non
  | .bl _, _, _, r, e => by cases r; cases e; exact .bl _
  | .int _, _, _, r, e => by cases r; cases e; exact .int _
  | .str _, _, _, r, e => by cases r; cases e; exact .str _
  | .ty _, _, _, r, e => by cases e
  | .scr _, _, _, r, e => by cases e
  | .dic _ _ _, _, _, r, e => by cases e
  | .ins _ _, _, _, r, e => by cases e
  | .lst xs, _, _, r, e => by
    cases r with
    | lst h rs =>
      unfold toPy at e
      cases q : toPys xs with
      | none => rw [q] at e; cases e
      | some ps => rw [q] at e; cases e; exact .lst (SqL.of (le _ _ h)) (dps_of le rs q)
  | .tup xs, _, _, r, e => by
    obtain ⟨a, vs, ev, h, rs⟩ := r.tup_inv
    subst ev
    unfold toPy at e
    cases q : toPys xs with
    | none => rw [q] at e; cases e
    | some ps => rw [q] at e; cases e; exact .tup (sqt_mono le h) (dps_of le rs q)
theorem dps_of (le : Le F H) : ∀ {ds : List Dt} {vs : List V} {ps : List PyData}, Reps T F vs ds → toPys ds = some ps → DpAll T.K H vs ps
  | [], _, _, r, e => by cases r; cases e; exact .nil
  | d :: ds, _, _, r, e => by
    cases r with
    | cons r rs =>
      unfold toPys at e
      cases q : toPy d with
      | none => rw [q] at e; cases e
      | some p =>
        cases q2 : toPys ds with
        | none => rw [q, q2] at e; cases e
        | some ps => rw [q, q2] at e; cases e; exact .cons (dp_of le r q) (dps_of le rs q2)
end
theorem dp_ofS (le : Le F H) {d : Dt} {v : V} {p : PyData} (r : RepS T F H v d) (e : toPy d = some p) : Dp T.K H v p := by
  rcases r with r | ⟨a, ev, ho⟩
  · exact dp_of le r e
  · subst ev
    cases d with
    | lst xs =>
      obtain ⟨vs, h, rs⟩ := ho
      unfold toPy at e
      cases q : toPys xs with
      | none => rw [q] at e; cases e
      | some ps => rw [q] at e; cases e; exact .lst (SqL.of h) (dps_of le rs q)
    | _ => first | exact ho.elim | cases e
def dEq (d e : Dt) : Option Bool := match toPy d, toPy e with
  | some p, some q => if SeqAt.shaped p && SeqAt.shaped q then some (PyData.eqv p q) else none
  | _, _ => none
def fEq (d e : Dt) : Option Dt := (dEq d e).map .bl
def fNe (d e : Dt) : Option Dt := (dEq d e).map fun b => .bl (!b)
theorem dEq_inv {d e : Dt} {b : Bool} (h : dEq d e = some b) : ∃ p q, toPy d = some p ∧ toPy e = some q ∧ SeqAt.shaped p = true ∧ SeqAt.shaped q = true ∧ PyData.eqv p q = b := by
  unfold dEq at h
  split at h
  · rename_i p q e1 e2
    split at h
    · rename_i hs
      cases h
      exact ⟨p, q, e1, e2, (Bool.and_eq_true_iff.mp hs).1, (Bool.and_eq_true_iff.mp hs).2, rfl⟩
    · cases h
  · cases h
theorem os_eq : OpS T (rEqD T.K) fEq := ops_pure fun F H v w d e z Q le rv rw ef q => by
  unfold fEq at ef
  cases h : dEq d e with
  | none => rw [h] at ef; cases ef
  | some b =>
    rw [h] at ef
    cases ef
    obtain ⟨p, p', h1, h2, h3, h4, h5⟩ := dEq_inv h
    subst h5
    exact ⟨p, p', dp_ofS le rv h1, dp_ofS le rw h2, h3, h4, q _ (.bl _)⟩
theorem os_ne : OpS T (rNeD T.K) fNe := ops_pure fun F H v w d e z Q le rv rw ef q => by
  unfold fNe at ef
  cases h : dEq d e with
  | none => rw [h] at ef; cases ef
  | some b =>
    rw [h] at ef
    cases ef
    obtain ⟨p, p', h1, h2, h3, h4, h5⟩ := dEq_inv h
    subst h5
    exact ⟨p, p', dp_ofS le rv h1, dp_ofS le rw h2, h3, h4, q _ (.bl _)⟩
/-- is None -/
def isNon : Dt → Bool
  | .non => true
  | _ => false
theorem RepS.isNon {v : V} {d : Dt} (r : RepS T F H v d) : decide (v = .non) = Dl.isNon d := by
  rcases r with r | ⟨a, ev, ho⟩
  · cases r <;> simp [Dl.isNon]
  · subst ev
    cases d <;> first | exact ho.elim | simp [Dl.isNon]
def fIsN : Dt → Dt → Option Dt
  | d, .non => some (.bl (isNon d))
  | _, _ => none
def fNotN : Dt → Dt → Option Dt
  | d, .non => some (.bl (!isNon d))
  | _, _ => none
theorem os_isN : OpS T (fun x y H Q => y = V.non ∧ Q (.bl (decide (x = .non))) H) fIsN := ops_pure fun F H v w d e z Q le rv rw ef q => by
  cases e with
  | non =>
    cases ef
    refine ⟨(rw.flat trivial).non_inv, ?_⟩
    rw [rv.isNon]
    exact q _ (.bl _)
  | _ => cases ef
theorem os_notN : OpS T (fun x y H Q => y = V.non ∧ Q (.bl (!decide (x = .non))) H) fNotN := ops_pure fun F H v w d e z Q le rv rw ef q => by
  cases e with
  | non =>
    cases ef
    refine ⟨(rw.flat trivial).non_inv, ?_⟩
    rw [rv.isNon]
    exact q _ (.bl _)
  | _ => cases ef
/-- a < b < c -/
def mChain (f g : Dt → Dt → Option Dt) (ma mb mc : Mi Dt) : Mi Dt := mBind ma fun x => mBind mb fun y => mBind (mOpt (f x y)) fun z => match z with
  | .bl true => mBind mc fun w => mOpt (g y w)
  | .bl false => mPure (.bl false)
  | _ => mBad
theorem dt_chain {r r' : R2} {f g : Dt → Dt → Option Dt} (h : PT X e (tTest (tChain r r' (TMe T π W ma) (TMe T π W mb) (TMp T π W mc)))) (hs : OpS T r f) (hs' : OpS T r' g) : PT X e (TMt T π W (mB (mChain f g ma mb mc))) := h.imp fun σ H Q ⟨A, F, ρ, k, p⟩ => by
  have p' := p.bind
  refine ⟨A, F, ρ, k, p'.bind.imp fun x ρ1 F1 H1 k1 r1 p1 v rv => ⟨A, F1, ρ1, k1, p1.bind.imp fun y ρ2 F2 H2 k2 r2 p2 w rw => ?_⟩⟩
  obtain ⟨z, ez, p3⟩ := p2.bind.opt
  refine hs π A F2 H2 σ ρ2 v w x y z _ k2 (rv.mono r2.f).s rw.s ez fun F' H' u k' r' ru => ?_
  have p4 := p3 F' H' k' r'
  cases z with
  | bl b =>
    refine ⟨b, ru.bl_inv, ?_⟩
    cases b with
    | false => exact iteF ⟨false, rfl, p4.pure k' |>.pure k'⟩
    | true =>
      refine iteT ⟨A, F', ρ2, k', p4.bind.imp fun t ρ3 F3 H3 k3 r3 p5 w' rw' => ?_⟩
      obtain ⟨z2, ez2, p6⟩ := p5.opt
      refine hs' π A F3 H3 σ ρ3 w w' y t z2 _ k3 ((rw.mono r'.f).mono r3.f).s rw' ez2 fun F4 H4 u2 k4 r4 ru2 => ?_
      have p7 := p6 F4 H4 k4 r4
      cases z2 with
      | bl b2 => exact ⟨b2, ru2.bl_inv, p7.pure k4⟩
      | _ => exact p7.elim
  | _ => exact p4.elim
/-! ### subscripts -/
theorem RepS.scr_inv {v : V} {ns : List Int} (r : RepS T F H v (.scr ns)) (le : Le F H) : ∃ a, v = .ref a ∧ SqL T.K H a (ns.map V.int) := by
  cases r.flat trivial with
  | scr h => exact ⟨_, rfl, sql_mono le h⟩
def fIx : Dt → Dt → Option Dt
  | .scr ns, .int i => (atI ns i).map .int
  | .lst xs, .int i => atI xs i
  | .tup xs, .int i => atI xs i
  | .str z, .int i => if z.length ≤ sizeLine then (atI z.cps.toList i).map fun c => .str ⟨#[c]⟩ else none
  | _, _ => none
theorem Reps.at {vs : List V} {ds : List Dt} {i : Int} {d : Dt} (r : Reps T F vs ds) (h : atI ds i = some d) : ∃ v, atI vs i = some v ∧ Rep T F v d := by
  unfold atI at h ⊢
  rw [r.length]
  cases q : ixN ds.length i with
  | none => rw [q] at h; cases h
  | some j =>
    rw [q] at h
    exact r.get h
theorem at_map {α β : Type} (f : α → β) (l : List α) (i : Int) : atI (l.map f) i = (atI l i).map f := by
  unfold atI
  rw [List.length_map]
  cases ixN l.length i with
  | none => rfl
  | some j => simp
theorem os_ix : OpS T (rIx T.K) fIx := ops_pure fun F H v w d e z Q le rv rw ef q => by
  unfold fIx at ef
  split at ef
  · rename_i ns i
    cases h : atI ns i with
    | none => rw [h] at ef; cases ef
    | some j =>
      rw [h] at ef
      cases ef
      obtain ⟨p, e1, hl⟩ := rv.scr_inv le
      exact .inl ⟨p, _, _, .int j, e1, rw.int_inv, hl, by rw [at_map, h]; rfl, q _ (.int _)⟩
  · obtain ⟨p, vs, e1, _, r, hl, _⟩ := rv.seq le (.inl rfl)
    obtain ⟨u, h1, h2⟩ := r.at ef
    exact .inl ⟨p, vs, _, u, e1, rw.int_inv, hl rfl, h1, q u h2⟩
  · obtain ⟨p, vs, e1, _, r, _, hl⟩ := rv.seq le (.inr rfl)
    obtain ⟨u, h1, h2⟩ := r.at ef
    exact .inr (.inl ⟨p, vs, _, u, e1, rw.int_inv, hl rfl, h1, q u h2⟩)
  · rename_i s i
    split at ef
    · rename_i hz
      cases h : atI s.cps.toList i with
      | none => rw [h] at ef; cases ef
      | some c =>
        rw [h] at ef
        cases ef
        exact .inr (.inr ⟨s, i, c, rv.str_inv, rw.int_inv, hz, h, q _ (.str _)⟩)
    · cases ef
  · cases ef
/-- o[i], o a name that may hold its own object: it is read behind i -/
def mIxV (i : Nat) (m : Mi Dt) : Mi Dt := mBind m fun y => mBind (mPeek i) fun x => mOpt (fIx x y)
theorem mPeek_inv {i : Nat} {P : Dt → En → Hp → Hp → Prop} (p : Post T π W σ A F H P (mPeek i ρ)) (k : Ok T π A F H σ ρ) : ∃ d v, σ[i]? = some (some v) ∧ RepS T F H v d ∧ P d ρ F H := by
  unfold mPeek at p
  split at p
  · rename_i d e
    obtain ⟨v, h1, h2⟩ := k.val i d e
    exact ⟨d, v, h1, h2.s, p F H k .refl⟩
  · rename_i io d e
    obtain ⟨a, h1, h2, h3, _⟩ := k.own i io d e
    exact ⟨d, .ref a, h1, .inr ⟨a, rfl, h3⟩, p F H k .refl⟩
  · exact p.elim
def hasSl (i : Nat) (m : Mi Dt) : Mi Dt := fun ρ => match ρ[i]? with
  | some (some _) => m ρ
  | _ => .bad
theorem de_ixV {i : Nat} (h : PE X e (tOp (rIx T.K) (tVar i) (TMe T π W m))) : PE X e (TMe T π W (hasSl i (mIxV i m))) := h.imp fun σ H Q ⟨A, F, ρ, k, p⟩ => by
  unfold hasSl at p
  split at p
  · rename_i s es
    have hv : ∃ v, σ[i]? = some (some v) := by
      cases s with
      | val d => obtain ⟨v, h1, _⟩ := k.val i d es; exact ⟨v, h1⟩
      | own io d => obtain ⟨a, h1, _⟩ := k.own i io d es; exact ⟨_, h1⟩
    obtain ⟨v, hv⟩ := hv
    refine ⟨v, hv, A, F, ρ, k, p.bind.imp fun y ρ1 F1 H1 k1 r1 p1 w rw => ?_⟩
    obtain ⟨d, v', h1, h2, p2⟩ := mPeek_inv p1.bind k1
    rw [hv] at h1
    cases h1
    obtain ⟨z, ez, p3⟩ := p2.opt
    exact os_ix π A F1 H1 σ ρ1 v w d y z Q k1 h2 rw.s ez fun F' H' u k' r' ru => p3 F' H' k' r' u ru
  · exact p.elim
/-! ### built-in functions of one argument -/
def CaS (T : Tx) (r : List V → Hp → VK → Prop) (f : Dt → Option Dt) : Prop := UnS T (fun v H Q => r [v] H Q) f
theorem de_call1 {r : List V → Hp → VK → Prop} {f : Dt → Option Dt} (h : PE X e (tCB r (tCons (TMp T π W m) tNil))) (hs : CaS T r f) : PE X e (TMe T π W (m1 f m)) := h.imp fun σ H Q ⟨A, F, ρ, k, p⟩ => ⟨A, F, ρ, k, p.bind.imp fun x ρ1 F1 H1 k1 r1 p1 v rv => by
  obtain ⟨z, ez, p3⟩ := p1.opt
  exact hs π A F1 H1 σ ρ1 v x z Q k1 rv ez fun F' H' u k' r' ru => p3 F' H' k' r' u ru⟩
/-- .. that make a new list -/
def CaN (T : Tx) (r : List V → Hp → VK → Prop) (f : Dt → Option (List Dt)) : Prop := ∀ (F H : Hp) (v : V) (d : Dt) (es : List Dt) (Q : VK), Le F H → RepS T F H v d → f d = some es → (∀ p vs, H p = none → Reps T F vs es → Q (.ref p) (upd H p (.lst vs))) → r [v] H Q
def m1N (f : Dt → Option (List Dt)) (m : Mi Dt) : Mi Dt := mBind m fun x => mOpt ((f x).map .lst)
theorem dn_call1 {r : List V → Hp → VK → Prop} {f : Dt → Option (List Dt)} (h : PE X e (tCB r (tCons (TMp T π W m) tNil))) (hs : CaN T r f) : PE X e (TMn T π W (m1N f m)) := h.imp fun σ H Q ⟨A, F, ρ, k, p⟩ => ⟨A, F, ρ, k, p.bind.imp fun x ρ1 F1 H1 k1 r1 p1 v rv => by
  obtain ⟨z, ez, p3⟩ := p1.opt
  cases q : f x with
  | none => rw [q] at ez; cases ez
  | some es =>
    rw [q] at ez
    cases ez
    exact hs F1 H1 v x es Q k1.le rv q fun x vs hx rs => p3 F1 (upd H1 x (.lst vs)) (k1.newO hx) (.newO hx) x (f_none k1.le hx) (k1.fresh_new hx) (r1.t x hx) ⟨vs, upd_same, rs⟩ (fun _ z => nomatch z)⟩
def fLen : Dt → Option Dt
  | .scr ns => some (.int ns.length)
  | .lst xs => some (.int xs.length)
  | .tup xs => some (.int xs.length)
  | .str z => if z.length ≤ sizeLine then some (.int z.length) else none
  | .dic false ks _ => some (.int ks.length)
  | _ => none
def rLenA (K : PySem.W.Frag) : List V → Hp → VK → Prop := fun xs H Q => (∃ p ys, xs = [.ref p] ∧ (SqL K H p ys ∨ SqT K H p ys) ∧ Q (.int ys.length) H) ∨ (∃ z, xs = [.str z] ∧ z.length ≤ sizeLine ∧ Q (.int z.length) H) ∨ (∃ a kvs, xs = [V.ref a] ∧ H a = some (.dK kvs) ∧ Q (.int kvs.length) H)
theorem cr_lenA : CallR X (.builtin "len") (rLenA X.K) := CallR.or call_len_seq (CallR.or call_len_str call_lenD)
theorem RepS.dicK_inv {v : V} {ks ds : List Dt} (r : RepS T F H v (.dic false ks ds)) (le : Le F H) : ∃ (a : Addr) (kk : List Key) (vs : List V), v = .ref a ∧ H a = some (.dK (kk.zip vs)) ∧ kk.length = vs.length ∧ ks = kk.map kD ∧ Reps T F vs ds := by
  rcases r with r | ⟨a, ev, kk, vs, h1, h2, h3, h4⟩
  · cases r with
    | dicK h l r => exact ⟨_, _, _, rfl, le _ _ h, l, rfl, r⟩
  · exact ⟨a, kk, vs, ev, h1, h2, h3, h4⟩
theorem cs_len : CaS T (rLenA T.K) fLen := uns_pure fun F H v d z Q le rv ef q => by
  unfold fLen at ef
  split at ef
  · cases ef
    obtain ⟨p, e1, hl⟩ := rv.scr_inv le
    exact .inl ⟨p, _, by rw [e1], .inl hl, q _ (by rw [List.length_map]; exact .int _)⟩
  · cases ef
    obtain ⟨p, vs, e1, h, r, _⟩ := rv.seq le (.inl rfl)
    exact .inl ⟨p, vs, by rw [e1], h, q _ (by rw [r.length]; exact .int _)⟩
  · cases ef
    obtain ⟨p, vs, e1, h, r, _⟩ := rv.seq le (.inr rfl)
    exact .inl ⟨p, vs, by rw [e1], h, q _ (by rw [r.length]; exact .int _)⟩
  · split at ef
    · cases ef
      exact .inr (.inl ⟨_, by rw [rv.str_inv], by assumption, q _ (.int _)⟩)
    · cases ef
  · cases ef
    obtain ⟨a, kk, vs, e1, h1, h2, h3, h4⟩ := rv.dicK_inv le
    refine .inr (.inr ⟨a, _, by rw [e1], h1, q _ ?_⟩)
    rw [List.length_zip, ← h2, Nat.min_self, h3, List.length_map]
    exact .int _
  · cases ef
/-- tuple(x) -/
def fTuple : Dt → Option Dt
  | .lst xs => some (.tup xs)
  | .tup xs => some (.tup xs)
  | _ => none
theorem cs_tuple : CaS T (fun xs H Q => ∃ p ys, xs = [V.ref p] ∧ ((SqL T.K H p ys ∧ ∀ l, H l = none → Q (.ref l) (upd H l (.tup ys))) ∨ (SqT T.K H p ys ∧ Q (.ref p) H))) fTuple := fun π A F H σ ρ v d z Q k rv ef q => by
  unfold fTuple at ef
  split at ef
  · cases ef
    obtain ⟨p, vs, e1, h, r, hl, _⟩ := rv.seq k.le (.inl rfl)
    refine ⟨p, vs, by rw [e1], .inl ⟨hl rfl, fun l hl => ?_⟩⟩
    exact q (upd F l (.tup vs)) (upd H l (.tup vs)) (.ref l) (k.new hl) (.new k.le hl) (.tup upd_same (r.mono (le_new (f_none k.le hl))))
  · cases ef
    have rv' := rv.flat trivial
    obtain ⟨p, vs, e1, h, r⟩ := rv'.tup_inv
    exact ⟨p, vs, by rw [e1], .inr ⟨sqt_mono k.le h, q F H (.ref p) k .refl (by rw [← e1]; exact rv')⟩⟩
  · cases ef
/-- lists of whole numbers -/
def intsOf : List Dt → Option (List Int)
  | [] => some []
  | .int i :: ds => (intsOf ds).map (i :: ·)
  | _ => none
theorem ints_inv : ∀ {ds : List Dt} {ns : List Int}, intsOf ds = some ns → ds = ns.map .int
  | [], ns, h => by cases h; rfl
  | .int i :: ds, ns, h => by
    unfold intsOf at h
    cases q : intsOf ds with
    | none => rw [q] at h; cases h
    | some r => rw [q] at h; cases h; rw [ints_inv q]; rfl
  | .non :: _, _, h => by cases h
  | .bl _ :: _, _, h => by cases h
  | .str _ :: _, _, h => by cases h
  | .ty _ :: _, _, h => by cases h
  | .scr _ :: _, _, h => by cases h
  | .lst _ :: _, _, h => by cases h
  | .tup _ :: _, _, h => by cases h
  | .dic _ _ _ :: _, _, h => by cases h
  | .ins _ _ :: _, _, h => by cases h
theorem reps_ints : ∀ {ns : List Int} {vs : List V}, Reps T F vs (ns.map .int) → vs = ns.map V.int
  | [], _, r => by cases r; rfl
  | i :: ns, _, r => by
    cases r with
    | cons h rs => rw [h.int_inv, reps_ints rs]; rfl
theorem ints_reps : ∀ (ns : List Int), Reps T F (ns.map V.int) (ns.map .int)
  | [] => .nil
  | i :: ns => .cons (.int i) (ints_reps ns)
def insI (x : Int) : List Int → List Int
  | [] => [x]
  | y :: r => if x ≤ y then x :: y :: r else y :: insI x r
def sortI : List Int → List Int
  | [] => []
  | x :: r => insI x (sortI r)
theorem insI_perm (x : Int) : ∀ l, (insI x l).Perm (x :: l)
  | [] => List.Perm.refl _
  | y :: r => by
    unfold insI
    split
    · exact List.Perm.refl _
    · exact ((insI_perm x r).cons y).trans (List.Perm.swap x y r)
theorem sortI_perm : ∀ l, (sortI l).Perm l
  | [] => List.Perm.refl _
  | x :: r => (insI_perm x (sortI r)).trans ((sortI_perm r).cons x)
theorem insI_sorted (x : Int) : ∀ {l : List Int}, l.Pairwise (· ≤ ·) → (insI x l).Pairwise (· ≤ ·)
  | [], _ => by simp [insI]
  | y :: r, h => by
    rw [List.pairwise_cons] at h
    unfold insI
    split
    · rename_i hxy
      rw [List.pairwise_cons, List.pairwise_cons]
      exact ⟨fun z hz => by
        cases hz with
        | head => exact hxy
        | tail _ hz => exact Int.le_trans hxy (h.1 z hz), h⟩
    · rename_i hxy
      rw [List.pairwise_cons]
      refine ⟨fun z hz => ?_, insI_sorted x h.2⟩
      have := (insI_perm x r).mem_iff.mp hz
      cases this with
      | head => omega
      | tail _ hz => exact h.1 z hz
theorem sortI_sorted : ∀ l : List Int, (sortI l).Pairwise (· ≤ ·)
  | [] => .nil
  | x :: r => insI_sorted x (sortI_sorted r)
theorem sorted_unique : ∀ {l m : List Int}, l.Perm m → l.Pairwise (· ≤ ·) → m.Pairwise (· ≤ ·) → l = m
  | [], m, p, _, _ => p.nil_eq
  | x :: r, [], p, _, _ => by have := p.length_eq; simp at this
  | x :: r, y :: s, p, h1, h2 => by
    rw [List.pairwise_cons] at h1 h2
    have e : x = y := by
      have hx : x ∈ y :: s := p.mem_iff.mp List.mem_cons_self
      have hy : y ∈ x :: r := p.mem_iff.mpr List.mem_cons_self
      have a : y ≤ x := by
        cases hx with
        | head => exact Int.le_refl _
        | tail _ hx => exact h2.1 x hx
      have b : x ≤ y := by
        cases hy with
        | head => exact Int.le_refl _
        | tail _ hy => exact h1.1 y hy
      omega
    subst e
    rw [sorted_unique (List.Perm.cons_inv p) h1.2 h2.2]
def fSorted : Dt → Option (List Dt)
  | .lst xs => (intsOf xs).map fun ns => (sortI ns).map .int
  | _ => none
theorem cn_sorted : CaN T (rSortedI T.K) fSorted := fun F H v d es Q le rv ef q => by
  cases d with
  | lst xs =>
    unfold fSorted at ef
    dsimp only at ef
    cases hq : intsOf xs with
    | none => rw [hq] at ef; cases ef
    | some ns =>
      rw [hq] at ef
      cases ef
      have ex := ints_inv hq
      subst ex
      obtain ⟨p, vs, e1, _, r, hl, _⟩ := rv.seq le (.inl rfl)
      have ev := reps_ints r
      subst ev
      refine ⟨p, ns, by rw [e1], hl rfl, fun ns' x hp hs hx => ?_⟩
      have e2 : ns' = sortI ns := sorted_unique (hp.trans (sortI_perm ns).symm) hs (sortI_sorted ns)
      subst e2
      exact q x _ hx (ints_reps _)
  | _ => cases ef
def maxI : List Int → Option Int
  | [] => none
  | x :: r => some (r.foldl (fun a b => if a < b then b else a) x)
theorem maxI_ok {l : List Int} {m : Int} (h : maxI l = some m) : m ∈ l ∧ ∀ y ∈ l, y ≤ m := by
  cases l with
  | nil => cases h
  | cons x r =>
    cases h
    have gen : ∀ (r : List Int) (x : Int), (r.foldl (fun a b => if a < b then b else a) x) ∈ x :: r ∧ ∀ y ∈ x :: r, y ≤ r.foldl (fun a b => if a < b then b else a) x := by
      intro r
      induction r with
      | nil => intro x; simp
      | cons z r ih =>
        intro x
        rw [List.foldl_cons]
        obtain ⟨h1, h2⟩ := ih (if x < z then z else x)
        refine ⟨?_, fun y hy => ?_⟩
        · rcases List.mem_cons.mp h1 with h1 | h1
          · rw [h1]; split <;> simp
          · simp [h1]
        · have hm := h2 (if x < z then z else x) List.mem_cons_self
          have hm2 : x ≤ (if x < z then z else x) ∧ z ≤ (if x < z then z else x) := by
            by_cases q : x < z
            · rw [if_pos q]; omega
            · rw [if_neg q]; omega
          rcases List.mem_cons.mp hy with e | hy
          · rw [e]; exact Int.le_trans hm2.1 hm
          · rcases List.mem_cons.mp hy with e | hy
            · rw [e]; exact Int.le_trans hm2.2 hm
            · exact h2 y (List.mem_cons_of_mem _ hy)
    exact gen r x
def fInts (g : List Int → Option Int) : Dt → Option Dt
  | .lst xs => (intsOf xs).bind fun ns => (g ns).map .int
  | _ => none
theorem fInts_inv {g : List Int → Option Int} {d z : Dt} {v : V} (le : Le F H) (rv : RepS T F H v d) (h : fInts g d = some z) : ∃ p ns m, v = .ref p ∧ SqL T.K H p (ns.map V.int) ∧ g ns = some m ∧ z = .int m ∧ d = .lst (ns.map .int) := by
  cases d with
  | lst xs =>
    unfold fInts at h
    dsimp only at h
    cases hq : intsOf xs with
    | none => rw [hq] at h; cases h
    | some ns =>
      rw [hq] at h
      have h' : (g ns).map Dt.int = some z := h
      cases hg : g ns with
      | none => rw [hg] at h'; cases h'
      | some m =>
        rw [hg] at h'
        cases h'
        have ex := ints_inv hq
        subst ex
        obtain ⟨p, vs, e1, _, r, hl, _⟩ := rv.seq le (.inl rfl)
        have ev := reps_ints r
        subst ev
        exact ⟨p, ns, m, e1, hl rfl, hg, rfl, rfl⟩
  | _ => cases h
def fMax : Dt → Option Dt := fInts maxI
theorem cs_max : CaS T (rMax T.K) fMax := uns_pure fun F H v d z Q le rv ef q => by
  obtain ⟨p, ns, m, e1, h1, h2, e2, _⟩ := fInts_inv le rv ef
  subst e1 e2
  refine ⟨p, ns, rfl, h1, ?_, fun m' hm hle => ?_⟩
  · cases ns with
    | nil => cases h2
    | cons _ _ => simp
  · obtain ⟨a1, a2⟩ := maxI_ok h2
    have e3 : m' = m := by
      have := a2 m' hm
      have := hle m a1
      omega
    rw [e3]
    exact q _ (.int _)
def blsOf : List Dt → Option (List Bool)
  | [] => some []
  | .bl i :: ds => (blsOf ds).map (i :: ·)
  | _ => none
theorem bls_inv : ∀ {ds : List Dt} {ns : List Bool}, blsOf ds = some ns → ds = ns.map .bl
  | [], ns, h => by cases h; rfl
  | .bl i :: ds, ns, h => by
    unfold blsOf at h
    cases q : blsOf ds with
    | none => rw [q] at h; cases h
    | some r => rw [q] at h; cases h; rw [bls_inv q]; rfl
  | .non :: _, _, h => by cases h
  | .int _ :: _, _, h => by cases h
  | .str _ :: _, _, h => by cases h
  | .ty _ :: _, _, h => by cases h
  | .scr _ :: _, _, h => by cases h
  | .lst _ :: _, _, h => by cases h
  | .tup _ :: _, _, h => by cases h
  | .dic _ _ _ :: _, _, h => by cases h
  | .ins _ _ :: _, _, h => by cases h
theorem reps_bls : ∀ {ns : List Bool} {vs : List V}, Reps T F vs (ns.map .bl) → vs = ns.map V.bl
  | [], _, r => by cases r; rfl
  | i :: ns, _, r => by
    cases r with
    | cons h rs => rw [h.bl_inv, reps_bls rs]; rfl
def fBls (g : List Bool → Bool) : Dt → Option Dt
  | .lst xs => (blsOf xs).map fun ns => .bl (g ns)
  | _ => none
theorem fBls_inv {g : List Bool → Bool} {d z : Dt} {v : V} (le : Le F H) (rv : RepS T F H v d) (h : fBls g d = some z) : ∃ p ns, v = .ref p ∧ SqL T.K H p (ns.map V.bl) ∧ z = .bl (g ns) := by
  cases d with
  | lst xs =>
    unfold fBls at h
    dsimp only at h
    cases hq : blsOf xs with
    | none => rw [hq] at h; cases h
    | some ns =>
      rw [hq] at h
      cases h
      have ex := bls_inv hq
      subst ex
      obtain ⟨p, vs, e1, _, r, hl, _⟩ := rv.seq le (.inl rfl)
      have ev := reps_bls r
      subst ev
      exact ⟨p, ns, e1, hl rfl, rfl⟩
  | _ => cases h
def fAll : Dt → Option Dt := fBls fun bs => bs.all id
theorem cs_all : CaS T (rAll T.K) fAll := uns_pure fun F H v d z Q le rv ef q => by
  obtain ⟨p, ns, e1, h1, e2⟩ := fBls_inv le rv ef
  subst e1 e2
  exact ⟨p, ns, rfl, h1, q _ (.bl _)⟩
def fInt : Dt → Option Dt
  | .int i => some (.int i)
  | .bl b => some (.int (if b then 1 else 0))
  | _ => none
theorem cs_int : CaS T (fun xs H Q => (∃ i, xs = [V.int i] ∧ Q (.int i) H) ∨ ∃ k, xs = [V.bl k] ∧ Q (.int (if k then 1 else 0)) H) fInt := uns_pure fun F H v d z Q le rv ef q => by
  unfold fInt at ef
  split at ef
  · cases ef; exact .inl ⟨_, by rw [rv.int_inv], q _ (.int _)⟩
  · cases ef; exact .inr ⟨_, by rw [rv.bl_inv], q _ (.int _)⟩
  · cases ef
def fAbs : Dt → Option Dt
  | .int i => some (.int (if i < 0 then -i else i))
  | _ => none
theorem cs_abs : CaS T (fun xs H Q => ∃ i, xs = [V.int i] ∧ Q (.int (if i < 0 then -i else i)) H) fAbs := uns_pure fun F H v d z Q le rv ef q => by
  unfold fAbs at ef
  split at ef
  · cases ef; exact ⟨_, by rw [rv.int_inv], q _ (.int _)⟩
  · cases ef
end
end Dl
namespace Dl
open PySem PySem.Spec PyProof.Rows L2
/-! ### enumerate of a tuple -/
abbrev tupItO (t : Addr) : Obj := { cls := .type "tuple_iterator", data := .fields #[.ref t, .int 0 0] }
abbrev enumO (i : Addr) : Obj := { cls := .type "enumerate", data := .fields #[.none, .bool false, .ref i, rawInt 0, .none, .none] }
open AutoSeq1 (wpAny_loadPart') in
theorem meets_enumT (t : Addr) (items : Array Value) (n : Nat) (dd : Option Addr) (sl : Array (Option Value)) :
    Meets (Builtin.«enumerate.__new__» ⟨[.type "enumerate", .ref t], []⟩) (fun _ R s => s.heap.get? t = some { cls := .type "tuple", dict := dd, data := .seq items n, slots := sl } ∧
      R (.ok (.ret (.ref (s.heap.push (tupItO t)).objs.size))) { s with heap := (s.heap.push (tupItO t)).push (enumO s.heap.objs.size) }) :=
  .of_wp fun prog w A R s h => by
    obtain ⟨hp, g, d, tk, os⟩ := s; obtain ⟨hl, h⟩ := h
    have sb := sub_enumerate
    have hT : Heap.IsTuple (Shared.heap ⟨hp, g, d, tk, os⟩) t items := ⟨_, hl, rfl, n, rfl⟩
    wp_walk using wpAny_loadPart' hl
    refine wpAny_stack_any fun _ => wpAny_pure ?_; split
    · rename_i c _ _ _ _ _; cases (c == Value.type "enumerate") <;> (wp_walk using wpAny_loadPart' hl, wpAny_pyIter_tuple hT; exact ⟨_, rfl, h⟩)
    · wp_walk using wpAny_loadPart' hl, wpAny_pyIter_tuple hT; exact ⟨_, rfl, h⟩
theorem call_enumT {prog : Program} {w : World} {A : Around} {E : Value → Shared → Prop} {s : Shared} {t : Addr} {items : Array Value} {Q : Value → Shared → Prop} (hT : s.heap.IsTuple t items)
    (h : ∀ h', IsEnum h' (s.heap.objs.size + 1) s.heap.objs.size 0 .none → h'.IsTupleIter s.heap.objs.size t 0 → (∀ b o, s.heap.get? b = some o → h'.get? b = some o) → Q (.ref (s.heap.objs.size + 1)) { s with heap := h' }) :
    wpAny (model prog w) A (call (.type "enumerate") [.ref t]) Q E s := by
  obtain ⟨⟨c, dd, dt, sl⟩, hl, hc, n, hd⟩ := hT
  obtain rfl : c = .type "tuple" := hc
  obtain rfl : dt = .seq items n := hd
  refine callType_new F.called_enumerate (by decide) (F.typeCall_enumerate_1 _) (F.newCall_enumerate_1 _) (fun ob => F.args_object_init_2 ob _) F.entry_enumerate_new (meets_enumT t items n dd sl) ⟨hl, ?_⟩
  have hz : (s.heap.push (tupItO t)).objs.size = s.heap.objs.size + 1 := Heap.size_push ..
  have he : IsEnum ((s.heap.push (tupItO t)).push (enumO s.heap.objs.size)) (s.heap.objs.size + 1) s.heap.objs.size 0 .none := by
    have q := Heap.get?_push_size (s.heap.push (tupItO t)) (o := enumO s.heap.objs.size) rfl
    rw [hz] at q; exact q
  show _ ∧ _
  rw [hz]
  exact ⟨⟨_, he, rfl⟩, h _ he ⟨_, Heap.get?_push_of_some _ (Heap.get?_push_size _ rfl), rfl, rfl⟩ fun b o x => Heap.get?_push_of_some _ (Heap.get?_push_of_some _ x)⟩
/-- each item of the tuple at a in a new pair -/
def Iet (K : PySem.W.Frag) (a : Addr) : It :=
  ⟨fun i H => ∃ (xs : List V) (x : V), SqT K H a xs ∧ xs[i]? = some x, fun i H v H' => ∃ q x, v = .ref q ∧ H q = none ∧ H' = upd H q (.tup [.int (i : Nat), x]) ∧ ∀ xs, SqT K H a xs → xs[i]? = some x, fun i H => ∃ xs : List V, SqT K H a xs ∧ xs.length = i⟩
theorem turn_enumT {P : Program} {w : World} {K : PySem.W.Frag} {elts : List Expr} {kk : Nat} {tpos : Pos} (a e it : Addr) :
    Turn P w K (.Tuple elts kk tpos) (Iet K a) [e, it] e (fun i h => (∃ old, IsEnum h e it ((i : Nat) : Int) old) ∧ h.IsTupleIter it a i ∧ e ≠ it ∧ e ≠ a ∧ it ≠ a) where
  mem := by simp
  obj := fun i h st b hb => by
    obtain ⟨⟨old, he⟩, ⟨o, ho, hc, hd⟩, _⟩ := st
    rcases (show b = e ∨ b = it by simpa using hb) with rfl | rfl
    · exact ⟨_, he, fun v q => nomatch q⟩
    · exact ⟨o, ho, fun v q => by rw [hd] at q; cases q⟩
  keep := fun i h h' ⟨⟨old, he⟩, hi, hn⟩ k => ⟨⟨old, k e (by simp) _ he⟩, hi.at fun o q => k it (by simp) o q, hn⟩
  item := by
    intro X hP hw hK hc i pins s σ H E I hf ⟨⟨old, he⟩, hit, hne, nea, nia⟩ hg
    subst hP hw hK
    obtain ⟨xs, x, hq, hx⟩ := hg
    obtain ⟨its, rv, p, hz⟩ := I.tuple hq
    obtain ⟨u, hu, ru⟩ := rv.get hx
    have hel : e < s.heap.objs.size := Heap.lt_size he
    have hil : it < s.heap.objs.size := by obtain ⟨_, q, _⟩ := hit; exact Heap.lt_size q
    have hlen : i < its.length := (List.getElem?_eq_some_iff.mp hu).1
    have hT : s.heap.IsTuple a its.toArray := p
    refine wpAny_pyNext_enum_itemD (Draws.tuple (by first | exact I.ok.hd hc | (simpa using I.ok.hd hc)) it a (Ne.symm nia) its.toArray) he ⟨hit, hT⟩ (by simpa using hlen) hne (by simp [hne, nea]) fun y h' tk hy ho hst hT2 hsz hk => ?_
    have hyu : y = u := by
      have : its[i]? = some y := by simpa using hy
      rw [hu] at this; exact (Option.some.inj this).symm
    subst hyu
    refine ⟨_, rfl, wpAny_letOwnedTupleGo_enum (s := { s with heap := h', toks := tk + 1 }) ho fun h'' he' sb => ?_⟩
    have hT3 : h''.get? s.heap.objs.size = some { cls := .type "tuple", data := .seq #[.int i tk, y] } := (sb.2 _ (Nat.ne_of_gt hel)).trans hT2
    have nw : ObjOk X.prog X.w (upd H s.heap.objs.size (.tup [.int (i : Nat), x])) h'' s.heap.objs.size (.tup [.int (i : Nat), x]) :=
      ⟨by show 2 ≤ sizeLine; decide, [.int i tk, y], .cons ⟨_, rfl⟩ (.cons ru .nil), ⟨_, hT3, rfl, _, rfl⟩⟩
    have I1 : Inv X pins σ (upd H s.heap.objs.size (.tup [.int (i : Nat), x])) { s with heap := h'', toks := tk + 1 } :=
      I.turnedNew (ch := [e, it]) (fun b ob hb q => (sb.2 b (fun z => hb (by simp [z]))).trans (hk b ob (fun z => hb (by simp [z])) (fun z => hb (by simp [z])) q)) hf (Nat.le_refl _) nw
    refine ⟨.ref s.heap.objs.size, _, I1, rfl, ⟨_, x, rfl, I.hok.fresh (Nat.le_refl _), rfl, fun ys hy => by rw [I.tuple_inj hy hq]; exact hx⟩, ⟨⟨y, ?_⟩, hst.1.at fun o q => (sb.2 it (Ne.symm hne)).trans q, hne, nea, nia⟩, fun b hb => ?_⟩
    · rw [show ((i + 1 : Nat) : Int) = (i : Int) + 1 by omega]; exact he'
    · have hb' : b < s.heap.objs.size := by
        rcases (show b = e ∨ b = it by simpa using hb) with z | z <;> (rw [z]; assumption)
      rw [upd_ne (Nat.ne_of_lt hb')]; exact (hf b hb).1
  done := by
    intro X hP hw hK hc i pins s σ H E I hf ⟨⟨old, he⟩, hit, hne, nea, nia⟩ hg
    subst hP hw hK
    obtain ⟨xs, hq, hx⟩ := hg
    obtain ⟨its, rv, p, hz⟩ := I.tuple hq
    obtain ⟨f0, f1, f2, f3, f4, f5⟩ := hf it (by simp)
    have hl := rv.length
    have hT : s.heap.IsTuple a its.toArray := p
    have ei : i = its.toArray.size := by simp; omega
    refine wpAny_pyNext_enum_endD (Draws.tuple (by first | exact I.ok.hd hc | (simpa using I.ok.hd hc)) it a (Ne.symm nia) its.toArray) he ?_ fun h' eb => ⟨rfl, I.turned (t' := s.toks) (fun b o hb q => eb b o hb q) f0 f1 f3 f4 f5⟩
    rw [← ei]; exact ⟨hit, hT⟩
  self := fun A i s Q E ⟨⟨_, he⟩, _⟩ h => wpAny_pyIter_enum he h
section
variable {X : Cx} {T : Tx} {π : Nat → Option Pin} {W : WX} {a b c e o l : Expr} {es : List Expr} {pos p tpos : Pos} {m ma mb mc : Mi Dt} {ms : Mi (List Dt)} {A A' : Addr → Prop} {F H F' H' F0 H0 : Hp} {σ : L2.St} {ρ : En} {tg : Expr} {elts : List Expr} {kk : Nat}
/-- a list or a tuple, walked; the same in pairs with the number -/
def iSeq (K : PySem.W.Frag) (tl : TE) : TI := fun σ H R => tl σ H fun x H1 => ∃ a, x = .ref a ∧ (((∃ xs, SqL K H1 a xs) ∧ R (Itl K a) H1) ∨ ((∃ xs, SqT K H1 a xs) ∧ R (Itt K a) H1))
theorem pi_seq {tl : TE} (hl : PE X l tl) : PI X tg l (iSeq X.K tl) := ⟨fun pins s σ H R I h => by
  refine thn (hl.run pins s σ H _ I h) fun v s1 ⟨x, H1, I1, r1, a, e, q1⟩ => ?_
  subst e
  cases r1
  rcases q1 with ⟨⟨xs, hq⟩, q⟩ | ⟨⟨xs, hq⟩, q⟩
  · obtain ⟨its, rv, pl, hz⟩ := I1.list hq
    refine wpAny_pyIter_list pl.isList ⟨s1.heap.objs.size, [s1.heap.objs.size], _, _, H1, rfl, I1.kept (t' := s1.toks) fun b o e => Heap.get?_push_of_some _ e, turn_list a _, ⟨_, Heap.get?_push_size _ rfl, rfl, rfl⟩, fun b hb => ?_, q⟩
    obtain rfl : b = s1.heap.objs.size := by simpa using hb
    exact I1.fpOk (Nat.le_refl _) (I1.hok.fresh (Nat.le_refl _))
  · obtain ⟨its, rv, pl, hz⟩ := I1.tuple hq
    refine wpAny_pyIter_tuple (show s1.heap.IsTuple a its.toArray from pl) ⟨s1.heap.objs.size, [s1.heap.objs.size], _, _, H1, rfl, I1.kept (t' := s1.toks) fun b o e => Heap.get?_push_of_some _ e, turn_tuple a _, ⟨_, Heap.get?_push_size _ rfl, rfl, rfl⟩, fun b hb => ?_, q⟩
    obtain rfl : b = s1.heap.objs.size := by simpa using hb
    exact I1.fpOk (Nat.le_refl _) (I1.hok.fresh (Nat.le_refl _))⟩
def iEnumA (K : PySem.W.Frag) (ta : TA) : TI := fun σ H R => ta σ H fun vs H1 => ∃ a, vs = [.ref a] ∧ (((∃ xs, SqL K H1 a xs) ∧ R (Ite K a) H1) ∨ ((∃ xs, SqT K H1 a xs) ∧ R (Iet K a) H1))
theorem pi_enumA {ta : TA} (hg : Gl X "enumerate") (hm : X.mg "enumerate" = none) (ha : PA X [e] ta) (hs : starEach [e] X.env = [(false, eval e X.env)] := by rfl) :
    PI X (.Tuple elts kk tpos) (.Call (.Name "enumerate" p) [e] [] pos) (iEnumA X.K ta) := ⟨fun pins s σ H R I h => by
  refine Call_ (ld_blt I hg hm boot_enumerate (PyProof.Rows.callWith_type1 (thn (ha.run pos pins s σ H _ I h) fun us s1 ⟨vs, H1, I1, r1, a, ex, q1⟩ => ?_) hs rfl))
  subst ex
  cases r1 with
  | cons r rr =>
    cases rr
    cases r
    have fp : ∀ b, b ∈ [s1.heap.objs.size + 1, s1.heap.objs.size] → FpOk X pins H1 b := fun b hb => by
      have hle : s1.heap.objs.size ≤ b := by
        rcases (show b = s1.heap.objs.size + 1 ∨ b = s1.heap.objs.size by simpa using hb) with z | z <;> omega
      exact I1.fpOk hle (I1.hok.fresh hle)
    rcases q1 with ⟨⟨xs, hq⟩, q⟩ | ⟨⟨xs, hq⟩, q⟩
    · obtain ⟨its, rv, p', hz⟩ := I1.list hq
      refine call_enumerate_list p'.isList fun h' he hit hsz hk => wpAny_pyIter_enum he ⟨s1.heap.objs.size + 1, [s1.heap.objs.size + 1, s1.heap.objs.size], _, _, H1, rfl, I1.kept (t' := s1.toks) hk, turn_enum a _ _, ⟨⟨.none, he⟩, hit, Nat.succ_ne_self _⟩, fp, q⟩
    · obtain ⟨its, rv, p', hz⟩ := I1.tuple hq
      have ha : a < s1.heap.objs.size := by obtain ⟨o, ho, _⟩ := p'; exact Heap.lt_size ho
      refine call_enumT (show s1.heap.IsTuple a its.toArray from p') fun h' he hit hk => wpAny_pyIter_enum he ⟨s1.heap.objs.size + 1, [s1.heap.objs.size + 1, s1.heap.objs.size], _, _, H1, rfl, I1.kept (t' := s1.toks) hk, turn_enumT a _ _, ⟨⟨.none, he⟩, hit, Nat.succ_ne_self _, Nat.ne_of_gt (Nat.lt_succ_of_lt ha), Nat.ne_of_gt ha⟩, fp, q⟩⟩
end
end Dl
namespace Dl
open PySem PySem.Spec PyProof.Rows L2
section
variable {X : Cx} {T : Tx} {π : Nat → Option Pin} {W : WX} {a b c e o l : Expr} {es : List Expr} {pos p tpos : Pos} {m ma mb mc : Mi Dt} {ms : Mi (List Dt)} {A A' : Addr → Prop} {F H F' H' F0 H0 : Hp} {σ : L2.St} {ρ : En} {tg : Expr} {elts : List Expr} {kk : Nat}
/-! ### what is walked -/
theorem wk_list {a : Addr} {vs : List V} {ds : List Dt} (h : SqL T.K F a vs) (r : Reps T F vs ds) : Wk T (Itl T.K a) ds F where
  goes := fun i H hi le => ⟨vs, vs[i]'(by rw [r.length]; exact hi), sql_mono le h, by simp [r.length, hi]⟩
  stops := fun H le => ⟨vs, sql_mono le h, by rw [r.length]; exact Nat.le_refl _⟩
  yields := fun i H x H' d hd le y => by
    obtain ⟨e, y⟩ := y
    obtain ⟨v, h1, h2⟩ := r.get hd
    rw [y vs (sql_mono le h)] at h1
    cases h1
    exact .inl ⟨e, h2⟩
theorem wk_tup {a : Addr} {vs : List V} {ds : List Dt} (h : SqT T.K F a vs) (r : Reps T F vs ds) : Wk T (Itt T.K a) ds F where
  goes := fun i H hi le => ⟨vs, vs[i]'(by rw [r.length]; exact hi), sqt_mono le h, by simp [r.length, hi]⟩
  stops := fun H le => ⟨vs, sqt_mono le h, by rw [r.length]; exact Nat.le_refl _⟩
  yields := fun i H x H' d hd le y => by
    obtain ⟨e, y⟩ := y
    obtain ⟨v, h1, h2⟩ := r.get hd
    rw [y vs (sqt_mono le h)] at h1
    cases h1
    exact .inl ⟨e, h2⟩
def enumD (k : Nat) : List Dt → List Dt
  | [] => []
  | d :: ds => .tup [.int k, d] :: enumD (k + 1) ds
theorem enumD_len : ∀ (k : Nat) (ds : List Dt), (enumD k ds).length = ds.length
  | _, [] => rfl
  | k, d :: ds => by unfold enumD; rw [List.length_cons, enumD_len, List.length_cons]
theorem enumD_get : ∀ (k : Nat) (ds : List Dt) (i : Nat) (d : Dt), (enumD k ds)[i]? = some d → ∃ x, ds[i]? = some x ∧ d = .tup [.int ((k + i : Nat) : Int), x]
  | _, [], _, _, h => by simp [enumD] at h
  | k, x :: ds, 0, d, h => by simp [enumD] at h; exact ⟨x, rfl, by rw [← h]; rfl⟩
  | k, x :: ds, i + 1, d, h => by
    obtain ⟨y, h1, h2⟩ := enumD_get (k + 1) ds i d (by simpa [enumD] using h)
    exact ⟨y, by simpa using h1, by rw [h2, show k + 1 + i = k + (i + 1) by omega]⟩
theorem wk_enumL {a : Addr} {vs : List V} {ds : List Dt} (h : SqL T.K F a vs) (r : Reps T F vs ds) : Wk T (Ite T.K a) (enumD 0 ds) F where
  goes := fun i H hi le => ⟨vs, vs[i]'(by rw [r.length, ← enumD_len 0]; exact hi), sql_mono le h, by rw [enumD_len] at hi; simp [r.length, hi]⟩
  stops := fun H le => ⟨vs, sql_mono le h, by rw [r.length, enumD_len]; exact Nat.le_refl _⟩
  yields := fun i H x H' d hd le y => by
    obtain ⟨q, w, e1, e2, e3, y⟩ := y
    obtain ⟨z, h1, h2⟩ := enumD_get 0 ds i d hd
    obtain ⟨v, h3, h4⟩ := r.get h1
    rw [y vs (sql_mono le h)] at h3
    cases h3
    exact .inr ⟨q, [.int (i : Nat), w], _, e2, e3, e1, .cons (.int _) (.cons h4 .nil), by rw [h2, Nat.zero_add]⟩
theorem wk_enumT {a : Addr} {vs : List V} {ds : List Dt} (h : SqT T.K F a vs) (r : Reps T F vs ds) : Wk T (Iet T.K a) (enumD 0 ds) F where
  goes := fun i H hi le => ⟨vs, vs[i]'(by rw [r.length, ← enumD_len 0]; exact hi), sqt_mono le h, by rw [enumD_len] at hi; simp [r.length, hi]⟩
  stops := fun H le => ⟨vs, sqt_mono le h, by rw [r.length, enumD_len]⟩
  yields := fun i H x H' d hd le y => by
    obtain ⟨q, w, e1, e2, e3, y⟩ := y
    obtain ⟨z, h1, h2⟩ := enumD_get 0 ds i d hd
    obtain ⟨v, h3, h4⟩ := r.get h1
    rw [y vs (sqt_mono le h)] at h3
    cases h3
    exact .inr ⟨q, [.int (i : Nat), w], _, e2, e3, e1, .cons (.int _) (.cons h4 .nil), by rw [h2, Nat.zero_add]⟩
def rngD (lo : Int) : Nat → List Dt
  | 0 => []
  | n + 1 => .int lo :: rngD (lo + 1) n
theorem rngD_len : ∀ (lo : Int) (n : Nat), (rngD lo n).length = n
  | _, 0 => rfl
  | lo, n + 1 => by unfold rngD; rw [List.length_cons, rngD_len]
theorem rngD_get : ∀ (lo : Int) (n i : Nat) (d : Dt), (rngD lo n)[i]? = some d → d = .int (lo + i)
  | _, 0, _, _, h => by simp [rngD] at h
  | lo, n + 1, 0, d, h => by simp [rngD] at h; rw [← h]; simp
  | lo, n + 1, i + 1, d, h => by
    have := rngD_get (lo + 1) n i d (by simpa [rngD] using h)
    rw [this, show lo + 1 + (i : Int) = lo + ((i + 1 : Nat) : Int) by omega]
theorem wk_rng (lo : Int) (n : Nat) : Wk T (Itr lo n) (rngD lo n) F where
  goes := fun i H hi le => by rw [rngD_len] at hi; exact hi
  stops := fun H le => by rw [rngD_len]; exact Nat.le_refl _
  yields := fun i H x H' d hd le y => by
    obtain ⟨e, y⟩ := y
    rw [rngD_get lo n i d hd, y]
    exact .inl ⟨e, .int _⟩
def mSeqI (m : Mi Dt) : Mi (List Dt) := mBind m fun d => match d with
  | .scr ns => mPure (ns.map .int)
  | .lst xs => mPure xs
  | .tup xs => mPure xs
  | _ => mBad
theorem di_seq (hK : X.K = T.K) (h : PE X l (TMe T π W m)) : PI X tg l (TMi T π W (mSeqI m)) := (pi_seq h).imp fun σ H R ⟨A, F, ρ, k, p⟩ => ⟨A, F, ρ, k, p.bind.imp fun d ρ1 F1 H1 k1 r1 p1 v rv => by
  rw [hK]
  cases d with
  | lst xs =>
    cases rv with
    | lst h r => exact ⟨_, rfl, .inl ⟨⟨_, SqL.of (k1.le _ _ h)⟩, p1.pure k1 _ (wk_list (SqL.of h) r)⟩⟩
  | scr ns =>
    cases rv with
    | scr h => exact ⟨_, rfl, .inl ⟨⟨_, sql_mono k1.le h⟩, p1.pure k1 _ (wk_list h (ints_reps ns))⟩⟩
  | tup xs =>
    obtain ⟨a, vs, e1, h, r⟩ := rv.tup_inv
    exact ⟨a, e1, .inr ⟨⟨_, sqt_mono k1.le h⟩, p1.pure k1 _ (wk_tup h r)⟩⟩
  | _ => exact p1.elim⟩
def mEnumI (m : Mi Dt) : Mi (List Dt) := mBind m fun d => match d with
  | .lst xs => mPure (enumD 0 xs)
  | .tup xs => mPure (enumD 0 xs)
  | _ => mBad
theorem di_enum (hK : X.K = T.K) (hg : Gl X "enumerate") (hm : X.mg "enumerate" = none) (h : PE X e (TMe T π W m)) (hs : starEach [e] X.env = [(false, eval e X.env)] := by rfl) :
    PI X (.Tuple elts kk tpos) (.Call (.Name "enumerate" p) [e] [] pos) (TMi T π W (mEnumI m)) := (pi_enumA hg hm (pa_cons h pa_nil hs) hs).imp fun σ H R ⟨A, F, ρ, k, p⟩ => ⟨A, F, ρ, k, p.bind.imp fun d ρ1 F1 H1 k1 r1 p1 v rv => by
  rw [hK]
  cases d with
  | lst xs =>
    cases rv with
    | lst h r => exact ⟨_, rfl, .inl ⟨⟨_, SqL.of (k1.le _ _ h)⟩, p1.pure k1 _ (wk_enumL (SqL.of h) r)⟩⟩
  | tup xs =>
    obtain ⟨a, vs, e1, h, r⟩ := rv.tup_inv
    exact ⟨a, by rw [e1], .inr ⟨⟨_, sqt_mono k1.le h⟩, p1.pure k1 _ (wk_enumT h r)⟩⟩
  | _ => exact p1.elim⟩
def mRng1 (ms : Mi (List Dt)) : Mi (List Dt) := mBind ms fun ds => match ds with
  | [.int j] => if -(2 ^ 62) ≤ j ∧ j < 2 ^ 62 then mPure (rngD 0 j.toNat) else mBad
  | _ => mBad
theorem di_rng1 (hg : Gl X "range") (hm : X.mg "range" = none) (h : PA X [a] (TMa T π W ms)) (hs : starEach [a] X.env = [(false, eval a X.env)] := by rfl) : PI X tg (.Call (.Name "range" p) [a] [] pos) (TMi T π W (mRng1 ms)) :=
  (pi_range1 hg hm h hs).imp fun σ H R ⟨A, F, ρ, k, p⟩ => ⟨A, F, ρ, k, p.bind.imp fun ds ρ1 F1 H1 k1 r1 p1 vs rvs => by
    split at p1
    · split at p1
      · rename_i hj
        cases rvs with
        | cons h r =>
          cases r
          exact ⟨_, by rw [h.int_inv], hj.1, hj.2, p1.pure k1 _ (wk_rng 0 _)⟩
      · exact p1.elim
    · exact p1.elim⟩
/-! ### isinstance against built-in classes -/
inductive Ty5 where
  | int | bool | str | list | tuple
def Ty5.nm : Ty5 → String
  | .int => "int" | .bool => "bool" | .str => "str" | .list => "list" | .tuple => "tuple"
def tyD : Dt → Option String
  | .non => some "NoneType" | .bl _ => some "bool" | .int _ => some "int" | .str _ => some "str" | .lst _ => some "list" | .scr _ => some "list" | .tup _ => some "tuple" | .dic _ _ _ => some "dict" | _ => none
def isD (n : Ty5) : Dt → Option Bool
  | .non => some false
  | .bl _ => some (match n with | .int => true | .bool => true | _ => false)
  | .int _ => some (match n with | .int => true | _ => false)
  | .str _ => some (match n with | .str => true | _ => false)
  | .lst _ => some (match n with | .list => true | _ => false)
  | .scr _ => some (match n with | .list => true | _ => false)
  | .tup _ => some (match n with | .tuple => true | _ => false)
  | .dic _ _ _ => some false
  | _ => none
theorem isD_kit (n : Ty5) (d : Dt) (t : String) (b : Bool) (h1 : tyD d = some t) (h2 : isD n d = some b) : kitB t n.nm = some b := by
  cases d <;> cases h1 <;> cases h2 <;> cases n <;> decide +kernel
theorem RepS.tyX {v : V} {d : Dt} {t : String} (le : Le F H) (r : RepS T F H v d) (h : tyD d = some t) : TyX T.K H v (.type t) := by
  have lst : ∀ {a : Addr} {vs : List V}, SqL T.K H a vs → TyX T.K H (.ref a) (.type "list") := fun q => by
    rcases q with (q | ⟨o, q⟩) | ⟨o, its, n, q, c, _⟩
    · exact .base (.lst q)
    · exact .base (.frz q)
    · exact .kList q c
  have tup : ∀ {a : Addr} {vs : List V}, SqT T.K H a vs → TyX T.K H (.ref a) (.type "tuple") := fun q => by
    rcases q with (q | ⟨o, q⟩) | ⟨o, its, n, q, c, _⟩
    · exact .base (.tup q)
    · exact .fTuple q
    · exact .kTuple q c
  rcases r with r | ⟨a, e, ho⟩
  · cases r <;> cases h
    · exact .base .non
    · exact .base (.bl _)
    · exact .base (.int _)
    · exact .base (.str _)
    · rename_i q; exact lst (sql_mono le q)
    · rename_i q _; exact .base (.lst (le _ _ q))
    · rename_i q _; exact .base (.tup (le _ _ q))
    · rename_i q; exact tup (sqt_mono le q)
    · rename_i q _ _; exact .base (.dK (le _ _ q))
    · rename_i q _ _; exact .base (.dT (le _ _ q))
  · subst e
    cases d with
    | lst ds => cases h; obtain ⟨vs, q, _⟩ := ho; exact .base (.lst q)
    | dic t ks ds =>
      cases h
      cases t with
      | false => obtain ⟨kk, vs, q, _⟩ := ho; exact .base (.dK q)
      | true => obtain ⟨kk, vs, q, _⟩ := ho; exact .base (.dT q)
    | ins c ds => cases h
    | deal cs bl => cases h
    | _ => exact ho.elim
theorem isD_ty {n : Ty5} {d : Dt} {b : Bool} (h : isD n d = some b) : ∃ t, tyD d = some t := by
  cases d <;> first | exact ⟨_, rfl⟩ | cases h
def fIsi (n : Ty5) (d : Dt) : Option Dt := (isD n d).map .bl
theorem de_isi (hK : X.K = T.K) (n : Ty5) (h : PE X e (tCB (rIsi X.K) (tCons (TMp T π W m) (tCons (tC (.ty n.nm)) tNil)))) : PE X e (TMe T π W (m1 (fIsi n) m)) := h.imp fun σ H Q ⟨A, F, ρ, k, p⟩ => ⟨A, F, ρ, k, p.bind.imp fun d ρ1 F1 H1 k1 r1 p1 v rv => by
  obtain ⟨z, ez, p2⟩ := p1.opt
  unfold fIsi at ez
  cases hb : isD n d with
  | none => rw [hb] at ez; cases ez
  | some b =>
    rw [hb] at ez
    cases ez
    obtain ⟨t, ht⟩ := isD_ty hb
    exact ⟨v, .ty n.nm, .type t, .type n.nm, b, rfl, .ty _, by rw [hK]; exact rv.tyX k1.le ht, kit_ty (isD_kit n d t b ht hb), p2.pure k1 _ (.bl _)⟩⟩
def fIsi2 (n n' : Ty5) (d : Dt) : Option Dt := match isD n d, isD n' d with
  | some a, some b => some (.bl (a || b))
  | _, _ => none
theorem RepS.grow {v : V} {d : Dt} (r : RepS T F H v d) (hf : Le F F') (hh : ∀ a o, H a = some o → H' a = some o) : RepS T F' H' v d := by
  rcases r with r | ⟨a, e, ho⟩
  · exact .inl (r.mono hf)
  · exact .inr ⟨a, e, ho.mono hf fun x _ o q => hh x o q⟩
theorem de_isi2 (hK : X.K = T.K) (n n' : Ty5) (h : PE X e (tCB (rIsiT X.K) (tCons (TMp T π W m) (tCons (tTup (tCons (tC (.ty n.nm)) (tCons (tC (.ty n'.nm)) tNil))) tNil)))) : PE X e (TMe T π W (m1 (fIsi2 n n') m)) := h.imp fun σ H Q ⟨A, F, ρ, k, p⟩ => ⟨A, F, ρ, k, p.bind.imp fun d ρ1 F1 H1 k1 r1 p1 v rv => by
  obtain ⟨z, ez, p2⟩ := p1.opt
  unfold fIsi2 at ez
  cases hb : isD n d with
  | none => rw [hb] at ez; cases ez
  | some b =>
    cases hb2 : isD n' d with
    | none => rw [hb, hb2] at ez; cases ez
    | some b2 =>
      rw [hb, hb2] at ez
      cases ez
      obtain ⟨t, ht⟩ := isD_ty hb
      refine ⟨by show 2 ≤ sizeLine; decide, fun q hq => ?_⟩
      have rv2 : RepS T F1 (upd H1 q (.tup [.ty n.nm, .ty n'.nm])) v d := rv.grow (le_refl F1) (le_new hq)
      refine ⟨v, q, _, .type t, [.type n.nm, .type n'.nm], b || b2, rfl, upd_same, .cons (.ty _) (.cons (.ty _) .nil), by rw [hK]; exact rv2.tyX (le_trans k1.le (le_new hq)) ht, ?_, p2 F1 _ (k1.newO hq) (.newO hq) _ (.bl _)⟩
      refine kitAny_cons (kit_ty (isD_kit n d t b ht hb)) (fun z => ?_) (fun z => by rw [z]; rfl)
      refine kitAny_cons (kit_ty (isD_kit n' d t b2 ht hb2)) (fun z2 => ?_) (fun z2 => by rw [z, z2]; rfl)
      rw [z, z2]
      exact kitAny_nil⟩
/-! ### dicts -/
def keyEq : Dt → Dt → Bool
  | .int i, .int j => i == j
  | .str x, .str y => x == y
  | _, _ => false
def keysEq : List Dt → List Dt → Bool
  | [], [] => true
  | x :: xs, y :: ys => keyEq x y && keysEq xs ys
  | _, _ => false
def keyEqT : Dt → Dt → Bool
  | .tup xs, .tup ys => keysEq xs ys
  | _, _ => false
theorem keyEq_k (k k' : Key) : keyEq (kD k) (kD k') = decide (k = k') := by
  cases k with
  | inl i =>
    cases k' with
    | inl j => unfold kD keyEq; rw [key_ll]
    | inr y => rw [key_lr]; rfl
  | inr x =>
    cases k' with
    | inl j => rw [key_rl]; rfl
    | inr y =>
      unfold kD keyEq
      rw [key_rr]
      by_cases h : x = y
      · subst h; simp
      · simp [h]
theorem keysEq_k : ∀ (ks ks' : List Key), keysEq (ks.map kD) (ks'.map kD) = decide (ks = ks')
  | [], [] => rfl
  | [], _ :: _ => rfl
  | _ :: _, [] => rfl
  | k :: ks, k' :: ks' => by
    show (keyEq (kD k) (kD k') && keysEq (ks.map kD) (ks'.map kD)) = _
    rw [keyEq_k, keysEq_k]
    by_cases h1 : k = k' <;> by_cases h2 : ks = ks' <;> simp [h1, h2]
/-- keys of one kind: how they stand as data -/
def dLook (q : Dt → Dt → Bool) (x : Dt) : List Dt → List Dt → Option Dt
  | k :: ks, d :: ds => if q k x then some d else dLook q x ks ds
  | _, _ => none
def dRep (q : Dt → Dt → Bool) (x y : Dt) : List Dt → List Dt → List Dt
  | k :: ks, d :: ds => (if q k x then y else d) :: dRep q x y ks ds
  | _, _ => []
def dPut (q : Dt → Dt → Bool) (x y : Dt) (ks ds : List Dt) : List Dt × List Dt := if ks.any (fun k => q k x) then (ks, dRep q x y ks ds) else (ks ++ [x], ds ++ [y])
variable {κ : Type} [DecidableEq κ] {emb : κ → Dt} {q : Dt → Dt → Bool}
theorem look_ok (hq : ∀ k k', q (emb k) (emb k') = decide (k = k')) (x : κ) : ∀ {kk : List κ} {vs : List V} {ds : List Dt}, kk.length = vs.length → Reps T F vs ds →
    (∀ v, valV (kk.zip vs) x = some v → ∃ d, dLook q (emb x) (kk.map emb) ds = some d ∧ Rep T F v d) ∧ (valV (kk.zip vs) x = none → dLook q (emb x) (kk.map emb) ds = none)
  | [], vs, ds, hl, r => by
    cases vs with
    | nil => cases r; exact ⟨fun v h => (by cases h), fun _ => rfl⟩
    | cons _ _ => cases hl
  | k :: kk, vs, ds, hl, r => by
    cases r with
    | nil => cases hl
    | @cons v vs d ds h1 h2 =>
      have ih := look_ok hq x (kk := kk) (by simpa using hl) h2
      by_cases e : k = x
      · refine ⟨fun w h => ?_, fun h => ?_⟩
        · rw [List.zip_cons_cons, valV_pos e] at h
          cases h
          refine ⟨d, ?_, h1⟩
          show (if q (emb k) (emb x) then some d else _) = some d
          rw [hq, decide_eq_true e]; rfl
        · rw [List.zip_cons_cons, valV_pos e] at h
          cases h
      · rw [List.zip_cons_cons, valV_neg e]
        have e2 : dLook q (emb x) ((k :: kk).map emb) (d :: ds) = dLook q (emb x) (kk.map emb) ds := by
          show (if q (emb k) (emb x) then some d else _) = _
          rw [hq, decide_eq_false e]; rfl
        rw [e2]
        exact ih
theorem zip_any (hq : ∀ k k', q (emb k) (emb k') = decide (k = k')) (x : κ) : ∀ {kk : List κ} {vs : List V}, kk.length = vs.length → ((kk.zip vs).any fun kv => decide (kv.1 = x)) = (kk.map emb).any fun k => q k (emb x)
  | [], [], _ => rfl
  | k :: kk, v :: vs, h => by
    rw [List.zip_cons_cons, List.any_cons, List.map_cons, List.any_cons, hq, zip_any hq x (by simpa using h)]
  | [], _ :: _, h => by cases h
  | _ :: _, [], h => by cases h
theorem zip_rep (hq : ∀ k k', q (emb k) (emb k') = decide (k = k')) (x : κ) {y : V} {dy : Dt} (ry : Rep T F y dy) : ∀ {kk : List κ} {vs : List V} {ds : List Dt}, kk.length = vs.length → Reps T F vs ds →
    ∃ vs' : List V, (kk.zip vs).map (fun kv => if kv.1 = x then (kv.1, y) else kv) = kk.zip vs' ∧ kk.length = vs'.length ∧ Reps T F vs' (dRep q (emb x) dy (kk.map emb) ds)
  | [], [], _, _, r => by cases r; exact ⟨[], rfl, rfl, .nil⟩
  | [], _ :: _, _, h, _ => by cases h
  | _ :: _, [], _, h, _ => by cases h
  | k :: kk, v :: vs, _, h, r => by
    cases r with
    | @cons _ _ d ds h1 h2 =>
      obtain ⟨vs', e1, e2, e3⟩ := zip_rep hq x ry (kk := kk) (by simpa using h) h2
      refine ⟨(if k = x then y else v) :: vs', ?_, by simpa using e2, ?_⟩
      · rw [List.zip_cons_cons, List.map_cons, e1, List.zip_cons_cons]
        by_cases e : k = x <;> simp [e]
      · show Reps T F _ ((if q (emb k) (emb x) then dy else d) :: _)
        rw [hq]
        by_cases e : k = x
        · rw [if_pos e, decide_eq_true e]; exact .cons ry e3
        · rw [if_neg e, decide_eq_false e]; exact .cons h1 e3
theorem put_ok (hq : ∀ k k', q (emb k) (emb k') = decide (k = k')) (x : κ) {y : V} {dy : Dt} (ry : Rep T F y dy) {kk : List κ} {vs : List V} {ds : List Dt} (hl : kk.length = vs.length) (r : Reps T F vs ds) :
    ∃ (kk' : List κ) (vs' : List V), putK (kk.zip vs) x y = kk'.zip vs' ∧ kk'.length = vs'.length ∧ (dPut q (emb x) dy (kk.map emb) ds).1 = kk'.map emb ∧ Reps T F vs' (dPut q (emb x) dy (kk.map emb) ds).2 := by
  unfold putK dPut
  rw [zip_any hq x hl]
  by_cases h : ((kk.map emb).any fun k => q k (emb x)) = true
  · rw [if_pos h, if_pos h]
    obtain ⟨vs', e1, e2, e3⟩ := zip_rep hq x ry hl r
    exact ⟨kk, vs', e1, e2, rfl, e3⟩
  · rw [if_neg h, if_neg h]
    refine ⟨kk ++ [x], vs ++ [y], ?_, by simp [hl], by simp, r.append (.cons ry .nil)⟩
    rw [List.zip_append hl]; rfl
/-- a dict by its kind: ints and texts, or tuples of them -/
def keyOf : Bool → Dt → Option Dt
  | false, .int i => some (.int i)
  | false, .str x => some (.str x)
  | true, .tup xs => if (xs.all fun d => match d with | .int _ => true | .str _ => true | _ => false) && !xs.isEmpty then some (.tup xs) else none
  | _, _ => none
def kq : Bool → Dt → Dt → Bool
  | false => keyEq
  | true => keyEqT
theorem flat_keys : ∀ {xs : List Dt}, (xs.all fun d => match d with | .int _ => true | .str _ => true | _ => false) = true → ∃ ks : List Key, xs = ks.map kD
  | [], _ => ⟨[], rfl⟩
  | d :: xs, h => by
    rw [List.all_cons, Bool.and_eq_true_iff] at h
    obtain ⟨ks, e⟩ := flat_keys h.2
    cases d with
    | int i => exact ⟨.inl i :: ks, by rw [e]; rfl⟩
    | str x => exact ⟨.inr x :: ks, by rw [e]; rfl⟩
    | _ => cases h.1
theorem reps_keys : ∀ {ks : List Key} {vs : List V}, Reps T F vs (ks.map kD) → vs = ks.map kV
  | [], _, r => by cases r; rfl
  | k :: ks, _, r => by
    cases r with
    | cons h rs =>
      rw [reps_keys rs]
      cases k with
      | inl i => rw [Rep.int_inv h]; rfl
      | inr x => rw [Rep.str_inv h]; rfl
theorem keyEqT_k (k k' : List Key) : keyEqT (.tup (k.map kD)) (.tup (k'.map kD)) = decide (k = k') := keysEq_k k k'
/-- what a dict and a key give -/
def fDin : Dt → Dt → Option Dt
  | x, .dic t ks ds => (keyOf t x).map fun y => .bl (dLook (kq t) y ks ds).isSome
  | _, _ => none
theorem Rep.tup_ne {v : V} {ds : List Dt} (h : Rep T F v (.tup ds)) (hn : ds ≠ []) : ∃ a vs, v = .ref a ∧ F a = some (.tup vs) ∧ Reps T F vs ds := by
  cases h with
  | tup e r => exact ⟨_, _, rfl, e, r⟩
  | tup0 e => exact absurd rfl hn
theorem dget_of {t : Bool} {ks ds : List Dt} {v y : V} {x kx : Dt} (le : Le F H) (r : RepS T F H v (.dic t ks ds)) (ry : Rep T F y x) (hk : keyOf t x = some kx) :
    ∃ a o, v = .ref a ∧ DGet H a y o ∧ (∀ w, o = some w → ∃ d, dLook (kq t) kx ks ds = some d ∧ Rep T F w d) ∧ (o = none → dLook (kq t) kx ks ds = none) := by
  cases t with
  | false =>
    obtain ⟨a, kk, vs, e1, h1, h2, h3, h4⟩ := r.dicK_inv le
    subst h3
    have go : ∀ k : Key, x = kD k → y = kV k → kx = kD k → ∃ a o, v = V.ref a ∧ DGet H a y o ∧ (∀ w, o = some w → ∃ d, dLook (kq false) kx (kk.map kD) ds = some d ∧ Rep T F w d) ∧ (o = none → dLook (kq false) kx (kk.map kD) ds = none) := fun k e2 e3 e4 => by
      have l := look_ok (q := keyEq) (emb := kD) keyEq_k k h2 h4
      exact ⟨a, valV (kk.zip vs) k, e1, by rw [e3]; exact DGet.k h1, fun w hw => by rw [e4]; exact l.1 w hw, fun hn => by rw [e4]; exact l.2 hn⟩
    cases x with
    | int i => cases hk; exact go (.inl i) rfl ry.int_inv rfl
    | str z => cases hk; exact go (.inr z) rfl ry.str_inv rfl
    | _ => cases hk
  | true =>
    cases x with
    | tup xs =>
      unfold keyOf at hk
      dsimp only at hk
      split at hk
      · rename_i hx
        cases hk
        rw [Bool.and_eq_true_iff] at hx
        obtain ⟨k, ek⟩ := flat_keys hx.1
        subst ek
        obtain ⟨b, vy, eb, hb, rb⟩ := ry.tup_ne (fun z => by rw [z] at hx; exact absurd hx.2 (by decide))
        subst eb
        have ev := reps_keys rb
        subst ev
        rcases r with r | ⟨a, e1, kk, vs, h1, h2, h3, h4⟩
        · cases r with
          | dicT h l r =>
            have lk := look_ok (q := keyEqT) (emb := fun l => Dt.tup (l.map kD)) keyEqT_k k l r
            exact ⟨_, _, rfl, DGet.t (le _ _ h) (le _ _ hb), lk.1, lk.2⟩
        · subst h3
          have lk := look_ok (q := keyEqT) (emb := fun l => Dt.tup (l.map kD)) keyEqT_k k h2 h4
          exact ⟨a, _, e1, DGet.t h1 (le _ _ hb), lk.1, lk.2⟩
      · cases hk
    | _ => cases hk
def rDinS : R2 := fun y x H Q => ∃ a o, x = .ref a ∧ DGet H a y o ∧ Q (.bl o.isSome) H
def rDnotinS : R2 := fun y x H Q => ∃ a o, x = .ref a ∧ DGet H a y o ∧ Q (.bl (!o.isSome)) H
def fDnotin (x d : Dt) : Option Dt := match fDin x d with
  | some (.bl b) => some (.bl (!b))
  | _ => none
theorem fDin_go {v y : V} {x d z : Dt} (le : Le F H) (ry : Rep T F y x) (rv : RepS T F H v d) (ef : fDin x d = some z) : ∃ a o, v = .ref a ∧ DGet H a y o ∧ z = .bl o.isSome := by
  cases d with
  | dic t ks ds =>
    unfold fDin at ef
    dsimp only at ef
    cases hk : keyOf t x with
    | none => rw [hk] at ef; cases ef
    | some kx =>
      rw [hk] at ef
      cases ef
      obtain ⟨a, o, e1, h1, h2, h3⟩ := dget_of le rv ry hk
      refine ⟨a, o, e1, h1, ?_⟩
      show Dt.bl (dLook (kq t) kx ks ds).isSome = _
      cases o with
      | none => rw [h3 rfl]; rfl
      | some w => obtain ⟨d, e, _⟩ := h2 w rfl; rw [e]; rfl
  | _ => cases ef
/-- a comparison whose first operand may be kept -/
def OpE (T : Tx) (r : R2) (f : Dt → Dt → Option Dt) : Prop := ∀ (F H : Hp) (v w : V) (d e z : Dt) (Q : VK), Le F H → Rep T F v d → RepS T F H w e → f d e = some z → (∀ u, Rep T F u z → Q u H) → r v w H Q
theorem oe_din : OpE T rDinS fDin := fun F H v w d e z Q le rv rw ef q => by
  obtain ⟨a, o, e1, h1, e2⟩ := fDin_go le rv rw ef
  exact ⟨a, o, e1, h1, q _ (by rw [e2]; exact .bl _)⟩
theorem oe_dnotin : OpE T rDnotinS fDnotin := fun F H v w d e z Q le rv rw ef q => by
  unfold fDnotin at ef
  split at ef
  · rename_i b hb
    cases ef
    obtain ⟨a, o, e1, h1, e2⟩ := fDin_go le rv rw hb
    cases e2
    exact ⟨a, o, e1, h1, q _ (.bl _)⟩
  · cases ef
theorem dt_opE {r : R2} {f : Dt → Dt → Option Dt} (h : PT X e (tB (tOp r (TMe T π W ma) (TMp T π W mb)))) (hs : OpE T r f) : PT X e (TMt T π W (mB (m2 f ma mb))) := h.imp fun σ H Q ⟨A, F, ρ, k, p⟩ => by
  have p' := p.bind
  exact ⟨A, F, ρ, k, p'.bind.imp fun x ρ1 F1 H1 k1 r1 p1 v rv => ⟨A, F1, ρ1, k1, p1.bind.imp fun y ρ2 F2 H2 k2 r2 p2 w rw => by
    obtain ⟨z, e, p3⟩ := p2.opt
    refine hs F2 H2 v w x y z _ k2.le (rv.mono r2.f) rw e fun u ru => ?_
    have p4 := p3 F2 H2 k2 .refl
    cases z with
    | bl b => exact ⟨b, ru.bl_inv, p4.pure k2⟩
    | _ => exact p4.elim⟩⟩
theorem dt_din (hc : PC X .In a b (tDIn (TMe T π W ma) (TMp T π W mb))) (hm : behindInMarks .In b = false) : PT X (.Compare a [.In] [b] pos) (TMt T π W (mB (m2 fDin ma mb))) := dt_opE (pt_cmp hc hm) oe_din
theorem dt_dnotin (hc : PC X .NotIn a b (tDNotIn (TMe T π W ma) (TMp T π W mb))) (hm : behindInMarks .NotIn b = false) : PT X (.Compare a [.NotIn] [b] pos) (TMt T π W (mB (m2 fDnotin ma mb))) := dt_opE (pt_cmp hc hm) oe_dnotin
/-- {} -/
theorem dn_dnewK (h : PE X e tDNewK) : PE X e (TMn T π W (mPure (.dic false [] []))) := h.imp fun σ H Q ⟨A, F, ρ, k, p⟩ x hx => p F _ (k.newO hx) (.newO hx) x (f_none k.le hx) (k.fresh_new hx) hx ⟨[], [], upd_same, rfl, rfl, .nil⟩ (fun _ z => nomatch z)
theorem dn_dnewT (h : PE X e tDNewT) : PE X e (TMn T π W (mPure (.dic true [] []))) := h.imp fun σ H Q ⟨A, F, ρ, k, p⟩ x hx => p F _ (k.newO hx) (.newO hx) x (f_none k.le hx) (k.fresh_new hx) hx ⟨[], [], upd_same, rfl, rfl, .nil⟩ (fun _ z => nomatch z)
/-- d[x] = y, d a slot's own -/
def putD (i : Nat) (x y : Dt) : Mi Unit := fun ρ => match ρ[i]? with
  | some (some (.own io (.dic t ks ds))) => (match keyOf t x with
    | some kx => if ks.length < sizeLine then .ok () (ρ.set i (some (.own io (.dic t (dPut (kq t) kx y ks ds).1 (dPut (kq t) kx y ks ds).2)))) else .bad
    | none => .bad)
  | _ => .bad
def sDput (i : Nat) (mk mv : Mi Dt) : En → So := sBind mv fun y => sBind (hasSl i mk) fun x => sBind (putD i x y) fun _ ρ => .nx ρ
theorem putD_go {i : Nat} {x y : Dt} {vx vy : V} {P : Unit → En → Hp → Hp → Prop} (p : Post T π W σ A F H P (putD i x y ρ)) (k : Ok T π A F H σ ρ) (rx : Rep T F vx x) (ry : Rep T F vy y) :
    ∃ a ρ' H', σ[i]? = some (some (.ref a)) ∧ DPut H a vx vy H' ∧ P () ρ' F H' := by
  unfold putD at p
  split at p
  · rename_i io t ks ds e
    obtain ⟨a, h1, h2, h3, h4, h5⟩ := k.own i io _ e
    split at p
    · rename_i kx hk
      split at p
      · rename_i hz
        cases t with
        | false =>
          obtain ⟨kk, vs, q1, q2, q3, q4⟩ := h3
          subst q3
          have go : ∀ kc : Key, kx = kD kc → vx = kV kc → ∃ a ρ' H', σ[i]? = some (some (.ref a)) ∧ DPut H a vx vy H' ∧ P () ρ' F H' := fun kc e1 e2 => by
            subst e1
            obtain ⟨kk', vs', w1, w2, w3, w4⟩ := put_ok (q := keyEq) (emb := kD) keyEq_k kc ry q2 q4
            refine ⟨a, _, _, h1, by rw [e2]; exact DPut.k q1 (by rw [List.length_zip, ← q2, Nat.min_self]; simpa using hz), p F _ (k.put e h1 ?_) (.put k e h1)⟩
            exact ⟨kk', vs', by rw [upd_same, w1], w2, w3, w4⟩
          cases x with
          | int j => cases hk; exact go (.inl j) rfl rx.int_inv
          | str z => cases hk; exact go (.inr z) rfl rx.str_inv
          | _ => cases hk
        | true =>
          obtain ⟨kk, vs, q1, q2, q3, q4⟩ := h3
          subst q3
          cases x with
          | tup xs =>
            unfold keyOf at hk
            dsimp only at hk
            split at hk
            · rename_i hx
              cases hk
              rw [Bool.and_eq_true_iff] at hx
              obtain ⟨kc, ek⟩ := flat_keys hx.1
              subst ek
              obtain ⟨b, vy', eb, hb, rb⟩ := rx.tup_ne (fun z => by rw [z] at hx; exact absurd hx.2 (by decide))
              subst eb
              have ev := reps_keys rb
              subst ev
              obtain ⟨kk', vs', w1, w2, w3, w4⟩ := put_ok (q := keyEqT) (emb := fun l => Dt.tup (l.map kD)) keyEqT_k kc ry q2 q4
              refine ⟨a, _, _, h1, DPut.t q1 (k.le _ _ hb) (by rw [List.length_zip, ← q2, Nat.min_self]; simpa using hz), p F _ (k.put e h1 ?_) (.put k e h1)⟩
              exact ⟨kk', vs', by rw [upd_same, w1], w2, w3, w4⟩
            · cases hk
          | _ => cases hk
      · exact p.elim
    · exact p.elim
  · exact p.elim
theorem ds_dput {st : Stmt} {i : Nat} {mk mv : Mi Dt} (h : PS X st (sDPut (tVar i) (TMe T π W mk) (TMe T π W mv))) : PS X st (TMs T π W (sDput i mk mv)) := h.imp fun D σ H ⟨A, F0, H0, F, ρ, k, p⟩ => ⟨_, F, ρ, k.ok, (p.bind k).imp fun y ρ1 F1 H1 _ _ ⟨k1, p1⟩ vy ry => by
  have p1' := p1.bind k1
  unfold hasSl at p1'
  split at p1'
  · rename_i s es
    have hv : ∃ v, σ[i]? = some (some v) := by
      cases s with
      | val d => obtain ⟨v, h1, _⟩ := k1.ok.val i d es; exact ⟨v, h1⟩
      | own io d => obtain ⟨a, h1, _⟩ := k1.ok.own i io d es; exact ⟨_, h1⟩
    obtain ⟨v, hv⟩ := hv
    refine ⟨v, hv, _, F1, ρ1, k1.ok, p1'.imp fun x ρ2 F2 H2 _ r2 ⟨k2, p2⟩ vx rx => ?_⟩
    obtain ⟨a, ρ3, H3, h1, h2, k3, p3⟩ := putD_go (p2.bind k2) k2.ok rx (ry.mono r2.f)
    rw [hv] at h1
    cases h1
    exact ⟨a, H3, rfl, h2, p3 σ F2 H3 k3⟩
  · exact p1'.elim⟩
end
end Dl
namespace Dl
open PySem PySem.Spec PyProof.Rows L2
section
variable {X : Cx} {T : Tx} {π : Nat → Option Pin} {W : WX} {a b c e o l : Expr} {es : List Expr} {pos p tpos : Pos} {m ma mb mc : Mi Dt} {ms : Mi (List Dt)} {A A' A0 : Addr → Prop} {F H F' H' F0 H0 : Hp} {σ : L2.St} {ρ : En} {tg : Expr} {elts : List Expr} {kk : Nat}
/-! ### several names at once -/
def slK : Bool → Dt → Sl
  | false, d => .val d
  | true, d => .own false d
def putSls : List Nat → List Bool → List Dt → En → Option En
  | i :: is, k :: ks, d :: ds, ρ => (setSl i (slK k d) ρ).bind (putSls is ks ds)
  | [], [], [], ρ => some ρ
  | _, _, _, _ => none
def setAll : List Nat → List V → L2.St → L2.St
  | i :: is, v :: vs, σ => setAll is vs (σ.set i (some v))
  | _, _, σ => σ
theorem own_set {i : Nat} {v : V} {s : Sl} {ρ' : En} {x : Addr} (k : Ok T π A F H σ ρ) (h : setSl i s ρ = some ρ') (w : IsOwn H (σ.set i (some v)) ρ' x) : IsOwn H σ ρ x ∨ (∃ a io d, v = .ref a ∧ s = .own io d ∧ (x = a ∨ x ∈ inH H a d)) := by
  obtain ⟨hi, rfl, _⟩ := setSl_inv h
  have hσ : i < σ.length := by rw [k.len]; exact hi
  obtain ⟨j, io, d, a, e1, e2, e3⟩ := w
  by_cases hj : i = j
  · subst hj
    rw [List.getElem?_set_self hi] at e1
    rw [List.getElem?_set_self hσ] at e2
    cases e1
    cases e2
    exact .inr ⟨_, _, _, rfl, rfl, e3⟩
  · rw [List.getElem?_set_ne hj] at e1 e2
    exact .inl ⟨j, io, d, a, e1, e2, e3⟩
theorem ok_puts {ks : List Bool} {vs : List V} {ds : List Dt} {as : List Addr} (g : Gk T F H A0 ks vs ds as) : ∀ {is : List Nat} {σ : L2.St} {ρ ρ' : En}, Ok T π A F H σ ρ → (∀ a ∈ as, ¬ IsOwn H σ ρ a ∧ A a) → putSls is ks ds ρ = some ρ' → Ok T π A F H (setAll is vs σ) ρ' := by
  induction g with
  | nil =>
    intro is σ ρ ρ' k _ h
    cases is with
    | nil => cases h; exact k
    | cons _ _ => cases h
  | @val v d ks vs ds as r g ih =>
    intro is σ ρ ρ' k ha h
    cases is with
    | nil => cases h
    | cons i is =>
      have h' : (setSl i (.val d) ρ).bind (putSls is ks ds) = some ρ' := h
      cases e : setSl i (.val d) ρ with
      | none => rw [e] at h'; cases h'
      | some ρ1 =>
        rw [e] at h'
        exact ih (k.set r e) (fun a z => ⟨fun w => (own_set k e w).elim (ha a z).1 (fun ⟨_, _, _, _, q, _⟩ => by cases q), (ha a z).2⟩) h'
  | @own p d ks vs ds as h1 h2 h3 h4 h5 g ih =>
    intro is σ ρ ρ' k ha h
    cases is with
    | nil => cases h
    | cons i is =>
      have h' : (setSl i (.own false d) ρ).bind (putSls is ks ds) = some ρ' := h
      cases e : setSl i (.own false d) ρ with
      | none => rw [e] at h'; cases h'
      | some ρ1 =>
        rw [e] at h'
        obtain ⟨n1, n2⟩ := ha p List.mem_cons_self
        have hin : ∀ x ∈ inH H p d, ¬ IsOwn H σ ρ x ∧ A x := fun x hx => ha x (List.mem_cons_of_mem _ (List.mem_append_left _ hx))
        have has : ∀ x ∈ as, ¬ IsOwn H σ ρ x ∧ A x := fun x hx => ha x (List.mem_cons_of_mem _ (List.mem_append_right _ hx))
        refine ih (k.setN h1 n1 n2 h3 (fun x hx => ⟨(h5 x hx).1, (hin x hx).1, (hin x hx).2⟩) e) (fun a z => ⟨fun w => (own_set k e w).elim (has a z).1 (fun ⟨a', io', d', q1, q2, q3⟩ => ?_), (has a z).2⟩) h'
        cases q1
        cases q2
        rcases q3 with q3 | q3
        · exact h4 (q3 ▸ z)
        · exact (h5 a q3).2.2 z
theorem Ok.there {x : Addr} (k : Ok T π A F H σ ρ) (w : IsOwn H σ ρ x) : H x ≠ none := fun e => by
  obtain ⟨_, _, o, q⟩ := k.ownH w
  rw [e] at q
  cases q
def sPars (is : List Nat) (ks : List Bool) (ms : Mi (List Dt)) : En → So := sBind ms fun ds ρ => match putSls is ks ds ρ with
  | some ρ' => .nx ρ'
  | none => .bad
theorem ds_pars {st : Stmt} {is : List Nat} {ks : List Bool} (h : PS X st (fun D σ H => TMk T π W ks ms σ H fun vs H1 => D.nx (setAll is vs σ) H1)) : PS X st (TMs T π W (sPars is ks ms)) := h.imp fun D σ H ⟨A, F0, H0, F, ρ, k, p⟩ =>
  ⟨IsOwn H σ ρ, F, ρ, k.ok.tight, fun a w => k.ok.there w, ((p.bind k).weak fun a w => k.ok.ownA w).imp fun ds ρ1 F1 H1 k1' r1 ⟨k1, p1⟩ vs as g ha => by
    cases e : putSls is ks ds ρ1 with
    | none => rw [e] at p1; exact p1.elim
    | some ρ' =>
      rw [e] at p1
      refine p1 _ F1 H1 ⟨ok_puts g k1.ok (fun a z => ⟨fun w => ?_, .inr (k.fr.t a (ha a z))⟩) e, k1.fr⟩
      exact k.ok.there (k1'.ownA w) (ha a z)⟩
theorem ds_par {st : Stmt} {i j : Nat} {k1 k2 : Bool} (h : PS X st (tPar i j (TMk T π W [k1, k2] ms))) : PS X st (TMs T π W (sPars [i, j] [k1, k2] ms)) := ds_pars (h.imp fun D σ H ⟨A, F, ρ, k, ht, p⟩ => ⟨A, F, ρ, k, ht, p.imp fun ds ρ' F' H' _ _ q vs as g ha => by
  cases g with
  | val _ g1 => cases g1 with
    | val _ g2 => cases g2; exact ⟨_, _, rfl, q _ _ (.val (by assumption) (.val (by assumption) .nil)) ha⟩
    | own h5 h6 h7 h8 h9 g2 => cases g2; exact ⟨_, _, rfl, q _ _ (.val (by assumption) (.own h5 h6 h7 h8 h9 .nil)) ha⟩
  | own h1 h2 h3 h4 i1 g1 => cases g1 with
    | val r g2 => cases g2; exact ⟨_, _, rfl, q _ _ (.own h1 h2 h3 h4 i1 (.val r .nil)) ha⟩
    | own h5 h6 h7 h8 i2 g2 => cases g2; exact ⟨_, _, rfl, q _ _ (.own h1 h2 h3 h4 i1 (.own h5 h6 h7 h8 i2 .nil)) ha⟩⟩)
/-- x += e -/
def sAug (i : Nat) (f : Dt → Dt → Option Dt) (m : Mi Dt) : En → So := sBind (mVar i) fun x => sBind m fun y => sBind (mOpt (f x y)) fun z => sPut i (.val z)
theorem ds_aug {st : Stmt} {i : Nat} {g : Int → Int → Int} (h : PS X st (tAug i (TMe T π W m) (ipI g))) : PS X st (TMs T π W (sAug i (fI fun i j => some (.int (g i j))) m)) := h.imp fun D σ H ⟨A, F0, H0, F, ρ, k, p⟩ => by
  have p0 := p.bind k
  unfold mVar at p0
  cases e : ρ[i]? with
  | none => rw [e] at p0; exact p0.elim
  | some s =>
    cases s with
    | none => rw [e] at p0; exact p0.elim
    | some s =>
      cases s with
      | own io d =>
        rw [e] at p0
        cases io with
        | true => exact p0.elim
        | false =>
          obtain ⟨a, F', h1, h5, h6, h7⟩ := k.ok.freeze e
          obtain ⟨k1, p1⟩ := p0 F' H h5 h7
          refine ⟨.ref a, h1, _, _, _, k1.ok, (p1.bind k1).imp fun y ρ2 F2 H2 _ r2 ⟨k2, p2⟩ v rv => ?_⟩
          obtain ⟨z, ez, _⟩ := (p2.bind k2).opt
          obtain ⟨i1, j1, e1, e2, _⟩ := fI_inv ez
          subst e1
          cases h6
      | val d =>
        rw [e] at p0
        obtain ⟨v, h1, h2⟩ := k.ok.val i d e
        obtain ⟨k1, p1⟩ := p0 F H k.ok .refl
        refine ⟨v, h1, _, F, ρ, k.ok, (p1.bind k1).imp fun y ρ2 F2 H2 _ r2 ⟨k2, p2⟩ w rw => ?_⟩
        obtain ⟨z, ez, p3⟩ := (p2.bind k2).opt
        obtain ⟨i1, j1, e1, e2, e3⟩ := fI_inv ez
        subst e1 e2
        cases e3
        obtain ⟨k3, p4⟩ := p3 F2 H2 k2.ok .refl
        refine ⟨i1, j1, h2.int_inv, rw.int_inv, ?_⟩
        unfold sPut at p4
        cases eq : setSl i (.val (.int (g i1 j1))) ρ2 with
        | none => rw [eq] at p4; exact p4.elim
        | some ρ' => rw [eq] at p4; exact p4 _ F2 H2 ⟨k3.ok.set (.int _) eq, k3.fr⟩
end
end Dl
namespace Dl
open PySem PySem.Spec PyProof.Rows L2
section
variable {X : Cx} {T : Tx} {π : Nat → Option Pin} {W : WX} {a b c e o l : Expr} {es : List Expr} {pos p tpos : Pos} {m ma mb mc : Mi Dt} {ms : Mi (List Dt)} {A A' A0 : Addr → Prop} {F H F' H' F0 H0 : Hp} {σ : L2.St} {ρ : En} {tg : Expr} {elts : List Expr} {kk : Nat}
/-! ### xs[i] = y, xs a slot's own list -/
def putL (i : Nat) (x y : Dt) : Mi Dt := mMut i fun ds => match x with
  | .int k => (ixN ds.length k).map fun j => (.non, ds.set j y)
  | _ => none
def sLput (i : Nat) (mk mv : Mi Dt) : En → So := sBind mv fun y => sBind (hasSl i mk) fun x => sBind (putL i x y) fun _ ρ => .nx ρ
theorem ds_lput {st : Stmt} {i : Nat} {mk mv : Mi Dt} (h : PS X st (tAsg (TMe T π W mv) (gSub (tVar i) (TMe T π W mk) rSetL))) : PS X st (TMs T π W (sLput i mk mv)) := h.imp fun D σ H ⟨A, F0, H0, F, ρ, k, p⟩ => ⟨_, F, ρ, k.ok, (p.bind k).imp fun y ρ1 F1 H1 _ _ ⟨k1, p1⟩ vy ry => by
  have p1' := p1.bind k1
  unfold hasSl at p1'
  split at p1'
  · rename_i s es
    have hv : ∃ v, σ[i]? = some (some v) := by
      cases s with
      | val d => obtain ⟨v, h1, _⟩ := k1.ok.val i d es; exact ⟨v, h1⟩
      | own io d => obtain ⟨a, h1, _⟩ := k1.ok.own i io d es; exact ⟨_, h1⟩
    obtain ⟨v, hv⟩ := hv
    refine ⟨v, hv, _, F1, ρ1, k1.ok, p1'.imp fun x ρ2 F2 H2 _ r2 ⟨k2, p2⟩ vx rx => ?_⟩
    obtain ⟨io1, ds1, r, es1, a1, vs, e1, ef, s1, h3, h4, q⟩ := mMut_inv (p2.bind k2) k2.ok
    rw [hv] at s1
    cases s1
    cases x with
    | int kx =>
      dsimp only at ef
      cases hj : ixN ds1.length kx with
      | none => rw [hj] at ef; cases ef
      | some j =>
        rw [hj] at ef
        cases ef
        obtain ⟨k3, p3⟩ := q _ (h4.set (ry.mono r2.f) j)
        exact ⟨a1, vs, kx, j, rfl, rx.int_inv, h3, by rw [h4.length]; exact hj, p3 σ F2 _ k3⟩
    | _ => cases ef
  · exact p1'.elim⟩
/-! ### a def that changes its first argument -/
def mCallIo (n : Nat) (f : List Dt → Fo) (i : Nat) (ms : Mi (List Dt)) : Mi Dt := fun ρ => match ρ[i]? with
  | some (some (.own _ _)) => mBind ms (fun ds ρ1 => match ρ1[i]? with
    | some (some (.own io d)) => if ds.length + 1 = n then (match f (d :: ds) with
      | .ret r o => .ok r (ρ1.set i (some (.own io o)))
      | .exc x o => .exc x (ρ1.set i (some (.own io o)))
      | .bad => .bad) else .bad
    | _ => .bad) ρ
  | _ => .bad
theorem Ok.calledIo {i : Nat} {io : Bool} {d o : Dt} {a : Addr} (k : Ok T π A F H σ ρ) (e : ρ[i]? = some (some (.own io d))) (s : σ[i]? = some (some (.ref a))) (le : Le F' H') (r : Fr (pinA (some (a, inH H a d))) F H F' H') (io' : IoOk T F' H' (some (a, inH H a d)) o) :
    Ok T π A F' H' σ (ρ.set i (some (.own io o))) ∧ Fr A F H F' H' := by
  have hi : i < ρ.length := (List.getElem?_eq_some_iff.mp e).1
  obtain ⟨i1, i2, i3, i4⟩ := io' _ rfl
  dsimp only at i1 i2 i3 i4
  have hA : ∀ x, pinA (some (a, inH H a d)) x → A x := fun x ⟨q, hq, hx⟩ => by
    cases hq
    exact k.ownA ⟨i, io, d, a, e, s, hx⟩
  have ne : ∀ (j : Nat) jo dj b, i ≠ j → ρ[j]? = some (some (.own jo dj)) → σ[j]? = some (some (.ref b)) → ∀ x, (x = b ∨ x ∈ inH H b dj) → ¬ pinA (some (a, inH H a d)) x := fun j jo dj b hj ej sj x hx ⟨q, hq, hz⟩ => by
    cases hq
    exact hj (k.dis i j io jo d dj a b x e ej s sj hz hx)
  have smj : ∀ (j : Nat) jo dj b, i ≠ j → ρ[j]? = some (some (.own jo dj)) → σ[j]? = some (some (.ref b)) → inH H' b dj = inH H b dj := fun j jo dj b hj ej sj => by
    obtain ⟨b', q1, q2, q3, q4, q5⟩ := k.own j jo dj ej
    rw [sj] at q1
    cases q1
    exact q3.same fun o q => r.h b o (ne j jo dj b hj ej sj b (.inl rfl)) q
  refine ⟨⟨le, by simpa using k.len, fun j dj ej => ?_, fun j jo dj ej => ?_, fun j l jo lo dj dl b c x ej el sj sl xj xl => ?_⟩, r.weak hA⟩
  · by_cases hj : i = j
    · subst hj; rw [List.getElem?_set_self hi] at ej; cases ej
    · rw [List.getElem?_set_ne hj] at ej
      obtain ⟨v, h1, h2⟩ := k.val j dj ej
      exact ⟨v, h1, h2.mono r.f⟩
  · by_cases hj : i = j
    · subst hj
      rw [List.getElem?_set_self hi] at ej
      cases ej
      obtain ⟨b, h1, _, _, h4, h5⟩ := k.own i _ d e
      rw [s] at h1
      cases h1
      exact ⟨a, s, i1, i2, h4, by rw [i3]; exact h5.1, fun x hx => by rw [i3] at hx; exact ⟨i4 x hx, (h5.2 x hx).2⟩⟩
    · rw [List.getElem?_set_ne hj] at ej
      obtain ⟨b, q1, q2, q3, q4, q5, q6⟩ := k.own j jo dj ej
      have fe : ∀ x, (x = b ∨ x ∈ inH H b dj) → F' x = F x := fun x hx => by
        obtain ⟨ob, hob, ht⟩ := q3.hasI hx
        exact r.n x ob (ne j jo dj b hj ej q1 x hx) hob ht
      exact ⟨b, q1, by rw [fe b (.inl rfl)]; exact q2, q3.mono r.f fun x hx u q => r.h x u (ne j jo dj b hj ej q1 x hx) q, q4, by rw [smj j jo dj b hj ej q1]; exact q5, fun x hx => by
        rw [smj j jo dj b hj ej q1] at hx
        exact ⟨by rw [fe x (.inr hx)]; exact (q6 x hx).1, (q6 x hx).2⟩⟩
  · have back : ∀ (j : Nat) jo dj b, (ρ.set i (some (.own io o)))[j]? = some (some (.own jo dj)) → σ[j]? = some (some (.ref b)) → ∃ jo dk, ρ[j]? = some (some (.own jo dk)) ∧ inH H b dk = inH H' b dj := fun j jo dj b ej sj => by
      by_cases hj : i = j
      · subst hj; rw [List.getElem?_set_self hi] at ej; cases ej; rw [s] at sj; cases sj; exact ⟨io, d, e, i3.symm⟩
      · rw [List.getElem?_set_ne hj] at ej; exact ⟨jo, dj, ej, (smj j jo dj b hj ej sj).symm⟩
    obtain ⟨_, _, gj, ij⟩ := back j jo dj b ej sj
    obtain ⟨_, _, gl, il⟩ := back l lo dl c el sl
    exact k.dis j l _ _ _ _ b c x gj gl sj sl (by rw [ij]; exact xj) (by rw [il]; exact xl)
theorem sp_callIo {n i : Nat} {rn : Bool} {f : List Dt → Fo} {Q : VK} {vs : List V} {ds : List Dt} {a : Addr} {P : Dt → En → Hp → Hp → Prop} (k : Ok T π A F H σ ρ) (s : σ[i]? = some (some (.ref a))) (r : Reps T F vs ds)
    (p : Post T π W σ A F H P (match ρ[i]? with
      | some (some (.own io d)) => if ds.length + 1 = n then (match f (d :: ds) with
        | .ret r o => Ou.ok r (ρ.set i (some (.own io o)))
        | .exc x o => .exc x (ρ.set i (some (.own io o)))
        | .bad => .bad) else .bad
      | _ => .bad))
    (q : ∀ d ρ' F' H' v, Ok T π A F' H' σ ρ' → RetOk T H F' H' v d rn → P d ρ' F' H' → Q v H') : spM T n true rn f (.ref a :: vs) H Q (WE W σ) := by
  split at p
  · rename_i io d e
    by_cases hl : ds.length + 1 = n
    · rw [if_pos hl] at p
      obtain ⟨a', h1, h2, h3, h4, h5⟩ := k.own i io d e
      rw [s] at h1
      cases h1
      refine ⟨F, d :: ds, some (a, inH H a d), by rw [List.length_cons, r.length]; exact hl, k.le, ⟨a, vs, d, ds, rfl, rfl, h2, h3, r, rfl, fun x hx => (h5.2 x hx).1⟩, ?_⟩
      cases ef : f (d :: ds) with
      | ret rr oo =>
        rw [ef] at p
        exact fun F' H' v le fr io' rv => by
          obtain ⟨k', r'⟩ := k.calledIo e s le fr io'
          exact q rr _ F' H' v k' rv (p F' H' k' r')
      | exc x oo =>
        rw [ef] at p
        exact fun F' H' cc dd le fr io' rx => by
          obtain ⟨k', r'⟩ := k.calledIo e s le fr io'
          exact p F' H' cc dd k' r' rx
      | bad => rw [ef] at p; exact p.elim
    · rw [if_neg hl] at p; exact p.elim
  · exact p.elim
variable {k n i : Nat} {f : Addr} {fd : FuncData} {ps : List Str} {x : Str} {fm : List Dt → Fo}
theorem de_callIo {v : Str} {pv_ : Pos} (G : FnOk X.prog X.w X.K X.mg X.base (L2.CX X.prog X.w) k f fd ps (spM T n true false fm)) (hr : Room k X.A) (hg : Gl X x) (hm : X.mg x = some (.ref f)) (hk : PySem.W.keepIn X.K (.ref f) = true) (hb : Binds X.K fd ps []) (tk : Takes X W) (hv : PE X (.Name v pv_) (tVar i)) (ha : PA X es (TMa T π W ms))
    (hdb : (x == ("__debug__" : Str)) = false := by decide) (he : starEach (.Name v pv_ :: es) X.env = (false, eval (.Name v pv_) X.env) :: starEach es X.env := by rfl) (hpl : (backTo pos (starEach es X.env)).any (·.1) = false := by rfl) :
    PE X (.Call (.Name x p) (.Name v pv_ :: es) [] pos) (TMe T π W (mCallIo n fm i ms)) := (pe_callSD (E := WE W) G hr hg hm hk hb .nil (fun σ => passAt tk σ) (pa_cons hv ha he) hdb he hpl).imp fun σ H Q ⟨A, F, ρ, k, p⟩ => by
  unfold mCallIo at p
  split at p
  · rename_i io d e
    obtain ⟨a, h1, h2⟩ := k.own i io d e
    refine ⟨.ref a, h1, A, F, ρ, k, p.bind.imp fun ds ρ1 F1 H1 k1 r1 p1 vs rvs => ?_⟩
    show spM T n true false fm ((.ref a :: vs) ++ []) H1 Q (WE W σ)
    rw [List.append_nil]
    exact sp_callIo k1 h1 rvs p1 fun d ρ' F' H' v _ rv q => q v rv
  · exact p.elim
/-! ### instances -/
def AttrOk (T : Tx) (f : Str) (ix : Nat → Option Nat) : Prop := ∀ c j, ix c = some j → ∀ C ns, T.cl c = some (C, ns) → ns[j]? = some f ∧ ns.Nodup ∧ ns.length < 1000 ∧ Cls T.K C ∧ NoAttr T.K C f
theorem zip_lookup {f : Str} : ∀ {ns : List Str} {vs : List V} {j : Nat}, ns.Nodup → ns[j]? = some f → (ns.zip vs).lookup f = vs[j]?
  | [], _, _, _, h => by simp at h
  | n :: ns, [], j, _, h => by simp
  | n :: ns, v :: vs, 0, nd, h => by
    simp at h
    subst h
    simp [List.lookup]
  | n :: ns, v :: vs, j + 1, nd, h => by
    rw [List.nodup_cons] at nd
    have h' : ns[j]? = some f := by simpa using h
    have ne : f ≠ n := fun z => nd.1 (z ▸ (List.mem_of_getElem? h'))
    rw [List.zip_cons_cons, List.lookup_cons, show (f == n) = false by simpa using ne]
    simpa using zip_lookup (vs := vs) nd.2 h'
def fAttr (ix : Nat → Option Nat) : Dt → Option Dt
  | .ins c ds => (ix c).bind fun j => ds[j]?
  | _ => none
theorem RepS.ins_inv {v : V} {c : Nat} {ds : List Dt} (r : RepS T F H v (.ins c ds)) (le : Le F H) : ∃ (a C dx : Addr) (ns : List Str) (vs : List V), v = .ref a ∧ T.cl c = some (C, ns) ∧ H a = some (.ins C dx (ns.zip vs)) ∧ vs.length ≤ ns.length ∧ Reps T F vs ds := by
  rcases r with r | ⟨a, e, C, dx, ns, vs, h1, h2, h3, h4⟩
  · cases r with
    | ins h1 h2 h3 h4 => exact ⟨_, _, _, _, _, rfl, h1, le _ _ h2, h3, h4⟩
  · exact ⟨a, C, dx, ns, vs, e, h1, h2, h3, h4⟩
theorem de_attr {f : Str} {ix : Nat → Option Nat} (hK : X.K = T.K) (ho : AttrOk T f ix) (h : PE X o (TMp T π W m)) (hb : attributeBase o f X.env (eval o X.env) = eval o X.env) : PE X (.Attribute o f pos) (TMe T π W (m1 (fAttr ix) m)) := (pe_fld h hb).imp fun σ H Q ⟨A, F, ρ, k, p⟩ => ⟨A, F, ρ, k, p.bind.imp fun d ρ1 F1 H1 k1 r1 p1 v rv => by
  obtain ⟨z, ez, p2⟩ := p1.opt
  cases d with
  | ins c ds =>
    unfold fAttr at ez
    dsimp only at ez
    cases hj : ix c with
    | none => rw [hj] at ez; cases ez
    | some j =>
      rw [hj] at ez
      obtain ⟨a, C, dx, ns, vs, e1, q1, q2, q3, q4⟩ := rv.ins_inv k1.le
      obtain ⟨h2, h3, _, h4, h5⟩ := ho c j hj C ns q1
      obtain ⟨w, q5, q6⟩ := q4.get (show ds[j]? = some z from ez)
      rw [hK]
      exact ⟨a, C, dx, _, w, e1, q2, h4, h5, by rw [zip_lookup h3 h2]; exact q5, p2.pure k1 _ q6⟩
  | _ => cases ez⟩
/-- o.f = e, o a slot's own -/
def putFl (i : Nat) (ix : Nat → Option Nat) (y : Dt) : Mi Unit := fun ρ => match ρ[i]? with
  | some (some (.own io (.ins c ds))) => (match ix c with
    | some j => if j < ds.length then .ok () (ρ.set i (some (.own io (.ins c (ds.set j y))))) else if j = ds.length then .ok () (ρ.set i (some (.own io (.ins c (ds ++ [y]))))) else .bad
    | none => .bad)
  | _ => .bad
def sFput (i : Nat) (ix : Nat → Option Nat) (m : Mi Dt) : En → So := sBind m fun y => sBind (putFl i ix y) fun _ ρ => .nx ρ
theorem putF_at {f : Str} {y : V} : ∀ {ns : List Str} {vs : List V} {j : Nat}, ns.Nodup → ns[j]? = some f → j < vs.length → putF f y (ns.zip vs) = ns.zip (vs.set j y)
  | [], _, _, _, h, _ => by simp at h
  | n :: ns, [], j, _, h, hl => by simp at hl
  | n :: ns, v :: vs, 0, nd, h, _ => by
    simp at h
    subst h
    simp [putF]
  | n :: ns, v :: vs, j + 1, nd, h, hl => by
    rw [List.nodup_cons] at nd
    have h' : ns[j]? = some f := by simpa using h
    have ne : ¬ n = f := fun z => nd.1 (z ▸ (List.mem_of_getElem? h'))
    rw [List.zip_cons_cons]
    unfold putF
    rw [if_neg ne, putF_at nd.2 h' (by simpa using hl)]
    rfl
theorem putF_end {f : Str} {y : V} : ∀ {ns : List Str} {vs : List V}, ns.Nodup → ns[vs.length]? = some f → putF f y (ns.zip vs) = ns.zip (vs ++ [y])
  | [], _, _, h => by simp at h
  | n :: ns, [], _, h => by
    simp at h
    subst h
    simp [putF]
  | n :: ns, v :: vs, nd, h => by
    rw [List.nodup_cons] at nd
    have h' : ns[vs.length]? = some f := by simpa using h
    have ne : ¬ n = f := fun z => nd.1 (z ▸ (List.mem_of_getElem? h'))
    rw [List.zip_cons_cons]
    unfold putF
    rw [if_neg ne, putF_end nd.2 h']
    rfl
theorem ds_fput {st : Stmt} {f : Str} {ix : Nat → Option Nat} (hK : X.K = T.K) (ho : AttrOk T f ix) (h : PS X st (sFld X.K (tVar i) (TMe T π W m) f)) : PS X st (TMs T π W (sFput i ix m)) := h.imp fun D σ H ⟨A, F0, H0, F, ρ, k, p⟩ => ⟨_, F, ρ, k.ok, (p.bind k).imp fun y ρ1 F1 H1 _ _ ⟨k1, p1⟩ vy ry => by
  have p2 := p1.bind k1
  unfold putFl at p2
  split at p2
  · rename_i io c ds e
    obtain ⟨a, s1, s2, ⟨C, dx, ns, vs, q1, q2, q3, q4⟩, s4, s5⟩ := k1.ok.own i io _ e
    split at p2
    · rename_i j hj
      obtain ⟨h2, h3, h3', h4, h5⟩ := ho c j hj C ns q1
      rw [hK]
      have hlen : (ns.zip vs).length < 1000 := by rw [List.length_zip]; omega
      split at p2
      · rename_i hlt
        have hlt' : j < vs.length := by rw [q4.length]; exact hlt
        obtain ⟨k3, p3⟩ := p2 F1 _ (k1.ok.put (o := .ins C dx (ns.zip (vs.set j vy))) e s1 ⟨C, dx, ns, _, q1, upd_same, by simpa using q3, q4.set ry j⟩) (.put k1.ok e s1)
        exact ⟨.ref a, s1, a, C, dx, _, rfl, q2, h4, h5, hlen, by rw [putF_at h3 h2 hlt']; exact p3 σ F1 _ k3⟩
      · split at p2
        · rename_i _ heq
          have heq' : j = vs.length := by rw [q4.length]; exact heq
          subst heq'
          have hle : (vs ++ [vy]).length ≤ ns.length := by
            rw [List.length_append]
            exact (List.getElem?_eq_some_iff.mp h2).1
          obtain ⟨k3, p3⟩ := p2 F1 _ (k1.ok.put (o := .ins C dx (ns.zip (vs ++ [vy]))) e s1 ⟨C, dx, ns, _, q1, upd_same, hle, q4.append (.cons ry .nil)⟩) (.put k1.ok e s1)
          exact ⟨.ref a, s1, a, C, dx, _, rfl, q2, h4, h5, hlen, by rw [putF_end h3 h2]; exact p3 σ F1 _ k3⟩
        · exact p2.elim
    · exact p2.elim
  · exact p2.elim⟩
/-- C(..) -/
def mMake (c n : Nat) (f : List Dt → Fo) (ms : Mi (List Dt)) : Mi Dt := mBind ms fun ds ρ => if ds.length + 1 = n then (match f (.ins c [] :: ds) with
  | .ret .non o => .ok o ρ
  | .ret _ _ => .bad
  | .exc x _ => .exc x ρ
  | .bad => .bad) else .bad
theorem sp_make {c n : Nat} {f : List Dt → Fo} {Q : VK} {vs : List V} {ds : List Dt} {C : Addr} {ns : List Str} {P : Dt → En → Hp → Hp → Prop} {E : XK} (hc : T.cl c = some (C, ns)) (hE : ∀ cls d H, W cls d σ H → E cls d H) (k : Ok T π A F H σ ρ) (r : Reps T F vs ds)
    (p : Post T π W σ A F H P (if ds.length + 1 = n then (match f (.ins c [] :: ds) with | .ret .non o => Ou.ok o ρ | .ret _ _ => .bad | .exc x _ => .exc x ρ | .bad => .bad) else .bad))
    (q : ∀ o F' H' x, Ok T π A F' H' σ ρ → F' x = none → ¬ IsOwn H' σ ρ x → H x = none → OwnAt T F' H' x o → inH H' x o = [] → P o ρ F' H' → Q (.ref x) H') :
    ∀ x dx, H x = none → H dx = none → dx ≠ x → spM T n true false f (.ref x :: vs) (upd (upd H dx (.own x)) x (.ins C dx [])) (fun v H2 => v = .non ∧ Q (.ref x) H2) E := fun x dx hx hdx ne => by
  by_cases hl : ds.length + 1 = n
  · rw [if_pos hl] at p
    have hx2 : (upd H dx (.own x)) x = none := by rw [upd_ne (Ne.symm ne)]; exact hx
    have le2 : Le H (upd (upd H dx (.own x)) x (.ins C dx [])) := le_trans (le_new hdx) (le_new hx2)
    refine ⟨F, .ins c [] :: ds, some (x, []), by rw [List.length_cons, r.length]; exact hl, le_trans k.le le2, ⟨x, vs, _, ds, rfl, rfl, f_none k.le hx, ⟨C, dx, ns, [], hc, by rw [upd_same, List.zip_nil_right], Nat.zero_le _, .nil⟩, r, rfl, (fun _ z => nomatch z)⟩, ?_⟩
    have fr2 : ∀ {F' H' : Hp}, Le F' H' → Fr (pinA (some (x, []))) F (upd (upd H dx (.own x)) x (.ins C dx [])) F' H' → Ok T π A F' H' σ ρ ∧ Fr A F H F' H' := fun {F' H'} le fr => by
      have nx : ∀ {b : Addr} {o : HO}, H b = some o → ¬ pinA (some (x, [])) b := fun hb ⟨q, hq, hz⟩ => by
        cases hq
        rcases hz with hz | hz
        · rw [hz, hx] at hb; cases hb
        · cases hz
      refine ⟨k.grow fr.f le (fun b w => ?_) (fun b o w e => fr.h b o (nx e) (le2 b o e)), fr.f, fun b o _ e => fr.h b o (nx e) (le2 b o e), fun b o _ e t => fr.n b o (nx e) (le2 b o e) t, fun b e => ?_⟩
      · obtain ⟨_, h2, o, h3, h4⟩ := k.ownT w
        rw [fr.n b o (nx h3) (le2 b o h3) h4]; exact h2
      · exact up_none (up_none (fr.t b e))
    cases ef : f (.ins c [] :: ds) with
    | ret rr oo =>
      rw [ef] at p
      cases rr with
      | non =>
        refine fun F' H' v le fr io' rv => ?_
        obtain ⟨k', r'⟩ := fr2 le fr
        exact ⟨Rep.non_inv rv, q oo F' H' x k' (io' _ rfl).1 (fun w => k.fresh_own hx ((k.sameOwn fun b o _ e => fr.h b o (fun ⟨q, hq, hz⟩ => by
          cases hq
          rcases hz with hz | hz
          · rw [hz, hx] at e; cases e
          · cases hz) (le2 b o e)).mp w)) hx (io' _ rfl).2.1 (io' _ rfl).2.2.1 (p F' H' k' r')⟩
      | _ => exact p.elim
    | exc xx oo =>
      rw [ef] at p
      exact fun F' H' cc dd le fr io' rx => by
        obtain ⟨k', r'⟩ := fr2 le fr
        exact hE cc dd H' (p F' H' cc dd k' r' rx)
    | bad => rw [ef] at p; exact p.elim
  · rw [if_neg hl] at p; exact p.elim
theorem dn_make {c : Nat} {C : Addr} {ns : List Str} (M : Mk X.K C f) (G : FnOk X.prog X.w X.K X.mg X.base (L2.CX X.prog X.w) k f fd ps (spM T n true false fm)) (hr : Room (k + 1) X.A) (hg : Gl X x) (hm : X.mg x = some (.ref C)) (hb : Binds X.K fd ps []) (hc : T.cl c = some (C, ns)) (hE : ∀ cls d σ σ' H, W cls d σ H → W cls d σ' H) (tk : Takes X W) (ha : PA X (e :: es) (TMa T π W ms))
    (hdb : (x == ("__debug__" : Str)) = false := by decide) (he : starEach (e :: es) X.env = (false, eval e X.env) :: starEach es X.env := by rfl) (hpl : (backTo pos (starEach es X.env)).any (·.1) = false := by rfl) :
    PE X (.Call (.Name x p) (e :: es) [] pos) (TMn T π W (mMake c n fm ms)) := (pe_make (E := fun cls d H => ∃ σ, W cls d σ H) M G hr hg hm hb .nil (fun pins σ H s e s' I c => tk e s' (XE.of_call I (fun cls d H' ⟨σ', h⟩ => hE cls d σ' σ H' h) c)) ha hdb he hpl).imp fun σ H Q ⟨A, F, ρ, k, p⟩ => ⟨A, F, ρ, k, p.bind.imp fun ds ρ1 F1 H1 k1 r1 p1 vs rvs => by
  intro y dy hy hdy ne
  rw [List.append_nil]
  exact sp_make hc (fun cls d H h => ⟨σ, h⟩) k1 rvs p1 (fun o F' H' z k' h1 h2 h3 h4 h5 q => q z h1 h2 (r1.t z h3) h4 fun y hy => by rw [h5] at hy; cases hy) y dy hy hdy ne⟩
/-- o.m(..), o any value of the class (not changed) -/
def mMeth (c n : Nat) (f : List Dt → Fo) (m : Mi Dt) (ms : Mi (List Dt)) : Mi Dt := mBind m fun d => match d with
  | .ins c' vs => if c' = c then mBind ms fun ds ρ => if (Dt.ins c' vs :: ds).length = n then (match f (.ins c' vs :: ds) with
    | .ret d _ => .ok d ρ
    | .exc x _ => .exc x ρ
    | .bad => .bad) else .bad else mBad
  | _ => mBad
theorem sp_weakE {n : Nat} {io rn : Bool} {f : List Dt → Fo} {vs : List V} {Q : VK} {E E' : XK} (h : spM T n io rn f vs H Q E) (hE : ∀ c d H, E c d H → E' c d H) : spM T n io rn f vs H Q E' := by
  obtain ⟨F1, ds, π0, h1, h2, h3, h4⟩ := h
  refine ⟨F1, ds, π0, h1, h2, h3, ?_⟩
  cases e : f ds with
  | ret d o => rw [e] at h4; exact h4
  | exc x o => rw [e] at h4; exact fun F' H' c d a b i rx => hE _ _ _ (h4 F' H' c d a b i rx)
  | bad => rw [e] at h4; exact h4
theorem zip_nokey {f : Str} {ns : List Str} {vs : List V} (h : f ∉ ns) : (ns.zip vs).lookup f = none := by
  rw [List.lookup_eq_none_iff]
  intro q hq
  have : q.1 ∈ ns := (List.of_mem_zip hq).1
  simpa using fun z : f = q.1 => h (z ▸ this)
theorem de_meth {c : Nat} {C : Addr} {ns : List Str} {mn : Str} {apos : Pos} {pl : Sem Bool} (h : PE X o (TMe T π W m)) (hcl : Cls X.K C) (hmm : Meth X.K C mn f) (G : FnOk X.prog X.w X.K X.mg X.base (L2.CX X.prog X.w) k f fd ps (spM T n false false fm)) (hr : Room k X.A) (hb : Binds X.K fd ps []) (hc : T.cl c = some (C, ns)) (hn : mn ∉ ns) (hE : ∀ cls d σ σ' H, W cls d σ H → W cls d σ' H) (tk : Takes X W) (ha : PA X (e :: es) (TMa T π W ms))
    (hst : starEach (e :: es) X.env = (false, eval e X.env) :: starEach es X.env := by rfl) (hpl : (backTo pos (starEach es X.env)).any (·.1) = false := by rfl)
    (ht : eval (.Call (.Attribute o mn apos) (e :: es) [] pos) X.env = (do
      let ov ← eval o X.env
      standAt apos.atName
      let (f, first) ← holding [ov] (getMethod ov mn pl)
      callWith pos f first (backTo pos (starEach (e :: es) X.env)) (backToKw pos (keywordEach [] X.env))) := by rfl) :
    PE X (.Call (.Attribute o mn apos) (e :: es) [] pos) (TMe T π W (mMeth c n fm m ms)) := (pe_meth (pl := pl) (E := fun cls d H => ∃ σ, W cls d σ H) h hcl hmm G hr hb .nil (fun pins σ H s e s' I c => tk e s' (XE.of_call I (fun cls d H' ⟨σ', h⟩ => hE cls d σ' σ H' h) c)) ha hst hpl ht).imp fun σ H Q ⟨A, F, ρ, k, p⟩ => ⟨A, F, ρ, k, p.bind.imp fun d ρ1 F1 H1 k1 r1 p1 v rv => by
  cases d with
  | ins c' dv =>
    dsimp only at p1
    by_cases hcc : c' = c
    · subst hcc
      rw [if_pos rfl] at p1
      obtain ⟨a, C', dx, ns', vs, e1, q1, q2, q3, q4⟩ := rv.s.ins_inv k1.le
      rw [hc] at q1
      cases q1
      refine ⟨a, dx, _, e1, q2, zip_nokey hn, A, F1, ρ1, k1, p1.bind.imp fun ds ρ2 F2 H2 k2 r2 p2 ws rws => ?_⟩
      show spM T n false false fm (v :: (ws ++ [])) H2 Q fun cls d H => ∃ σ, W cls d σ H
      rw [List.append_nil]
      exact sp_weakE (sp_call (rn := false) (Q := Q) k2 (Reps.cons (rv.mono r2.f) rws) p2 fun d F' H' v _ _ rv q => q v rv) fun c d H h => ⟨σ, h⟩
    · rw [if_neg hcc] at p1; exact p1.elim
  | _ => exact p1.elim⟩
/-! ### texts -/
def fFmt : Dt → Option Dt
  | .str y => if y.length ≤ sizeLine then some (.str y) else none
  | .int i => if i.natAbs.log2 < 1920 then some (.str (toString i)) else none
  | _ => none
theorem de_fmt (h : PE X e (TMe T π W m)) : PE X (.FormattedValue e (-1) none pos) (TMe T π W (m1 fFmt m)) := (pe_fmt h).imp fun σ H Q ⟨A, F, ρ, k, p⟩ => ⟨A, F, ρ, k, p.bind.imp fun d ρ1 F1 H1 k1 r1 p1 v rv => by
  obtain ⟨z, ez, p2⟩ := p1.opt
  unfold fFmt at ez
  split at ez
  · split at ez
    · cases ez; exact .inl ⟨_, rv.str_inv, by assumption, p2.pure k1 _ (.str _)⟩
    · cases ez
  · split at ez
    · cases ez; exact .inr ⟨_, rv.int_inv, by assumption, p2.pure k1 _ (.str _)⟩
    · cases ez
  · cases ez⟩
def mJs : List (Mi Dt) → Str → Mi Str
  | [], acc => mPure acc
  | m :: r, acc => mBind m fun d => match d with
    | .str y => if (acc ++ y).length ≤ sizeLine then mJs r (acc ++ y) else mBad
    | _ => mBad
theorem tjs_of {Q : Str → Hp → Prop} : ∀ (ms : List (Mi Dt)) (acc : Str) {H F : Hp} {ρ : En}, Ok T π A F H σ ρ → Post T π W σ A F H (fun out _ _ H' => Q out H') (mJs ms acc ρ) → tJs (ms.map (TMe T π W)) acc σ H Q
  | [], acc, H, F, ρ, k, p => p.pure k
  | m :: r, acc, H, F, ρ, k, p => ⟨A, F, ρ, k, p.bind.imp fun d ρ1 F1 H1 k1 r1 p1 v rv => by
    cases d with
    | str y =>
      dsimp only at p1
      split at p1
      · rename_i hz
        exact ⟨y, rv.str_inv, hz, tjs_of r (acc ++ y) k1 p1⟩
      · exact p1.elim
    | _ => exact p1.elim⟩
def mJoined (ms : List (Mi Dt)) : Mi Dt := mBind (mJs ms Str.empty) fun s => mPure (.str s)
theorem de_joined {v1 v2 : Expr} {rest : List Expr} {mm : List (Mi Dt)} (h : PJ X (v1 :: v2 :: rest) (mm.map (TMe T π W))) : PE X (.JoinedStr (v1 :: v2 :: rest) pos) (TMe T π W (mJoined mm)) := (pe_joined h).imp fun σ H Q ⟨A, F, ρ, k, p⟩ =>
  tjs_of mm Str.empty k (p.bind.imp fun out ρ1 F1 H1 k1 r1 p1 => p1.pure k1 _ (.str _))
def strsOf : List Dt → Option (List Str)
  | [] => some []
  | .str i :: ds => (strsOf ds).map (i :: ·)
  | _ => none
theorem strs_inv : ∀ {ds : List Dt} {ns : List Str}, strsOf ds = some ns → ds = ns.map .str
  | [], ns, h => by cases h; rfl
  | d :: ds, ns, h => by
    cases d with
    | str i =>
      unfold strsOf at h
      cases q : strsOf ds with
      | none => rw [q] at h; cases h
      | some r => rw [q] at h; cases h; rw [strs_inv q]; rfl
    | _ => cases h
theorem reps_strs : ∀ {ns : List Str} {vs : List V}, Reps T F vs (ns.map .str) → vs = ns.map V.str
  | [], _, r => by cases r; rfl
  | i :: ns, _, r => by
    cases r with
    | cons h rs => rw [h.str_inv, reps_strs rs]; rfl
/-- sep.join(xs) -/
def fJoin : Dt → Dt → Option Dt
  | .str a, .lst xs => (strsOf xs).bind fun ys => if (ys.map (·.length)).sum + ys.length * a.length ≤ 16777216 then some (.str (Txt.join a ys)) else none
  | .str a, .tup xs => (strsOf xs).bind fun ys => if (ys.map (·.length)).sum + ys.length * a.length ≤ 16777216 then some (.str (Txt.join a ys)) else none
  | _, _ => none
def mJoin (ma mb : Mi Dt) : Mi Dt := mBind ma fun x => match x with
  | .str a => mBind mb fun y => mOpt (fJoin (.str a) y)
  | _ => mBad
def rJoinA (K : PySem.W.Frag) : V → List V → Hp → VK → Prop := fun x xs H Q => ∃ a p, ∃ ys : List Str, x = .str a ∧ xs = [.ref p] ∧ (SqL K H p (ys.map V.str) ∨ SqT K H p (ys.map V.str)) ∧
      (ys.map (·.length)).sum + ys.length * a.length ≤ 16777216 ∧ Q (.str (Txt.join a ys)) H
theorem de_join (h : PE X e (tM1 (rJoinA T.K) (TMe T π W ma) (TMp T π W mb))) : PE X e (TMe T π W (mJoin ma mb)) := h.imp fun σ H Q ⟨A, F, ρ, k, p⟩ => ⟨A, F, ρ, k, p.bind.imp fun d ρ1 F1 H1 k1 r1 p1 v rv => by
  cases d with
  | str a =>
    dsimp only at p1
    refine ⟨⟨a, rv.str_inv⟩, A, F1, ρ1, k1, p1.bind.imp fun d ρ2 F2 H2 k2 r2 p2 w rw => ?_⟩
    obtain ⟨z, ez, p3⟩ := p2.opt
    have go : ∀ xs, (d = .lst xs ∨ d = .tup xs) → ((strsOf xs).bind fun ys => if (ys.map (·.length)).sum + ys.length * a.length ≤ 16777216 then some (Dt.str (Txt.join a ys)) else none) = some z → rJoinA T.K v [w] H2 Q := fun xs hd ez => by
      obtain ⟨p, vs, e1, hq, r, _⟩ := rw.seq k2.le hd
      cases hs : strsOf xs with
      | none => rw [hs] at ez; cases ez
      | some ys =>
        rw [hs] at ez
        have ez' : (if (ys.map (·.length)).sum + ys.length * a.length ≤ 16777216 then some (Dt.str (Txt.join a ys)) else none) = some z := ez
        split at ez'
        · rename_i hz
          cases ez'
          have ex := strs_inv hs
          subst ex
          have ev := reps_strs r
          subst ev
          exact ⟨a, p, ys, rv.str_inv, by rw [e1], hq, hz, p3.pure k2 _ (.str _)⟩
        · cases ez'
    cases d with
    | lst xs => exact go xs (.inl rfl) ez
    | tup xs => exact go xs (.inr rfl) ez
    | _ => cases ez
  | _ => exact p1.elim⟩
def fStr : Dt → Option Dt
  | .int i => if i.natAbs.log2 < 1920 then some (.str (toString i)) else none
  | _ => none
theorem cs_str : CaS T (fun xs H Q => ∃ i, xs = [V.int i] ∧ i.natAbs.log2 < 1920 ∧ Q (.str (toString i)) H) fStr := uns_pure fun F H v d z Q le rv ef q => by
  unfold fStr at ef
  split at ef
  · split at ef
    · cases ef; exact ⟨_, by rw [rv.int_inv], by assumption, q _ (.str _)⟩
    · cases ef
  · cases ef
/-! ### x in a list or tuple of flat things -/
end
end Dl
namespace Dl
open PySem PySem.Spec PyProof.Rows L2
section
variable {X : Cx} {T : Tx} {π : Nat → Option Pin} {W : WX} {a b c e o l : Expr} {es : List Expr} {pos p tpos : Pos} {m ma mb mc : Mi Dt} {ms : Mi (List Dt)} {A A' A0 : Addr → Prop} {F H F' H' F0 H0 : Hp} {σ : L2.St} {ρ : En} {tg : Expr} {elts : List Expr} {kk : Nat}
/-! ### {k: v for ..}, keys whole numbers and texts -/
def dcGo (g : Dt → En → Option En) (t : Mi Bool) (mk mv : Mi Dt) (vs : List Nat) : List Dt → List Dt → List Dt → En → Ou (List Dt × List Dt)
  | [], ks, ds, ρ => .ok (ks, ds) ρ
  | d :: r, ks, ds, ρ => match g d ρ with
    | none => .bad
    | some ρ1 => match t ρ1 with
      | .ok true ρ2 => (match mk ρ2 with
        | .ok x ρ3 => (match mv ρ3 with
          | .ok y ρ4 => (match keyOf false x with
            | some kx => if ks.length < sizeLine then dcGo g t mk mv vs r (dPut keyEq kx y ks ds).1 (dPut keyEq kx y ks ds).2 (wipeE ρ4 vs) else .bad
            | none => .bad)
          | _ => .bad)
        | _ => .bad)
      | .ok false ρ2 => dcGo g t mk mv vs r ks ds (wipeE ρ2 vs)
      | _ => .bad
def mDc (mi : Mi (List Dt)) (g : Dt → En → Option En) (t : Mi Bool) (mk mv : Mi Dt) (vs : List Nat) : Mi Dt := mBind mi fun ds ρ =>
  if ownAny ρ vs then .bad else match dcGo g t mk mv vs ds [] [] (wipeE ρ vs) with
    | .ok (ks, es) ρ' => .ok (.dic false ks es) (restE ρ ρ' vs)
    | _ => .bad
theorem tdc_of {g : Dt → En → Option En} {sl vs : List Nat} {mt : Mi Bool} {mk mv : Mi Dt} {Q : VK} (hsl : ∀ i ∈ sl, i ∈ vs) (h : TMn T π W (mDc ms g mt mk mv vs) σ H Q) : tDc (TMi T π W ms) (TMg T π g sl) (TMt T π W0 mt) (TMe T π W0 mk) (TMe T π W0 mv) vs σ H Q := by
  obtain ⟨A0, F, ρ, k, p⟩ := h
  refine ⟨IsOwn H σ ρ, F, ρ, k.tight, ((p.weak (A' := IsOwn H σ ρ) fun a z => k.ownA z).bind).imp fun ds ρ1 F1 H1 k1 r1 p1 J w D hD => ?_⟩
  have nA : ¬ IsOwn H σ ρ D := k.fresh_own (r1.t D hD)
  by_cases hown : ownAny ρ1 vs = true
  · rw [if_pos hown] at p1; exact p1.elim
  rw [if_neg hown] at p1
  have hown : ownAny ρ1 vs = false := by simpa using hown
  cases el : dcGo g mt mk mv vs ds [] [] (wipeE ρ1 vs) with
  | exc x r => rw [el] at p1; exact p1.elim
  | bad => rw [el] at p1; exact p1.elim
  | ok acc ρF =>
    obtain ⟨ksF, dsF⟩ := acc
    rw [el] at p1
    let Pv : Nat → Hp → Prop := fun i Hc => ∃ (F : Hp) (ρ' : En) (kd dd : List Dt) (kk : List Key) (vv : List V), Ok T π (IsOwn H σ ρ) F Hc (wipe σ vs) ρ' ∧ Fr (IsOwn H σ ρ) F1 H1 F Hc ∧ F D = none ∧ Hc D = some (.dK (kk.zip vv)) ∧ kk.length = vv.length ∧ kd = kk.map kD ∧ Reps T F vv dd ∧ dcGo g mt mk mv vs (ds.drop i) kd dd ρ' = .ok (ksF, dsF) ρF
    refine ⟨fun i m Hc => m = ds.length - i ∧ i ≤ ds.length ∧ Pv i Hc, ⟨ds.length, by simp, Nat.zero_le _, F1, wipeE ρ1 vs, [], [], [], [], (k1.newO hD).wipe vs, .newO hD, f_none k1.le hD, upd_same, rfl, rfl, .nil, el⟩, ?_⟩
    rintro i m Hc ⟨rfl, hi, F2, ρ', kd, dd, kk, vv, k2, r2, fD, hDc, hlen, hkd, rs, eg⟩
    by_cases hlt : i < ds.length
    · refine .inr ⟨w.goes i Hc hlt (le_trans r2.f k2.le), Pv (i + 1), fun H' p' => ⟨ds.length - (i + 1), by omega, rfl, hlt, p'⟩, fun x H' y => ?_⟩
      have hd : ds[i]? = some ds[i] := List.getElem?_eq_getElem hlt
      obtain ⟨F3, k3, r3, rx, l3⟩ := w.turn hd k2 r2.f y
      rw [List.drop_eq_getElem_cons hlt] at eg
      unfold dcGo at eg
      cases e1 : g ds[i] ρ' with
      | none => rw [e1] at eg; cases eg
      | some ρ2 =>
        rw [e1] at eg
        dsimp only at eg
        refine ⟨_, F3, ρ', ds[i], ρ2, k3, rx, e1, fun σ2 k4 l4 s4 => ?_⟩
        have ew : wipe σ2 vs = wipe σ vs := by
          rw [wipe_ext (σ := wipe σ vs) (σ' := σ2) l4 fun i hi => s4 i fun z => hi (hsl i z), wipe_wipe]
        refine ⟨ew, _, F3, ρ2, k4, ?_⟩
        have keep : ∀ {F5 H5 : Hp} {ρ5 : En}, Ok T π (IsOwn H σ ρ) F5 H5 σ2 ρ5 → Fr (IsOwn H σ ρ) F3 H' F5 H5 → H5 D = some (.dK (kk.zip vv)) ∧ F5 D = none ∧ Reps T F5 vv dd ∧ Fr (IsOwn H σ ρ) F1 H1 F5 H5 ∧ Ok T π (IsOwn H σ ρ) F5 H5 (wipe σ vs) (wipeE ρ5 vs) := fun {F5 H5 ρ5} k5 r5 => by
          have rr := r3.trans r5
          refine ⟨rr.h D _ nA hDc, ?_, rs.mono rr.f, r2.trans rr, by rw [← ew]; exact k5.wipe vs⟩
          rw [rr.n D _ nA hDc (fun _ z => nomatch z)]; exact fD
        cases e2 : mt ρ2 with
        | exc x r => rw [e2] at eg; cases eg
        | bad => rw [e2] at eg; cases eg
        | ok b ρ3 =>
          rw [e2] at eg
          intro F5 H5 k5 r5
          cases b with
          | false =>
            obtain ⟨q1, q2, q3, q4, q5⟩ := keep k5 r5
            exact iteF ⟨F5, _, kd, dd, kk, vv, q5, q4, q2, q1, hlen, hkd, q3, eg⟩
          | true =>
            dsimp only at eg
            refine iteT ⟨_, F5, ρ3, k5, ?_⟩
            cases e3 : mk ρ3 with
            | exc x r => rw [e3] at eg; cases eg
            | bad => rw [e3] at eg; cases eg
            | ok xk ρ4 =>
              rw [e3] at eg
              dsimp only at eg
              intro F6 H6 k6 r6 vk rvk
              refine ⟨_, F6, ρ4, k6, ?_⟩
              cases e4 : mv ρ4 with
              | exc x r => rw [e4] at eg; cases eg
              | bad => rw [e4] at eg; cases eg
              | ok yv ρ5 =>
                rw [e4] at eg
                dsimp only at eg
                intro F7 H7 k7 r7 vv' rvv
                obtain ⟨q1, q2, q3, q4, q5⟩ := keep k7 (r5.trans (r6.trans r7))
                cases hk : keyOf false xk with
                | none => rw [hk] at eg; cases eg
                | some kx =>
                  rw [hk] at eg
                  dsimp only at eg
                  by_cases hz : kd.length < sizeLine
                  · rw [if_pos hz] at eg
                    have go : ∀ kc : Key, kx = kD kc → vk = kV kc → ∃ kvs k, vk = kV k ∧ H7 D = some (.dK kvs) ∧ kvs.length < sizeLine ∧ Pv (i + 1) (upd H7 D (.dK (putK kvs k vv'))) := fun kc ek ev => by
                      subst ek
                      subst hkd
                      obtain ⟨kk', vs', w1, w2, w3, w4⟩ := put_ok (q := keyEq) (emb := kD) keyEq_k kc rvv hlen q3
                      refine ⟨_, kc, ev, q1, by rw [List.length_zip, ← hlen, Nat.min_self]; simpa using hz, F7, _, _, _, kk', vs', q5.upd_other q2 nA, ?_, q2, by rw [upd_same, w1], w2, w3, w4, eg⟩
                      exact ⟨q4.f, fun a o n e => by
                        rw [upd_ne fun z => by rw [z, hD] at e; cases e]; exact q4.h a o n e, q4.n, fun a e => q4.t a (up_none e)⟩
                    cases xk with
                    | int j => cases hk; exact go (.inl j) rfl rvk.int_inv
                    | str z => cases hk; exact go (.inr z) rfl rvk.str_inv
                    | _ => cases hk
                  · rw [if_neg hz] at eg; cases eg
    · have ei : i = ds.length := by omega
      subst ei
      rw [show ds.drop ds.length = [] from List.drop_length] at eg
      unfold dcGo at eg
      cases eg
      have k5 := k1.rest hown r2.f k2
      exact .inl ⟨w.stops Hc (le_trans r2.f k2.le), p1 F2 Hc k5 r2 D fD (fun z => nA (k5.ownA z)) (r1.t D hD) ⟨kk, vv, hDc, hlen, hkd, rs⟩ (fun _ z => nomatch z)⟩
theorem dn_dc {kx vx tg iter : Expr} {ifs : List Expr} {scope : Scope} {own : List (Str × Nat)} {g : Dt → En → Option En} {sl : List Nat} {mt : Mi Bool} {mk mv : Mi Dt} (h : PE X (.DictComp kx vx [⟨tg, iter, ifs, 0⟩] scope pos) (tDc (TMi T π W ms) (TMg T π g sl) (TMt T π W0 mt) (TMe T π W0 mk) (TMe T π W0 mv) (own.map (·.2)))) (hsl : ∀ i ∈ sl, i ∈ own.map (·.2)) :
    PE X (.DictComp kx vx [⟨tg, iter, ifs, 0⟩] scope pos) (TMn T π W (mDc ms g mt mk mv (own.map (·.2)))) := h.imp fun σ H Q q => tdc_of hsl q
/-! ### max, min of two whole numbers -/
def fMax2 : Dt → Dt → Option Dt := fI fun i j => some (.int (if j > i then j else i))
def fMin2 : Dt → Dt → Option Dt := fI fun i j => some (.int (if j < i then j else i))
theorem de_mm2 {g : Int → Int → Int} (h : PE X e (tCB (fun xs H Q => ∃ i j, xs = [V.int i, V.int j] ∧ Q (.int (g i j)) H) (tCons (TMe T π W ma) (tCons (TMe T π W mb) tNil)))) : PE X e (TMe T π W (m2 (fI fun i j => some (.int (g i j))) ma mb)) := h.imp fun σ H Q ⟨A, F, ρ, k, p⟩ =>
  ⟨A, F, ρ, k, p.bind.imp fun x ρ1 F1 H1 k1 r1 p1 v rv => ⟨A, F1, ρ1, k1, p1.bind.imp fun y ρ2 F2 H2 k2 r2 p2 w rw => by
    obtain ⟨z, ez, p3⟩ := p2.opt
    obtain ⟨i, j, e1, e2, e3⟩ := fI_inv ez
    subst e1 e2
    cases e3
    exact ⟨i, j, by rw [rv.int_inv, rw.int_inv], p3.pure k2 _ (.int _)⟩⟩⟩
end
end Dl
namespace Dl
open PySem PySem.Spec PyProof.Rows L2
/-! ### comprehensions of several clauses: the turns -/
abbrev Bd := (Shared → Prop) → (Value → Shared → Prop) → Shared → Prop
abbrev Rs := L2.St → Hp → (Hp → Prop) → Prop
def tests (ifs : List Expr) (env : Env) : Sem Bool := forIn ifs true fun c r => if r = true then (do let ok ← isTrue c env (eval c env); pure (ForInStep.yield ok)) else pure (ForInStep.yield r)
/-- how a clause's loop is proved: by a measured invariant, the inside by body -/
def LoopRule (m : Model) (A : Around) (e : Expr) (k : Nat) (acc : Value) (env : Env) (t : Expr) (ifs : List Expr) (body : Bd) : Prop :=
  ∀ (it : Value) (R : Result → Shared → Prop) (s0 : Shared) (J : Nat → Shared → Prop) (Er : Value → Shared → Prop), (∀ x s, Er x s → notedBy m A env (fun e s' => R (.error e) s') x s) →
    (∀ n s, J n s → wpAny m A (pyNext it) (fun r s1 => match r with
      | none => R (.ok .next) s1
      | some v => wpAny m A (letOwnedTupleGo t it v) (fun _ s2 => wpAny m A (assign t env v) (fun _ s3 => wpAny m A (tests ifs env) (fun ok s4 => if ok = true then body (fun s' => ∃ m, m < n ∧ J m s') Er s4 else ∃ m, m < n ∧ J m s4) Er s3) Er s2) Er s1) Er s) →
    ∀ n, J n s0 → codeAny m A (.compLoop e k it acc env) R s0
def turnN (e : Expr) (k : Nat) (it acc : Value) (env : Env) (t i : Expr) (ifs : List Expr) (i1 : Expr) : Sem Fin := do
  standAt i.pos; match ← pyNext it with
    | none => pure (.done .next)
    | some v =>
      letOwnedTupleGo t it v; assign t env v; let mut ok := true
      for c in ifs do { if ok then { ok ← isTrue c env (eval c env) } }
      if ok then
        let x ← eval i1 env; standAt i1.pos; let x ← foldedSetIterable i1 env x
        let _ ← runOwn (.compStart e (k + 1) (← holding [x] (pyIter x)) acc env) env
      again (.compLoop e k it acc env)
def turnL (e : Expr) (k : Nat) (it acc : Value) (env : Env) (t i : Expr) (ifs : List Expr) (elt : Expr) : Sem Fin := do
  standAt i.pos; match ← pyNext it with
    | none => pure (.done .next)
    | some v =>
      letOwnedTupleGo t it v; assign t env v; let mut ok := true
      for c in ifs do { if ok then { ok ← isTrue c env (eval c env) } }
      if ok then (do let _ ← call (.builtin "list.append") [acc, ← eval elt env])
      again (.compLoop e k it acc env)
section
variable {prog : Program} {w : World} {A : Around} {e elt t i i1 : Expr} {ifs : List Expr} {k : Nat} {acc : Value} {env : Env} {gs : List Comprehension} {scope : Scope} {pos : Pos}
def bNext (prog : Program) (w : World) (A : Around) (e i1 : Expr) (k : Nat) (acc : Value) (env : Env) : Bd := fun P Er s => wpAny (model prog w) A (eval i1 env) (fun x s4 => wpAny (model prog w) A (pyIter x) (fun it s5 => codeAny (model prog w) A (.compStart e k it acc env) (fun r s' => match r with | .ok _ => P s' | .error _ => False) s5) Er s4) Er s
def bLast (prog : Program) (w : World) (A : Around) (elt : Expr) (acc : Value) (env : Env) : Bd := fun P Er s => wpAny (model prog w) A (eval elt env) (fun x s4 => wpAny (model prog w) A (call (.builtin "list.append") [acc, x]) (fun _ s5 => P s5) Er s4) Er s
theorem rule_next (hT : ∀ it, compTurn (.ListComp elt gs scope pos) k it acc env = turnN (.ListComp elt gs scope pos) k it acc env t i ifs i1) (hs : ∀ x, foldedSetIterable i1 env x = pure x) : LoopRule (model prog w) A (.ListComp elt gs scope pos) k acc env t ifs (bNext prog w A (.ListComp elt gs scope pos) i1 (k + 1) acc env) := by
  intro it R s0 J Er hEr turn n hn
  refine codeAny_loop rfl J (fun n s hI => ?_) n hn
  show wpAny _ A ((compTurn (.ListComp elt gs scope pos) k it acc env).onRaise (fun x => do noteFrame x env; theTreesLotGoes x)) _ _ s
  rw [hT it]
  refine wpAny_noted (wpAny_mono (E := Er) ?_ (fun _ _ z => z) hEr)
  unfold turnN
  refine wpAny_bind (wpAny_standAt (wpAny_bind (wpAny_mono (turn n s hI) (fun r s1 q1 => ?_) fun _ _ z => z)))
  cases r with
  | none => exact wpAny_pure q1
  | some v =>
    refine wpAny_bind (wpAny_mono q1 (fun _ s2 q2 => wpAny_bind (wpAny_mono q2 (fun _ s3 q3 => wpAny_bind (wpAny_mono q3 (fun ok s4 q4 => ?_) fun _ _ z => z)) fun _ _ z => z)) fun _ _ z => z)
    cases ok with
    | false => exact wpAny_pure ⟨rfl, q4⟩
    | true =>
      refine wpAny_bind (wpAny_mono q4 (fun x s5 q5 => wpAny_bind (wpAny_standAt (wpAny_bind (wpAny_of_eq (hs x) (wpAny_bind (wpAny_holding (wpAny_mono q5 (fun it1 s6 q6 => wpAny_bind (wpAny_runOwn ?_)) fun _ _ z => z))))))) fun _ _ z => z)
      rw [Around.mark_none]
      refine codeAny_mono q6 fun r s' hr => ?_
      cases r with
      | ok f => first | exact wpAny_pure ⟨rfl, hr⟩ | exact wpAny_bind (wpAny_pure (wpAny_pure ⟨rfl, hr⟩))
      | error x => exact hr.elim
theorem rule_last (hT : ∀ it, compTurn (.ListComp elt gs scope pos) k it acc env = turnL (.ListComp elt gs scope pos) k it acc env t i ifs elt) : LoopRule (model prog w) A (.ListComp elt gs scope pos) k acc env t ifs (bLast prog w A elt acc env) := by
  intro it R s0 J Er hEr turn n hn
  refine codeAny_loop rfl J (fun n s hI => ?_) n hn
  show wpAny _ A ((compTurn (.ListComp elt gs scope pos) k it acc env).onRaise (fun x => do noteFrame x env; theTreesLotGoes x)) _ _ s
  rw [hT it]
  refine wpAny_noted (wpAny_mono (E := Er) ?_ (fun _ _ z => z) hEr)
  unfold turnL
  refine wpAny_bind (wpAny_standAt (wpAny_bind (wpAny_mono (turn n s hI) (fun r s1 q1 => ?_) fun _ _ z => z)))
  cases r with
  | none => exact wpAny_pure q1
  | some v =>
    refine wpAny_bind (wpAny_mono q1 (fun _ s2 q2 => wpAny_bind (wpAny_mono q2 (fun _ s3 q3 => wpAny_bind (wpAny_mono q3 (fun ok s4 q4 => ?_) fun _ _ z => z)) fun _ _ z => z)) fun _ _ z => z)
    cases ok with
    | false => exact wpAny_pure ⟨rfl, q4⟩
    | true => exact wpAny_bind (wpAny_bind (wpAny_mono q4 (fun x s5 q5 => wpAny_bind (wpAny_mono q5 (fun _ s6 q6 => wpAny_pure (wpAny_pure ⟨rfl, q6⟩)) fun _ _ z => z)) fun _ _ z => z))
/-- a clause's start -/
theorem start_ok {g : Comprehension} {it : Value} {R : Result → Shared → Prop} {s : Shared} (hcl : (clausesOf (.ListComp elt gs scope pos))[k]? = some g) (hg : (g.is_async != 0) = false) (h0 : codeAny (model prog w) A (.compLoop (.ListComp elt gs scope pos) k it acc env) R s)
    (h : wpAny (model prog w) A (pyIter it) (fun it' s' => codeAny (model prog w) A (.compLoop (.ListComp elt gs scope pos) k it' acc env) R s') (notedBy (model prog w) A env fun x s' => R (.error x) s') s) : codeAny (model prog w) A (.compStart (.ListComp elt gs scope pos) k it acc env) R s := by
  refine codeAny_of_tree ?_
  show wpAny _ _ ((compStart (.ListComp elt gs scope pos) k it acc env).onRaise (fun x => do noteFrame x env; standAt theWindowsPlace)) _ _ s
  refine wpAny_notedAt ?_
  unfold compStart
  rw [hcl]
  simp only [Option.elim, hg, Bool.false_eq_true, if_false]
  show wpAny _ _ (ask >>= _) _ _ s
  refine wpAny_bind (wpAny_askSetting (wpAny_ite ?_))
  split
  · first | exact wpAny_bind (wpAny_pure (wpAny_pure (And.intro rfl h0))) | exact wpAny_pure (And.intro rfl h0)
  · refine wpAny_bind (wpAny_rule ?_)
    show wpAny _ _ (standAt g.iter.pos >>= _) _ _ s
    exact wpAny_bind (wpAny_standAt (wpAny_bind (wpAny_mono h (fun it' s' z => wpAny_pure (And.intro rfl z)) fun _ _ x => x)))
end
/-! ### the loops in the block's context -/
theorem thnX {α : Type} {t : Sem α} {Q Q' : α → Shared → Prop} {M : Model} {A : Around} {E E' : Value → Shared → Prop} {s : Shared} (hx : ∀ x s, ¬ E x s) (h : wpAny M A t Q E s) (hQ : ∀ a s, Q a s → Q' a s) : wpAny M A t Q' E' s := wpAny_mono h hQ fun x s z => (hx x s z).elim
def InOk (B : Cx) (us : List Nat) (body : Bd) (rest : Rs) : Prop := ∀ (pins : List (Addr × Obj)) (s : Shared) (σ : L2.St) (H : Hp) (Nx : Hp → Prop), Inv B pins σ H s → rest σ H Nx → ∀ (P : Shared → Prop) (Er : Value → Shared → Prop), (∀ H' s', Inv B pins (wipe σ us) H' s' → Nx H' → P s') → body P Er s
def loopR (σ : L2.St) (vs : List Nat) (g : TG) (tt : TT) (rest : Rs) (J : It) (Z : Hp → Prop) (H0 : Hp) : Prop := ∃ W : Nat → Nat → Hp → Prop, (∃ m, W 0 m H0) ∧ ∀ i m H, W i m H → (J.stop i H ∧ Z H) ∨
  (J.go i H ∧ ∃ Nx : Hp → Prop, (∀ H', Nx H' → ∃ m', m' < m ∧ W (i + 1) m' H') ∧ ∀ x H', J.yld i H x H' → g x (wipe σ vs) H' fun σ2 H2 => wipe σ2 vs = wipe σ vs ∧ tt σ2 H2 fun b H3 => if b = true then rest σ2 H3 Nx else Nx H3)
def stepR (wi : TI) (g : TG) (tt : TT) (rest : Rs) (vs : List Nat) : Rs := fun σ H Nx => wi σ H fun J H1 => loopR σ vs g tt rest J Nx H1
def lastR (D : Addr) (te : TE) : Rs := fun σ H Nx => te σ H fun y H4 => ∃ acc, H4 D = some (.lst acc) ∧ acc.length < sizeLine ∧ Nx (upd H4 D (.lst (acc ++ [y])))
theorem wipe_sub {σ : L2.St} {us vs : List Nat} (h : ∀ i ∈ us, i ∈ vs) : wipe (wipe σ us) vs = wipe σ vs := wipe_ext (wipe_length σ us) fun i hi => wipe_out fun z => hi (h i z)
theorem inv_wipe {B : Cx} {pins : List (Addr × Obj)} {σ : L2.St} {H : Hp} {s : Shared} (I : Inv B pins σ H s) (vs : List Nat) : Inv B pins (wipe σ vs) H s := I.weak (wipe_length _ _) fun _ _ z => (wipe_some z).1
section
variable {B : Cx} {e elt t i1 : Expr} {ifs : List Expr} {k : Nat} {D : Addr} {g : TG} {tt : TT} {te : TE} {wi : TI} {body : Bd} {rest : Rs} {us vs : List Nat}
theorem in_last (hx : ∀ x s, ¬ B.xe x s) (he : PE B elt te) : InOk B us (bLast B.prog B.w B.A elt (.ref D) B.env) (lastR D te) := by
  intro pins s σ H Nx I h P Er hP
  refine thnX hx (he.run pins s σ H _ I h) fun z s1 ⟨yv, H1, I1, r1, acc, hD, hz, nx⟩ => ?_
  exact app_ok (X := B) I1 hD hz r1 fun s2 I2 => hP _ s2 (inv_wipe I2 us) nx
theorem loop_core {acc : Value} (hc : B.calm = true) (hx : ∀ x s, ¬ B.xe x s) (hg : PG B t g) (ht : PTs B ifs tt) (hr : LoopRule (model B.prog B.w) B.A e k acc B.env t ifs body) (hin : InOk B us body rest) (hus : ∀ i ∈ us, i ∈ vs)
    {pins : List (Addr × Obj)} {σ : L2.St} {H : Hp} {s : Shared} {it : Addr} {fp : List Addr} {tn : Nat → Heap → Prop} {J : It} {Z : Hp → Prop} (I : Inv B pins (wipe σ vs) H s) (T : Turn B.prog B.w B.K t J fp it tn) (st : tn 0 s.heap) (f : ∀ b ∈ fp, FpOk B pins H b) (q : loopR σ vs g tt rest J Z H)
    {R : Result → Shared → Prop} (hR : ∀ H' s', Inv B pins (wipe σ vs) H' s' → Z H' → R (.ok .next) s') : codeAny (model B.prog B.w) B.A (.compLoop e k (.ref it) acc B.env) R s := by
  obtain ⟨W, ⟨m0, w0⟩, turn⟩ := q
  have fo : ∀ {Hc : Hp}, (∀ b ∈ fp, Hc b = none) → ∀ b ∈ fp, FpOk B pins Hc b := fun hn b hb => ⟨hn b hb, (f b hb).2⟩
  refine hr (.ref it) R s (fun n sc => ∃ j Hc, Inv B pins (wipe σ vs) Hc sc ∧ tn j sc.heap ∧ (∀ b ∈ fp, Hc b = none) ∧ W j n Hc) (fun _ _ => False) (fun _ _ z => z.elim) ?_ m0 ⟨0, H, I, st, fun b hb => (f b hb).1, w0⟩
  rintro n sa ⟨j, Ha, Ia, sta, na, wa⟩
  rcases turn j n Ha wa with ⟨stop, z⟩ | ⟨go, Nx, hNx, step⟩
  · refine thnF (T.done B rfl rfl rfl hc j pins sa _ Ha (fun _ _ => False) Ia (fo na) sta stop) fun r sb ⟨er, Ib⟩ => ?_
    subst er
    exact hR Ha sb Ib z
  · refine thnF (T.item B rfl rfl rfl hc j pins sa _ Ha (fun _ _ => False) Ia (fo na) sta go) fun r sb ⟨u, er, hb⟩ => ?_
    subst er
    refine thnF hb fun _ sc ⟨x, Hc, Ic, rc, yc, stc, nc⟩ => ?_
    have Ip := Ic.pinned (fo nc) (T.obj _ _ stc)
    refine thnX hx (hg.run _ sc _ Hc x u _ Ip rc (step x Hc yc)) fun _ sd ⟨σd, Hd, Id, ed, qd⟩ => ?_
    refine thnX hx (ht.run _ sd σd Hd _ Id qd) fun b se ⟨He, Ie, qe⟩ => ?_
    have fin : ∀ {τ : L2.St} {sz : Shared} {Hz : Hp}, Inv B (pins ++ pinsAt fp sc.heap) τ Hz sz → wipe τ vs = wipe σ vs → Nx Hz → ∃ m, m < n ∧ ∃ j Hc, Inv B pins (wipe σ vs) Hc sz ∧ tn j sz.heap ∧ (∀ b ∈ fp, Hc b = none) ∧ W j m Hc := fun {τ sz Hz} Iz ez nx => by
      obtain ⟨m1, lt1, w1⟩ := hNx Hz nx
      have pk : ∀ b ∈ fp, ∀ o, sc.heap.get? b = some o → sz.heap.get? b = some o ∧ Hz b = none := fun b hb o eo => by
        have z := Iz.pin (b, o) (List.mem_append_right _ (List.mem_append_right _ (mem_pinsAt hb eo)))
        exact ⟨z.1, z.2.1⟩
      refine ⟨m1, lt1, j + 1, Hz, by rw [← ez]; exact inv_wipe Iz.unpinned vs, T.keep _ _ _ stc fun b hb o eo => (pk b hb o eo).1, fun b hb => ?_, w1⟩
      obtain ⟨ob, eob, _⟩ := T.obj _ _ stc b hb
      exact (pk b hb ob eob).2
    cases b with
    | false => exact iteF (fin Ie ed (by simpa using qe))
    | true =>
      refine iteT (hin _ se σd He Nx Ie (by simpa using qe) _ _ fun Hz sz Iz nx => fin Iz ?_ nx)
      rw [wipe_sub hus, ed]
theorem in_next {gs : List Comprehension} {scope : Scope} {pos : Pos} {gk : Comprehension} (hc : B.calm = true) (hx : ∀ x s, ¬ B.xe x s) (hcl : (clausesOf (.ListComp elt gs scope pos))[k]? = some gk) (has : (gk.is_async != 0) = false) (hi : PI B t i1 wi) (hg : PG B t g) (ht : PTs B ifs tt)
    (hr : LoopRule (model B.prog B.w) B.A (.ListComp elt gs scope pos) k (.ref D) B.env t ifs body) (hin : InOk B us body rest) (hus : ∀ i ∈ us, i ∈ vs) : InOk B vs (bNext B.prog B.w B.A (.ListComp elt gs scope pos) i1 k (.ref D) B.env) (stepR wi g tt rest vs) := by
  intro pins s σ H Nx I h P Er hP
  refine thnX hx (hi.run pins s σ H _ I h) fun xv s1 h1 => thnX hx h1 fun itv s2 ⟨it, fp, tn, J, H2, ei, I2, T, st2, f2, q⟩ => ?_
  subst ei
  have lp := loop_core (R := fun r s' => match r with | .ok _ => P s' | .error _ => False) hc hx hg ht hr hin hus (inv_wipe I2 vs) T st2 f2 q fun Hz sz Iz nz => hP Hz sz Iz nz
  exact start_ok hcl has lp (T.self B.A 0 _ _ _ st2 lp)
end
/-! ### the whole -/
def tLcN (wi : TI) (g : TG) (tt : TT) (rest : Addr → Rs) (vs : List Nat) : TE := fun σ H Q => wi σ H fun J H1 => ∀ D, H1 D = none → loopR σ vs g tt (rest D) J (fun Hz => Q (.ref D) Hz) (upd H1 D (.lst []))
/-- the block's context -/
abbrev BlkAll (X : Cx) (scope : Scope) (p : Cx → Prop) : Prop := ∀ (s : Shared) (H : Hp) (C : Addr) (cl : List (Str × Addr)) (fp : List Addr), p (X.blk s H scope (compEnvC scope cl C X.env) fp)
section
variable {X : Cx} {elt tg iter : Expr} {ifs : List Expr} {gs : List Comprehension} {scope : Scope} {own : List (Str × Nat)} {pos : Pos} {wi : TI} {g : TG} {tt : TT} {rest : Addr → Rs} {us : List Nat}
def InsOk (X : Cx) (e : Expr) (tg : Expr) (ifs : List Expr) (scope : Scope) (us : List Nat) (rest : Addr → Rs) : Prop := ∀ D : Addr, BlkAll X scope fun B => ∃ body, LoopRule (model B.prog B.w) B.A e 0 (.ref D) B.env tg ifs body ∧ InOk B us body (rest D)
theorem lcN_core {pins : List (Addr × Obj)} {s : Shared} {σ : L2.St} {H : Hp} {Q : VK} {pos' : Pos} {use : Option (Value → Sem Unit)} {Qf : Value → Shared → Prop} (hc : X.calm = true) (hN : X.N.Nodup) (I : Inv X pins σ H s) (hi : PI X tg iter wi) (ok : BlkOk X.N X.env.scope scope own) (hus : ∀ i ∈ us, i ∈ own.map (·.2))
    (hg : BlkAll X scope fun B => PG B tg g) (ht : BlkAll X scope fun B => PTs B ifs tt) (hin : InsOk X (.ListComp elt (⟨tg, iter, ifs, 0⟩ :: gs) scope pos) tg ifs scope us rest) (hs : ∀ x, foldedSetIterable iter X.env x = pure x) (h : tLcN wi g tt rest (own.map (·.2)) σ H Q)
    (hRR : ∀ D C s' m H', Inv X pins σ H' s' → Q (.ref D) H' → s'.heap.Ns C m → FpOk X pins H' C → compPost (model X.prog X.w) X.A X.xe use Qf (.ref D) C (.ok .next) s') :
    wpAny (model X.prog X.w) X.A (comprehension (.ListComp elt (⟨tg, iter, ifs, 0⟩ :: gs) scope pos) scope X.env pos' (newList []) false (eval iter X.env) use) Qf X.xe s := by
  have hfr : ∀ y ∈ scope.names, y.2 = .free → ∃ c, X.env.cells.lookup y.1 = some c := fun y hy e => (ok.free y hy e).elim (fun z => I.ok.has _ (.inl z)) fun z => I.ok.has _ (.inr z)
  refine wpAny_comprehension_free (use := use) rfl hs (closure_ok hfr) ok.kind (fun y hy e => by rw [ok.uniq y hy, e]) (thn (hi.run pins s σ H _ I h) fun xv sa ha => thn ha fun itv sb hb => ?_)
  obtain ⟨it, fp, tn, J, Hb, ei, Ib, T, stb, fb, q⟩ := hb
  subst ei
  refine wpAny_newObj_type (newEnv_comp ?_) (by show 0 ≤ sizeLine; decide)
  generalize eD : sb.heap.objs.size = D
  have nD : Hb D = none := Ib.hok.fresh (Nat.le_of_eq eD)
  have qD := q D nD
  generalize esc : ({ sb with heap := sb.heap.push { cls := .type "list", data := .seq ([] : List Value).toArray } } : Shared) = sc
  have hpc : sc.heap = sb.heap.push { cls := .type "list", data := .seq ([] : List Value).toArray } := by rw [← esc]
  have Ic : Inv X pins σ (upd Hb D (.lst [])) sc := by
    rw [← esc]
    refine Ib.laid (t' := sb.toks) (fun b o e => Heap.get?_push_of_some _ e) (Nat.le_of_eq eD) ⟨Nat.zero_le _, [], 0, .nil, ?_⟩
    rw [← eD]; exact Heap.get?_push_size _ rfl
  have fc : ∀ b ∈ fp, FpOk X pins (upd Hb D (.lst [])) b ∧ b < sc.heap.objs.size := fun b hb => by
    obtain ⟨o, eo, _⟩ := T.obj _ _ stb b hb
    have lt := Heap.lt_size eo
    refine ⟨⟨?_, (fb b hb).2⟩, by rw [hpc, Heap.size_push]; exact Nat.lt_succ_of_lt lt⟩
    rw [upd_ne (by rw [← eD]; exact Nat.ne_of_lt lt)]; exact (fb b hb).1
  have stc : tn 0 sc.heap := T.keep _ _ _ stb fun b _ o e => by rw [hpc]; exact Heap.get?_push_of_some _ e
  have Id := block_start Ic ok hN fc
  generalize ecl : cellsFrom (sc.heap.objs.size + 1) scope.names (cloFrom X.env.cells scope.names []) = cl at Id ⊢
  have pg := hg sc (upd Hb D (.lst [])) sc.heap.objs.size cl fp
  have pt := ht sc (upd Hb D (.lst [])) sc.heap.objs.size cl fp
  obtain ⟨body, rule, inn⟩ := hin D sc (upd Hb D (.lst [])) sc.heap.objs.size cl fp
  show codeAny _ _ (.compStart (.ListComp elt (⟨tg, iter, ifs, 0⟩ :: gs) scope pos) 0 (.ref it) (.ref D) (compEnvC scope cl sc.heap.objs.size X.env)) (compPost (model X.prog X.w) X.A X.xe use Qf (.ref D) sc.heap.objs.size) { sc with heap := pushCells (sc.heap.push { cls := .type "dict", data := .dict #[] }) scope.names }
  generalize ece : compEnvC scope cl sc.heap.objs.size X.env = ce at Id pg pt rule inn ⊢
  have lL : ce.locals = sc.heap.objs.size := by subst ece; rfl
  generalize eHc : upd Hb D (.lst []) = Hc at Ic Id pg pt qD rule inn fc
  generalize esd : ({ sc with heap := pushCells (sc.heap.push { cls := .type "dict", data := .dict #[] }) scope.names } : Shared) = sd at Id ⊢
  have std : tn 0 sd.heap := T.keep _ _ _ stc fun b _ o e => by rw [← esd]; exact pushCells_keeps _ _ _ _ (Heap.get?_push_of_some _ e)
  have fd : ∀ b ∈ fp, FpOk (X.blk sc Hc scope ce fp) [] Hc b := fun b hb => ⟨(fc b hb).1.1, (Id.ok.exf b hb).1, Id.ok.exfs b hb, .inl hb, fun x c e => (Id.ok.exf b hb).2 x c e, fun p hp => absurd (show p ∈ ([] : List (Addr × Obj)) ++ [] from hp) (by simp)⟩
  have lp := loop_core (B := X.blk sc Hc scope ce fp) (R := compPost (model X.prog X.w) X.A X.xe use Qf (.ref D) sc.heap.objs.size) hc (fun _ _ z => z) pg pt rule inn hus Id T std fd qD fun Hz sz Iz nz => by
    have Iy : Inv X pins σ Hz sz := Ic.call' (ch := fp) Iz.os Iz.base Iz.hok Iz.bare fun b hb => ⟨(fc b hb).1.2.2.2.1, (fc b hb).1.2.1, (fc b hb).1.2.2.2.2.1, (fc b hb).1.2.2.2.2.2⟩
    have zL : Hz ce.locals = none := Iz.free
    rw [lL] at zL
    obtain ⟨m, hn, _⟩ := Iz.loc
    have hn : sz.heap.Ns ce.locals m := hn
    rw [lL] at hn
    exact hRR D sc.heap.objs.size sz m Hz Iy nz hn (Ic.fpOk (Nat.le_refl _) zL)
  exact codeAny_compStart_list lp (T.self X.A 0 _ _ _ std lp)
theorem pe_lcN (hc : X.calm = true) (hN : X.N.Nodup) (hi : PI X tg iter wi) (ok : BlkOk X.N X.env.scope scope own) (hus : ∀ i ∈ us, i ∈ own.map (·.2)) (hg : BlkAll X scope fun B => PG B tg g) (ht : BlkAll X scope fun B => PTs B ifs tt)
    (hin : InsOk X (.ListComp elt (⟨tg, iter, ifs, 0⟩ :: gs) scope pos) tg ifs scope us rest) (hs : ∀ x, foldedSetIterable iter X.env x = pure x := by intro _; rfl) : PE X (.ListComp elt (⟨tg, iter, ifs, 0⟩ :: gs) scope pos) (tLcN wi g tt rest (own.map (·.2))) := by
  refine ⟨fun pins s σ H Q I h => ?_⟩
  rw [eval_ListComp]
  refine lcN_core hc hN I hi ok hus hg ht hin hs h fun D C sz m Hz Iz q hn f => ⟨m, hn, fun h2 sb => ?_⟩
  obtain ⟨f0, f1, f2, f3, f4, f5⟩ := f
  exact ⟨.ref D, Hz, Iz.turned (t' := sz.toks) (fun b o hb e => (sb.2 b hb).trans e) f0 f1 f3 f4 f5, rfl, q⟩
end
end Dl
namespace Dl
open PySem PySem.Spec PyProof.Rows L2
section
variable {X : Cx} {T : Tx} {π : Nat → Option Pin} {W : WX} {m ma mb mc : Mi Dt} {ms : Mi (List Dt)} {A A' : Addr → Prop} {F H F' H' F0 H0 F1 H1 : Hp} {σ : L2.St} {ρ : En}
/-! ### the mirrors -/
abbrev Mc := List Dt → Mi (List Dt)
def liGo (g : Dt → En → Option En) (t : Mi Bool) (I : Mc) (vs : List Nat) : List Dt → List Dt → En → Ou (List Dt)
  | [], acc, ρ => .ok acc ρ
  | d :: ds, acc, ρ => match g d ρ with
    | none => .bad
    | some ρ1 => match t ρ1 with
      | .ok true ρ2 => (match I acc ρ2 with
        | .ok acc2 ρ3 => liGo g t I vs ds acc2 (wipeE ρ3 vs)
        | _ => .bad)
      | .ok false ρ2 => liGo g t I vs ds acc (wipeE ρ2 vs)
      | _ => .bad
def iLast (e : Mi Dt) : Mc := fun acc => mBind e fun y => if acc.length < sizeLine then mPure (acc ++ [y]) else mBad
def iNext (mi : Mi (List Dt)) (g : Dt → En → Option En) (t : Mi Bool) (I : Mc) (vs : List Nat) : Mc := fun acc => mBind mi fun ds ρ => liGo g t I vs ds acc (wipeE ρ vs)
def mLcN (mi : Mi (List Dt)) (g : Dt → En → Option En) (t : Mi Bool) (I : Mc) (vs : List Nat) : Mi Dt := mBind mi fun ds ρ =>
  if ownAny ρ vs then .bad else match liGo g t I vs ds [] (wipeE ρ vs) with
    | .ok acc ρ' => .ok (.lst acc) (restE ρ ρ' vs)
    | _ => .bad
/-- the inside of a clause: the list at D grows from acc to what the mirror says -/
def TMc (T : Tx) (π : Nat → Option Pin) (D : Addr) (I : Mc) (us : List Nat) : Rs := fun σ H Nx => ∃ A F1 H1 F ρ acc vacc acc2 ρ2, H1 D = none ∧ ¬ A D ∧ Fr A F1 H1 F H ∧ Ok T π A F H σ ρ ∧ F D = none ∧ H D = some (.lst vacc) ∧ Reps T F vacc acc ∧ I acc ρ = .ok acc2 ρ2 ∧
  ∀ F' H' vacc', Ok T π A F' H' (wipe σ us) ρ2 → Le F F' → Fr A F1 H1 F' H' → F' D = none → H' D = some (.lst vacc') → Reps T F' vacc' acc2 → Nx H'
theorem tmc_last {D : Addr} {me : Mi Dt} {Nx : Hp → Prop} (h : TMc T π D (iLast me) [] σ H Nx) : lastR D (TMe T π W0 me) σ H Nx := by
  obtain ⟨A, F1, H1, F, ρ, acc, vacc, acc2, ρ2, hD1, nA, r, k, fD, hD, rs, e, q⟩ := h
  refine ⟨A, F, ρ, k, ?_⟩
  unfold iLast mBind at e
  cases e1 : me ρ with
  | exc x r => rw [e1] at e; cases e
  | bad => rw [e1] at e; cases e
  | ok y ρ3 =>
    rw [e1] at e
    dsimp only at e
    intro F6 H6 k6 r6 v rv
    by_cases hz : acc.length < sizeLine
    · rw [if_pos hz] at e
      cases e
      have h6 : H6 D = some (.lst vacc) := r6.h D _ nA hD
      have f6 : F6 D = none := by rw [r6.n D _ nA hD (fun _ z => nomatch z)]; exact fD
      have rr := r.trans r6
      refine ⟨vacc, h6, by rw [rs.length]; exact hz, q F6 _ (vacc ++ [v]) (k6.upd_other f6 nA) r6.f ?_ f6 upd_same ((rs.mono r6.f).append (.cons rv .nil))⟩
      exact ⟨rr.f, fun a o n e => by
        rw [upd_ne fun z => by rw [z, hD1] at e; cases e]; exact rr.h a o n e, rr.n, fun a e => rr.t a (up_none e)⟩
    · rw [if_neg hz] at e; cases e
/-- a clause's loop -/
theorem loop_of {J : It} {ds : List Dt} {Fs F2 H2 : Hp} {g : Dt → En → Option En} {sl us vs : List Nat} {mt : Mi Bool} {I : Mc} {D : Addr} {acc accF : List Dt} {vacc : List V} {ρF : En} {Z : Hp → Prop} (hsl : ∀ i ∈ sl, i ∈ vs) (hus : ∀ i ∈ us, i ∈ vs) (w : Wk T J ds Fs)
    (k : Ok T π A F2 H2 (wipe σ vs) ρ) (lf : Le Fs F2) (hD1 : H1 D = none) (nA : ¬ A D) (r : Fr A F1 H1 F2 H2) (fD : F2 D = none) (hD : H2 D = some (.lst vacc)) (rs : Reps T F2 vacc acc) (el : liGo g mt I vs ds acc ρ = .ok accF ρF)
    (fin : ∀ F' H' vacc', Ok T π A F' H' (wipe σ vs) ρF → Le Fs F' → Fr A F1 H1 F' H' → F' D = none → H' D = some (.lst vacc') → Reps T F' vacc' accF → Z H') : loopR σ vs (TMg T π g sl) (TMt T π W0 mt) (TMc T π D I us) J Z H2 := by
  refine ⟨fun i mm Hc => mm = ds.length - i ∧ i ≤ ds.length ∧ ∃ F ρ' acc vacc, Ok T π A F Hc (wipe σ vs) ρ' ∧ Le Fs F ∧ Fr A F1 H1 F Hc ∧ F D = none ∧ Hc D = some (.lst vacc) ∧ Reps T F vacc acc ∧ liGo g mt I vs (ds.drop i) acc ρ' = .ok accF ρF,
    ⟨_, rfl, Nat.zero_le _, F2, ρ, acc, vacc, k, lf, r, fD, hD, rs, el⟩, ?_⟩
  rintro i mm Hc ⟨em, hi, F3, ρ', acc3, vacc3, k3, l3, r3, fD3, hD3, rs3, eg⟩
  by_cases hlt : i < ds.length
  · refine .inr ⟨w.goes i Hc hlt (le_trans l3 k3.le), fun Hn => ∃ F ρ' acc vacc, Ok T π A F Hn (wipe σ vs) ρ' ∧ Le Fs F ∧ Fr A F1 H1 F Hn ∧ F D = none ∧ Hn D = some (.lst vacc) ∧ Reps T F vacc acc ∧ liGo g mt I vs (ds.drop (i + 1)) acc ρ' = .ok accF ρF, fun Hn hn => ⟨ds.length - (i + 1), by omega, rfl, hlt, hn⟩, fun x Hy y => ?_⟩
    have hd : ds[i]? = some ds[i] := List.getElem?_eq_getElem hlt
    obtain ⟨F4, k4, r4, rx, l4⟩ := w.turn hd k3 l3 y
    rw [List.drop_eq_getElem_cons hlt] at eg
    unfold liGo at eg
    cases e1 : g ds[i] ρ' with
    | none => rw [e1] at eg; cases eg
    | some ρ5 =>
      rw [e1] at eg
      dsimp only at eg
      refine ⟨_, F4, ρ', ds[i], ρ5, k4, rx, e1, fun σ2 k5 l5 s5 => ?_⟩
      have ew : wipe σ2 vs = wipe σ vs := by
        rw [wipe_ext (σ := wipe σ vs) (σ' := σ2) l5 fun i hi => s5 i fun z => hi (hsl i z), wipe_wipe]
      refine ⟨ew, _, F4, ρ5, k5, ?_⟩
      have r14 := r3.trans r4
      have hD4 : Hy D = some (.lst vacc3) := r4.h D _ nA hD3
      have fD4 : F4 D = none := by rw [r4.n D _ nA hD3 (fun _ z => nomatch z)]; exact fD3
      cases e2 : mt ρ5 with
      | exc x r => rw [e2] at eg; cases eg
      | bad => rw [e2] at eg; cases eg
      | ok b ρ6 =>
        rw [e2] at eg
        intro F6 H6 k6 r6
        have hD6 : H6 D = some (.lst vacc3) := r6.h D _ nA hD4
        have fD6 : F6 D = none := by rw [r6.n D _ nA hD4 (fun _ z => nomatch z)]; exact fD4
        have rs6 : Reps T F6 vacc3 acc3 := (rs3.mono r4.f).mono r6.f
        cases b with
        | false => exact iteF ⟨F6, _, acc3, vacc3, by rw [← ew]; exact k6.wipe vs, le_trans l4 r6.f, r14.trans r6, fD6, hD6, rs6, eg⟩
        | true =>
          dsimp only at eg
          cases e3 : I acc3 ρ6 with
          | exc x r => rw [e3] at eg; cases eg
          | bad => rw [e3] at eg; cases eg
          | ok acc7 ρ7 =>
            rw [e3] at eg
            refine iteT ⟨A, F1, H1, F6, ρ6, acc3, vacc3, acc7, ρ7, hD1, nA, r14.trans r6, k6, fD6, hD6, rs6, e3, fun F8 H8 vacc8 k8 f8 r8 fD8 hD8 rs8 => ?_⟩
            refine ⟨F8, wipeE ρ7 vs, acc7, vacc8, ?_, ?_, r8, fD8, hD8, rs8, eg⟩
            · have z := k8.wipe vs
              rw [wipe_sub hus, ew] at z
              exact z
            · exact le_trans (le_trans l4 r6.f) f8
  · have ei : i = ds.length := by omega
    subst ei
    have e : ds.drop ds.length = [] := List.drop_length
    rw [e] at eg
    unfold liGo at eg
    cases eg
    exact .inl ⟨w.stops Hc (le_trans l3 k3.le), fin F3 Hc vacc3 k3 l3 r3 fD3 hD3 rs3⟩
theorem tmc_next {g : Dt → En → Option En} {sl us vs : List Nat} {mt : Mi Bool} {I : Mc} {D : Addr} {Nx : Hp → Prop} (hsl : ∀ i ∈ sl, i ∈ vs) (hus : ∀ i ∈ us, i ∈ vs) (h : TMc T π D (iNext ms g mt I vs) vs σ H Nx) : stepR (TMi T π W0 ms) (TMg T π g sl) (TMt T π W0 mt) (TMc T π D I us) vs σ H Nx := by
  obtain ⟨A, F1, H1, F, ρ, acc, vacc, acc2, ρ2, hD1, nA, r, k, fD, hD, rs, e, q⟩ := h
  refine ⟨A, F, ρ, k, ?_⟩
  unfold iNext mBind at e
  cases e1 : ms ρ with
  | exc x r => rw [e1] at e; cases e
  | bad => rw [e1] at e; cases e
  | ok ds ρ3 =>
    rw [e1] at e
    dsimp only at e
    intro F6 H6 k6 r6 J w
    refine loop_of hsl hus w (k6.wipe vs) (le_refl F6) hD1 nA (r.trans r6) ?_ (r6.h D _ nA hD) (rs.mono r6.f) e fun F' H' vacc' k' l' r' fD' hD' rs' => q F' H' vacc' k' (le_trans r6.f l') r' fD' hD' rs'
    rw [r6.n D _ nA hD (fun _ z => nomatch z)]; exact fD
theorem tlcN_of {g : Dt → En → Option En} {sl us vs : List Nat} {mt : Mi Bool} {I : Mc} {Q : VK} (hsl : ∀ i ∈ sl, i ∈ vs) (hus : ∀ i ∈ us, i ∈ vs) (h : TMn T π W (mLcN ms g mt I vs) σ H Q) : tLcN (TMi T π W ms) (TMg T π g sl) (TMt T π W0 mt) (fun D => TMc T π D I us) vs σ H Q := by
  obtain ⟨A0, F, ρ, k, p⟩ := h
  refine ⟨IsOwn H σ ρ, F, ρ, k.tight, ((p.weak (A' := IsOwn H σ ρ) fun a z => k.ownA z).bind).imp fun ds ρ1 F1 H1 k1 r1 p1 J w D hD => ?_⟩
  have nA : ¬ IsOwn H σ ρ D := k.fresh_own (r1.t D hD)
  by_cases hown : ownAny ρ1 vs = true
  · rw [if_pos hown] at p1; exact p1.elim
  · rw [if_neg hown] at p1
    have hown : ownAny ρ1 vs = false := by simpa using hown
    cases el : liGo g mt I vs ds [] (wipeE ρ1 vs) with
    | exc x r => rw [el] at p1; exact p1.elim
    | bad => rw [el] at p1; exact p1.elim
    | ok accF ρF =>
      rw [el] at p1
      refine loop_of hsl hus w ((k1.newO hD).wipe vs) (le_refl F1) hD nA (.newO hD) (f_none k1.le hD) upd_same .nil el fun F' H' vacc' k' l' r' fD' hD' rs' => ?_
      have k5 := k1.rest hown r'.f k'
      exact p1 F' H' k5 r' D fD' (fun z => nA (k5.ownA z)) (r1.t D hD) ⟨vacc', hD', rs'⟩ (fun _ z => nomatch z)
/-! ### in the form that one prints -/
theorem dn_lcN {elt tg iter : Expr} {ifs : List Expr} {gs : List Comprehension} {scope : Scope} {pos : Pos} {own : List (Str × Nat)} {g : Dt → En → Option En} {sl us : List Nat} {mt : Mi Bool} {I : Mc} (h : PE X (.ListComp elt (⟨tg, iter, ifs, 0⟩ :: gs) scope pos) (tLcN (TMi T π W ms) (TMg T π g sl) (TMt T π W0 mt) (fun D => TMc T π D I us) (own.map (·.2))))
    (hsl : ∀ i ∈ sl, i ∈ own.map (·.2)) (hus : ∀ i ∈ us, i ∈ own.map (·.2)) : PE X (.ListComp elt (⟨tg, iter, ifs, 0⟩ :: gs) scope pos) (TMn T π W (mLcN ms g mt I (own.map (·.2)))) := h.imp fun σ H Q q => tlcN_of hsl hus q
/-- three -/
theorem ins3 {elt t0 i0 t1 i1 t2 i2 : Expr} {f0 f1 f2 : List Expr} {scope : Scope} {pos : Pos} {g1 g2 : Dt → En → Option En} {s1 v1 s2 v2 : List Nat} {mt1 mt2 : Mi Bool} {m1 m2 : Mi (List Dt)} {me : Mi Dt} (hc : X.calm = true) (hi : BlkAll X scope fun B => PI B t1 i1 (TMi T π W0 m1)) (hg : BlkAll X scope fun B => PG B t1 (TMg T π g1 s1)) (ht : BlkAll X scope fun B => PTs B f1 (TMt T π W0 mt1))
    (hi2 : BlkAll X scope fun B => PI B t2 i2 (TMi T π W0 m2)) (hg2 : BlkAll X scope fun B => PG B t2 (TMg T π g2 s2)) (ht2 : BlkAll X scope fun B => PTs B f2 (TMt T π W0 mt2)) (he : BlkAll X scope fun B => PE B elt (TMe T π W0 me)) (h1 : ∀ i ∈ s1, i ∈ v1) (h2 : ∀ i ∈ s2, i ∈ v2) (h12 : ∀ i ∈ v2, i ∈ v1)
    (hs1 : ∀ env x, foldedSetIterable i1 env x = pure x := by intro _ _; rfl) (hs2 : ∀ env x, foldedSetIterable i2 env x = pure x := by intro _ _; rfl) :
    InsOk X (.ListComp elt [⟨t0, i0, f0, 0⟩, ⟨t1, i1, f1, 0⟩, ⟨t2, i2, f2, 0⟩] scope pos) t0 f0 scope v1 (fun D => TMc T π D (iNext m1 g1 mt1 (iNext m2 g2 mt2 (iLast me) v2) v1) v1) := fun D s H C cl fp => by
  refine ⟨_, rule_next (fun _ => rfl) (hs1 _), fun pins s3 σ H3 Nx I h => ?_⟩
  exact in_next (B := X.blk s H scope (compEnvC scope cl C X.env) fp) (us := v2) hc (fun _ _ z => z) rfl rfl (hi s H C cl fp) (hg s H C cl fp) (ht s H C cl fp) (rule_next (fun _ => rfl) (hs2 _))
    (fun pins s3 σ H3 Nx I h => in_next (B := X.blk s H scope (compEnvC scope cl C X.env) fp) (us := []) hc (fun _ _ z => z) rfl rfl (hi2 s H C cl fp) (hg2 s H C cl fp) (ht2 s H C cl fp) (rule_last fun _ => rfl) (fun pins s4 σ H4 Nx I h => in_last (fun _ _ z => z) (he s H C cl fp) pins s4 σ H4 Nx I (tmc_last h)) (fun _ z => nomatch z) pins s3 σ H3 Nx I (tmc_next h2 (fun _ z => nomatch z) h))
    h12 pins s3 σ H3 Nx I (tmc_next h1 h12 h)
end
end Dl
namespace Dl
open PySem PySem.Spec PyProof.Rows L2
/-! ### {k: v for ..}, keys of either kind -/
section
variable {X : Cx} {T : Tx} {π : Nat → Option Pin} {W : WX} {a b c e o l : Expr} {es : List Expr} {pos p tpos : Pos} {m ma mb mc : Mi Dt} {ms : Mi (List Dt)} {A A' A0 : Addr → Prop} {F H F' H' F0 H0 : Hp} {σ : L2.St} {ρ : En} {tg : Expr}
/-! ### x in a list or tuple of data -/
def rInA (K : PySem.W.Frag) : R2 := fun x y H Q => ∃ d ds, Dp K H x d ∧ (Dp K H y (.list ds) ∨ Dp K H y (.tuple ds)) ∧ SeqAt.shaped d = true ∧ d.depth ≤ 60 ∧ SeqAt.shaped (.list ds) = true ∧ Q (.bl (ds.any fun z => PyData.eqv z d)) H
theorem op_inA (hu : X.A.units + 64 < cLine) : OpR X (compareOp .In) (rInA X.K) := by
  rintro pins s σ H x y v u Q I rx ry ⟨d, ds, hd, he, sd, hdep, se, q⟩
  obtain ⟨as, r1⟩ := Dp.reads I d x v hd rx
  rcases he with he | he
  · obtain ⟨bs, r2⟩ := Dp.reads I _ y u he ry
    exact SeqAt.in_list_reads r2 r1 (SeqAt.canLay_of_shaped se) (SeqAt.canLay_of_shaped sd) (by have := Nat.min_le_right (PyData.depthAll ds) d.depth; omega) ⟨.bl _, H, I, rfl, q⟩
  · obtain ⟨bs, r2⟩ := Dp.reads I _ y u he ry
    exact SeqAt.in_tuple_reads r2 r1 (SeqAt.canLay_of_shaped se) (SeqAt.canLay_of_shaped sd) (by have := Nat.min_le_right (PyData.depthAll ds) d.depth; omega) ⟨.bl _, H, I, rfl, q⟩
def itemsD : Dt → Option (List Dt)
  | .lst xs => some xs
  | .tup xs => some xs
  | _ => none
def dIn (x d : Dt) : Option Bool := match toPy x, (itemsD d).bind toPys with
  | some p, some ps => if SeqAt.shaped p && decide (p.depth ≤ 60) && SeqAt.shaped (.list ps) then some (ps.any fun z => PyData.eqv z p) else none
  | _, _ => none
def fInA (x d : Dt) : Option Dt := (dIn x d).map .bl
theorem dIn_inv {x d : Dt} {b : Bool} {v w : V} (le : Le F H) (rv : RepS T F H v x) (rw : RepS T F H w d) (h : dIn x d = some b) : ∃ p ps, Dp T.K H v p ∧ (Dp T.K H w (.list ps) ∨ Dp T.K H w (.tuple ps)) ∧ SeqAt.shaped p = true ∧ p.depth ≤ 60 ∧ SeqAt.shaped (.list ps) = true ∧ (ps.any fun z => PyData.eqv z p) = b := by
  unfold dIn at h
  split at h
  · rename_i p ps e1 e2
    split at h
    · rename_i hs
      cases h
      rw [Bool.and_eq_true_iff, Bool.and_eq_true_iff] at hs
      refine ⟨p, ps, dp_ofS le rv e1, ?_, hs.1.1, by simpa using hs.1.2, hs.2, rfl⟩
      cases d with
      | lst xs => exact .inl (dp_ofS le rw (by unfold toPy; rw [show toPys xs = some ps from e2]; rfl))
      | tup xs => exact .inr (dp_ofS le rw (by unfold toPy; rw [show toPys xs = some ps from e2]; rfl))
      | _ => cases e2
    · cases h
  · cases h
theorem os_inA : OpS T (rInA T.K) fInA := ops_pure fun F H v w d e z Q le rv rw ef q => by
  unfold fInA at ef
  cases h : dIn d e with
  | none => rw [h] at ef; cases ef
  | some b =>
    rw [h] at ef
    cases ef
    obtain ⟨p, ps, h1, h2, h3, h4, h6, h5⟩ := dIn_inv le rv rw h
    subst h5
    exact ⟨p, ps, h1, h2, h3, h4, h6, q _ (.bl _)⟩
/-! ### pop -/
end
end Dl
namespace Dl
open PySem PySem.Spec PyProof.Rows L2
/-! ### a def with defaults -/
section
variable {P : Program} {w : World} {K : PySem.W.Frag} {mg : Str → Option Value} {base : Heap}
theorem fun_okD {x qual : Str} {st : Stmt} {f : Addr} {fd : FuncData} {N ps : List Str} {k : Nat} {cl : Nat → Option (Addr × List Str)} {io rn : Bool} {body : En → So} {dvs : List V} {kws : List (Str × V)} (F : FunD K x qual (defArgs st) (defBody st) (defScope st) dvs kws f fd) (S : FnScope N ps (defScope st)) (hN : ps.length ≤ N.length)
    (hb : ∀ (cdv : Value) (A : Around) (outer : List Env) (s : Shared) (H : Hp) (E : XK) (π : Nat → Option Pin), Room k (A.deeper (envOfC qual (defScope st) s.heap.objs.size f cdv)) →
      PSs (cxOf (L2.CX P w) P w K mg base N qual (defScope st) f cdv A outer s H E) (defBody st) (TMs ⟨K, cl⟩ π (fun cls d _ H => E cls d H) body)) :
    FnOk P w K mg base (L2.CX P w) (k + 1) f fd ps (spM ⟨K, cl⟩ ps.length io rn (runF N.length io rn body)) := by
  refine F.ok S (fun vs H Q E h => ?_) (fun cdv A outer s H vs Q E hr h => ?_)
  · obtain ⟨F, ds, π0, hl, _⟩ := h
    exact hl
  · obtain ⟨F0, ds, π0, hl, le, ha, q⟩ := h
    refine ⟨_, hb cdv A outer s H E (pi0 π0) hr, _, F0, H, F0, _, ok_start (by rw [hl]; exact hN) le ha, ?_⟩
    unfold runF at q
    cases eb : body (argE io ds ++ List.replicate (N.length - ds.length) none) with
    | nx ρ =>
      rw [eb] at q
      dsimp only at q
      cases eo : ioOut io ρ with
      | none => rw [eo] at q; exact q.elim
      | some o =>
        rw [eo] at q
        cases rn with
        | true => exact q.elim
        | false => exact fun σ' F' H' k' => q F' H' .non k'.ok.le k'.fr (io_end ha k' eo) .non
    | rt d ρ =>
      rw [eb] at q
      dsimp only at q
      cases eo : ioOut io ρ with
      | none => rw [eo] at q; exact q.elim
      | some o =>
        rw [eo] at q
        cases rn with
        | true => exact q.elim
        | false => exact fun σ' F' H' v k' rv => q F' H' v k'.ok.le k'.fr (io_end ha k' eo) rv
    | rtN d ρ =>
      rw [eb] at q
      dsimp only at q
      cases eo : ioOut io ρ with
      | none => rw [eo] at q; exact q.elim
      | some o =>
        rw [eo] at q
        cases rn with
        | false => exact q.elim
        | true => exact fun σ' F' H' p k' h1 h2 h3 h4 h5 => q F' H' (.ref p) k'.ok.le k'.fr (io_end ha k' eo) ⟨p, rfl, h1, rtn_new ha k' eo h2 h3, h4, fun y hy => ⟨(h5 y hy).1, rtn_new ha k' eo (h5 y hy).2.1 (h5 y hy).2.2⟩⟩
    | exc x ρ =>
      rw [eb] at q
      dsimp only at q
      cases eo : ioOut io ρ with
      | none => rw [eo] at q; exact q.elim
      | some o =>
        rw [eo] at q
        exact fun σ' F' H' c d k' rx => q F' H' c d k'.ok.le k'.fr (io_end ha k' eo) rx
    | bk ρ => rw [eb] at q; exact q.elim
    | ct ρ => rw [eb] at q; exact q.elim
    | bad => rw [eb] at q; exact q.elim
theorem fun_okD2 {x qual : Str} {st : Stmt} {f : Addr} {fd : FuncData} {N ps : List Str} {k n : Nat} {cl : Nat → Option (Addr × List Str)} {io rn : Bool} {body : En → So} {fm : List Dt → Fo} {dvs : List V} {kws : List (Str × V)} (F : FunD K x qual (defArgs st) (defBody st) (defScope st) dvs kws f fd) (S : FnScope N ps (defScope st)) (hN : ps.length ≤ N.length) (hn : n = ps.length) (hm : fm = runF N.length io rn body)
    (hb : ∀ (cdv : Value) (A : Around) (outer : List Env) (s : Shared) (H : Hp) (E : XK) (π : Nat → Option Pin), Room k (A.deeper (envOfC qual (defScope st) s.heap.objs.size f cdv)) →
      PSs (cxOf (L2.CX P w) P w K mg base N qual (defScope st) f cdv A outer s H E) (defBody st) (TMs ⟨K, cl⟩ π (fun cls d _ H => E cls d H) body)) :
    FnOk P w K mg base (L2.CX P w) (k + 1) f fd ps (spM ⟨K, cl⟩ n io rn fm) := by
  subst hn hm
  exact fun_okD F S hN hb
/-- its default is () -/
theorem funD_mk {x qual : Str} {st : Stmt} {f tT tE : Addr} {oc tc : Value} {od an td : Option Addr} {osl ts : Array (Option Value)} {kV doc pm cdv ct : Value} {tn : Nat} (l : K.lookup f = some ⟨oc, od, .func (PySem.W.fnOf x qual (defArgs st) (defBody st) (defScope st) (.ref tT) kV doc pm an cdv ct), osl⟩)
    (c : PySem.W.codeIn K cdv qual = true) (k : PySem.W.keepIn K (.ref f) = true) (lt : K.lookup tT = some ⟨tc, td, .seq #[.ref tE] tn, ts⟩) : FunD K x qual (defArgs st) (defBody st) (defScope st) [V.ref tE] [] f (PySem.W.fnOf x qual (defArgs st) (defBody st) (defScope st) (.ref tT) kV doc pm an cdv ct) :=
  ⟨⟨oc, od, .ref tT, kV, doc, pm, an, cdv, ct, osl, rfl, l, c, .inr ⟨(fun z => nomatch z), tT, _, [.ref tE], tn, rfl, lt, rfl, .cons rfl .nil⟩, .inl rfl⟩, k⟩
theorem binds_all {x qual : Str} {params : Arguments} {body : List Stmt} {scope : Scope} {v : V} {kws : List (Str × V)} {f : Addr} {fd : FuncData} {ps : List Str} (F : FunD K x qual params body scope [v] kws f fd)
    (h : ∀ (T : Addr) (kV doc pm : Value) (an : Option Addr) (cdv ct : Value) (us its : List Value), us.length = ps.length → its.length = [v].length →
      ∃ k, bindArgs (PySem.W.fnOf x qual params body scope (.ref T) kV doc pm an cdv ct) ⟨us, []⟩ = seqItems? (.ref T) >>= k ∧ k (some its.toArray) = pure (ps.zip (us ++ its.drop 1))) : Binds K fd ps [] := by
  obtain ⟨ds, r, b⟩ := F.binds1 ps.length 1 (fun z => nomatch z) rfl h
  cases r
  exact b
theorem binds_but {x qual : Str} {params : Arguments} {body : List Stmt} {scope : Scope} {v : V} {kws : List (Str × V)} {f : Addr} {fd : FuncData} {ps : List Str} (F : FunD K x qual params body scope [v] kws f fd) (n : Nat) (hn : n + 1 = ps.length)
    (h : ∀ (T : Addr) (kV doc pm : Value) (an : Option Addr) (cdv ct : Value) (us its : List Value), us.length = n → its.length = [v].length →
      ∃ k, bindArgs (PySem.W.fnOf x qual params body scope (.ref T) kV doc pm an cdv ct) ⟨us, []⟩ = seqItems? (.ref T) >>= k ∧ k (some its.toArray) = pure (ps.zip (us ++ its.drop 0))) : ∃ ds, Vals [v] ds ∧ Binds K fd ps ds := F.binds1 n 0 (fun z => nomatch z) hn h
/-- () as it stands from the start -/
theorem rep_empty {cl : Nat → Option (Addr × List Str)} {E : Addr} {ed : Option Addr} {en : Nat} {es : Array (Option Value)} (h : K.lookup E = some ⟨.type "tuple", ed, .seq #[] en, es⟩) (F : Hp) : Rep ⟨K, cl⟩ F (.ref E) (.tup []) := .tup0 (.inr ⟨_, #[], en, h, rfl, rfl, Nat.zero_le _, .nil⟩)
end
section
variable {X : Cx} {T : Tx} {π : Nat → Option Pin} {W : WX} {a b c e o l : Expr} {es : List Expr} {pos p tpos : Pos} {m ma mb mc : Mi Dt} {ms : Mi (List Dt)} {A A' A0 : Addr → Prop} {F H F' H' F0 H0 : Hp} {σ : L2.St} {ρ : En} {tg : Expr} {k n : Nat} {f : Addr} {fd : FuncData} {ps : List Str} {x : Str} {fm : List Dt → Fo}
def mPlus (ms : Mi (List Dt)) (es : List Dt) : Mi (List Dt) := mBind ms fun ds => mPure (ds ++ es)
/-- C(..), the last parameters by their defaults -/
theorem dn_makeD {c : Nat} {C : Addr} {ns : List Str} {dvs : List V} {dds : List Dt} {ds0 : List Value} (M : Mk X.K C f) (G : FnOk X.prog X.w X.K X.mg X.base (L2.CX X.prog X.w) k f fd ps (spM T n true false fm)) (hr : Room (k + 1) X.A) (hg : Gl X x) (hm : X.mg x = some (.ref C)) (hv : Vals dvs ds0) (hb : Binds X.K fd ps ds0) (hd : ∀ F, Reps T F dvs dds) (hc : T.cl c = some (C, ns)) (hE : ∀ cls d σ σ' H, W cls d σ H → W cls d σ' H) (tk : Takes X W) (ha : PA X (e :: es) (TMa T π W ms))
    (hdb : (x == ("__debug__" : Str)) = false := by decide) (he : starEach (e :: es) X.env = (false, eval e X.env) :: starEach es X.env := by rfl) (hpl : (backTo pos (starEach es X.env)).any (·.1) = false := by rfl) :
    PE X (.Call (.Name x p) (e :: es) [] pos) (TMn T π W (mMake c n fm (mPlus ms dds))) := (pe_make (E := fun cls d H => ∃ σ, W cls d σ H) M G hr hg hm hb hv (fun pins σ H s e s' I c => tk e s' (XE.of_call I (fun cls d H' ⟨σ', h⟩ => hE cls d σ' σ H' h) c)) ha hdb he hpl).imp fun σ H Q ⟨A, F, ρ, k, p⟩ => by
  have p2 := (p.bind).bind
  exact ⟨A, F, ρ, k, p2.imp fun ds ρ1 F1 H1 k1 r1 p1 vs rvs => by
    intro y dy hy hdy ne
    exact sp_make hc (fun cls d H h => ⟨σ, h⟩) k1 (rvs.append (hd F1)) (p1.pure k1) (fun o F' H' z k' h1 h2 h3 h4 h5 q => q z h1 h2 (r1.t z h3) h4 fun y hy => by rw [h5] at hy; cases hy) y dy hy hdy ne⟩
end
end Dl
namespace Dl
open PySem PySem.Spec PyProof.Rows L2
section
variable {X : Cx} {T : Tx} {π : Nat → Option Pin} {W : WX} {a b c e tg : Expr} {es : List Expr} {pos p p2 : Pos} {m ma mb mc : Mi Dt} {ms : Mi (List Dt)} {A A' : Addr → Prop} {F H F' H' F0 H0 : Hp} {σ : L2.St} {ρ : En} {i : Nat}
/-! ### slices -/
def TMo (T : Tx) (π : Nat → Option Pin) (W : WX) (m : Mi (Option Int)) : TO := fun σ H Q => ∃ A F ρ, Ok T π A F H σ ρ ∧ Post T π W σ A F H (fun o _ _ H' => Q o H') (m ρ)
theorem _root_.L2.PO.imp {e : Option Expr} {t t' : TO} (h : PO X e t) (f : ∀ σ H Q, t' σ H Q → t σ H Q) : PO X e t' := ⟨fun pins s σ H Q I q => h.run pins s σ H Q I (f σ H Q q)⟩
def mPart (m : Mi Dt) : Mi (Option Int) := mBind m fun d => match d with
  | .int i => mPure (some i)
  | _ => mBad
theorem do_none : PO X none (TMo T π W (mPure none)) := po_none.imp fun σ H Q ⟨A, F, ρ, k, p⟩ => p.pure k
theorem do_some (h : PE X e (TMe T π W m)) : PO X (some e) (TMo T π W (mPart m)) := (po_some h).imp fun σ H Q ⟨A, F, ρ, k, p⟩ => ⟨A, F, ρ, k, p.bind.imp fun d ρ1 F1 H1 k1 r1 p1 v rv => by
  cases d with
  | int i => exact ⟨i, rv.int_inv, p1.pure k1⟩
  | _ => exact p1.elim⟩
def cutD {α : Type} (xs : List α) (lo hi : Option Int) : List α := (xs.drop (HT.sIx xs.length 0 lo)).take (HT.sIx xs.length xs.length hi - HT.sIx xs.length 0 lo)
theorem cut_v (xs : List V) (lo hi : Option Int) : cutV xs lo hi = cutD xs lo hi := rfl
theorem cut_map {α β : Type} (f : α → β) (xs : List α) (lo hi : Option Int) : cutD (xs.map f) lo hi = (cutD xs lo hi).map f := by
  unfold cutD; rw [List.length_map, List.map_take, List.map_drop]
theorem Reps.cut {vs : List V} {ds : List Dt} (r : Reps T F vs ds) (lo hi : Option Int) : Reps T F (cutV vs lo hi) (cutD ds lo hi) := by
  unfold cutV cutD; rw [r.length]; exact (r.drop _).take _
def fSl : Dt → Option Int → Option Int → Option Dt
  | .lst ds, lo, hi => some (.lst (cutD ds lo hi))
  | .scr ns, lo, hi => some (.lst ((cutD ns lo hi).map .int))
  | .tup ds, lo, hi => some (.tup (cutD ds lo hi))
  | .str z, lo, hi => if z.length ≤ sizeLine then some (.str (cutS z lo hi)) else none
  | _, _, _ => none
def rSlAll (K : PySem.W.Frag) : V → Option Int → Option Int → Hp → VK → Prop := fun x lo hi H Q => rSlL K x lo hi H Q ∨ (rSlA K x lo hi H Q ∨ rSlS x lo hi H Q)
theorem sl_all : SlR X (rSlAll X.K) := SlR.or sl_list (SlR.or sl_tupA sl_str)
/-- a slice, kept -/
theorem sl_go {v : V} {d z : Dt} {lo hi : Option Int} {Q : VK} (k : Ok T π A F H σ ρ) (rv : RepS T F H v d) (ef : fSl d lo hi = some z) (q : ∀ F' H' u, Ok T π A F' H' σ ρ → Fr A F H F' H' → Rep T F' u z → Q u H') : rSlAll T.K v lo hi H Q := by
  have new : ∀ (o : HO) (p : Addr) (z : Dt), H p = none → (∀ F', Le F F' → F' p = some o → Rep T F' (.ref p) z) → (∀ F' H' u, Ok T π A F' H' σ ρ → Fr A F H F' H' → Rep T F' u z → Q u H') → Q (.ref p) (upd H p o) := fun o p z hp hz q =>
    q (upd F p o) (upd H p o) _ (k.new hp) (.new k.le hp) (hz _ (le_new (f_none k.le hp)) upd_same)
  cases d with
  | lst ds =>
    cases ef
    obtain ⟨a, vs, e, h, r⟩ := rv.lst_inv k.le
    exact .inl ⟨a, vs, e, SqL.of h, fun p hp => new _ p _ hp (fun F' l h => .lst h ((r.cut lo hi).mono l)) q⟩
  | scr ns =>
    cases ef
    obtain ⟨a, e, h⟩ := rv.scr_inv k.le
    refine .inl ⟨a, _, e, h, fun p hp => new _ p _ hp (fun F' l h => .lst h ?_) q⟩
    rw [cut_v, cut_map]
    exact ints_reps _
  | tup ds =>
    cases ef
    obtain ⟨a, vs, e, h, r⟩ := (rv.flat trivial).tup_inv
    refine .inr (.inl ⟨a, vs, e, sqt_mono k.le h, fun hw => ?_, fun hw p hp => ?_⟩)
    · have ee : cutD ds lo hi = ds := by
        unfold cutD
        rw [← r.length, hw.1, hw.2, List.drop_zero, Nat.sub_zero, r.length, List.take_length]
      rw [ee] at q
      subst e
      exact q F H _ k .refl (rv.flat trivial)
    · exact new _ p _ hp (fun F' l h => .tup h ((r.cut lo hi).mono l)) q
  | str x =>
    unfold fSl at ef
    dsimp only at ef
    split at ef
    · rename_i hz
      cases ef
      exact .inr (.inr ⟨x, rv.str_inv, hz, q F H _ k .refl (.str _)⟩)
    · cases ef
  | _ => cases ef
def mSl (m : Mi Dt) (ml mh : Mi (Option Int)) : Mi Dt := mBind m fun x => mBind ml fun lo => mBind mh fun hi => mOpt (fSl x lo hi)
theorem de_slE {lo hi : Option Expr} {ml mh : Mi (Option Int)} (hK : X.K = T.K) (h : PE X (.Subscript e (.Slice lo hi none p2) pos) (tSl (rSlAll X.K) (TMe T π W m) (TMo T π W ml) (TMo T π W mh))) : PE X (.Subscript e (.Slice lo hi none p2) pos) (TMe T π W (mSl m ml mh)) :=
  h.imp fun σ H Q ⟨A, F, ρ, k, p⟩ => ⟨A, F, ρ, k, p.bind.imp fun x ρ1 F1 H1 k1 r1 p1 v rv => ⟨A, F1, ρ1, k1, p1.bind.imp fun lo ρ2 F2 H2 k2 r2 p2 => ⟨A, F2, ρ2, k2, p2.bind.imp fun hi ρ3 F3 H3 k3 r3 p3 => by
    obtain ⟨z, ez, p4⟩ := p3.opt
    rw [hK]
    exact sl_go k3 ((rv.mono r2.f).mono r3.f).s ez fun F' H' u k' r' ru => p4 F' H' k' r' u ru⟩⟩⟩
/-- a slice of a slot's own or kept thing -/
def mSlV (i : Nat) (ml mh : Mi (Option Int)) : Mi Dt := mBind ml fun lo => mBind mh fun hi => mBind (mPeek i) fun x => mOpt (fSl x lo hi)
theorem de_slV {lo hi : Option Expr} {ml mh : Mi (Option Int)} (hK : X.K = T.K) (h : PE X (.Subscript e (.Slice lo hi none p2) pos) (tSl (rSlAll X.K) (tVar i) (TMo T π W ml) (TMo T π W mh))) : PE X (.Subscript e (.Slice lo hi none p2) pos) (TMe T π W (hasSl i (mSlV i ml mh))) :=
  h.imp fun σ H Q ⟨A, F, ρ, k, p⟩ => by
    unfold hasSl at p
    split at p
    · rename_i s e
      have hs : ∃ v, σ[i]? = some (some v) := by
        cases s with
        | val d => obtain ⟨v, h1, _⟩ := k.val i d e; exact ⟨v, h1⟩
        | own io d => obtain ⟨a, h1, _⟩ := k.own i io d e; exact ⟨_, h1⟩
      obtain ⟨v, hv⟩ := hs
      refine ⟨v, hv, A, F, ρ, k, p.bind.imp fun lo ρ2 F2 H2 k2 r2 p2 => ⟨A, F2, ρ2, k2, p2.bind.imp fun hi ρ3 F3 H3 k3 r3 p3 => ?_⟩⟩
      obtain ⟨d, v', h1, h2, p4⟩ := mPeek_inv p3.bind k3
      rw [hv] at h1
      cases h1
      obtain ⟨z, ez, p5⟩ := p4.opt
      rw [hK]
      exact sl_go k3 h2 ez fun F' H' u k' r' ru => p5 F' H' k' r' u ru
    · exact p.elim
/-! ### list(range(..)) -/
def rgD (a b : Int) : List Dt := (List.range (b - a).toNat).map fun i => Dt.int (a + (i : Nat))
instance (a b : Int) : Decidable (RgOk a b) := by unfold RgOk; exact inferInstance
def mLstRg (m : Mi Dt) : Mi Dt := mBind m fun d => match d with
  | .int n => if RgOk 0 n then mPure (.lst (rgD 0 n)) else mBad
  | _ => mBad
/-! ### range(a, b, c) walked -/
/-! ### a < b < c as a value -/
/-! ### three names at once -/
theorem Gk.length {ks : List Bool} {vs : List V} {ds : List Dt} {as : List Addr} (g : Gk T F H A ks vs ds as) : vs.length = ks.length := by
  induction g with
  | nil => rfl
  | val _ _ ih => rw [List.length_cons, List.length_cons, ih]
  | own _ _ _ _ _ _ ih => rw [List.length_cons, List.length_cons, ih]
/-- the same by a tuple that is made and taken apart -/
def gNames : List Nat → TGs
  | [] => gNil
  | i :: is => gCons (gName i) (gNames is)
theorem names_go : ∀ {is : List Nat} {vs : List V} {σ : L2.St} {H : Hp} {Q : L2.St → Hp → Prop}, vs.length = is.length → Q (setAll is vs σ) H → gNames is vs σ H Q
  | [], [], _, _, _, _, q => ⟨rfl, q⟩
  | [], _ :: _, _, _, _, h, _ => by simp at h
  | _ :: _, [], _, _, _, h, _ => by simp at h
  | i :: is, v :: vs, σ, H, Q, h, q => ⟨v, vs, rfl, names_go (is := is) (by simpa using h) q⟩
theorem Gk.mono {ks : List Bool} {vs : List V} {ds : List Dt} {as : List Addr} (g : Gk T F H A ks vs ds as) (hh : ∀ a o, H a = some o → H' a = some o) : Gk T F H' A ks vs ds as := by
  induction g with
  | nil => exact .nil
  | val r _ ih => exact .val r ih
  | own h1 h2 h3 h4 h5 _ ih =>
    have sm := h3.same fun o q => hh _ o q
    rw [← sm] at h5 ⊢
    exact .own h1 h2 (h3.mono (le_refl _) fun x _ o q => hh x o q) h4 h5 ih
theorem ds_parT {st : Stmt} {is : List Nat} {ks : List Bool} {n : Nat} (hK : X.K = T.K) (h : PS X st (tAsg (tTup (TMk T π W ks ms)) (gTup X.K n (gNames is)))) (hi : is.length = n) (hk : ks.length = n) (hn : n ≤ 1000) : PS X st (TMs T π W (sPars is ks ms)) :=
  h.imp fun D σ H ⟨A, F0, H0, F, ρ, k, p⟩ => ⟨IsOwn H σ ρ, F, ρ, k.ok.tight, fun a w => k.ok.there w, ((p.bind k).weak fun a w => k.ok.ownA w).imp fun ds ρ1 F1 H1 k1' r1 ⟨k1, p1⟩ vs as g ha => by
    have hv : vs.length = n := by rw [g.length, hk]
    refine ⟨by rw [hv]; exact Nat.le_trans hn (by decide), fun q hq => ⟨q, vs, rfl, SqT.of upd_same, hv, names_go (by rw [hv, hi]) ?_⟩⟩
    cases e : putSls is ks ds ρ1 with
    | none => rw [e] at p1; exact p1.elim
    | some ρ' =>
      rw [e] at p1
      have k2 := k1.ok.newO (o := .tup vs) hq
      refine p1 _ F1 _ ⟨ok_puts (g.mono (le_new hq)) k2 (fun a z => ⟨fun w => ?_, .inr (k.fr.t a (ha a z))⟩) e, k1.fr.f, fun a o n e => le_new hq a o (k1.fr.h a o n e), k1.fr.n, fun a e => k1.fr.t a (up_none e)⟩
      exact k.ok.there ((k1'.newO hq).ownA w) (ha a z)⟩
/-! ### xs * n -/
theorem Reps.flat {vs : List V} {ds : List Dt} (r : Reps T F vs ds) : ∀ n, Reps T F (List.replicate n vs).flatten (List.replicate n ds).flatten
  | 0 => .nil
  | n + 1 => by
    rw [List.replicate_succ, List.replicate_succ, List.flatten_cons, List.flatten_cons]
    exact r.append (Reps.flat r n)
end
end Dl
namespace Dl
open PySem PySem.Spec PyProof.Rows L2
def ix_budget : Nat → Option Nat
  | 1 => some 2
  | _ => none
def ix_days : Nat → Option Nat
  | 1 => some 1
  | 3 => some 2
  | _ => none
def ix_due : Nat → Option Nat
  | 1 => some 5
  | 4 => some 1
  | _ => none
def ix_is_possible : Nat → Option Nat
  | 5 => some 2
  | _ => none
def ix_live : Nat → Option Nat
  | 7 => some 0
  | _ => none
def ix_looks : Nat → Option Nat
  | 1 => some 3
  | _ => none
def ix_past : Nat → Option Nat
  | 5 => some 0
  | 7 => some 1
  | _ => none
def ix_places : Nat → Option Nat
  | 0 => some 0
  | _ => none
def ix_rota : Nat → Option Nat
  | 1 => some 0
  | 2 => some 0
  | _ => none
def ix_rows : Nat → Option Nat
  | 0 => some 1
  | _ => none
def ix_season : Nat → Option Nat
  | 5 => some 1
  | _ => none
def ix_sure : Nat → Option Nat
  | 5 => some 3
  | _ => none
def ix_text : Nat → Option Nat
  | 0 => some 2
  | _ => none
def ix_wheels : Nat → Option Nat
  | 1 => some 4
  | _ => none
-- k02
def b_is_integer : En → So :=
  (sRet (mAndV (m1 (fIsi .int) (mPeek 0)) (mNotV (m1 (fIsi .bool) (mPeek 0)))))
def m_is_integer : List Dt → Fo := runF 1 false false b_is_integer
-- k02
def b_is_from : En → So :=
  (sRet (mAndV (mCall 1 m_is_integer (mCons (mVar 0) (mPure []))) (m2 fGe (mVar 0) (mPeek 1))))
def m_is_from : List Dt → Fo := runF 2 false false b_is_from
-- k02
def b_is_below : En → So :=
  (sRet (mAndV (mCall 2 m_is_from (mCons (mVar 0) (mCons (mPure (.int 0)) (mPure [])))) (m2 fLt (mVar 0) (mPeek 1))))
def m_is_below : List Dt → Fo := runF 2 false false b_is_below
-- k02
def b_is_sequence : En → So :=
  (sRet (m1 (fIsi2 .list .tuple) (mPeek 0)))
def m_is_sequence : List Dt → Fo := runF 1 false false b_is_sequence
-- k02
def b_is_unlike : En → So :=
  (sSeq (sIf (mOr (mNot (mB (mCall 1 m_is_sequence (mCons (mVar 0) (mPure []))))) (mNot (mB (m1 fAll (mLc (mSeqI (mVar 0)) (gV 2) (mPure true) (mCall 2 m_is_below (mCons (mVar 2) (mCons (mVar 1) (mPure [])))) [2]))))) (sRet (mPure (.bl false))) (fun ρ => .nx ρ))
  (sRet (m2 fEq (m1 fLen (mDc (mSeqI (mVar 0)) (gV 2) (mPure true) (mVar 2) (mPure (.bl true)) [2])) (m1 fLen (mPeek 0)))))
def m_is_unlike : List Dt → Fo := runF 3 false false b_is_unlike
-- k02
def b_is_row : En → So :=
  (sSeq (sIf (mOr (mNot (mB (m1 (fIsi .tuple) (mPeek 0)))) (mOr (mB (m2 fNe (m1 fLen (mPeek 0)) (mPure (.int 2)))) (mNot (mB (mCall 2 m_is_unlike (mCons (hasSl 0 (mIxV 0 (mPure (.int 0)))) (mCons (mVar 1) (mPure [])))))))) (sRet (mPure (.bl false))) (fun ρ => .nx ρ))
  (sRet (mAndV (mCall 2 m_is_unlike (mCons (hasSl 0 (mIxV 0 (mPure (.int 1)))) (mCons (mVar 1) (mPure [])))) (m2 fEq (m1 fLen (hasSl 0 (mIxV 0 (mPure (.int 1))))) (mPeek 1)))))
def m_is_row : List Dt → Fo := runF 2 false false b_is_row
-- k02
def b_text_of_rota : En → So :=
  (sSeq (sSet 2 (mJoined [(mPure (.str "places ")), (m1 fFmt (mVar 0))]))
  (sSeq (sFor (mSeqI (mVar 1)) (gT (gsC (gV 3) (gsC (gV 4) gsN)) 2) (sSeq (sSet 5 (mIfE (mB (m2 fGt (m1 fLen (mPeek 3)) (mPure (.int 0)))) (mJoin (mPure (.str " ")) (mLc (mSeqI (mVar 3)) (gV 7) (mPure true) (m1 fStr (mPeek 7)) [7])) (mPure (.str "none"))))
  (sSeq (sSet 6 (mJoin (mPure (.str " ")) (mLc (mSeqI (mVar 4)) (gV 7) (mPure true) (m1 fStr (mPeek 7)) [7])))
  (sSet 2 (mJoined [(m1 fFmt (mVar 2)), (mPure (.str "\nturn ")), (m1 fFmt (mVar 5)), (mPure (.str " move ")), (m1 fFmt (mVar 6))])))))
  (sRet (mVar 2))))
def m_text_of_rota : List Dt → Fo := runF 8 false false b_text_of_rota
-- k02
def b_Rota_init : En → So :=
  (sSeq (sIf (mNot (mB (mCall 2 m_is_from (mCons (mVar 1) (mCons (mPure (.int 1)) (mPure [])))))) (fun _ => .bad) (fun ρ => .nx ρ))
  (sSeq (sIf (mOr (mNot (mB (mCall 1 m_is_sequence (mCons (mVar 2) (mPure []))))) (mOr (mB (m2 fEq (m1 fLen (mPeek 2)) (mPure (.int 0)))) (mNot (mB (m1 fAll (mLc (mSeqI (mVar 2)) (gV 3) (mPure true) (mCall 2 m_is_row (mCons (mVar 3) (mCons (mVar 1) (mPure [])))) [3])))))) (fun _ => .bad) (fun ρ => .nx ρ))
  (sSeq (sFput 0 ix_places (mVar 1))
  (sSeq (sFput 0 ix_rows (m1 fTuple (mLc (mSeqI (mVar 2)) (gT (gsC (gV 4) (gsC (gV 5) gsN)) 2) (mPure true) (mTup (mCons (m1 fTuple (m1N fSorted (mLc (mSeqI (mVar 4)) (gV 6) (mPure true) (m1 fInt (mPeek 6)) [6]))) (mCons (m1 fTuple (mPeek 5)) (mPure [])))) [4, 5])))
  (sFput 0 ix_text (mCall 2 m_text_of_rota (mCons (m1 (fAttr ix_places) (mPeek 0)) (mCons (m1 (fAttr ix_rows) (mPeek 0)) (mPure [])))))))))
def m_Rota_init : List Dt → Fo := runF 7 true false b_Rota_init
-- k06
def b_need_wheel : En → So :=
  (sIf (mNot (mB (mCall 2 m_is_below (mCons (mVar 1) (mCons (m1 (fAttr ix_places) (mPeek 0)) (mPure [])))))) (fun _ => .bad) (fun ρ => .nx ρ))
def m_need_wheel : List Dt → Fo := runF 2 false false b_need_wheel
-- k06
def b_way : En → So :=
  (sSeq (sPars [2, 3] [true, false] (mCons (mLst (mPure [])) (mCons (mVar 1) (mPure []))))
  (sSeq (sFor (mRng1 (mCons (m1 (fAttr ix_places) (mPeek 0)) (mPure []))) (gV 4) (sSeq (sFor (mSeqI (m1 (fAttr ix_rows) (mPeek 0))) (gT (gsC (gV 5) (gsC (gV 6) gsN)) 2) (sSeq (sDrop (ownLst 2 (mAppend 2 (mVar 3))))
  (sSet 3 (hasSl 6 (mIxV 6 (mVar 3))))))
  (sIf (mB (m2 fEq (mVar 3) (mPeek 1))) (sRet (m1 fTuple (mPeek 2))) (fun ρ => .nx ρ))))
  (sRet (m1 fTuple (mPeek 2)))))
def m_way : List Dt → Fo := runF 7 false false b_way
-- k06
-- k06
-- k06
def b_round_days : En → So :=
  (sSeq (sDrop (mCall 2 m_need_wheel (mCons (mVar 0) (mCons (mVar 1) (mPure [])))))
  (sRet (m1 fLen (mCall 2 m_way (mCons (mVar 0) (mCons (mVar 1) (mPure [])))))))
def m_round_days : List Dt → Fo := runF 2 false false b_round_days
-- k08
def b_due_in_round : En → So :=
  (sSeq (sSet 2 (m1 fLen (m1 (fAttr ix_rows) (mPeek 0))))
  (sRet (m1 fTuple (mLc (mEnumI (mCall 2 m_way (mCons (mVar 0) (mCons (mVar 1) (mPure []))))) (gT (gsC (gV 3) (gsC (gV 4) gsN)) 2) (mB (m2 fInA (mVar 4) (m2 fIx (m2 fIx (m1 (fAttr ix_rows) (mPeek 0)) (m2 fMod (mVar 3) (mPeek 2))) (mPure (.int 0))))) (mVar 3) [3, 4]))))
def m_due_in_round : List Dt → Fo := runF 5 false false b_due_in_round
-- k08
-- k08
-- k08
-- k12
def b_is_look : En → So :=
  (sSeq (sIf (mOr (mNot (mB (m1 (fIsi .tuple) (mPeek 0)))) (mB (m2 fNe (m1 fLen (mPeek 0)) (mPure (.int 3))))) (sRet (mPure (.bl false))) (fun ρ => .nx ρ))
  (sRet (mAndV (mCall 2 m_is_below (mCons (hasSl 0 (mIxV 0 (mPure (.int 0)))) (mCons (m2 fAdd (mVar 2) (mPure (.int 1))) (mPure [])))) (mAndV (mCall 2 m_is_below (mCons (hasSl 0 (mIxV 0 (mPure (.int 1)))) (mCons (m1 (fAttr ix_places) (mPeek 1)) (mPure [])))) (mCall 2 m_is_below (mCons (hasSl 0 (mIxV 0 (mPure (.int 2)))) (mCons (mPure (.int 2)) (mPure []))))))))
def m_is_look : List Dt → Fo := runF 3 false false b_is_look
-- k12
def b_every_look : En → So :=
  (sRet (mLcN (mRng1 (mCons (m2 fAdd (mVar 1) (mPure (.int 1))) (mPure []))) (gV 2) (mPure true) (iNext (mRng1 (mCons (m1 (fAttr ix_places) (mPeek 0)) (mPure []))) (gV 3) (mPure true) (iNext (mRng1 (mCons (mPure (.int 2)) (mPure []))) (gV 4) (mPure true) (iLast (mTup (mCons (mVar 2) (mCons (mVar 3) (mCons (mVar 4) (mPure [])))))) [4]) [3, 4]) [2, 3, 4]))
def m_every_look : List Dt → Fo := runF 5 false false b_every_look
-- k12
def b_every_due : En → So :=
  (sSeq (sPars [2, 3] [true, false] (mCons (mLst (mPure [])) (mCons (mLc (mRng1 (mCons (m1 (fAttr ix_places) (mPeek 0)) (mPure []))) (gV 5) (mPure true) (mTup (mCons (mCall 2 m_due_in_round (mCons (mVar 0) (mCons (mVar 5) (mPure [])))) (mCons (mCall 2 m_round_days (mCons (mVar 0) (mCons (mVar 5) (mPure [])))) (mPure [])))) [5]) (mPure []))))
  (sSeq (sFor (mRng1 (mCons (mVar 1) (mPure []))) (gV 4) (sDrop (ownLst 2 (mExtend 2 (mLc (mEnumI (mVar 3)) (gT (gsC (gV 5) (gsC (gT (gsC (gV 6) (gsC (gV 7) gsN)) 2) gsN)) 2) (mB (m2 fInA (m2 fMod (mVar 4) (mPeek 7)) (mPeek 6))) (mTup (mCons (mVar 4) (mCons (mVar 5) (mPure [])))) [5, 6, 7])))))
  (sRet (m1 fTuple (mPeek 2)))))
def m_every_due : List Dt → Fo := runF 8 false false b_every_due
-- k12
def b_Season_init : En → So :=
  (sSeq (sIf (mNot (mB (mCall 2 m_is_from (mCons (mVar 2) (mCons (mPure (.int 1)) (mPure [])))))) (fun _ => .bad) (fun ρ => .nx ρ))
  (sSeq (sIf (mNot (mB (mCall 2 m_is_from (mCons (mVar 3) (mCons (mPure (.int 0)) (mPure [])))))) (fun _ => .bad) (fun ρ => .nx ρ))
  (sSeq (sIf (mOr (mNot (mB (mCall 1 m_is_sequence (mCons (mVar 4) (mPure []))))) (mNot (mB (m1 fAll (mLc (mSeqI (mVar 4)) (gV 5) (mPure true) (mCall 3 m_is_look (mCons (mVar 5) (mCons (mVar 1) (mCons (mVar 2) (mPure []))))) [5]))))) (fun _ => .bad) (fun ρ => .nx ρ))
  (sSeq (sFput 0 ix_rota (mVar 1))
  (sSeq (sFput 0 ix_days (mVar 2))
  (sSeq (sFput 0 ix_budget (mVar 3))
  (sSeq (sFput 0 ix_looks (m1 fTuple (mLc (mSeqI (mCall 2 m_every_look (mCons (mVar 1) (mCons (mVar 2) (mPure []))))) (gV 6) (mB (m2 fInA (mVar 6) (mPeek 4))) (mVar 6) [6])))
  (sSeq (sFput 0 ix_wheels (m1 (fAttr ix_places) (mPeek 1)))
  (sFput 0 ix_due (mCall 2 m_every_due (mCons (mVar 1) (mCons (mVar 2) (mPure [])))))))))))))
def m_Season_init : List Dt → Fo := runF 7 true false b_Season_init
-- k12
def b_Season_seen : En → So :=
  (sSeq (sIf (mNot (mB (mCall 1 m_is_sequence (mCons (mVar 1) (mPure []))))) (fun _ => .bad) (fun ρ => .nx ρ))
  (sRet (mMake 1 5 m_Season_init (mCons (m1 (fAttr ix_rota) (mPeek 0)) (mCons (m1 (fAttr ix_days) (mPeek 0)) (mCons (m1 (fAttr ix_budget) (mPeek 0)) (mCons (mLst (mStar (m1 (fAttr ix_looks) (mPeek 0)) (mStar (mPeek 1) (mPure [])))) (mPure []))))))))
def m_Season_seen : List Dt → Fo := runF 2 false false b_Season_seen
-- k12
-- k12
def b_due_days : En → So :=
  (sRet (m1 fTuple (mLc (mSeqI (m1 (fAttr ix_due) (mPeek 0))) (gT (gsC (gV 2) (gsC (gV 3) gsN)) 2) (mB (m2 fEq (mVar 3) (mPeek 1))) (mVar 2) [2, 3])))
def m_due_days : List Dt → Fo := runF 4 false false b_due_days
-- k12
-- k12
-- k12
-- k12
-- k12
-- k12
-- k12
-- k28
-- k29
def b_chosen : En → So :=
  (sSeq (sSet 1 (mLst (mCons (mPure (.int 1)) (mPure []))))
  (sSeq (sFor (mRng1 (mCons (mVar 0) (mPure []))) (gV 2) (sSet 1 (mLst (mCons (mPure (.int 1)) (mStar (mLc (mRng1 (mCons (m2 fSub (m1 fLen (mPeek 1)) (mPure (.int 1))) (mPure []))) (gV 3) (mPure true) (m2 fAdd (hasSl 1 (mIxV 1 (mVar 3))) (hasSl 1 (mIxV 1 (m2 fAdd (mVar 3) (mPure (.int 1)))))) [3]) (mCons (mPure (.int 1)) (mPure [])))))))
  (sRet (mVar 1))))
def m_chosen : List Dt → Fo := runF 4 false false b_chosen
-- k29
-- k35
-- k35
-- k35
-- k40
def b_gap : En → So :=
  (sSeq (sDrop (mCall 2 m_need_wheel (mCons (mVar 0) (mCons (mVar 1) (mPure [])))))
  (sSeq (sPars [3, 4] [false, false] (mCons (mCall 2 m_due_in_round (mCons (mVar 0) (mCons (mVar 1) (mPure [])))) (mCons (mCall 2 m_round_days (mCons (mVar 0) (mCons (mVar 1) (mPure [])))) (mPure []))))
  (sSeq (sIf (mB (m2 fEq (m1 fLen (mPeek 3)) (mPure (.int 0)))) (sRet (mPure .non)) (fun ρ => .nx ρ))
  (sSeq (sPars [5, 6] [false, false] (mCons (m2 fDiv (m2 fAdd (mVar 2) (mPure (.int 1))) (m1 fLen (mPeek 3))) (mCons (m2 fMod (m2 fAdd (mVar 2) (mPure (.int 1))) (m1 fLen (mPeek 3))) (mPure []))))
  (sSeq (sSet 7 (mLst (mStar (mPeek 3) (mStar (mLc (mSeqI (mVar 3)) (gV 8) (mPure true) (m2 fAdd (mVar 8) (mPeek 4)) [8]) (mPure [])))))
  (sRet (m2 fAdd (m2 fMulI (mVar 5) (mPeek 4)) (m1 fMax (mLc (mRng1 (mCons (m1 fLen (mPeek 3)) (mPure []))) (gV 9) (mPure true) (m1 fInt (m2 fSub (hasSl 7 (mIxV 7 (m2 fAdd (mVar 9) (mPeek 6)))) (hasSl 7 (mIxV 7 (mVar 9))))) [9])))))))))
def m_gap : List Dt → Fo := runF 10 false false b_gap
-- k40
-- k51
-- k51
-- k51
-- k51
-- k52
-- k52
-- k52
-- k52
-- k52
-- k53
-- k56
-- k56
-- k56
-- k56
-- k56
-- k56
-- k57
-- k57
-- k57
-- k57
-- k59
-- k59
-- k59
-- k60
-- k60
-- k60
-- k60
-- k60
-- k60
-- k60
-- k60
-- k63
-- k63
-- k63
-- k66
def b_number_in : En → So :=
  (sSeq (sIf (mOr (mNot (mB (mChain fLe fLe (mPure (.int 1)) (m1 fLen (mPeek 0)) (mPeek 1)))) (mNot (mB (m1 fAll (mLc (mSeqI (mVar 0)) (gV 2) (mPure true) (m2 fInA (mVar 2) (mPure (.str "0123456789"))) [2]))))) (sRet (mPure .non)) (fun ρ => .nx ρ))
  (sRet (mIfE (mOr (mB (m2 fEq (mVar 0) (mPure (.str "0")))) (mB (m2 fNe (hasSl 0 (mIxV 0 (mPure (.int 0)))) (mPure (.str "0"))))) (m1 fInt (mPeek 0)) (mPure .non))))
def m_number_in : List Dt → Fo := runF 3 false false b_number_in
-- k66
def b_numbers_in : En → So :=
  (sSeq (sSet 2 (mLc (mSeqI (mVar 0)) (gV 3) (mPure true) (mCall 2 m_number_in (mCons (mVar 3) (mCons (mVar 1) (mPure [])))) [3]))
  (sRet (mIfE (mB (m2 fInA (mPure .non) (mPeek 2))) (mPure .non) (mVar 2))))
-- k66
-- k66
-- k66
def b_Desk_keep : En → So :=
  (sSeq (sFput 0 ix_past (mTup (mStar (m1 (fAttr ix_past) (mPeek 0)) (mCons (m1 (fAttr ix_live) (mPeek 0)) (mPure [])))))
  (sFput 0 ix_live (mVar 1)))
def m_Desk_keep : List Dt → Fo := runF 2 false false b_Desk_keep
-- k66
def b_Desk_undo : En → So :=
  (sSeq (sIf (mB (m2 fEq (m1 fLen (m1 (fAttr ix_past) (mPeek 0))) (mPure (.int 0)))) (sRet (mPure (.bl false))) (fun ρ => .nx ρ))
  (sSeq (sFput 0 ix_live (m2 fIx (m1 (fAttr ix_past) (mPeek 0)) (m1 fNeg (mPure (.int 1)))))
  (sSeq (sFput 0 ix_past (mSl (m1 (fAttr ix_past) (mPeek 0)) (mPure none) (mPart (m1 fNeg (mPure (.int 1))))))
  (sRet (mPure (.bl true))))))
end Dl
namespace Dl
open PySem PySem.Spec PyProof.Rows L2
-- k01
def b_law_box : En → So :=
  (sSeq (sSet 3 (m2 fAdd (m2 fAdd (m2 fMulI (mPure (.int 7727)) (mPeek 1)) (m2 fMulI (mPure (.int 104729)) (mPeek 2))) (mPure (.int 43))))
  (sSeq (sIf (mB (m2 fLt (mVar 1) (m1 fLen (mPeek 0)))) (sSet 3 (m1 fAbs (hasSl 0 (mIxV 0 (mVar 1))))) (sIf (mB (m2 fGt (m1 fLen (mPeek 0)) (mPure (.int 0)))) (sSet 3 (m2 fAdd (mVar 3) (m2 fMulI (m2 fMod (m1 fInt (m1 fAbs (hasSl 0 (mIxV 0 (m2 fMod (m1 fInt (mPeek 1)) (m1 fLen (mPeek 0))))))) (mPure (.int 2147483629))) (mPure (.int 69623))))) (fun ρ => .nx ρ)))
  (sSeq (sSet 4 (m2 fAdd (m2 fMod (m1 fInt (m2 fAdd (m2 fMulI (m2 fMod (m1 fInt (mPeek 3)) (mPure (.int 2147483629))) (mPure (.int 48271))) (m2 fMulI (mPure (.int 40692)) (m2 fAdd (mVar 1) (m2 fMulI (mPure (.int 11)) (mPeek 2)))))) (mPure (.int 2147483629))) (mPure (.int 1))))
  (sRetN (mLst (mCons (m2 fIx (mLst (mCons (mPure (.int 0)) (mCons (mVar 3) (mPure [])))) (m1 fInt (m2 fGe (mVar 3) (m2 fPow (mPure (.int 10)) (mPure (.int 18)))))) (mCons (mVar 4) (mCons (mPure (.int 0)) (mPure [])))))))))
def m_law_box : List Dt → Fo := runF 5 false true b_law_box
-- k01
def b_law_take : En → So :=
  (sSeq (sIf (mB (m2 fGt (hasSl 0 (mIxV 0 (mPure (.int 0)))) (mPure (.int 0)))) (sSeq (sSet 2 (m2 fMod (m1 fInt (hasSl 0 (mIxV 0 (mPure (.int 0))))) (mPeek 1)))
  (sSeq (sLput 0 (mPure (.int 0)) (m2 fDiv (hasSl 0 (mIxV 0 (mPure (.int 0)))) (mPeek 1)))
  (sRet (mVar 2)))) (fun ρ => .nx ρ))
  (sSeq (sLput 0 (mPure (.int 2)) (m2 fAdd (hasSl 0 (mIxV 0 (mPure (.int 2)))) (mPure (.int 1))))
  (sSeq (sSet 3 (m2 fMod (m1 fInt (m2 fMulI (m2 fAdd (hasSl 0 (mIxV 0 (mPure (.int 1)))) (m2 fMulI (mPure (.int 104729)) (hasSl 0 (mIxV 0 (mPure (.int 2)))))) (mPure (.int 69623)))) (mPure (.int 2147483647))))
  (sSeq (sLput 0 (mPure (.int 1)) (m2 fAdd (m2 fMod (m1 fInt (m2 fAdd (m2 fMulI (mVar 3) (mPure (.int 48271))) (mPure (.int 30103)))) (mPure (.int 2147483629))) (mPure (.int 1))))
  (sSeq (sIf (mB (m2 fLt (mVar 1) (m2 fPow (mPure (.int 2)) (mPure (.int 40))))) (sRet (m2 fMod (m1 fInt (m2 fDiv (m2 fAdd (m2 fMulI (mVar 3) (mPure (.int 2147483647))) (hasSl 0 (mIxV 0 (mPure (.int 1))))) (mPure (.int 8191)))) (mPeek 1))) (fun ρ => .nx ρ))
  (sSeq (sSet 4 (m2 fMulI (m2 fAdd (m2 fMulI (mVar 3) (mPure (.int 2147483647))) (hasSl 0 (mIxV 0 (mPure (.int 1))))) (m2 fPow (mPure (.int 2147483629)) (mPure (.int 3)))))
  (sRet (m2 fMod (m1 fInt (m2 fAdd (m2 fAdd (mVar 4) (m2 fMulI (m2 fPow (hasSl 0 (mIxV 0 (mPure (.int 1)))) (mPure (.int 3))) (mPure (.int 8191)))) (mPeek 3))) (mPeek 1)))))))))
def m_law_take : List Dt → Fo := runF 5 true false b_law_take
-- k01
def b_law_pick : En → So :=
  (sRet (hasSl 1 (mIxV 1 (mCallIo 2 m_law_take 0 (mCons (m1 fLen (mPeek 1)) (mPure []))))))
def m_law_pick : List Dt → Fo := runF 2 true false b_law_pick
-- k01
def b_law_value : En → So :=
  (sSeq (sSet 1 (mLst (mCons (mPure (.int 0)) (mCons (m1 fNeg (mPure (.int 3))) (mCons (m2 fPow (mPure (.int 10)) (mPure (.int 9))) (mCons (mPure (.str "")) (mCons (mPure (.str "turn")) (mCons (mPure .non) (mCons (mPure (.bl true)) (mCons (mPure (.bl false)) (mCons (mLst (mPure [])) (mCons (mLst (mCons (mPure (.int 1)) (mCons (mPure (.str "move")) (mPure [])))) (mCons (mTup (mCons (mPure (.int 0)) (mCons (mPure .non) (mPure [])))) (mCons (mTup (mPure [])) (mPure [])))))))))))))))
  (sSeq (sSet 1 (m2 fAdd (mVar 1) (mLst (mCons (mPure (.str "none")) (mCons (mPure (.int 2)) (mCons (mPure (.str "x y")) (mCons (mLst (mCons (mPure (.str "0")) (mPure []))) (mCons (mTup (mCons (mPure (.int 1)) (mCons (mPure (.int 0)) (mPure [])))) (mCons (mPure (.int 1)) (mPure []))))))))))
  (sSeq (sSet 2 (mTup (mPure [])))
  (sSeq (sFor (mRng1 (mCons (mPure (.int 7)) (mPure []))) (gV 3) (sSet 2 (mIfE (mB (m2 fEq (m2 fMod (mVar 3) (mPure (.int 2))) (mPure (.int 0)))) (mLst (mCons (mVar 2) (mCons (mPure (.int 1)) (mPure [])))) (mTup (mCons (mVar 2) (mPure []))))))
  (sRet (mCallIo 2 m_law_pick 0 (mCons (m2 fAdd (mVar 1) (mLst (mCons (mVar 2) (mPure [])))) (mPure []))))))))
def m_law_value : List Dt → Fo := runF 4 true false b_law_value
-- k02
-- k02
-- k02
-- k02
-- k02
-- k06
-- k15
-- k15
-- k18
-- k67
-- k67
-- k67
-- k67
-- k67
end Dl
namespace Dl
open PySem PySem.Spec PyProof.Rows L2
section
variable {X : Cx} {T : Tx} {π : Nat → Option Pin} {W : WX} {a b c e tg : Expr} {es : List Expr} {pos p p2 : Pos} {m ma mb mc : Mi Dt} {ms : Mi (List Dt)} {A A' : Addr → Prop} {F H F' H' F0 H0 : Hp} {σ : L2.St} {ρ : En} {i : Nat}
/-! ### specials of own classes -/
abbrev noX : XK := fun _ _ _ => False
/-- a def that raises nothing, called somewhere below -/
theorem run_sub {n : Nat} {f : Addr} {fd : FuncData} {ps : List Str} {sp : Sp} {A1 : Around} {pins : List (Addr × Obj)} {s : Shared} {Q : VK} {us : List Value} {vs : List V} (G : FnOk X.prog X.w X.K X.mg X.base (L2.CX X.prog X.w) n f fd ps sp) (hb : Binds X.K fd ps []) (sb : Sub X n A1)
    (I : Inv X pins σ H s) (r : Vals vs us) (h : sp vs H Q noX) : wpAny (model X.prog X.w) A1 (call (.ref f) us) (EP X pins σ Q) X.xe s := by
  have hl : us.length = ps.length := by rw [← r.length]; exact G.len _ _ _ _ h
  have b := hb s us I.kIn (by rw [List.append_nil]; exact hl)
  rw [List.append_nil] at b
  have e0 : Env0 X.prog X.w X.K X.mg X.base A1 X.stack s H := by
    have e := I.env0
    exact ⟨by rw [sb.fr]; exact e.frames, e.mod, e.bs, e.bsz, e.funs, e.frf, e.hok, e.bare⟩
  refine wpAny_call (codeAny_mono (G.run A1 X.stack s H ⟨us, []⟩ us vs Q noX sb.room e0 b r h) fun r s' hq => ?_)
  cases r with
  | error e =>
    obtain ⟨_, _, _, _, _, _, _, _, _, _, _, _, z⟩ := hq
    exact z.elim
  | ok fl =>
    cases fl with
    | ret u => exact I.after hq
    | next => exact False.elim hq
    | brk => exact False.elim hq
    | cont => exact False.elim hq
/-- what an own special of one argument gives -/
def fOwn1 (c : Nat) (fm : List Dt → Fo) (ok : Dt → Bool) (d : Dt) : Option Dt := match d with
  | .ins c' _ => if c' = c then (match fm [d] with | .ret z _ => if ok z = true then some z else none | _ => none) else none
  | _ => none
def rOwn (C : Addr) (sp : Sp) (ok : V → Prop) : List V → Hp → VK → Prop := fun xs H Q => ∃ a dx fs, xs = [.ref a] ∧ H a = some (.ins C dx fs) ∧ sp [.ref a] H (fun v H' => ok v ∧ Q v H') noX
def okLen : Dt → Bool
  | .int n => decide (0 ≤ n) && decide (n < 4611686018427387904)
  | _ => false
def vLen (v : V) : Prop := ∃ n : Int, v = .int n ∧ 0 ≤ n ∧ n < 4611686018427387904
variable {n : Nat} {f C : Addr} {fd : FuncData} {ps : List Str} {sp : Sp}
theorem ins_at {pins : List (Addr × Obj)} {s : Shared} {a dx : Addr} {fs : List (Str × V)} (I : Inv X pins σ H s) (h : H a = some (.ins C dx fs)) : ∃ ox od, PySem.W.InstAt s.heap a ox C od := by
  obtain ⟨mA, J, _⟩ := ins_get I.hok h
  obtain ⟨od, J, _⟩ := J.look
  exact ⟨_, _, J⟩
theorem cr_lenO (G : FnOk X.prog X.w X.K X.mg X.base (L2.CX X.prog X.w) n f fd ps sp) (hb : Binds X.K fd ps []) (M : Meth X.K C "__len__" f) (hr : Room (n + 1) X.A) : CallR X (.builtin "len") (rOwn C sp vLen) := by
  intro pins s σ H xs us Q I r h
  obtain ⟨a, dx, fs, rfl, ha, hs⟩ := h
  obtain ⟨u, rfl, rx⟩ := vals1 r
  cases rx
  obtain ⟨ox, od, J⟩ := ins_at I ha
  obtain ⟨mm, hF⟩ := I.fr
  refine PySem.W.len_K hF I.ok.mod.kin J M.at_ M.fn (wpAny_mono (run_sub (vs := [.ref a]) G hb (Sub.in1 ⟨hr, rfl⟩) I (.cons rfl .nil) hs) (fun u s' q => ?_) fun _ _ x => x)
  obtain ⟨v, H', I', rv, ⟨k, rfl, h0, h1⟩, q⟩ := q
  obtain ⟨t, rfl⟩ := rv
  exact ⟨⟨h0, Int.lt_trans h1 (by decide)⟩, .int k, H', I'.tok _, ⟨_, rfl⟩, q⟩
/-- one argument, kept -/
theorem de_own1 {c : Nat} {ns : List Str} {fm : List Dt → Fo} {ok : Dt → Bool} {vk : V → Prop} (h : PE X e (tCB (rOwn C (spM T 1 false false fm) vk) (tCons (TMe T π W m) tNil))) (hc : T.cl c = some (C, ns)) (hv : ∀ d v F, ok d = true → Rep T F v d → vk v) : PE X e (TMe T π W (m1 (fOwn1 c fm ok) m)) := h.imp fun σ H Q ⟨A, F, ρ, k, p⟩ => ⟨A, F, ρ, k, p.bind.imp fun d ρ1 F1 H1 k1 r1 p1 v rv => by
  obtain ⟨z, ez, p3⟩ := p1.opt
  unfold fOwn1 at ez
  split at ez
  · rename_i c' dv
    split at ez
    · rename_i hcc
      subst hcc
      split at ez
      · rename_i z' o' ef
        split at ez
        · rename_i ho
          cases ez
          obtain ⟨a, C', dx, ns', vs, e1, q1, q2, q3, q4⟩ := rv.s.ins_inv k1.le
          rw [hc] at q1
          cases q1
          subst e1
          refine ⟨a, dx, _, rfl, q2, F1, [.ins _ dv], none, rfl, k1.le, ⟨.cons rv .nil, rfl⟩, ?_⟩
          rw [ef]
          exact fun F' H' v' le fr _ rv' => ⟨hv _ _ _ ho rv', p3 F' H' (k1.called le fr) (fr.weak fun a ⟨_, z, _⟩ => nomatch z) v' rv'⟩
        · cases ez
      · cases ez
    · cases ez
  · cases ez⟩
theorem len_v (d : Dt) (v : V) (F : Hp) (h : okLen d = true) (r : Rep T F v d) : vLen v := by
  cases d <;> first | exact Bool.noConfusion h | skip
  unfold okLen at h
  rw [Bool.and_eq_true, decide_eq_true_iff, decide_eq_true_iff] at h
  exact ⟨_, r.int_inv, h.1, h.2⟩
end
end Dl
namespace Dl
open PySem PySem.Spec PyProof.Rows L2
/-! ### sorted() of pairs of numbers -/
def PLe (a b : Int × Int) : Prop := a.1 < b.1 ∨ (a.1 = b.1 ∧ a.2 ≤ b.2)
instance (a b : Int × Int) : Decidable (PLe a b) := by unfold PLe; infer_instance
theorem PLe.refl (a : Int × Int) : PLe a a := .inr ⟨rfl, Int.le_refl _⟩
theorem PLe.trans {a b c : Int × Int} (h : PLe a b) (k : PLe b c) : PLe a c := by unfold PLe at *; omega
end Dl
namespace Dl
open PySem PySem.Spec PyProof.Rows L2
/-! ### xs[i] += e -/
def tAugL (to ti tv : TE) : TS := fun D σ H => to σ H fun x H1 => ti σ H1 fun y H2 => ∃ p xs k v, x = .ref p ∧ y = .int k ∧ 0 ≤ k ∧ H2 p = some (.lst xs) ∧ xs[k.toNat]? = some v ∧ tv σ H2 fun w H3 => ∃ m n ys, v = .int m ∧ w = .int n ∧ H3 p = some (.lst ys) ∧ k.toNat < ys.length ∧ D.nx σ (upd H3 p (.lst (ys.set k.toNat (.int (m + n)))))
section
variable {X : Cx} {o ix value : Expr} {to ti tv : TE} {pos pos' : Pos}
theorem ps_augL (ho : PE X o to) (hi : PE X ix ti) (hv : PE X value tv) (ha : ∀ ov iv new, augStore ix ov iv new = (do holding [new, ov, iv] (setItem ov iv new); release [new, ov, iv] []; pure .next) := by intro _ _ _; rfl) : PS X (.AugAssign (.Subscript o ix pos') .Add value pos) (tAugL to ti tv) := by
  refine ⟨fun pins s σ H D I h => ?_⟩
  refine wpAny_AugAssign_Subscript_any (thn (ho.run pins s σ H _ I h) fun ov s1 ⟨x, H1, I1, rx, q1⟩ => thn (hi.run pins s1 σ H1 _ I1 q1) fun iv s2 ⟨y, H2, I2, ry, p, xs, k, v, ex, ey, k0, hp, hx, q2⟩ => ?_) ha
  subst ex ey
  obtain rfl : ov = Value.ref p := rx
  obtain ⟨t, rfl⟩ := (show ∃ t, iv = Value.int k t from ry)
  obtain ⟨its, n0, r, hobj, hz⟩ := I2.lst hp
  obtain ⟨u, eu, ru⟩ := r.get hx
  have hl := r.length
  have hn := line63
  have hk : k.toNat < xs.length := (List.getElem?_eq_some_iff.mp hx).1
  refine wpAny_getItem_list (x := u) ⟨_, hobj, rfl, n0, rfl⟩ k0 (by omega) (by simpa using eu) ?_
  refine thn (hv.run pins s2 σ H2 _ I2 q2) fun w s3 ⟨y, H3, I3, ry3, m, n, ys, ev, ew, hp3, hk3, q3⟩ => ?_
  subst ev ew
  have hin := in_add (X := X) pins s3 σ H3 (V.int m) (V.int n) u w (fun v H' => v = V.int (m + n) ∧ H' = H3) I3 ru ry3 ⟨m, n, rfl, rfl, rfl, rfl⟩
  refine thn hin fun z s4 ⟨zv, H4, I4, rz, ez, eH⟩ => ?_
  subst ez eH
  refine wpAny_mono (set_list pins s4 σ _ (.ref p) (.int k) (.int (m + n)) (.ref p) (.int k t) z (fun H' => D.nx σ H') I4 rfl ⟨t, rfl⟩ rz ⟨p, ys, k, k.toNat, rfl, rfl, hp3, by unfold ixN; rw [if_pos k0, if_pos (by omega)], q3⟩) (fun _ s5 ⟨H5, I5, q5⟩ => ⟨σ, H5, I5, q5⟩) fun _ _ x => x
variable {T : Tx} {π : Nat → Option Pin} {W : WX} {A : Addr → Prop} {F H F0 H0 : Hp} {σ : L2.St} {ρ : En}
def itemL (i : Nat) (x : Dt) : Mi Dt := fun ρ => match ρ[i]? with
  | some (some (.own _ (.lst ds))) => (match x with
    | .int k => if 0 ≤ k then (match ds[k.toNat]? with | some (.int m) => .ok (.int m) ρ | _ => .bad) else .bad
    | _ => .bad)
  | _ => .bad
def putAug (i : Nat) (x old y : Dt) : Mi Dt := match old, y with
  | .int m, .int n => putL i x (.int (m + n))
  | _, _ => mBad
def sLaug (i : Nat) (mk mv : Mi Dt) : En → So := sBind (hasSl i mk) fun x => sBind (itemL i x) fun old => sBind mv fun y => sBind (putAug i x old y) fun _ ρ => .nx ρ
theorem ds_laug {st : Stmt} {i : Nat} {mk mv : Mi Dt} (h : PS X st (tAugL (tVar i) (TMe T π W mk) (TMe T π W mv))) : PS X st (TMs T π W (sLaug i mk mv)) := h.imp fun D σ H ⟨A, F0, H0, F, ρ, k, p⟩ => by
  have p' := p.bind k
  unfold hasSl at p'
  split at p'
  · rename_i s es
    have hv : ∃ v, σ[i]? = some (some v) := by
      cases s with
      | val d => obtain ⟨v, h1, _⟩ := k.ok.val i d es; exact ⟨v, h1⟩
      | own io d => obtain ⟨a, h1, _⟩ := k.ok.own i io d es; exact ⟨_, h1⟩
    obtain ⟨v, hv⟩ := hv
    refine ⟨v, hv, _, F, ρ, k.ok, p'.imp fun x ρ1 F1 H1 _ r1 ⟨k1, p1⟩ vx rx => ?_⟩
    have p1' := p1.bind k1
    unfold itemL at p1'
    split at p1'
    · rename_i io1 ds1 e1
      obtain ⟨a1, s1, hF1, ho1, hA1, hπ1⟩ := k1.ok.own i io1 _ e1
      split at p1'
      · rename_i kx pold
        split at p1'
        · rename_i h0
          split at p1'
          · rename_i m hm
            rw [hv] at s1
            cases s1
            obtain ⟨vs1, hl1, rs1⟩ := ho1
            obtain ⟨v1, hv1, rv1⟩ := rs1.get hm
            refine ⟨a1, vs1, kx, v1, rfl, rx.int_inv, h0, hl1, hv1, _, F1, ρ1, k1.ok, ((p1' F1 H1 k1.ok .refl).2.bind (p1' F1 H1 k1.ok .refl).1).imp fun y ρ2 F2 H2 _ r2 ⟨k2, p2⟩ vy ry => ?_⟩
            unfold putAug at p2
            cases y with
            | int n =>
              obtain ⟨io2, ds2, r, es2, a2, vs2, e2, ef, s2, h3, h4, q⟩ := mMut_inv (p2.bind k2) k2.ok
              rw [hv] at s2
              cases s2
              dsimp only at ef
              cases hj : ixN ds2.length kx with
              | none => rw [hj] at ef; cases ef
              | some j =>
                rw [hj] at ef
                cases ef
                unfold ixN at hj
                rw [if_pos h0] at hj
                split at hj
                · rename_i hlt
                  cases hj
                  obtain ⟨k3, p3⟩ := q _ (h4.set (.int (m + n)) kx.toNat)
                  exact ⟨m, n, vs2, rv1.int_inv, ry.int_inv, h3, by rw [h4.length]; omega, p3 σ F2 _ k3⟩
                · cases hj
            | _ => exact (p2.bind k2).elim
          · exact p1'.elim
        · exact p1'.elim
      · exact p1'.elim
    · exact p1'.elim
  · exact p'.elim
end
end Dl
namespace Dl
open PySem PySem.Spec PyProof.Rows L2
/-! ### d.get(k, x) -/
def fDget2 : Dt → Dt → Dt → Option Dt
  | .dic t ks ds, y, z => (keyOf t y).map fun kx => (dLook (kq t) kx ks ds).getD z
  | _, _, _ => none
def isDicSl : Option (Option Sl) → Bool
  | some (some (.val (.dic _ _ _))) => true
  | some (some (.own _ (.dic _ _ _))) => true
  | _ => false
def mDget2 (i : Nat) (me mf : Mi Dt) : Mi Dt := fun ρ => if isDicSl ρ[i]? = true then mBind me (fun y => mBind mf fun z => mBind (mPeek i) fun d => mOpt (fDget2 d y z)) ρ else .bad
section
variable {X : Cx} {T : Tx} {π : Nat → Option Pin} {W : WX} {e0 : Expr} {me mf : Mi Dt} {A : Addr → Prop} {F H : Hp} {σ : L2.St} {ρ : En} {i : Nat}
theorem isD_of {t : Bool} {ks ds : List Dt} {v : V} (le : Le F H) (r : RepS T F H v (.dic t ks ds)) : ∃ a, v = .ref a ∧ IsD H a := by
  cases t with
  | false =>
    obtain ⟨a, kk, vs, e1, h1, h2, h3, h4⟩ := r.dicK_inv le
    exact ⟨a, e1, .inl ⟨_, .inl h1⟩⟩
  | true =>
    rcases r with r | ⟨a, e1, kk, vs, h1, h2, h3, h4⟩
    · cases r with
      | dicT h l r => exact ⟨_, rfl, .inr ⟨_, .inl (le _ _ h)⟩⟩
    · exact ⟨a, e1, .inr ⟨_, .inl h1⟩⟩
theorem slot_dic (k : Ok T π A F H σ ρ) (h : isDicSl ρ[i]? = true) : ∃ v t ks ds, σ[i]? = some (some v) ∧ RepS T F H v (.dic t ks ds) := by
  unfold isDicSl at h
  split at h
  · rename_i t ks ds e
    obtain ⟨v, h1, h2⟩ := k.val i _ e
    exact ⟨v, t, ks, ds, h1, h2.s⟩
  · rename_i io t ks ds e
    obtain ⟨a, h1, _, h2, _⟩ := k.own i io _ e
    exact ⟨.ref a, t, ks, ds, h1, .inr ⟨a, rfl, h2⟩⟩
  · cases h
theorem de_dget2 (h : PE X e0 (tDGet2 (tVar i) (TMe T π W me) (TMe T π W mf))) : PE X e0 (TMe T π W (mDget2 i me mf)) := h.imp fun σ H Q ⟨A, F, ρ, k, p⟩ => by
  unfold mDget2 at p
  split at p
  · rename_i hd
    obtain ⟨v, t, ks, ds, hv, rv⟩ := slot_dic k hd
    obtain ⟨a, ev, isd⟩ := isD_of k.le rv
    refine ⟨v, hv, a, ev, isd, A, F, ρ, k, p.bind.imp fun y ρ1 F1 H1 k1 r1 p1 vy ry => ⟨A, F1, ρ1, k1, p1.bind.imp fun z ρ2 F2 H2 k2 r2 p2 vz rz => ?_⟩⟩
    obtain ⟨d, v2, hv2, rv2, p3⟩ := mPeek_inv p2.bind k2
    rw [hv] at hv2
    cases hv2
    obtain ⟨r, er, p4⟩ := p3.opt
    cases d with
    | dic t2 ks2 ds2 =>
      unfold fDget2 at er
      dsimp only at er
      cases hk : keyOf t2 y with
      | none => rw [hk] at er; cases er
      | some kx =>
        rw [hk] at er
        cases er
        obtain ⟨a2, o, e2, g, g1, g2⟩ := dget_of k2.le rv2 (ry.mono r2.f) hk
        rw [ev] at e2
        cases e2
        refine ⟨o, g, ?_⟩
        dsimp only at p4
        cases o with
        | none =>
          rw [g2 rfl] at p4
          exact p4.pure k2 _ rz
        | some w =>
          obtain ⟨d, h1, h2⟩ := g1 w rfl
          rw [h1] at p4
          exact p4.pure k2 _ h2
    | _ => cases er
  · exact p.elim
end
end Dl
namespace Dl
open PySem PySem.Spec PyProof.Rows L2
/-! ### for k, v in e.items(), e a new dict -/
def tLockD (td : TE) : TE := fun σ H Q => td σ H fun x H1 => ∃ d kvs, x = .ref d ∧ H1 d = some (.dK kvs) ∧ ∀ o, Q x (upd H1 d (.frz o (.dK kvs)))
section
variable {X : Cx} {T : Tx} {π : Nat → Option Pin} {W : WX} {e : Expr} {m : Mi Dt} {td : TE} {A : Addr → Prop} {F H : Hp} {σ : L2.St} {ρ : En} {apos cpos : Pos}
theorem pe_lockD (he : PE X e td) : PE X e (tLockD td) := ⟨fun pins s σ H Q I h => thn (he.run pins s σ H _ I h) fun u s1 ⟨x, H1, I1, rx, d, kvs, ex, hd, q⟩ => by
  obtain ⟨od, I2⟩ := I1.lock hd trivial
  exact ⟨x, _, I2, rx, q od⟩⟩
def itemsK : List Dt → List Dt → List Dt
  | k :: ks, d :: ds => .tup [k, d] :: itemsK ks ds
  | _, _ => []
def mItemsN (m : Mi Dt) : Mi (List Dt) := mBind m fun d => match d with
  | .dic false ks ds => mPure (itemsK ks ds)
  | _ => mBad
theorem itemsK_get : ∀ {kk : List Key} {vs : List V} {ds : List Dt} {i : Nat} {d : Dt}, kk.length = vs.length → Reps T F vs ds → (itemsK (kk.map kD) ds)[i]? = some d → ∃ k v x, (kk.zip vs)[i]? = some (k, v) ∧ Rep T F v x ∧ d = .tup [kD k, x]
  | [], _, _, i, d, _, _, h => by simp [itemsK] at h
  | k :: kk, [], _, _, _, hl, _, _ => by cases hl
  | k :: kk, v :: vs, _, 0, d, hl, .cons r rs, h => by
    simp [itemsK] at h
    exact ⟨k, v, _, rfl, r, h.symm⟩
  | k :: kk, v :: vs, x0 :: ds0, i + 1, d, hl, .cons r rs, h => by
    have h' : (itemsK (kk.map kD) ds0)[i]? = some d := by simpa [itemsK] using h
    obtain ⟨k', v', x, h1, h2, h3⟩ := itemsK_get (by simpa using hl) rs h'
    exact ⟨k', v', x, by simpa using h1, h2, h3⟩
theorem itemsK_len : ∀ {kk : List Key} {vs : List V} {ds : List Dt}, kk.length = vs.length → Reps T F vs ds → (itemsK (kk.map kD) ds).length = (kk.zip vs).length
  | [], [], _, _, .nil => rfl
  | k :: kk, v :: vs, _, hl, .cons r rs => by
    show _ + 1 = _ + 1
    rw [itemsK_len (by simpa using hl) rs]; rfl
  | [], v :: vs, _, hl, _ => by cases hl
  | k :: kk, [], _, hl, _ => by cases hl
theorem kD_rep (k : Key) (F : Hp) : Rep T F (kV k) (kD k) := by
  cases k with
  | inl i => exact .int i
  | inr x => exact .str x
theorem wk_items {d : Addr} {o : Obj} {kk : List Key} {vs : List V} {ds : List Dt} (h : F d = some (.frz o (.dK (kk.zip vs)))) (hl : kk.length = vs.length) (r : Reps T F vs ds) : Wk T (Iti d o (kk.zip vs)) (itemsK (kk.map kD) ds) F where
  goes := fun i H hi le => ⟨le _ _ h, by rw [← itemsK_len hl r]; exact hi⟩
  stops := fun H le => ⟨le _ _ h, by rw [itemsK_len hl r]; exact Nat.le_refl _⟩
  yields := fun i H x H' dd hd le y => by
    obtain ⟨q, k, v, e1, e2, e3, e4⟩ := y
    obtain ⟨k', v', z, h1, h2, h3⟩ := itemsK_get hl r hd
    rw [e1] at h1
    cases h1
    exact .inr ⟨q, [kV k, v], [kD k, z], e3, e4, e2, .cons (kD_rep k F) (.cons h2 .nil), h3⟩
theorem di_itemsN {elts : List Expr} {kk : Nat} {tpos : Pos} (h : PE X e (TMn T π W m)) (hbase : attributeBase e "items" X.env (eval e X.env) = eval e X.env := by rfl) (hline : (apos.endLine == cpos.line) = true := by rfl) :
    PI X (.Tuple elts kk tpos) (.Call (.Attribute e "items" apos) [] [] cpos) (TMi T π W (mItemsN m)) := (pi_items (pe_lockD h) hbase hline).imp fun σ H R ⟨A, F, ρ, k, p⟩ => by
  refine ⟨A, F, ρ, k, ?_⟩
  unfold mItemsN mBind at p
  cases hm : m ρ with
  | ok d ρ1 =>
    rw [hm] at p
    dsimp only at p
    intro F1 H1 k1 r1 a hFa hna hHa ho _
    cases d with
    | dic t ks ds =>
      cases t with
      | false =>
        obtain ⟨kk, vs, h1, h2, h3, h4⟩ := ho
        subst h3
        refine ⟨a, _, rfl, h1, fun o => ⟨a, o, _, rfl, upd_same, ?_⟩⟩
        have le1 : Le F1 (upd F1 a (.frz o (.dK (kk.zip vs)))) := fun b u e => by rw [upd_ne (fun z => by rw [z, hFa] at e; cases e)]; exact e
        refine p (upd F1 a (.frz o (.dK (kk.zip vs)))) _ ?_ ?_ _ (wk_items upd_same h2 (h4.mono le1))
        · refine k1.grow le1 (fun b u e => ?_) (fun b hb => ?_) fun b u hb e => ?_
          · by_cases hb : b = a
            · subst hb; rw [upd_same] at e ⊢; exact e
            · rw [upd_ne hb] at e ⊢; exact k1.le _ _ e
          · have : b ≠ a := fun z => hna (z ▸ hb)
            rw [upd_ne this]; exact (k1.ownH hb).2.1
          · have : b ≠ a := fun z => hna (z ▸ hb)
            rw [upd_ne this]; exact e
        · refine ⟨le_trans r1.f le1, fun b u n e => ?_, fun b o n e t => ?_, fun b e => ?_⟩
          · have : b ≠ a := fun z => by rw [z, hHa] at e; cases e
            rw [upd_ne this]; exact r1.h b u n e
          · have : b ≠ a := fun z => by rw [z, hHa] at e; cases e
            rw [upd_ne this]; exact r1.n b o n e t
          · by_cases hb : b = a
            · rw [hb]; exact hHa
            · rw [upd_ne hb] at e; exact r1.t b e
      | true => exact (p : False).elim
    | _ => exact (p : False).elim
  | exc x ρ1 => rw [hm] at p; exact p
  | bad => rw [hm] at p; exact p
end
end Dl
namespace Dl
open PySem PySem.Spec PyProof.Rows L2
/-! ### return of what a slot holds alone -/
def sRetO (i : Nat) : En → So := fun ρ => match ρ[i]? with
  | some (some (.own false d)) => .rtN d (ρ.set i none)
  | _ => .bad
section
variable {X : Cx} {T : Tx} {π : Nat → Option Pin} {W : WX} {e : Expr} {m : Mi Dt} {A A' : Addr → Prop} {F H F1 H1 : Hp} {σ : L2.St} {ρ : En} {pos : Pos} {α : Type}
theorem Ok.drop (k : Ok T π A F H σ ρ) (i : Nat) : Ok T π A F H σ (ρ.set i none) := by
  have old : ∀ {j : Nat} {s : Sl}, (ρ.set i none)[j]? = some (some s) → ρ[j]? = some (some s) ∧ j ≠ i := fun {j s} h => by
    by_cases hj : i = j
    · subst hj
      rw [List.getElem?_set_self'] at h
      cases hq : ρ[i]? with
      | none => rw [hq] at h; cases h
      | some z => rw [hq] at h; cases h
    · rw [List.getElem?_set_ne hj] at h; exact ⟨h, fun z => hj z.symm⟩
  exact ⟨k.le, by rw [List.length_set]; exact k.len, fun j d h => k.val j d (old h).1, fun j io d h => k.own j io d (old h).1, fun j l io jo d e a b x h1 h2 => k.dis j l io jo d e a b x (old h1).1 (old h2).1⟩
theorem ds_retO {i : Nat} {x : Str} (h : PE X (.Name x pos) (tVar i)) {rp : Pos} : PS X (.Return (some (.Name x pos)) rp) (TMs T π W (sRetO i)) := (ps_ret h).imp fun D σ H ⟨A, F0, H0, F, ρ, k, p⟩ => by
  unfold sRetO at p
  split at p
  · rename_i d hd
    obtain ⟨a, h1, h2, h3, h4, h5⟩ := k.ok.own i false d hd
    have no : ∀ x, (x = a ∨ x ∈ inH H a d) → ¬ IsOwn H σ (ρ.set i none) x := fun x hx ⟨j, io, e, b, w1, w2, w3⟩ => by
      by_cases hj : i = j
      · subst hj
        rw [List.getElem?_set_self'] at w1
        rw [hd] at w1; cases w1
      · rw [List.getElem?_set_ne hj] at w1
        exact hj (k.ok.dis i j false io d e a b x hd w1 h1 w2 hx w3)
    exact ⟨.ref a, h1, p σ F H a ⟨k.ok.drop i, k.fr⟩ h2 (no a (.inl rfl)) h4 h3 fun x hx => ⟨(h5.2 x hx).1, no x (.inr hx), (h5.2 x hx).2⟩⟩
  · exact p.elim
theorem Post.base {P : α → En → Hp → Hp → Prop} {o : Ou α} (p : Post T π W σ A F H P o) (r : Fr A F H F1 H1) (h : ∀ a, A' a → A a) : Post T π W σ A' F1 H1 P o := by
  cases o with
  | ok a ρ' => exact fun F' H' k r' => p F' H' (k.weak h) (r.trans (r'.weak h))
  | exc x ρ' => exact fun F' H' c d k r' => p F' H' c d (k.weak h) (r.trans (r'.weak h))
  | bad => exact p
end
/-! ### {k: v}, the key a tuple -/
/-! ### sum of a tuple of ints -/
end Dl
namespace PySem
section
variable {prog : Program} {w : World} {A : Around} {E : Value → Shared → Prop} {s : Shared} {l : Addr} {xs : Array (Int × Tok)}
theorem sum_intTupG {Q : Value → Shared → Prop} (hh : A.handled = none) (hl : s.heap.IsTuple l (intItems xs))
    (h : ∀ h' tk t', (∀ b o, s.heap.get? b = some o → h'.get? b = some o) → Q (.int (preSum (numAt xs) xs.size) t') { s with heap := h', toks := tk }) :
    wpAny (model prog w) A (call (.builtin "sum") [.ref l]) Q E s := by
  refine call_sum_walkG (wpAny_pyIter_tuple hl ?_)
  have hlt : l < s.heap.objs.size := by obtain ⟨_, e, _⟩ := id hl; exact Heap.lt_size e
  refine ⟨_, _, _, _, _, _, numAt xs, rfl, Walks.tuple (A := A.in1) hh _ l (Nat.ne_of_lt hlt) (intItems xs), ⟨⟨_, Heap.get?_push_size _ rfl, rfl, rfl⟩, hl.at fun o e => Heap.get?_push_of_some _ e⟩, ?_, (fun _ _ => intItems_at), fun h' tk t' hk => ?_⟩
  · intro b hb
    rw [Heap.size_push]
    simp at hb
    rcases hb with rfl | rfl
    · exact Nat.lt_succ_self _
    · exact Nat.lt_succ_of_lt hlt
  · have := h h' tk t' fun b o e => hk b o (by simp; exact Nat.ne_of_lt (Heap.lt_size e)) (Heap.get?_push_of_some _ e)
    simpa [intItems] using this
end
end PySem
namespace Dl
open PySem PySem.Spec PyProof.Rows L2
def rSumT (K : PySem.W.Frag) : List V → Hp → VK → Prop := fun vs H Q => ∃ (a : Addr) (ns : List Int), vs = [V.ref a] ∧ SqT K H a (ns.map V.int) ∧ Q (.int ns.sum) H
theorem cr_sumT {X : Cx} (hc : X.calm = true) : CallR X (.builtin "sum") (rSumT X.K) := by
  intro pins s σ H vs us Q I r h
  obtain ⟨a, ns, rfl, hs, q⟩ := h
  obtain ⟨its, rv, hl, _⟩ := I.tuple hs
  rw [Vals.ref1 r]
  have hi := rv.ints
  obtain ⟨xs, e⟩ := hi.allInts.items
  have hn : numsOf (intItems xs).toList = ns := by rw [← e]; exact hi.numsOf
  rw [nums_intItems] at hn
  rw [e] at hl
  refine PySem.sum_intTupG (I.ok.hd hc) hl fun h' tk t' hk => ⟨.int _, H, I.kept hk, ?_, q⟩
  rw [preSum_eq, List.take_of_length_le (by simp), hn]
  exact ⟨_, rfl⟩
def fSumT : Dt → Option Dt
  | .tup xs => (intsOf xs).map fun ns => .int ns.sum
  | _ => none
theorem cs_sumT {T : Tx} : CaS T (rSumT T.K) fSumT := uns_pure fun F H v d z Q le rv ef q => by
  cases d with
  | tup xs =>
    unfold fSumT at ef
    dsimp only at ef
    cases hq : intsOf xs with
    | none => rw [hq] at ef; cases ef
    | some ns =>
      rw [hq] at ef
      cases ef
      have ex := ints_inv hq
      subst ex
      obtain ⟨p, vs, e1, _, r, _, hl⟩ := rv.seq le (.inr rfl)
      have ev := reps_ints r
      subst ev
      exact ⟨p, ns, e1 ▸ rfl, hl rfl, q _ (.int _)⟩
  | _ => cases ef
end Dl
namespace PySem
end PySem
namespace Dl
open PySem PySem.Spec PyProof.Rows L2
/-! ### pairs of small numbers have unlike hashes -/
def hP (i j : Int) : Int := reduceHash (Builtin.Tuple.tupleHashOf [hashInt i, hashInt j])
def hN (n : Nat) : Int := hP ((n / 8 : Nat) : Int) ((n % 8 : Nat) : Int)
end Dl
namespace PySem
open PyProof.Rows L2 PySem.W
end PySem
namespace Dl
open PySem PySem.Spec PyProof.Rows L2
-- k02
def b_Rota_len : En → So :=
  (sRet (m1 fLen (m1 (fAttr ix_rows) (mPeek 0))))
def m_Rota_len : List Dt → Fo := runF 1 false false b_Rota_len
-- k02
-- k25
def b_seen_by_day : En → So :=
  (sSeq (sSetN 2 (mPure (.dic false [] [])))
  (sSeq (sFor (mSeqI (m1 (fAttr ix_looks) (mPeek 0))) (gT (gsC (gV 3) (gsC (gV 4) (gsC (gV 5) gsN))) 3) (sIf (mB (m2 fEq (mVar 4) (mPeek 1))) (sDput 2 (mVar 3) (mLst (mStar (mDget2 2 (mVar 3) (mLst (mPure []))) (mCons (mVar 5) (mPure []))))) (fun ρ => .nx ρ)))
  (sRetO 2)))
def m_seen_by_day : List Dt → Fo := runF 6 false true b_seen_by_day
-- k25
def b_stretches_of : En → So :=
  (sSeq (sPars [2, 3, 4] [true, false, false] (mCons (mLst (mPure [])) (mCons (mPure (.int 0)) (mCons (mPure (.int 0)) (mPure [])))))
  (sSeq (sSet 5 (mCall 2 m_due_days (mCons (mVar 0) (mCons (mVar 1) (mPure [])))))
  (sSeq (sFor (mItemsN (mCall 2 m_seen_by_day (mCons (mVar 0) (mCons (mVar 1) (mPure []))))) (gT (gsC (gV 6) (gsC (gV 7) gsN)) 2) (sSeq (sSet 8 (m1 fLen (mLc (mSeqI (mVar 5)) (gV 9) (mB (mChain fLe fLt (mVar 3) (mVar 9) (mPeek 6))) (mVar 9) [9])))
  (sSeq (sDrop (ownLst 2 (mAppend 2 (mTup (mCons (mVar 3) (mCons (mVar 6) (mCons (m2 fEq (m2 fMod (m2 fAdd (m2 fAdd (mVar 8) (mPeek 4)) (hasSl 7 (mIxV 7 (mPure (.int 0))))) (mPure (.int 2))) (mPure (.int 1))) (mPure []))))))))
  (sSeq (sIf (mB (m2 fGt (m1 fLen (mPeek 7)) (mPure (.int 1)))) (sDrop (ownLst 2 (mAppend 2 (mTup (mCons (mVar 6) (mCons (mVar 6) (mCons (mPure (.bl true)) (mPure [])))))))) (fun ρ => .nx ρ))
  (sPars [3, 4] [false, false] (mCons (mVar 6) (mCons (hasSl 7 (mIxV 7 (m1 fNeg (mPure (.int 1))))) (mPure []))))))))
  (sRet (mTup (mStar (mPeek 2) (mCons (mTup (mCons (mVar 3) (mCons (m1 (fAttr ix_days) (mPeek 0)) (mCons (mPure .non) (mPure []))))) (mPure []))))))))
def m_stretches_of : List Dt → Fo := runF 10 false false b_stretches_of
-- k25
-- k26
def b_parts_of : En → So :=
  (sSeq (sSetN 3 (mLst (mPure [])))
  (sSeq (sFor (mRng1 (mCons (m1 (fAttr ix_wheels) (mPeek 0)) (mPure []))) (gV 4) (sSeq (sSet 5 (mCall 2 m_due_days (mCons (mVar 0) (mCons (mVar 4) (mPure [])))))
  (sFor (mSeqI (mCall 2 m_stretches_of (mCons (mVar 0) (mCons (mVar 4) (mPure []))))) (gT (gsC (gV 6) (gsC (gV 7) (gsC (gV 8) gsN))) 3) (sSeq (sSet 9 (mLc (mSeqI (mVar 5)) (gV 12) (mB (mChain fLe fLt (mVar 6) (mVar 12) (mPeek 7))) (mTup (mCons (mVar 12) (mCons (mVar 4) (mPure [])))) [12]))
  (sSeq (sSet 10 (m1 fLen (mLc (mSeqI (mVar 9)) (gV 13) (mB (m2 fDin (mVar 13) (mPeek 1))) (mVar 13) [13])))
  (sSeq (sSet 11 (m1 fLen (mLc (mSeqI (mVar 9)) (gV 13) (mAnd (mB (m2 fDnotin (mVar 13) (mPeek 1))) (mB (m2 fDnotin (mVar 13) (mPeek 2)))) (mVar 13) [13])))
  (sDrop (ownLst 3 (mAppend 3 (mTup (mCons (mVar 10) (mCons (mVar 11) (mCons (mVar 8) (mPure []))))))))))))))
  (sRet (mVar 3))))
def m_parts_of : List Dt → Fo := runF 14 false false b_parts_of
-- k26
def b_cost : En → So :=
  (sSeq (sSet 3 (mPure (.int 0)))
  (sSeq (sFor (mSeqI (mCall 3 m_parts_of (mCons (mVar 0) (mCons (mVar 1) (mCons (mVar 2) (mPure [])))))) (gT (gsC (gV 4) (gsC (gV 5) (gsC (gV 6) gsN))) 3) (sSeq (sSet 7 (mOrV (m2 fIsN (mVar 6) (mPure .non)) (m2 fEq (m2 fEq (m2 fMod (mVar 4) (mPure (.int 2))) (mPure (.int 1))) (mPeek 6))))
  (sSeq (sIf (mAnd (mNot (mB (mVar 7))) (mB (m2 fEq (mVar 5) (mPure (.int 0))))) (sRet (mPure .non)) (fun ρ => .nx ρ))
  (sAug 3 (fI fun i j => some (.int (i + j))) (mIfE (mB (mVar 7)) (mVar 4) (m2 fAdd (mVar 4) (mPure (.int 1))))))))
  (sRet (mVar 3))))
def m_cost : List Dt → Fo := runF 8 false false b_cost
-- k26
def b_can_be : En → So :=
  (sSeq (sSet 3 (mCall 3 m_cost (mCons (mVar 0) (mCons (mVar 1) (mCons (mVar 2) (mPure []))))))
  (sRet (mAndV (m2 fNotN (mVar 3) (mPure .non)) (m2 fLe (mVar 3) (m1 (fAttr ix_budget) (mPeek 0))))))
def m_can_be : List Dt → Fo := runF 4 false false b_can_be
-- k26
def b_least : En → So :=
  (sRet (mCall 3 m_cost (mCons (mVar 0) (mCons (mPure (.dic true [] [])) (mCons (mPure (.dic true [] [])) (mPure []))))))
def m_least : List Dt → Fo := runF 1 false false b_least
-- k26
def b_possible : En → So :=
  (sRet (mCall 3 m_can_be (mCons (mVar 0) (mCons (mPure (.dic true [] [])) (mCons (mPure (.dic true [] [])) (mPure []))))))
def m_possible : List Dt → Fo := runF 1 false false b_possible
-- k26
-- k26
-- k27
def b_can_show : En → So :=
  (sRet (mLc (mRng1 (mCons (mPure (.int 2)) (mPure []))) (gV 3) (mB (mCall 1 m_possible (mCons (mMeth 1 2 m_Season_seen (mVar 0) (mCons (mLst (mCons (mTup (mCons (mVar 2) (mCons (mVar 1) (mCons (mVar 3) (mPure []))))) (mPure []))) (mPure []))) (mPure [])))) (mVar 3) [3]))
def m_can_show : List Dt → Fo := runF 4 false false b_can_show
-- k27
-- k27
def b_sure_sides : En → So :=
  (sSeq (sSet 2 (mLc (mRng1 (mCons (m1 (fAttr ix_wheels) (mPeek 0)) (mPure []))) (gV 3) (mPure true) (mCall 3 m_can_show (mCons (mVar 0) (mCons (mVar 3) (mCons (mVar 1) (mPure []))))) [3]))
  (sRet (m1 fTuple (mLc (mSeqI (mVar 2)) (gV 4) (mPure true) (mIfE (mB (m2 fEq (m1 fLen (mPeek 4)) (mPure (.int 1)))) (hasSl 4 (mIxV 4 (mPure (.int 0)))) (mPure .non)) [4]))))
def m_sure_sides : List Dt → Fo := runF 5 false false b_sure_sides
-- k27
-- k28
-- k28
-- k28
-- k29
def b_joined : En → So :=
  (sSeq (sSetN 3 (mLc (mRng1 (mCons (m2 fAdd (mVar 2) (mPure (.int 1))) (mPure []))) (gV 8) (mPure true) (mPure (.int 0)) [8]))
  (sSeq (sFor (mEnumI (mVar 0)) (gT (gsC (gV 4) (gsC (gV 5) gsN)) 2) (sFor (mEnumI (mVar 1)) (gT (gsC (gV 6) (gsC (gV 7) gsN)) 2) (sIf (mB (m2 fLe (m2 fAdd (mVar 4) (mPeek 6)) (mPeek 2))) (sLaug 3 (m2 fAdd (mVar 4) (mPeek 6)) (m2 fMulI (mVar 5) (mPeek 7))) (fun ρ => .nx ρ))))
  (sRet (mVar 3))))
def m_joined : List Dt → Fo := runF 9 false false b_joined
-- k29
def b_lots_by_size : En → So :=
  (sSeq (sSet 3 (m1 (fAttr ix_budget) (mPeek 0)))
  (sSeq (sSet 4 (mCall 3 m_joined (mCons (mLst (mCons (mPure (.int 1)) (mPure []))) (mCons (mLst (mCons (mPure (.int 1)) (mPure []))) (mCons (mVar 3) (mPure []))))))
  (sSeq (sFor (mSeqI (mCall 3 m_parts_of (mCons (mVar 0) (mCons (mVar 1) (mCons (mVar 2) (mPure [])))))) (gT (gsC (gV 5) (gsC (gV 6) (gsC (gV 7) gsN))) 3) (sSeq (sSetN 8 (mLc (mRng1 (mCons (mVar 5) (mPure []))) (gV 9) (mPure true) (mPure (.int 0)) [9]))
  (sSeq (sFor (mEnumI (mCall 1 m_chosen (mCons (mVar 6) (mPure [])))) (gT (gsC (gV 9) (gsC (gV 10) gsN)) 2) (sSeq (sSet 11 (mOrV (m2 fIsN (mVar 7) (mPure .non)) (m2 fEq (m2 fEq (m2 fMod (m2 fAdd (mVar 5) (mPeek 9)) (mPure (.int 2))) (mPure (.int 1))) (mPeek 7))))
  (sDrop (ownLst 8 (mAppend 8 (mIfE (mB (mVar 11)) (mVar 10) (mPure (.int 0))))))))
  (sSet 4 (mCall 3 m_joined (mCons (mVar 4) (mCons (mVar 8) (mCons (mVar 3) (mPure [])))))))))
  (sRet (m1 fTuple (mPeek 4))))))
def m_lots_by_size : List Dt → Fo := runF 12 false false b_lots_by_size
-- k29
def b_ways_with : En → So :=
  (sRet (m1 fSumT (mCall 3 m_lots_by_size (mCons (mVar 0) (mCons (mVar 1) (mCons (mVar 2) (mPure [])))))))
def m_ways_with : List Dt → Fo := runF 3 false false b_ways_with
-- k29
def b_count : En → So :=
  (sRet (mCall 3 m_ways_with (mCons (mVar 0) (mCons (mPure (.dic true [] [])) (mCons (mPure (.dic true [] [])) (mPure []))))))
def m_count : List Dt → Fo := runF 1 false false b_count
-- k29
-- k29
-- k29
-- k31
-- k32
-- k35
-- k35
-- k35
-- k35
-- k35
-- k35
-- k40
-- k40
-- k40
-- k40
-- k40
-- k40
-- k40
-- k40
-- k40
-- k66
def b_Live_show : En → So :=
  (sSeq (sFput 0 ix_season (mVar 1))
  (sSeq (sFput 0 ix_is_possible (mCall 1 m_possible (mCons (mVar 1) (mPure []))))
  (sSeq (sFput 0 ix_sure (m1 fTuple (mLc (mRng1 (mCons (m1 (fAttr ix_wheels) (mPeek 1)) (mPure []))) (gV 2) (mPure true) (mPure .non) [2])))
  (sIf (mB (m1 (fAttr ix_is_possible) (mPeek 0))) (sFput 0 ix_sure (mCall 2 m_sure_sides (mCons (mVar 1) (mCons (m1 (fAttr ix_days) (mPeek 1)) (mPure []))))) (fun ρ => .nx ρ)))))
def m_Live_show : List Dt → Fo := runF 3 false false b_Live_show
-- k66
def b_Live_init : En → So :=
  (sSeq (sFput 0 ix_past (mTup (mPure [])))
  (sDrop (mMeth 5 2 m_Live_show (mVar 0) (mCons (mVar 1) (mPure [])))))
def m_Live_init : List Dt → Fo := runF 2 true false b_Live_init
-- k66
def b_Live_go_on : En → So :=
  (sSeq (sFput 0 ix_past (mTup (mStar (m1 (fAttr ix_past) (mPeek 0)) (mCons (m1 (fAttr ix_season) (mPeek 0)) (mPure [])))))
  (sDrop (mMeth 5 2 m_Live_show (mVar 0) (mCons (mVar 1) (mPure [])))))
def m_Live_go_on : List Dt → Fo := runF 2 false false b_Live_go_on
-- k66
def b_Live_look : En → So :=
  (sSeq (sSet 4 (mTup (mCons (mVar 1) (mCons (mVar 2) (mCons (mVar 3) (mPure []))))))
  (sSeq (sIf (mNot (mB (mCall 3 m_is_look (mCons (mVar 4) (mCons (m1 (fAttr ix_rota) (m1 (fAttr ix_season) (mPeek 0))) (mCons (m1 (fAttr ix_days) (m1 (fAttr ix_season) (mPeek 0))) (mPure []))))))) (fun _ => .bad) (fun ρ => .nx ρ))
  (sSeq (sDrop (mMeth 5 2 m_Live_go_on (mVar 0) (mCons (mMeth 1 2 m_Season_seen (m1 (fAttr ix_season) (mPeek 0)) (mCons (mLst (mCons (mVar 4) (mPure []))) (mPure []))) (mPure []))))
  (sRet (m1 (fAttr ix_is_possible) (mPeek 0))))))
def m_Live_look : List Dt → Fo := runF 5 false false b_Live_look
-- k66
-- k66
-- k66
def b_Live_undo : En → So :=
  (sSeq (sIf (mB (m2 fEq (m1 fLen (m1 (fAttr ix_past) (mPeek 0))) (mPure (.int 0)))) (sRet (mPure (.bl false))) (fun ρ => .nx ρ))
  (sSeq (sSet 1 (m2 fIx (m1 (fAttr ix_past) (mPeek 0)) (m1 fNeg (mPure (.int 1)))))
  (sSeq (sFput 0 ix_past (mSl (m1 (fAttr ix_past) (mPeek 0)) (mPure none) (mPart (m1 fNeg (mPure (.int 1))))))
  (sSeq (sDrop (mMeth 5 2 m_Live_show (mVar 0) (mCons (mVar 1) (mPure []))))
  (sRet (mPure (.bl true)))))))
-- k66
def b_first_live : En → So :=
  (sRet (mMake 5 2 m_Live_init (mCons (mMake 1 5 m_Season_init (mPlus (mCons (mVar 0) (mCons (mPure (.int 7)) (mCons (mPure (.int 0)) (mPure [])))) [.tup []])) (mPure []))))
def m_first_live : List Dt → Fo := runF 1 false false b_first_live
-- k66
def b_Desk_init : En → So :=
  (sSeq (sFput 0 ix_live (mCall 1 m_first_live (mCons (mMake 0 3 m_Rota_init (mCons (mPure (.int 1)) (mCons (mLst (mCons (mTup (mCons (mTup (mCons (mPure (.int 0)) (mPure []))) (mCons (mTup (mCons (mPure (.int 0)) (mPure []))) (mPure [])))) (mPure []))) (mPure [])))) (mPure []))))
  (sFput 0 ix_past (mTup (mPure []))))
-- k66
def b_Desk_begin : En → So :=
  (sSeq (sDrop (mMeth 7 2 m_Desk_keep (mVar 0) (mCons (mCall 1 m_first_live (mCons (mVar 1) (mPure []))) (mPure []))))
  (sRet (m1 fStr (m1 (fOwn1 0 m_Rota_len okLen) (mVar 1)))))
-- k66
def b_Desk_new_season : En → So :=
  (sSeq (sSet 2 (mMake 1 5 m_Season_init (mPlus (mCons (m1 (fAttr ix_rota) (m1 (fAttr ix_season) (m1 (fAttr ix_live) (mPeek 0)))) (mCons (hasSl 1 (mIxV 1 (mPure (.int 0)))) (mCons (hasSl 1 (mIxV 1 (mPure (.int 1)))) (mPure [])))) [.tup []])))
  (sSeq (sDrop (mMeth 7 2 m_Desk_keep (mVar 0) (mCons (mMake 5 2 m_Live_init (mCons (mVar 2) (mPure []))) (mPure []))))
  (sRet (m1 fStr (m1 fLen (m1 (fAttr ix_due) (mPeek 2)))))))
-- k66
def b_Desk_new_look : En → So :=
  (sSeq (sSet 2 (mMake 5 2 m_Live_init (mCons (m1 (fAttr ix_season) (m1 (fAttr ix_live) (mPeek 0))) (mPure []))))
  (sSeq (sSet 3 (mMeth 5 4 m_Live_look (mVar 2) (mCons (hasSl 1 (mIxV 1 (mPure (.int 0)))) (mCons (hasSl 1 (mIxV 1 (mPure (.int 1)))) (mCons (hasSl 1 (mIxV 1 (mPure (.int 2)))) (mPure []))))))
  (sSeq (sDrop (mMeth 7 2 m_Desk_keep (mVar 0) (mCons (mVar 2) (mPure []))))
  (sRet (mIfE (mB (mVar 3)) (mPure (.str "fits")) (mPure (.str "none")))))))
-- k66
def b_Desk_told : En → So :=
  (sSeq (sSet 3 (m1 (fAttr ix_season) (m1 (fAttr ix_live) (mPeek 0))))
  (sSeq (sIf (mB (m2 fEq (mVar 1) (mPure (.str "undo")))) (sRet (mPure (.str "nothing"))) (fun ρ => .nx ρ))
  (sSeq (sIf (mB (m2 fEq (mVar 1) (mPure (.str "sides")))) (sSeq (sSet 4 (mJoin (mPure (.str " ")) (mLc (mSeqI (m1 (fAttr ix_sure) (m1 (fAttr ix_live) (mPeek 0)))) (gV 6) (mPure true) (mIfE (mB (m2 fIsN (mVar 6) (mPure .non))) (mPure (.str "?")) (m1 fStr (mPeek 6))) [6])))
  (sRet (mIfE (mB (m1 (fAttr ix_is_possible) (m1 (fAttr ix_live) (mPeek 0)))) (mVar 4) (mPure (.str "none"))))) (fun ρ => .nx ρ))
  (sSeq (sIf (mB (m2 fEq (mVar 1) (mPure (.str "count")))) (sRet (m1 fStr (mCall 1 m_count (mCons (mVar 3) (mPure []))))) (fun ρ => .nx ρ))
  (sSeq (sSet 5 (mIfE (mB (m2 fEq (mVar 1) (mPure (.str "least")))) (mCall 1 m_least (mCons (mVar 3) (mPure []))) (mCall 3 m_gap (mCons (m1 (fAttr ix_rota) (mPeek 3)) (mCons (hasSl 2 (mIxV 2 (mPure (.int 0)))) (mCons (hasSl 2 (mIxV 2 (mPure (.int 1)))) (mPure [])))))))
  (sRet (mIfE (mB (m2 fIsN (mVar 5) (mPure .non))) (mPure (.str "never")) (m1 fStr (mPeek 5)))))))))
end Dl
namespace Dl
open PySem PySem.Spec PyProof.Rows L2
-- k25
-- k25
-- k25
-- k25
-- k25
-- k25
def b_law_due : En → So :=
  (sSeq (sAsg (mVar 0) (gT (gsC (gV 2) (gsC (gV 3) gsN)) 2))
  (sSeq (sPars [4, 5] [false, true] (mCons (mLstRg (mVar 2)) (mCons (mLst (mPure [])) (mPure []))))
  (sSeq (sFor (mRng1 (mCons (mVar 1) (mPure []))) (gV 6) (sSeq (sAsg (hasSl 3 (mIxV 3 (m2 fMod (m1 fInt (mPeek 6)) (m1 fLen (mPeek 3))))) (gT (gsC (gV 7) (gsC (gV 8) gsN)) 2))
  (sSeq (sDrop (ownLst 5 (mExtend 5 (mLc (mRng1 (mCons (mVar 2) (mPure []))) (gV 9) (mB (m2 fInA (hasSl 4 (mIxV 4 (mVar 9))) (mPeek 7))) (mTup (mCons (mVar 6) (mCons (mVar 9) (mPure [])))) [9]))))
  (sSet 4 (mLc (mSeqI (mVar 4)) (gV 10) (mPure true) (hasSl 8 (mIxV 8 (mVar 10))) [10])))))
  (sRet (mVar 5)))))
def m_law_due : List Dt → Fo := runF 11 false false b_law_due
-- k25
-- k25
-- k25
-- k25
-- k25
-- k26
-- k26
-- k27
-- k43
-- k90
-- k90
-- k90
end Dl
namespace Dl
open PySem PySem.Spec PyProof.Rows L2
/-! ### a def that is entered where no repr is under way -/
structure FnG (P : Program) (w : World) (K : PySem.W.Frag) (mg : Str → Option Value) (base : Heap) (C : CXT) (k : Nat) (f : Addr) (fd : FuncData) (ps : List Str) (sp : Sp) : Prop where
  ln : ∀ xs H R E, sp xs H R E → xs.length = ps.length
  go : ∀ (A : Around) (st : List Env) (s : Shared) (H : Hp) (ar : Args) (us : List Value) (xs : List V) (R : VK) (E : XK), Room k A → A.guards = some [] → Env0 P w K mg base A st s H → BindsTo s fd ar (ps.zip us) → Vals xs us → sp xs H R E → codeAny (model P w) A (.call (.ref f) ar) (CR C st P w H s R E) s
theorem FnG.imp {P : Program} {w : World} {K : PySem.W.Frag} {mg : Str → Option Value} {base : Heap} {C : CXT} {k : Nat} {f : Addr} {fd : FuncData} {ps : List Str} {sp sq : Sp} (G : FnG P w K mg base C k f fd ps sp)
    (h : ∀ xs H R E, sq xs H R E → sp xs H R E) : FnG P w K mg base C k f fd ps sq :=
  ⟨fun xs H R E q => G.ln xs H R E (h _ _ _ _ q), fun A st s H ar us xs R E hr hg he hb hv hs => G.go A st s H ar us xs R E hr hg he hb hv (h _ _ _ _ hs)⟩
theorem fnG_of {C : CXT} {P : Program} {w : World} {K : PySem.W.Frag} {mg : Str → Option Value} {base : Heap} {k : Nat} {f : Addr} {nm qu : Str} {pa : Arguments} {bo : List Stmt} {sc : Scope} {dV kV doc pm cdv ct oc : Value} {an od : Option Addr} {osl : Array (Option Value)} {N ps : List Str} {sp : Sp}
    (lk : K.lookup f = some ⟨oc, od, .func (PySem.W.fnOf nm qu pa bo sc dV kV doc pm an cdv ct), osl⟩) (hcd : PySem.W.codeIn K cdv qu = true) (S : FnScope N ps sc) (ln : ∀ xs H R E, sp xs H R E → xs.length = ps.length)
    (hbo : ∀ (A : Around) (st : List Env) (s : Shared) (H : Hp) (xs : List V) (R : VK) (E : XK), Room k (A.deeper (envOfC qu sc s.heap.objs.size f cdv)) → (A.deeper (envOfC qu sc s.heap.objs.size f cdv)).guards = some [] → sp xs H R E →
      ∃ t, PSs (cxOf C P w K mg base N qu sc f cdv A st s H E) bo t ∧ t { nx := fun _ H' => R .non H', rt := R } (start N xs) H) : FnG P w K mg base C (k + 1) f (PySem.W.fnOf nm qu pa bo sc dV kV doc pm an cdv ct) ps sp := by
  refine ⟨ln, fun A st s H ar us xs R E hr hg e0 hb r hs => ?_⟩
  have hl := ln _ _ _ _ hs
  have KX : K.In s.heap := e0.mod.kin.keeps (fun b o e => (e0.bs b o e).1)
  have lim : s.heap.NoLimit := e0.mod.nolimit.keeps (fun b o e => (e0.bs b o e).1)
  have kinds : ∀ y ∈ ps.zip us, sc.names.lookup y.1 = some .local ∨ (sc.names.lookup y.1 = some .cell ∧ ((cellsFrom (s.heap.objs.size + 1) sc.names []).lookup y.1).isSome = true) := by
    rintro ⟨n, v⟩ hy
    rcases S.par n (List.of_mem_zip hy).1 with q | q
    · exact .inl q
    · exact .inr ⟨q, PySem.W.cellsFrom_some _ _ _ (.inl q)⟩
  refine codeAny_call_function hr.depth (KX _ _ lk) rfl S.co S.gen rfl (PySem.W.codeRec_of KX hcd) (hb _ _ _ _ (wpAny_newFunctionEnv_cells S.kind kinds fun env he s1 x => ?_))
  subst he
  refine ⟨lim.keeps x.toInCall.keep, codeAny_func ?_⟩
  obtain ⟨t, ht, hq⟩ := hbo A st s H xs R E (hr.deeper _) hg hs
  have I : Inv (cxOf C P w K mg base N qu sc f cdv A st s H E) [] (start N xs) H s1 := inv_start S hr.hd e0 hl r x
  refine wpAny_mono (ht.run [] s1 (start N xs) H _ I hq) (fun fl s' z => ?_) fun _ _ z => z
  have fin : ∀ {σ' : L2.St} {H' : Hp} {v : V} {u : Value}, Inv (cxOf C P w K mg base N qu sc f cdv A st s H E) [] σ' H' s' → RelV v u → R v H' → CE st P w H s R u s' :=
    fun {σ' H' v u} J rv q => ⟨v, H', J.os, J.bare, J.base, J.hok, rv, q⟩
  cases fl with
  | ret u => exact let ⟨v, σ', H', J, rv, q⟩ := z; fin J rv q
  | next => exact let ⟨σ', H', J, q⟩ := z; fin (v := V.non) (u := Value.none) J rfl q
  | brk => exact let ⟨_, _, _, q⟩ := z; q.elim
  | cont => exact let ⟨_, _, _, q⟩ := z; q.elim
theorem FunG.okX {P : Program} {w : World} {K : PySem.W.Frag} {mg : Str → Option Value} {base : Heap} {x qual : Str} {st : Stmt} {f : Addr} {fd : FuncData} {N ps : List Str} {k : Nat} {sp : Sp} (F : Fun K x qual st f fd) (S : FnScope N ps (defScope st)) (ln : ∀ vs H Q E, sp vs H Q E → vs.length = ps.length)
    (hbo : ∀ (cdv : Value) (A : Around) (out : List Env) (s : Shared) (H : Hp) (xs : List V) (R : VK) (E : XK), Room k (A.deeper (envOfC qual (defScope st) s.heap.objs.size f cdv)) → (A.deeper (envOfC qual (defScope st) s.heap.objs.size f cdv)).guards = some [] → sp xs H R E →
      ∃ t, PSs (cxOf (L2.CX P w) P w K mg base N qual (defScope st) f cdv A out s H E) (defBody st) t ∧ t { nx := fun _ H' => R .non H', rt := R } (start N xs) H) : FnG P w K mg base (L2.CX P w) (k + 1) f fd ps sp := by
  obtain ⟨oc, od, kV, doc, pm, an, cdv, ct, osl, rfl, lk, hcd⟩ := F.ex
  exact fnG_of lk hcd S ln fun A out s H xs R E hr hg hs => hbo cdv A out s H xs R E hr hg hs
section
variable {P : Program} {w : World} {K : PySem.W.Frag} {mg : Str → Option Value} {base : Heap}
/-- as fun_ok2 -/
theorem fun_okG {x qual : Str} {st : Stmt} {f : Addr} {fd : FuncData} {N ps : List Str} {k n : Nat} {cl : Nat → Option (Addr × List Str)} {io rn : Bool} {body : En → So} {fm : List Dt → Fo} (F : Fun K x qual st f fd) (S : FnScope N ps (defScope st)) (hN : ps.length ≤ N.length) (hn : n = ps.length) (hm : fm = runF N.length io rn body)
    (hb : ∀ (cdv : Value) (A : Around) (outer : List Env) (s : Shared) (H : Hp) (E : XK) (π : Nat → Option Pin), Room k (A.deeper (envOfC qual (defScope st) s.heap.objs.size f cdv)) → (A.deeper (envOfC qual (defScope st) s.heap.objs.size f cdv)).guards = some [] →
      PSs (cxOf (L2.CX P w) P w K mg base N qual (defScope st) f cdv A outer s H E) (defBody st) (TMs ⟨K, cl⟩ π (fun cls d _ H => E cls d H) body)) :
    FnG P w K mg base (L2.CX P w) (k + 1) f fd ps (spM ⟨K, cl⟩ n io rn fm) := by
  subst hn hm
  refine FunG.okX F S (fun vs H Q E h => ?_) (fun cdv A outer s H vs Q E hr hg h => ?_)
  · obtain ⟨F, ds, π0, hl, _⟩ := h
    exact hl
  · obtain ⟨F0, ds, π0, hl, le, ha, q⟩ := h
    refine ⟨_, hb cdv A outer s H E (pi0 π0) hr hg, _, F0, H, F0, _, ok_start (by rw [hl]; exact hN) le ha, ?_⟩
    unfold runF at q
    cases eb : body (argE io ds ++ List.replicate (N.length - ds.length) none) with
    | nx ρ =>
      rw [eb] at q
      dsimp only at q
      cases eo : ioOut io ρ with
      | none => rw [eo] at q; exact q.elim
      | some o =>
        rw [eo] at q
        cases rn with
        | true => exact q.elim
        | false => exact fun σ' F' H' k' => q F' H' .non k'.ok.le k'.fr (io_end ha k' eo) .non
    | rt d ρ =>
      rw [eb] at q
      dsimp only at q
      cases eo : ioOut io ρ with
      | none => rw [eo] at q; exact q.elim
      | some o =>
        rw [eo] at q
        cases rn with
        | true => exact q.elim
        | false => exact fun σ' F' H' v k' rv => q F' H' v k'.ok.le k'.fr (io_end ha k' eo) rv
    | rtN d ρ =>
      rw [eb] at q
      dsimp only at q
      cases eo : ioOut io ρ with
      | none => rw [eo] at q; exact q.elim
      | some o =>
        rw [eo] at q
        cases rn with
        | false => exact q.elim
        | true => exact fun σ' F' H' p k' h1 h2 h3 h4 h5 => q F' H' (.ref p) k'.ok.le k'.fr (io_end ha k' eo) ⟨p, rfl, h1, rtn_new ha k' eo h2 h3, h4, fun y hy => ⟨(h5 y hy).1, rtn_new ha k' eo (h5 y hy).2.1 (h5 y hy).2.2⟩⟩
    | exc x ρ =>
      rw [eb] at q
      dsimp only at q
      cases eo : ioOut io ρ with
      | none => rw [eo] at q; exact q.elim
      | some o =>
        rw [eo] at q
        exact fun σ' F' H' c d k' rx => q F' H' c d k'.ok.le k'.fr (io_end ha k' eo) rx
    | bk ρ => rw [eb] at q; exact q.elim
    | ct ρ => rw [eb] at q; exact q.elim
    | bad => rw [eb] at q; exact q.elim
end
/-! ### repr() of data -/
section
variable {X : Cx} {T : Tx} {F H : Hp}
/-- what can be shown -/
def shOk (p : PyData) : Bool := p.showable && (!p.hasDict && (decide (p.depth ≤ 40) && decide (p.shown.length ≤ sizeLine)))
def rReprP (K : PySem.W.Frag) : List V → Hp → VK → Prop := fun xs H Q => ∃ x p, xs = [x] ∧ Dp K H x p ∧ shOk p = true ∧ Q (.str p.shown) H
def fReprD (d : Dt) : Option Dt := match toPy d with
  | some p => if shOk p = true then some (.str p.shown) else none
  | none => none
theorem cs_reprD : CaS T (rReprP T.K) fReprD := uns_pure fun F H v d z Q le rv ef q => by
  unfold fReprD at ef
  split at ef
  · rename_i p e
    split at ef
    · rename_i hp
      cases ef
      exact ⟨v, p, rfl, dp_ofS le rv e, hp, q _ (.str _)⟩
    · cases ef
  · cases ef
end
/-! ### the law is called -/
theorem callG {P : Program} {w : World} {K : PySem.W.Frag} {mg mb : Str → Option Value} {C : CXT} {k : Nat} {f a : Addr} {fd : FuncData} {x : Str} {sp : Sp} {t : Shared} {its : List Value} {ns : List Int}
    (KX : K.In t.heap) (hns : t.heap.Ns mainGlobals mg) (hb : t.heap.Ns builtinsNs mb) (hbb : ∀ x : Str, x ≠ "__name__" → mb x = bootBuiltins x) (hlim : t.heap.NoLimit) (hg : t.gens = #[]) (ha : t.heap.get? a = some { cls := .type "list", data := .seq its.toArray }) (hi : IntsAre its ns) (hl : ns.length ≤ sizeLine) (hr : Room k callerA)
    (G : ∀ base : Heap, K.In base → base.Ns mainGlobals mg → FnG P w K mg base C k f fd [x] sp) (hbind : ∀ (s : Shared) (u : Value), BindsTo s fd ⟨[u], []⟩ [(x, u)])
    (hsp : ∀ H : Hp, Only H → SqL K H a (ns.map V.int) → sp [.ref a] H (fun v _ => v = .bl true) fun _ _ _ => False) (hC : ∀ H e s', C [] H t (fun _ _ _ => False) e s' → False) :
    codeAny (model P w) callerA (.call (.ref f) ⟨[.ref a], []⟩) (fun r s' => r = .ok (.ret (.bool true)) ∧ OldK t.heap s'.heap ∧ s'.os = t.os ∧ AllBare s'.gens) t := by
  have rv := vals_ints hi
  have hlen := hi.length
  have main : ∀ H : Hp, Only H → SqL K H a (ns.map V.int) → HOk P w H t.heap → (∀ b, H b ≠ none → b = a) → (H a ≠ none → K.lookup a = none) → codeAny (model P w) callerA (.call (.ref f) ⟨[.ref a], []⟩) (fun r s' => r = .ok (.ret (.bool true)) ∧ OldK t.heap s'.heap ∧ s'.os = t.os ∧ AllBare s'.gens) t := by
    intro H hO hS hok hA hK
    have at_a : ∀ {b : Addr} {u : HO}, H b = some u → b = a := fun {b u} q => hA b (by rw [q]; exact fun z => nomatch z)
    have low : ∀ {b : Addr} {o : Obj}, t.heap.get? b = some o → H b = none → (hidT t.heap H).get? b = some o := fun e n => hidT_get e n
    have nod : ∀ {b : Addr} {o : Obj} {es : Array DictEntry} {ep : Nat}, t.heap.get? b = some o → o.data = .dict es ep → H b = none := by
      intro b o es ep e d
      cases q : H b with
      | none => rfl
      | some u =>
        cases at_a q
        rw [ha] at e
        cases e
        cases (show Data.seq its.toArray _ = Data.dict es ep from d)
    have ns' : ∀ {b : Addr} {m : Str → Option Value}, t.heap.Ns b m → (hidT t.heap H).Ns b m := by
      rintro b m ⟨o, es, ep, e, d, r⟩
      exact ⟨o, es, ep, low e (nod e d), d, r⟩
    have kin : K.In (hidT t.heap H) := by
      intro b o e
      refine low (KX b o e) ?_
      cases q : H b with
      | none => rfl
      | some u =>
        cases at_a q
        rw [hK (by rw [q]; exact fun z => nomatch z)] at e
        cases e
    obtain ⟨mc, c1, c2⟩ := hlim
    have hM : Mod K mg (hidT t.heap H) := ⟨kin, ns' hns, ⟨mb, ns' hb, hbb⟩, ⟨mc, ns' c1, c2⟩⟩
    have e0 : Env0 P w K mg (hidT t.heap H) callerA [] t H := ⟨rfl, hM, fun b o e => of_hidT e, Nat.le_of_eq (hidT_size _ _), trivial, (fun b z => nomatch (show b ∈ ([] : List Addr) from z)), hok, .of_eq hg⟩
    refine codeAny_mono ((G _ kin (ns' hns)).go callerA [] t H ⟨[.ref a], []⟩ [.ref a] [.ref a] _ _ hr rfl e0 (hbind t (.ref a)) (.cons rfl .nil) (hsp H hO hS)) fun r s' h => ?_
    match r, h with
    | .error e, h => exact (hC H e s' h).elim
    | .ok .next, h => exact False.elim h
    | .ok .brk, h => exact False.elim h
    | .ok .cont, h => exact False.elim h
    | .ok (.ret u), h =>
      obtain ⟨v, H', os, bare, un, hok', r', q⟩ := h
      cases (show v = .bl true from q)
      cases (show u = Value.bool true from r')
      refine ⟨rfl, OldK.of_keep (fun b o e => ?_), os, bare⟩
      cases q : H b with
      | none => exact un.keep b o e q (fun z => nomatch (show b ∈ ([] : List Addr) from z)) (fun z => nomatch z)
      | some u =>
        rcases hO b with z | ⟨ob, xs, z⟩
        · rw [q] at z; cases z
        · obtain ⟨e1, _⟩ := hok b _ z
          obtain ⟨e2, _⟩ := hok' b _ (un.frzs b ob _ z)
          rw [e] at e1
          cases e1
          exact e2
  cases hk : K.lookup a with
  | some o =>
    have e := KX a o hk
    rw [ha] at e
    cases e
    exact main (fun _ => none) (fun _ => .inl rfl) (.inr ⟨_, its.toArray, _, hk, rfl, rfl, rfl, by rw [List.size_toArray, hlen]; exact hl, by simpa using rv⟩) (fun b u z => by cases (show (none : Option HO) = some u from z)) (fun b z => absurd rfl z) (fun z => absurd rfl z)
  | none =>
    refine main (fun b => if b = a then some (.frz { cls := .type "list", data := .seq its.toArray } (.lst (ns.map V.int))) else none) (fun b => ?_) (.inl (.inr ⟨{ cls := .type "list", data := .seq its.toArray }, if_pos rfl⟩)) (fun b u z => ?_) (fun b z => ?_) (fun _ => hk)
    · by_cases e : b = a
      · exact .inr ⟨_, _, if_pos e⟩
      · exact .inl (if_neg e)
    · by_cases e : b = a
      · cases (if_pos e).symm.trans z
        cases e
        exact ⟨ha, by rw [List.length_map]; exact hl, its, _, rv, ha⟩
      · cases (if_neg e).symm.trans z
    · by_cases e : b = a
      · exact e
      · exact absurd (if_neg e) z
theorem walkG {l : PySem.W.OpenLaw} {n k : Nat} {q : Program} {loose : List Str} {XP : (Str → Option Value) → Heap → Prop} {YP : World → Heap → Prop} {d : DefRec} {K : Params → PySem.W.Frag} {CX : World → CXT} {sp : World → Sp} {x : Str} (hn : l.most = some n) (hn2 : n ≤ sizeLine) (hdf : d.params.defaults = []) (hr : Room k callerA) (hY : ∀ (w : World) (h : Heap), YP w h → (K w.params).In h)
    (G : ∀ (w : World) (mg : Str → Option Value) (fa : Addr) (h : Heap), (K w.params).In h → h.Ns mainGlobals mg → mg d.name = some (.ref fa) → ∃ fd : FuncData, (∀ (s : Shared) (u : Value), BindsTo s fd ⟨[u], []⟩ [(x, u)]) ∧ ∀ base : Heap, (K w.params).In base → base.Ns mainGlobals mg → FnG l.prog w (K w.params) mg base (CX w) k fa fd [x] (sp w))
    (hsp : ∀ (w : World) (H : Hp) (a : Addr) (ns : List Int), ns.length ≤ n → Only H → SqL (K w.params) H a (ns.map V.int) → sp w [.ref a] H (fun v _ => v = .bl true) fun _ _ _ => False) (hC : ∀ (w : World) (H : Hp) (s : Shared) (e : Value) (s' : Shared), CX w [] H s (fun _ _ _ => False) e s' → False) :
    PySem.W.WalkO q loose XP YP l.row.toRowW d [] (fun f vs => PySem.call f vs) := by
  refine Att.attach_call hn hdf (fun w s₀ s₁ mg mb fa o pm cd doc a vs ns J Y ho hd hcd hmg hobj hints hlen hg => ?_)
  have KX := hY w _ Y
  obtain ⟨fd, hb, hF⟩ := G w mg fa _ KX J.T.g hmg
  exact callG KX J.T.g J.T.b J.T.builtins J.T.nolimit hg hobj hints (Nat.le_trans hlen hn2) hr hF hb (fun H hO hS => hsp w H a ns hlen hO hS) (fun H e s' => hC w H s₁ e s')
end Dl
namespace Dl
open PySem PySem.Spec PyProof.Rows L2
section
variable {X : Cx} {T : Tx} {π : Nat → Option Pin} {W : WX} {tg l e : Expr} {m : Mi Dt} {F : Hp}
/-! ### the signs of a text -/
def strD (x : Str) : List Dt := x.cps.toList.map fun c => .str ⟨#[c]⟩
def mStrI (m : Mi Dt) : Mi (List Dt) := mBind m fun d => match d with
  | .str x => mPure (strD x)
  | _ => mBad
theorem strD_get (x : Str) (i : Nat) : (strD x)[i]? = (x.cps[i]?).map fun c => Dt.str ⟨#[c]⟩ := by
  unfold strD
  rw [List.getElem?_map, Array.getElem?_toList]
theorem strD_len (x : Str) : (strD x).length = x.cps.size := by
  unfold strD
  rw [List.length_map, Array.length_toList]
theorem wk_str (x : Str) : Wk T (Its x) (strD x) F where
  goes := fun i H hi le => by rw [strD_len] at hi; exact hi
  stops := fun H le => by rw [strD_len]; exact Nat.le_refl _
  yields := fun i H v H' d hd le y => by
    obtain ⟨e, c, hc, ev⟩ := y
    rw [strD_get, hc] at hd
    cases hd
    subst ev
    exact .inl ⟨e, .str _⟩
theorem di_str (h : PE X l (TMe T π W m)) : PI X tg l (TMi T π W (mStrI m)) := (pi_str h).imp fun σ H R ⟨A, F, ρ, k, p⟩ => ⟨A, F, ρ, k, p.bind.imp fun d ρ1 F1 H1 k1 r1 p1 v rv => by
  cases d with
  | str x => exact ⟨x, rv.str_inv, p1.pure k1 _ (wk_str x)⟩
  | _ => exact p1.elim⟩
/-! ### int() of a text -/
def fIntS : Dt → Option Dt
  | .str a => if a.length ≤ 640 then (PySem.intText? a).map Dt.int else none
  | _ => none
theorem cs_intS : CaS T (fun xs H Q => ∃ a n, xs = [V.str a] ∧ PySem.intText? a = some n ∧ a.length ≤ 640 ∧ Q (.int n) H) fIntS := uns_pure fun F H v d z Q le rv ef q => by
  unfold fIntS at ef
  split at ef
  · rename_i a
    split at ef
    · rename_i hl
      obtain ⟨n, hn, e⟩ := Option.map_eq_some_iff.mp ef
      subst e
      exact ⟨a, n, by rw [rv.str_inv], hn, hl, q _ (.int _)⟩
    · cases ef
  · cases ef
end
end Dl
namespace Dl
open PySem PySem.Spec PyProof.Rows L2
/-! ### within an except suite: the caught error is known -/
/-- nothing is raised -/
abbrev WN : WX := fun _ _ _ _ => False
section
variable {T : Tx} {π : Nat → Option Pin} {A : Addr → Prop} {F H F' H' : Hp} {σ : L2.St} {ρ : En} {i : Nat} {a : Addr} {cls : Value} {d : Option Addr}
/-- slot i has the caught error at a; x tells what it is; its dict is not A's to change -/
structure Got (T : Tx) (A : Addr → Prop) (F H : Hp) (σ : L2.St) (i : Nat) (a : Addr) (cls : Value) (d : Option Addr) (x : Ex) : Prop where
  sl : σ[i]? = some (some (.ref a))
  rep : RepX T F H cls d x
  no : ∀ dx, d = some dx → ¬ A dx
theorem Got.go {x : Ex} (g : Got T A F H σ i a cls d x) (r : Fr A F H F' H') : Got T A F' H' σ i a cls d x := by
  obtain ⟨s, ⟨C, dx, ns, vs, h1, h2, h3, h4, h5⟩, n⟩ := g
  refine ⟨s, ⟨C, dx, ns, vs, h1, h2, h3, h4.mono r.f, ?_⟩, n⟩
  rcases h5 with h5 | ⟨e, h5⟩
  · exact .inl h5
  · exact .inr ⟨e, r.h dx _ (n dx e) h5⟩
def TEe (T : Tx) (π : Nat → Option Pin) (i : Nat) (a : Addr) (cls : Value) (d : Option Addr) (m : Ex → Mi Dt) : TE := fun σ H Q => ∃ A F ρ x, Ok T π A F H σ ρ ∧ Got T A F H σ i a cls d x ∧
  Post T π WN σ A F H (fun y _ F' H' => ∀ v, Rep T F' v y → Q v H') (m x ρ)
variable {X : Cx} {e ea eb ec : Expr} {es rest : List Expr} {pos : Pos} {m : Mi Dt} {k ka kb : Ex → Mi Dt} {kt kt' : Ex → Mi Bool} {ks : Ex → Mi (List Dt)}
/-! ### e.f -/
/-- the field of an error of class c, which has one -/
def mXf (c : Nat) (x : Ex) : Mi Dt := if x.c = c then (match x.fs with | [y] => mPure y | _ => mBad) else mBad
theorem te_fld {oe : Obj} {pn : List (Addr × Obj)} {C : Addr} {f : Str} {c : Nat} (hc : T.cl c = some (C, [f])) (hK : X.K = T.K) (S : XfC X.K C) (hno : PySem.W.findIn X.K (.ref C) f = some none) (hz : Zc cls d oe) (hf : ∃ vs, oe.data = .fields vs)
    (he : PE (X.suite a ((a, oe) :: pn)) e (tVar i)) (hb : attributeBase e f X.env (eval e X.env) = eval e X.env := by rfl) : PE (X.suite a ((a, oe) :: pn)) (.Attribute e f pos) (TEe T π i a cls d (mXf c)) :=
  (pe_xf (X := X) S hno hz hf he hb).imp fun σ H Q ⟨A, F, ρ, x, k, g, p⟩ => by
    unfold mXf at p
    obtain ⟨xc, xs⟩ := x
    dsimp only at p
    by_cases hx : xc = c
    · rw [if_pos hx] at p
      obtain ⟨s, ⟨C', dx, ns, vs, h1, h2, h3, h4, h5⟩, n⟩ := g
      dsimp only at h1 h4
      rw [hx, hc] at h1
      cases h1
      cases h4 with
      | nil => exact p.elim
      | @cons v vs' y ys r rs =>
        cases rs with
        | cons _ _ => exact p.elim
        | nil =>
          rcases h5 with ⟨h5, _⟩ | ⟨h5, h6⟩
          · cases h5
          · exact ⟨.ref a, s, rfl, h2, dx, _, v, h5, h6, by simp [List.lookup], p.pure k v r⟩
    · rw [if_neg hx] at p; exact p.elim
/-! ### isinstance(e, C) -/
end
end Dl
namespace Dl
open PySem PySem.Spec PyProof.Rows L2
section
variable {T : Tx} {π : Nat → Option Pin} {A : Addr → Prop} {F H F' H' F0 H0 : Hp} {σ : L2.St} {ρ : En} {i : Nat} {a : Addr} {cls : Value} {d : Option Addr}
/-- a slot is forgotten -/
theorem Ok.forget (k : Ok T π A F H σ ρ) (u : Option V) : Ok T π A F H (σ.set i u) (ρ.set i none) := by
  have ol : ∀ {j : Nat} {s : Sl}, (ρ.set i none)[j]? = some (some s) → i ≠ j ∧ ρ[j]? = some (some s) := fun {j s} e => by
    by_cases hj : i = j
    · subst hj
      by_cases hi : i < ρ.length
      · rw [List.getElem?_set_self hi] at e; cases e
      · rw [List.getElem?_eq_none (by simpa using hi)] at e; cases e
    · rw [List.getElem?_set_ne hj] at e; exact ⟨hj, e⟩
  refine ⟨k.le, by simpa using k.len, fun j dj e => ?_, fun j jo dj e => ?_, fun j l jo lo dj dl x y z ej el sj sl hx hy => ?_⟩
  · obtain ⟨hj, e⟩ := ol e
    rw [List.getElem?_set_ne hj]; exact k.val j dj e
  · obtain ⟨hj, e⟩ := ol e
    rw [List.getElem?_set_ne hj]; exact k.own j jo dj e
  · obtain ⟨hj, ej⟩ := ol ej
    obtain ⟨hl, el⟩ := ol el
    rw [List.getElem?_set_ne hj] at sj
    rw [List.getElem?_set_ne hl] at sl
    exact k.dis j l jo lo dj dl x y z ej el sj sl hx hy
theorem OwnAt.no_xd {T : Tx} {F H : Hp} {a x : Addr} {d : Dt} (h : OwnAt T F H a d) (hx : x = a ∨ x ∈ inH H a d) (fs : List (Str × V)) : H x ≠ some (.xd fs) := by
  intro z
  cases d with
  | lst ds =>
    rcases hx with rfl | hx
    · obtain ⟨_, e, _⟩ := h; rw [e] at z; cases z
    · cases hx
  | dic t ks ds =>
    rcases hx with rfl | hx
    · cases t with
      | false => obtain ⟨_, _, e, _⟩ := h; rw [e] at z; cases z
      | true => obtain ⟨_, _, e, _⟩ := h; rw [e] at z; cases z
    · cases hx
  | ins c ds =>
    rcases hx with rfl | hx
    · obtain ⟨_, _, _, _, _, e, _⟩ := h; rw [e] at z; cases z
    · cases hx
  | deal cs bl =>
    obtain ⟨b, e1, e2, e3⟩ := h
    rcases hx with rfl | hx
    · rw [e1] at z; cases z
    · rw [inH_deal e1, List.mem_singleton] at hx
      subst hx
      rw [e2] at z; cases z
  | _ => exact h.elim
/-- the suite's start: the error's dict is set apart -/
theorem Ok.apart (k : Ok T π A F H σ ρ) {x : Ex} (r : RepX T F H cls d x) : Ok T π (fun y => A y ∧ d ≠ some y) F H σ ρ := by
  refine ⟨k.le, k.len, k.val, fun j jo dj e => ?_, k.dis⟩
  obtain ⟨b, h1, h2, h3, h4, h5, h6⟩ := k.own j jo dj e
  have ne : ∀ y, (y = b ∨ y ∈ inH H b dj) → d ≠ some y := fun y hy z => by
    obtain ⟨C, dx, ns, vs, _, _, _, _, q⟩ := r
    rcases q with ⟨_, q⟩ | ⟨q, q2⟩
    · rw [q] at z; cases z
    · rw [q] at z; cases z; exact h3.no_xd hy _ q2
  exact ⟨b, h1, h2, h3, ⟨h4, ne b (.inl rfl)⟩, h5, fun y hy => ⟨(h6 y hy).1, (h6 y hy).2, ne y (.inr hy)⟩⟩
/-! ### statements of a suite -/
def TMx (T : Tx) (π : Nat → Option Pin) (i : Nat) (a : Addr) (cls : Value) (d : Option Addr) (s : Ex → En → So) : TS := fun D σ H => ∃ A F0 H0 F ρ x, StOk T π A F0 H0 F H σ ρ ∧ σ[i]? = some (some (.ref a)) ∧ RepX T F H cls d x ∧ PostS T π WN A F0 H0 D (s x ρ)
variable {X : Cx} {e : Expr} {st : Stmt} {sts : List Stmt} {pos : Pos} {m : Ex → Mi Dt} {s : En → So} {sx : Ex → En → So}
theorem sx_set {j : Nat} (h : PS X st (tAsg (TEe T π i a cls d m) (gName j))) : PS X st (TMx T π i a cls d fun x => sSet j (m x)) := h.imp fun D σ H ⟨A, F0, H0, F, ρ, x, k, hs, r, p⟩ =>
  ⟨_, F, ρ, x, k.ok.apart r, ⟨hs, r, fun dx e z => z.2 e⟩, ((p.bind k).weak fun _ z => z.1).imp fun y ρ1 F1 H1 _ _ ⟨k1, p1⟩ v rv => by
    unfold sPut at p1
    cases e : setSl j (.val y) ρ1 with
    | none => rw [e] at p1; exact p1.elim
    | some ρ' => rw [e] at p1; exact p1 _ F1 H1 ⟨k1.ok.set rv e, k1.fr⟩⟩
theorem sx_one (h : PS X st (TMx T π i a cls d sx)) : PSs X [st] (TMx T π i a cls d sx) := pss_one h
/-! ### try .. except C as e -/
def afterE (i : Nat) : So → So
  | .nx ρ => .nx (ρ.set i none)
  | .bk ρ => .bk (ρ.set i none)
  | .ct ρ => .ct (ρ.set i none)
  | .rt y ρ => .rt y ρ
  | _ => .bad
variable {Wout : WX}
theorem after_out {D : Ends} {W : WX} {o : So} (p : PostS T π W A F0 H0 D (afterE i o)) : PostS T π WN A F0 H0 { nx := fun σ' H' => D.nx (σ'.set i none) H', rt := D.rt, bk := fun σ' H' => D.bk (σ'.set i none) H', ct := fun σ' H' => D.ct (σ'.set i none) H' } o := by
  cases o with
  | nx ρ => exact fun σ' F' H' k => p _ F' H' ⟨k.ok.forget none, k.fr⟩
  | bk ρ => exact fun σ' F' H' k => p _ F' H' ⟨k.ok.forget none, k.fr⟩
  | ct ρ => exact fun σ' F' H' k => p _ F' H' ⟨k.ok.forget none, k.fr⟩
  | rt y ρ => exact p
  | _ => exact p.elim
end
end Dl
namespace Dl
open PySem PySem.Spec PyProof.Rows L2
/-! ### the package's errors: made by the def __init__, which calls TurnError.__init__ -/
/-- what the written part says of the class whose __init__ is called by name -/
structure Root (K : PySem.W.Frag) (C : Addr) : Prop where
  rd : PySem.W.readsIn K C (.type "type") = true
  ga : PySem.W.specialIn K (.ref C) "__getattribute__" = some (some (.builtin "type.__getattribute__"))
  ini : PySem.W.findCls K (.ref C) (.type "type") "__init__" = some (.val (.builtin "ValueError.__init__"))
section
variable {X : Cx} {e : Expr} {es : List Expr} {ta : TA} {x : Str} {C : Addr} {p1 p2 pos : Pos}
theorem pe_rootInit {pl : Sem Bool} (S : Root X.K C) (hg : Gl X x) (hm : X.mg x = some (.ref C)) (ha : PA X (e :: es) ta)
    (hc : eval (.Call (.Attribute (.Name x p1) "__init__" p2) (e :: es) [] pos) X.env = (do
      let ov ← eval (.Name x p1) X.env
      standAt p2.atName
      let (f, first) ← holding [ov] (getMethod ov "__init__" pl)
      callWith pos f first (backTo pos (starEach (e :: es) X.env)) (backToKw pos (keywordEach [] X.env))) := by rfl)
    (hdb : (x == ("__debug__" : Str)) = false := by decide) (he : starEach (e :: es) X.env = (false, eval e X.env) :: starEach es X.env := by rfl) (hpl : (backTo pos (starEach es X.env)).any (·.1) = false := by rfl) :
    PE X (.Call (.Attribute (.Name x p1) "__init__" p2) (e :: es) [] pos) (tVeI X.K ta) := ⟨fun pins s σ H Q I h => by
  refine PySem.W.methodCall_KW (ld_glob I hg hm ?_ hdb) hc
  refine PySem.W.method_cls I.kIn S.ga (PySem.W.cls_value I.kIn S.rd S.ini rfl ?_)
  refine PyProof.Rows.callWith_method1 (thn (ha.run pos pins _ σ H _ (I.tok _) h) fun us s1 ⟨vs, H1, I1, r1, a, D, ws, ev, hl, O, ea, q⟩ => ?_) he hpl
  rw [ev] at r1
  obtain ⟨u0, ur, rfl, ra, rr⟩ : ∃ u0 ur, us = u0 :: ur ∧ RelV (.ref a) u0 ∧ Vals ws ur := by cases r1 with | cons h t => exact ⟨_, _, rfl, h, t⟩
  obtain rfl : u0 = Value.ref a := ra
  exact oinit_ok O I1 ea (by have := rr.length; rw [sizeLine_eq]; omega) fun s' J => ⟨.non, H1, J, rfl, q⟩⟩
end
/-- .. of an error with one field -/
def spI (C : Addr) (f : Str) : Sp := fun vs H Q E => ∃ a y, vs = [.ref a, y] ∧ H a = some (exo a C none) ∧ ∀ dx, H dx = none → dx ≠ a → Q .non (upd (upd H dx (exd dx [(f, y)])) a (exo a C (some dx)))
/-- .. of one without -/
def spI0 (C : Addr) : Sp := fun vs H Q E => ∃ a, vs = [.ref a] ∧ H a = some (exo a C none) ∧ Q .non H
/-- an error's class -/
structure Err (K : PySem.W.Frag) (mg : Str → Option Value) (x : Str) (C fI : Addr) : Prop where
  oex : OexC K C
  exc : ExcC K C
  xf : XfC K C
  ini : PySem.W.findIn K (.ref C) "__init__" = some (some (.ref fI))
  tI : PySem.W.typeIn K (.ref fI) = some (.type "function")
  g : mg x = some (.ref C)
section
variable {P : Program} {w : World} {K : PySem.W.Frag} {mg : Str → Option Value} {base : Heap}
theorem err_init {x qual f z : Str} {st : Stmt} {fI C : Addr} {fd : FuncData} (txt : Str) (F : Fun K x qual st fI fd) (S : FnScope [("self" : Str), z] [("self" : Str), z] (defScope st)) (O : OexC K C) (hno : PySem.W.findIn K (.ref C) f = some none)
    (hb : ∀ (cdv : Value) (A : Around) (outer : List Env) (s : Shared) (H : Hp) (E : XK), PSs (cxOf (L2.CX P w) P w K mg base [("self" : Str), z] qual (defScope st) fI cdv A outer s H E) (defBody st)
      (tSeq (tDrop (tVeI K (tCons (tVar 0) (tCons (tC (.str txt)) tNil)))) (tOst K f (tVar 0) (tVar 1)))) :
    FnOk P w K mg base (L2.CX P w) 1 fI fd [("self" : Str), z] (spI C f) := by
  refine F.okX S (fun vs H Q E h => ?_) (fun cdv A outer s H vs Q E hr h => ?_)
  · obtain ⟨a, y, rfl, _⟩ := h; rfl
  · obtain ⟨a, y, rfl, ha, q⟩ := h
    exact ⟨_, hb cdv A outer s H E, .ref a, rfl, a, C, [.str txt], rfl, (by show 1 ≤ 1000; decide), O, ha, y, rfl, .ref a, rfl, a, C, rfl, O, hno, .inl ⟨ha, fun dx h1 h2 => q dx h1 h2⟩⟩
end
/-! ### raise C(e) -/
section
variable {X : Cx} {T : Tx} {π : Nat → Option Pin} {W : WX} {e : Expr} {m : Mi Dt} {x f z : Str} {C fI : Addr} {fd : FuncData} {p pos pos' : Pos} {c : Nat}
def sRaise (c : Nat) (m : Mi Dt) : En → So := sBind m fun y ρ => .exc ⟨c, [y]⟩ ρ
theorem xd_eq {H : Hp} {a dx : Addr} {o1 o2 o3 o : HO} (ha : H a = none) (hne : dx ≠ a) : upd (del (upd (upd (upd H a o1) dx o2) a o3) a) dx o = upd H dx o := by
  funext b
  by_cases hb : b = dx
  · rw [hb, upd_same, upd_same]
  · rw [upd_ne hb, upd_ne hb]
    by_cases hba : b = a
    · rw [hba, del_same, ha]
    · rw [del_ne hba, upd_ne hba, upd_ne hb, upd_ne hba]
theorem ds_raise (hK : X.K = T.K) (hcalm : X.calm = true) (tk : Takes X W) (S : Err X.K X.mg x C fI) (hc : T.cl c = some (C, [f])) (F1 : FnOk X.prog X.w X.K X.mg X.base (L2.CX X.prog X.w) 1 fI fd [("self" : Str), z] (spI C f)) (hr : Room 2 X.A) (hb : Binds X.K fd [("self" : Str), z] [])
    (hx : Passes (L2.CX X.prog X.w) X (fun _ _ _ => False)) (hg : Gl X x) (he : PE X e (TMe T π W m)) (hdb : (x == ("__debug__" : Str)) = false := by decide) (hs : starEach [e] X.env = (false, eval e X.env) :: starEach [] X.env := by rfl) (hpl : (backTo pos (starEach [] X.env)).any (·.1) = false := by rfl) :
    PS X (.Raise (some (.Call (.Name x p) [e] [] pos)) none pos') (TMs T π W (sRaise c m)) :=
  (ps_raise hcalm tk (pmk_oex S.oex S.ini S.tI F1 hr hb .nil hx hg S.g (pa_cons he pa_nil hs) hdb hs hpl)).imp fun D σ H ⟨A, F0, H0, F, ρ, k, q⟩ => by
    refine ⟨_, F, ρ, k.ok, (q.bind k).imp fun y ρ1 F1 H1 _ _ ⟨k1, p1⟩ v rv => ?_⟩
    refine ⟨(by show 1 ≤ 1000; decide), fun a ha => ⟨a, v, rfl, upd_same, fun dx h1 hne => ?_⟩⟩
    have hdx : H1 dx = none := by rw [upd_ne hne] at h1; exact h1
    refine ⟨rfl, dx, [(f, v)], upd_same, by rw [upd_ne hne, upd_same], hdx, ?_⟩
    rw [xd_eq ha hne]
    exact p1 σ F1 _ _ _ (k1.step (k1.ok.newO hdx) (.newO hdx)) ⟨C, dx, [f], [v], hc, rfl, rfl, .cons rv .nil, .inr ⟨rfl, upd_same⟩⟩
end
end Dl
namespace Dl
open PySem PySem.Spec PyProof.Rows L2
/-- a class that is named in except clauses and in isinstance -/
structure Kls (K : PySem.W.Frag) (mg : Str → Option Value) (x : Str) (C : Addr) : Prop where
  g : mg x = some (.ref C)
  hd : PySem.W.hasDictIn K C = true
  ty : PySem.W.typeIn K (.ref C) = some (.type "type")
  sf : PySem.W.subIn K (.ref C) (.ref C) = some true
section
variable {K : PySem.W.Frag} {mg : Str → Option Value} {x : Str} {C D : Addr} {b : Bool}
theorem Kls.exm (h : Kls K mg x C) (s : PySem.W.subIn K (.ref D) (.ref C) = some b) (hb : PySem.W.subIn K (.ref C) (.type "BaseException") = some true) : PySem.W.exmOne K (.ref D) (.ref C) = some b := PySem.W.exm_ref hb h.hd h.ty s
theorem Kls.kit (h : Kls K mg x C) (s : PySem.W.subIn K (.ref D) (.ref C) = some b) : PySem.W.kitOne K (.ref D) (.ref C) = some b := by
  by_cases e : D = C
  · subst e
    rw [h.sf] at s
    cases s
    unfold PySem.W.kitOne
    rw [if_pos (beq_self_eq_true _)]
  · obtain ⟨cd, hc, _⟩ := PySem.W.any_some h.hd
    have z : (Value.ref D == Value.ref C) = false := Bool.eq_false_iff.mpr fun q => e (Value.ref.inj (beq_iff_eq.mp q))
    unfold PySem.W.kitOne
    rw [z, if_neg Bool.false_ne_true]
    show (if ((PySem.W.clsIn K C).isSome && PySem.W.typeIn K (.ref C) == some (.type "type")) = true then PySem.W.subIn K (.ref D) (.ref C) else none) = some b
    rw [if_pos (by rw [hc, h.ty]; rfl)]
    exact s
end
def qTab (l : List (Nat × Bool)) : Nat → Option Bool := fun c => l.lookup c
theorem hq_nil {T : Tx} {cv : Value} : ∀ c b, qTab [] c = some b → ∃ C ns, T.cl c = some (C, ns) ∧ PySem.W.exmOne T.K (.ref C) cv = some b := fun c b h => nomatch h
theorem hq_cons {T : Tx} {cv : Value} {c0 : Nat} {b0 : Bool} {C0 : Addr} {ns0 : List Str} {l : List (Nat × Bool)} (h1 : T.cl c0 = some (C0, ns0)) (h2 : PySem.W.exmOne T.K (.ref C0) cv = some b0)
    (r : ∀ c b, qTab l c = some b → ∃ C ns, T.cl c = some (C, ns) ∧ PySem.W.exmOne T.K (.ref C) cv = some b) : ∀ c b, qTab ((c0, b0) :: l) c = some b → ∃ C ns, T.cl c = some (C, ns) ∧ PySem.W.exmOne T.K (.ref C) cv = some b := fun c b h => by
  unfold qTab at h
  by_cases e : c = c0
  · subst e
    simp [List.lookup] at h
    subst h
    exact ⟨_, _, h1, h2⟩
  · have z : (c == c0) = false := by simpa using e
    simp only [List.lookup, z] at h
    exact r c b h
theorem passes_no {X : Cx} : Passes (L2.CX X.prog X.w) X (fun _ _ _ => False) := fun _ _ _ _ _ _ _ ⟨_, _, _, _, _, _, _, _, _, _, _, _, z⟩ => z.elim
end Dl
namespace Dl
open PySem PySem.Spec PyProof.Rows L2
/-! ### several named clauses: an error that came, clause by clause -/
section
variable {X : Cx} {pn : List (Addr × Obj)} {σ : L2.St} {H : Hp} {a : Addr} {cls : Value} {d : Option Addr} {t : Shared}
/-- the error a flies over t; what stands without it is as σ and H say -/
structure Came (X : Cx) (pn : List (Addr × Obj)) (σ : L2.St) (H : Hp) (a : Addr) (cls : Value) (d : Option Addr) (t : Shared) : Prop where
  fly : ∃ (G : Heap) (bare : Shared), Inv X pn σ H bare ∧ (∀ x o, bare.heap.get? x = some o → x ∉ frs X.stack → G.get? x = some o) ∧ HandSPX.FlyingZ G X.stack a (Zc cls d) t.heap ∧ bare.heap.UpToSlots t.heap ∧ t.os = bare.os
  free : H a = none
  gens : AllBare t.gens
theorem Came.inv (c : Came X pn σ H a cls d t) : Inv X pn σ H t := by
  obtain ⟨G, bare, i, g, f, u, o⟩ := c.fly
  exact i.landed g f.1 u o c.gens
theorem Came.at_ {h : Heap} {G : Heap} {bare : Shared} (i : Inv X pn σ H bare) (g : ∀ x o, bare.heap.get? x = some o → x ∉ frs X.stack → G.get? x = some o) (f : HandSPX.FlyingZ G X.stack a (Zc cls d) h) (u : bare.heap.UpToSlots h) (o : t.os = bare.os) (free : H a = none) (gens : AllBare t.gens) : Came X pn σ H a cls d { t with heap := h } := ⟨⟨G, bare, i, g, f, u, o⟩, free, gens⟩
/-- the error's object, apart from all frames -/
theorem Came.obj (c : Came X pn σ H a cls d t) (hs : X.stack = X.env :: X.outer) (hf : X.env.frame = some X.env.locals) : ∃ ob vs, t.heap.get? a = some ob ∧ Zc cls d ob ∧ ob.data = .fields vs ∧ a ≠ X.env.locals ∧ a ∉ X.fs := by
  obtain ⟨G, bare, _, _, f, _, _⟩ := c.fly
  obtain ⟨ob, vs, h1, h2, h3⟩ := f.there
  have apart : a ∉ frs X.stack := fun m => by
    obtain ⟨_, o2, h4, h5⟩ := f.2.2.1.mem m
    rw [h1] at h4
    injection h4 with h4
    rw [← h4] at h5
    exact h5 _ h3
  refine ⟨ob, vs, h1, h2, h3, fun z => apart ?_, fun m => apart ?_⟩
  · rw [hs, z]
    exact List.mem_filterMap.mpr ⟨X.env, .head _, hf⟩
  · rw [hs]
    obtain ⟨e, m1, m2⟩ := List.mem_filterMap.mp m
    exact List.mem_filterMap.mpr ⟨e, .tail _ m1, m2⟩
/-- what the clauses hds do with an error: w is what they wish of it -/
def Meets (X : Cx) (hds : List ExceptHandler) (w : Ends → WX) : Prop := ∀ (pn : List (Addr × Obj)) (σ : L2.St) (H : Hp) (a : Addr) (cls : Value) (d : Option Addr) (t : Shared) (D : Ends),
  Came X pn σ H a cls d t → w D cls d σ H → wpAny (model X.prog X.w) X.A (handleBy (.ref a) X.env hds) (SP X pn D) X.xe t
variable {W : WX}
/-- none of them: it flies on -/
theorem meets_none (hs : X.stack = X.env :: X.outer) (hf : X.env.frame = some X.env.locals) (tk : Takes X W) : Meets X [] (fun _ => W) := fun pn σ H a cls d t D c hw => by
  obtain ⟨G, bare, i, g, f, u, o⟩ := c.fly
  obtain ⟨ob, vs, T, oT, ts, h1, _, h3, h4, _⟩ := f.2.2.2
  have up : wpAny (model X.prog X.w) X.A (setFlight (.ref a) X.env.frame) (fun _ t' => wpAny (model X.prog X.w) X.A (throw (.ref a) : Sem Flow) (SP X pn D) X.xe t') X.xe t := by
    rw [hf]
    exact HandSPX.setFlight_upZ f fun h k v => wpAny_throw (tk _ _ ⟨a, G, bare, pn, σ, H, cls, d, rfl, i, g, u.trans v, .inr (.inr k), c.free, o, c.gens, hw⟩)
  apply wpAny_handleBy_nil
  unfold PySem.passOn
  apply wpAny_bind
  apply wpAny_field h1 h3 h4
  have nz : ¬ ((Value.ref T == Value.none) = true) := by simp
  rw [if_neg nz]
  first
    | exact wpAny_bind (wpAny_pure (wpAny_bind up))
    | exact wpAny_bind up
/-- where an except clause's suite ends, its name is gone -/
def goneE (i : Nat) (D : Ends) : Ends := { nx := fun σ H => D.nx (σ.set i none) H, rt := D.rt, bk := fun σ H => D.bk (σ.set i none) H, ct := fun σ H => D.ct (σ.set i none) H }
def wCl (K : PySem.W.Frag) (cv : Value) (i : Nat) (s : Addr → Value → Option Addr → TS) (w : Ends → WX) (D : Ends) : WX := fun cls d σ H => ∃ b : Bool, PySem.W.exmOne K cls cv = some b ∧ match b with
  | true => ∀ a, H a = none → s a cls d (goneE i D) (σ.set i (some (.ref a))) H
  | false => w D cls d σ H
variable {x n : Str} {cv : Value} {i : Nat} {b₀ : Stmt} {suite : List Stmt} {np p1 : Pos} {s : Addr → Value → Option Addr → TS} {w : Ends → WX} {hds : List ExceptHandler}
theorem meets_cons (hs : X.stack = X.env :: X.outer) (hf : X.env.frame = some X.env.locals) (nd : X.N.Nodup) (hi : X.N[i]? = some n) (lo : X.env.kindOf n = some .local) (nm : Names X x cv)
    (su : ∀ (a : Addr) (ob : Obj) (cls : Value) (d : Option Addr) (pn : List (Addr × Obj)), Zc cls d ob → (∃ vs, ob.data = .fields vs) → PSs (X.suite a ((a, ob) :: pn)) (b₀ :: suite) (s a cls d))
    (r : Meets X hds w) : Meets X (.ExceptHandler (some (.Name x np)) (some n) (b₀ :: suite) p1 :: hds) (wCl X.K cv i s w) := fun pn σ H a cls d t D c hw => by
  obtain ⟨b, hb, hw⟩ := hw
  obtain ⟨ob, vs, o1, o2, o3, o4, o5⟩ := c.obj hs hf
  have J := c.inv
  have J1 := J.suite o1 o3 c.free o4 o5
  have lk : PySem.W.Looks (model X.prog X.w) t.heap (typeOf (.ref a)) cls := fun _ _ _ t' k q => wpAny_typeOf_ref (k _ _ o1) (by rw [o2.1]; exact q)
  have fits := PySem.W.exm_one (M := model X.prog X.w) J.kIn lk hb
  have named : ∀ {Q E : Value → Shared → Prop}, Q cv t → wpAny (model X.prog X.w) (X.A.mark (some (.ref a))) (eval (.Name x np) X.env) Q E t := fun {Q E} q =>
    match nm with
    | ⟨gl, db, .inl m⟩ => ld_glob (X := X.suite a ((a, ob) :: (X.pn ++ pn))) J1 gl m q db
    | ⟨gl, db, .inr ⟨m, bv, nn⟩⟩ => ld_blt (X := X.suite a ((a, ob) :: (X.pn ++ pn))) J1 gl m bv q nn db
  have nb : Value.ref a ≠ byPass := by intro z; cases z
  refine wpAny_handleBy_cons (codeAny_handlers_test ?_) nb
  apply named
  apply fits.here
  match b, hw with
  | false, hw => exact r pn σ H a cls d t D c hw
  | true, hw =>
    obtain ⟨G, bare, j, g, f, u, os⟩ := id c.fly
    apply codeAny_handlers_suite_as
    apply HandSPX.lands_againZ f
    intro h4 f4 u4
    have c4 : Came X pn σ H a cls d { t with heap := h4 } := .at_ j g f4 (u.trans u4) os c.free c.gens
    obtain ⟨ob4, vs4, q1, q2, q3, q4, q5⟩ := c4.obj hs hf
    have lc : Loc X.env.scope n := .inl lo
    apply store_ok (X := X.suite a ((a, ob4) :: (X.pn ++ pn))) (v := .ref a) (c4.inv.suite q1 q3 c.free q4 q5) nd hi lc rfl _ (.inr lo)
    intro t5 J5
    have away : ∀ {σ6 : L2.St} {H6 : Hp} {t6 : Shared} {R : Shared → Prop}, Inv (X.suite a ((a, ob4) :: (X.pn ++ pn))) [] σ6 H6 t6 → (∀ t7, Inv X pn (σ6.set i none) H6 t7 → R t7) →
        wpAny (model X.prog X.w) X.A (do bindName X.env n .none; unbindBehindTheSuite X.env n p1) (fun _ t7 => R t7) X.xe t6 := fun J6 hR => gone_ok (J6.unsuite J.ok) nd hi lo hR
    refine wpAny_mono ((su a ob4 cls d (X.pn ++ pn) q2 ⟨_, q3⟩).run [] t5 _ H (goneE i D) J5 (hw a c.free)) (fun fl t6 z => ?_) fun _ _ z => z.elim
    cases fl with
    | ret u6 =>
      obtain ⟨v6, σ6, H6, J6, r6, y6⟩ := z
      exact away J6 fun t7 J7 => ⟨v6, _, H6, J7, r6, y6⟩
    | next => obtain ⟨σ6, H6, J6, y6⟩ := z; exact away J6 fun t7 J7 => ⟨_, H6, J7, y6⟩
    | brk => obtain ⟨σ6, H6, J6, y6⟩ := z; exact away J6 fun t7 J7 => ⟨_, H6, J7, y6⟩
    | cont => obtain ⟨σ6, H6, J6, y6⟩ := z; exact away J6 fun t7 J7 => ⟨_, H6, J7, y6⟩
variable {body : List Stmt} {h₀ : ExceptHandler} {pos : Pos} {tb : WX → TS}
/-- try: the body's errors meet the clauses -/
theorem ps_meets (hs : X.stack = X.env :: X.outer) (hf : X.env.frame = some X.env.locals)
    (bd : ∀ (V : WX) (pn : List (Addr × Obj)) (xe : Value → Shared → Prop), Takes (X.tr pn xe) V → PassesOwn (model X.prog X.w) X.A X.env xe → PSs (X.tr pn xe) body (tb V))
    (m : Meets X (h₀ :: hds) w) : PS X (.Try body (h₀ :: hds) [] [] pos) (fun D σ H => tb (w D) D σ H) := ⟨fun pn t σ H D I hb => by
  have ok := I.ok
  apply wpAny_Try_except
  refine wpAny_mono ((bd (w D) (X.pn ++ pn) _ (fun e t1 air => ?_) PassesOwn.looking).run [] t σ H D (I.toTry _) hb) (fun fl t1 z => ?_) fun _ _ z => z
  · obtain ⟨a, G, bare, pn1, σ1, H1, cls, d, rfl, j, g, u, sky, free, os, gens, hw⟩ := air
    have j1 : Inv X pn σ1 H1 bare := j.ofTry ok
    have sk : Sky G (X.env :: X.outer) a (Zc cls d) X.env.locals t1.heap := hs ▸ sky
    have fr : X.A.frames = some (X.env :: X.outer) := ok.frames.trans (congrArg some hs)
    refine Sky.land Zc.steady fr hf sk fun h3 f3 u3 => ?_
    exact m pn σ1 H1 a cls d _ D (Came.at_ (t := t1) j1 g (by rw [hs]; exact f3) (u.trans u3) os free gens) hw
  · cases fl with
    | ret v => obtain ⟨v1, σ1, H1, J1, r1, y1⟩ := z; exact ⟨v1, σ1, H1, J1.ofTry ok, r1, y1⟩
    | next => obtain ⟨σ1, H1, J1, y1⟩ := z; exact wpAny_execs_nil ⟨σ1, H1, J1.ofTry ok, y1⟩
    | brk => obtain ⟨σ1, H1, J1, y1⟩ := z; exact ⟨σ1, H1, J1.ofTry ok, y1⟩
    | cont => obtain ⟨σ1, H1, J1, y1⟩ := z; exact ⟨σ1, H1, J1.ofTry ok, y1⟩⟩
end
/-! ### over data -/
abbrev Cla := (Nat → Option Bool) × Nat × (Ex → En → So)
def hdsGo : List Cla → Ex → En → So
  | [], x, ρ => .exc x ρ
  | (q, i, s) :: r, x, ρ => match q x.c with
    | some true => (match ρ[i]? with
      | some (some (.own _ _)) => .bad
      | none => .bad
      | some _ => afterE i (s x (ρ.set i none)))
    | some false => hdsGo r x ρ
    | none => .bad
section
variable {X : Cx} {T : Tx} {π : Nat → Option Pin} {W : WX}
/-- clauses of syntax and clauses over data -/
inductive ClsOk (X : Cx) (T : Tx) (π : Nat → Option Pin) (W : WX) : List ExceptHandler → List Cla → (Ends → WX) → Prop
  | nil : ClsOk X T π W [] [] (fun _ => W)
  | cons {x n : Str} {cv : Value} {q : Nat → Option Bool} {i : Nat} {b₀ : Stmt} {suite : List Stmt} {np p1 : Pos} {sx : Ex → En → So} {hds : List ExceptHandler} {l : List Cla} {w : Ends → WX} (hN : X.N.Nodup) (hi : X.N[i]? = some n) (hln : X.env.kindOf n = some .local) (hc : Names X x cv)
      (hq : ∀ c b, q c = some b → ∃ C ns, T.cl c = some (C, ns) ∧ PySem.W.exmOne T.K (.ref C) cv = some b)
      (hsu : ∀ (a : Addr) (oe : Obj) (cls : Value) (d : Option Addr) (pn : List (Addr × Obj)), Zc cls d oe → (∃ vs, oe.data = .fields vs) → PSs (X.suite a ((a, oe) :: pn)) (b₀ :: suite) (TMx T π i a cls d sx))
      (r : ClsOk X T π W hds l w) : ClsOk X T π W (.ExceptHandler (some (.Name x np)) (some n) (b₀ :: suite) p1 :: hds) ((q, i, sx) :: l) (wCl X.K cv i (fun a cls d => TMx T π i a cls d sx) w)
theorem ClsOk.meets (hs : X.stack = X.env :: X.outer) (hf : X.env.frame = some X.env.locals) (tk : Takes X W) {hds : List ExceptHandler} {l : List Cla} {w : Ends → WX} (h : ClsOk X T π W hds l w) : Meets X hds w := by
  induction h with
  | nil => exact meets_none hs hf tk
  | cons hN hi hln hc _ hsu _ ih => exact meets_cons hs hf hN hi hln hc hsu ih
theorem ClsOk.wish (hK : X.K = T.K) {hds : List ExceptHandler} {l : List Cla} {w : Ends → WX} (h : ClsOk X T π W hds l w) {A : Addr → Prop} {F0 H0 F H : Hp} {σ : L2.St} {ρ : En} {x : Ex} {cls : Value} {d : Option Addr} {D : Ends}
    (k : StOk T π A F0 H0 F H σ ρ) (r : RepX T F H cls d x) (p : PostS T π W A F0 H0 D (hdsGo l x ρ)) : w D cls d σ H := by
  induction h with
  | nil => exact p σ F H cls d k r
  | @cons xx n cv q i b₀ suite np p1 sx hds l w hN hi hln hc hq hsu _ ih =>
    unfold hdsGo at p
    cases e : q x.c with
    | none => rw [e] at p; exact p.elim
    | some b =>
      rw [e] at p
      obtain ⟨C, ns, h1, h2⟩ := hq _ _ e
      have hcls : cls = .ref C := by
        obtain ⟨C', _, _, _, z1, z2, _⟩ := r
        rw [h1] at z1; cases z1; exact z2
      refine ⟨b, by rw [hcls, hK]; exact h2, ?_⟩
      cases b with
      | false => exact ih p
      | true =>
        intro a na
        have p2 : i < ρ.length ∧ PostS T π W A F0 H0 D (afterE i (sx x (ρ.set i none))) := by
          dsimp only at p
          split at p
          · exact p.elim
          · exact p.elim
          · rename_i _ hs
            exact ⟨(List.getElem?_eq_some_iff.mp hs).1, p⟩
        exact ⟨A, F0, H0, F, ρ.set i none, x, ⟨k.ok.forget _, k.fr⟩, List.getElem?_set_self (by rw [k.ok.len]; exact p2.1), r, after_out p2.2⟩
end
end Dl
namespace Dl
open PySem PySem.Spec PyProof.Rows L2
/-! ### errors that have no field -/
section
variable {X : Cx} {pn : List (Addr × Obj)} {σ : L2.St} {H1 H2 : Hp} {Q : XK} {s1 s2 : Shared} {a C : Addr} {mid : Heap}
/-- a new error without a dict: it is let go -/
theorem bare_end (rs : Raises X (.ref C)) (I : Inv X pn σ H1 s1) (la : s1.heap.objs.size ≤ a) (kp : ∀ x o, s1.heap.get? x = some o → mid.get? x = some o)
    (un : Un (frs X.stack) [] (upd H1 a (exo a C none)) H2 mid s2.heap) (ok : HOk X.prog X.w H2 s2.heap) (os : s2.os = s1.os) (gs : AllBare s2.gens) (at_a : H2 a = some (exo a C none)) (q : Q (.ref C) none (del H2 a)) : MkP X pn σ Q (.ref a) s2 := by
  obtain ⟨tr, ha2⟩ := exo_at ok at_a
  have fresh : H1 a = none := I.hok.fresh la
  obtain ⟨G, in_, out_⟩ := restrict s2.heap fun x => decide (x ≠ a)
  have same : ∀ {x}, x ≠ a → G.get? x = s2.heap.get? x := fun {x} z => in_ x (by simpa using z)
  have Ga : G.get? a = none := out_ a (by simp)
  have old : ∀ {x o}, s1.heap.get? x = some o → x ≠ a := fun {x o} z e => absurd (Heap.lt_size z) (by rw [e]; exact Nat.not_lt_of_le la)
  have none_ : ∀ {x}, x ≠ a → H1 x = none → upd H1 a (exo a C none) x = none := fun {x} z n => (upd_ne z).trans n
  have some_ : ∀ {x u}, H1 x = some u → x ≠ a := fun {x u} z e => by rw [e, fresh] at z; cases z
  have lift : ∀ {x u}, H1 x = some u → upd H1 a (exo a C none) x = some u := fun {x u} z => (upd_ne (some_ z)).trans z
  have U : Un (frs X.stack) [] H1 (del H2 a) s1.heap G := by
    constructor
    · intro x o z n m e
      exact (same (old z)).trans (un.keep x o (kp x o z) (none_ (old z) n) m e)
    · intro x o z n m e
      obtain ⟨sl, w⟩ := un.slot x o (kp x o z) (none_ (old z) n) m e
      exact ⟨sl, (same (old z)).trans w⟩
    · intro x o z n e
      exact (del_ne (old z)).trans (un.free x o (kp x o z) (none_ (old z) n) e)
    · intro x o z e
      obtain ⟨o2, w⟩ := un.there x o (kp x o z) e
      exact ⟨o2, (same (old z)).trans w⟩
    · intro x xs z
      exact (del_ne (some_ z)).trans (un.tups x xs (lift z))
    · intro x o u z
      exact (del_ne (some_ z)).trans (un.frzs x o u (lift z))
    · intro x ps z
      obtain ⟨more, w⟩ := un.tbls x ps (lift z)
      exact ⟨more, (del_ne (some_ z)).trans w⟩
  have ok2 : HOk X.prog X.w (del H2 a) G := by
    intro x u z
    by_cases e : x = a
    · rw [e, del_same] at z; cases z
    · rw [del_ne e] at z
      have notown : ∀ {y c}, H2 y = some (.own c) → y ≠ a := fun {y c} w e2 => by
        rw [e2, at_a] at w; exact exo_own (Option.some.inj w)
      refine (ok x u z).stay (fun y v hy w => ?_) (fun y hy => ?_) fun y xs hy => ?_
      · refine (same ?_).trans w
        rcases hy with rfl | hy
        · exact e
        · exact notown hy
      · exact (del_ne (notown hy)).trans hy
      · refine (del_ne fun e2 => ?_).trans hy
        rw [e2, at_a] at hy; exact exo_tup (Option.some.inj hy)
  have J : Inv X pn σ (del H2 a) { s2 with heap := G } := I.call' (ch := []) os U ok2 gs fun x z => by cases z
  refine ⟨a, _, _, { s2 with heap := G }, _, .ref C, none, rfl, J, fun x o z => ?_, Ga, ha2, ⟨rfl, rfl⟩, rfl, rfl, del_same, rfl, gs, rs, q⟩
  by_cases e : x = a
  · have z2 : G.get? a = some o := e ▸ z
    rw [Ga] at z2; cases z2
  · exact (same e).symm.trans z
/-- C(), C's __init__ takes no argument -/
theorem pmk_bare {x : Str} {fI : Addr} {fd : FuncData} {k : Nat} {ps : List Str} {sp : Sp} {p pos : Pos} (O : OexC X.K C) (ini : PySem.W.findIn X.K (.ref C) "__init__" = some (some (.ref fI))) (tI : PySem.W.typeIn X.K (.ref fI) = some (.type "function"))
    (F1 : FnOk X.prog X.w X.K X.mg X.base (L2.CX X.prog X.w) k fI fd ps sp) (hr : Room (k + 1) X.A) (hb : Binds X.K fd ps []) (hx : Passes (L2.CX X.prog X.w) X (fun _ _ _ => False)) (hg : Gl X x) (hm : X.mg x = some (.ref C)) (db : (x == ("__debug__" : Str)) = false := by decide) :
    PMk X (.Call (.Name x p) [] [] pos) (fun _ H Q => ∀ a, H a = none → sp [.ref a] (upd H a (exo a C none)) (fun v H2 => v = .non ∧ H2 a = some (exo a C none) ∧ Q (.ref C) none (del H2 a)) (fun _ _ _ => False)) := by
  intro pins s σ H Q I h
  obtain ⟨nm, q, N, bs, bm, sn, sub, ab, col, dd, k0, k1, k2, k3, k5, hC, hbm⟩ := O.cls
  refine wpAny_Call_Name_kw (ld_glob I hg hm ?_ db)
  refine PySem.W.callWith_K0 I.kIn O.kC ?_
  show wpAny _ _ (call (.ref C) []) _ _ _
  obtain ⟨hp, g, dr, tk, os⟩ := s
  let n := hp.objs.size
  have le1 : n ≤ n + 1 := Nat.le_succ _
  have hq := h (n + 1) (I.hok.fresh le1)
  let hp2 : Heap := (hp.push (PySem.W.kdv_tup [])).push (PySem.HandSPX.excO C n)
  have kp : ∀ y o, hp.get? y = some o → hp2.get? y = some o := fun y o e => Heap.get?_push_of_some _ (Heap.get?_push_of_some _ e)
  have new : ((hp.push (PySem.W.kdv_tup [])).push (PySem.HandSPX.excO C hp.objs.size)).get? (hp.objs.size + 1) = some (PySem.HandSPX.excO C hp.objs.size) := by heap_get
  have I2 : Inv X pins σ (upd H (n + 1) (exo (n + 1) C none)) ⟨hp2, g, dr, tk, os⟩ := I.laid (t' := tk) (h' := hp2) kp le1 (exo_ok new)
  have rv : Vals [V.ref (n + 1)] [Value.ref (n + 1)] := .cons rfl .nil
  have len : ([Value.ref (n + 1)] ++ []).length = ps.length := by
    have := F1.len _ _ _ _ hq
    rw [← this]; rfl
  refine wpAny_call (PySem.HandSPX.call_own F.excBase_ValueError (fun Y => PySem.HandSPX.refsVE_contains Y bm hbm) (I.kIn _ _ hC) (PySem.W.looks_findIn I.kIn ini) (fun self => PySem.W.bind_fn I.kIn self tI) (Nat.zero_le _) (codeAny_mono (F1.run _ X.stack _ _ ⟨[Value.ref (n + 1)], []⟩ [Value.ref (n + 1)] _ _ (fun _ _ _ => False) (hr.make C [] []) (I2.env0.make C [] []) (hb _ [Value.ref (n + 1)] I2.kIn len) rv hq) fun r s' z => ?_))
  cases r with
  | error er => exact hx pins σ _ _ er s' I2 z
  | ok fl =>
    cases fl with
    | next => exact z.elim
    | brk => exact z.elim
    | cont => exact z.elim
    | ret u =>
      obtain ⟨v, H2, o2, bare, un, ok, rr, ev, ea, qq⟩ := z
      subst ev
      exact ⟨rr, bare_end (raises_own O.exC O.tyC) I le1 kp un ok o2 bare ea qq⟩
end
section
variable {P : Program} {w : World} {K : PySem.W.Frag} {mg : Str → Option Value} {base : Heap}
theorem err_init0 {x qual : Str} {st : Stmt} {fI C : Addr} {fd : FuncData} (txt : Str) (F : Fun K x qual st fI fd) (S : FnScope [("self" : Str)] [("self" : Str)] (defScope st)) (O : OexC K C)
    (hb : ∀ (cdv : Value) (A : Around) (outer : List Env) (s : Shared) (H : Hp) (E : XK), PSs (cxOf (L2.CX P w) P w K mg base [("self" : Str)] qual (defScope st) fI cdv A outer s H E) (defBody st) (tDrop (tVeI K (tCons (tVar 0) (tCons (tC (.str txt)) tNil))))) :
    FnOk P w K mg base (L2.CX P w) 1 fI fd [("self" : Str)] (spI0 C) := by
  refine F.okX S (fun vs H Q E h => ?_) (fun cdv A outer s H vs Q E hr h => ?_)
  · obtain ⟨a, rfl, _⟩ := h; rfl
  · obtain ⟨a, rfl, ha, q⟩ := h
    exact ⟨_, hb cdv A outer s H E, .ref a, rfl, a, C, [.str txt], rfl, (by show 1 ≤ 1000; decide), O, ha, q⟩
end
section
variable {X : Cx} {T : Tx} {π : Nat → Option Pin} {W : WX} {x : Str} {C fI : Addr} {fd : FuncData} {p pos pos' : Pos} {c : Nat}
def sRaise0 (c : Nat) : En → So := fun ρ => .exc ⟨c, []⟩ ρ
theorem del_upd {H : Hp} {a : Addr} {o : HO} (h : H a = none) : del (upd H a o) a = H := by
  funext b
  by_cases e : b = a
  · rw [e, del_same, h]
  · rw [del_ne e, upd_ne e]
theorem ds_raise0 (hK : X.K = T.K) (hcalm : X.calm = true) (tk : Takes X W) (S : Err X.K X.mg x C fI) (hc : T.cl c = some (C, [])) (F1 : FnOk X.prog X.w X.K X.mg X.base (L2.CX X.prog X.w) 1 fI fd [("self" : Str)] (spI0 C)) (hr : Room 2 X.A) (hb : Binds X.K fd [("self" : Str)] [])
    (hx : Passes (L2.CX X.prog X.w) X (fun _ _ _ => False)) (hg : Gl X x) (hdb : (x == ("__debug__" : Str)) = false := by decide) :
    PS X (.Raise (some (.Call (.Name x p) [] [] pos)) none pos') (TMs T π W (sRaise0 c)) :=
  (ps_raise hcalm tk (pmk_bare S.oex S.ini S.tI F1 hr hb hx hg S.g hdb)).imp fun D σ H ⟨A, F0, H0, F, ρ, k, q⟩ => fun a ha => by
    refine ⟨a, rfl, upd_same, rfl, upd_same, ?_⟩
    rw [del_upd ha]
    exact q σ F H _ _ k ⟨C, a, [], [], hc, rfl, rfl, .nil, .inl ⟨rfl, rfl⟩⟩
end
end Dl
namespace Dl
open PySem PySem.Spec PyProof.Rows L2
/-! ### isinstance of values among which own objects may be -/
/-- an own class that is of no built-in sort -/
structure IcB (K : PySem.W.Frag) (C : Addr) : Prop where
  ic : C8.InsC K C
  no : ∀ n : Ty5, PySem.W.subIn K (.ref C) (.type n.nm) = some false
theorem IcB.kit {K : PySem.W.Frag} {C : Addr} (h : IcB K C) (n : Ty5) : PySem.W.kitOne K (.ref C) (.type n.nm) = some false := by
  unfold PySem.W.kitOne
  have z : (Value.ref C == Value.type n.nm) = false := Bool.eq_false_iff.mpr fun q => nomatch beq_iff_eq.mp q
  rw [z, if_neg Bool.false_ne_true]
  show (if PySem.W.kitMeta n.nm = true then PySem.W.subIn K (.ref C) (.type n.nm) else none) = some false
  rw [if_pos (by cases n <;> decide +kernel)]
  exact h.no n
section
variable {X : Cx} {T : Tx} {π : Nat → Option Pin} {W : WX} {e : Expr} {m : Mi Dt} {F H : Hp}
theorem InsC_ty {a C dx : Addr} {fs : List (Str × V)} (h : C8.InsC T.K C) (e : H a = some (.ins C dx fs)) : TyX T.K H (.ref a) (.ref C) := .base (.ins e h.cl h.ha h.hn h.htk h.hm)
/-! ### isinstance against an own class, of any value -/
def tys8 : List String := ["NoneType", "bool", "int", "str", "list", "tuple", "dict"]
/-- what isinstance(.., C) asks of the other classes -/
structure IsA (T : Tx) (c : Nat) (C : Addr) : Prop where
  hd : PySem.W.hasDictIn T.K C = true
  ty : PySem.W.typeIn T.K (.ref C) = some (.type "type")
  bt : ∀ t ∈ tys8, PySem.W.subIn T.K (.type t) (.ref C) = some false
  ot : ∀ c' C' ns, (c' = 0 ∨ c' = 1) → T.cl c' = some (C', ns) → C8.InsC T.K C' ∧ (C' ≠ C → PySem.W.subIn T.K (.ref C') (.ref C) = some false) ∧ (C' = C ↔ c' = c)
theorem IsA.cls {c : Nat} {C : Addr} (h : IsA T c C) {t : Value} {b : Bool} (ne : t ≠ .ref C) (s : PySem.W.subIn T.K t (.ref C) = some b) : PySem.W.kitOne T.K t (.ref C) = some b := by
  obtain ⟨cd, hc, _⟩ := PySem.W.any_some h.hd
  unfold PySem.W.kitOne
  have z : (t == Value.ref C) = false := Bool.eq_false_iff.mpr fun q => ne (beq_iff_eq.mp q)
  rw [z, if_neg Bool.false_ne_true]
  show (if ((PySem.W.clsIn T.K C).isSome && PySem.W.typeIn T.K (.ref C) == some (.type "type")) = true then PySem.W.subIn T.K t (.ref C) else none) = some b
  rw [if_pos (by rw [hc, h.ty]; rfl)]
  exact s
end
end Dl
namespace Dl
open PySem PySem.Spec PyProof.Rows L2
/-! ### C(..) and o.m(..) in the body of a try -/
section
variable {X : Cx} {k : Nat} {f C : Addr} {fd : FuncData} {ps : List Str} {sp : Sp} {E : L2.St → XK} {x : Str} {p pos : Pos} {e o : Expr} {es : List Expr} {t ta : TA}
/-- a new object, what its __init__ raises is wished for at the slots -/
theorem made_at {pn : List (Addr × Obj)} {σ : L2.St} {H : Hp} {s : Shared} {Q : VK} {us : List Value} {vs : List V} (M : Mk X.K C f) (F : FnOk X.prog X.w X.K X.mg X.base (L2.CX X.prog X.w) k f fd ps sp) (room : Room (k + 1) X.A) (bi : Binds X.K fd ps []) (pa : PassesAt (L2.CX X.prog X.w) X σ (E σ))
    (I : Inv X pn σ H s) (rel : Vals vs us) (h : ∀ y dy, H y = none → H dy = none → dy ≠ y → sp (.ref y :: vs) (upd (upd H dy (.own y)) y (.ins C dy [])) (fun v H2 => v = .non ∧ Q (.ref y) H2) (E σ)) :
    wpAny (model X.prog X.w) X.A (call (.ref C) us) (EP X pn σ Q) X.xe s := by
  let n := s.heap.objs.size
  have new := Inv.made (C := C) I
  have in_ := h (n + 1) n (I.hok.fresh (Nat.le_succ _)) (I.hok.fresh (Nat.le_refl _)) (Nat.ne_of_lt (Nat.lt_succ_self _))
  have rel2 : Vals (V.ref (n + 1) :: vs) (Value.ref (n + 1) :: us) := .cons rfl rel
  have len : (Value.ref (n + 1) :: us ++ []).length = ps.length := by
    rw [List.append_nil, ← rel2.length]
    exact F.len _ _ _ _ in_
  have bd := bi _ (Value.ref (n + 1) :: us) new.kIn len
  rw [List.append_nil] at bd
  apply wpAny_call
  apply make_map (f := f) I.kIn M.makes M.init (beq_iff_eq.mp M.fn)
  refine codeAny_mono (F.run _ X.stack _ _ ⟨Value.ref (n + 1) :: us, []⟩ (Value.ref (n + 1) :: us) _ _ (E σ) (room.make C us []) (new.env0.make C us []) bd rel2 in_) fun r s2 z => ?_
  match r, z with
  | .error er, z => exact pa pn _ _ er s2 new z
  | .ok (.ret u), z =>
    obtain ⟨v, H2, I2, rv, ev, q⟩ := new.after z
    subst ev
    exact ⟨rv, V.ref (n + 1), H2, I2, rfl, q⟩
  | .ok .next, z => exact z.elim
  | .ok .brk, z => exact z.elim
  | .ok .cont, z => exact z.elim
theorem pe_methAt {mn : Str} {apos : Pos} {tt : TE} {pl : Sem Bool} (ho : PE X o tt) (cl : Cls X.K C) (hm : Meth X.K C mn f) (F : FnOk X.prog X.w X.K X.mg X.base (L2.CX X.prog X.w) k f fd ps sp) (room : Room k X.A) (bi : Binds X.K fd ps []) (pa : ∀ σ, PassesAt (L2.CX X.prog X.w) X σ (E σ)) (ha : PA X (e :: es) t)
    (hst : starEach (e :: es) X.env = (false, eval e X.env) :: starEach es X.env := by rfl) (hpl : (backTo pos (starEach es X.env)).any (·.1) = false := by rfl)
    (ht : eval (.Call (.Attribute o mn apos) (e :: es) [] pos) X.env = (do
      let ov ← eval o X.env
      standAt apos.atName
      let (f, first) ← holding [ov] (getMethod ov mn pl)
      callWith pos f first (backTo pos (starEach (e :: es) X.env)) (backToKw pos (keywordEach [] X.env))) := by rfl) :
    PE X (.Call (.Attribute o mn apos) (e :: es) [] pos) (fun σ H Q => tt σ H fun y H1 => ∃ a dx fs, y = V.ref a ∧ H1 a = some (.ins C dx fs) ∧ fs.lookup mn = none ∧ t σ H1 fun vs H2 => sp (V.ref a :: vs ++ []) H2 Q (E σ)) :=
  ⟨fun pn s σ H Q I h => PySem.W.methodCall_KW (pl := pl) (thn (ho.run pn s σ H _ I h) fun u s1 ⟨y, H1, I1, ry, a, dx, fs, ey, ea, lk, q⟩ => by
    subst ey
    obtain rfl : u = Value.ref a := ry
    exact getmeth_ok I1 ea cl hm lk (PySem.W.callWith_K (first := [.ref a]) (h₀ := X.base) I.ok.mod.kin hm.kp (thn (ha.run pos pn s1 σ H1 _ I1 q) fun us s2 ⟨vs, H2, I2, r, q2⟩ => ⟨I2.kIn, run_fnSD (us := .ref a :: us) (vs := .ref a :: vs) F room bi .nil (pa σ) I2 (.cons rfl r) q2⟩) hst hpl)) ht⟩
end
end Dl
namespace L2
open PySem PySem.Spec PyProof.Rows
section
variable {X : Cx} {CX : CXT} {k : Nat} {f : Addr} {fd : FuncData} {ps : List Str} {sp : Sp} {x : Str} {p pos : Pos} {e : Expr} {es : List Expr} {t : TA} {ES : St → XK}
/-- a def that is to be entered where no repr is under way, called from such a place -/
theorem run_fnG {pins : List (Addr × Obj)} {σ : St} {H : Hp} {s : Shared} {Q : VK} {us : List Value} {vs : List V} (F : Dl.FnG X.prog X.w X.K X.mg X.base CX k f fd ps sp) (hr : Room k X.A) (hq : X.A.guards = some []) (hb : Binds X.K fd ps []) (hx : PassesAt CX X σ (ES σ))
    (I : Inv X pins σ H s) (r : Vals vs us) (h : sp vs H Q (ES σ)) : wpAny (model X.prog X.w) X.A (call (.ref f) us) (EP X pins σ Q) X.xe s := by
  have hl : us.length = ps.length := by rw [← r.length]; exact F.ln _ _ _ _ h
  have b := hb s us I.kIn (by rw [List.append_nil]; exact hl)
  rw [List.append_nil] at b
  refine wpAny_call (codeAny_mono (F.go X.A X.stack s H ⟨us, []⟩ us vs Q (ES σ) hr hq I.env0 b r h) fun r s' hq => ?_)
  cases r with
  | error e => exact hx pins H s e s' I hq
  | ok fl =>
    cases fl with
    | ret u => exact I.after hq
    | next => exact False.elim hq
    | brk => exact False.elim hq
    | cont => exact False.elim hq
theorem pe_callSG (F : Dl.FnG X.prog X.w X.K X.mg X.base CX k f fd ps sp) (hr : Room k X.A) (hq : X.A.guards = some []) (hg : Gl X x) (hm : X.mg x = some (.ref f)) (hk : PySem.W.keepIn X.K (.ref f) = true) (hb : Binds X.K fd ps []) (hx : ∀ σ, PassesAt CX X σ (ES σ))
    (ha : PA X (e :: es) t) (hdb : (x == ("__debug__" : Str)) = false := by decide) (he : starEach (e :: es) X.env = (false, eval e X.env) :: starEach es X.env := by rfl) (hpl : (backTo pos (starEach es X.env)).any (·.1) = false := by rfl) :
    PE X (.Call (.Name x p) (e :: es) [] pos) (fun σ H Q => t σ H fun vs H1 => sp vs H1 Q (ES σ)) := by
  refine ⟨fun pins s σ H Q I h => ?_⟩
  refine wpAny_Call_Name_kw (ld_glob I hg hm ?_ hdb)
  refine PySem.W.callWith_K (h₀ := X.base) I.ok.mod.kin hk (thn (ha.run pos pins s σ H _ I h) fun us s1 ⟨vs, H1, I1, r, q⟩ => ⟨I1.kIn, ?_⟩) he hpl
  exact run_fnG F hr hq hb (hx σ) I1 r q
end
end L2
namespace L2
open PySem PySem.Spec PyProof.Rows
/-! ### list.count, flat items -/
theorem count_eqU {y : V} : ∀ {ys : List V} {us : List Value}, Vals ys us → ys.all flatV = true → us.countP (eqU y) = ys.countP fun z => eqV z y
  | _, _, .nil, _ => rfl
  | z :: ys, u :: us, .cons r t, f => by
    rw [List.all_cons, Bool.and_eq_true] at f
    rw [List.countP_cons, List.countP_cons, count_eqU t f.2, eqU_of r f.1]
def rCntF (K : PySem.W.Frag) : V → List V → Hp → VK → Prop := fun x xs H Q => ∃ a ys y, x = .ref a ∧ xs = [y] ∧ SqL K H a ys ∧ flatV y = true ∧ ys.all flatV = true ∧ Q (.int ((ys.countP fun z => eqV z y : Nat) : Int)) H
theorem mt_lcountF {X : Cx} : MtR X "list.count" (rCntF X.K) := by
  intro pins s σ H x xs v us Q I rx rxs h
  obtain ⟨a, ys, y, rfl, rfl, hs, fy, fys, q⟩ := h
  cases rx
  obtain ⟨u, rfl, ru⟩ := rxs.one
  obtain ⟨its, rv, ⟨⟨cls, dd, data, sl⟩, n, ho, hc, hdn, hd⟩, hlen⟩ := I.list hs
  simp only at hc hd
  subst hc hd
  refine call_meets PySem.F.slot_list_count ⟨_, ho, rfl⟩ PySem.F.entry_list_count (PySem.F.args_list_count_2 _ _)
    (SeqAt.list_countAt a its.toArray n dd sl u (eqU y)) ⟨ho, fun u' hu' => mem_eqAt ru fy rv fys u' (by simpa using hu'), ?_⟩
  have ec : its.toArray.toList.countP (eqU y) = ys.countP fun z => eqV z y := count_eqU rv fys
  refine ⟨.int ((ys.countP fun z => eqV z y : Nat) : Int), H, I.tok _, ⟨s.toks, ?_⟩, q⟩
  show Value.int ((its.toArray.toList.countP (eqU y) : Nat) : Int) s.toks = Value.int _ s.toks
  rw [ec]
end L2
namespace ClX
open PySem PySem.Spec PyProof.Rows L2
/-! ### C.m(..), m a classmethod, by the promise of its def -/
section
variable {X : Cx} {k : Nat} {C p g : Addr} {mc : Value} {fd : FuncData} {ps : List Str} {sp : Sp} {E : L2.St → XK} {o e : Expr} {es : List Expr} {m : Str} {pos apos : Pos} {ta : TE} {t : TA} {pl : Sem Bool}
theorem run_cmAt {q : Addr} {pins : List (Addr × Obj)} {σ : L2.St} {H : Hp} {s : Shared} {Q : VK} {us : List Value} {vs : List V} (F : FnOk X.prog X.w X.K X.mg X.base (L2.CX X.prog X.w) k g fd ps sp) (hr : Room k X.A) (hb : Binds X.K fd ps []) (pa : PassesAt (L2.CX X.prog X.w) X σ (E σ))
    (I : Inv X ((q, PySem.W.methodObj (.ref g) (.ref C)) :: pins) σ H s) (r : Vals vs us) (h : sp (.ref C :: vs) H Q (E σ)) : wpAny (model X.prog X.w) X.A (call (.ref q) us) (EP X pins σ Q) X.xe s := by
  have r2 : Vals (V.ref C :: vs) (Value.ref C :: us) := .cons rfl r
  have hl : (Value.ref C :: us ++ []).length = ps.length := by
    rw [List.append_nil, ← r2.length]
    exact F.len _ _ _ _ h
  have b := hb s (Value.ref C :: us) I.kIn hl
  rw [List.append_nil] at b
  have z : wpAny (model X.prog X.w) X.A (call (.ref q) us) (EP X ((q, PySem.W.methodObj (.ref g) (.ref C)) :: pins) σ Q) X.xe s := by
    refine wpAny_call (PySem.W.method_call (pin_at I) (codeAny_mono (F.run X.A X.stack s H ⟨Value.ref C :: us, []⟩ (Value.ref C :: us) (V.ref C :: vs) Q (E σ) hr I.env0 b r2 h) fun r s' hq => ?_))
    cases r with
    | error e => exact pa _ H s e s' I hq
    | ok fl =>
      cases fl with
      | ret u => exact I.after hq
      | next => exact False.elim hq
      | brk => exact False.elim hq
      | cont => exact False.elim hq
  exact thn z fun _ _ y => unpinE y
theorem pe_cmethAt (he : PE X o ta) (r : CRead X.K C mc) (c : CMet X.K C mc m p g) (F : FnOk X.prog X.w X.K X.mg X.base (L2.CX X.prog X.w) k g fd ps sp) (hr : Room k X.A) (hb : Binds X.K fd ps []) (pa : ∀ σ, PassesAt (L2.CX X.prog X.w) X σ (E σ)) (ha : PA X (e :: es) t)
    (hst : starEach (e :: es) X.env = (false, eval e X.env) :: starEach es X.env := by rfl) (hpl : (backTo pos (starEach es X.env)).any (·.1) = false := by rfl)
    (ht : eval (.Call (.Attribute o m apos) (e :: es) [] pos) X.env = (do
      let ov ← eval o X.env
      standAt apos.atName
      let (f, first) ← holding [ov] (getMethod ov m pl)
      callWith pos f first (backTo pos (starEach (e :: es) X.env)) (backToKw pos (keywordEach [] X.env))) := by rfl) :
    PE X (.Call (.Attribute o m apos) (e :: es) [] pos) (fun σ H Q => ta σ H fun x H1 => x = .ref C ∧ t σ H1 fun vs H2 => sp (.ref C :: vs) H2 Q (E σ)) := by
  refine ⟨fun pins s σ H Q I h => ?_⟩
  refine PySem.W.methodCall_KW (pl := pl) (thn (he.run pins s σ H _ I h) fun u s1 ⟨x, H1, I1, rx, ex, q⟩ => ?_) ht
  subst ex
  obtain rfl : u = Value.ref C := rx
  refine getmethcm_ok I1 r c fun s2 I2 => ?_
  refine callwith_cm I2 (base_none I1 (Nat.le_refl _)) c.fi (thn (ha.run pos _ s2 σ H1 _ I2 q) fun us s3 ⟨vs, H2, I3, rv, q2⟩ => ⟨⟨pin_at I3, I3.kIn⟩, ?_⟩) hst hpl
  exact run_cmAt F hr hb (pa σ) I3 rv q2
end
end ClX
namespace Dl
open PySem PySem.Spec PyProof.Rows L2
section
variable {X : Cx} {T : Tx} {π : Nat → Option Pin} {W : WX} {e o : Expr} {es : List Expr} {pos p apos : Pos} {m ma mb : Mi Dt} {ms : Mi (List Dt)} {k n c i : Nat} {f C g q : Addr} {fd : FuncData} {ps : List Str} {x mn : Str} {fm : List Dt → Fo} {ns : List Str} {mc : Value}
/-! ### C.m(..), m a classmethod -/
def mCM (c n : Nat) (f : List Dt → Fo) (ms : Mi (List Dt)) : Mi Dt := mBind ms fun ds ρ => if (Dt.cls c :: ds).length = n then (match f (Dt.cls c :: ds) with
  | .ret d _ => .ok d ρ
  | .exc x _ => .exc x ρ
  | .bad => .bad) else .bad
theorem de_cmeth {pl : Sem Bool} (ho : PE X o (tC (.ref C))) (r : ClX.CRead X.K C mc) (cm : ClX.CMet X.K C mc mn q g) (G : FnOk X.prog X.w X.K X.mg X.base (L2.CX X.prog X.w) k g fd ps (spM T n false false fm)) (hr : Room k X.A) (hb : Binds X.K fd ps []) (hc : T.cl c = some (C, ns)) (tk : Takes X W) (ha : PA X (e :: es) (TMa T π W ms))
    (hst : starEach (e :: es) X.env = (false, eval e X.env) :: starEach es X.env := by rfl) (hpl : (backTo pos (starEach es X.env)).any (·.1) = false := by rfl)
    (ht : eval (.Call (.Attribute o mn apos) (e :: es) [] pos) X.env = (do
      let ov ← eval o X.env
      standAt apos.atName
      let (f, first) ← holding [ov] (getMethod ov mn pl)
      callWith pos f first (backTo pos (starEach (e :: es) X.env)) (backToKw pos (keywordEach [] X.env))) := by rfl) :
    PE X (.Call (.Attribute o mn apos) (e :: es) [] pos) (TMe T π W (mCM c n fm ms)) := (ClX.pe_cmethAt (pl := pl) (E := WE W) ho r cm G hr hb (fun σ => passAt tk σ) ha hst hpl ht).imp fun σ H Q ⟨A, F, ρ, k, p⟩ => ⟨rfl, A, F, ρ, k, p.bind.imp fun ds ρ1 F1 H1 k1 r1 p1 vs rvs =>
  sp_call k1 (Reps.cons (.cls hc) rvs) p1 fun d F' H' v _ _ rv q => q v rv⟩
/-! ### c(..), c a slot that holds a class -/
theorem pe_makeL {E : L2.St → XK} {sp : Sp} {t : TA} (M : Mk X.K C f) (F : FnOk X.prog X.w X.K X.mg X.base (L2.CX X.prog X.w) k f fd ps sp) (room : Room (k + 1) X.A) (hN : X.N[i]? = some x) (hv : Vis X.env.scope x) (bi : Binds X.K fd ps []) (pa : ∀ σ, PassesAt (L2.CX X.prog X.w) X σ (E σ)) (ha : PA X (e :: es) t)
    (hdb : (x == ("__debug__" : Str)) = false := by decide) (hcd : (x == ("__classdict__" : Str)) = false := by decide) (he : starEach (e :: es) X.env = (false, eval e X.env) :: starEach es X.env := by rfl) (hpl : (backTo pos (starEach es X.env)).any (·.1) = false := by rfl) :
    PE X (.Call (.Name x p) (e :: es) [] pos) (fun σ H Q => σ[i]? = some (some (.ref C)) ∧ t σ H fun vs H1 => ∀ y dy, H1 y = none → H1 dy = none → dy ≠ y → sp (.ref y :: vs) (upd (upd H1 dy (.own y)) y (.ins C dy [])) (fun v H2 => v = .non ∧ Q (.ref y) H2) (E σ)) :=
  ⟨fun pn s σ H Q I ⟨hs, h⟩ => wpAny_Call_Name_kw (thn ((pe_var (pos := p) hN hv hdb hcd).run pn s σ H (fun v H1 => v = .ref C ∧ H1 = H) I ⟨.ref C, hs, rfl, rfl⟩) fun u s0 ⟨v, H1, I0, r0, e1, e2⟩ => by
    subst e1 e2
    obtain rfl : u = Value.ref C := r0
    exact PySem.W.callWith_K (h₀ := X.base) I0.ok.mod.kin M.kp (thn (ha.run pos pn s0 σ _ _ I0 h) fun us s1 ⟨vs, H1, I1, r, q⟩ => ⟨I1.kIn, made_at M F room bi (pa σ) I1 r q⟩) he hpl)⟩
def mMakeL (i c n : Nat) (f : List Dt → Fo) (ms : Mi (List Dt)) : Mi Dt := fun ρ => match ρ[i]? with
  | some (some (.val (.cls c'))) => if c' = c then mMake c n f ms ρ else .bad
  | _ => .bad
theorem dn_makeL (M : Mk X.K C f) (G : FnOk X.prog X.w X.K X.mg X.base (L2.CX X.prog X.w) k f fd ps (spM T n true false fm)) (hr : Room (k + 1) X.A) (hN : X.N[i]? = some x) (hv : Vis X.env.scope x) (hb : Binds X.K fd ps []) (hc : T.cl c = some (C, ns)) (tk : Takes X W) (ha : PA X (e :: es) (TMa T π W ms))
    (hdb : (x == ("__debug__" : Str)) = false := by decide) (hcd : (x == ("__classdict__" : Str)) = false := by decide) (he : starEach (e :: es) X.env = (false, eval e X.env) :: starEach es X.env := by rfl) (hpl : (backTo pos (starEach es X.env)).any (·.1) = false := by rfl) :
    PE X (.Call (.Name x p) (e :: es) [] pos) (TMn T π W (mMakeL i c n fm ms)) := (pe_makeL (E := WE W) M G hr hN hv hb (fun σ => passAt tk σ) ha hdb hcd he hpl).imp fun σ H Q ⟨A, F, ρ, k, p⟩ => by
  unfold mMakeL at p
  cases e0 : ρ[i]? with
  | none => rw [e0] at p; exact p.elim
  | some s =>
    cases s with
    | none => rw [e0] at p; exact p.elim
    | some s =>
      cases s with
      | own io d => rw [e0] at p; exact p.elim
      | val d =>
        rw [e0] at p
        obtain ⟨v, h1, h2⟩ := k.val i d e0
        cases d with
        | cls c' =>
          dsimp only at p
          by_cases hcc : c' = c
          · subst hcc
            rw [if_pos rfl] at p
            cases h2 with
            | cls h3 =>
              rw [hc] at h3
              cases h3
              exact ⟨h1, A, F, ρ, k, p.bind.imp fun ds ρ1 F1 H1 k1 r1 p1 vs rvs => fun y dy hy hdy ne =>
                sp_make hc (fun cls d H h => h) k1 rvs p1 (fun o F' H' z k' h1 h2 h3 h4 h5 q => q z h1 h2 (r1.t z h3) h4 fun y hy => by rw [h5] at hy; cases hy) y dy hy hdy ne⟩
          · rw [if_neg hcc] at p; exact p.elim
        | _ => exact p.elim
/-! ### x.split(y) -/
theorem strs_reps {F : Hp} : ∀ ys : List Str, Reps T F (ys.map V.str) (ys.map Dt.str)
  | [] => .nil
  | y :: ys => .cons (.str y) (strs_reps ys)
def fSplit : Dt → Dt → Option Dt
  | .str a, .str b => if b.length = 0 ∨ 16777214 < a.length then none else some (.lst ((Txt.split a b).map .str))
  | _, _ => none
def mSplit (ma mb : Mi Dt) : Mi Dt := mBind ma fun x => match x with
  | .str a => mBind mb fun y => mOpt (fSplit (.str a) y)
  | _ => mBad
theorem dn_split (h : PE X e (tM1 (fun x xs H Q => ∃ a b, x = .str a ∧ xs = [.str b] ∧ (b.length == 0) = false ∧ a.length + 2 ≤ sizeLine ∧ rNewStrs (Txt.split a b) H Q) (TMe T π W ma) (TMe T π W mb))) : PE X e (TMn T π W (mSplit ma mb)) := h.imp fun σ H Q ⟨A, F, ρ, k, p⟩ => ⟨A, F, ρ, k, p.bind.imp fun d ρ1 F1 H1 k1 r1 p1 v rv => by
  cases d with
  | str a =>
    dsimp only at p1
    refine ⟨⟨a, rv.str_inv⟩, A, F1, ρ1, k1, p1.bind.imp fun d ρ2 F2 H2 k2 r2 p2 w rw' => ?_⟩
    obtain ⟨z, ez, p3⟩ := p2.opt
    cases d with
    | str b =>
      unfold fSplit at ez
      dsimp only at ez
      by_cases hz : b.length = 0 ∨ 16777214 < a.length
      · rw [if_pos hz] at ez; cases ez
      · rw [if_neg hz] at ez
        cases ez
        refine ⟨a, b, rv.str_inv, by rw [rw'.str_inv], beq_eq_false_iff_ne.mpr fun e => hz (.inl e), by rw [sizeLine_eq]; omega, fun p hp => ?_⟩
        exact p3 F2 _ (k2.newO hp) (.newO hp) p (f_none k2.le hp) (k2.fresh_new hp) (r1.t p (r2.t p hp)) ⟨_, upd_same, strs_reps _⟩ (fun _ z => nomatch z)
    | _ => cases ez
  | _ => exact p1.elim⟩
/-! ### xs.count(y), xs.index(y) of texts -/
def strsL : Dt → Option (List Str)
  | .lst xs => strsOf xs
  | _ => none
theorem strsL_inv {F : Hp} {d : Dt} {v : V} {ss : List Str} (rv : Rep T F v d) (h : strsL d = some ss) : ∃ q, v = .ref q ∧ F q = some (.lst (ss.map V.str)) := by
  cases rv with
  | lst h1 r =>
    have ex := strs_inv h
    subst ex
    have ev := reps_strs r
    subst ev
    exact ⟨_, rfl, h1⟩
  | _ => cases h
theorem all_flatS : ∀ ss : List Str, (ss.map V.str).all flatV = true
  | [] => rfl
  | _ :: ss => by
    show (flatV (.str _) && (ss.map V.str).all flatV) = true
    rw [all_flatS ss]
    rfl
theorem count_S (y : Str) : ∀ ss : List Str, (ss.map V.str).countP (fun z => eqV z (.str y)) = ss.count y
  | [] => rfl
  | x :: ss => by
    rw [List.map_cons, List.countP_cons, List.count_cons, count_S y ss]
    rfl
def mCntS (m ma : Mi Dt) : Mi Dt := mBind m fun d => match strsL d with
  | some ss => mBind ma fun y => (match y with
    | .str k => mPure (.int (ss.count k : Nat))
    | _ => mBad)
  | none => mBad
theorem de_countS (hK : X.K = T.K) (h : PE X e (tBM X.K "list" (rCntF X.K) (TMe T π W m) (tCons (TMe T π W ma) tNil))) : PE X e (TMe T π W (mCntS m ma)) := h.imp fun σ H Q ⟨A, F, ρ, k, p⟩ => ⟨A, F, ρ, k, p.bind.imp fun d ρ1 F1 H1 k1 r1 p1 v rv => by
  cases q : strsL d with
  | none => rw [q] at p1; exact p1.elim
  | some ss =>
    rw [q] at p1
    obtain ⟨b, e1, hl⟩ := strsL_inv rv q
    subst e1
    refine ⟨.inl ⟨rfl, _, SqL.of (k1.le _ _ hl)⟩, A, F1, ρ1, k1, p1.bind.imp fun y ρ2 F2 H2 k2 r2 p2 w rw' => ?_⟩
    cases y with
    | str y => exact ⟨b, ss.map V.str, .str y, rfl, by rw [rw'.str_inv], SqL.of (k2.le _ _ (r2.f _ _ hl)), rfl, all_flatS ss, by rw [count_S]; exact p2.pure k2 _ (.int _)⟩
    | _ => exact p2.elim⟩
def strAt (k : Str) : List Str → Option Nat
  | [] => none
  | x :: xs => if x = k then some 0 else (strAt k xs).map (· + 1)
theorem strAt_inv {k : Str} : ∀ {ss : List Str} {j : Nat}, strAt k ss = some j → ss[j]? = some k ∧ ∀ m z, m < j → ss[m]? = some z → z ≠ k
  | [], _, h => by cases h
  | x :: ss, j, h => by
    unfold strAt at h
    by_cases hx : x = k
    · rw [if_pos hx] at h
      cases h
      exact ⟨by rw [hx]; rfl, fun m z hm => absurd hm (Nat.not_lt_zero m)⟩
    · rw [if_neg hx] at h
      obtain ⟨i, hi, rfl⟩ := Option.map_eq_some_iff.mp h
      obtain ⟨h1, h2⟩ := strAt_inv hi
      refine ⟨by simpa using h1, fun m z hm hz => ?_⟩
      cases m with
      | zero => cases hz; exact hx
      | succ m => exact h2 m z (by omega) (by simpa using hz)
def mIdxS (m ma : Mi Dt) : Mi Dt := mBind m fun d => match strsL d with
  | some ss => mBind ma fun y => (match y with
    | .str k => mOpt ((strAt k ss).map fun j => .int (j : Nat))
    | _ => mBad)
  | none => mBad
theorem de_indexS (hK : X.K = T.K) (h : PE X e (tBM X.K "list" (rIndex X.K) (TMe T π W m) (tCons (TMe T π W ma) tNil))) : PE X e (TMe T π W (mIdxS m ma)) := h.imp fun σ H Q ⟨A, F, ρ, k, p⟩ => ⟨A, F, ρ, k, p.bind.imp fun d ρ1 F1 H1 k1 r1 p1 v rv => by
  cases q : strsL d with
  | none => rw [q] at p1; exact p1.elim
  | some ss =>
    rw [q] at p1
    obtain ⟨b, e1, hl⟩ := strsL_inv rv q
    subst e1
    refine ⟨.inl ⟨rfl, _, SqL.of (k1.le _ _ hl)⟩, A, F1, ρ1, k1, p1.bind.imp fun y ρ2 F2 H2 k2 r2 p2 w rw' => ?_⟩
    cases y with
    | str y =>
      obtain ⟨z, ez, p3⟩ := p2.opt
      obtain ⟨j, hj, rfl⟩ := Option.map_eq_some_iff.mp ez
      obtain ⟨g1, g2⟩ := strAt_inv hj
      refine ⟨b, ss.map V.str, .str y, j, .str y, rfl, by rw [rw'.str_inv], SqL.of (k2.le _ _ (r2.f _ _ hl)), rfl, all_flatS ss, by rw [List.getElem?_map, g1]; rfl, beq_self_eq_true y, fun m z' hm hz => ?_, p3 F2 H2 k2 .refl _ (.int _)⟩
      rw [List.getElem?_map] at hz
      obtain ⟨z2, hz2, rfl⟩ := Option.map_eq_some_iff.mp hz
      exact beq_eq_false_iff_ne.mpr (g2 m z2 hm hz2)
    | _ => exact p2.elim⟩
/-! ### a sign in a text -/
def fInSg : Dt → Dt → Option Dt
  | .str a, .str z => match a.cps.toList with
    | [c] => some (.bl (decide (c ∈ z.cps.toList)))
    | _ => none
  | _, _ => none
theorem os_inSg : OpS T (fun x y H Q => ∃ (c : Nat) (z : Str), x = .str ⟨#[c]⟩ ∧ y = .str z ∧ Q (.bl (decide (c ∈ z.cps.toList))) H) fInSg := ops_pure fun F H v w d e z Q le rv rw ef q => by
  unfold fInSg at ef
  split at ef
  · rename_i a z
    split at ef
    · rename_i c hc
      cases ef
      have ea : a = ⟨#[c]⟩ := by
        obtain ⟨a⟩ := a
        have h : a.toList = [c] := hc
        have h2 : a = #[c] := by rw [← Array.toArray_toList (xs := a), h]
        rw [h2]
      exact ⟨c, z, by rw [rv.str_inv, ea], rw.str_inv, q _ (.bl _)⟩
    · cases ef
  · cases ef
end
end Dl
namespace Dl
open PySem PySem.Spec PyProof.Rows L2
-- k04
def b_number_in_v2 : En → So :=
  (sSeq (sIf (mOr (mNot (mB (mChain fLe fLe (mPure (.int 1)) (m1 fLen (mPeek 0)) (mPeek 1)))) (mNot (mB (m1 fAll (mLc (mStrI (mVar 0)) (gV 2) (mPure true) (m2 fInSg (mVar 2) (mPure (.str "0123456789"))) [2]))))) (sRet (mPure .non)) (fun ρ => .nx ρ))
  (sRet (mIfE (mOr (mB (m2 fEq (mVar 0) (mPure (.str "0")))) (mB (m2 fNe (hasSl 0 (mIxV 0 (mPure (.int 0)))) (mPure (.str "0"))))) (m1 fIntS (mPeek 0)) (mPure .non))))
def m_number_in_v2 : List Dt → Fo := runF 3 false false b_number_in_v2
-- k04
def b_numbers_in_v2 : En → So :=
  (sSeq (sSet 2 (mLc (mSeqI (mVar 0)) (gV 3) (mPure true) (mCall 2 m_number_in_v2 (mCons (mVar 3) (mCons (mVar 1) (mPure [])))) [3]))
  (sRet (mIfE (mB (m2 fInA (mPure .non) (mPeek 2))) (mPure .non) (mVar 2))))
def m_numbers_in_v2 : List Dt → Fo := runF 4 false false b_numbers_in_v2
-- k04
def b_places_in : En → So :=
  (sSeq (sSet 1 (mSplit (mVar 0) (mPure (.str " "))))
  (sSeq (sSet 2 (mCall 2 m_numbers_in_v2 (mCons (hasSl 1 (mSlV 1 (mPart (mPure (.int 1))) (mPure none))) (mCons (mPure (.int 2)) (mPure [])))))
  (sSeq (sIf (mOr (mB (m2 fNe (hasSl 1 (mIxV 1 (mPure (.int 0)))) (mPure (.str "places")))) (mOr (mB (m2 fIsN (mVar 2) (mPure .non))) (mB (m2 fNe (m1 fLen (mPeek 2)) (mPure (.int 1)))))) (sRet (mPure .non)) (fun ρ => .nx ρ))
  (sRet (hasSl 2 (mIxV 2 (mPure (.int 0))))))))
def m_places_in : List Dt → Fo := runF 3 false false b_places_in
-- k04
def b_row_in : En → So :=
  (sSeq (sSet 1 (mSplit (mVar 0) (mPure (.str " "))))
  (sSeq (sIf (mOr (mB (m2 fNe (hasSl 1 (mIxV 1 (mPure (.int 0)))) (mPure (.str "turn")))) (mB (m2 fNe (mCntS (mVar 1) (mPure (.str "move"))) (mPure (.int 1))))) (sRet (mPure .non)) (fun ρ => .nx ρ))
  (sSeq (sSet 2 (mIdxS (mVar 1) (mPure (.str "move"))))
  (sSeq (sSet 3 (mIfE (mB (m2 fEq (hasSl 1 (mSlV 1 (mPart (mPure (.int 1))) (mPart (mVar 2)))) (mLst (mCons (mPure (.str "none")) (mPure []))))) (mLst (mPure [])) (mCall 2 m_numbers_in_v2 (mCons (hasSl 1 (mSlV 1 (mPart (mPure (.int 1))) (mPart (mVar 2)))) (mCons (mPure (.int 2)) (mPure []))))))
  (sSeq (sSet 4 (mCall 2 m_numbers_in_v2 (mCons (hasSl 1 (mSlV 1 (mPart (m2 fAdd (mVar 2) (mPure (.int 1)))) (mPure none))) (mCons (mPure (.int 2)) (mPure [])))))
  (sSeq (sIf (mOr (mB (m2 fIsN (mVar 3) (mPure .non))) (mOr (mB (m2 fIsN (mVar 4) (mPure .non))) (mOr (mB (m2 fEq (mVar 2) (mPure (.int 1)))) (mB (m2 fEq (m1 fLen (mPeek 4)) (mPure (.int 0))))))) (sRet (mPure .non)) (fun ρ => .nx ρ))
  (sRet (mTup (mCons (mVar 3) (mCons (mVar 4) (mPure [])))))))))))
def m_row_in : List Dt → Fo := runF 5 false false b_row_in
-- k04
def b_Rota_read : En → So :=
  (sSeq (sIf (mNot (mB (m1 (fIsi .str) (mPeek 1)))) (fun _ => .bad) (fun ρ => .nx ρ))
  (sSeq (sSet 2 (mSplit (mVar 1) (mPure (.str "\n"))))
  (sSeq (sSet 3 (mCall 1 m_places_in (mCons (hasSl 2 (mIxV 2 (mPure (.int 0)))) (mPure []))))
  (sSeq (sIf (mB (m2 fIsN (mVar 3) (mPure .non))) (fun _ => .bad) (fun ρ => .nx ρ))
  (sSeq (sSetN 4 (mLst (mPure [])))
  (sSeq (sFor (mEnumI (hasSl 2 (mSlV 2 (mPart (mPure (.int 1))) (mPure none)))) (gT (gsC (gV 5) (gsC (gV 6) gsN)) 2) (sSeq (sSet 7 (mCall 1 m_row_in (mCons (mVar 6) (mPure []))))
  (sSeq (sIf (mB (m2 fIsN (mVar 7) (mPure .non))) (fun _ => .bad) (fun ρ => .nx ρ))
  (sDrop (ownLst 4 (mAppend 4 (mVar 7)))))))
  (sRet (mMakeL 0 0 3 m_Rota_init (mCons (mVar 3) (mCons (mVar 4) (mPure [])))))))))))
end Dl
namespace L2
open PySem PySem.Spec PyProof.Rows
section
variable {X : Cx} {CX : CXT} {k : Nat} {f : Addr} {fd : FuncData} {ps ks : List Str} {sp : Sp} {E : XK} {x : Str} {p pos : Pos} {kws : List Keyword} {tk : TA} {g : List Value → List Value → List Value} {gV : List V → List V → List V}
theorem PK.imp {t u : TA} (h : PK X kws t) (i : ∀ σ H Q, u σ H Q → t σ H Q) : PK X kws u := ⟨fun pos pins s σ H Q I q => h.run pos pins s σ H Q I (i σ H Q q)⟩
variable {ES : St → XK}
end
end L2
namespace Dl
open PySem PySem.Spec PyProof.Rows L2
/-! ### o.m(..) where o is a slot's own object, which m may change -/
section
variable {X : Cx} {T : Tx} {π : Nat → Option Pin} {W : WX} {e : Expr} {es : List Expr} {pos p apos pv_ : Pos} {m : Mi Dt} {ms : Mi (List Dt)} {k n c i : Nat} {f C : Addr} {fd : FuncData} {ps : List Str} {x mn v : Str} {fm : List Dt → Fo} {ns : List Str} {pl : Sem Bool}
theorem pe_methAt0 {o : Expr} {tt : TE} {sp : Sp} {E : L2.St → XK} (ho : PE X o tt) (cl : Cls X.K C) (hm : Meth X.K C mn f) (F : FnOk X.prog X.w X.K X.mg X.base (L2.CX X.prog X.w) k f fd ps sp) (room : Room k X.A) (bi : Binds X.K fd ps []) (pa : ∀ σ, PassesAt (L2.CX X.prog X.w) X σ (E σ))
    (ht : eval (.Call (.Attribute o mn apos) [] [] pos) X.env = (do
      let ov ← eval o X.env
      standAt apos.atName
      let (f, first) ← holding [ov] (getMethod ov mn pl)
      callWith pos f first (backTo pos (starEach [] X.env)) (backToKw pos (keywordEach [] X.env))) := by rfl) :
    PE X (.Call (.Attribute o mn apos) [] [] pos) (fun σ H Q => tt σ H fun y H1 => ∃ a dx fs, y = V.ref a ∧ H1 a = some (.ins C dx fs) ∧ fs.lookup mn = none ∧ sp [V.ref a] H1 Q (E σ)) :=
  ⟨fun pn s σ H Q I h => PySem.W.methodCall_KW (pl := pl) (thn (ho.run pn s σ H _ I h) fun u s1 ⟨y, H1, I1, ry, a, dx, fs, ey, ea, lk, q⟩ => by
    subst ey
    obtain rfl : u = Value.ref a := ry
    exact getmeth_ok I1 ea cl hm lk (PySem.W.callWith_K0 (first := [.ref a]) I1.kIn hm.kp (run_fnS (us := [.ref a]) (vs := [.ref a]) F room bi (pa σ) I1 (.cons rfl .nil) q))) ht⟩
def mMethIo (c n : Nat) (f : List Dt → Fo) (i : Nat) (ms : Mi (List Dt)) : Mi Dt := fun ρ => match ρ[i]? with
  | some (some (.own _ (.ins c' _))) => if c' = c then mCallIo n f i ms ρ else .bad
  | _ => .bad
theorem de_methIo (hv : PE X (.Name v pv_) (tVar i)) (hcl : Cls X.K C) (hmm : Meth X.K C mn f) (G : FnOk X.prog X.w X.K X.mg X.base (L2.CX X.prog X.w) k f fd ps (spM T n true false fm)) (hr : Room k X.A) (hb : Binds X.K fd ps []) (hc : T.cl c = some (C, ns)) (hn : mn ∉ ns) (tk : Takes X W) (ha : PA X (e :: es) (TMa T π W ms))
    (hst : starEach (e :: es) X.env = (false, eval e X.env) :: starEach es X.env := by rfl) (hpl : (backTo pos (starEach es X.env)).any (·.1) = false := by rfl)
    (ht : eval (.Call (.Attribute (.Name v pv_) mn apos) (e :: es) [] pos) X.env = (do
      let ov ← eval (.Name v pv_) X.env
      standAt apos.atName
      let (f, first) ← holding [ov] (getMethod ov mn pl)
      callWith pos f first (backTo pos (starEach (e :: es) X.env)) (backToKw pos (keywordEach [] X.env))) := by rfl) :
    PE X (.Call (.Attribute (.Name v pv_) mn apos) (e :: es) [] pos) (TMe T π W (mMethIo c n fm i ms)) := (pe_methAt (pl := pl) (E := WE W) hv hcl hmm G hr hb (fun σ => passAt tk σ) ha hst hpl ht).imp fun σ H Q ⟨A, F, ρ, k, p⟩ => by
  unfold mMethIo at p
  split at p
  · rename_i io c' dv e0
    by_cases hcc : c' = c
    · subst hcc
      rw [if_pos rfl] at p
      unfold mCallIo at p
      rw [e0] at p
      dsimp only at p
      obtain ⟨a, h1, h2, h3, _⟩ := k.own i io _ e0
      obtain ⟨a', C', dx, ns', vs, e1, q1, q2, q3, q4⟩ := RepS.ins_inv (T := T) (F := F) (v := .ref a) (.inr ⟨a, rfl, h3⟩) k.le
      cases e1
      rw [hc] at q1
      cases q1
      refine ⟨.ref a, h1, a, dx, _, rfl, q2, zip_nokey hn, A, F, ρ, k, p.bind.imp fun ds ρ1 F1 H1 k1 r1 p1 vs rvs => ?_⟩
      show spM T n true false fm (V.ref a :: vs ++ []) H1 Q (WE W σ)
      rw [List.append_nil]
      exact sp_callIo k1 h1 rvs p1 fun d ρ' F' H' v _ rv q => q v rv
    · rw [if_neg hcc] at p; exact p.elim
  · exact p.elim
theorem de_methIo0 (hv : PE X (.Name v pv_) (tVar i)) (hcl : Cls X.K C) (hmm : Meth X.K C mn f) (G : FnOk X.prog X.w X.K X.mg X.base (L2.CX X.prog X.w) k f fd ps (spM T n true false fm)) (hr : Room k X.A) (hb : Binds X.K fd ps []) (hc : T.cl c = some (C, ns)) (hn : mn ∉ ns) (tk : Takes X W)
    (ht : eval (.Call (.Attribute (.Name v pv_) mn apos) [] [] pos) X.env = (do
      let ov ← eval (.Name v pv_) X.env
      standAt apos.atName
      let (f, first) ← holding [ov] (getMethod ov mn pl)
      callWith pos f first (backTo pos (starEach [] X.env)) (backToKw pos (keywordEach [] X.env))) := by rfl) :
    PE X (.Call (.Attribute (.Name v pv_) mn apos) [] [] pos) (TMe T π W (mMethIo c n fm i (mPure []))) := (pe_methAt0 (pl := pl) (E := WE W) hv hcl hmm G hr hb (fun σ => passAt tk σ) ht).imp fun σ H Q ⟨A, F, ρ, k, p⟩ => by
  unfold mMethIo at p
  split at p
  · rename_i io c' dv e0
    by_cases hcc : c' = c
    · subst hcc
      rw [if_pos rfl] at p
      unfold mCallIo at p
      rw [e0] at p
      dsimp only at p
      obtain ⟨a, h1, h2, h3, _⟩ := k.own i io _ e0
      obtain ⟨a', C', dx, ns', vs, e1, q1, q2, q3, q4⟩ := RepS.ins_inv (T := T) (F := F) (v := .ref a) (.inr ⟨a, rfl, h3⟩) k.le
      cases e1
      rw [hc] at q1
      cases q1
      refine ⟨.ref a, h1, a, dx, _, rfl, q2, zip_nokey hn, ?_⟩
      exact sp_callIo (n := n) (rn := false) (f := fm) (vs := []) (ds := []) k h1 .nil p fun d ρ' F' H' v _ rv q => q v rv
    · rw [if_neg hcc] at p; exact p.elim
  · exact p.elim
/-! ### C(), nothing handed in -/
theorem pe_makeAt0 {sp : Sp} {E : L2.St → XK} (M : Mk X.K C f) (F : FnOk X.prog X.w X.K X.mg X.base (L2.CX X.prog X.w) k f fd ps sp) (room : Room (k + 1) X.A) (gl : Gl X x) (hm : X.mg x = some (.ref C)) (bi : Binds X.K fd ps []) (pa : ∀ σ, PassesAt (L2.CX X.prog X.w) X σ (E σ))
    (hdb : (x == ("__debug__" : Str)) = false := by decide) :
    PE X (.Call (.Name x p) [] [] pos) (fun σ H Q => ∀ y dy, H y = none → H dy = none → dy ≠ y → sp [.ref y] (upd (upd H dy (.own y)) y (.ins C dy [])) (fun v H2 => v = .non ∧ Q (.ref y) H2) (E σ)) :=
  ⟨fun pn s σ H Q I h => wpAny_Call_Name_kw (ld_glob I gl hm (PySem.W.callWith_K0 I.kIn M.kp (made_at (us := []) (vs := []) M F room bi (pa σ) I .nil h)) hdb)⟩
theorem dn_make0 (M : Mk X.K C f) (G : FnOk X.prog X.w X.K X.mg X.base (L2.CX X.prog X.w) k f fd ps (spM T n true false fm)) (hr : Room (k + 1) X.A) (hg : Gl X x) (hm : X.mg x = some (.ref C)) (hb : Binds X.K fd ps []) (hc : T.cl c = some (C, ns)) (tk : Takes X W)
    (hdb : (x == ("__debug__" : Str)) = false := by decide) :
    PE X (.Call (.Name x p) [] [] pos) (TMn T π W (mMake c n fm (mPure []))) := (pe_makeAt0 (E := WE W) M G hr hg hm hb (fun σ => passAt tk σ) hdb).imp fun σ H Q ⟨A, F, ρ, k, p⟩ => fun y dy hy hdy ne =>
  sp_make (n := n) (f := fm) (vs := []) (ds := []) hc (fun cls d H h => h) k .nil p (fun o F' H' z k' h1 h2 h3 h4 h5 q => q z h1 h2 h3 h4 fun y hy => by rw [h5] at hy; cases hy) y dy hy hdy ne
end
/-! ### a dict of the text with text keys and ints -/
structure KTab (K : PySem.W.Frag) (w : World) (d : Addr) (tab : List (Str × Int)) : Prop where
  kd : ∃ es n, KDict K w d es n
  get : ∀ z : Str, (∀ i, tab.lookup z = some i → ∃ t, PySem.W.nsIn K d z = some (some (.int i t))) ∧ (tab.lookup z = none → PySem.W.nsIn K d z = some none)
theorem lookup_mem {z : Str} {i : Int} : ∀ {tab : List (Str × Int)}, tab.lookup z = some i → (z, i) ∈ tab
  | [], h => by cases h
  | (x, j) :: r, h => by
    rw [List.lookup_cons] at h
    split at h
    · rename_i e
      have e2 : z = x := by simpa using e
      cases h
      rw [e2]
      exact List.mem_cons_self
    · exact List.mem_cons_of_mem _ (lookup_mem h)
theorem lookup_no {z : Str} : ∀ {tab : List (Str × Int)}, tab.lookup z = none → ∀ p ∈ tab, p.1 ≠ z
  | [], _, p, hp => nomatch hp
  | (x, j) :: r, h, p, hp => by
    rw [List.lookup_cons] at h
    split at h
    · cases h
    · rename_i e
      rcases List.mem_cons.mp hp with rfl | hp
      · intro z2
        have : (z == x) = true := by rw [show x = z from z2]; exact beq_self_eq_true z
        rw [this] at e; cases e
      · exact lookup_no h p hp
theorem dicW_at {K : PySem.W.Frag} {a : Addr} {ks : List (Option (Str × Int))} (h : He.dicW K a = some ks) : ∃ oc es n sl, K.lookup a = some ⟨oc, none, .dict es n, sl⟩ ∧ es.toList.map He.keyOf = ks := by
  unfold He.dicW at h
  split at h
  · rename_i c es n sl q
    split at h
    · cases h
      exact ⟨_, es, n, sl, q, rfl⟩
    · cases h
  · cases h
theorem key_out {P : Params} {z : Str} : ∀ {l : List DictEntry} {ks : List Str}, l.map He.keyOf = He.keysIn P ks → z ∉ ks → l.find? (·.key.isStr z) = none ∧ l.any (·.refKey) = false
  | [], _, _, _ => ⟨rfl, rfl⟩
  | e :: r, [], h, _ => by cases h
  | e :: r, k :: ks, h, hz => by
    have h1 : He.keyOf e :: r.map He.keyOf = some (k, PyData.keyHash P k) :: He.keysIn P ks := h
    injection h1 with h2 h3
    obtain ⟨g1, g2⟩ := key_out (z := z) h3 fun y => hz (List.mem_cons_of_mem _ y)
    unfold He.keyOf at h2
    split at h2
    · rename_i x t q
      have h4 := Option.some.inj h2
      obtain ⟨h5, _⟩ := Prod.mk.inj h4
      have hx : (e.key.isStr z) = false := by
        rw [q, PySem.W.isStr_of]
        have ne : x ≠ z := fun y => hz (by rw [← y, h5]; exact List.mem_cons_self)
        show (Value.isStrOf z (.str x t)) = false
        unfold Value.isStrOf
        first
        | exact beq_eq_false_iff_ne.mpr ne
        | exact beq_eq_false_iff_ne.mpr (Ne.symm ne)
      refine ⟨by rw [List.find?_cons, hx]; exact g1, ?_⟩
      rw [List.any_cons, g2, Bool.or_false]
      unfold DictEntry.refKey
      rw [q]
    · cases h2
theorem ktab_of {K : PySem.W.Frag} {w : World} {d : Addr} {tab : List (Str × Int)} (h : He.dicW K d = some (He.keysIn w.params (tab.map (·.1)))) (hv : ∀ p ∈ tab, ∃ t, PySem.W.nsIn K d p.1 = some (some (.int p.2 t))) : KTab K w d tab := by
  refine ⟨He.dicW_ok h, fun z => ⟨fun i e => hv _ (lookup_mem e), fun e => ?_⟩⟩
  obtain ⟨oc, es, n, sl, h1, h2⟩ := dicW_at h
  obtain ⟨g1, g2⟩ := key_out (z := z) h2 fun y => by
    obtain ⟨p, hp, rfl⟩ := List.mem_map.mp y
    exact lookup_no e p hp rfl
  unfold PySem.W.nsIn
  rw [h1]
  dsimp only
  rw [g1]
  dsimp only
  rw [if_neg (by rw [g2]; decide)]
def fKIx (tab : List (Str × Int)) : Dt → Option Dt
  | .str z => (tab.lookup z).map .int
  | _ => none
def fKIn (neg : Bool) (tab : List (Str × Int)) : Dt → Option Dt
  | .str z => some (.bl ((tab.lookup z).isSome != neg))
  | _ => none
section
variable {X : Cx} {T : Tx} {π : Nat → Option Pin} {W : WX} {e a b : Expr} {pos : Pos} {m : Mi Dt} {d : Addr} {tab : List (Str × Int)}
theorem de_kIx (kt : KTab X.K X.w d tab) (h : PE X e (tOp (rIxD X.K X.w) (tC (.ref d)) (TMe T π W m))) : PE X e (TMe T π W (m1 (fKIx tab) m)) := h.imp fun σ H Q ⟨A, F, ρ, k, p⟩ => ⟨A, F, ρ, k, p.bind.imp fun x ρ1 F1 H1 k1 r1 p1 v rv => by
  obtain ⟨z, ez, p3⟩ := p1.opt
  unfold fKIx at ez
  split at ez
  · rename_i s
    obtain ⟨i, hi, rfl⟩ := Option.map_eq_some_iff.mp ez
    obtain ⟨t, ht⟩ := (kt.get s).1 i hi
    obtain ⟨es, n, D⟩ := kt.kd
    exact ⟨d, s, .int i, rfl, rv.str_inv, ⟨es, n, _, D.at_, D.lit, ht, ⟨t, rfl⟩⟩, p3 F1 H1 k1 .refl _ (.int i)⟩
  · cases ez⟩
theorem kt_isSome (kt : KTab X.K X.w d tab) (s : Str) : ∃ r, PySem.W.nsIn X.K d s = some r ∧ r.isSome = (tab.lookup s).isSome := by
  cases hl : tab.lookup s with
  | none => exact ⟨_, (kt.get s).2 hl, rfl⟩
  | some i =>
    obtain ⟨t, ht⟩ := (kt.get s).1 i hl
    exact ⟨_, ht, rfl⟩
theorem dt_kNotIn (kt : KTab X.K X.w d tab) (h : ∀ {es : Array DictEntry} {n : Nat}, KDict X.K X.w d es n → PT X e (tTest (tOp (fun x y H Q => ∃ (z : Str) (r : Option Value), x = .str z ∧ y = .ref d ∧ PySem.W.nsIn X.K d z = some r ∧ Q (.bl (!r.isSome)) H) (TMe T π W m) (tC (.ref d))))) : PT X e (TMt T π W (mB (m1 (fKIn true tab) m))) := by
  obtain ⟨es, n, D⟩ := kt.kd
  refine (h D).imp fun σ H Q ⟨A, F, ρ, k, p⟩ => ?_
  have p' := p.bind
  refine ⟨A, F, ρ, k, p'.bind.imp fun x ρ1 F1 H1 k1 r1 p1 v rv => ?_⟩
  obtain ⟨z, ez, p3⟩ := p1.opt
  unfold fKIn at ez
  split at ez
  · rename_i s
    cases ez
    obtain ⟨r, hr, e2⟩ := kt_isSome kt s
    refine ⟨s, r, rv.str_inv, rfl, hr, _, rfl, ?_⟩
    have e3 : (!r.isSome) = ((tab.lookup s).isSome != true) := by rw [e2]; cases (tab.lookup s).isSome <;> rfl
    rw [e3]
    exact p3 F1 H1 k1 .refl F1 H1 k1 .refl
  · cases ez
end
end Dl
namespace Dl
open PySem PySem.Spec PyProof.Rows L2
/-! ### behind which a token is given out -/
def PEt (X : Cx) (e : Expr) (t : TE) : Prop := ∀ (pins : List (Addr × Obj)) (s : Shared) (σ : L2.St) (H : Hp) (Q : VK), Inv X pins σ H s → t σ H Q → wpAny (model X.prog X.w) X.A (eval e X.env) (fun u s' => 1 ≤ s'.toks ∧ EP X pins σ Q u s') X.xe s
section
variable {X : Cx} {e o lo : Expr} {t to tl : TE} {pos p p2 apos c0 c1 : Pos} {y z : Str} {j k : Nat}
theorem pet1_str {x : Str} : PEt X (.Constant (.str x) j pos) (tC (.str x)) := fun _ _ _ H _ I h => Calls.Constant_str ⟨Nat.succ_le_succ (Nat.zero_le _), .str x, H, I.tok _, ⟨_, rfl⟩, h⟩
theorem pet1_imp {t' : TE} (h : PEt X e t) (i : ∀ σ H Q, t' σ H Q → t σ H Q) : PEt X e t' := fun pins s σ H Q I q => h pins s σ H Q I (i σ H Q q)
theorem pet1_callB {id : String} {r : List V → Hp → VK → Prop} {x : Str} (hc : CallR X (.builtin id) r) (hg : Gl X x) (hm : X.mg x = none) (hv : bootBuiltins x = some (.builtin id)) (ha : PEt X e t) (hn : x ≠ "__name__" := by decide) (hdb : (x == ("__debug__" : Str)) = false := by decide)
    (he : starEach [e] X.env = (false, eval e X.env) :: starEach [] X.env := by rfl) (hpl : (backTo pos (starEach [] X.env)).any (·.1) = false := by rfl) : PEt X (.Call (.Name x p) [e] [] pos) (tCB r (tCons t tNil)) := by
  intro pins s σ H Q I h
  refine wpAny_Call_Name_kw (ld_blt I hg hm hv ?_ hn hdb)
  refine PyProof.Rows.callWith_builtin1 ?_ he hpl
  rw [he]
  refine Calls.spliced_cons (thn (ha pins s σ H _ I h) fun u s1 ⟨hk, x, H1, I1, r1, q1⟩ => Calls.spliced_nil ?_)
  exact wpAny_mono (wpAny_toks_of hk (hc pins s1 σ H1 [x] [u] Q I1 (.cons r1 .nil) q1)) (fun _ _ z => z) (fun _ _ z => z.2)
theorem pet1_slice {r : V → Option Int → Option Int → Hp → VK → Prop} (hr : SlR X r) (he : PE X o to) (hl : PEt X lo tl) : PEt X (.Subscript o (.Slice (some lo) none none p2) pos) (tSl r to (tPart tl) tNoPart) := by
  intro pins s σ H Q I h
  refine Subscript_ (thn (he.run pins s σ H _ I h) fun v s1 ⟨x, H1, I1, r1, q1⟩ => ?_)
  refine wpAny_Slice ?_
  rw [evalPart_some]
  refine thn (hl pins s1 σ H1 _ I1 q1) fun vl s2 ⟨hk, x2, H2, I2, r2, i, e2, q2⟩ => ?_
  subst e2
  obtain ⟨tt, rfl⟩ := r2
  refine wpAny_mono (wpAny_toks_of hk (po_none.run pins s2 σ H2 _ I2 q2)) (fun vu s3 ⟨hk3, u, H3, I3, pu, q3⟩ => ?_) (fun _ _ z => z.2)
  rw [evalPart_none]
  refine wpAny_pure ?_
  have I4 : Inv X pins σ H3 { s3 with heap := s3.heap.push { cls := .type "slice", data := .fields #[.int i tt, vu, .none] } } := I3.kept (t' := s3.toks) fun b ob q => Heap.get?_push_of_some _ q
  obtain ⟨T, id, hT, ht, hg⟩ := hr pins { s3 with heap := s3.heap.push { cls := .type "slice", data := .fields #[.int i tt, vu, .none] } } σ H3 x v (.int i tt) vu (some i) u s3.heap.objs.size Q I4 r1 (Heap.IsSliceOf.new ..) (.int i tt) pu q3
  have tail : wpAny (model X.prog X.w) X.A (subscriptTail o (.Slice (some lo) none none p2) v (.ref s3.heap.objs.size)) (EP X pins σ Q) X.xe { s3 with heap := s3.heap.push { cls := .type "slice", data := .fields #[.int i tt, vu, .none] } } :=
    tail_any (ops := [.ref s3.heap.objs.size, v]) ht hT hg (by with_unfolding_all rfl)
  exact wpAny_mono (wpAny_toks_of (n := 1) hk3 tail) (fun _ _ z => z) (fun _ _ z => z.2)
theorem pe_repl1 (ho : PEt X o to) (hyz : (y == z) = false := by decide)
    (hst : starEach [.Constant (.str y) j c0, .Constant (.str z) k c1] X.env = [(false, eval (.Constant (.str y) j c0) X.env), (false, eval (.Constant (.str z) k c1) X.env)] := by rfl)
    (hbase : attributeBase o "replace" X.env (eval o X.env) = eval o X.env := by rfl) (hline : (apos.endLine == pos.line) = true := by rfl) :
    PE X (.Call (.Attribute o "replace" apos) [.Constant (.str y) j c0, .Constant (.str z) k c1] [] pos) (CwR.tReplC to y z) := by
  refine ⟨fun pins s σ H Q I h => ?_⟩
  refine PySem.Call_method2 hbase hst hline (thn (ho pins s σ H _ I h) fun v s1 q => ?_)
  obtain ⟨hk, v', H1, I1, r1, x, e1, hb, q⟩ := q
  subst e1
  obtain ⟨tx, e2⟩ := r1
  subst e2
  refine ⟨"str", _, PySem.F.plainAttrs_str, PySem.F.slot_str_replace, PySem.F.type_str_replace, typeIs_str _ _ _, (fun _ e => nomatch e), Calls.callWith_builtin rfl (Calls.evalArgs_plain (Calls.spliced_cons ?_))⟩
  refine Calls.Constant_str (Calls.spliced_cons (Calls.Constant_str (Calls.spliced_nil ?_)))
  exact PySem.SC.replace (by show s1.toks ≠ 0; omega) (by show s1.toks + 1 ≠ 0; omega) (by show s1.toks ≠ s1.toks + 1; omega) hyz hb fun t' k => ⟨.str (Txt.replace x y z), H1, I1.tok k, ⟨t', rfl⟩, q⟩
end
section
variable {X : Cx} {T : Tx} {π : Nat → Option Pin} {W : WX} {e : Expr} {m : Mi Dt} {y z : Str} {pos p2 p : Pos} {lo : Option Expr}
/-- len("..") -/
theorem pet_len {w : Str} {f : Dt → Option Dt} {r : List V → Hp → VK → Prop} (h : PEt X e (tCB r (tCons (tC (.str w)) tNil))) (hs : CaS T r f) : PEt X e (TMe T π W (m1 f (mPure (.str w)))) := pet1_imp h fun σ H Q ⟨A, F, ρ, k, p⟩ => by
  have p1 := p.bind
  have p2 := p1 F H k .refl
  obtain ⟨d, ed, p3⟩ := p2.opt
  exact hs π A F H σ ρ (.str w) (.str w) d Q k (.inl (.str w)) ed fun F' H' u k' r' ru => p3 F' H' k' r' u ru
theorem pet_sl {ml : Mi Dt} (hK : X.K = T.K) (h : PEt X e (tSl (rSlAll X.K) (TMe T π W m) (tPart (TMe T π W ml)) tNoPart)) : PEt X e (TMe T π W (mSl m (mPart ml) (mPure none))) :=
  pet1_imp h fun σ H Q ⟨A, F, ρ, k, p⟩ => ⟨A, F, ρ, k, p.bind.imp fun x ρ1 F1 H1 k1 r1 p1 v rv => ⟨A, F1, ρ1, k1, p1.bind.bind.imp fun d ρ2 F2 H2 k2 r2 p2 u ru => by
    cases d with
    | int i =>
      have p3 := (p2 F2 H2 k2 .refl).bind
      have p4 := p3 F2 H2 k2 .refl
      obtain ⟨z, ez, p5⟩ := p4.opt
      refine ⟨i, ru.int_inv, ?_⟩
      rw [hK]
      exact sl_go k2 (rv.mono r2.f).s ez fun F' H' u k' r' ru => p5 F' H' k' r' u ru
    | _ => exact p2.elim⟩⟩
def fRepl (y z : Str) : Dt → Option Dt
  | .str x => if x.length + (x.length + 1) * z.length ≤ 16777216 then some (.str (Txt.replace x y z)) else none
  | _ => none
theorem de_repl (h : PE X e (CwR.tReplC (TMe T π W m) y z)) : PE X e (TMe T π W (m1 (fRepl y z) m)) := h.imp fun σ H Q ⟨A, F, ρ, k, p⟩ => ⟨A, F, ρ, k, p.bind.imp fun x ρ1 F1 H1 k1 r1 p1 v rv => by
  obtain ⟨d, ed, p3⟩ := p1.opt
  unfold fRepl at ed
  split at ed
  · rename_i s
    split at ed
    · rename_i hz
      cases ed
      exact ⟨s, rv.str_inv, hz, p3 F1 H1 k1 .refl _ (.str _)⟩
    · cases ed
  · cases ed⟩
end
end Dl
namespace Dl
open PySem PySem.Spec PyProof.Rows L2
/-! ### len(x) of a slot's own object, by its __len__ -/
section
variable {X : Cx} {T : Tx} {π : Nat → Option Pin} {W : WX} {e : Expr} {c i : Nat} {C : Addr} {ns : List Str} {fm : List Dt → Fo} {ok : Dt → Bool} {vk : V → Prop}
def mOwn1Io (c : Nat) (fm : List Dt → Fo) (ok : Dt → Bool) (i : Nat) : Mi Dt := fun ρ => match ρ[i]? with
  | some (some (.own io (.ins c' dv))) => if c' = c then (match fm [.ins c' dv] with
    | .ret z o => if ok z = true then .ok z (ρ.set i (some (.own io o))) else .bad
    | _ => .bad) else .bad
  | _ => .bad
theorem de_own1Io (h : PE X e (tCB (rOwn C (spM T 1 true false fm) vk) (tCons (tVar i) tNil))) (hc : T.cl c = some (C, ns)) (hv : ∀ d v F, ok d = true → Rep T F v d → vk v) : PE X e (TMe T π W (mOwn1Io c fm ok i)) := h.imp fun σ H Q ⟨A, F, ρ, k, p⟩ => by
  unfold mOwn1Io at p
  split at p
  · rename_i io c' dv e0
    by_cases hcc : c' = c
    · subst hcc
      rw [if_pos rfl] at p
      obtain ⟨a, h1, h2, h3, _⟩ := k.own i io _ e0
      obtain ⟨a', C', dx, ns', vs, e1, q1, q2, q3, q4⟩ := RepS.ins_inv (T := T) (F := F) (v := .ref a) (.inr ⟨a, rfl, h3⟩) k.le
      cases e1
      rw [hc] at q1
      cases q1
      refine ⟨.ref a, h1, a, dx, _, rfl, q2, ?_⟩
      cases ef : fm [.ins c' dv] with
      | ret z o =>
        rw [ef] at p
        dsimp only at p
        by_cases ho : ok z = true
        · rw [if_pos ho] at p
          have pp : Post T π (fun _ _ _ _ => False) σ A F H (fun d _ F' H' => ∀ v, Rep T F' v d → vk v ∧ Q v H') (match ρ[i]? with
            | some (some (.own io d)) => if ([] : List Dt).length + 1 = 1 then (match fm (d :: []) with
              | .ret r o => Ou.ok r (ρ.set i (some (.own io o)))
              | .exc x o => .exc x (ρ.set i (some (.own io o)))
              | .bad => .bad) else .bad
            | _ => .bad) := by
            rw [e0]; dsimp only
            rw [if_pos (show ([] : List Dt).length + 1 = 1 from rfl), ef]
            exact fun F' H' k' r' v rv => ⟨hv z v F' ho rv, p F' H' k' r' v rv⟩
          exact sp_callIo (W := fun _ _ _ _ => False) (n := 1) (rn := false) (f := fm) (vs := []) (ds := []) k h1 .nil pp fun d ρ' F' H' v _ rv q => q v rv
        · rw [if_neg ho] at p; exact p.elim
      | exc x o => rw [ef] at p; exact p.elim
      | bad => rw [ef] at p; exact p.elim
    · rw [if_neg hcc] at p; exact p.elim
  · exact p.elim
end
end Dl
namespace Dl
open PySem PySem.Spec PyProof.Rows L2
/-! ### sorted() of lots of pairs, any number of them, the first one empty -/
def flP : List (Int × Int) → List Int
  | [] => []
  | x :: r => x.1 :: x.2 :: flP r
end Dl
namespace Dl
open PySem PySem.Spec PyProof.Rows L2
/-! ### lots in order -/
def LLe (a b : List (Int × Int)) : Prop := HT.lexLt (flP b) (flP a) = false
instance (a b : List (Int × Int)) : Decidable (LLe a b) := by unfold LLe; infer_instance
theorem LLe.refl (a : List (Int × Int)) : LLe a a := by
  unfold LLe
  cases e : HT.lexLt (flP a) (flP a) with
  | false => rfl
  | true => have := NtL.lex_asym _ _ e; rw [e] at this; cases this
theorem LLe.trans {a b c : List (Int × Int)} (h : LLe a b) (k : LLe b c) : LLe a c := NtL.lex_tr _ _ _ h k
/-! ### as a rule -/
end Dl
namespace Dl
open PySem PySem.Spec PyProof.Rows L2
/-! ### clauses with a name and without one -/
section
variable {X : Cx} {W : WX} {x n : Str} {cv : Value} {i : Nat} {b₀ : Stmt} {suite : List Stmt} {np p1 : Pos} {s : Addr → Value → Option Addr → TS} {w : Ends → WX} {hds : List ExceptHandler}
def wBare (K : PySem.W.Frag) (cv : Value) (s : Addr → Value → Option Addr → TS) (w : Ends → WX) (D : Ends) : WX := fun cls d σ H => ∃ b : Bool, PySem.W.exmOne K cls cv = some b ∧ match b with
  | true => ∀ a, H a = none → s a cls d D σ H
  | false => w D cls d σ H
theorem meets_bare (hs : X.stack = X.env :: X.outer) (hf : X.env.frame = some X.env.locals) (nm : Names X x cv)
    (su : ∀ (a : Addr) (ob : Obj) (cls : Value) (d : Option Addr) (pn : List (Addr × Obj)), Zc cls d ob → (∃ vs, ob.data = .fields vs) → PSs (X.suite a ((a, ob) :: pn)) (b₀ :: suite) (s a cls d))
    (r : Meets X hds w) : Meets X (.ExceptHandler (some (.Name x np)) none (b₀ :: suite) p1 :: hds) (wBare X.K cv s w) := fun pn σ H a cls d t D c hw => by
  obtain ⟨b, hb, hw⟩ := hw
  obtain ⟨ob, vs, o1, o2, o3, o4, o5⟩ := c.obj hs hf
  have J := c.inv
  have J1 := J.suite o1 o3 c.free o4 o5
  have lk : PySem.W.Looks (model X.prog X.w) t.heap (typeOf (.ref a)) cls := fun _ _ _ t' k q => wpAny_typeOf_ref (k _ _ o1) (by rw [o2.1]; exact q)
  have fits := PySem.W.exm_one (M := model X.prog X.w) J.kIn lk hb
  have named : ∀ {Q E : Value → Shared → Prop}, Q cv t → wpAny (model X.prog X.w) (X.A.mark (some (.ref a))) (eval (.Name x np) X.env) Q E t := fun {Q E} q =>
    match nm with
    | ⟨gl, db, .inl m⟩ => ld_glob (X := X.suite a ((a, ob) :: (X.pn ++ pn))) J1 gl m q db
    | ⟨gl, db, .inr ⟨m, bv, nn⟩⟩ => ld_blt (X := X.suite a ((a, ob) :: (X.pn ++ pn))) J1 gl m bv q nn db
  have nb : Value.ref a ≠ byPass := by intro z; cases z
  refine wpAny_handleBy_cons (codeAny_handlers_test ?_) nb
  apply named
  apply fits.here
  match b, hw with
  | false, hw => exact r pn σ H a cls d t D c hw
  | true, hw =>
    obtain ⟨G, bare, j, g, f, u, os⟩ := id c.fly
    apply codeAny_handlers_suite
    apply HandSPX.lands_againZ f
    intro h4 f4 u4
    have c4 : Came X pn σ H a cls d { t with heap := h4 } := .at_ j g f4 (u.trans u4) os c.free c.gens
    obtain ⟨ob4, vs4, q1, q2, q3, q4, q5⟩ := c4.obj hs hf
    refine wpAny_mono ((su a ob4 cls d (X.pn ++ pn) q2 ⟨_, q3⟩).run [] _ σ H D (c4.inv.suite q1 q3 c.free q4 q5) (hw a c.free)) (fun fl t6 z => ?_) fun _ _ z => z.elim
    cases fl with
    | ret u6 =>
      obtain ⟨v6, σ6, H6, J6, r6, y6⟩ := z
      exact ⟨v6, _, H6, J6.unsuite J.ok, r6, y6⟩
    | next => obtain ⟨σ6, H6, J6, y6⟩ := z; exact ⟨_, H6, J6.unsuite J.ok, y6⟩
    | brk => obtain ⟨σ6, H6, J6, y6⟩ := z; exact ⟨_, H6, J6.unsuite J.ok, y6⟩
    | cont => obtain ⟨σ6, H6, J6, y6⟩ := z; exact ⟨_, H6, J6.unsuite J.ok, y6⟩
end
/-! ### over data -/
abbrev Clb := (Nat → Option Bool) × Option Nat × (Ex → En → So)
def noExc : So → So
  | .exc _ _ => .bad
  | o => o
def hdsG : List Clb → Ex → En → So
  | [], x, ρ => .exc x ρ
  | (q, some i, s) :: r, x, ρ => match q x.c with
    | some true => (match ρ[i]? with
      | some (some (.own _ _)) => .bad
      | none => .bad
      | some _ => afterE i (s x (ρ.set i none)))
    | some false => hdsG r x ρ
    | none => .bad
  | (q, none, s) :: r, x, ρ => match q x.c with
    | some true => noExc (s x ρ)
    | some false => hdsG r x ρ
    | none => .bad
def sTryM (b : En → So) (l : List Clb) : En → So := fun ρ => match b ρ with
  | .exc x ρ1 => hdsG l x ρ1
  | o => o
section
variable {X : Cx} {T : Tx} {π : Nat → Option Pin} {W : WX}
inductive ClbOk (X : Cx) (T : Tx) (π : Nat → Option Pin) (W : WX) : List ExceptHandler → List Clb → (Ends → WX) → Prop
  | nil : ClbOk X T π W [] [] (fun _ => W)
  | cons {x n : Str} {cv : Value} {q : Nat → Option Bool} {i : Nat} {b₀ : Stmt} {suite : List Stmt} {np p1 : Pos} {sx : Ex → En → So} {hds : List ExceptHandler} {l : List Clb} {w : Ends → WX} (hN : X.N.Nodup) (hi : X.N[i]? = some n) (hln : X.env.kindOf n = some .local) (hc : Names X x cv)
      (hq : ∀ c b, q c = some b → ∃ C ns, T.cl c = some (C, ns) ∧ PySem.W.exmOne T.K (.ref C) cv = some b)
      (hsu : ∀ (a : Addr) (oe : Obj) (cls : Value) (d : Option Addr) (pn : List (Addr × Obj)), Zc cls d oe → (∃ vs, oe.data = .fields vs) → PSs (X.suite a ((a, oe) :: pn)) (b₀ :: suite) (TMx T π i a cls d sx))
      (r : ClbOk X T π W hds l w) : ClbOk X T π W (.ExceptHandler (some (.Name x np)) (some n) (b₀ :: suite) p1 :: hds) ((q, some i, sx) :: l) (wCl X.K cv i (fun a cls d => TMx T π i a cls d sx) w)
  | bare {x : Str} {cv : Value} {q : Nat → Option Bool} {b₀ : Stmt} {suite : List Stmt} {np p1 : Pos} {s : En → So} {hds : List ExceptHandler} {l : List Clb} {w : Ends → WX} (hc : Names X x cv)
      (hq : ∀ c b, q c = some b → ∃ C ns, T.cl c = some (C, ns) ∧ PySem.W.exmOne T.K (.ref C) cv = some b)
      (hsu : ∀ (a : Addr) (oe : Obj) (cls : Value) (d : Option Addr) (pn : List (Addr × Obj)), Zc cls d oe → (∃ vs, oe.data = .fields vs) → PSs (X.suite a ((a, oe) :: pn)) (b₀ :: suite) (TMs T π WN s))
      (r : ClbOk X T π W hds l w) : ClbOk X T π W (.ExceptHandler (some (.Name x np)) none (b₀ :: suite) p1 :: hds) ((q, none, fun _ => s) :: l) (wBare X.K cv (fun _ _ _ => TMs T π WN s) w)
theorem ClbOk.meets (hs : X.stack = X.env :: X.outer) (hf : X.env.frame = some X.env.locals) (tk : Takes X W) {hds : List ExceptHandler} {l : List Clb} {w : Ends → WX} (h : ClbOk X T π W hds l w) : Meets X hds w := by
  induction h with
  | nil => exact meets_none hs hf tk
  | cons hN hi hln hc _ hsu _ ih => exact meets_cons hs hf hN hi hln hc hsu ih
  | bare hc _ hsu _ ih => exact meets_bare hs hf hc hsu ih
theorem nox_out {A : Addr → Prop} {F0 H0 : Hp} {D : Ends} {W : WX} {o : So} (p : PostS T π W A F0 H0 D (noExc o)) : PostS T π WN A F0 H0 D o := by
  cases o with
  | exc x ρ => exact p.elim
  | _ => exact p
theorem ClbOk.wish (hK : X.K = T.K) {hds : List ExceptHandler} {l : List Clb} {w : Ends → WX} (h : ClbOk X T π W hds l w) {A : Addr → Prop} {F0 H0 F H : Hp} {σ : L2.St} {ρ : En} {x : Ex} {cls : Value} {d : Option Addr} {D : Ends}
    (k : StOk T π A F0 H0 F H σ ρ) (r : RepX T F H cls d x) (p : PostS T π W A F0 H0 D (hdsG l x ρ)) : w D cls d σ H := by
  induction h with
  | nil => exact p σ F H cls d k r
  | @cons xx n cv q i b₀ suite np p1 sx hds l w hN hi hln hc hq hsu _ ih =>
    unfold hdsG at p
    cases e : q x.c with
    | none => rw [e] at p; exact p.elim
    | some b =>
      rw [e] at p
      obtain ⟨C, ns, h1, h2⟩ := hq _ _ e
      have hcls : cls = .ref C := by
        obtain ⟨C', _, _, _, z1, z2, _⟩ := r
        rw [h1] at z1; cases z1; exact z2
      refine ⟨b, by rw [hcls, hK]; exact h2, ?_⟩
      cases b with
      | false => exact ih p
      | true =>
        intro a na
        have p2 : i < ρ.length ∧ PostS T π W A F0 H0 D (afterE i (sx x (ρ.set i none))) := by
          dsimp only at p
          split at p
          · exact p.elim
          · exact p.elim
          · rename_i _ hs
            exact ⟨(List.getElem?_eq_some_iff.mp hs).1, p⟩
        exact ⟨A, F0, H0, F, ρ.set i none, x, ⟨k.ok.forget _, k.fr⟩, List.getElem?_set_self (by rw [k.ok.len]; exact p2.1), r, after_out p2.2⟩
  | @bare xx cv q b₀ suite np p1 s hds l w hc hq hsu _ ih =>
    unfold hdsG at p
    cases e : q x.c with
    | none => rw [e] at p; exact p.elim
    | some b =>
      rw [e] at p
      obtain ⟨C, ns, h1, h2⟩ := hq _ _ e
      have hcls : cls = .ref C := by
        obtain ⟨C', _, _, _, z1, z2, _⟩ := r
        rw [h1] at z1; cases z1; exact z2
      refine ⟨b, by rw [hcls, hK]; exact h2, ?_⟩
      cases b with
      | false => exact ih p
      | true =>
        intro a na
        exact ⟨A, F0, H0, F, ρ, k, nox_out p⟩
theorem ds_tryM {body : List Stmt} {h₀ : ExceptHandler} {hds : List ExceptHandler} {pos : Pos} {bm : En → So} {l : List Clb} {w : Ends → WX} (hK : X.K = T.K) (hs : X.stack = X.env :: X.outer) (hf : X.env.frame = some X.env.locals) (tk : Takes X W)
    (hb : ∀ (V : WX) (pn : List (Addr × Obj)) (xe : Value → Shared → Prop), Takes (X.tr pn xe) V → PassesOwn (model X.prog X.w) X.A X.env xe → PSs (X.tr pn xe) body (TMs T π V bm))
    (h : ClbOk X T π W (h₀ :: hds) l w) : PS X (.Try body (h₀ :: hds) [] [] pos) (TMs T π W (sTryM bm l)) :=
  (ps_meets hs hf hb (h.meets hs hf tk)).imp fun D σ H ⟨A, F0, H0, F, ρ, k, p⟩ => ⟨A, F0, H0, F, ρ, k, by
    unfold sTryM at p
    cases e : bm ρ with
    | exc x ρ1 =>
      rw [e] at p
      exact fun σ' F' H' cls d k1 r => h.wish hK k1 r p
    | _ => rw [e] at p; exact p⟩
end
/-! ### in a suite: a + b, where b speaks of the error; f(b) -/
section
variable {X : Cx} {T : Tx} {π : Nat → Option Pin} {e ea eb : Expr} {pos : Pos} {i : Nat} {a : Addr} {cls : Value} {d : Option Addr} {m : Mi Dt} {k : Ex → Mi Dt}
theorem te_bin {op : Operator} {r : R2} {f : Dt → Dt → Option Dt} (ho : OpR X (binaryOp op) r) (hs : OpS T r f) (ha : PE X ea (TMe T π WN m)) (hb : PE X eb (TEe T π i a cls d k)) : PE X (.BinOp ea op eb pos) (TEe T π i a cls d fun x => m2 f m (k x)) :=
  (pe_op ho ha hb).imp fun σ H Q ⟨A, F, ρ, x, k, g, p⟩ => ⟨A, F, ρ, k, p.bind.imp fun y ρ1 F1 H1 k1 r1 p1 v rv => ⟨A, F1, ρ1, x, k1, g.go r1, p1.bind.imp fun z ρ2 F2 H2 k2 r2 p2 w rw => by
    obtain ⟨u, eu, p3⟩ := p2.opt
    exact hs π A F2 H2 σ ρ2 v w y z u Q k2 (rv.mono r2.f).s rw.s eu fun F' H' u k' r' ru => p3 F' H' k' r' u ru⟩⟩
theorem te_call1 {r : List V → Hp → VK → Prop} {f : Dt → Option Dt} (h : PE X e (tCB r (tCons (TEe T π i a cls d k) tNil))) (hs : CaS T r f) : PE X e (TEe T π i a cls d fun x => m1 f (k x)) := h.imp fun σ H Q ⟨A, F, ρ, x, k, g, p⟩ => ⟨A, F, ρ, x, k, g, p.bind.imp fun y ρ1 F1 H1 k1 r1 p1 v rv => by
  obtain ⟨z, ez, p3⟩ := p1.opt
  exact hs π A F1 H1 σ ρ1 v y z Q k1 rv.s ez fun F' H' u k' r' ru => p3 F' H' k' r' u ru⟩
end
end Dl
namespace Dl
open PySem PySem.Spec PyProof.Rows L2
/-! ### defs in which repr() is called, that change what is handed in first: of a slot, or new -/
section
variable {X : Cx} {T : Tx} {π : Nat → Option Pin} {W : WX} {o e : Expr} {es : List Expr} {pos p : Pos} {ms : Mi (List Dt)} {mo me : Mi Dt} {k n i : Nat} {f : Addr} {fd : FuncData} {ps : List Str} {x : Str} {fm : List Dt → Fo}
theorem de_callIoG {v : Str} {pv_ : Pos} (hq : X.A.guards = some []) (G : FnG X.prog X.w X.K X.mg X.base (L2.CX X.prog X.w) k f fd ps (spM T n true false fm)) (hr : Room k X.A) (hg : Gl X x) (hm : X.mg x = some (.ref f)) (hk : PySem.W.keepIn X.K (.ref f) = true) (hb : Binds X.K fd ps []) (tk : Takes X W) (hv : PE X (.Name v pv_) (tVar i)) (ha : PA X es (TMa T π W ms))
    (hdb : (x == ("__debug__" : Str)) = false := by decide) (he : starEach (.Name v pv_ :: es) X.env = (false, eval (.Name v pv_) X.env) :: starEach es X.env := by rfl) (hpl : (backTo pos (starEach es X.env)).any (·.1) = false := by rfl) :
    PE X (.Call (.Name x p) (.Name v pv_ :: es) [] pos) (TMe T π W (mCallIo n fm i ms)) := (pe_callSG (ES := WE W) G hr hq hg hm hk hb (fun σ => passAt tk σ) (pa_cons hv ha he) hdb he hpl).imp fun σ H Q ⟨A, F, ρ, k, p⟩ => by
  unfold mCallIo at p
  split at p
  · rename_i io d e
    obtain ⟨a, h1, h2⟩ := k.own i io d e
    refine ⟨.ref a, h1, A, F, ρ, k, p.bind.imp fun ds ρ1 F1 H1 k1 r1 p1 vs rvs => ?_⟩
    exact sp_callIo k1 h1 rvs p1 fun d ρ' F' H' v _ rv q => q v rv
  · exact p.elim
def mCallTmp (f : List Dt → Fo) (mo me : Mi Dt) : Mi Dt := fun ρ => match mo ρ with
  | .ok (.ins c dv) ρ1 => (match me ρ1 with
    | .ok y ρ2 => (match f [.ins c dv, y] with
      | .ret z _ => .ok z ρ2
      | _ => .bad)
    | .exc x ρ2 => .exc x ρ2
    | .bad => .bad)
  | .exc x ρ1 => .exc x ρ1
  | _ => .bad
theorem de_callTmpG (hq : X.A.guards = some []) (G : FnG X.prog X.w X.K X.mg X.base (L2.CX X.prog X.w) k f fd ps (spM T 2 true false fm)) (hr : Room k X.A) (hg : Gl X x) (hm : X.mg x = some (.ref f)) (hk : PySem.W.keepIn X.K (.ref f) = true) (hb : Binds X.K fd ps []) (tk : Takes X W) (ho : PE X o (TMn T π W mo)) (he : PE X e (TMe T π W me))
    (hdb : (x == ("__debug__" : Str)) = false := by decide) (hs1 : starEach [o, e] X.env = (false, eval o X.env) :: starEach [e] X.env := by rfl) (hs2 : starEach [e] X.env = (false, eval e X.env) :: starEach [] X.env := by rfl) (hpl : (backTo pos (starEach [e] X.env)).any (·.1) = false := by rfl) :
    PE X (.Call (.Name x p) [o, e] [] pos) (TMe T π W (mCallTmp fm mo me)) := (pe_callSG (ES := WE W) G hr hq hg hm hk hb (fun σ => passAt tk σ) (pa_cons ho (pa_cons he pa_nil hs2) hs1) hdb hs1 hpl).imp fun σ H Q ⟨A, F, ρ, k, p0⟩ => by
  refine ⟨IsOwn H σ ρ, F, ρ, k.tight, ?_⟩
  have p := p0.weak (A' := IsOwn H σ ρ) fun b z => k.ownA z
  unfold mCallTmp at p
  cases e0 : mo ρ with
  | bad => rw [e0] at p; exact p.elim
  | exc x ρ1 => rw [e0] at p; exact p
  | ok od ρ1 =>
    rw [e0] at p
    intro F1 H1 k1 r1 a hFa hno hHa own hin
    have na : ¬ IsOwn H σ ρ a := fun w => k.fresh_own hHa w
    refine ⟨IsOwn H σ ρ, F1, ρ1, k1, ?_⟩
    cases od with
    | ins c dv =>
      dsimp only at p
      obtain ⟨C', dx, ns', ws, q1, q2, q3, q4⟩ := id own
      cases e1 : me ρ1 with
      | bad => rw [e1] at p; exact p.elim
      | exc x ρ2 =>
        rw [e1] at p
        exact fun F2 H2 cls d k2 r2 => p F2 H2 cls d k2 (r1.trans r2)
      | ok y ρ2 =>
        rw [e1] at p
        dsimp only at p
        intro F2 H2 k2 r2 u ru
        split at p
        · rename_i z oo hf
          have hH2 := r2.h a _ na q2
          have hF2 : F2 a = none := (r2.n a _ na q2 (fun t z => by cases z)).trans hFa
          have own2 : OwnAt T F2 H2 a (.ins c dv) := ⟨C', dx, ns', ws, q1, hH2, q3, q4.mono r2.f⟩
          show spM T 2 true false fm [V.ref a, u] H2 Q (WE W σ)
          refine ⟨F2, [.ins c dv, y], some (a, []), rfl, k2.le, ⟨a, [u], _, [y], rfl, rfl, hF2, own2, .cons ru .nil, rfl, fun x hx => nomatch hx⟩, ?_⟩
          rw [hf]
          intro F' H' v le fr io' rv
          have np : ∀ {b : Addr} {u : HO}, H b = some u → ¬ pinA (some (a, [])) b := fun hb ⟨q, hq, hz⟩ => by
            cases hq
            rcases hz with hz | hz
            · rw [hz, hHa] at hb; cases hb
            · cases hz
          have np2 : ∀ {b : Addr}, IsOwn H2 σ ρ2 b → ¬ pinA (some (a, [])) b := fun w ⟨q, hq, hz⟩ => by
            cases hq
            rcases hz with hz | hz
            · rw [hz] at w; exact na (k2.ownA w)
            · cases hz
          have k' : Ok T π (IsOwn H σ ρ) F' H' σ ρ2 := k2.grow fr.f le (fun b w => by
            obtain ⟨_, h2, o', h3, h4⟩ := k2.ownT w
            rw [fr.n b o' (np2 w) h3 h4]; exact h2) (fun b u w e => fr.h b u (np2 w) e)
          exact p F' H' k' ⟨le_trans r1.f (le_trans r2.f fr.f), fun b u nb e => fr.h b u (np e) (r2.h b u nb (r1.h b u nb e)), fun b u nb e t => ((fr.n b u (np e) (r2.h b u nb (r1.h b u nb e)) t).trans (r2.n b u nb (r1.h b u nb e) t)).trans (r1.n b u nb e t), fun b e => r1.t b (r2.t b (fr.t b e))⟩ v rv
        · exact p.elim
    | _ => exact p.elim
end
/-! ### isinstance(x, T), where x may be an object of one own class -/
def fIsiK (c0 : Nat) (n : Ty5) : Dt → Option Dt
  | .ins c _ => if c = c0 then some (.bl false) else none
  | d => fIsi n d
section
variable {X : Cx} {T : Tx} {π : Nat → Option Pin} {W : WX} {e : Expr} {m : Mi Dt}
theorem de_isiK {c0 : Nat} (hA : ∀ C ns, T.cl c0 = some (C, ns) → IcB T.K C) (hK : X.K = T.K) (n : Ty5) (h : PE X e (tCB (rIsi X.K) (tCons (TMp T π W m) (tCons (tC (.ty n.nm)) tNil)))) : PE X e (TMe T π W (m1 (fIsiK c0 n) m)) := h.imp fun σ H Q ⟨A, F, ρ, k, p⟩ => ⟨A, F, ρ, k, p.bind.imp fun d ρ1 F1 H1 k1 r1 p1 v rv => by
  obtain ⟨z, ez, p2⟩ := p1.opt
  cases d with
  | ins c vs =>
    unfold fIsiK at ez
    dsimp only at ez
    by_cases hc : c = c0
    · subst hc
      rw [if_pos rfl] at ez
      cases ez
      obtain ⟨a, C1, dx, ns1, us, e1, q1, q2, _⟩ := rv.ins_inv k1.le
      subst e1
      have B := hA _ _ q1
      exact ⟨.ref a, .ty n.nm, .ref C1, .type n.nm, false, rfl, .ty _, by rw [hK]; exact InsC_ty B.ic q2, by rw [hK]; exact B.kit n, p2.pure k1 _ (.bl _)⟩
    · rw [if_neg hc] at ez; cases ez
  | _ =>
    unfold fIsiK fIsi at ez
    dsimp only at ez
    obtain ⟨b, hb, e2⟩ := Option.map_eq_some_iff.mp ez
    subst e2
    obtain ⟨t, ht⟩ := isD_ty hb
    exact ⟨v, .ty n.nm, .type t, .type n.nm, b, rfl, .ty _, by rw [hK]; exact rv.tyX k1.le ht, kit_ty (isD_kit n _ t b ht hb), p2.pure k1 _ (.bl _)⟩⟩
/-- repr() in a suite -/
theorem room_un {k : Nat} {A : Around} (hr : Room k A) : A.units + 200 < cLine := by have := hr.un; omega
theorem cr_reprS (hg : X.A.guards = some []) (hu : X.A.units + 200 < cLine) : CallR X (.builtin "repr") (rReprP X.K) := by
  intro pins s σ H xs us Q I r h
  obtain ⟨x, p, rfl, hd, hp, q⟩ := h
  obtain ⟨u, rfl, rx⟩ := vals1 r
  unfold shOk at hp
  simp only [Bool.and_eq_true, Bool.not_eq_true', decide_eq_true_eq] at hp
  obtain ⟨h1, h2, h3, h4⟩ := hp
  obtain ⟨as, hR⟩ := Dp.reads I p x u hd rx
  cases hR with
  | none => exact PySem.P.repr_of_none ⟨.str _, H, I.tok _, ⟨_, rfl⟩, by simp only [PyData.shown] at q; exact q⟩
  | bool b => exact PySem.P.repr_of_bool ⟨.str _, H, I.tok _, ⟨_, rfl⟩, by simp only [PyData.shown] at q; exact q⟩
  | int i t => exact SkE.call_repr_int (X := X) pins s σ H [.int i] _ Q I (.cons ⟨t, rfl⟩ .nil) ⟨i, rfl, by simpa [PyData.showable] using h1, by simp only [PyData.shown] at q; exact q⟩
  | str y t => exact PySem.P.repr_of_str ⟨.str _, H, I.tok _, ⟨_, rfl⟩, by simp only [PyData.shown] at q; exact q⟩ (by simpa only [PyData.shown] using h4)
  | list a1 a2 a3 a4 => exact repr_of_reads' (.list a1 a2 a3 a4) h1 (PyData.noDict_hsm h2) hg (by omega) (fun _ _ e => e) (fun h' u tk hk => ⟨.str _, H, I.kept hk, ⟨_, rfl⟩, q⟩) h4
  | tuple a1 a2 a3 a4 => exact repr_of_reads' (.tuple a1 a2 a3 a4) h1 (PyData.noDict_hsm h2) hg (by omega) (fun _ _ e => e) (fun h' u tk hk => ⟨.str _, H, I.kept hk, ⟨_, rfl⟩, q⟩) h4
  | dict a1 a2 a3 a4 a5 => exact absurd h2 (by simp [PyData.hasDict])
end
end Dl
namespace Dl
open PySem PySem.Spec PyProof.Rows L2
/-! ### the mirrors -/
def b_Desk_keep_k73 : En → So :=
  (sSeq (sFput 0 ix_past (mTup (mStar (m1 (fAttr ix_past) (mPeek 0)) (mCons (m1 (fAttr ix_live) (mPeek 0)) (mPure [])))))
  (sFput 0 ix_live (mVar 1)))
def m_Desk_keep_k73 : List Dt → Fo := runF 2 true false b_Desk_keep_k73
def b_Desk_undo_k73 : En → So :=
  (sSeq (sIf (mB (m2 fEq (m1 fLen (m1 (fAttr ix_past) (mPeek 0))) (mPure (.int 0)))) (sRet (mPure (.bl false))) (fun ρ => .nx ρ))
  (sSeq (sFput 0 ix_live (m2 fIx (m1 (fAttr ix_past) (mPeek 0)) (m1 fNeg (mPure (.int 1)))))
  (sSeq (sFput 0 ix_past (mSl (m1 (fAttr ix_past) (mPeek 0)) (mPure none) (mPart (m1 fNeg (mPure (.int 1))))))
  (sRet (mPure (.bl true))))))
def m_Desk_undo_k73 : List Dt → Fo := runF 1 true false b_Desk_undo_k73
def b_Desk_len : En → So :=
  (sRet (m1 fLen (m1 (fAttr ix_past) (mPeek 0))))
def m_Desk_len : List Dt → Fo := runF 1 true false b_Desk_len
def b_words_of : En → So :=
  (sSeq (sIf (mOr (mNot (mB (m1 (fIsiK 7 .str) (mPeek 0)))) (mB (m2 fInSg (mPure (.str "\n")) (mPeek 0)))) (sRaise0 25) (fun ρ => .nx ρ))
  (sSeq (sSet 1 (mSplit (mVar 0) (mPure (.str " "))))
  (sSeq (sIf (mB (m2 fInA (mPure (.str "")) (mPeek 1))) (sRaise0 25) (fun ρ => .nx ρ))
  (sRet (mVar 1)))))
def m_words_of : List Dt → Fo := runF 2 false false b_words_of
def b_numbers_of : En → So :=
  (sSeq (sSet 1 (mCall 2 m_numbers_in_v2 (mCons (hasSl 0 (mSlV 0 (mPart (mPure (.int 1))) (mPure none))) (mCons (mPure (.int 2)) (mPure [])))))
  (sSeq (sIf (mOr (mB (m1 (fKIn true [("sides", 0), ("least", 0), ("count", 0), ("undo", 0), ("season", 2), ("gap", 2), ("look", 3)]) (hasSl 0 (mIxV 0 (mPure (.int 0)))))) (mOr (mB (m2 fIsN (mVar 1) (mPure .non))) (mB (m2 fNe (m1 fLen (mPeek 1)) (m1 (fKIx [("sides", 0), ("least", 0), ("count", 0), ("undo", 0), ("season", 2), ("gap", 2), ("look", 3)]) (hasSl 0 (mIxV 0 (mPure (.int 0))))))))) (sRaise0 25) (fun ρ => .nx ρ))
  (sRet (mVar 1))))
def m_numbers_of : List Dt → Fo := runF 2 false false b_numbers_of
def b_need_wheel_k73 : En → So :=
  (sIf (mNot (mB (mCall 2 m_is_below (mCons (mVar 1) (mCons (m1 (fAttr ix_places) (mPeek 0)) (mPure [])))))) (sRaise 26 (mVar 1)) (fun ρ => .nx ρ))
def m_need_wheel_k73 : List Dt → Fo := runF 2 false false b_need_wheel_k73
def b_round_days_k73 : En → So :=
  (sSeq (sDrop (mCall 2 m_need_wheel_k73 (mCons (mVar 0) (mCons (mVar 1) (mPure [])))))
  (sRet (m1 fLen (mCall 2 m_way (mCons (mVar 0) (mCons (mVar 1) (mPure [])))))))
def m_round_days_k73 : List Dt → Fo := runF 2 false false b_round_days_k73
def b_every_due_k73 : En → So :=
  (sSeq (sPars [2, 3] [true, false] (mCons (mLst (mPure [])) (mCons (mLc (mRng1 (mCons (m1 (fAttr ix_places) (mPeek 0)) (mPure []))) (gV 5) (mPure true) (mTup (mCons (mCall 2 m_due_in_round (mCons (mVar 0) (mCons (mVar 5) (mPure [])))) (mCons (mCall 2 m_round_days_k73 (mCons (mVar 0) (mCons (mVar 5) (mPure [])))) (mPure [])))) [5]) (mPure []))))
  (sSeq (sFor (mRng1 (mCons (mVar 1) (mPure []))) (gV 4) (sDrop (ownLst 2 (mExtend 2 (mLc (mEnumI (mVar 3)) (gT (gsC (gV 5) (gsC (gT (gsC (gV 6) (gsC (gV 7) gsN)) 2) gsN)) 2) (mB (m2 fInA (m2 fMod (mVar 4) (mPeek 7)) (mPeek 6))) (mTup (mCons (mVar 4) (mCons (mVar 5) (mPure [])))) [5, 6, 7])))))
  (sRet (m1 fTuple (mPeek 2)))))
def m_every_due_k73 : List Dt → Fo := runF 8 false false b_every_due_k73
def b_gap_k73 : En → So :=
  (sSeq (sDrop (mCall 2 m_need_wheel_k73 (mCons (mVar 0) (mCons (mVar 1) (mPure [])))))
  (sSeq (sPars [3, 4] [false, false] (mCons (mCall 2 m_due_in_round (mCons (mVar 0) (mCons (mVar 1) (mPure [])))) (mCons (mCall 2 m_round_days_k73 (mCons (mVar 0) (mCons (mVar 1) (mPure [])))) (mPure []))))
  (sSeq (sIf (mB (m2 fEq (m1 fLen (mPeek 3)) (mPure (.int 0)))) (sRet (mPure .non)) (fun ρ => .nx ρ))
  (sSeq (sPars [5, 6] [false, false] (mCons (m2 fDiv (m2 fAdd (mVar 2) (mPure (.int 1))) (m1 fLen (mPeek 3))) (mCons (m2 fMod (m2 fAdd (mVar 2) (mPure (.int 1))) (m1 fLen (mPeek 3))) (mPure []))))
  (sSeq (sSet 7 (mLst (mStar (mPeek 3) (mStar (mLc (mSeqI (mVar 3)) (gV 8) (mPure true) (m2 fAdd (mVar 8) (mPeek 4)) [8]) (mPure [])))))
  (sRet (m2 fAdd (m2 fMulI (mVar 5) (mPeek 4)) (m1 fMax (mLc (mRng1 (mCons (m1 fLen (mPeek 3)) (mPure []))) (gV 9) (mPure true) (m1 fInt (m2 fSub (hasSl 7 (mIxV 7 (m2 fAdd (mVar 9) (mPeek 6)))) (hasSl 7 (mIxV 7 (mVar 9))))) [9])))))))))
def m_gap_k73 : List Dt → Fo := runF 10 false false b_gap_k73
def b_Rota_init_k73 : En → So :=
  (sSeq (sIf (mNot (mB (mCall 2 m_is_from (mCons (mVar 1) (mCons (mPure (.int 1)) (mPure [])))))) (sRaise 20 (mPure (.str "places"))) (fun ρ => .nx ρ))
  (sSeq (sIf (mOr (mNot (mB (mCall 1 m_is_sequence (mCons (mVar 2) (mPure []))))) (mOr (mB (m2 fEq (m1 fLen (mPeek 2)) (mPure (.int 0)))) (mNot (mB (m1 fAll (mLc (mSeqI (mVar 2)) (gV 3) (mPure true) (mCall 2 m_is_row (mCons (mVar 3) (mCons (mVar 1) (mPure [])))) [3])))))) (sRaise 20 (mPure (.str "rows"))) (fun ρ => .nx ρ))
  (sSeq (sFput 0 ix_places (mVar 1))
  (sSeq (sFput 0 ix_rows (m1 fTuple (mLc (mSeqI (mVar 2)) (gT (gsC (gV 4) (gsC (gV 5) gsN)) 2) (mPure true) (mTup (mCons (m1 fTuple (m1N fSorted (mLc (mSeqI (mVar 4)) (gV 6) (mPure true) (m1 fInt (mPeek 6)) [6]))) (mCons (m1 fTuple (mPeek 5)) (mPure [])))) [4, 5])))
  (sFput 0 ix_text (mCall 2 m_text_of_rota (mCons (m1 (fAttr ix_places) (mPeek 0)) (mCons (m1 (fAttr ix_rows) (mPeek 0)) (mPure [])))))))))
def m_Rota_init_k73 : List Dt → Fo := runF 7 true false b_Rota_init_k73
def b_Season_init_k73 : En → So :=
  (sSeq (sIf (mNot (mB (mCall 2 m_is_from (mCons (mVar 2) (mCons (mPure (.int 1)) (mPure [])))))) (sRaise 22 (mPure (.str "days"))) (fun ρ => .nx ρ))
  (sSeq (sIf (mNot (mB (mCall 2 m_is_from (mCons (mVar 3) (mCons (mPure (.int 0)) (mPure [])))))) (sRaise 22 (mPure (.str "budget"))) (fun ρ => .nx ρ))
  (sSeq (sIf (mOr (mNot (mB (mCall 1 m_is_sequence (mCons (mVar 4) (mPure []))))) (mNot (mB (m1 fAll (mLc (mSeqI (mVar 4)) (gV 5) (mPure true) (mCall 3 m_is_look (mCons (mVar 5) (mCons (mVar 1) (mCons (mVar 2) (mPure []))))) [5]))))) (sRaise 22 (mPure (.str "looks"))) (fun ρ => .nx ρ))
  (sSeq (sFput 0 ix_rota (mVar 1))
  (sSeq (sFput 0 ix_days (mVar 2))
  (sSeq (sFput 0 ix_budget (mVar 3))
  (sSeq (sFput 0 ix_looks (m1 fTuple (mLc (mSeqI (mCall 2 m_every_look (mCons (mVar 1) (mCons (mVar 2) (mPure []))))) (gV 6) (mB (m2 fInA (mVar 6) (mPeek 4))) (mVar 6) [6])))
  (sSeq (sFput 0 ix_wheels (m1 (fAttr ix_places) (mPeek 1)))
  (sFput 0 ix_due (mCall 2 m_every_due_k73 (mCons (mVar 1) (mCons (mVar 2) (mPure [])))))))))))))
def m_Season_init_k73 : List Dt → Fo := runF 7 true false b_Season_init_k73
def b_Desk_told_k73 : En → So :=
  (sSeq (sSet 3 (m1 (fAttr ix_season) (m1 (fAttr ix_live) (mPeek 0))))
  (sSeq (sIf (mB (m2 fEq (mVar 1) (mPure (.str "undo")))) (sRet (mPure (.str "nothing"))) (fun ρ => .nx ρ))
  (sSeq (sIf (mB (m2 fEq (mVar 1) (mPure (.str "sides")))) (sSeq (sSet 4 (mJoin (mPure (.str " ")) (mLc (mSeqI (m1 (fAttr ix_sure) (m1 (fAttr ix_live) (mPeek 0)))) (gV 6) (mPure true) (mIfE (mB (m2 fIsN (mVar 6) (mPure .non))) (mPure (.str "?")) (m1 fStr (mPeek 6))) [6])))
  (sRet (mIfE (mB (m1 (fAttr ix_is_possible) (m1 (fAttr ix_live) (mPeek 0)))) (mVar 4) (mPure (.str "none"))))) (fun ρ => .nx ρ))
  (sSeq (sIf (mB (m2 fEq (mVar 1) (mPure (.str "count")))) (sRet (m1 fStr (mCall 1 m_count (mCons (mVar 3) (mPure []))))) (fun ρ => .nx ρ))
  (sSeq (sSet 5 (mIfE (mB (m2 fEq (mVar 1) (mPure (.str "least")))) (mCall 1 m_least (mCons (mVar 3) (mPure []))) (mCall 3 m_gap_k73 (mCons (m1 (fAttr ix_rota) (mPeek 3)) (mCons (hasSl 2 (mIxV 2 (mPure (.int 0)))) (mCons (hasSl 2 (mIxV 2 (mPure (.int 1)))) (mPure [])))))))
  (sRet (mIfE (mB (m2 fIsN (mVar 5) (mPure .non))) (mPure (.str "never")) (m1 fStr (mPeek 5)))))))))
def m_Desk_told_k73 : List Dt → Fo := runF 7 true false b_Desk_told_k73
def b_Rota_read_k73 : En → So :=
  (sSeq (sIf (mNot (mB (m1 (fIsi .str) (mPeek 1)))) (sRaise 21 (mPure (.int 0))) (fun ρ => .nx ρ))
  (sSeq (sSet 2 (mSplit (mVar 1) (mPure (.str "\n"))))
  (sSeq (sSet 3 (mCall 1 m_places_in (mCons (hasSl 2 (mIxV 2 (mPure (.int 0)))) (mPure []))))
  (sSeq (sIf (mB (m2 fIsN (mVar 3) (mPure .non))) (sRaise 21 (mPure (.int 0))) (fun ρ => .nx ρ))
  (sSeq (sSetN 4 (mLst (mPure [])))
  (sSeq (sFor (mEnumI (hasSl 2 (mSlV 2 (mPart (mPure (.int 1))) (mPure none)))) (gT (gsC (gV 5) (gsC (gV 6) gsN)) 2) (sSeq (sSet 7 (mCall 1 m_row_in (mCons (mVar 6) (mPure []))))
  (sSeq (sIf (mB (m2 fIsN (mVar 7) (mPure .non))) (sRaise 21 (m2 fAdd (mVar 5) (mPure (.int 1)))) (fun ρ => .nx ρ))
  (sDrop (ownLst 4 (mAppend 4 (mVar 7)))))))
  (sRet (mMakeL 0 0 3 m_Rota_init_k73 (mCons (mVar 3) (mCons (mVar 4) (mPure [])))))))))))
def m_Rota_read_k73 : List Dt → Fo := runF 8 false false b_Rota_read_k73
def b_Season_seen_k73 : En → So :=
  (sSeq (sIf (mNot (mB (mCall 1 m_is_sequence (mCons (mVar 1) (mPure []))))) (sRaise 22 (mPure (.str "looks"))) (fun ρ => .nx ρ))
  (sRet (mMake 1 5 m_Season_init_k73 (mCons (m1 (fAttr ix_rota) (mPeek 0)) (mCons (m1 (fAttr ix_days) (mPeek 0)) (mCons (m1 (fAttr ix_budget) (mPeek 0)) (mCons (mLst (mStar (m1 (fAttr ix_looks) (mPeek 0)) (mStar (mPeek 1) (mPure [])))) (mPure []))))))))
def m_Season_seen_k73 : List Dt → Fo := runF 2 false false b_Season_seen_k73
def b_can_show_k73 : En → So :=
  (sRet (mLc (mRng1 (mCons (mPure (.int 2)) (mPure []))) (gV 3) (mB (mCall 1 m_possible (mCons (mMeth 1 2 m_Season_seen_k73 (mVar 0) (mCons (mLst (mCons (mTup (mCons (mVar 2) (mCons (mVar 1) (mCons (mVar 3) (mPure []))))) (mPure []))) (mPure []))) (mPure [])))) (mVar 3) [3]))
def m_can_show_k73 : List Dt → Fo := runF 4 false false b_can_show_k73
def b_sure_sides_k73 : En → So :=
  (sSeq (sSet 2 (mLc (mRng1 (mCons (m1 (fAttr ix_wheels) (mPeek 0)) (mPure []))) (gV 3) (mPure true) (mCall 3 m_can_show_k73 (mCons (mVar 0) (mCons (mVar 3) (mCons (mVar 1) (mPure []))))) [3]))
  (sRet (m1 fTuple (mLc (mSeqI (mVar 2)) (gV 4) (mPure true) (mIfE (mB (m2 fEq (m1 fLen (mPeek 4)) (mPure (.int 1)))) (hasSl 4 (mIxV 4 (mPure (.int 0)))) (mPure .non)) [4]))))
def m_sure_sides_k73 : List Dt → Fo := runF 5 false false b_sure_sides_k73
def b_Live_show_k73 : En → So :=
  (sSeq (sFput 0 ix_season (mVar 1))
  (sSeq (sFput 0 ix_is_possible (mCall 1 m_possible (mCons (mVar 1) (mPure []))))
  (sSeq (sFput 0 ix_sure (m1 fTuple (mLc (mRng1 (mCons (m1 (fAttr ix_wheels) (mPeek 1)) (mPure []))) (gV 2) (mPure true) (mPure .non) [2])))
  (sIf (mB (m1 (fAttr ix_is_possible) (mPeek 0))) (sFput 0 ix_sure (mCall 2 m_sure_sides_k73 (mCons (mVar 1) (mCons (m1 (fAttr ix_days) (mPeek 1)) (mPure []))))) (fun ρ => .nx ρ)))))
def m_Live_show_k73 : List Dt → Fo := runF 3 true false b_Live_show_k73
def b_Live_init_k73 : En → So :=
  (sSeq (sFput 0 ix_past (mTup (mPure [])))
  (sDrop (mMethIo 5 2 m_Live_show_k73 0 (mCons (mVar 1) (mPure [])))))
def m_Live_init_k73 : List Dt → Fo := runF 2 true false b_Live_init_k73
def b_Live_go_on_k73 : En → So :=
  (sSeq (sFput 0 ix_past (mTup (mStar (m1 (fAttr ix_past) (mPeek 0)) (mCons (m1 (fAttr ix_season) (mPeek 0)) (mPure [])))))
  (sDrop (mMethIo 5 2 m_Live_show_k73 0 (mCons (mVar 1) (mPure [])))))
def m_Live_go_on_k73 : List Dt → Fo := runF 2 true false b_Live_go_on_k73
def b_Live_look_k73 : En → So :=
  (sSeq (sSet 4 (mTup (mCons (mVar 1) (mCons (mVar 2) (mCons (mVar 3) (mPure []))))))
  (sSeq (sIf (mNot (mB (mCall 3 m_is_look (mCons (mVar 4) (mCons (m1 (fAttr ix_rota) (m1 (fAttr ix_season) (mPeek 0))) (mCons (m1 (fAttr ix_days) (m1 (fAttr ix_season) (mPeek 0))) (mPure []))))))) (sRaise 30 (mVar 4)) (fun ρ => .nx ρ))
  (sSeq (sDrop (mMethIo 5 2 m_Live_go_on_k73 0 (mCons (mMeth 1 2 m_Season_seen_k73 (m1 (fAttr ix_season) (mPeek 0)) (mCons (mLst (mCons (mVar 4) (mPure []))) (mPure []))) (mPure []))))
  (sRet (m1 (fAttr ix_is_possible) (mPeek 0))))))
def m_Live_look_k73 : List Dt → Fo := runF 5 true false b_Live_look_k73
def b_first_live_k73 : En → So :=
  (sRet (mMake 5 2 m_Live_init_k73 (mCons (mMake 1 5 m_Season_init_k73 (mPlus (mCons (mVar 0) (mCons (mPure (.int 7)) (mCons (mPure (.int 0)) (mPure [])))) [.tup []])) (mPure []))))
def m_first_live_k73 : List Dt → Fo := runF 1 false false b_first_live_k73
def b_Desk_new_season_k73 : En → So :=
  (sSeq (sSet 2 (mMake 1 5 m_Season_init_k73 (mPlus (mCons (m1 (fAttr ix_rota) (m1 (fAttr ix_season) (m1 (fAttr ix_live) (mPeek 0)))) (mCons (hasSl 1 (mIxV 1 (mPure (.int 0)))) (mCons (hasSl 1 (mIxV 1 (mPure (.int 1)))) (mPure [])))) [.tup []])))
  (sSeq (sDrop (mMethIo 7 2 m_Desk_keep_k73 0 (mCons (mMake 5 2 m_Live_init_k73 (mCons (mVar 2) (mPure []))) (mPure []))))
  (sRet (m1 fStr (m1 fLen (m1 (fAttr ix_due) (mPeek 2)))))))
def m_Desk_new_season_k73 : List Dt → Fo := runF 3 true false b_Desk_new_season_k73
def b_Desk_new_look_k73 : En → So :=
  (sSeq (sSetN 2 (mMake 5 2 m_Live_init_k73 (mCons (m1 (fAttr ix_season) (m1 (fAttr ix_live) (mPeek 0))) (mPure []))))
  (sSeq (sSet 3 (mMethIo 5 4 m_Live_look_k73 2 (mCons (hasSl 1 (mIxV 1 (mPure (.int 0)))) (mCons (hasSl 1 (mIxV 1 (mPure (.int 1)))) (mCons (hasSl 1 (mIxV 1 (mPure (.int 2)))) (mPure []))))))
  (sSeq (sDrop (mMethIo 7 2 m_Desk_keep_k73 0 (mCons (mVar 2) (mPure []))))
  (sRet (mIfE (mB (mVar 3)) (mPure (.str "fits")) (mPure (.str "none")))))))
def m_Desk_new_look_k73 : List Dt → Fo := runF 4 true false b_Desk_new_look_k73
def b_Desk_init_k73 : En → So :=
  (sSeq (sFput 0 ix_live (mCall 1 m_first_live_k73 (mCons (mMake 0 3 m_Rota_init_k73 (mCons (mPure (.int 1)) (mCons (mLst (mCons (mTup (mCons (mTup (mCons (mPure (.int 0)) (mPure []))) (mCons (mTup (mCons (mPure (.int 0)) (mPure []))) (mPure [])))) (mPure []))) (mPure [])))) (mPure []))))
  (sFput 0 ix_past (mTup (mPure []))))
def m_Desk_init_k73 : List Dt → Fo := runF 1 true false b_Desk_init_k73
def b_Desk_begin_k73 : En → So :=
  (sSeq (sDrop (mMethIo 7 2 m_Desk_keep_k73 0 (mCons (mCall 1 m_first_live_k73 (mCons (mVar 1) (mPure []))) (mPure []))))
  (sRet (m1 fStr (m1 (fOwn1 0 m_Rota_len okLen) (mVar 1)))))
def m_Desk_begin_k73 : List Dt → Fo := runF 2 true false b_Desk_begin_k73
def b_Desk_say : En → So :=
  (sSeq (sSet 2 (mCall 1 m_words_of (mCons (mVar 1) (mPure []))))
  (sSeq (sIf (mAnd (mB (m2 fEq (hasSl 2 (mIxV 2 (mPure (.int 0)))) (mPure (.str "rota")))) (mB (m2 fGt (m1 fLen (mPeek 2)) (mPure (.int 1))))) (sRet (mMethIo 7 2 m_Desk_begin_k73 0 (mCons (mCM 0 2 m_Rota_read_k73 (mCons (m1 (fRepl " ; " "\n") (mSl (mVar 1) (mPart (m1 fLen (mPure (.str "rota ")))) (mPure none))) (mPure []))) (mPure [])))) (fun ρ => .nx ρ))
  (sSeq (sSet 3 (mCall 1 m_numbers_of (mCons (mVar 2) (mPure []))))
  (sSeq (sIf (mB (m2 fEq (hasSl 2 (mIxV 2 (mPure (.int 0)))) (mPure (.str "season")))) (sRet (mMethIo 7 2 m_Desk_new_season_k73 0 (mCons (mVar 3) (mPure [])))) (fun ρ => .nx ρ))
  (sSeq (sIf (mB (m2 fEq (hasSl 2 (mIxV 2 (mPure (.int 0)))) (mPure (.str "look")))) (sRet (mMethIo 7 2 m_Desk_new_look_k73 0 (mCons (mVar 3) (mPure [])))) (fun ρ => .nx ρ))
  (sSeq (sIf (mAnd (mB (m2 fEq (hasSl 2 (mIxV 2 (mPure (.int 0)))) (mPure (.str "undo")))) (mB (mMethIo 7 1 m_Desk_undo_k73 0 (mPure [])))) (sRet (mPure (.str "undone"))) (fun ρ => .nx ρ))
  (sRet (mMethIo 7 3 m_Desk_told_k73 0 (mCons (hasSl 2 (mIxV 2 (mPure (.int 0)))) (mCons (mVar 3) (mPure [])))))))))))
def m_Desk_say : List Dt → Fo := runF 4 true false b_Desk_say
def b_law_heard : En → So :=
  (sSeq (sSet 2 (mPure (.str "let")))
  (sSeq (sTryM (sDrop (mMethIo 7 2 m_Desk_say 0 (mCons (mVar 1) (mPure [])))) [(qTab [(25, true), (21, false), (20, false), (22, false), (26, false), (30, false)], none, fun _ => (sSet 2 (mPure (.str "command")))), (qTab [(25, false), (21, true), (20, false), (22, false), (26, false), (30, false)], some 3, fun x => (sSet 2 (m2 fAdd (mPure (.str "text ")) (m1 fStr (mXf 21 x))))), (qTab [(25, false), (21, false), (20, true), (22, false), (26, false), (30, false)], some 3, fun x => (sSet 2 (m2 fAdd (mPure (.str "rota ")) (mXf 20 x)))), (qTab [(25, false), (21, false), (20, false), (22, true), (26, false), (30, false)], some 3, fun x => (sSet 2 (m2 fAdd (mPure (.str "season ")) (mXf 22 x)))), (qTab [(25, false), (21, false), (20, false), (22, false), (26, true), (30, false)], some 3, fun x => (sSet 2 (m2 fAdd (mPure (.str "wheel ")) (m1 fStr (mXf 26 x))))), (qTab [(25, false), (21, false), (20, false), (22, false), (26, false), (30, true)], some 3, fun x => (sSet 2 (m2 fAdd (mPure (.str "refused ")) (m1 fReprD (mXf 30 x)))))])
  (sRet (mVar 2))))
def m_law_heard : List Dt → Fo := runF 4 true false b_law_heard
def lp_law_0 : En → So :=
  (sSeq (sSet 8 (mOwn1Io 7 m_Desk_len okLen 6))
  (sSeq (sIf (mOr (mB (m2 fNe (mCallIo 2 m_law_heard 6 (mCons (mCallIo 2 m_law_pick 5 (mCons (mVar 2) (mPure []))) (mPure []))) (mPure (.str "command")))) (mB (m2 fNe (mOwn1Io 7 m_Desk_len okLen 6) (mPeek 8)))) (sRet (mPure (.bl false))) (fun ρ => .nx ρ))
  (sSeq (sAsg (mCallIo 2 m_law_pick 5 (mCons (mVar 3) (mPure []))) (gT (gsC (gV 9) (gsC (gV 10) gsN)) 2))
  (sSeq (sIf (mOr (mB (m2 fNe (mCallIo 2 m_law_heard 6 (mCons (mVar 9) (mPure []))) (mPeek 10))) (mB (m2 fNe (mOwn1Io 7 m_Desk_len okLen 6) (mPeek 8)))) (sRet (mPure (.bl false))) (fun ρ => .nx ρ))
  (sSeq (sSet 11 (mCallIo 1 m_law_value 5 (mPure [])))
  (sIf (mAnd (mNot (mB (m1 (fIsi .str) (mPeek 11)))) (mB (m2 fNe (mCallIo 2 m_law_heard 6 (mCons (mVar 11) (mPure []))) (mPure (.str "command"))))) (sRet (mPure (.bl false))) (fun ρ => .nx ρ)))))))
def lp_law_1 : En → So :=
  (sIf (mB (m2 fNe (mCallIo 2 m_law_heard 6 (mCons (mVar 9) (mPure []))) (mPure (.str "let")))) (sRet (mPure (.bl false))) (fun ρ => .nx ρ))
def lp_law_2 : En → So :=
  (sSeq (sSetN 5 (mCall 3 m_law_box (mCons (mVar 0) (mCons (mVar 4) (mCons (mPure (.int 73)) (mPure []))))))
  (sSeq (sSetN 6 (mMake 7 1 m_Desk_init_k73 (mPure [])))
  (sSeq (sDrop (mMethIo 7 2 m_Desk_say 6 (mCons (mPure (.str "rota places 2 ; turn 0 move 1 0")) (mPure []))))
  (sSeq (sFor (mRng1 (mCons (mPure (.int 12)) (mPure []))) (gV 7) lp_law_0)
  (sFor (mSeqI (mVar 1)) (gV 9) lp_law_1)))))
def st_law_0 : En → So :=
  (sSetN 1 (mLst (mCons (mPure (.str "sides")) (mCons (mPure (.str "least")) (mCons (mPure (.str "count")) (mCons (mPure (.str "gap 0 5")) (mCons (mPure (.str "look 0 1 0")) (mCons (mPure (.str "season 9 3")) (mCons (mPure (.str "undo")) (mPure []))))))))))
def st_law_1 : En → So :=
  (sDrop (ownLst 1 (mAppend 1 (mPure (.str "rota places 1 ; turn 0 move 0")))))
def st_law_2 : En → So :=
  (sSet 2 (mLst (mCons (mPure (.str "")) (mCons (mPure (.str "side")) (mCons (mPure (.str "sides 1")) (mCons (mPure (.str "least ")) (mCons (mPure (.str " count")) (mCons (mPure (.str "gap 0")) (mCons (mPure (.str "gap 0 5 1")) (mCons (mPure (.str "gap a 1")) (mCons (mPure (.str "look 0 1")) (mPure []))))))))))))
def st_law_3 : En → So :=
  (sSet 2 (m2 fAdd (mVar 2) (mLst (mCons (mPure (.str "look 0 1 0 0")) (mCons (mPure (.str "rota")) (mCons (mPure (.str "season 07 1")) (mCons (mPure (.str "season 5")) (mCons (mPure (.str "undo 1")) (mCons (mPure (.str "Rota places 1")) (mPure []))))))))))
def st_law_4 : En → So :=
  (sSet 2 (m2 fAdd (mVar 2) (mLst (mCons (mPure (.str "gap 100 1")) (mCons (mPure (.str "look 0 1 x")) (mCons (mPure (.str "season -1 2")) (mCons (mPure (.str "gap 0 1\n")) (mPure []))))))))
def st_law_5 : En → So :=
  (sSetN 3 (mLst (mCons (mTup (mCons (mPure (.str "rota places 2")) (mCons (mPure (.str "rota rows")) (mPure [])))) (mCons (mTup (mCons (mPure (.str "rota places x")) (mCons (mPure (.str "text 0")) (mPure [])))) (mCons (mTup (mCons (mPure (.str "rota places 1 ; turn 0")) (mCons (mPure (.str "text 1")) (mPure [])))) (mPure []))))))
def st_law_6 : En → So :=
  (sSetN 3 (mCat (mVar 3) (mLst (mCons (mTup (mCons (mPure (.str "rota places 1 ; turn 0 move 1")) (mCons (mPure (.str "rota rows")) (mPure [])))) (mCons (mTup (mCons (mPure (.str "season 0 3")) (mCons (mPure (.str "season days")) (mPure [])))) (mPure []))))))
def st_law_7 : En → So :=
  (sSetN 3 (mCat (mVar 3) (mLst (mCons (mTup (mCons (mPure (.str "gap 9 1")) (mCons (mPure (.str "wheel 9")) (mPure [])))) (mCons (mTup (mCons (mPure (.str "look 99 0 0")) (mCons (mPure (.str "refused (99, 0, 0)")) (mPure [])))) (mPure []))))))
def st_law_8 : En → So :=
  (sSetN 3 (mCat (mVar 3) (mLst (mCons (mTup (mCons (mPure (.str "look 0 7 0")) (mCons (mPure (.str "refused (0, 7, 0)")) (mPure [])))) (mCons (mTup (mCons (mPure (.str "rota places 0")) (mCons (mPure (.str "rota places")) (mPure [])))) (mPure []))))))
def st_law_9 : En → So :=
  (sDrop (ownLst 3 (mAppend 3 (mTup (mCons (mPure (.str "look 0 0 2")) (mCons (mPure (.str "refused (0, 0, 2)")) (mPure [])))))))
def st_law_10 : En → So :=
  (sFor (mRng1 (mCons (m2 fMax2 (mPure (.int 1)) (m2 fMin2 (mPure (.int 3)) (m1 fLen (mPeek 0)))) (mPure []))) (gV 4) lp_law_2)
def st_law_11 : En → So :=
  (sRet (m2 fEq (mCallTmp m_law_heard (mMake 7 1 m_Desk_init_k73 (mPure [])) (mMake 7 1 m_Desk_init_k73 (mPure []))) (mPure (.str "command"))))
def b_law : En → So :=
  (sSeq st_law_0 (sSeq st_law_1 (sSeq st_law_2 (sSeq st_law_3 (sSeq st_law_4 (sSeq st_law_5 (sSeq st_law_6 (sSeq st_law_7 (sSeq st_law_8 (sSeq st_law_9 (sSeq st_law_10 st_law_11)))))))))))
def m_law : List Dt → Fo := runF 12 false false b_law
end Dl
namespace Dl
open PySem PySem.Spec PyProof.Rows L2
/-! ### the text -/
def topS (i : Nat) : Stmt := PySem.Challenge.pw_turnrota_k73_desks_refuse.main.body.getD i (.Pass ⟨0, 0, 0, 0⟩)
abbrev s_is_integer : Stmt := topS 10
theorem sc_is_integer : FnScope ["value"] ["value"] (defScope s_is_integer) := ⟨rfl, rfl, rfl, by decide +kernel, rfl, by decide +kernel, by decide +kernel⟩
abbrev s_is_sequence : Stmt := topS 13
theorem sc_is_sequence : FnScope ["value"] ["value"] (defScope s_is_sequence) := ⟨rfl, rfl, rfl, by decide +kernel, rfl, by decide +kernel, by decide +kernel⟩
abbrev s_number_in : Stmt := topS 14
theorem sc_number_in : FnScope ["word", "digits", "sign"] ["word", "digits"] (defScope s_number_in) := ⟨rfl, rfl, rfl, by decide +kernel, rfl, by decide +kernel, by decide +kernel⟩
abbrev s_way : Stmt := topS 18
theorem sc_way : FnScope ["rota", "wheel", "found", "spot", "turn", "turned", "moves"] ["rota", "wheel"] (defScope s_way) := ⟨rfl, rfl, rfl, by decide +kernel, rfl, by decide +kernel, by decide +kernel⟩
abbrev s_every_look : Stmt := topS 26
theorem sc_every_look : FnScope ["rota", "days", "day", "wheel", "side"] ["rota", "days"] (defScope s_every_look) := ⟨rfl, rfl, rfl, by decide +kernel, rfl, by decide +kernel, by decide +kernel⟩
abbrev s_due_days : Stmt := topS 28
theorem sc_due_days : FnScope ["season", "wheel", "day", "one"] ["season", "wheel"] (defScope s_due_days) := ⟨rfl, rfl, rfl, by decide +kernel, rfl, by decide +kernel, by decide +kernel⟩
abbrev s_seen_by_day : Stmt := topS 30
theorem sc_seen_by_day : FnScope ["season", "wheel", "found", "day", "one", "up"] ["season", "wheel"] (defScope s_seen_by_day) := ⟨rfl, rfl, rfl, by decide +kernel, rfl, by decide +kernel, by decide +kernel⟩
abbrev s_chosen : Stmt := topS 40
theorem sc_chosen : FnScope ["size", "found", "turn", "at"] ["size"] (defScope s_chosen) := ⟨rfl, rfl, rfl, by decide +kernel, rfl, by decide +kernel, by decide +kernel⟩
abbrev s_joined : Stmt := topS 41
theorem sc_joined : FnScope ["one", "other", "bound", "found", "at", "many", "spot", "more", "size"] ["one", "other", "bound"] (defScope s_joined) := ⟨rfl, rfl, rfl, by decide +kernel, rfl, by decide +kernel, by decide +kernel⟩
abbrev s_Rota_len : Stmt := inClass (topS 54) 2
theorem sc_Rota_len : FnScope ["self"] ["self"] (defScope s_Rota_len) := ⟨rfl, rfl, rfl, by decide +kernel, rfl, by decide +kernel, by decide +kernel⟩
abbrev s_text_of_rota : Stmt := topS 55
theorem sc_text_of_rota : FnScope ["places", "rows", "found", "turned", "moves", "spots", "where", "one"] ["places", "rows"] (defScope s_text_of_rota) := ⟨rfl, rfl, rfl, by decide +kernel, rfl, by decide +kernel, by decide +kernel⟩
abbrev s_Desk_keep : Stmt := inClass (topS 65) 2
theorem sc_Desk_keep : FnScope ["self", "live"] ["self", "live"] (defScope s_Desk_keep) := ⟨rfl, rfl, rfl, by decide +kernel, rfl, by decide +kernel, by decide +kernel⟩
abbrev s_Desk_undo : Stmt := inClass (topS 65) 6
theorem sc_Desk_undo : FnScope ["self"] ["self"] (defScope s_Desk_undo) := ⟨rfl, rfl, rfl, by decide +kernel, rfl, by decide +kernel, by decide +kernel⟩
abbrev s_Desk_len : Stmt := inClass (topS 65) 8
theorem sc_Desk_len : FnScope ["self"] ["self"] (defScope s_Desk_len) := ⟨rfl, rfl, rfl, by decide +kernel, rfl, by decide +kernel, by decide +kernel⟩
abbrev s_law_box : Stmt := topS 67
theorem sc_law_box : FnScope ["_law_script", "_law_k", "_law_own", "_law_cell", "_law_seed"] ["_law_script", "_law_k", "_law_own"] (defScope s_law_box) := ⟨rfl, rfl, rfl, by decide +kernel, rfl, by decide +kernel, by decide +kernel⟩
abbrev s_law_take : Stmt := topS 68
theorem sc_law_take : FnScope ["_law_box_here", "_law_bound", "_law_digit", "_law_raw", "_law_wide"] ["_law_box_here", "_law_bound"] (defScope s_law_take) := ⟨rfl, rfl, rfl, by decide +kernel, rfl, by decide +kernel, by decide +kernel⟩
abbrev s_is_from : Stmt := topS 11
theorem sc_is_from : FnScope ["value", "least"] ["value", "least"] (defScope s_is_from) := ⟨rfl, rfl, rfl, by decide +kernel, rfl, by decide +kernel, by decide +kernel⟩
abbrev s_numbers_in : Stmt := topS 15
theorem sc_numbers_in : FnScope ["words", "digits", "found", "word"] ["words", "digits"] (defScope s_numbers_in) := ⟨rfl, rfl, rfl, by decide +kernel, rfl, by decide +kernel, by decide +kernel⟩
abbrev s_due_in_round : Stmt := topS 19
theorem sc_due_in_round : FnScope ["rota", "wheel", "size", "day", "spot"] ["rota", "wheel"] (defScope s_due_in_round) := ⟨rfl, rfl, rfl, by decide +kernel, rfl, by decide +kernel, by decide +kernel⟩
abbrev s_stretches_of : Stmt := topS 31
theorem sc_stretches_of : FnScope ["season", "wheel", "found", "first", "up", "days", "day", "seen", "size", "one"] ["season", "wheel"] (defScope s_stretches_of) := ⟨rfl, rfl, rfl, by decide +kernel, rfl, by decide +kernel, by decide +kernel⟩
abbrev s_law_pick : Stmt := topS 69
theorem sc_law_pick : FnScope ["_law_box_here", "_law_items"] ["_law_box_here", "_law_items"] (defScope s_law_pick) := ⟨rfl, rfl, rfl, by decide +kernel, rfl, by decide +kernel, by decide +kernel⟩
abbrev s_is_below : Stmt := topS 12
theorem sc_is_below : FnScope ["value", "bound"] ["value", "bound"] (defScope s_is_below) := ⟨rfl, rfl, rfl, by decide +kernel, rfl, by decide +kernel, by decide +kernel⟩
abbrev s_parts_of : Stmt := topS 32
theorem sc_parts_of : FnScope ["season", "missed", "made", "found", "wheel", "days", "first", "last", "odd", "pairs", "gone", "free", "day", "pair"] ["season", "missed", "made"] (defScope s_parts_of) := ⟨rfl, rfl, rfl, by decide +kernel, rfl, by decide +kernel, by decide +kernel⟩
abbrev s_places_in : Stmt := topS 56
theorem sc_places_in : FnScope ["line", "words", "numbers"] ["line"] (defScope s_places_in) := ⟨rfl, rfl, rfl, by decide +kernel, rfl, by decide +kernel, by decide +kernel⟩
abbrev s_row_in : Stmt := topS 57
theorem sc_row_in : FnScope ["line", "words", "at", "turned", "moves"] ["line"] (defScope s_row_in) := ⟨rfl, rfl, rfl, by decide +kernel, rfl, by decide +kernel, by decide +kernel⟩
abbrev s_words_of : Stmt := topS 63
theorem sc_words_of : FnScope ["command", "words"] ["command"] (defScope s_words_of) := ⟨rfl, rfl, rfl, by decide +kernel, rfl, by decide +kernel, by decide +kernel⟩
abbrev s_numbers_of : Stmt := topS 64
theorem sc_numbers_of : FnScope ["words", "numbers"] ["words"] (defScope s_numbers_of) := ⟨rfl, rfl, rfl, by decide +kernel, rfl, by decide +kernel, by decide +kernel⟩
abbrev s_law_value : Stmt := topS 70
theorem sc_law_value : FnScope ["_law_box_here", "_law_some", "_law_deep", "_law_turn"] ["_law_box_here"] (defScope s_law_value) := ⟨rfl, rfl, rfl, by decide +kernel, rfl, by decide +kernel, by decide +kernel⟩
abbrev s_need_wheel : Stmt := topS 17
theorem sc_need_wheel : FnScope ["rota", "wheel"] ["rota", "wheel"] (defScope s_need_wheel) := ⟨rfl, rfl, rfl, by decide +kernel, rfl, by decide +kernel, by decide +kernel⟩
abbrev s_is_look : Stmt := topS 24
theorem sc_is_look : FnScope ["value", "rota", "days"] ["value", "rota", "days"] (defScope s_is_look) := ⟨rfl, rfl, rfl, by decide +kernel, rfl, by decide +kernel, by decide +kernel⟩
abbrev s_cost : Stmt := topS 33
theorem sc_cost : FnScope ["season", "missed", "made", "total", "gone", "free", "odd", "is_even"] ["season", "missed", "made"] (defScope s_cost) := ⟨rfl, rfl, rfl, by decide +kernel, rfl, by decide +kernel, by decide +kernel⟩
abbrev s_lots_by_size : Stmt := topS 42
theorem sc_lots_by_size : FnScope ["season", "missed", "made", "bound", "found", "gone", "free", "odd", "part", "size", "many", "is_let"] ["season", "missed", "made"] (defScope s_lots_by_size) := ⟨rfl, rfl, rfl, by decide +kernel, rfl, by decide +kernel, by decide +kernel⟩
abbrev s_is_unlike : Stmt := topS 52
theorem sc_is_unlike : FnScope ["value", "bound", "one"] ["value", "bound"] (defScope s_is_unlike) := ⟨rfl, rfl, rfl, by decide +kernel, rfl, by decide +kernel, by decide +kernel⟩
abbrev s_round_days : Stmt := topS 20
theorem sc_round_days : FnScope ["rota", "wheel"] ["rota", "wheel"] (defScope s_round_days) := ⟨rfl, rfl, rfl, by decide +kernel, rfl, by decide +kernel, by decide +kernel⟩
abbrev s_can_be : Stmt := topS 34
theorem sc_can_be : FnScope ["season", "missed", "made", "paid"] ["season", "missed", "made"] (defScope s_can_be) := ⟨rfl, rfl, rfl, by decide +kernel, rfl, by decide +kernel, by decide +kernel⟩
abbrev s_least : Stmt := topS 35
theorem sc_least : FnScope ["season"] ["season"] (defScope s_least) := ⟨rfl, rfl, rfl, by decide +kernel, rfl, by decide +kernel, by decide +kernel⟩
abbrev s_ways_with : Stmt := topS 43
theorem sc_ways_with : FnScope ["season", "missed", "made"] ["season", "missed", "made"] (defScope s_ways_with) := ⟨rfl, rfl, rfl, by decide +kernel, rfl, by decide +kernel, by decide +kernel⟩
abbrev s_is_row : Stmt := topS 53
theorem sc_is_row : FnScope ["value", "places"] ["value", "places"] (defScope s_is_row) := ⟨rfl, rfl, rfl, by decide +kernel, rfl, by decide +kernel, by decide +kernel⟩
abbrev s_every_due : Stmt := topS 27
theorem sc_every_due : FnScope ["rota", "days", "found", "known", "day", "wheel", "days_due", "size"] ["rota", "days"] (defScope s_every_due) := ⟨rfl, rfl, rfl, by decide +kernel, rfl, by decide +kernel, by decide +kernel⟩
abbrev s_possible : Stmt := topS 36
theorem sc_possible : FnScope ["season"] ["season"] (defScope s_possible) := ⟨rfl, rfl, rfl, by decide +kernel, rfl, by decide +kernel, by decide +kernel⟩
abbrev s_count : Stmt := topS 44
theorem sc_count : FnScope ["season"] ["season"] (defScope s_count) := ⟨rfl, rfl, rfl, by decide +kernel, rfl, by decide +kernel, by decide +kernel⟩
abbrev s_gap : Stmt := topS 48
theorem sc_gap : FnScope ["rota", "wheel", "misses", "days", "size", "far", "more", "longer", "day", "at"] ["rota", "wheel", "misses"] (defScope s_gap) := ⟨rfl, rfl, rfl, by decide +kernel, rfl, by decide +kernel, by decide +kernel⟩
abbrev s_Rota_init : Stmt := inClass (topS 54) 0
theorem sc_Rota_init : FnScope ["self", "places", "rows", "row", "turned", "moves", "one"] ["self", "places", "rows"] (defScope s_Rota_init) := ⟨rfl, rfl, rfl, by decide +kernel, rfl, by decide +kernel, by decide +kernel⟩
abbrev s_Season_init : Stmt := inClass (topS 25) 0
theorem sc_Season_init : FnScope ["self", "rota", "days", "budget", "looks", "one", "look"] ["self", "rota", "days", "budget", "looks"] (defScope s_Season_init) := ⟨rfl, rfl, rfl, by decide +kernel, rfl, by decide +kernel, by decide +kernel⟩
abbrev s_Desk_told : Stmt := inClass (topS 65) 7
theorem sc_Desk_told : FnScope ["self", "word", "numbers", "season", "shown", "found", "one"] ["self", "word", "numbers"] (defScope s_Desk_told) := ⟨rfl, rfl, rfl, by decide +kernel, rfl, by decide +kernel, by decide +kernel⟩
abbrev s_Rota_read : Stmt := inClass (topS 54) 1
theorem sc_Rota_read : FnScope ["cls", "text", "lines", "places", "rows", "at", "line", "row"] ["cls", "text"] (defScope s_Rota_read) := ⟨rfl, rfl, rfl, by decide +kernel, rfl, by decide +kernel, by decide +kernel⟩
abbrev s_Season_seen : Stmt := inClass (topS 25) 1
theorem sc_Season_seen : FnScope ["self", "looks"] ["self", "looks"] (defScope s_Season_seen) := ⟨rfl, rfl, rfl, by decide +kernel, rfl, by decide +kernel, by decide +kernel⟩
abbrev s_can_show : Stmt := topS 37
theorem sc_can_show : FnScope ["season", "wheel", "day", "up"] ["season", "wheel", "day"] (defScope s_can_show) := ⟨rfl, rfl, rfl, by decide +kernel, rfl, by decide +kernel, by decide +kernel⟩
abbrev s_sure_sides : Stmt := topS 38
theorem sc_sure_sides : FnScope ["season", "day", "found", "wheel", "some"] ["season", "day"] (defScope s_sure_sides) := ⟨rfl, rfl, rfl, by decide +kernel, rfl, by decide +kernel, by decide +kernel⟩
abbrev s_Live_show : Stmt := inClass (topS 46) 1
theorem sc_Live_show : FnScope ["self", "season", "wheel"] ["self", "season"] (defScope s_Live_show) := ⟨rfl, rfl, rfl, by decide +kernel, rfl, by decide +kernel, by decide +kernel⟩
abbrev s_Live_init : Stmt := inClass (topS 46) 0
theorem sc_Live_init : FnScope ["self", "season"] ["self", "season"] (defScope s_Live_init) := ⟨rfl, rfl, rfl, by decide +kernel, rfl, by decide +kernel, by decide +kernel⟩
abbrev s_Live_go_on : Stmt := inClass (topS 46) 2
theorem sc_Live_go_on : FnScope ["self", "season"] ["self", "season"] (defScope s_Live_go_on) := ⟨rfl, rfl, rfl, by decide +kernel, rfl, by decide +kernel, by decide +kernel⟩
abbrev s_Live_undo : Stmt := inClass (topS 46) 6
abbrev s_Live_look : Stmt := inClass (topS 46) 3
theorem sc_Live_look : FnScope ["self", "day", "wheel", "side", "look"] ["self", "day", "wheel", "side"] (defScope s_Live_look) := ⟨rfl, rfl, rfl, by decide +kernel, rfl, by decide +kernel, by decide +kernel⟩
abbrev s_first_live : Stmt := topS 62
theorem sc_first_live : FnScope ["rota"] ["rota"] (defScope s_first_live) := ⟨rfl, rfl, rfl, by decide +kernel, rfl, by decide +kernel, by decide +kernel⟩
abbrev s_Desk_new_season : Stmt := inClass (topS 65) 4
theorem sc_Desk_new_season : FnScope ["self", "numbers", "season"] ["self", "numbers"] (defScope s_Desk_new_season) := ⟨rfl, rfl, rfl, by decide +kernel, rfl, by decide +kernel, by decide +kernel⟩
abbrev s_Desk_new_look : Stmt := inClass (topS 65) 5
theorem sc_Desk_new_look : FnScope ["self", "numbers", "live", "is_possible"] ["self", "numbers"] (defScope s_Desk_new_look) := ⟨rfl, rfl, rfl, by decide +kernel, rfl, by decide +kernel, by decide +kernel⟩
abbrev s_Desk_init : Stmt := inClass (topS 65) 0
theorem sc_Desk_init : FnScope ["self"] ["self"] (defScope s_Desk_init) := ⟨rfl, rfl, rfl, by decide +kernel, rfl, by decide +kernel, by decide +kernel⟩
abbrev s_Desk_begin : Stmt := inClass (topS 65) 3
theorem sc_Desk_begin : FnScope ["self", "rota"] ["self", "rota"] (defScope s_Desk_begin) := ⟨rfl, rfl, rfl, by decide +kernel, rfl, by decide +kernel, by decide +kernel⟩
abbrev s_Desk_say : Stmt := inClass (topS 65) 1
theorem sc_Desk_say : FnScope ["self", "command", "words", "numbers"] ["self", "command"] (defScope s_Desk_say) := ⟨rfl, rfl, rfl, by decide +kernel, rfl, by decide +kernel, by decide +kernel⟩
abbrev s_law_heard : Stmt := topS 71
theorem sc_law_heard : FnScope ["_law_desk", "_law_command", "_law_found", "e"] ["_law_desk", "_law_command"] (defScope s_law_heard) := ⟨rfl, rfl, rfl, by decide +kernel, rfl, by decide +kernel, by decide +kernel⟩
abbrev s_law : Stmt := topS 72
theorem sc_law : FnScope ["_law_script", "_law_good", "_law_bad", "_law_written", "_law_k", "_law_box_here", "_law_desk", "_law_turn", "_law_many", "_law_command", "_law_due", "_law_value_here"] ["_law_script"] (defScope s_law) := ⟨rfl, rfl, rfl, by decide +kernel, rfl, by decide +kernel, by decide +kernel⟩
abbrev s_InvalidCommand_init : Stmt := inClass (topS 6) 0
theorem sc_InvalidCommand_init : FnScope ["self"] ["self"] (defScope s_InvalidCommand_init) := ⟨rfl, rfl, rfl, by decide +kernel, rfl, by decide +kernel, by decide +kernel⟩
abbrev s_InvalidText_init : Stmt := inClass (topS 4) 0
theorem sc_InvalidText_init : FnScope ["self", "at"] ["self", "at"] (defScope s_InvalidText_init) := ⟨rfl, rfl, rfl, by decide +kernel, rfl, by decide +kernel, by decide +kernel⟩
abbrev s_InvalidRota_init : Stmt := inClass (topS 3) 0
theorem sc_InvalidRota_init : FnScope ["self", "word"] ["self", "word"] (defScope s_InvalidRota_init) := ⟨rfl, rfl, rfl, by decide +kernel, rfl, by decide +kernel, by decide +kernel⟩
abbrev s_InvalidSeason_init : Stmt := inClass (topS 5) 0
theorem sc_InvalidSeason_init : FnScope ["self", "word"] ["self", "word"] (defScope s_InvalidSeason_init) := ⟨rfl, rfl, rfl, by decide +kernel, rfl, by decide +kernel, by decide +kernel⟩
abbrev s_NoWheel_init : Stmt := inClass (topS 7) 0
theorem sc_NoWheel_init : FnScope ["self", "value"] ["self", "value"] (defScope s_NoWheel_init) := ⟨rfl, rfl, rfl, by decide +kernel, rfl, by decide +kernel, by decide +kernel⟩
abbrev s_Refused_init : Stmt := inClass (topS 8) 0
theorem sc_Refused_init : FnScope ["self", "value"] ["self", "value"] (defScope s_Refused_init) := ⟨rfl, rfl, rfl, by decide +kernel, rfl, by decide +kernel, by decide +kernel⟩
/-! ### where they stand -/
structure Dfs (w : World) (K : PySem.W.Frag) (mg : Str → Option Value) where
  f_is_integer : Addr
  fd_is_integer : FuncData
  F_is_integer : Fun K "is_integer" "is_integer" s_is_integer f_is_integer fd_is_integer
  g_is_integer : mg "is_integer" = some (.ref f_is_integer)
  b_is_integer : Binds K fd_is_integer ["value"] []
  f_is_sequence : Addr
  fd_is_sequence : FuncData
  F_is_sequence : Fun K "is_sequence" "is_sequence" s_is_sequence f_is_sequence fd_is_sequence
  g_is_sequence : mg "is_sequence" = some (.ref f_is_sequence)
  b_is_sequence : Binds K fd_is_sequence ["value"] []
  f_number_in : Addr
  fd_number_in : FuncData
  F_number_in : Fun K "number_in" "number_in" s_number_in f_number_in fd_number_in
  g_number_in : mg "number_in" = some (.ref f_number_in)
  b_number_in : Binds K fd_number_in ["word", "digits"] []
  f_way : Addr
  fd_way : FuncData
  F_way : Fun K "way" "way" s_way f_way fd_way
  g_way : mg "way" = some (.ref f_way)
  b_way : Binds K fd_way ["rota", "wheel"] []
  f_every_look : Addr
  fd_every_look : FuncData
  F_every_look : Fun K "every_look" "every_look" s_every_look f_every_look fd_every_look
  g_every_look : mg "every_look" = some (.ref f_every_look)
  b_every_look : Binds K fd_every_look ["rota", "days"] []
  f_due_days : Addr
  fd_due_days : FuncData
  F_due_days : Fun K "due_days" "due_days" s_due_days f_due_days fd_due_days
  g_due_days : mg "due_days" = some (.ref f_due_days)
  b_due_days : Binds K fd_due_days ["season", "wheel"] []
  f_seen_by_day : Addr
  fd_seen_by_day : FuncData
  F_seen_by_day : Fun K "seen_by_day" "seen_by_day" s_seen_by_day f_seen_by_day fd_seen_by_day
  g_seen_by_day : mg "seen_by_day" = some (.ref f_seen_by_day)
  b_seen_by_day : Binds K fd_seen_by_day ["season", "wheel"] []
  f_chosen : Addr
  fd_chosen : FuncData
  F_chosen : Fun K "chosen" "chosen" s_chosen f_chosen fd_chosen
  g_chosen : mg "chosen" = some (.ref f_chosen)
  b_chosen : Binds K fd_chosen ["size"] []
  f_joined : Addr
  fd_joined : FuncData
  F_joined : Fun K "joined" "joined" s_joined f_joined fd_joined
  g_joined : mg "joined" = some (.ref f_joined)
  b_joined : Binds K fd_joined ["one", "other", "bound"] []
  f_Rota_len : Addr
  fd_Rota_len : FuncData
  F_Rota_len : Fun K "__len__" "Rota.__len__" s_Rota_len f_Rota_len fd_Rota_len
  b_Rota_len : Binds K fd_Rota_len ["self"] []
  f_text_of_rota : Addr
  fd_text_of_rota : FuncData
  F_text_of_rota : Fun K "text_of_rota" "text_of_rota" s_text_of_rota f_text_of_rota fd_text_of_rota
  g_text_of_rota : mg "text_of_rota" = some (.ref f_text_of_rota)
  b_text_of_rota : Binds K fd_text_of_rota ["places", "rows"] []
  f_Desk_keep : Addr
  fd_Desk_keep : FuncData
  F_Desk_keep : Fun K "keep" "Desk.keep" s_Desk_keep f_Desk_keep fd_Desk_keep
  b_Desk_keep : Binds K fd_Desk_keep ["self", "live"] []
  f_Desk_undo : Addr
  fd_Desk_undo : FuncData
  F_Desk_undo : Fun K "undo" "Desk.undo" s_Desk_undo f_Desk_undo fd_Desk_undo
  b_Desk_undo : Binds K fd_Desk_undo ["self"] []
  f_Desk_len : Addr
  fd_Desk_len : FuncData
  F_Desk_len : Fun K "__len__" "Desk.__len__" s_Desk_len f_Desk_len fd_Desk_len
  b_Desk_len : Binds K fd_Desk_len ["self"] []
  f_law_box : Addr
  fd_law_box : FuncData
  F_law_box : Fun K "_law_box" "_law_box" s_law_box f_law_box fd_law_box
  g_law_box : mg "_law_box" = some (.ref f_law_box)
  b_law_box : Binds K fd_law_box ["_law_script", "_law_k", "_law_own"] []
  f_law_take : Addr
  fd_law_take : FuncData
  F_law_take : Fun K "_law_take" "_law_take" s_law_take f_law_take fd_law_take
  g_law_take : mg "_law_take" = some (.ref f_law_take)
  b_law_take : Binds K fd_law_take ["_law_box_here", "_law_bound"] []
  f_is_from : Addr
  fd_is_from : FuncData
  F_is_from : Fun K "is_from" "is_from" s_is_from f_is_from fd_is_from
  g_is_from : mg "is_from" = some (.ref f_is_from)
  b_is_from : Binds K fd_is_from ["value", "least"] []
  f_numbers_in : Addr
  fd_numbers_in : FuncData
  F_numbers_in : Fun K "numbers_in" "numbers_in" s_numbers_in f_numbers_in fd_numbers_in
  g_numbers_in : mg "numbers_in" = some (.ref f_numbers_in)
  b_numbers_in : Binds K fd_numbers_in ["words", "digits"] []
  f_due_in_round : Addr
  fd_due_in_round : FuncData
  F_due_in_round : Fun K "due_in_round" "due_in_round" s_due_in_round f_due_in_round fd_due_in_round
  g_due_in_round : mg "due_in_round" = some (.ref f_due_in_round)
  b_due_in_round : Binds K fd_due_in_round ["rota", "wheel"] []
  f_stretches_of : Addr
  fd_stretches_of : FuncData
  F_stretches_of : Fun K "stretches_of" "stretches_of" s_stretches_of f_stretches_of fd_stretches_of
  g_stretches_of : mg "stretches_of" = some (.ref f_stretches_of)
  b_stretches_of : Binds K fd_stretches_of ["season", "wheel"] []
  f_law_pick : Addr
  fd_law_pick : FuncData
  F_law_pick : Fun K "_law_pick" "_law_pick" s_law_pick f_law_pick fd_law_pick
  g_law_pick : mg "_law_pick" = some (.ref f_law_pick)
  b_law_pick : Binds K fd_law_pick ["_law_box_here", "_law_items"] []
  f_is_below : Addr
  fd_is_below : FuncData
  F_is_below : Fun K "is_below" "is_below" s_is_below f_is_below fd_is_below
  g_is_below : mg "is_below" = some (.ref f_is_below)
  b_is_below : Binds K fd_is_below ["value", "bound"] []
  f_parts_of : Addr
  fd_parts_of : FuncData
  F_parts_of : Fun K "parts_of" "parts_of" s_parts_of f_parts_of fd_parts_of
  g_parts_of : mg "parts_of" = some (.ref f_parts_of)
  b_parts_of : Binds K fd_parts_of ["season", "missed", "made"] []
  f_places_in : Addr
  fd_places_in : FuncData
  F_places_in : Fun K "places_in" "places_in" s_places_in f_places_in fd_places_in
  g_places_in : mg "places_in" = some (.ref f_places_in)
  b_places_in : Binds K fd_places_in ["line"] []
  f_row_in : Addr
  fd_row_in : FuncData
  F_row_in : Fun K "row_in" "row_in" s_row_in f_row_in fd_row_in
  g_row_in : mg "row_in" = some (.ref f_row_in)
  b_row_in : Binds K fd_row_in ["line"] []
  f_words_of : Addr
  fd_words_of : FuncData
  F_words_of : Fun K "words_of" "words_of" s_words_of f_words_of fd_words_of
  g_words_of : mg "words_of" = some (.ref f_words_of)
  b_words_of : Binds K fd_words_of ["command"] []
  f_numbers_of : Addr
  fd_numbers_of : FuncData
  F_numbers_of : Fun K "numbers_of" "numbers_of" s_numbers_of f_numbers_of fd_numbers_of
  g_numbers_of : mg "numbers_of" = some (.ref f_numbers_of)
  b_numbers_of : Binds K fd_numbers_of ["words"] []
  f_law_value : Addr
  fd_law_value : FuncData
  F_law_value : Fun K "_law_value" "_law_value" s_law_value f_law_value fd_law_value
  g_law_value : mg "_law_value" = some (.ref f_law_value)
  b_law_value : Binds K fd_law_value ["_law_box_here"] []
  f_need_wheel : Addr
  fd_need_wheel : FuncData
  F_need_wheel : Fun K "need_wheel" "need_wheel" s_need_wheel f_need_wheel fd_need_wheel
  g_need_wheel : mg "need_wheel" = some (.ref f_need_wheel)
  b_need_wheel : Binds K fd_need_wheel ["rota", "wheel"] []
  f_is_look : Addr
  fd_is_look : FuncData
  F_is_look : Fun K "is_look" "is_look" s_is_look f_is_look fd_is_look
  g_is_look : mg "is_look" = some (.ref f_is_look)
  b_is_look : Binds K fd_is_look ["value", "rota", "days"] []
  f_cost : Addr
  fd_cost : FuncData
  F_cost : Fun K "cost" "cost" s_cost f_cost fd_cost
  g_cost : mg "cost" = some (.ref f_cost)
  b_cost : Binds K fd_cost ["season", "missed", "made"] []
  f_lots_by_size : Addr
  fd_lots_by_size : FuncData
  F_lots_by_size : Fun K "lots_by_size" "lots_by_size" s_lots_by_size f_lots_by_size fd_lots_by_size
  g_lots_by_size : mg "lots_by_size" = some (.ref f_lots_by_size)
  b_lots_by_size : Binds K fd_lots_by_size ["season", "missed", "made"] []
  f_is_unlike : Addr
  fd_is_unlike : FuncData
  F_is_unlike : Fun K "is_unlike" "is_unlike" s_is_unlike f_is_unlike fd_is_unlike
  g_is_unlike : mg "is_unlike" = some (.ref f_is_unlike)
  b_is_unlike : Binds K fd_is_unlike ["value", "bound"] []
  f_round_days : Addr
  fd_round_days : FuncData
  F_round_days : Fun K "round_days" "round_days" s_round_days f_round_days fd_round_days
  g_round_days : mg "round_days" = some (.ref f_round_days)
  b_round_days : Binds K fd_round_days ["rota", "wheel"] []
  f_can_be : Addr
  fd_can_be : FuncData
  F_can_be : Fun K "can_be" "can_be" s_can_be f_can_be fd_can_be
  g_can_be : mg "can_be" = some (.ref f_can_be)
  b_can_be : Binds K fd_can_be ["season", "missed", "made"] []
  f_least : Addr
  fd_least : FuncData
  F_least : Fun K "least" "least" s_least f_least fd_least
  g_least : mg "least" = some (.ref f_least)
  b_least : Binds K fd_least ["season"] []
  f_ways_with : Addr
  fd_ways_with : FuncData
  F_ways_with : Fun K "ways_with" "ways_with" s_ways_with f_ways_with fd_ways_with
  g_ways_with : mg "ways_with" = some (.ref f_ways_with)
  b_ways_with : Binds K fd_ways_with ["season", "missed", "made"] []
  f_is_row : Addr
  fd_is_row : FuncData
  F_is_row : Fun K "is_row" "is_row" s_is_row f_is_row fd_is_row
  g_is_row : mg "is_row" = some (.ref f_is_row)
  b_is_row : Binds K fd_is_row ["value", "places"] []
  f_every_due : Addr
  fd_every_due : FuncData
  F_every_due : Fun K "every_due" "every_due" s_every_due f_every_due fd_every_due
  g_every_due : mg "every_due" = some (.ref f_every_due)
  b_every_due : Binds K fd_every_due ["rota", "days"] []
  f_possible : Addr
  fd_possible : FuncData
  F_possible : Fun K "possible" "possible" s_possible f_possible fd_possible
  g_possible : mg "possible" = some (.ref f_possible)
  b_possible : Binds K fd_possible ["season"] []
  f_count : Addr
  fd_count : FuncData
  F_count : Fun K "count" "count" s_count f_count fd_count
  g_count : mg "count" = some (.ref f_count)
  b_count : Binds K fd_count ["season"] []
  f_gap : Addr
  fd_gap : FuncData
  F_gap : Fun K "gap" "gap" s_gap f_gap fd_gap
  g_gap : mg "gap" = some (.ref f_gap)
  b_gap : Binds K fd_gap ["rota", "wheel", "misses"] []
  f_Rota_init : Addr
  fd_Rota_init : FuncData
  F_Rota_init : Fun K "__init__" "Rota.__init__" s_Rota_init f_Rota_init fd_Rota_init
  b_Rota_init : Binds K fd_Rota_init ["self", "places", "rows"] []
  f_Season_init : Addr
  fd_Season_init : FuncData
  tE_Season_init : Addr
  F_Season_init : FunD K "__init__" "Season.__init__" (defArgs s_Season_init) (defBody s_Season_init) (defScope s_Season_init) [V.ref tE_Season_init] [] f_Season_init fd_Season_init
  ds_Season_init : List Value
  bv_Season_init : Vals [V.ref tE_Season_init] ds_Season_init
  bb_Season_init : Binds K fd_Season_init ["self", "rota", "days", "budget", "looks"] ds_Season_init
  be_Season_init : ∃ ed en es, K.lookup tE_Season_init = some ⟨.type "tuple", ed, .seq #[] en, es⟩
  b_Season_init : Binds K fd_Season_init ["self", "rota", "days", "budget", "looks"] []
  f_Desk_told : Addr
  fd_Desk_told : FuncData
  F_Desk_told : Fun K "told" "Desk.told" s_Desk_told f_Desk_told fd_Desk_told
  b_Desk_told : Binds K fd_Desk_told ["self", "word", "numbers"] []
  f_Rota_read : Addr
  fd_Rota_read : FuncData
  F_Rota_read : Fun K "read" "Rota.read" s_Rota_read f_Rota_read fd_Rota_read
  b_Rota_read : Binds K fd_Rota_read ["cls", "text"] []
  f_Season_seen : Addr
  fd_Season_seen : FuncData
  F_Season_seen : Fun K "seen" "Season.seen" s_Season_seen f_Season_seen fd_Season_seen
  b_Season_seen : Binds K fd_Season_seen ["self", "looks"] []
  f_can_show : Addr
  fd_can_show : FuncData
  F_can_show : Fun K "can_show" "can_show" s_can_show f_can_show fd_can_show
  g_can_show : mg "can_show" = some (.ref f_can_show)
  b_can_show : Binds K fd_can_show ["season", "wheel", "day"] []
  f_sure_sides : Addr
  fd_sure_sides : FuncData
  F_sure_sides : Fun K "sure_sides" "sure_sides" s_sure_sides f_sure_sides fd_sure_sides
  g_sure_sides : mg "sure_sides" = some (.ref f_sure_sides)
  b_sure_sides : Binds K fd_sure_sides ["season", "day"] []
  f_Live_show : Addr
  fd_Live_show : FuncData
  F_Live_show : Fun K "show" "Live.show" s_Live_show f_Live_show fd_Live_show
  b_Live_show : Binds K fd_Live_show ["self", "season"] []
  f_Live_init : Addr
  fd_Live_init : FuncData
  F_Live_init : Fun K "__init__" "Live.__init__" s_Live_init f_Live_init fd_Live_init
  b_Live_init : Binds K fd_Live_init ["self", "season"] []
  f_Live_go_on : Addr
  fd_Live_go_on : FuncData
  F_Live_go_on : Fun K "go_on" "Live.go_on" s_Live_go_on f_Live_go_on fd_Live_go_on
  b_Live_go_on : Binds K fd_Live_go_on ["self", "season"] []
  f_Live_undo : Addr
  fd_Live_undo : FuncData
  F_Live_undo : Fun K "undo" "Live.undo" s_Live_undo f_Live_undo fd_Live_undo
  b_Live_undo : Binds K fd_Live_undo ["self"] []
  f_Live_look : Addr
  fd_Live_look : FuncData
  F_Live_look : Fun K "look" "Live.look" s_Live_look f_Live_look fd_Live_look
  b_Live_look : Binds K fd_Live_look ["self", "day", "wheel", "side"] []
  f_first_live : Addr
  fd_first_live : FuncData
  F_first_live : Fun K "first_live" "first_live" s_first_live f_first_live fd_first_live
  g_first_live : mg "first_live" = some (.ref f_first_live)
  b_first_live : Binds K fd_first_live ["rota"] []
  f_Desk_new_season : Addr
  fd_Desk_new_season : FuncData
  F_Desk_new_season : Fun K "new_season" "Desk.new_season" s_Desk_new_season f_Desk_new_season fd_Desk_new_season
  b_Desk_new_season : Binds K fd_Desk_new_season ["self", "numbers"] []
  f_Desk_new_look : Addr
  fd_Desk_new_look : FuncData
  F_Desk_new_look : Fun K "new_look" "Desk.new_look" s_Desk_new_look f_Desk_new_look fd_Desk_new_look
  b_Desk_new_look : Binds K fd_Desk_new_look ["self", "numbers"] []
  f_Desk_init : Addr
  fd_Desk_init : FuncData
  F_Desk_init : Fun K "__init__" "Desk.__init__" s_Desk_init f_Desk_init fd_Desk_init
  b_Desk_init : Binds K fd_Desk_init ["self"] []
  f_Desk_begin : Addr
  fd_Desk_begin : FuncData
  F_Desk_begin : Fun K "begin" "Desk.begin" s_Desk_begin f_Desk_begin fd_Desk_begin
  b_Desk_begin : Binds K fd_Desk_begin ["self", "rota"] []
  f_Desk_say : Addr
  fd_Desk_say : FuncData
  F_Desk_say : Fun K "say" "Desk.say" s_Desk_say f_Desk_say fd_Desk_say
  b_Desk_say : Binds K fd_Desk_say ["self", "command"] []
  f_law_heard : Addr
  fd_law_heard : FuncData
  F_law_heard : Fun K "_law_heard" "_law_heard" s_law_heard f_law_heard fd_law_heard
  g_law_heard : mg "_law_heard" = some (.ref f_law_heard)
  b_law_heard : Binds K fd_law_heard ["_law_desk", "_law_command"] []
  f_law : Addr
  fd_law : FuncData
  F_law : Fun K "law" "law" s_law f_law fd_law
  g_law : mg "law" = some (.ref f_law)
  b_law : Binds K fd_law ["_law_script"] []
  z_abs : mg "abs" = none
  z_all : mg "all" = none
  z_bool : mg "bool" = none
  z_enumerate : mg "enumerate" = none
  z_int : mg "int" = none
  z_isinstance : mg "isinstance" = none
  z_len : mg "len" = none
  z_list : mg "list" = none
  z_max : mg "max" = none
  z_min : mg "min" = none
  z_range : mg "range" = none
  z_repr : mg "repr" = none
  z_sorted : mg "sorted" = none
  z_str : mg "str" = none
  z_sum : mg "sum" = none
  z_tuple : mg "tuple" = none
  v_DIGITS_desk : Value
  c_DIGITS_desk : mg "DIGITS_desk" = some v_DIGITS_desk
  r_DIGITS_desk : RelV (.int 2) v_DIGITS_desk
  v_DIGITS_rotas : Value
  c_DIGITS_rotas : mg "DIGITS_rotas" = some v_DIGITS_rotas
  r_DIGITS_rotas : RelV (.int 2) v_DIGITS_rotas
  v_FIRST_DAYS : Value
  c_FIRST_DAYS : mg "FIRST_DAYS" = some v_FIRST_DAYS
  r_FIRST_DAYS : RelV (.int 7) v_FIRST_DAYS
  v_PAIR_rotas : Value
  c_PAIR_rotas : mg "PAIR_rotas" = some v_PAIR_rotas
  r_PAIR_rotas : RelV (.int 2) v_PAIR_rotas
  v_PAIR_seasons : Value
  c_PAIR_seasons : mg "PAIR_seasons" = some v_PAIR_seasons
  r_PAIR_seasons : RelV (.int 2) v_PAIR_seasons
  v_TRIPLE : Value
  c_TRIPLE : mg "TRIPLE" = some v_TRIPLE
  r_TRIPLE : RelV (.int 3) v_TRIPLE
  d_SIZES : Addr
  gk_SIZES : mg "SIZES" = some (.ref d_SIZES)
  kd_SIZES : KTab K w d_SIZES [("sides", 0), ("least", 0), ("count", 0), ("undo", 0), ("season", 2), ("gap", 2), ("look", 3)]
  C_Season : Addr
  C_Live : Addr
  C_Rota : Addr
  C_Desk : Addr
  gC_Season : mg "Season" = some (.ref C_Season)
  cls_Season : Cls K C_Season
  mk_Season : Mk K C_Season f_Season_init
  na_Season_rota : NoAttr K C_Season "rota"
  na_Season_days : NoAttr K C_Season "days"
  na_Season_budget : NoAttr K C_Season "budget"
  na_Season_looks : NoAttr K C_Season "looks"
  na_Season_wheels : NoAttr K C_Season "wheels"
  na_Season_due : NoAttr K C_Season "due"
  me_Season_seen : Meth K C_Season "seen" f_Season_seen
  gC_Live : mg "Live" = some (.ref C_Live)
  cls_Live : Cls K C_Live
  mk_Live : Mk K C_Live f_Live_init
  na_Live_past : NoAttr K C_Live "past"
  na_Live_season : NoAttr K C_Live "season"
  na_Live_is_possible : NoAttr K C_Live "is_possible"
  na_Live_sure : NoAttr K C_Live "sure"
  me_Live_go_on : Meth K C_Live "go_on" f_Live_go_on
  me_Live_look : Meth K C_Live "look" f_Live_look
  me_Live_show : Meth K C_Live "show" f_Live_show
  me_Live_undo : Meth K C_Live "undo" f_Live_undo
  gC_Rota : mg "Rota" = some (.ref C_Rota)
  cls_Rota : Cls K C_Rota
  mk_Rota : Mk K C_Rota f_Rota_init
  na_Rota_places : NoAttr K C_Rota "places"
  na_Rota_rows : NoAttr K C_Rota "rows"
  na_Rota_text : NoAttr K C_Rota "text"
  cr_Rota : ClX.CRead K C_Rota (.type "type")
  me_Rota_len : Meth K C_Rota "__len__" f_Rota_len
  pq_Rota_read : Addr
  cm_Rota_read : ClX.CMet K C_Rota (.type "type") "read" pq_Rota_read f_Rota_read
  gC_Desk : mg "Desk" = some (.ref C_Desk)
  cls_Desk : Cls K C_Desk
  mk_Desk : Mk K C_Desk f_Desk_init
  na_Desk_live : NoAttr K C_Desk "live"
  na_Desk_past : NoAttr K C_Desk "past"
  nb_Desk : IcB K C_Desk
  me_Desk_len : Meth K C_Desk "__len__" f_Desk_len
  me_Desk_begin : Meth K C_Desk "begin" f_Desk_begin
  me_Desk_keep : Meth K C_Desk "keep" f_Desk_keep
  me_Desk_new_look : Meth K C_Desk "new_look" f_Desk_new_look
  me_Desk_new_season : Meth K C_Desk "new_season" f_Desk_new_season
  me_Desk_say : Meth K C_Desk "say" f_Desk_say
  me_Desk_told : Meth K C_Desk "told" f_Desk_told
  me_Desk_undo : Meth K C_Desk "undo" f_Desk_undo
  E_InvalidRota : Addr
  E_InvalidText : Addr
  E_InvalidSeason : Addr
  E_InvalidCommand : Addr
  E_NoWheel : Addr
  E_Refused : Addr
  kl_InvalidRota : Kls K mg "InvalidRota" E_InvalidRota
  kl_InvalidText : Kls K mg "InvalidText" E_InvalidText
  kl_InvalidSeason : Kls K mg "InvalidSeason" E_InvalidSeason
  kl_InvalidCommand : Kls K mg "InvalidCommand" E_InvalidCommand
  kl_NoWheel : Kls K mg "NoWheel" E_NoWheel
  kl_Refused : Kls K mg "Refused" E_Refused
  su_InvalidCommand_InvalidCommand : PySem.W.subIn K (.ref E_InvalidCommand) (.ref E_InvalidCommand) = some true
  su_InvalidCommand_InvalidRota : PySem.W.subIn K (.ref E_InvalidCommand) (.ref E_InvalidRota) = some false
  su_InvalidCommand_InvalidSeason : PySem.W.subIn K (.ref E_InvalidCommand) (.ref E_InvalidSeason) = some false
  su_InvalidCommand_InvalidText : PySem.W.subIn K (.ref E_InvalidCommand) (.ref E_InvalidText) = some false
  su_InvalidCommand_NoWheel : PySem.W.subIn K (.ref E_InvalidCommand) (.ref E_NoWheel) = some false
  su_InvalidCommand_Refused : PySem.W.subIn K (.ref E_InvalidCommand) (.ref E_Refused) = some false
  su_InvalidRota_InvalidCommand : PySem.W.subIn K (.ref E_InvalidRota) (.ref E_InvalidCommand) = some false
  su_InvalidRota_InvalidRota : PySem.W.subIn K (.ref E_InvalidRota) (.ref E_InvalidRota) = some true
  su_InvalidRota_InvalidSeason : PySem.W.subIn K (.ref E_InvalidRota) (.ref E_InvalidSeason) = some false
  su_InvalidRota_InvalidText : PySem.W.subIn K (.ref E_InvalidRota) (.ref E_InvalidText) = some false
  su_InvalidRota_NoWheel : PySem.W.subIn K (.ref E_InvalidRota) (.ref E_NoWheel) = some false
  su_InvalidRota_Refused : PySem.W.subIn K (.ref E_InvalidRota) (.ref E_Refused) = some false
  su_InvalidSeason_InvalidCommand : PySem.W.subIn K (.ref E_InvalidSeason) (.ref E_InvalidCommand) = some false
  su_InvalidSeason_InvalidRota : PySem.W.subIn K (.ref E_InvalidSeason) (.ref E_InvalidRota) = some false
  su_InvalidSeason_InvalidSeason : PySem.W.subIn K (.ref E_InvalidSeason) (.ref E_InvalidSeason) = some true
  su_InvalidSeason_InvalidText : PySem.W.subIn K (.ref E_InvalidSeason) (.ref E_InvalidText) = some false
  su_InvalidSeason_NoWheel : PySem.W.subIn K (.ref E_InvalidSeason) (.ref E_NoWheel) = some false
  su_InvalidSeason_Refused : PySem.W.subIn K (.ref E_InvalidSeason) (.ref E_Refused) = some false
  su_InvalidText_InvalidCommand : PySem.W.subIn K (.ref E_InvalidText) (.ref E_InvalidCommand) = some false
  su_InvalidText_InvalidRota : PySem.W.subIn K (.ref E_InvalidText) (.ref E_InvalidRota) = some false
  su_InvalidText_InvalidSeason : PySem.W.subIn K (.ref E_InvalidText) (.ref E_InvalidSeason) = some false
  su_InvalidText_InvalidText : PySem.W.subIn K (.ref E_InvalidText) (.ref E_InvalidText) = some true
  su_InvalidText_NoWheel : PySem.W.subIn K (.ref E_InvalidText) (.ref E_NoWheel) = some false
  su_InvalidText_Refused : PySem.W.subIn K (.ref E_InvalidText) (.ref E_Refused) = some false
  su_NoWheel_InvalidCommand : PySem.W.subIn K (.ref E_NoWheel) (.ref E_InvalidCommand) = some false
  su_NoWheel_InvalidRota : PySem.W.subIn K (.ref E_NoWheel) (.ref E_InvalidRota) = some false
  su_NoWheel_InvalidSeason : PySem.W.subIn K (.ref E_NoWheel) (.ref E_InvalidSeason) = some false
  su_NoWheel_InvalidText : PySem.W.subIn K (.ref E_NoWheel) (.ref E_InvalidText) = some false
  su_NoWheel_NoWheel : PySem.W.subIn K (.ref E_NoWheel) (.ref E_NoWheel) = some true
  su_NoWheel_Refused : PySem.W.subIn K (.ref E_NoWheel) (.ref E_Refused) = some false
  su_Refused_InvalidCommand : PySem.W.subIn K (.ref E_Refused) (.ref E_InvalidCommand) = some false
  su_Refused_InvalidRota : PySem.W.subIn K (.ref E_Refused) (.ref E_InvalidRota) = some false
  su_Refused_InvalidSeason : PySem.W.subIn K (.ref E_Refused) (.ref E_InvalidSeason) = some false
  su_Refused_InvalidText : PySem.W.subIn K (.ref E_Refused) (.ref E_InvalidText) = some false
  su_Refused_NoWheel : PySem.W.subIn K (.ref E_Refused) (.ref E_NoWheel) = some false
  su_Refused_Refused : PySem.W.subIn K (.ref E_Refused) (.ref E_Refused) = some true
  f_InvalidCommand_init : Addr
  fd_InvalidCommand_init : FuncData
  F_InvalidCommand_init : Fun K "__init__" "InvalidCommand.__init__" s_InvalidCommand_init f_InvalidCommand_init fd_InvalidCommand_init
  b_InvalidCommand_init : Binds K fd_InvalidCommand_init ["self"] []
  er_InvalidCommand : Err K mg "InvalidCommand" E_InvalidCommand f_InvalidCommand_init
  f_InvalidText_init : Addr
  fd_InvalidText_init : FuncData
  F_InvalidText_init : Fun K "__init__" "InvalidText.__init__" s_InvalidText_init f_InvalidText_init fd_InvalidText_init
  b_InvalidText_init : Binds K fd_InvalidText_init ["self", "at"] []
  er_InvalidText : Err K mg "InvalidText" E_InvalidText f_InvalidText_init
  na_InvalidText : PySem.W.findIn K (.ref E_InvalidText) "at" = some none
  f_InvalidRota_init : Addr
  fd_InvalidRota_init : FuncData
  F_InvalidRota_init : Fun K "__init__" "InvalidRota.__init__" s_InvalidRota_init f_InvalidRota_init fd_InvalidRota_init
  b_InvalidRota_init : Binds K fd_InvalidRota_init ["self", "word"] []
  er_InvalidRota : Err K mg "InvalidRota" E_InvalidRota f_InvalidRota_init
  na_InvalidRota : PySem.W.findIn K (.ref E_InvalidRota) "word" = some none
  f_InvalidSeason_init : Addr
  fd_InvalidSeason_init : FuncData
  F_InvalidSeason_init : Fun K "__init__" "InvalidSeason.__init__" s_InvalidSeason_init f_InvalidSeason_init fd_InvalidSeason_init
  b_InvalidSeason_init : Binds K fd_InvalidSeason_init ["self", "word"] []
  er_InvalidSeason : Err K mg "InvalidSeason" E_InvalidSeason f_InvalidSeason_init
  na_InvalidSeason : PySem.W.findIn K (.ref E_InvalidSeason) "word" = some none
  f_NoWheel_init : Addr
  fd_NoWheel_init : FuncData
  F_NoWheel_init : Fun K "__init__" "NoWheel.__init__" s_NoWheel_init f_NoWheel_init fd_NoWheel_init
  b_NoWheel_init : Binds K fd_NoWheel_init ["self", "value"] []
  er_NoWheel : Err K mg "NoWheel" E_NoWheel f_NoWheel_init
  na_NoWheel : PySem.W.findIn K (.ref E_NoWheel) "value" = some none
  f_Refused_init : Addr
  fd_Refused_init : FuncData
  F_Refused_init : Fun K "__init__" "Refused.__init__" s_Refused_init f_Refused_init fd_Refused_init
  b_Refused_init : Binds K fd_Refused_init ["self", "value"] []
  er_Refused : Err K mg "Refused" E_Refused f_Refused_init
  na_Refused : PySem.W.findIn K (.ref E_Refused) "value" = some none
  R_TurnError : Addr
  rg_TurnError : mg "TurnError" = some (.ref R_TurnError)
  rt_TurnError : Root K R_TurnError
def Dfs.cl {w : World} {K : PySem.W.Frag} {mg : Str → Option Value} (D : Dfs w K mg) : Nat → Option (Addr × List Str)
  | 1 => some (D.C_Season, ["rota", "days", "budget", "looks", "wheels", "due"])
  | 5 => some (D.C_Live, ["past", "season", "is_possible", "sure"])
  | 0 => some (D.C_Rota, ["places", "rows", "text"])
  | 7 => some (D.C_Desk, ["live", "past"])
  | 25 => some (D.E_InvalidCommand, [])
  | 21 => some (D.E_InvalidText, ["at"])
  | 20 => some (D.E_InvalidRota, ["word"])
  | 22 => some (D.E_InvalidSeason, ["word"])
  | 26 => some (D.E_NoWheel, ["value"])
  | 30 => some (D.E_Refused, ["value"])
  | _ => none
section
variable {P : Program} {w : World} {K : PySem.W.Frag} {mg : Str → Option Value} {base : Heap}
theorem at_budget (D : Dfs w K mg) : AttrOk ⟨K, D.cl⟩ "budget" ix_budget := by
  intro c j h
  unfold ix_budget at h
  split at h
  · cases h; intro C ns e; cases e; exact ⟨rfl, by decide +kernel, by decide, D.cls_Season, D.na_Season_budget⟩
  · cases h
theorem at_days (D : Dfs w K mg) : AttrOk ⟨K, D.cl⟩ "days" ix_days := by
  intro c j h
  unfold ix_days at h
  split at h
  · cases h; intro C ns e; cases e; exact ⟨rfl, by decide +kernel, by decide, D.cls_Season, D.na_Season_days⟩
  · cases h; intro C ns e; cases e
  · cases h
theorem at_due (D : Dfs w K mg) : AttrOk ⟨K, D.cl⟩ "due" ix_due := by
  intro c j h
  unfold ix_due at h
  split at h
  · cases h; intro C ns e; cases e; exact ⟨rfl, by decide +kernel, by decide, D.cls_Season, D.na_Season_due⟩
  · cases h; intro C ns e; cases e
  · cases h
theorem at_is_possible (D : Dfs w K mg) : AttrOk ⟨K, D.cl⟩ "is_possible" ix_is_possible := by
  intro c j h
  unfold ix_is_possible at h
  split at h
  · cases h; intro C ns e; cases e; exact ⟨rfl, by decide +kernel, by decide, D.cls_Live, D.na_Live_is_possible⟩
  · cases h
theorem at_live (D : Dfs w K mg) : AttrOk ⟨K, D.cl⟩ "live" ix_live := by
  intro c j h
  unfold ix_live at h
  split at h
  · cases h; intro C ns e; cases e; exact ⟨rfl, by decide +kernel, by decide, D.cls_Desk, D.na_Desk_live⟩
  · cases h
theorem at_looks (D : Dfs w K mg) : AttrOk ⟨K, D.cl⟩ "looks" ix_looks := by
  intro c j h
  unfold ix_looks at h
  split at h
  · cases h; intro C ns e; cases e; exact ⟨rfl, by decide +kernel, by decide, D.cls_Season, D.na_Season_looks⟩
  · cases h
theorem at_past (D : Dfs w K mg) : AttrOk ⟨K, D.cl⟩ "past" ix_past := by
  intro c j h
  unfold ix_past at h
  split at h
  · cases h; intro C ns e; cases e; exact ⟨rfl, by decide +kernel, by decide, D.cls_Live, D.na_Live_past⟩
  · cases h; intro C ns e; cases e; exact ⟨rfl, by decide +kernel, by decide, D.cls_Desk, D.na_Desk_past⟩
  · cases h
theorem at_places (D : Dfs w K mg) : AttrOk ⟨K, D.cl⟩ "places" ix_places := by
  intro c j h
  unfold ix_places at h
  split at h
  · cases h; intro C ns e; cases e; exact ⟨rfl, by decide +kernel, by decide, D.cls_Rota, D.na_Rota_places⟩
  · cases h
theorem at_rota (D : Dfs w K mg) : AttrOk ⟨K, D.cl⟩ "rota" ix_rota := by
  intro c j h
  unfold ix_rota at h
  split at h
  · cases h; intro C ns e; cases e; exact ⟨rfl, by decide +kernel, by decide, D.cls_Season, D.na_Season_rota⟩
  · cases h; intro C ns e; cases e
  · cases h
theorem at_rows (D : Dfs w K mg) : AttrOk ⟨K, D.cl⟩ "rows" ix_rows := by
  intro c j h
  unfold ix_rows at h
  split at h
  · cases h; intro C ns e; cases e; exact ⟨rfl, by decide +kernel, by decide, D.cls_Rota, D.na_Rota_rows⟩
  · cases h
theorem at_season (D : Dfs w K mg) : AttrOk ⟨K, D.cl⟩ "season" ix_season := by
  intro c j h
  unfold ix_season at h
  split at h
  · cases h; intro C ns e; cases e; exact ⟨rfl, by decide +kernel, by decide, D.cls_Live, D.na_Live_season⟩
  · cases h
theorem at_sure (D : Dfs w K mg) : AttrOk ⟨K, D.cl⟩ "sure" ix_sure := by
  intro c j h
  unfold ix_sure at h
  split at h
  · cases h; intro C ns e; cases e; exact ⟨rfl, by decide +kernel, by decide, D.cls_Live, D.na_Live_sure⟩
  · cases h
theorem at_text (D : Dfs w K mg) : AttrOk ⟨K, D.cl⟩ "text" ix_text := by
  intro c j h
  unfold ix_text at h
  split at h
  · cases h; intro C ns e; cases e; exact ⟨rfl, by decide +kernel, by decide, D.cls_Rota, D.na_Rota_text⟩
  · cases h
theorem at_wheels (D : Dfs w K mg) : AttrOk ⟨K, D.cl⟩ "wheels" ix_wheels := by
  intro c j h
  unfold ix_wheels at h
  split at h
  · cases h; intro C ns e; cases e; exact ⟨rfl, by decide +kernel, by decide, D.cls_Season, D.na_Season_wheels⟩
  · cases h
theorem ok_InvalidCommand_init (D : Dfs w K mg) : FnOk P w K mg base (L2.CX P w) 1 D.f_InvalidCommand_init D.fd_InvalidCommand_init ["self"] (spI0 D.E_InvalidCommand) := err_init0 "a command that a desk does not take" D.F_InvalidCommand_init sc_InvalidCommand_init D.er_InvalidCommand.oex fun cdv A outer s H E => pss_one (ps_expr (pe_rootInit D.rt_TurnError (by rfl) D.rg_TurnError (pa_cons (pv 0) (pa_cons pe_str pa_nil))))
theorem ok_InvalidText_init (D : Dfs w K mg) : FnOk P w K mg base (L2.CX P w) 1 D.f_InvalidText_init D.fd_InvalidText_init ["self", "at"] (spI D.E_InvalidText "at") := err_init "a text that cannot be read" D.F_InvalidText_init sc_InvalidText_init D.er_InvalidText.oex D.na_InvalidText fun cdv A outer s H E => pss_cons (ps_expr (pe_rootInit D.rt_TurnError (by rfl) D.rg_TurnError (pa_cons (pv 0) (pa_cons pe_str pa_nil)))) (pss_one (ps_ost (pv 0) (pv 1)))
theorem ok_InvalidRota_init (D : Dfs w K mg) : FnOk P w K mg base (L2.CX P w) 1 D.f_InvalidRota_init D.fd_InvalidRota_init ["self", "word"] (spI D.E_InvalidRota "word") := err_init "arguments that make no rota" D.F_InvalidRota_init sc_InvalidRota_init D.er_InvalidRota.oex D.na_InvalidRota fun cdv A outer s H E => pss_cons (ps_expr (pe_rootInit D.rt_TurnError (by rfl) D.rg_TurnError (pa_cons (pv 0) (pa_cons pe_str pa_nil)))) (pss_one (ps_ost (pv 0) (pv 1)))
theorem ok_InvalidSeason_init (D : Dfs w K mg) : FnOk P w K mg base (L2.CX P w) 1 D.f_InvalidSeason_init D.fd_InvalidSeason_init ["self", "word"] (spI D.E_InvalidSeason "word") := err_init "arguments that make no season, or no harm" D.F_InvalidSeason_init sc_InvalidSeason_init D.er_InvalidSeason.oex D.na_InvalidSeason fun cdv A outer s H E => pss_cons (ps_expr (pe_rootInit D.rt_TurnError (by rfl) D.rg_TurnError (pa_cons (pv 0) (pa_cons pe_str pa_nil)))) (pss_one (ps_ost (pv 0) (pv 1)))
theorem ok_NoWheel_init (D : Dfs w K mg) : FnOk P w K mg base (L2.CX P w) 1 D.f_NoWheel_init D.fd_NoWheel_init ["self", "value"] (spI D.E_NoWheel "value") := err_init "a value that no wheel, or no place, has as its number" D.F_NoWheel_init sc_NoWheel_init D.er_NoWheel.oex D.na_NoWheel fun cdv A outer s H E => pss_cons (ps_expr (pe_rootInit D.rt_TurnError (by rfl) D.rg_TurnError (pa_cons (pv 0) (pa_cons pe_str pa_nil)))) (pss_one (ps_ost (pv 0) (pv 1)))
theorem ok_Refused_init (D : Dfs w K mg) : FnOk P w K mg base (L2.CX P w) 1 D.f_Refused_init D.fd_Refused_init ["self", "value"] (spI D.E_Refused "value") := err_init "a look that cannot be" D.F_Refused_init sc_Refused_init D.er_Refused.oex D.na_Refused fun cdv A outer s H E => pss_cons (ps_expr (pe_rootInit D.rt_TurnError (by rfl) D.rg_TurnError (pa_cons (pv 0) (pa_cons pe_str pa_nil)))) (pss_one (ps_ost (pv 0) (pv 1)))
theorem bd_is_integer (D : Dfs w K mg) (cdv : Value) (A : Around) (outer : List Env) (s : Shared) (H : Hp) (E : XK) (π : Nat → Option Pin) (hr : Room 0 (A.deeper (envOfC "is_integer" (defScope s_is_integer) s.heap.objs.size D.f_is_integer cdv))) : PSs (cxOf (L2.CX P w) P w K mg base ["value"] "is_integer" (defScope s_is_integer) D.f_is_integer cdv A outer s H E) (defBody s_is_integer) (TMs ⟨K, D.cl⟩ π (fun cls d _ H => E cls d H) b_is_integer) := by
  have nd := sc_is_integer.nd
  have tk : Takes (cxOf (L2.CX P w) P w K mg base ["value"] "is_integer" (defScope s_is_integer) D.f_is_integer cdv A outer s H E) (fun cls d _ H => E cls d H) := takes_of rfl rfl rfl rfl
  have hp : PassesOwn (model P w) (cxOf (L2.CX P w) P w K mg base ["value"] "is_integer" (defScope s_is_integer) D.f_is_integer cdv A outer s H E).A (cxOf (L2.CX P w) P w K mg base ["value"] "is_integer" (defScope s_is_integer) D.f_is_integer cdv A outer s H E).env (cxOf (L2.CX P w) P w K mg base ["value"] "is_integer" (defScope s_is_integer) D.f_is_integer cdv A outer s H E).xe := passes_of rfl
  unfold b_is_integer
  exact (dss_one (ds_ret (de_and (de_isi rfl .int (pe_callB call_isi (by rfl) D.z_isinstance (by decide +kernel) (pa_cons (dp_var (pv 0)) (pa_cons (pe_bltn (v := .ty "int") (by rfl) D.z_int (by decide +kernel) rfl) pa_nil)))) (de_one (de_not (de_isi rfl .bool (pe_callB call_isi (by rfl) D.z_isinstance (by decide +kernel) (pa_cons (dp_var (pv 0)) (pa_cons (pe_bltn (v := .ty "bool") (by rfl) D.z_bool (by decide +kernel) rfl) pa_nil)))))))))
theorem ok_is_integer (D : Dfs w K mg) : FnOk P w K mg base (L2.CX P w) 1 D.f_is_integer D.fd_is_integer ["value"] (spM ⟨K, D.cl⟩ 1 false false m_is_integer) :=
  fun_ok2 (cl := D.cl) (n := 1) (fm := m_is_integer) D.F_is_integer sc_is_integer (by decide) (by rfl) (by unfold m_is_integer; rfl) (bd_is_integer D)
theorem bd_is_sequence (D : Dfs w K mg) (cdv : Value) (A : Around) (outer : List Env) (s : Shared) (H : Hp) (E : XK) (π : Nat → Option Pin) (hr : Room 0 (A.deeper (envOfC "is_sequence" (defScope s_is_sequence) s.heap.objs.size D.f_is_sequence cdv))) : PSs (cxOf (L2.CX P w) P w K mg base ["value"] "is_sequence" (defScope s_is_sequence) D.f_is_sequence cdv A outer s H E) (defBody s_is_sequence) (TMs ⟨K, D.cl⟩ π (fun cls d _ H => E cls d H) b_is_sequence) := by
  have nd := sc_is_sequence.nd
  have tk : Takes (cxOf (L2.CX P w) P w K mg base ["value"] "is_sequence" (defScope s_is_sequence) D.f_is_sequence cdv A outer s H E) (fun cls d _ H => E cls d H) := takes_of rfl rfl rfl rfl
  have hp : PassesOwn (model P w) (cxOf (L2.CX P w) P w K mg base ["value"] "is_sequence" (defScope s_is_sequence) D.f_is_sequence cdv A outer s H E).A (cxOf (L2.CX P w) P w K mg base ["value"] "is_sequence" (defScope s_is_sequence) D.f_is_sequence cdv A outer s H E).env (cxOf (L2.CX P w) P w K mg base ["value"] "is_sequence" (defScope s_is_sequence) D.f_is_sequence cdv A outer s H E).xe := passes_of rfl
  unfold b_is_sequence
  exact (dss_one (ds_ret (de_isi2 rfl .list .tuple (pe_callB call_isiT (by rfl) D.z_isinstance (by decide +kernel) (pa_cons (dp_var (pv 0)) (pa_cons (pe_tup (pa_cons (pe_bltn (v := .ty "list") (by rfl) D.z_list (by decide +kernel) rfl) (pa_cons (pe_bltn (v := .ty "tuple") (by rfl) D.z_tuple (by decide +kernel) rfl) pa_nil))) pa_nil))))))
theorem ok_is_sequence (D : Dfs w K mg) : FnOk P w K mg base (L2.CX P w) 1 D.f_is_sequence D.fd_is_sequence ["value"] (spM ⟨K, D.cl⟩ 1 false false m_is_sequence) :=
  fun_ok2 (cl := D.cl) (n := 1) (fm := m_is_sequence) D.F_is_sequence sc_is_sequence (by decide) (by rfl) (by unfold m_is_sequence; rfl) (bd_is_sequence D)
theorem bd_number_in (D : Dfs w K mg) (cdv : Value) (A : Around) (outer : List Env) (s : Shared) (H : Hp) (E : XK) (π : Nat → Option Pin) (hr : Room 0 (A.deeper (envOfC "number_in" (defScope s_number_in) s.heap.objs.size D.f_number_in cdv))) : PSs (cxOf (L2.CX P w) P w K mg base ["word", "digits", "sign"] "number_in" (defScope s_number_in) D.f_number_in cdv A outer s H E) (defBody s_number_in) (TMs ⟨K, D.cl⟩ π (fun cls d _ H => E cls d H) b_number_in_v2) := by
  have nd := sc_number_in.nd
  have tk : Takes (cxOf (L2.CX P w) P w K mg base ["word", "digits", "sign"] "number_in" (defScope s_number_in) D.f_number_in cdv A outer s H E) (fun cls d _ H => E cls d H) := takes_of rfl rfl rfl rfl
  have hp : PassesOwn (model P w) (cxOf (L2.CX P w) P w K mg base ["word", "digits", "sign"] "number_in" (defScope s_number_in) D.f_number_in cdv A outer s H E).A (cxOf (L2.CX P w) P w K mg base ["word", "digits", "sign"] "number_in" (defScope s_number_in) D.f_number_in cdv A outer s H E).env (cxOf (L2.CX P w) P w K mg base ["word", "digits", "sign"] "number_in" (defScope s_number_in) D.f_number_in cdv A outer s H E).xe := passes_of rfl
  unfold b_number_in_v2
  exact (dss_cons (ds_if (PW.pt (dw_or (dt_not (dt_chain (pt_chain op_le op_le de_int (de_call1 (pe_callB cr_lenA (by rfl) D.z_len (by decide +kernel) (pa_cons (dp_var (pv 0)) pa_nil)) cs_len) (dp_var (pv 1))) os_le os_le)) (dw_or1 (dt_not (dt_val (de_call1 (pe_callB (cr_all rfl) (by rfl) D.z_all (by decide +kernel) (pa_cons ((dn_lc (pe_lc (own := [("sign", 2)]) rfl nd (di_str (de_var (pv 0))) (blkOk_by (own := [("sign", 2)]) (N := ["word", "digits", "sign"]) (sc := defScope s_number_in) (by decide +kernel)) (fun _ _ _ _ _ => (dg_name (pg_name (i := 2) nd rfl (by first | exact Or.inl rfl | exact Or.inr rfl)))) (fun _ _ _ _ _ => dts_nil) (fun _ _ _ _ _ => (de_cmp op_in_sign os_inSg (de_var (pv 2)) (de_str).peek (by rfl)))) (by decide))).keep.peek pa_nil)) cs_all)))))) (dss_one (ds_ret de_non)) dss_nil)
    (dss_one (ds_ret (de_ifExp (PW.pt (dw_or (dt_cmp (op_eqD hr.units) os_eq (de_var (pv 0)) (de_str).peek (nomark _)) (dw_or1 (dt_cmp (op_neD hr.units) os_ne (de_ixV (pe_ix ix_seq (pv 0) de_int (fun _ _ => rfl))) (de_str).peek (nomark _))))) (de_call1 (pe_callTy call_int_str (by rfl) D.z_int (by decide +kernel) (pa_cons (dp_var (pv 0)) pa_nil)) cs_intS) de_non))))
theorem ok_number_in (D : Dfs w K mg) : FnOk P w K mg base (L2.CX P w) 1 D.f_number_in D.fd_number_in ["word", "digits"] (spM ⟨K, D.cl⟩ 2 false false m_number_in_v2) :=
  fun_ok2 (cl := D.cl) (n := 2) (fm := m_number_in_v2) D.F_number_in sc_number_in (by decide) (by rfl) (by unfold m_number_in_v2; rfl) (bd_number_in D)
theorem bd_way (D : Dfs w K mg) (cdv : Value) (A : Around) (outer : List Env) (s : Shared) (H : Hp) (E : XK) (π : Nat → Option Pin) (hr : Room 0 (A.deeper (envOfC "way" (defScope s_way) s.heap.objs.size D.f_way cdv))) : PSs (cxOf (L2.CX P w) P w K mg base ["rota", "wheel", "found", "spot", "turn", "turned", "moves"] "way" (defScope s_way) D.f_way cdv A outer s H E) (defBody s_way) (TMs ⟨K, D.cl⟩ π (fun cls d _ H => E cls d H) b_way) := by
  have nd := sc_way.nd
  have tk : Takes (cxOf (L2.CX P w) P w K mg base ["rota", "wheel", "found", "spot", "turn", "turned", "moves"] "way" (defScope s_way) D.f_way cdv A outer s H E) (fun cls d _ H => E cls d H) := takes_of rfl rfl rfl rfl
  have hp : PassesOwn (model P w) (cxOf (L2.CX P w) P w K mg base ["rota", "wheel", "found", "spot", "turn", "turned", "moves"] "way" (defScope s_way) D.f_way cdv A outer s H E).A (cxOf (L2.CX P w) P w K mg base ["rota", "wheel", "found", "spot", "turn", "turned", "moves"] "way" (defScope s_way) D.f_way cdv A outer s H E).env (cxOf (L2.CX P w) P w K mg base ["rota", "wheel", "found", "spot", "turn", "turned", "moves"] "way" (defScope s_way) D.f_way cdv A outer s H E).xe := passes_of rfl
  unfold b_way
  exact (dss_cons (ds_par (ps_par (i := 2) (j := 3) (by rfl) nd rfl rfl (by decide) rfl rfl (dk_own (dn_lst da_nil) (dk_val (de_var (pv 1)) dk_nil)) (by rfl)))
    (dss_cons (ds_for hp rfl (di_rng1 (by rfl) D.z_range (da_cons (de_attr rfl (at_places D) (dp_var (pv 0)) (by rfl)) da_nil)) (dg_name (pg_name (i := 4) nd rfl (by first | exact Or.inl rfl | exact Or.inr rfl))) (dss_cons (ds_for hp rfl (di_seq rfl (de_attr rfl (at_rows D) (dp_var (pv 0)) (by rfl))) (dg_tup rfl rfl (dgs_cons (dg_name (pg_name (i := 5) nd rfl (by first | exact Or.inl rfl | exact Or.inr rfl))) (dgs_cons (dg_name (pg_name (i := 6) nd rfl (by first | exact Or.inl rfl | exact Or.inr rfl))) dgs_nil))) (dss_cons (ds_expr (de_append rfl (pe_bm PySem.F.plainAttrs_list PySem.F.slot_list_append PySem.F.type_list_append mt_append (pv 2) (pa_cons (de_var (pv 3)) pa_nil))))
    (dss_one (ds_asgV (ps_set (i := 3) nd rfl (by first | exact Or.inl rfl | exact Or.inr rfl) (de_ixV (pe_ix ix_seq (pv 6) (de_var (pv 3)) (fun _ _ => rfl))))))))
    (dss_one (ds_if (dt_cmp (op_eqD hr.units) os_eq (de_var (pv 3)) (dp_var (pv 1)) (nomark _)) (dss_one (ds_ret (de_call1 (pe_callTy call_tuple_of (by rfl) D.z_tuple (by decide +kernel) (pa_cons (dp_var (pv 2)) pa_nil)) cs_tuple))) dss_nil))))
    (dss_one (ds_ret (de_call1 (pe_callTy call_tuple_of (by rfl) D.z_tuple (by decide +kernel) (pa_cons (dp_var (pv 2)) pa_nil)) cs_tuple)))))
theorem ok_way (D : Dfs w K mg) : FnOk P w K mg base (L2.CX P w) 1 D.f_way D.fd_way ["rota", "wheel"] (spM ⟨K, D.cl⟩ 2 false false m_way) :=
  fun_ok2 (cl := D.cl) (n := 2) (fm := m_way) D.F_way sc_way (by decide) (by rfl) (by unfold m_way; rfl) (bd_way D)
theorem bd_every_look (D : Dfs w K mg) (cdv : Value) (A : Around) (outer : List Env) (s : Shared) (H : Hp) (E : XK) (π : Nat → Option Pin) (hr : Room 0 (A.deeper (envOfC "every_look" (defScope s_every_look) s.heap.objs.size D.f_every_look cdv))) : PSs (cxOf (L2.CX P w) P w K mg base ["rota", "days", "day", "wheel", "side"] "every_look" (defScope s_every_look) D.f_every_look cdv A outer s H E) (defBody s_every_look) (TMs ⟨K, D.cl⟩ π (fun cls d _ H => E cls d H) b_every_look) := by
  have nd := sc_every_look.nd
  have tk : Takes (cxOf (L2.CX P w) P w K mg base ["rota", "days", "day", "wheel", "side"] "every_look" (defScope s_every_look) D.f_every_look cdv A outer s H E) (fun cls d _ H => E cls d H) := takes_of rfl rfl rfl rfl
  have hp : PassesOwn (model P w) (cxOf (L2.CX P w) P w K mg base ["rota", "days", "day", "wheel", "side"] "every_look" (defScope s_every_look) D.f_every_look cdv A outer s H E).A (cxOf (L2.CX P w) P w K mg base ["rota", "days", "day", "wheel", "side"] "every_look" (defScope s_every_look) D.f_every_look cdv A outer s H E).env (cxOf (L2.CX P w) P w K mg base ["rota", "days", "day", "wheel", "side"] "every_look" (defScope s_every_look) D.f_every_look cdv A outer s H E).xe := passes_of rfl
  unfold b_every_look
  exact (dss_one (ds_ret ((dn_lcN (pe_lcN (own := [("day", 2), ("wheel", 3), ("side", 4)]) rfl nd (di_rng1 (by rfl) D.z_range (da_cons (de_bin op_addA os_add (de_var (pv 1)) (de_int).peek) da_nil)) (blkOk_by (own := [("day", 2), ("wheel", 3), ("side", 4)]) (N := ["rota", "days", "day", "wheel", "side"]) (sc := defScope s_every_look) (by decide +kernel)) (by decide) (fun _ _ _ _ _ => (dg_name (pg_name (i := 2) nd rfl (by first | exact Or.inl rfl | exact Or.inr rfl)))) (fun _ _ _ _ _ => dts_nil) (ins3 (v1 := [3, 4]) (v2 := [4]) rfl (fun _ _ _ _ _ => (di_rng1 (by rfl) D.z_range (da_cons (de_attr rfl (at_places D) (dp_var (pv 0)) (by rfl)) da_nil))) (fun _ _ _ _ _ => (dg_name (pg_name (i := 3) nd rfl (by first | exact Or.inl rfl | exact Or.inr rfl)))) (fun _ _ _ _ _ => dts_nil) (fun _ _ _ _ _ => (di_rng1 (by rfl) D.z_range (da_cons (de_c (pe_glob (by rfl) D.c_PAIR_seasons (D.r_PAIR_seasons)) fun _ => .int _) da_nil))) (fun _ _ _ _ _ => (dg_name (pg_name (i := 4) nd rfl (by first | exact Or.inl rfl | exact Or.inr rfl)))) (fun _ _ _ _ _ => dts_nil) (fun _ _ _ _ _ => (de_tup (da_cons (de_var (pv 2)) (da_cons (de_var (pv 3)) (da_cons (de_var (pv 4)) da_nil))))) (by decide) (by decide) (by decide))) (by decide) (by decide))).keep))
theorem ok_every_look (D : Dfs w K mg) : FnOk P w K mg base (L2.CX P w) 1 D.f_every_look D.fd_every_look ["rota", "days"] (spM ⟨K, D.cl⟩ 2 false false m_every_look) :=
  fun_ok2 (cl := D.cl) (n := 2) (fm := m_every_look) D.F_every_look sc_every_look (by decide) (by rfl) (by unfold m_every_look; rfl) (bd_every_look D)
theorem bd_due_days (D : Dfs w K mg) (cdv : Value) (A : Around) (outer : List Env) (s : Shared) (H : Hp) (E : XK) (π : Nat → Option Pin) (hr : Room 0 (A.deeper (envOfC "due_days" (defScope s_due_days) s.heap.objs.size D.f_due_days cdv))) : PSs (cxOf (L2.CX P w) P w K mg base ["season", "wheel", "day", "one"] "due_days" (defScope s_due_days) D.f_due_days cdv A outer s H E) (defBody s_due_days) (TMs ⟨K, D.cl⟩ π (fun cls d _ H => E cls d H) b_due_days) := by
  have nd := sc_due_days.nd
  have tk : Takes (cxOf (L2.CX P w) P w K mg base ["season", "wheel", "day", "one"] "due_days" (defScope s_due_days) D.f_due_days cdv A outer s H E) (fun cls d _ H => E cls d H) := takes_of rfl rfl rfl rfl
  have hp : PassesOwn (model P w) (cxOf (L2.CX P w) P w K mg base ["season", "wheel", "day", "one"] "due_days" (defScope s_due_days) D.f_due_days cdv A outer s H E).A (cxOf (L2.CX P w) P w K mg base ["season", "wheel", "day", "one"] "due_days" (defScope s_due_days) D.f_due_days cdv A outer s H E).env (cxOf (L2.CX P w) P w K mg base ["season", "wheel", "day", "one"] "due_days" (defScope s_due_days) D.f_due_days cdv A outer s H E).xe := passes_of rfl
  unfold b_due_days
  exact (dss_one (ds_ret (de_call1 (pe_callTy call_tuple_of (by rfl) D.z_tuple (by decide +kernel) (pa_cons ((dn_lc (pe_lc (own := [("day", 2), ("one", 3)]) rfl nd (di_seq rfl (de_attr rfl (at_due D) (dp_var (pv 0)) (by rfl))) (blkOk_by (own := [("day", 2), ("one", 3)]) (N := ["season", "wheel", "day", "one"]) (sc := defScope s_due_days) (by decide +kernel)) (fun _ _ _ _ _ => (dg_tup rfl rfl (dgs_cons (dg_name (pg_name (i := 2) nd rfl (by first | exact Or.inl rfl | exact Or.inr rfl))) (dgs_cons (dg_name (pg_name (i := 3) nd rfl (by first | exact Or.inl rfl | exact Or.inr rfl))) dgs_nil)))) (fun _ _ _ _ _ => (dts_one (dt_cmp (op_eqD hr.units) os_eq (de_var (pv 3)) (dp_var (pv 1)) (nomark _)))) (fun _ _ _ _ _ => (de_var (pv 2)))) (by decide))).keep.peek pa_nil)) cs_tuple)))
theorem ok_due_days (D : Dfs w K mg) : FnOk P w K mg base (L2.CX P w) 1 D.f_due_days D.fd_due_days ["season", "wheel"] (spM ⟨K, D.cl⟩ 2 false false m_due_days) :=
  fun_ok2 (cl := D.cl) (n := 2) (fm := m_due_days) D.F_due_days sc_due_days (by decide) (by rfl) (by unfold m_due_days; rfl) (bd_due_days D)
theorem bd_seen_by_day (D : Dfs w K mg) (cdv : Value) (A : Around) (outer : List Env) (s : Shared) (H : Hp) (E : XK) (π : Nat → Option Pin) (hr : Room 0 (A.deeper (envOfC "seen_by_day" (defScope s_seen_by_day) s.heap.objs.size D.f_seen_by_day cdv))) : PSs (cxOf (L2.CX P w) P w K mg base ["season", "wheel", "found", "day", "one", "up"] "seen_by_day" (defScope s_seen_by_day) D.f_seen_by_day cdv A outer s H E) (defBody s_seen_by_day) (TMs ⟨K, D.cl⟩ π (fun cls d _ H => E cls d H) b_seen_by_day) := by
  have nd := sc_seen_by_day.nd
  have tk : Takes (cxOf (L2.CX P w) P w K mg base ["season", "wheel", "found", "day", "one", "up"] "seen_by_day" (defScope s_seen_by_day) D.f_seen_by_day cdv A outer s H E) (fun cls d _ H => E cls d H) := takes_of rfl rfl rfl rfl
  have hp : PassesOwn (model P w) (cxOf (L2.CX P w) P w K mg base ["season", "wheel", "found", "day", "one", "up"] "seen_by_day" (defScope s_seen_by_day) D.f_seen_by_day cdv A outer s H E).A (cxOf (L2.CX P w) P w K mg base ["season", "wheel", "found", "day", "one", "up"] "seen_by_day" (defScope s_seen_by_day) D.f_seen_by_day cdv A outer s H E).env (cxOf (L2.CX P w) P w K mg base ["season", "wheel", "found", "day", "one", "up"] "seen_by_day" (defScope s_seen_by_day) D.f_seen_by_day cdv A outer s H E).xe := passes_of rfl
  unfold b_seen_by_day
  exact (dss_cons (ds_asgN (ps_set (i := 2) nd rfl (by first | exact Or.inl rfl | exact Or.inr rfl) (dn_dnewK pe_dnewK)))
    (dss_cons (ds_for hp rfl (di_seq rfl (de_attr rfl (at_looks D) (dp_var (pv 0)) (by rfl))) (dg_tup rfl rfl (dgs_cons (dg_name (pg_name (i := 3) nd rfl (by first | exact Or.inl rfl | exact Or.inr rfl))) (dgs_cons (dg_name (pg_name (i := 4) nd rfl (by first | exact Or.inl rfl | exact Or.inr rfl))) (dgs_cons (dg_name (pg_name (i := 5) nd rfl (by first | exact Or.inl rfl | exact Or.inr rfl))) dgs_nil)))) (dss_one (ds_if (dt_cmp (op_eqD hr.units) os_eq (de_var (pv 4)) (dp_var (pv 1)) (nomark _)) (dss_one (ds_dput (ps_dput (hu_of hr) (pv 2) (de_var (pv 3)) ((dn_lst (da_star rfl (de_dget2 (pe_dget2 (hu_of hr) (pv 2) (de_var (pv 3)) ((dn_lst da_nil)).keep ⟨rfl, rfl, rfl, rfl⟩)).peek (da_cons (de_var (pv 5)) da_nil) (StX.pa_star (de_dget2 (pe_dget2 (hu_of hr) (pv 2) (de_var (pv 3)) ((dn_lst da_nil)).keep ⟨rfl, rfl, rfl, rfl⟩)).peek (da_cons (de_var (pv 5)) da_nil))))).keep rfl))) dss_nil)))
    (dss_one (ds_retO (pv 2)))))
theorem ok_seen_by_day (D : Dfs w K mg) : FnOk P w K mg base (L2.CX P w) 1 D.f_seen_by_day D.fd_seen_by_day ["season", "wheel"] (spM ⟨K, D.cl⟩ 2 false true m_seen_by_day) :=
  fun_ok2 (cl := D.cl) (n := 2) (fm := m_seen_by_day) D.F_seen_by_day sc_seen_by_day (by decide) (by rfl) (by unfold m_seen_by_day; rfl) (bd_seen_by_day D)
theorem bd_chosen (D : Dfs w K mg) (cdv : Value) (A : Around) (outer : List Env) (s : Shared) (H : Hp) (E : XK) (π : Nat → Option Pin) (hr : Room 0 (A.deeper (envOfC "chosen" (defScope s_chosen) s.heap.objs.size D.f_chosen cdv))) : PSs (cxOf (L2.CX P w) P w K mg base ["size", "found", "turn", "at"] "chosen" (defScope s_chosen) D.f_chosen cdv A outer s H E) (defBody s_chosen) (TMs ⟨K, D.cl⟩ π (fun cls d _ H => E cls d H) b_chosen) := by
  have nd := sc_chosen.nd
  have tk : Takes (cxOf (L2.CX P w) P w K mg base ["size", "found", "turn", "at"] "chosen" (defScope s_chosen) D.f_chosen cdv A outer s H E) (fun cls d _ H => E cls d H) := takes_of rfl rfl rfl rfl
  have hp : PassesOwn (model P w) (cxOf (L2.CX P w) P w K mg base ["size", "found", "turn", "at"] "chosen" (defScope s_chosen) D.f_chosen cdv A outer s H E).A (cxOf (L2.CX P w) P w K mg base ["size", "found", "turn", "at"] "chosen" (defScope s_chosen) D.f_chosen cdv A outer s H E).env (cxOf (L2.CX P w) P w K mg base ["size", "found", "turn", "at"] "chosen" (defScope s_chosen) D.f_chosen cdv A outer s H E).xe := passes_of rfl
  unfold b_chosen
  exact (dss_cons (ds_asgV (ps_set (i := 1) nd rfl (by first | exact Or.inl rfl | exact Or.inr rfl) ((dn_lst (da_cons de_int da_nil))).keep))
    (dss_cons (ds_for hp rfl (di_rng1 (by rfl) D.z_range (da_cons (de_var (pv 0)) da_nil)) (dg_name (pg_name (i := 2) nd rfl (by first | exact Or.inl rfl | exact Or.inr rfl))) (dss_one (ds_asgV (ps_set (i := 1) nd rfl (by first | exact Or.inl rfl | exact Or.inr rfl) ((dn_lst (da_cons de_int (da_star rfl ((dn_lc (pe_lc (own := [("at", 3)]) rfl nd (di_rng1 (by rfl) D.z_range (da_cons (de_bin op_sub os_sub (de_call1 (pe_callB cr_lenA (by rfl) D.z_len (by decide +kernel) (pa_cons (dp_var (pv 1)) pa_nil)) cs_len) (de_int).peek) da_nil)) (blkOk_by (own := [("at", 3)]) (N := ["size", "found", "turn", "at"]) (sc := defScope s_chosen) (by decide +kernel)) (fun _ _ _ _ _ => (dg_name (pg_name (i := 3) nd rfl (by first | exact Or.inl rfl | exact Or.inr rfl)))) (fun _ _ _ _ _ => dts_nil) (fun _ _ _ _ _ => (de_bin op_addA os_add (de_ixV (pe_ix ix_seq (pv 1) (de_var (pv 3)) (fun _ _ => rfl))) (de_ixV (pe_ix ix_seq (pv 1) (de_bin op_addA os_add (de_var (pv 3)) (de_int).peek) (fun _ _ => rfl))).peek))) (by decide))).keep.peek (da_cons de_int da_nil) (StX.pa_star ((dn_lc (pe_lc (own := [("at", 3)]) rfl nd (di_rng1 (by rfl) D.z_range (da_cons (de_bin op_sub os_sub (de_call1 (pe_callB cr_lenA (by rfl) D.z_len (by decide +kernel) (pa_cons (dp_var (pv 1)) pa_nil)) cs_len) (de_int).peek) da_nil)) (blkOk_by (own := [("at", 3)]) (N := ["size", "found", "turn", "at"]) (sc := defScope s_chosen) (by decide +kernel)) (fun _ _ _ _ _ => (dg_name (pg_name (i := 3) nd rfl (by first | exact Or.inl rfl | exact Or.inr rfl)))) (fun _ _ _ _ _ => dts_nil) (fun _ _ _ _ _ => (de_bin op_addA os_add (de_ixV (pe_ix ix_seq (pv 1) (de_var (pv 3)) (fun _ _ => rfl))) (de_ixV (pe_ix ix_seq (pv 1) (de_bin op_addA os_add (de_var (pv 3)) (de_int).peek) (fun _ _ => rfl))).peek))) (by decide))).keep.peek (da_cons de_int da_nil)))))).keep))))
    (dss_one (ds_ret (de_var (pv 1))))))
theorem ok_chosen (D : Dfs w K mg) : FnOk P w K mg base (L2.CX P w) 1 D.f_chosen D.fd_chosen ["size"] (spM ⟨K, D.cl⟩ 1 false false m_chosen) :=
  fun_ok2 (cl := D.cl) (n := 1) (fm := m_chosen) D.F_chosen sc_chosen (by decide) (by rfl) (by unfold m_chosen; rfl) (bd_chosen D)
theorem bd_joined (D : Dfs w K mg) (cdv : Value) (A : Around) (outer : List Env) (s : Shared) (H : Hp) (E : XK) (π : Nat → Option Pin) (hr : Room 0 (A.deeper (envOfC "joined" (defScope s_joined) s.heap.objs.size D.f_joined cdv))) : PSs (cxOf (L2.CX P w) P w K mg base ["one", "other", "bound", "found", "at", "many", "spot", "more", "size"] "joined" (defScope s_joined) D.f_joined cdv A outer s H E) (defBody s_joined) (TMs ⟨K, D.cl⟩ π (fun cls d _ H => E cls d H) b_joined) := by
  have nd := sc_joined.nd
  have tk : Takes (cxOf (L2.CX P w) P w K mg base ["one", "other", "bound", "found", "at", "many", "spot", "more", "size"] "joined" (defScope s_joined) D.f_joined cdv A outer s H E) (fun cls d _ H => E cls d H) := takes_of rfl rfl rfl rfl
  have hp : PassesOwn (model P w) (cxOf (L2.CX P w) P w K mg base ["one", "other", "bound", "found", "at", "many", "spot", "more", "size"] "joined" (defScope s_joined) D.f_joined cdv A outer s H E).A (cxOf (L2.CX P w) P w K mg base ["one", "other", "bound", "found", "at", "many", "spot", "more", "size"] "joined" (defScope s_joined) D.f_joined cdv A outer s H E).env (cxOf (L2.CX P w) P w K mg base ["one", "other", "bound", "found", "at", "many", "spot", "more", "size"] "joined" (defScope s_joined) D.f_joined cdv A outer s H E).xe := passes_of rfl
  unfold b_joined
  exact (dss_cons (ds_setLcN (ps_setLc (own := [("size", 8)]) (i := 3) rfl nd rfl rfl (sw_true rfl rfl rfl (by decide +kernel)) (di_rng1 (by rfl) D.z_range (da_cons (de_bin op_addA os_add (de_var (pv 2)) (de_int).peek) da_nil)) (blkOk_by (own := [("size", 8)]) (N := ["one", "other", "bound", "found", "at", "many", "spot", "more", "size"]) (sc := defScope s_joined) (by decide +kernel)) (fun _ _ _ _ _ => (dg_name (pg_name (i := 8) nd rfl (by first | exact Or.inl rfl | exact Or.inr rfl)))) (fun _ _ _ _ _ => dts_nil) (fun _ _ _ _ _ => de_int)) (by decide))
    (dss_cons (ds_for hp rfl (di_enum rfl (by rfl) D.z_enumerate (de_var (pv 0))) (dg_tup rfl rfl (dgs_cons (dg_name (pg_name (i := 4) nd rfl (by first | exact Or.inl rfl | exact Or.inr rfl))) (dgs_cons (dg_name (pg_name (i := 5) nd rfl (by first | exact Or.inl rfl | exact Or.inr rfl))) dgs_nil))) (dss_one (ds_for hp rfl (di_enum rfl (by rfl) D.z_enumerate (de_var (pv 1))) (dg_tup rfl rfl (dgs_cons (dg_name (pg_name (i := 6) nd rfl (by first | exact Or.inl rfl | exact Or.inr rfl))) (dgs_cons (dg_name (pg_name (i := 7) nd rfl (by first | exact Or.inl rfl | exact Or.inr rfl))) dgs_nil))) (dss_one (ds_if (dt_cmp op_le os_le (de_bin op_addA os_add (de_var (pv 4)) (dp_var (pv 6))) (dp_var (pv 2)) (nomark _)) (dss_one (ds_laug (ps_augL (pv 3) (de_bin op_addA os_add (de_var (pv 4)) (dp_var (pv 6))) (de_bin op_mul os_mulI (de_var (pv 5)) (dp_var (pv 7)))))) dss_nil)))))
    (dss_one (ds_ret (de_var (pv 3))))))
theorem ok_joined (D : Dfs w K mg) : FnOk P w K mg base (L2.CX P w) 1 D.f_joined D.fd_joined ["one", "other", "bound"] (spM ⟨K, D.cl⟩ 3 false false m_joined) :=
  fun_ok2 (cl := D.cl) (n := 3) (fm := m_joined) D.F_joined sc_joined (by decide) (by rfl) (by unfold m_joined; rfl) (bd_joined D)
theorem bd_Rota_len (D : Dfs w K mg) (cdv : Value) (A : Around) (outer : List Env) (s : Shared) (H : Hp) (E : XK) (π : Nat → Option Pin) (hr : Room 0 (A.deeper (envOfC "Rota.__len__" (defScope s_Rota_len) s.heap.objs.size D.f_Rota_len cdv))) : PSs (cxOf (L2.CX P w) P w K mg base ["self"] "Rota.__len__" (defScope s_Rota_len) D.f_Rota_len cdv A outer s H E) (defBody s_Rota_len) (TMs ⟨K, D.cl⟩ π (fun cls d _ H => E cls d H) b_Rota_len) := by
  have nd := sc_Rota_len.nd
  have tk : Takes (cxOf (L2.CX P w) P w K mg base ["self"] "Rota.__len__" (defScope s_Rota_len) D.f_Rota_len cdv A outer s H E) (fun cls d _ H => E cls d H) := takes_of rfl rfl rfl rfl
  have hp : PassesOwn (model P w) (cxOf (L2.CX P w) P w K mg base ["self"] "Rota.__len__" (defScope s_Rota_len) D.f_Rota_len cdv A outer s H E).A (cxOf (L2.CX P w) P w K mg base ["self"] "Rota.__len__" (defScope s_Rota_len) D.f_Rota_len cdv A outer s H E).env (cxOf (L2.CX P w) P w K mg base ["self"] "Rota.__len__" (defScope s_Rota_len) D.f_Rota_len cdv A outer s H E).xe := passes_of rfl
  unfold b_Rota_len
  exact (dss_one (ds_ret (de_call1 (pe_callB cr_lenA (by rfl) D.z_len (by decide +kernel) (pa_cons (de_attr rfl (at_rows D) (dp_var (pv 0)) (by rfl)).peek pa_nil)) cs_len)))
theorem ok_Rota_len (D : Dfs w K mg) : FnOk P w K mg base (L2.CX P w) 1 D.f_Rota_len D.fd_Rota_len ["self"] (spM ⟨K, D.cl⟩ 1 false false m_Rota_len) :=
  fun_ok2 (cl := D.cl) (n := 1) (fm := m_Rota_len) D.F_Rota_len sc_Rota_len (by decide) (by rfl) (by unfold m_Rota_len; rfl) (bd_Rota_len D)
theorem bd_text_of_rota (D : Dfs w K mg) (cdv : Value) (A : Around) (outer : List Env) (s : Shared) (H : Hp) (E : XK) (π : Nat → Option Pin) (hr : Room 0 (A.deeper (envOfC "text_of_rota" (defScope s_text_of_rota) s.heap.objs.size D.f_text_of_rota cdv))) : PSs (cxOf (L2.CX P w) P w K mg base ["places", "rows", "found", "turned", "moves", "spots", "where", "one"] "text_of_rota" (defScope s_text_of_rota) D.f_text_of_rota cdv A outer s H E) (defBody s_text_of_rota) (TMs ⟨K, D.cl⟩ π (fun cls d _ H => E cls d H) b_text_of_rota) := by
  have nd := sc_text_of_rota.nd
  have tk : Takes (cxOf (L2.CX P w) P w K mg base ["places", "rows", "found", "turned", "moves", "spots", "where", "one"] "text_of_rota" (defScope s_text_of_rota) D.f_text_of_rota cdv A outer s H E) (fun cls d _ H => E cls d H) := takes_of rfl rfl rfl rfl
  have hp : PassesOwn (model P w) (cxOf (L2.CX P w) P w K mg base ["places", "rows", "found", "turned", "moves", "spots", "where", "one"] "text_of_rota" (defScope s_text_of_rota) D.f_text_of_rota cdv A outer s H E).A (cxOf (L2.CX P w) P w K mg base ["places", "rows", "found", "turned", "moves", "spots", "where", "one"] "text_of_rota" (defScope s_text_of_rota) D.f_text_of_rota cdv A outer s H E).env (cxOf (L2.CX P w) P w K mg base ["places", "rows", "found", "turned", "moves", "spots", "where", "one"] "text_of_rota" (defScope s_text_of_rota) D.f_text_of_rota cdv A outer s H E).xe := passes_of rfl
  unfold b_text_of_rota
  exact (dss_cons (ds_asgV (ps_set (i := 2) nd rfl (by first | exact Or.inl rfl | exact Or.inr rfl) (de_joined (mm := [(mPure (.str "places ")), (m1 fFmt (mVar 0))]) (PJ.cons de_str (PJ.cons (de_fmt (de_var (pv 0))) PJ.nil)))))
    (dss_cons (ds_for hp rfl (di_seq rfl (de_var (pv 1))) (dg_tup rfl rfl (dgs_cons (dg_name (pg_name (i := 3) nd rfl (by first | exact Or.inl rfl | exact Or.inr rfl))) (dgs_cons (dg_name (pg_name (i := 4) nd rfl (by first | exact Or.inl rfl | exact Or.inr rfl))) dgs_nil))) (dss_cons (ds_asgV (ps_set (i := 5) nd rfl (by first | exact Or.inl rfl | exact Or.inr rfl) (de_ifExp (dt_cmp op_gt os_gt (de_call1 (pe_callB cr_lenA (by rfl) D.z_len (by decide +kernel) (pa_cons (dp_var (pv 3)) pa_nil)) cs_len) (de_int).peek (nomark _)) (de_join (pe_join de_str ((dn_lc (pe_lc (own := [("one", 7)]) rfl nd (di_seq rfl (de_var (pv 3))) (blkOk_by (own := [("one", 7)]) (N := ["places", "rows", "found", "turned", "moves", "spots", "where", "one"]) (sc := defScope s_text_of_rota) (by decide +kernel)) (fun _ _ _ _ _ => (dg_name (pg_name (i := 7) nd rfl (by first | exact Or.inl rfl | exact Or.inr rfl)))) (fun _ _ _ _ _ => dts_nil) (fun _ _ _ _ _ => (de_call1 (pe_callTy call_str_int (by rfl) D.z_str (by decide +kernel) (pa_cons (dp_var (pv 7)) pa_nil)) cs_str))) (by decide))).keep.peek)) de_str)))
    (dss_cons (ds_asgV (ps_set (i := 6) nd rfl (by first | exact Or.inl rfl | exact Or.inr rfl) (de_join (pe_join de_str ((dn_lc (pe_lc (own := [("one", 7)]) rfl nd (di_seq rfl (de_var (pv 4))) (blkOk_by (own := [("one", 7)]) (N := ["places", "rows", "found", "turned", "moves", "spots", "where", "one"]) (sc := defScope s_text_of_rota) (by decide +kernel)) (fun _ _ _ _ _ => (dg_name (pg_name (i := 7) nd rfl (by first | exact Or.inl rfl | exact Or.inr rfl)))) (fun _ _ _ _ _ => dts_nil) (fun _ _ _ _ _ => (de_call1 (pe_callTy call_str_int (by rfl) D.z_str (by decide +kernel) (pa_cons (dp_var (pv 7)) pa_nil)) cs_str))) (by decide))).keep.peek))))
    (dss_one (ds_asgV (ps_set (i := 2) nd rfl (by first | exact Or.inl rfl | exact Or.inr rfl) (de_joined (mm := [(m1 fFmt (mVar 2)), (mPure (.str "\nturn ")), (m1 fFmt (mVar 5)), (mPure (.str " move ")), (m1 fFmt (mVar 6))]) (PJ.cons (de_fmt (de_var (pv 2))) (PJ.cons de_str (PJ.cons (de_fmt (de_var (pv 5))) (PJ.cons de_str (PJ.cons (de_fmt (de_var (pv 6))) PJ.nil))))))))))))
    (dss_one (ds_ret (de_var (pv 2))))))
theorem ok_text_of_rota (D : Dfs w K mg) : FnOk P w K mg base (L2.CX P w) 1 D.f_text_of_rota D.fd_text_of_rota ["places", "rows"] (spM ⟨K, D.cl⟩ 2 false false m_text_of_rota) :=
  fun_ok2 (cl := D.cl) (n := 2) (fm := m_text_of_rota) D.F_text_of_rota sc_text_of_rota (by decide) (by rfl) (by unfold m_text_of_rota; rfl) (bd_text_of_rota D)
theorem bd_Desk_keep (D : Dfs w K mg) (cdv : Value) (A : Around) (outer : List Env) (s : Shared) (H : Hp) (E : XK) (π : Nat → Option Pin) (hr : Room 0 (A.deeper (envOfC "Desk.keep" (defScope s_Desk_keep) s.heap.objs.size D.f_Desk_keep cdv))) : PSs (cxOf (L2.CX P w) P w K mg base ["self", "live"] "Desk.keep" (defScope s_Desk_keep) D.f_Desk_keep cdv A outer s H E) (defBody s_Desk_keep) (TMs ⟨K, D.cl⟩ π (fun cls d _ H => E cls d H) b_Desk_keep_k73) := by
  have nd := sc_Desk_keep.nd
  have tk : Takes (cxOf (L2.CX P w) P w K mg base ["self", "live"] "Desk.keep" (defScope s_Desk_keep) D.f_Desk_keep cdv A outer s H E) (fun cls d _ H => E cls d H) := takes_of rfl rfl rfl rfl
  have hp : PassesOwn (model P w) (cxOf (L2.CX P w) P w K mg base ["self", "live"] "Desk.keep" (defScope s_Desk_keep) D.f_Desk_keep cdv A outer s H E).A (cxOf (L2.CX P w) P w K mg base ["self", "live"] "Desk.keep" (defScope s_Desk_keep) D.f_Desk_keep cdv A outer s H E).env (cxOf (L2.CX P w) P w K mg base ["self", "live"] "Desk.keep" (defScope s_Desk_keep) D.f_Desk_keep cdv A outer s H E).xe := passes_of rfl
  unfold b_Desk_keep_k73
  exact (dss_cons (ds_fput rfl (at_past D) (ps_fld (pv 0) (de_tup (da_star rfl (de_attr rfl (at_past D) (dp_var (pv 0)) (by rfl)).peek (da_cons (de_attr rfl (at_live D) (dp_var (pv 0)) (by rfl)) da_nil) (StX.pa_star (de_attr rfl (at_past D) (dp_var (pv 0)) (by rfl)).peek (da_cons (de_attr rfl (at_live D) (dp_var (pv 0)) (by rfl)) da_nil)))) rfl))
    (dss_one (ds_fput rfl (at_live D) (ps_fld (pv 0) (de_var (pv 1)) rfl))))
theorem ok_Desk_keep (D : Dfs w K mg) : FnOk P w K mg base (L2.CX P w) 1 D.f_Desk_keep D.fd_Desk_keep ["self", "live"] (spM ⟨K, D.cl⟩ 2 true false m_Desk_keep_k73) :=
  fun_ok2 (cl := D.cl) (n := 2) (fm := m_Desk_keep_k73) D.F_Desk_keep sc_Desk_keep (by decide) (by rfl) (by unfold m_Desk_keep_k73; rfl) (bd_Desk_keep D)
theorem bd_Desk_undo (D : Dfs w K mg) (cdv : Value) (A : Around) (outer : List Env) (s : Shared) (H : Hp) (E : XK) (π : Nat → Option Pin) (hr : Room 0 (A.deeper (envOfC "Desk.undo" (defScope s_Desk_undo) s.heap.objs.size D.f_Desk_undo cdv))) : PSs (cxOf (L2.CX P w) P w K mg base ["self"] "Desk.undo" (defScope s_Desk_undo) D.f_Desk_undo cdv A outer s H E) (defBody s_Desk_undo) (TMs ⟨K, D.cl⟩ π (fun cls d _ H => E cls d H) b_Desk_undo_k73) := by
  have nd := sc_Desk_undo.nd
  have tk : Takes (cxOf (L2.CX P w) P w K mg base ["self"] "Desk.undo" (defScope s_Desk_undo) D.f_Desk_undo cdv A outer s H E) (fun cls d _ H => E cls d H) := takes_of rfl rfl rfl rfl
  have hp : PassesOwn (model P w) (cxOf (L2.CX P w) P w K mg base ["self"] "Desk.undo" (defScope s_Desk_undo) D.f_Desk_undo cdv A outer s H E).A (cxOf (L2.CX P w) P w K mg base ["self"] "Desk.undo" (defScope s_Desk_undo) D.f_Desk_undo cdv A outer s H E).env (cxOf (L2.CX P w) P w K mg base ["self"] "Desk.undo" (defScope s_Desk_undo) D.f_Desk_undo cdv A outer s H E).xe := passes_of rfl
  unfold b_Desk_undo_k73
  exact (dss_cons (ds_if (dt_cmp (op_eqD hr.units) os_eq (de_call1 (pe_callB cr_lenA (by rfl) D.z_len (by decide +kernel) (pa_cons (de_attr rfl (at_past D) (dp_var (pv 0)) (by rfl)).peek pa_nil)) cs_len) (de_int).peek (nomark _)) (dss_one (ds_ret de_bl)) dss_nil)
    (dss_cons (ds_fput rfl (at_live D) (ps_fld (pv 0) (de_tOp (pe_ix ix_seq (de_attr rfl (at_past D) (dp_var (pv 0)) (by rfl)) (de_un un_neg us_neg (de_int).peek).peek (fun _ _ => rfl)) os_ix) rfl))
    (dss_cons (ds_fput rfl (at_past D) (ps_fld (pv 0) (de_slE rfl (pe_slice sl_all (de_attr rfl (at_past D) (dp_var (pv 0)) (by rfl)) do_none (do_some (de_un un_neg us_neg (de_int).peek)))) rfl))
    (dss_one (ds_ret de_bl)))))
theorem ok_Desk_undo (D : Dfs w K mg) : FnOk P w K mg base (L2.CX P w) 1 D.f_Desk_undo D.fd_Desk_undo ["self"] (spM ⟨K, D.cl⟩ 1 true false m_Desk_undo_k73) :=
  fun_ok2 (cl := D.cl) (n := 1) (fm := m_Desk_undo_k73) D.F_Desk_undo sc_Desk_undo (by decide) (by rfl) (by unfold m_Desk_undo_k73; rfl) (bd_Desk_undo D)
theorem bd_Desk_len (D : Dfs w K mg) (cdv : Value) (A : Around) (outer : List Env) (s : Shared) (H : Hp) (E : XK) (π : Nat → Option Pin) (hr : Room 0 (A.deeper (envOfC "Desk.__len__" (defScope s_Desk_len) s.heap.objs.size D.f_Desk_len cdv))) : PSs (cxOf (L2.CX P w) P w K mg base ["self"] "Desk.__len__" (defScope s_Desk_len) D.f_Desk_len cdv A outer s H E) (defBody s_Desk_len) (TMs ⟨K, D.cl⟩ π (fun cls d _ H => E cls d H) b_Desk_len) := by
  have nd := sc_Desk_len.nd
  have tk : Takes (cxOf (L2.CX P w) P w K mg base ["self"] "Desk.__len__" (defScope s_Desk_len) D.f_Desk_len cdv A outer s H E) (fun cls d _ H => E cls d H) := takes_of rfl rfl rfl rfl
  have hp : PassesOwn (model P w) (cxOf (L2.CX P w) P w K mg base ["self"] "Desk.__len__" (defScope s_Desk_len) D.f_Desk_len cdv A outer s H E).A (cxOf (L2.CX P w) P w K mg base ["self"] "Desk.__len__" (defScope s_Desk_len) D.f_Desk_len cdv A outer s H E).env (cxOf (L2.CX P w) P w K mg base ["self"] "Desk.__len__" (defScope s_Desk_len) D.f_Desk_len cdv A outer s H E).xe := passes_of rfl
  unfold b_Desk_len
  exact (dss_one (ds_ret (de_call1 (pe_callB cr_lenA (by rfl) D.z_len (by decide +kernel) (pa_cons (de_attr rfl (at_past D) (dp_var (pv 0)) (by rfl)).peek pa_nil)) cs_len)))
theorem ok_Desk_len (D : Dfs w K mg) : FnOk P w K mg base (L2.CX P w) 1 D.f_Desk_len D.fd_Desk_len ["self"] (spM ⟨K, D.cl⟩ 1 true false m_Desk_len) :=
  fun_ok2 (cl := D.cl) (n := 1) (fm := m_Desk_len) D.F_Desk_len sc_Desk_len (by decide) (by rfl) (by unfold m_Desk_len; rfl) (bd_Desk_len D)
theorem bd_law_box (D : Dfs w K mg) (cdv : Value) (A : Around) (outer : List Env) (s : Shared) (H : Hp) (E : XK) (π : Nat → Option Pin) (hr : Room 0 (A.deeper (envOfC "_law_box" (defScope s_law_box) s.heap.objs.size D.f_law_box cdv))) : PSs (cxOf (L2.CX P w) P w K mg base ["_law_script", "_law_k", "_law_own", "_law_cell", "_law_seed"] "_law_box" (defScope s_law_box) D.f_law_box cdv A outer s H E) (defBody s_law_box) (TMs ⟨K, D.cl⟩ π (fun cls d _ H => E cls d H) b_law_box) := by
  have nd := sc_law_box.nd
  have tk : Takes (cxOf (L2.CX P w) P w K mg base ["_law_script", "_law_k", "_law_own", "_law_cell", "_law_seed"] "_law_box" (defScope s_law_box) D.f_law_box cdv A outer s H E) (fun cls d _ H => E cls d H) := takes_of rfl rfl rfl rfl
  have hp : PassesOwn (model P w) (cxOf (L2.CX P w) P w K mg base ["_law_script", "_law_k", "_law_own", "_law_cell", "_law_seed"] "_law_box" (defScope s_law_box) D.f_law_box cdv A outer s H E).A (cxOf (L2.CX P w) P w K mg base ["_law_script", "_law_k", "_law_own", "_law_cell", "_law_seed"] "_law_box" (defScope s_law_box) D.f_law_box cdv A outer s H E).env (cxOf (L2.CX P w) P w K mg base ["_law_script", "_law_k", "_law_own", "_law_cell", "_law_seed"] "_law_box" (defScope s_law_box) D.f_law_box cdv A outer s H E).xe := passes_of rfl
  unfold b_law_box
  exact (dss_cons (ds_asgV (ps_set (i := 3) nd rfl (by first | exact Or.inl rfl | exact Or.inr rfl) (de_bin op_addA os_add (de_bin op_addA os_add (de_bin op_mul os_mulI de_int (dp_var (pv 1))) (de_bin op_mul os_mulI de_int (dp_var (pv 2))).peek) (de_int).peek)))
    (dss_cons (ds_if (dt_cmp op_lt os_lt (de_var (pv 1)) (de_call1 (pe_callB cr_lenA (by rfl) D.z_len (by decide +kernel) (pa_cons (dp_var (pv 0)) pa_nil)) cs_len).peek (nomark _)) (dss_one (ds_asgV (ps_set (i := 3) nd rfl (by first | exact Or.inl rfl | exact Or.inr rfl) (de_call1 (pe_callB call_abs (by rfl) D.z_abs (by decide +kernel) (pa_cons (de_ixV (pe_ix ix_seq (pv 0) (de_var (pv 1)) (fun _ _ => rfl))).peek pa_nil)) cs_abs)))) (dss_one (ds_if (dt_cmp op_gt os_gt (de_call1 (pe_callB cr_lenA (by rfl) D.z_len (by decide +kernel) (pa_cons (dp_var (pv 0)) pa_nil)) cs_len) (de_int).peek (nomark _)) (dss_one (ds_asgV (ps_set (i := 3) nd rfl (by first | exact Or.inl rfl | exact Or.inr rfl) (de_bin op_addA os_add (de_var (pv 3)) (de_bin op_mul os_mulI (de_bin op_mod os_mod (de_call1 (pe_callTy call_int1 (by rfl) D.z_int (by decide +kernel) (pa_cons (de_call1 (pe_callB call_abs (by rfl) D.z_abs (by decide +kernel) (pa_cons (de_ixV (pe_ix ix_seq (pv 0) (de_bin op_mod os_mod (de_call1 (pe_callTy call_int1 (by rfl) D.z_int (by decide +kernel) (pa_cons (dp_var (pv 1)) pa_nil)) cs_int) (de_call1 (pe_callB cr_lenA (by rfl) D.z_len (by decide +kernel) (pa_cons (dp_var (pv 0)) pa_nil)) cs_len).peek) (fun _ _ => rfl))).peek pa_nil)) cs_abs).peek pa_nil)) cs_int) (de_int).peek) (de_int).peek).peek)))) dss_nil)))
    (dss_cons (ds_asgV (ps_set (i := 4) nd rfl (by first | exact Or.inl rfl | exact Or.inr rfl) (de_bin op_addA os_add (de_bin op_mod os_mod (de_call1 (pe_callTy call_int1 (by rfl) D.z_int (by decide +kernel) (pa_cons (de_bin op_addA os_add (de_bin op_mul os_mulI (de_bin op_mod os_mod (de_call1 (pe_callTy call_int1 (by rfl) D.z_int (by decide +kernel) (pa_cons (dp_var (pv 3)) pa_nil)) cs_int) (de_int).peek) (de_int).peek) (de_bin op_mul os_mulI de_int (de_bin op_addA os_add (de_var (pv 1)) (de_bin op_mul os_mulI de_int (dp_var (pv 2))).peek).peek).peek).peek pa_nil)) cs_int) (de_int).peek) (de_int).peek)))
    (dss_one (ds_retN (dn_lst (da_cons (de_tOp (pe_ix ix_seq ((dn_lst (da_cons de_int (da_cons (de_var (pv 3)) da_nil)))).keep (de_call1 (pe_callTy call_int1 (by rfl) D.z_int (by decide +kernel) (pa_cons (de_cmp op_ge os_ge (de_var (pv 3)) (de_bin op_pow os_pow de_int (de_int).peek).peek (nomark _)).peek pa_nil)) cs_int).peek (fun _ _ => rfl)) os_ix) (da_cons (de_var (pv 4)) (da_cons de_int da_nil)))))))))
theorem ok_law_box (D : Dfs w K mg) : FnOk P w K mg base (L2.CX P w) 1 D.f_law_box D.fd_law_box ["_law_script", "_law_k", "_law_own"] (spM ⟨K, D.cl⟩ 3 false true m_law_box) :=
  fun_ok2 (cl := D.cl) (n := 3) (fm := m_law_box) D.F_law_box sc_law_box (by decide) (by rfl) (by unfold m_law_box; rfl) (bd_law_box D)
theorem bd_law_take (D : Dfs w K mg) (cdv : Value) (A : Around) (outer : List Env) (s : Shared) (H : Hp) (E : XK) (π : Nat → Option Pin) (hr : Room 0 (A.deeper (envOfC "_law_take" (defScope s_law_take) s.heap.objs.size D.f_law_take cdv))) : PSs (cxOf (L2.CX P w) P w K mg base ["_law_box_here", "_law_bound", "_law_digit", "_law_raw", "_law_wide"] "_law_take" (defScope s_law_take) D.f_law_take cdv A outer s H E) (defBody s_law_take) (TMs ⟨K, D.cl⟩ π (fun cls d _ H => E cls d H) b_law_take) := by
  have nd := sc_law_take.nd
  have tk : Takes (cxOf (L2.CX P w) P w K mg base ["_law_box_here", "_law_bound", "_law_digit", "_law_raw", "_law_wide"] "_law_take" (defScope s_law_take) D.f_law_take cdv A outer s H E) (fun cls d _ H => E cls d H) := takes_of rfl rfl rfl rfl
  have hp : PassesOwn (model P w) (cxOf (L2.CX P w) P w K mg base ["_law_box_here", "_law_bound", "_law_digit", "_law_raw", "_law_wide"] "_law_take" (defScope s_law_take) D.f_law_take cdv A outer s H E).A (cxOf (L2.CX P w) P w K mg base ["_law_box_here", "_law_bound", "_law_digit", "_law_raw", "_law_wide"] "_law_take" (defScope s_law_take) D.f_law_take cdv A outer s H E).env (cxOf (L2.CX P w) P w K mg base ["_law_box_here", "_law_bound", "_law_digit", "_law_raw", "_law_wide"] "_law_take" (defScope s_law_take) D.f_law_take cdv A outer s H E).xe := passes_of rfl
  unfold b_law_take
  exact (dss_cons (ds_if (dt_cmp op_gt os_gt (de_ixV (pe_ix ix_seq (pv 0) de_int (fun _ _ => rfl))) (de_int).peek (nomark _)) (dss_cons (ds_asgV (ps_set (i := 2) nd rfl (by first | exact Or.inl rfl | exact Or.inr rfl) (de_bin op_mod os_mod (de_call1 (pe_callTy call_int1 (by rfl) D.z_int (by decide +kernel) (pa_cons (de_ixV (pe_ix ix_seq (pv 0) de_int (fun _ _ => rfl))).peek pa_nil)) cs_int) (dp_var (pv 1)))))
    (dss_cons (ds_lput (ps_asg (de_bin op_fdivW os_div (de_ixV (pe_ix ix_seq (pv 0) de_int (fun _ _ => rfl))) (dp_var (pv 1))) (pg_sub (pv 0) de_int set_list)))
    (dss_one (ds_ret (de_var (pv 2)))))) dss_nil)
    (dss_cons (ds_lput (ps_asg (de_bin op_addA os_add (de_ixV (pe_ix ix_seq (pv 0) de_int (fun _ _ => rfl))) (de_int).peek) (pg_sub (pv 0) de_int set_list)))
    (dss_cons (ds_asgV (ps_set (i := 3) nd rfl (by first | exact Or.inl rfl | exact Or.inr rfl) (de_bin op_mod os_mod (de_call1 (pe_callTy call_int1 (by rfl) D.z_int (by decide +kernel) (pa_cons (de_bin op_mul os_mulI (de_bin op_addA os_add (de_ixV (pe_ix ix_seq (pv 0) de_int (fun _ _ => rfl))) (de_bin op_mul os_mulI de_int (de_ixV (pe_ix ix_seq (pv 0) de_int (fun _ _ => rfl))).peek).peek) (de_int).peek).peek pa_nil)) cs_int) (de_int).peek)))
    (dss_cons (ds_lput (ps_asg (de_bin op_addA os_add (de_bin op_mod os_mod (de_call1 (pe_callTy call_int1 (by rfl) D.z_int (by decide +kernel) (pa_cons (de_bin op_addA os_add (de_bin op_mul os_mulI (de_var (pv 3)) (de_int).peek) (de_int).peek).peek pa_nil)) cs_int) (de_int).peek) (de_int).peek) (pg_sub (pv 0) de_int set_list)))
    (dss_cons (ds_if (dt_cmp op_lt os_lt (de_var (pv 1)) (de_bin op_pow os_pow de_int (de_int).peek).peek (nomark _)) (dss_one (ds_ret (de_bin op_mod os_mod (de_call1 (pe_callTy call_int1 (by rfl) D.z_int (by decide +kernel) (pa_cons (de_bin op_fdivW os_div (de_bin op_addA os_add (de_bin op_mul os_mulI (de_var (pv 3)) (de_int).peek) (de_ixV (pe_ix ix_seq (pv 0) de_int (fun _ _ => rfl))).peek) (de_int).peek).peek pa_nil)) cs_int) (dp_var (pv 1))))) dss_nil)
    (dss_cons (ds_asgV (ps_set (i := 4) nd rfl (by first | exact Or.inl rfl | exact Or.inr rfl) (de_bin op_mul os_mulI (de_bin op_addA os_add (de_bin op_mul os_mulI (de_var (pv 3)) (de_int).peek) (de_ixV (pe_ix ix_seq (pv 0) de_int (fun _ _ => rfl))).peek) (de_bin op_pow os_pow de_int (de_int).peek).peek)))
    (dss_one (ds_ret (de_bin op_mod os_mod (de_call1 (pe_callTy call_int1 (by rfl) D.z_int (by decide +kernel) (pa_cons (de_bin op_addA os_add (de_bin op_addA os_add (de_var (pv 4)) (de_bin op_mul os_mulI (de_bin op_pow os_pow (de_ixV (pe_ix ix_seq (pv 0) de_int (fun _ _ => rfl))) (de_int).peek) (de_int).peek).peek) (dp_var (pv 3))).peek pa_nil)) cs_int) (dp_var (pv 1)))))))))))
theorem ok_law_take (D : Dfs w K mg) : FnOk P w K mg base (L2.CX P w) 1 D.f_law_take D.fd_law_take ["_law_box_here", "_law_bound"] (spM ⟨K, D.cl⟩ 2 true false m_law_take) :=
  fun_ok2 (cl := D.cl) (n := 2) (fm := m_law_take) D.F_law_take sc_law_take (by decide) (by rfl) (by unfold m_law_take; rfl) (bd_law_take D)
theorem bd_is_from (D : Dfs w K mg) (cdv : Value) (A : Around) (outer : List Env) (s : Shared) (H : Hp) (E : XK) (π : Nat → Option Pin) (hr : Room 1 (A.deeper (envOfC "is_from" (defScope s_is_from) s.heap.objs.size D.f_is_from cdv))) : PSs (cxOf (L2.CX P w) P w K mg base ["value", "least"] "is_from" (defScope s_is_from) D.f_is_from cdv A outer s H E) (defBody s_is_from) (TMs ⟨K, D.cl⟩ π (fun cls d _ H => E cls d H) b_is_from) := by
  have nd := sc_is_from.nd
  have tk : Takes (cxOf (L2.CX P w) P w K mg base ["value", "least"] "is_from" (defScope s_is_from) D.f_is_from cdv A outer s H E) (fun cls d _ H => E cls d H) := takes_of rfl rfl rfl rfl
  have hp : PassesOwn (model P w) (cxOf (L2.CX P w) P w K mg base ["value", "least"] "is_from" (defScope s_is_from) D.f_is_from cdv A outer s H E).A (cxOf (L2.CX P w) P w K mg base ["value", "least"] "is_from" (defScope s_is_from) D.f_is_from cdv A outer s H E).env (cxOf (L2.CX P w) P w K mg base ["value", "least"] "is_from" (defScope s_is_from) D.f_is_from cdv A outer s H E).xe := passes_of rfl
  unfold b_is_from
  exact (dss_one (ds_ret (de_and (de_call (ok_is_integer D) (hr.mono (by decide)) (by rfl) D.g_is_integer D.F_is_integer.kp D.b_is_integer tk (da_cons (de_var (pv 0)) da_nil)) (de_one (de_cmp op_ge os_ge (de_var (pv 0)) (dp_var (pv 1)) (nomark _))))))
theorem ok_is_from (D : Dfs w K mg) : FnOk P w K mg base (L2.CX P w) 2 D.f_is_from D.fd_is_from ["value", "least"] (spM ⟨K, D.cl⟩ 2 false false m_is_from) :=
  fun_ok2 (cl := D.cl) (n := 2) (fm := m_is_from) D.F_is_from sc_is_from (by decide) (by rfl) (by unfold m_is_from; rfl) (bd_is_from D)
theorem bd_numbers_in (D : Dfs w K mg) (cdv : Value) (A : Around) (outer : List Env) (s : Shared) (H : Hp) (E : XK) (π : Nat → Option Pin) (hr : Room 1 (A.deeper (envOfC "numbers_in" (defScope s_numbers_in) s.heap.objs.size D.f_numbers_in cdv))) : PSs (cxOf (L2.CX P w) P w K mg base ["words", "digits", "found", "word"] "numbers_in" (defScope s_numbers_in) D.f_numbers_in cdv A outer s H E) (defBody s_numbers_in) (TMs ⟨K, D.cl⟩ π (fun cls d _ H => E cls d H) b_numbers_in_v2) := by
  have nd := sc_numbers_in.nd
  have tk : Takes (cxOf (L2.CX P w) P w K mg base ["words", "digits", "found", "word"] "numbers_in" (defScope s_numbers_in) D.f_numbers_in cdv A outer s H E) (fun cls d _ H => E cls d H) := takes_of rfl rfl rfl rfl
  have hp : PassesOwn (model P w) (cxOf (L2.CX P w) P w K mg base ["words", "digits", "found", "word"] "numbers_in" (defScope s_numbers_in) D.f_numbers_in cdv A outer s H E).A (cxOf (L2.CX P w) P w K mg base ["words", "digits", "found", "word"] "numbers_in" (defScope s_numbers_in) D.f_numbers_in cdv A outer s H E).env (cxOf (L2.CX P w) P w K mg base ["words", "digits", "found", "word"] "numbers_in" (defScope s_numbers_in) D.f_numbers_in cdv A outer s H E).xe := passes_of rfl
  unfold b_numbers_in_v2
  exact (dss_cons (ds_setLcV (ps_setLc (own := [("word", 3)]) (i := 2) rfl nd rfl rfl (sw_true rfl rfl rfl (by decide +kernel)) (di_seq rfl (de_var (pv 0))) (blkOk_by (own := [("word", 3)]) (N := ["words", "digits", "found", "word"]) (sc := defScope s_numbers_in) (by decide +kernel)) (fun _ _ _ _ _ => (dg_name (pg_name (i := 3) nd rfl (by first | exact Or.inl rfl | exact Or.inr rfl)))) (fun _ _ _ _ _ => dts_nil) (fun _ _ _ _ _ => (de_call (ok_number_in D) (hr.mono (by decide)) (by rfl) D.g_number_in D.F_number_in.kp D.b_number_in takes0 (da_cons (de_var (pv 3)) (da_cons (de_var (pv 1)) da_nil))))) (by decide))
    (dss_one (ds_ret (de_ifExp (dt_cmp (op_inA hr.units) os_inA de_non (dp_var (pv 2)) (by rfl)) de_non (de_var (pv 2))))))
theorem ok_numbers_in (D : Dfs w K mg) : FnOk P w K mg base (L2.CX P w) 2 D.f_numbers_in D.fd_numbers_in ["words", "digits"] (spM ⟨K, D.cl⟩ 2 false false m_numbers_in_v2) :=
  fun_ok2 (cl := D.cl) (n := 2) (fm := m_numbers_in_v2) D.F_numbers_in sc_numbers_in (by decide) (by rfl) (by unfold m_numbers_in_v2; rfl) (bd_numbers_in D)
theorem bd_due_in_round (D : Dfs w K mg) (cdv : Value) (A : Around) (outer : List Env) (s : Shared) (H : Hp) (E : XK) (π : Nat → Option Pin) (hr : Room 1 (A.deeper (envOfC "due_in_round" (defScope s_due_in_round) s.heap.objs.size D.f_due_in_round cdv))) : PSs (cxOf (L2.CX P w) P w K mg base ["rota", "wheel", "size", "day", "spot"] "due_in_round" (defScope s_due_in_round) D.f_due_in_round cdv A outer s H E) (defBody s_due_in_round) (TMs ⟨K, D.cl⟩ π (fun cls d _ H => E cls d H) b_due_in_round) := by
  have nd := sc_due_in_round.nd
  have tk : Takes (cxOf (L2.CX P w) P w K mg base ["rota", "wheel", "size", "day", "spot"] "due_in_round" (defScope s_due_in_round) D.f_due_in_round cdv A outer s H E) (fun cls d _ H => E cls d H) := takes_of rfl rfl rfl rfl
  have hp : PassesOwn (model P w) (cxOf (L2.CX P w) P w K mg base ["rota", "wheel", "size", "day", "spot"] "due_in_round" (defScope s_due_in_round) D.f_due_in_round cdv A outer s H E).A (cxOf (L2.CX P w) P w K mg base ["rota", "wheel", "size", "day", "spot"] "due_in_round" (defScope s_due_in_round) D.f_due_in_round cdv A outer s H E).env (cxOf (L2.CX P w) P w K mg base ["rota", "wheel", "size", "day", "spot"] "due_in_round" (defScope s_due_in_round) D.f_due_in_round cdv A outer s H E).xe := passes_of rfl
  unfold b_due_in_round
  exact (dss_cons (ds_asgV (ps_set (i := 2) nd rfl (by first | exact Or.inl rfl | exact Or.inr rfl) (de_call1 (pe_callB cr_lenA (by rfl) D.z_len (by decide +kernel) (pa_cons (de_attr rfl (at_rows D) (dp_var (pv 0)) (by rfl)).peek pa_nil)) cs_len)))
    (dss_one (ds_ret (de_call1 (pe_callTy call_tuple_of (by rfl) D.z_tuple (by decide +kernel) (pa_cons ((dn_lc (pe_lc (own := [("day", 3), ("spot", 4)]) rfl nd (di_enum rfl (by rfl) D.z_enumerate (de_call (ok_way D) (hr.mono (by decide)) (by rfl) D.g_way D.F_way.kp D.b_way tk (da_cons (de_var (pv 0)) (da_cons (de_var (pv 1)) da_nil)))) (blkOk_by (own := [("day", 3), ("spot", 4)]) (N := ["rota", "wheel", "size", "day", "spot"]) (sc := defScope s_due_in_round) (by decide +kernel)) (fun _ _ _ _ _ => (dg_tup rfl rfl (dgs_cons (dg_name (pg_name (i := 3) nd rfl (by first | exact Or.inl rfl | exact Or.inr rfl))) (dgs_cons (dg_name (pg_name (i := 4) nd rfl (by first | exact Or.inl rfl | exact Or.inr rfl))) dgs_nil)))) (fun _ _ _ _ _ => (dts_one (dt_cmp (op_inA hr.units) os_inA (de_var (pv 4)) (de_tOp (pe_ix ix_seq (de_tOp (pe_ix ix_seq (de_attr rfl (at_rows D) (dp_var (pv 0)) (by rfl)) (de_bin op_mod os_mod (de_var (pv 3)) (dp_var (pv 2))).peek (fun _ _ => rfl)) os_ix) (de_int).peek (fun _ _ => rfl)) os_ix).peek (by rfl)))) (fun _ _ _ _ _ => (de_var (pv 3)))) (by decide))).keep.peek pa_nil)) cs_tuple))))
theorem ok_due_in_round (D : Dfs w K mg) : FnOk P w K mg base (L2.CX P w) 2 D.f_due_in_round D.fd_due_in_round ["rota", "wheel"] (spM ⟨K, D.cl⟩ 2 false false m_due_in_round) :=
  fun_ok2 (cl := D.cl) (n := 2) (fm := m_due_in_round) D.F_due_in_round sc_due_in_round (by decide) (by rfl) (by unfold m_due_in_round; rfl) (bd_due_in_round D)
theorem bd_stretches_of (D : Dfs w K mg) (cdv : Value) (A : Around) (outer : List Env) (s : Shared) (H : Hp) (E : XK) (π : Nat → Option Pin) (hr : Room 1 (A.deeper (envOfC "stretches_of" (defScope s_stretches_of) s.heap.objs.size D.f_stretches_of cdv))) : PSs (cxOf (L2.CX P w) P w K mg base ["season", "wheel", "found", "first", "up", "days", "day", "seen", "size", "one"] "stretches_of" (defScope s_stretches_of) D.f_stretches_of cdv A outer s H E) (defBody s_stretches_of) (TMs ⟨K, D.cl⟩ π (fun cls d _ H => E cls d H) b_stretches_of) := by
  have nd := sc_stretches_of.nd
  have tk : Takes (cxOf (L2.CX P w) P w K mg base ["season", "wheel", "found", "first", "up", "days", "day", "seen", "size", "one"] "stretches_of" (defScope s_stretches_of) D.f_stretches_of cdv A outer s H E) (fun cls d _ H => E cls d H) := takes_of rfl rfl rfl rfl
  have hp : PassesOwn (model P w) (cxOf (L2.CX P w) P w K mg base ["season", "wheel", "found", "first", "up", "days", "day", "seen", "size", "one"] "stretches_of" (defScope s_stretches_of) D.f_stretches_of cdv A outer s H E).A (cxOf (L2.CX P w) P w K mg base ["season", "wheel", "found", "first", "up", "days", "day", "seen", "size", "one"] "stretches_of" (defScope s_stretches_of) D.f_stretches_of cdv A outer s H E).env (cxOf (L2.CX P w) P w K mg base ["season", "wheel", "found", "first", "up", "days", "day", "seen", "size", "one"] "stretches_of" (defScope s_stretches_of) D.f_stretches_of cdv A outer s H E).xe := passes_of rfl
  unfold b_stretches_of
  exact (dss_cons (ds_parT (is := [2, 3, 4]) rfl (ps_asg (pe_tup (dk_own (dn_lst da_nil) (dk_val de_int (dk_val de_int dk_nil)))) (pg_tup rfl (pgs_cons (pg_name (i := 2) nd rfl (by first | exact Or.inl rfl | exact Or.inr rfl)) (pgs_cons (pg_name (i := 3) nd rfl (by first | exact Or.inl rfl | exact Or.inr rfl)) (pgs_cons (pg_name (i := 4) nd rfl (by first | exact Or.inl rfl | exact Or.inr rfl)) pgs_nil))))) rfl rfl (by decide))
    (dss_cons (ds_asgV (ps_set (i := 5) nd rfl (by first | exact Or.inl rfl | exact Or.inr rfl) (de_call (ok_due_days D) (hr.mono (by decide)) (by rfl) D.g_due_days D.F_due_days.kp D.b_due_days tk (da_cons (de_var (pv 0)) (da_cons (de_var (pv 1)) da_nil)))))
    (dss_cons (ds_for hp rfl (di_itemsN (dn_call (ok_seen_by_day D) (hr.mono (by decide)) (by rfl) D.g_seen_by_day D.F_seen_by_day.kp D.b_seen_by_day tk (da_cons (de_var (pv 0)) (da_cons (de_var (pv 1)) da_nil)))) (dg_tup rfl rfl (dgs_cons (dg_name (pg_name (i := 6) nd rfl (by first | exact Or.inl rfl | exact Or.inr rfl))) (dgs_cons (dg_name (pg_name (i := 7) nd rfl (by first | exact Or.inl rfl | exact Or.inr rfl))) dgs_nil))) (dss_cons (ds_asgV (ps_set (i := 8) nd rfl (by first | exact Or.inl rfl | exact Or.inr rfl) (de_call1 (pe_callB cr_lenA (by rfl) D.z_len (by decide +kernel) (pa_cons ((dn_lc (pe_lc (own := [("one", 9)]) rfl nd (di_seq rfl (de_var (pv 5))) (blkOk_by (own := [("one", 9)]) (N := ["season", "wheel", "found", "first", "up", "days", "day", "seen", "size", "one"]) (sc := defScope s_stretches_of) (by decide +kernel)) (fun _ _ _ _ _ => (dg_name (pg_name (i := 9) nd rfl (by first | exact Or.inl rfl | exact Or.inr rfl)))) (fun _ _ _ _ _ => (dts_one (dt_chain (pt_chain op_le op_lt (de_var (pv 3)) (de_var (pv 9)) (dp_var (pv 6))) os_le os_lt))) (fun _ _ _ _ _ => (de_var (pv 9)))) (by decide))).keep.peek pa_nil)) cs_len)))
    (dss_cons (ds_expr (de_append rfl (pe_bm PySem.F.plainAttrs_list PySem.F.slot_list_append PySem.F.type_list_append mt_append (pv 2) (pa_cons (de_tup (da_cons (de_var (pv 3)) (da_cons (de_var (pv 6)) (da_cons (de_cmp (op_eqD hr.units) os_eq (de_bin op_mod os_mod (de_bin op_addA os_add (de_bin op_addA os_add (de_var (pv 8)) (dp_var (pv 4))) (de_ixV (pe_ix ix_seq (pv 7) de_int (fun _ _ => rfl))).peek) (de_int).peek) (de_int).peek (nomark _)) da_nil)))) pa_nil))))
    (dss_cons (ds_if (dt_cmp op_gt os_gt (de_call1 (pe_callB cr_lenA (by rfl) D.z_len (by decide +kernel) (pa_cons (dp_var (pv 7)) pa_nil)) cs_len) (de_int).peek (nomark _)) (dss_one (ds_expr (de_append rfl (pe_bm PySem.F.plainAttrs_list PySem.F.slot_list_append PySem.F.type_list_append mt_append (pv 2) (pa_cons (de_tup (da_cons (de_var (pv 6)) (da_cons (de_var (pv 6)) (da_cons de_bl da_nil)))) pa_nil))))) dss_nil)
    (dss_one (ds_parT (is := [3, 4]) rfl (ps_asg (pe_tup (dk_val (de_var (pv 6)) (dk_val (de_ixV (pe_ix ix_seq (pv 7) (de_un un_neg us_neg (de_int).peek) (fun _ _ => rfl))) dk_nil))) (pg_tup rfl (pgs_cons (pg_name (i := 3) nd rfl (by first | exact Or.inl rfl | exact Or.inr rfl)) (pgs_cons (pg_name (i := 4) nd rfl (by first | exact Or.inl rfl | exact Or.inr rfl)) pgs_nil)))) rfl rfl (by decide)))))))
    (dss_one (ds_ret (de_tup (da_star rfl (dp_var (pv 2)) (da_cons (de_tup (da_cons (de_var (pv 3)) (da_cons (de_attr rfl (at_days D) (dp_var (pv 0)) (by rfl)) (da_cons de_non da_nil)))) da_nil) (StX.pa_star (dp_var (pv 2)) (da_cons (de_tup (da_cons (de_var (pv 3)) (da_cons (de_attr rfl (at_days D) (dp_var (pv 0)) (by rfl)) (da_cons de_non da_nil)))) da_nil)))))))))
theorem ok_stretches_of (D : Dfs w K mg) : FnOk P w K mg base (L2.CX P w) 2 D.f_stretches_of D.fd_stretches_of ["season", "wheel"] (spM ⟨K, D.cl⟩ 2 false false m_stretches_of) :=
  fun_ok2 (cl := D.cl) (n := 2) (fm := m_stretches_of) D.F_stretches_of sc_stretches_of (by decide) (by rfl) (by unfold m_stretches_of; rfl) (bd_stretches_of D)
theorem bd_law_pick (D : Dfs w K mg) (cdv : Value) (A : Around) (outer : List Env) (s : Shared) (H : Hp) (E : XK) (π : Nat → Option Pin) (hr : Room 1 (A.deeper (envOfC "_law_pick" (defScope s_law_pick) s.heap.objs.size D.f_law_pick cdv))) : PSs (cxOf (L2.CX P w) P w K mg base ["_law_box_here", "_law_items"] "_law_pick" (defScope s_law_pick) D.f_law_pick cdv A outer s H E) (defBody s_law_pick) (TMs ⟨K, D.cl⟩ π (fun cls d _ H => E cls d H) b_law_pick) := by
  have nd := sc_law_pick.nd
  have tk : Takes (cxOf (L2.CX P w) P w K mg base ["_law_box_here", "_law_items"] "_law_pick" (defScope s_law_pick) D.f_law_pick cdv A outer s H E) (fun cls d _ H => E cls d H) := takes_of rfl rfl rfl rfl
  have hp : PassesOwn (model P w) (cxOf (L2.CX P w) P w K mg base ["_law_box_here", "_law_items"] "_law_pick" (defScope s_law_pick) D.f_law_pick cdv A outer s H E).A (cxOf (L2.CX P w) P w K mg base ["_law_box_here", "_law_items"] "_law_pick" (defScope s_law_pick) D.f_law_pick cdv A outer s H E).env (cxOf (L2.CX P w) P w K mg base ["_law_box_here", "_law_items"] "_law_pick" (defScope s_law_pick) D.f_law_pick cdv A outer s H E).xe := passes_of rfl
  unfold b_law_pick
  exact (dss_one (ds_ret (de_ixV (pe_ix ix_seq (pv 1) (de_callIo (ok_law_take D) (hr.mono (by decide)) (by rfl) D.g_law_take D.F_law_take.kp D.b_law_take tk (pv 0) (da_cons (de_call1 (pe_callB cr_lenA (by rfl) D.z_len (by decide +kernel) (pa_cons (dp_var (pv 1)) pa_nil)) cs_len) da_nil)) (fun _ _ => rfl)))))
theorem ok_law_pick (D : Dfs w K mg) : FnOk P w K mg base (L2.CX P w) 2 D.f_law_pick D.fd_law_pick ["_law_box_here", "_law_items"] (spM ⟨K, D.cl⟩ 2 true false m_law_pick) :=
  fun_ok2 (cl := D.cl) (n := 2) (fm := m_law_pick) D.F_law_pick sc_law_pick (by decide) (by rfl) (by unfold m_law_pick; rfl) (bd_law_pick D)
theorem bd_is_below (D : Dfs w K mg) (cdv : Value) (A : Around) (outer : List Env) (s : Shared) (H : Hp) (E : XK) (π : Nat → Option Pin) (hr : Room 2 (A.deeper (envOfC "is_below" (defScope s_is_below) s.heap.objs.size D.f_is_below cdv))) : PSs (cxOf (L2.CX P w) P w K mg base ["value", "bound"] "is_below" (defScope s_is_below) D.f_is_below cdv A outer s H E) (defBody s_is_below) (TMs ⟨K, D.cl⟩ π (fun cls d _ H => E cls d H) b_is_below) := by
  have nd := sc_is_below.nd
  have tk : Takes (cxOf (L2.CX P w) P w K mg base ["value", "bound"] "is_below" (defScope s_is_below) D.f_is_below cdv A outer s H E) (fun cls d _ H => E cls d H) := takes_of rfl rfl rfl rfl
  have hp : PassesOwn (model P w) (cxOf (L2.CX P w) P w K mg base ["value", "bound"] "is_below" (defScope s_is_below) D.f_is_below cdv A outer s H E).A (cxOf (L2.CX P w) P w K mg base ["value", "bound"] "is_below" (defScope s_is_below) D.f_is_below cdv A outer s H E).env (cxOf (L2.CX P w) P w K mg base ["value", "bound"] "is_below" (defScope s_is_below) D.f_is_below cdv A outer s H E).xe := passes_of rfl
  unfold b_is_below
  exact (dss_one (ds_ret (de_and (de_call (ok_is_from D) (hr.mono (by decide)) (by rfl) D.g_is_from D.F_is_from.kp D.b_is_from tk (da_cons (de_var (pv 0)) (da_cons de_int da_nil))) (de_one (de_cmp op_lt os_lt (de_var (pv 0)) (dp_var (pv 1)) (nomark _))))))
theorem ok_is_below (D : Dfs w K mg) : FnOk P w K mg base (L2.CX P w) 3 D.f_is_below D.fd_is_below ["value", "bound"] (spM ⟨K, D.cl⟩ 2 false false m_is_below) :=
  fun_ok2 (cl := D.cl) (n := 2) (fm := m_is_below) D.F_is_below sc_is_below (by decide) (by rfl) (by unfold m_is_below; rfl) (bd_is_below D)
theorem bd_parts_of (D : Dfs w K mg) (cdv : Value) (A : Around) (outer : List Env) (s : Shared) (H : Hp) (E : XK) (π : Nat → Option Pin) (hr : Room 2 (A.deeper (envOfC "parts_of" (defScope s_parts_of) s.heap.objs.size D.f_parts_of cdv))) : PSs (cxOf (L2.CX P w) P w K mg base ["season", "missed", "made", "found", "wheel", "days", "first", "last", "odd", "pairs", "gone", "free", "day", "pair"] "parts_of" (defScope s_parts_of) D.f_parts_of cdv A outer s H E) (defBody s_parts_of) (TMs ⟨K, D.cl⟩ π (fun cls d _ H => E cls d H) b_parts_of) := by
  have nd := sc_parts_of.nd
  have tk : Takes (cxOf (L2.CX P w) P w K mg base ["season", "missed", "made", "found", "wheel", "days", "first", "last", "odd", "pairs", "gone", "free", "day", "pair"] "parts_of" (defScope s_parts_of) D.f_parts_of cdv A outer s H E) (fun cls d _ H => E cls d H) := takes_of rfl rfl rfl rfl
  have hp : PassesOwn (model P w) (cxOf (L2.CX P w) P w K mg base ["season", "missed", "made", "found", "wheel", "days", "first", "last", "odd", "pairs", "gone", "free", "day", "pair"] "parts_of" (defScope s_parts_of) D.f_parts_of cdv A outer s H E).A (cxOf (L2.CX P w) P w K mg base ["season", "missed", "made", "found", "wheel", "days", "first", "last", "odd", "pairs", "gone", "free", "day", "pair"] "parts_of" (defScope s_parts_of) D.f_parts_of cdv A outer s H E).env (cxOf (L2.CX P w) P w K mg base ["season", "missed", "made", "found", "wheel", "days", "first", "last", "odd", "pairs", "gone", "free", "day", "pair"] "parts_of" (defScope s_parts_of) D.f_parts_of cdv A outer s H E).xe := passes_of rfl
  unfold b_parts_of
  exact (dss_cons (ds_asgN (ps_set (i := 3) nd rfl (by first | exact Or.inl rfl | exact Or.inr rfl) (dn_lst da_nil)))
    (dss_cons (ds_for hp rfl (di_rng1 (by rfl) D.z_range (da_cons (de_attr rfl (at_wheels D) (dp_var (pv 0)) (by rfl)) da_nil)) (dg_name (pg_name (i := 4) nd rfl (by first | exact Or.inl rfl | exact Or.inr rfl))) (dss_cons (ds_asgV (ps_set (i := 5) nd rfl (by first | exact Or.inl rfl | exact Or.inr rfl) (de_call (ok_due_days D) (hr.mono (by decide)) (by rfl) D.g_due_days D.F_due_days.kp D.b_due_days tk (da_cons (de_var (pv 0)) (da_cons (de_var (pv 4)) da_nil)))))
    (dss_one (ds_for hp rfl (di_seq rfl (de_call (ok_stretches_of D) (hr.mono (by decide)) (by rfl) D.g_stretches_of D.F_stretches_of.kp D.b_stretches_of tk (da_cons (de_var (pv 0)) (da_cons (de_var (pv 4)) da_nil)))) (dg_tup rfl rfl (dgs_cons (dg_name (pg_name (i := 6) nd rfl (by first | exact Or.inl rfl | exact Or.inr rfl))) (dgs_cons (dg_name (pg_name (i := 7) nd rfl (by first | exact Or.inl rfl | exact Or.inr rfl))) (dgs_cons (dg_name (pg_name (i := 8) nd rfl (by first | exact Or.inl rfl | exact Or.inr rfl))) dgs_nil)))) (dss_cons (ds_setLcV (ps_setLc (own := [("day", 12)]) (i := 9) rfl nd rfl rfl (sw_true rfl rfl rfl (by decide +kernel)) (di_seq rfl (de_var (pv 5))) (blkOk_by (own := [("day", 12)]) (N := ["season", "missed", "made", "found", "wheel", "days", "first", "last", "odd", "pairs", "gone", "free", "day", "pair"]) (sc := defScope s_parts_of) (by decide +kernel)) (fun _ _ _ _ _ => (dg_name (pg_name (i := 12) nd rfl (by first | exact Or.inl rfl | exact Or.inr rfl)))) (fun _ _ _ _ _ => (dts_one (dt_chain (pt_chain op_le op_lt (de_var (pv 6)) (de_var (pv 12)) (dp_var (pv 7))) os_le os_lt))) (fun _ _ _ _ _ => (de_tup (da_cons (de_var (pv 12)) (da_cons (de_var (pv 4)) da_nil))))) (by decide))
    (dss_cons (ds_asgV (ps_set (i := 10) nd rfl (by first | exact Or.inl rfl | exact Or.inr rfl) (de_call1 (pe_callB cr_lenA (by rfl) D.z_len (by decide +kernel) (pa_cons ((dn_lc (pe_lc (own := [("pair", 13)]) rfl nd (di_seq rfl (de_var (pv 9))) (blkOk_by (own := [("pair", 13)]) (N := ["season", "missed", "made", "found", "wheel", "days", "first", "last", "odd", "pairs", "gone", "free", "day", "pair"]) (sc := defScope s_parts_of) (by decide +kernel)) (fun _ _ _ _ _ => (dg_name (pg_name (i := 13) nd rfl (by first | exact Or.inl rfl | exact Or.inr rfl)))) (fun _ _ _ _ _ => (dts_one (dt_din (pc_din (hu_of hr) (de_var (pv 13)) (dp_var (pv 1))) (by rfl)))) (fun _ _ _ _ _ => (de_var (pv 13)))) (by decide))).keep.peek pa_nil)) cs_len)))
    (dss_cons (ds_asgV (ps_set (i := 11) nd rfl (by first | exact Or.inl rfl | exact Or.inr rfl) (de_call1 (pe_callB cr_lenA (by rfl) D.z_len (by decide +kernel) (pa_cons ((dn_lc (pe_lc (own := [("pair", 13)]) rfl nd (di_seq rfl (de_var (pv 9))) (blkOk_by (own := [("pair", 13)]) (N := ["season", "missed", "made", "found", "wheel", "days", "first", "last", "odd", "pairs", "gone", "free", "day", "pair"]) (sc := defScope s_parts_of) (by decide +kernel)) (fun _ _ _ _ _ => (dg_name (pg_name (i := 13) nd rfl (by first | exact Or.inl rfl | exact Or.inr rfl)))) (fun _ _ _ _ _ => (dts_one (PW.pt (dw_and (dt_dnotin (pc_dnotin (hu_of hr) (de_var (pv 13)) (dp_var (pv 1))) (by rfl)) (dw_and1 (dt_dnotin (pc_dnotin (hu_of hr) (de_var (pv 13)) (dp_var (pv 2))) (by rfl))))))) (fun _ _ _ _ _ => (de_var (pv 13)))) (by decide))).keep.peek pa_nil)) cs_len)))
    (dss_one (ds_expr (de_append rfl (pe_bm PySem.F.plainAttrs_list PySem.F.slot_list_append PySem.F.type_list_append mt_append (pv 3) (pa_cons (de_tup (da_cons (de_var (pv 10)) (da_cons (de_var (pv 11)) (da_cons (de_var (pv 8)) da_nil)))) pa_nil))))))))))))
    (dss_one (ds_ret (de_var (pv 3))))))
theorem ok_parts_of (D : Dfs w K mg) : FnOk P w K mg base (L2.CX P w) 3 D.f_parts_of D.fd_parts_of ["season", "missed", "made"] (spM ⟨K, D.cl⟩ 3 false false m_parts_of) :=
  fun_ok2 (cl := D.cl) (n := 3) (fm := m_parts_of) D.F_parts_of sc_parts_of (by decide) (by rfl) (by unfold m_parts_of; rfl) (bd_parts_of D)
theorem bd_places_in (D : Dfs w K mg) (cdv : Value) (A : Around) (outer : List Env) (s : Shared) (H : Hp) (E : XK) (π : Nat → Option Pin) (hr : Room 2 (A.deeper (envOfC "places_in" (defScope s_places_in) s.heap.objs.size D.f_places_in cdv))) : PSs (cxOf (L2.CX P w) P w K mg base ["line", "words", "numbers"] "places_in" (defScope s_places_in) D.f_places_in cdv A outer s H E) (defBody s_places_in) (TMs ⟨K, D.cl⟩ π (fun cls d _ H => E cls d H) b_places_in) := by
  have nd := sc_places_in.nd
  have tk : Takes (cxOf (L2.CX P w) P w K mg base ["line", "words", "numbers"] "places_in" (defScope s_places_in) D.f_places_in cdv A outer s H E) (fun cls d _ H => E cls d H) := takes_of rfl rfl rfl rfl
  have hp : PassesOwn (model P w) (cxOf (L2.CX P w) P w K mg base ["line", "words", "numbers"] "places_in" (defScope s_places_in) D.f_places_in cdv A outer s H E).A (cxOf (L2.CX P w) P w K mg base ["line", "words", "numbers"] "places_in" (defScope s_places_in) D.f_places_in cdv A outer s H E).env (cxOf (L2.CX P w) P w K mg base ["line", "words", "numbers"] "places_in" (defScope s_places_in) D.f_places_in cdv A outer s H E).xe := passes_of rfl
  unfold b_places_in
  exact (dss_cons (ds_asgV (ps_set (i := 1) nd rfl (by first | exact Or.inl rfl | exact Or.inr rfl) ((dn_split (pe_split (de_var (pv 0)) de_str))).keep))
    (dss_cons (ds_asgV (ps_set (i := 2) nd rfl (by first | exact Or.inl rfl | exact Or.inr rfl) (de_call (ok_numbers_in D) (hr.mono (by decide)) (by rfl) D.g_numbers_in D.F_numbers_in.kp D.b_numbers_in tk (da_cons (de_slV rfl (pe_slice sl_all (pv 1) (do_some de_int) do_none)) (da_cons (de_c (pe_glob (by rfl) D.c_DIGITS_rotas (D.r_DIGITS_rotas)) fun _ => .int _) da_nil)))))
    (dss_cons (ds_if (PW.pt (dw_or (dt_cmp (op_neD hr.units) os_ne (de_ixV (pe_ix ix_seq (pv 1) de_int (fun _ _ => rfl))) (de_str).peek (nomark _)) (dw_or (dt_cmp op_isN os_isN (de_var (pv 2)) (de_non).peek (nomark _)) (dw_or1 (dt_cmp (op_neD hr.units) os_ne (de_call1 (pe_callB cr_lenA (by rfl) D.z_len (by decide +kernel) (pa_cons (dp_var (pv 2)) pa_nil)) cs_len) (de_int).peek (nomark _)))))) (dss_one (ds_ret de_non)) dss_nil)
    (dss_one (ds_ret (de_ixV (pe_ix ix_seq (pv 2) de_int (fun _ _ => rfl))))))))
theorem ok_places_in (D : Dfs w K mg) : FnOk P w K mg base (L2.CX P w) 3 D.f_places_in D.fd_places_in ["line"] (spM ⟨K, D.cl⟩ 1 false false m_places_in) :=
  fun_ok2 (cl := D.cl) (n := 1) (fm := m_places_in) D.F_places_in sc_places_in (by decide) (by rfl) (by unfold m_places_in; rfl) (bd_places_in D)
theorem bd_row_in (D : Dfs w K mg) (cdv : Value) (A : Around) (outer : List Env) (s : Shared) (H : Hp) (E : XK) (π : Nat → Option Pin) (hr : Room 2 (A.deeper (envOfC "row_in" (defScope s_row_in) s.heap.objs.size D.f_row_in cdv))) : PSs (cxOf (L2.CX P w) P w K mg base ["line", "words", "at", "turned", "moves"] "row_in" (defScope s_row_in) D.f_row_in cdv A outer s H E) (defBody s_row_in) (TMs ⟨K, D.cl⟩ π (fun cls d _ H => E cls d H) b_row_in) := by
  have nd := sc_row_in.nd
  have tk : Takes (cxOf (L2.CX P w) P w K mg base ["line", "words", "at", "turned", "moves"] "row_in" (defScope s_row_in) D.f_row_in cdv A outer s H E) (fun cls d _ H => E cls d H) := takes_of rfl rfl rfl rfl
  have hp : PassesOwn (model P w) (cxOf (L2.CX P w) P w K mg base ["line", "words", "at", "turned", "moves"] "row_in" (defScope s_row_in) D.f_row_in cdv A outer s H E).A (cxOf (L2.CX P w) P w K mg base ["line", "words", "at", "turned", "moves"] "row_in" (defScope s_row_in) D.f_row_in cdv A outer s H E).env (cxOf (L2.CX P w) P w K mg base ["line", "words", "at", "turned", "moves"] "row_in" (defScope s_row_in) D.f_row_in cdv A outer s H E).xe := passes_of rfl
  unfold b_row_in
  exact (dss_cons (ds_asgV (ps_set (i := 1) nd rfl (by first | exact Or.inl rfl | exact Or.inr rfl) ((dn_split (pe_split (de_var (pv 0)) de_str))).keep))
    (dss_cons (ds_if (PW.pt (dw_or (dt_cmp (op_neD hr.units) os_ne (de_ixV (pe_ix ix_seq (pv 1) de_int (fun _ _ => rfl))) (de_str).peek (nomark _)) (dw_or1 (dt_cmp (op_neD hr.units) os_ne (de_countS rfl (pe_bm PySem.F.plainAttrs_list PySem.F.slot_list_count PySem.F.type_list_count mt_lcountF (de_var (pv 1)) (pa_cons de_str pa_nil))) (de_int).peek (nomark _))))) (dss_one (ds_ret de_non)) dss_nil)
    (dss_cons (ds_asgV (ps_set (i := 2) nd rfl (by first | exact Or.inl rfl | exact Or.inr rfl) (de_indexS rfl (pe_bm PySem.F.plainAttrs_list PySem.F.slot_list_index PySem.F.type_list_index mt_index (de_var (pv 1)) (pa_cons de_str pa_nil)))))
    (dss_cons (ds_asgV (ps_set (i := 3) nd rfl (by first | exact Or.inl rfl | exact Or.inr rfl) (de_ifExp (dt_cmp (op_eqD hr.units) os_eq (de_slV rfl (pe_slice sl_all (pv 1) (do_some de_int) (do_some (de_var (pv 2))))) ((dn_lst (da_cons de_str da_nil))).keep.peek (nomark _)) ((dn_lst da_nil)).keep (de_call (ok_numbers_in D) (hr.mono (by decide)) (by rfl) D.g_numbers_in D.F_numbers_in.kp D.b_numbers_in tk (da_cons (de_slV rfl (pe_slice sl_all (pv 1) (do_some de_int) (do_some (de_var (pv 2))))) (da_cons (de_c (pe_glob (by rfl) D.c_DIGITS_rotas (D.r_DIGITS_rotas)) fun _ => .int _) da_nil))))))
    (dss_cons (ds_asgV (ps_set (i := 4) nd rfl (by first | exact Or.inl rfl | exact Or.inr rfl) (de_call (ok_numbers_in D) (hr.mono (by decide)) (by rfl) D.g_numbers_in D.F_numbers_in.kp D.b_numbers_in tk (da_cons (de_slV rfl (pe_slice sl_all (pv 1) (do_some (de_bin op_addA os_add (de_var (pv 2)) (de_int).peek)) do_none)) (da_cons (de_c (pe_glob (by rfl) D.c_DIGITS_rotas (D.r_DIGITS_rotas)) fun _ => .int _) da_nil)))))
    (dss_cons (ds_if (PW.pt (dw_or (dt_cmp op_isN os_isN (de_var (pv 3)) (de_non).peek (nomark _)) (dw_or (dt_cmp op_isN os_isN (de_var (pv 4)) (de_non).peek (nomark _)) (dw_or (dt_cmp (op_eqD hr.units) os_eq (de_var (pv 2)) (de_int).peek (nomark _)) (dw_or1 (dt_cmp (op_eqD hr.units) os_eq (de_call1 (pe_callB cr_lenA (by rfl) D.z_len (by decide +kernel) (pa_cons (dp_var (pv 4)) pa_nil)) cs_len) (de_int).peek (nomark _))))))) (dss_one (ds_ret de_non)) dss_nil)
    (dss_one (ds_ret (de_tup (da_cons (de_var (pv 3)) (da_cons (de_var (pv 4)) da_nil)))))))))))
theorem ok_row_in (D : Dfs w K mg) : FnOk P w K mg base (L2.CX P w) 3 D.f_row_in D.fd_row_in ["line"] (spM ⟨K, D.cl⟩ 1 false false m_row_in) :=
  fun_ok2 (cl := D.cl) (n := 1) (fm := m_row_in) D.F_row_in sc_row_in (by decide) (by rfl) (by unfold m_row_in; rfl) (bd_row_in D)
theorem bd_words_of (D : Dfs w K mg) (cdv : Value) (A : Around) (outer : List Env) (s : Shared) (H : Hp) (E : XK) (π : Nat → Option Pin) (hr : Room 2 (A.deeper (envOfC "words_of" (defScope s_words_of) s.heap.objs.size D.f_words_of cdv))) : PSs (cxOf (L2.CX P w) P w K mg base ["command", "words"] "words_of" (defScope s_words_of) D.f_words_of cdv A outer s H E) (defBody s_words_of) (TMs ⟨K, D.cl⟩ π (fun cls d _ H => E cls d H) b_words_of) := by
  have nd := sc_words_of.nd
  have tk : Takes (cxOf (L2.CX P w) P w K mg base ["command", "words"] "words_of" (defScope s_words_of) D.f_words_of cdv A outer s H E) (fun cls d _ H => E cls d H) := takes_of rfl rfl rfl rfl
  have hp : PassesOwn (model P w) (cxOf (L2.CX P w) P w K mg base ["command", "words"] "words_of" (defScope s_words_of) D.f_words_of cdv A outer s H E).A (cxOf (L2.CX P w) P w K mg base ["command", "words"] "words_of" (defScope s_words_of) D.f_words_of cdv A outer s H E).env (cxOf (L2.CX P w) P w K mg base ["command", "words"] "words_of" (defScope s_words_of) D.f_words_of cdv A outer s H E).xe := passes_of rfl
  unfold b_words_of
  exact (dss_cons (ds_if (PW.pt (dw_or (dt_not (dt_val (de_isiK (c0 := 7) (fun C ns h => by cases h; exact D.nb_Desk) rfl .str (pe_callB call_isi (by rfl) D.z_isinstance (by decide +kernel) (pa_cons (dp_var (pv 0)) (pa_cons (pe_bltn (v := .ty "str") (by rfl) D.z_str (by decide +kernel) rfl) pa_nil)))))) (dw_or1 (dt_cmp op_in_sign os_inSg de_str (dp_var (pv 0)) (by rfl))))) (dss_one (ds_raise0 rfl rfl tk D.er_InvalidCommand rfl (ok_InvalidCommand_init D) (hr.mono (by decide)) D.b_InvalidCommand_init passes_no (by rfl))) dss_nil)
    (dss_cons (ds_asgV (ps_set (i := 1) nd rfl (by first | exact Or.inl rfl | exact Or.inr rfl) ((dn_split (pe_split (de_var (pv 0)) de_str))).keep))
    (dss_cons (ds_if (dt_cmp (op_inA hr.units) os_inA de_str (dp_var (pv 1)) (by rfl)) (dss_one (ds_raise0 rfl rfl tk D.er_InvalidCommand rfl (ok_InvalidCommand_init D) (hr.mono (by decide)) D.b_InvalidCommand_init passes_no (by rfl))) dss_nil)
    (dss_one (ds_ret (de_var (pv 1)))))))
theorem ok_words_of (D : Dfs w K mg) : FnOk P w K mg base (L2.CX P w) 3 D.f_words_of D.fd_words_of ["command"] (spM ⟨K, D.cl⟩ 1 false false m_words_of) :=
  fun_ok2 (cl := D.cl) (n := 1) (fm := m_words_of) D.F_words_of sc_words_of (by decide) (by rfl) (by unfold m_words_of; rfl) (bd_words_of D)
theorem bd_numbers_of (D : Dfs w K mg) (cdv : Value) (A : Around) (outer : List Env) (s : Shared) (H : Hp) (E : XK) (π : Nat → Option Pin) (hr : Room 2 (A.deeper (envOfC "numbers_of" (defScope s_numbers_of) s.heap.objs.size D.f_numbers_of cdv))) : PSs (cxOf (L2.CX P w) P w K mg base ["words", "numbers"] "numbers_of" (defScope s_numbers_of) D.f_numbers_of cdv A outer s H E) (defBody s_numbers_of) (TMs ⟨K, D.cl⟩ π (fun cls d _ H => E cls d H) b_numbers_of) := by
  have nd := sc_numbers_of.nd
  have tk : Takes (cxOf (L2.CX P w) P w K mg base ["words", "numbers"] "numbers_of" (defScope s_numbers_of) D.f_numbers_of cdv A outer s H E) (fun cls d _ H => E cls d H) := takes_of rfl rfl rfl rfl
  have hp : PassesOwn (model P w) (cxOf (L2.CX P w) P w K mg base ["words", "numbers"] "numbers_of" (defScope s_numbers_of) D.f_numbers_of cdv A outer s H E).A (cxOf (L2.CX P w) P w K mg base ["words", "numbers"] "numbers_of" (defScope s_numbers_of) D.f_numbers_of cdv A outer s H E).env (cxOf (L2.CX P w) P w K mg base ["words", "numbers"] "numbers_of" (defScope s_numbers_of) D.f_numbers_of cdv A outer s H E).xe := passes_of rfl
  unfold b_numbers_of
  exact (dss_cons (ds_asgV (ps_set (i := 1) nd rfl (by first | exact Or.inl rfl | exact Or.inr rfl) (de_call (ok_numbers_in D) (hr.mono (by decide)) (by rfl) D.g_numbers_in D.F_numbers_in.kp D.b_numbers_in tk (da_cons (de_slV rfl (pe_slice sl_all (pv 0) (do_some de_int) do_none)) (da_cons (de_c (pe_glob (by rfl) D.c_DIGITS_desk (D.r_DIGITS_desk)) fun _ => .int _) da_nil)))))
    (dss_cons (ds_if (PW.pt (dw_or (dt_kNotIn D.kd_SIZES (fun KD => pt_cmpR (op_notIn_kd KD) (de_ixV (pe_ix ix_seq (pv 0) de_int (fun _ _ => rfl))) (pe_glob (by rfl) D.gk_SIZES rfl) rfl)) (dw_or (dt_cmp op_isN os_isN (de_var (pv 1)) (de_non).peek (nomark _)) (dw_or1 (dt_cmp (op_neD hr.units) os_ne (de_call1 (pe_callB cr_lenA (by rfl) D.z_len (by decide +kernel) (pa_cons (dp_var (pv 1)) pa_nil)) cs_len) (de_kIx D.kd_SIZES (pe_ix ix_kdict (pe_glob (by rfl) D.gk_SIZES rfl) (de_ixV (pe_ix ix_seq (pv 0) de_int (fun _ _ => rfl))) (fun _ _ => rfl))).peek (nomark _)))))) (dss_one (ds_raise0 rfl rfl tk D.er_InvalidCommand rfl (ok_InvalidCommand_init D) (hr.mono (by decide)) D.b_InvalidCommand_init passes_no (by rfl))) dss_nil)
    (dss_one (ds_ret (de_var (pv 1))))))
theorem ok_numbers_of (D : Dfs w K mg) : FnOk P w K mg base (L2.CX P w) 3 D.f_numbers_of D.fd_numbers_of ["words"] (spM ⟨K, D.cl⟩ 1 false false m_numbers_of) :=
  fun_ok2 (cl := D.cl) (n := 1) (fm := m_numbers_of) D.F_numbers_of sc_numbers_of (by decide) (by rfl) (by unfold m_numbers_of; rfl) (bd_numbers_of D)
theorem bd_law_value (D : Dfs w K mg) (cdv : Value) (A : Around) (outer : List Env) (s : Shared) (H : Hp) (E : XK) (π : Nat → Option Pin) (hr : Room 2 (A.deeper (envOfC "_law_value" (defScope s_law_value) s.heap.objs.size D.f_law_value cdv))) : PSs (cxOf (L2.CX P w) P w K mg base ["_law_box_here", "_law_some", "_law_deep", "_law_turn"] "_law_value" (defScope s_law_value) D.f_law_value cdv A outer s H E) (defBody s_law_value) (TMs ⟨K, D.cl⟩ π (fun cls d _ H => E cls d H) b_law_value) := by
  have nd := sc_law_value.nd
  have tk : Takes (cxOf (L2.CX P w) P w K mg base ["_law_box_here", "_law_some", "_law_deep", "_law_turn"] "_law_value" (defScope s_law_value) D.f_law_value cdv A outer s H E) (fun cls d _ H => E cls d H) := takes_of rfl rfl rfl rfl
  have hp : PassesOwn (model P w) (cxOf (L2.CX P w) P w K mg base ["_law_box_here", "_law_some", "_law_deep", "_law_turn"] "_law_value" (defScope s_law_value) D.f_law_value cdv A outer s H E).A (cxOf (L2.CX P w) P w K mg base ["_law_box_here", "_law_some", "_law_deep", "_law_turn"] "_law_value" (defScope s_law_value) D.f_law_value cdv A outer s H E).env (cxOf (L2.CX P w) P w K mg base ["_law_box_here", "_law_some", "_law_deep", "_law_turn"] "_law_value" (defScope s_law_value) D.f_law_value cdv A outer s H E).xe := passes_of rfl
  unfold b_law_value
  exact (dss_cons (ds_asgV (ps_set (i := 1) nd rfl (by first | exact Or.inl rfl | exact Or.inr rfl) ((dn_lst (da_cons de_int (da_cons (de_un un_neg us_neg (de_int).peek) (da_cons (de_bin op_pow os_pow de_int (de_int).peek) (da_cons de_str (da_cons de_str (da_cons de_non (da_cons de_bl (da_cons de_bl (da_cons ((dn_lst da_nil)).keep (da_cons ((dn_lst (da_cons de_int (da_cons de_str da_nil)))).keep (da_cons (de_tup (da_cons de_int (da_cons de_non da_nil))) (da_cons (de_tup da_nil) da_nil)))))))))))))).keep))
    (dss_cons (ds_asgV (ps_set (i := 1) nd rfl (by first | exact Or.inl rfl | exact Or.inr rfl) (de_bin op_addA os_add (de_var (pv 1)) ((dn_lst (da_cons de_str (da_cons de_int (da_cons de_str (da_cons ((dn_lst (da_cons de_str da_nil))).keep (da_cons (de_tup (da_cons de_int (da_cons de_int da_nil))) (da_cons de_int da_nil)))))))).keep.peek)))
    (dss_cons (ds_asgV (ps_set (i := 2) nd rfl (by first | exact Or.inl rfl | exact Or.inr rfl) (de_tup da_nil)))
    (dss_cons (ds_for hp rfl (di_rng1 (by rfl) D.z_range (da_cons de_int da_nil)) (dg_name (pg_name (i := 3) nd rfl (by first | exact Or.inl rfl | exact Or.inr rfl))) (dss_one (ds_asgV (ps_set (i := 2) nd rfl (by first | exact Or.inl rfl | exact Or.inr rfl) (de_ifExp (dt_cmp (op_eqD hr.units) os_eq (de_bin op_mod os_mod (de_var (pv 3)) (de_int).peek) (de_int).peek (nomark _)) ((dn_lst (da_cons (de_var (pv 2)) (da_cons de_int da_nil)))).keep (de_tup (da_cons (de_var (pv 2)) da_nil)))))))
    (dss_one (ds_ret (de_callIo (ok_law_pick D) (hr.mono (by decide)) (by rfl) D.g_law_pick D.F_law_pick.kp D.b_law_pick tk (pv 0) (da_cons (de_bin op_addA os_add (de_var (pv 1)) ((dn_lst (da_cons (de_var (pv 2)) da_nil))).keep.peek) da_nil))))))))
theorem ok_law_value (D : Dfs w K mg) : FnOk P w K mg base (L2.CX P w) 3 D.f_law_value D.fd_law_value ["_law_box_here"] (spM ⟨K, D.cl⟩ 1 true false m_law_value) :=
  fun_ok2 (cl := D.cl) (n := 1) (fm := m_law_value) D.F_law_value sc_law_value (by decide) (by rfl) (by unfold m_law_value; rfl) (bd_law_value D)
theorem bd_need_wheel (D : Dfs w K mg) (cdv : Value) (A : Around) (outer : List Env) (s : Shared) (H : Hp) (E : XK) (π : Nat → Option Pin) (hr : Room 3 (A.deeper (envOfC "need_wheel" (defScope s_need_wheel) s.heap.objs.size D.f_need_wheel cdv))) : PSs (cxOf (L2.CX P w) P w K mg base ["rota", "wheel"] "need_wheel" (defScope s_need_wheel) D.f_need_wheel cdv A outer s H E) (defBody s_need_wheel) (TMs ⟨K, D.cl⟩ π (fun cls d _ H => E cls d H) b_need_wheel_k73) := by
  have nd := sc_need_wheel.nd
  have tk : Takes (cxOf (L2.CX P w) P w K mg base ["rota", "wheel"] "need_wheel" (defScope s_need_wheel) D.f_need_wheel cdv A outer s H E) (fun cls d _ H => E cls d H) := takes_of rfl rfl rfl rfl
  have hp : PassesOwn (model P w) (cxOf (L2.CX P w) P w K mg base ["rota", "wheel"] "need_wheel" (defScope s_need_wheel) D.f_need_wheel cdv A outer s H E).A (cxOf (L2.CX P w) P w K mg base ["rota", "wheel"] "need_wheel" (defScope s_need_wheel) D.f_need_wheel cdv A outer s H E).env (cxOf (L2.CX P w) P w K mg base ["rota", "wheel"] "need_wheel" (defScope s_need_wheel) D.f_need_wheel cdv A outer s H E).xe := passes_of rfl
  unfold b_need_wheel_k73
  exact (dss_one (ds_if (dt_not (dt_val (de_call (ok_is_below D) (hr.mono (by decide)) (by rfl) D.g_is_below D.F_is_below.kp D.b_is_below tk (da_cons (de_var (pv 1)) (da_cons (de_attr rfl (at_places D) (dp_var (pv 0)) (by rfl)) da_nil))))) (dss_one (ds_raise rfl rfl tk D.er_NoWheel rfl (ok_NoWheel_init D) (hr.mono (by decide)) D.b_NoWheel_init passes_no (by rfl) (de_var (pv 1)))) dss_nil))
theorem ok_need_wheel (D : Dfs w K mg) : FnOk P w K mg base (L2.CX P w) 4 D.f_need_wheel D.fd_need_wheel ["rota", "wheel"] (spM ⟨K, D.cl⟩ 2 false false m_need_wheel_k73) :=
  fun_ok2 (cl := D.cl) (n := 2) (fm := m_need_wheel_k73) D.F_need_wheel sc_need_wheel (by decide) (by rfl) (by unfold m_need_wheel_k73; rfl) (bd_need_wheel D)
theorem bd_is_look (D : Dfs w K mg) (cdv : Value) (A : Around) (outer : List Env) (s : Shared) (H : Hp) (E : XK) (π : Nat → Option Pin) (hr : Room 3 (A.deeper (envOfC "is_look" (defScope s_is_look) s.heap.objs.size D.f_is_look cdv))) : PSs (cxOf (L2.CX P w) P w K mg base ["value", "rota", "days"] "is_look" (defScope s_is_look) D.f_is_look cdv A outer s H E) (defBody s_is_look) (TMs ⟨K, D.cl⟩ π (fun cls d _ H => E cls d H) b_is_look) := by
  have nd := sc_is_look.nd
  have tk : Takes (cxOf (L2.CX P w) P w K mg base ["value", "rota", "days"] "is_look" (defScope s_is_look) D.f_is_look cdv A outer s H E) (fun cls d _ H => E cls d H) := takes_of rfl rfl rfl rfl
  have hp : PassesOwn (model P w) (cxOf (L2.CX P w) P w K mg base ["value", "rota", "days"] "is_look" (defScope s_is_look) D.f_is_look cdv A outer s H E).A (cxOf (L2.CX P w) P w K mg base ["value", "rota", "days"] "is_look" (defScope s_is_look) D.f_is_look cdv A outer s H E).env (cxOf (L2.CX P w) P w K mg base ["value", "rota", "days"] "is_look" (defScope s_is_look) D.f_is_look cdv A outer s H E).xe := passes_of rfl
  unfold b_is_look
  exact (dss_cons (ds_if (PW.pt (dw_or (dt_not (dt_val (de_isi rfl .tuple (pe_callB call_isi (by rfl) D.z_isinstance (by decide +kernel) (pa_cons (dp_var (pv 0)) (pa_cons (pe_bltn (v := .ty "tuple") (by rfl) D.z_tuple (by decide +kernel) rfl) pa_nil)))))) (dw_or1 (dt_cmp (op_neD hr.units) os_ne (de_call1 (pe_callB cr_lenA (by rfl) D.z_len (by decide +kernel) (pa_cons (dp_var (pv 0)) pa_nil)) cs_len) (de_c (pe_glob (by rfl) D.c_TRIPLE (D.r_TRIPLE)) fun _ => .int _).peek (nomark _))))) (dss_one (ds_ret de_bl)) dss_nil)
    (dss_one (ds_ret (de_and (de_call (ok_is_below D) (hr.mono (by decide)) (by rfl) D.g_is_below D.F_is_below.kp D.b_is_below tk (da_cons (de_ixV (pe_ix ix_seq (pv 0) de_int (fun _ _ => rfl))) (da_cons (de_bin op_addA os_add (de_var (pv 2)) (de_int).peek) da_nil))) (de_and (de_call (ok_is_below D) (hr.mono (by decide)) (by rfl) D.g_is_below D.F_is_below.kp D.b_is_below tk (da_cons (de_ixV (pe_ix ix_seq (pv 0) de_int (fun _ _ => rfl))) (da_cons (de_attr rfl (at_places D) (dp_var (pv 1)) (by rfl)) da_nil))) (de_one (de_call (ok_is_below D) (hr.mono (by decide)) (by rfl) D.g_is_below D.F_is_below.kp D.b_is_below tk (da_cons (de_ixV (pe_ix ix_seq (pv 0) de_int (fun _ _ => rfl))) (da_cons (de_c (pe_glob (by rfl) D.c_PAIR_seasons (D.r_PAIR_seasons)) fun _ => .int _) da_nil)))))))))
theorem ok_is_look (D : Dfs w K mg) : FnOk P w K mg base (L2.CX P w) 4 D.f_is_look D.fd_is_look ["value", "rota", "days"] (spM ⟨K, D.cl⟩ 3 false false m_is_look) :=
  fun_ok2 (cl := D.cl) (n := 3) (fm := m_is_look) D.F_is_look sc_is_look (by decide) (by rfl) (by unfold m_is_look; rfl) (bd_is_look D)
theorem bd_cost (D : Dfs w K mg) (cdv : Value) (A : Around) (outer : List Env) (s : Shared) (H : Hp) (E : XK) (π : Nat → Option Pin) (hr : Room 3 (A.deeper (envOfC "cost" (defScope s_cost) s.heap.objs.size D.f_cost cdv))) : PSs (cxOf (L2.CX P w) P w K mg base ["season", "missed", "made", "total", "gone", "free", "odd", "is_even"] "cost" (defScope s_cost) D.f_cost cdv A outer s H E) (defBody s_cost) (TMs ⟨K, D.cl⟩ π (fun cls d _ H => E cls d H) b_cost) := by
  have nd := sc_cost.nd
  have tk : Takes (cxOf (L2.CX P w) P w K mg base ["season", "missed", "made", "total", "gone", "free", "odd", "is_even"] "cost" (defScope s_cost) D.f_cost cdv A outer s H E) (fun cls d _ H => E cls d H) := takes_of rfl rfl rfl rfl
  have hp : PassesOwn (model P w) (cxOf (L2.CX P w) P w K mg base ["season", "missed", "made", "total", "gone", "free", "odd", "is_even"] "cost" (defScope s_cost) D.f_cost cdv A outer s H E).A (cxOf (L2.CX P w) P w K mg base ["season", "missed", "made", "total", "gone", "free", "odd", "is_even"] "cost" (defScope s_cost) D.f_cost cdv A outer s H E).env (cxOf (L2.CX P w) P w K mg base ["season", "missed", "made", "total", "gone", "free", "odd", "is_even"] "cost" (defScope s_cost) D.f_cost cdv A outer s H E).xe := passes_of rfl
  unfold b_cost
  exact (dss_cons (ds_asgV (ps_set (i := 3) nd rfl (by first | exact Or.inl rfl | exact Or.inr rfl) de_int))
    (dss_cons (ds_for hp rfl (di_seq rfl (de_call (ok_parts_of D) (hr.mono (by decide)) (by rfl) D.g_parts_of D.F_parts_of.kp D.b_parts_of tk (da_cons (de_var (pv 0)) (da_cons (de_var (pv 1)) (da_cons (de_var (pv 2)) da_nil))))) (dg_tup rfl rfl (dgs_cons (dg_name (pg_name (i := 4) nd rfl (by first | exact Or.inl rfl | exact Or.inr rfl))) (dgs_cons (dg_name (pg_name (i := 5) nd rfl (by first | exact Or.inl rfl | exact Or.inr rfl))) (dgs_cons (dg_name (pg_name (i := 6) nd rfl (by first | exact Or.inl rfl | exact Or.inr rfl))) dgs_nil)))) (dss_cons (ds_asgV (ps_set (i := 7) nd rfl (by first | exact Or.inl rfl | exact Or.inr rfl) (de_or (de_cmp op_isN os_isN (de_var (pv 6)) (de_non).peek (nomark _)) (de_one (de_cmp (op_eqD hr.units) os_eq (de_cmp (op_eqD hr.units) os_eq (de_bin op_mod os_mod (de_var (pv 4)) (de_int).peek) (de_int).peek (nomark _)) (dp_var (pv 6)) (nomark _))))))
    (dss_cons (ds_if (PW.pt (dw_and (dt_not (dt_val (de_var (pv 7)))) (dw_and1 (dt_cmp (op_eqD hr.units) os_eq (de_var (pv 5)) (de_int).peek (nomark _))))) (dss_one (ds_ret de_non)) dss_nil)
    (dss_one (ds_aug (ps_aug (i := 3) nd rfl (by first | exact Or.inl rfl | exact Or.inr rfl) (de_ifExp (dt_val (de_var (pv 7))) (de_var (pv 4)) (de_bin op_addA os_add (de_var (pv 4)) (de_int).peek)) ip_add))))))
    (dss_one (ds_ret (de_var (pv 3))))))
theorem ok_cost (D : Dfs w K mg) : FnOk P w K mg base (L2.CX P w) 4 D.f_cost D.fd_cost ["season", "missed", "made"] (spM ⟨K, D.cl⟩ 3 false false m_cost) :=
  fun_ok2 (cl := D.cl) (n := 3) (fm := m_cost) D.F_cost sc_cost (by decide) (by rfl) (by unfold m_cost; rfl) (bd_cost D)
theorem bd_lots_by_size (D : Dfs w K mg) (cdv : Value) (A : Around) (outer : List Env) (s : Shared) (H : Hp) (E : XK) (π : Nat → Option Pin) (hr : Room 3 (A.deeper (envOfC "lots_by_size" (defScope s_lots_by_size) s.heap.objs.size D.f_lots_by_size cdv))) : PSs (cxOf (L2.CX P w) P w K mg base ["season", "missed", "made", "bound", "found", "gone", "free", "odd", "part", "size", "many", "is_let"] "lots_by_size" (defScope s_lots_by_size) D.f_lots_by_size cdv A outer s H E) (defBody s_lots_by_size) (TMs ⟨K, D.cl⟩ π (fun cls d _ H => E cls d H) b_lots_by_size) := by
  have nd := sc_lots_by_size.nd
  have tk : Takes (cxOf (L2.CX P w) P w K mg base ["season", "missed", "made", "bound", "found", "gone", "free", "odd", "part", "size", "many", "is_let"] "lots_by_size" (defScope s_lots_by_size) D.f_lots_by_size cdv A outer s H E) (fun cls d _ H => E cls d H) := takes_of rfl rfl rfl rfl
  have hp : PassesOwn (model P w) (cxOf (L2.CX P w) P w K mg base ["season", "missed", "made", "bound", "found", "gone", "free", "odd", "part", "size", "many", "is_let"] "lots_by_size" (defScope s_lots_by_size) D.f_lots_by_size cdv A outer s H E).A (cxOf (L2.CX P w) P w K mg base ["season", "missed", "made", "bound", "found", "gone", "free", "odd", "part", "size", "many", "is_let"] "lots_by_size" (defScope s_lots_by_size) D.f_lots_by_size cdv A outer s H E).env (cxOf (L2.CX P w) P w K mg base ["season", "missed", "made", "bound", "found", "gone", "free", "odd", "part", "size", "many", "is_let"] "lots_by_size" (defScope s_lots_by_size) D.f_lots_by_size cdv A outer s H E).xe := passes_of rfl
  unfold b_lots_by_size
  exact (dss_cons (ds_asgV (ps_set (i := 3) nd rfl (by first | exact Or.inl rfl | exact Or.inr rfl) (de_attr rfl (at_budget D) (dp_var (pv 0)) (by rfl))))
    (dss_cons (ds_asgV (ps_set (i := 4) nd rfl (by first | exact Or.inl rfl | exact Or.inr rfl) (de_call (ok_joined D) (hr.mono (by decide)) (by rfl) D.g_joined D.F_joined.kp D.b_joined tk (da_cons ((dn_lst (da_cons de_int da_nil))).keep (da_cons ((dn_lst (da_cons de_int da_nil))).keep (da_cons (de_var (pv 3)) da_nil))))))
    (dss_cons (ds_for hp rfl (di_seq rfl (de_call (ok_parts_of D) (hr.mono (by decide)) (by rfl) D.g_parts_of D.F_parts_of.kp D.b_parts_of tk (da_cons (de_var (pv 0)) (da_cons (de_var (pv 1)) (da_cons (de_var (pv 2)) da_nil))))) (dg_tup rfl rfl (dgs_cons (dg_name (pg_name (i := 5) nd rfl (by first | exact Or.inl rfl | exact Or.inr rfl))) (dgs_cons (dg_name (pg_name (i := 6) nd rfl (by first | exact Or.inl rfl | exact Or.inr rfl))) (dgs_cons (dg_name (pg_name (i := 7) nd rfl (by first | exact Or.inl rfl | exact Or.inr rfl))) dgs_nil)))) (dss_cons (ds_setLcN (ps_setLc (own := [("size", 9)]) (i := 8) rfl nd rfl rfl (sw_true rfl rfl rfl (by decide +kernel)) (di_rng1 (by rfl) D.z_range (da_cons (de_var (pv 5)) da_nil)) (blkOk_by (own := [("size", 9)]) (N := ["season", "missed", "made", "bound", "found", "gone", "free", "odd", "part", "size", "many", "is_let"]) (sc := defScope s_lots_by_size) (by decide +kernel)) (fun _ _ _ _ _ => (dg_name (pg_name (i := 9) nd rfl (by first | exact Or.inl rfl | exact Or.inr rfl)))) (fun _ _ _ _ _ => dts_nil) (fun _ _ _ _ _ => de_int)) (by decide))
    (dss_cons (ds_for hp rfl (di_enum rfl (by rfl) D.z_enumerate (de_call (ok_chosen D) (hr.mono (by decide)) (by rfl) D.g_chosen D.F_chosen.kp D.b_chosen tk (da_cons (de_var (pv 6)) da_nil))) (dg_tup rfl rfl (dgs_cons (dg_name (pg_name (i := 9) nd rfl (by first | exact Or.inl rfl | exact Or.inr rfl))) (dgs_cons (dg_name (pg_name (i := 10) nd rfl (by first | exact Or.inl rfl | exact Or.inr rfl))) dgs_nil))) (dss_cons (ds_asgV (ps_set (i := 11) nd rfl (by first | exact Or.inl rfl | exact Or.inr rfl) (de_or (de_cmp op_isN os_isN (de_var (pv 7)) (de_non).peek (nomark _)) (de_one (de_cmp (op_eqD hr.units) os_eq (de_cmp (op_eqD hr.units) os_eq (de_bin op_mod os_mod (de_bin op_addA os_add (de_var (pv 5)) (dp_var (pv 9))) (de_int).peek) (de_int).peek (nomark _)) (dp_var (pv 7)) (nomark _))))))
    (dss_one (ds_expr (de_append rfl (pe_bm PySem.F.plainAttrs_list PySem.F.slot_list_append PySem.F.type_list_append mt_append (pv 8) (pa_cons (de_ifExp (dt_val (de_var (pv 11))) (de_var (pv 10)) de_int) pa_nil)))))))
    (dss_one (ds_asgV (ps_set (i := 4) nd rfl (by first | exact Or.inl rfl | exact Or.inr rfl) (de_call (ok_joined D) (hr.mono (by decide)) (by rfl) D.g_joined D.F_joined.kp D.b_joined tk (da_cons (de_var (pv 4)) (da_cons (de_var (pv 8)) (da_cons (de_var (pv 3)) da_nil))))))))))
    (dss_one (ds_ret (de_call1 (pe_callTy call_tuple_of (by rfl) D.z_tuple (by decide +kernel) (pa_cons (dp_var (pv 4)) pa_nil)) cs_tuple))))))
theorem ok_lots_by_size (D : Dfs w K mg) : FnOk P w K mg base (L2.CX P w) 4 D.f_lots_by_size D.fd_lots_by_size ["season", "missed", "made"] (spM ⟨K, D.cl⟩ 3 false false m_lots_by_size) :=
  fun_ok2 (cl := D.cl) (n := 3) (fm := m_lots_by_size) D.F_lots_by_size sc_lots_by_size (by decide) (by rfl) (by unfold m_lots_by_size; rfl) (bd_lots_by_size D)
theorem bd_is_unlike (D : Dfs w K mg) (cdv : Value) (A : Around) (outer : List Env) (s : Shared) (H : Hp) (E : XK) (π : Nat → Option Pin) (hr : Room 3 (A.deeper (envOfC "is_unlike" (defScope s_is_unlike) s.heap.objs.size D.f_is_unlike cdv))) : PSs (cxOf (L2.CX P w) P w K mg base ["value", "bound", "one"] "is_unlike" (defScope s_is_unlike) D.f_is_unlike cdv A outer s H E) (defBody s_is_unlike) (TMs ⟨K, D.cl⟩ π (fun cls d _ H => E cls d H) b_is_unlike) := by
  have nd := sc_is_unlike.nd
  have tk : Takes (cxOf (L2.CX P w) P w K mg base ["value", "bound", "one"] "is_unlike" (defScope s_is_unlike) D.f_is_unlike cdv A outer s H E) (fun cls d _ H => E cls d H) := takes_of rfl rfl rfl rfl
  have hp : PassesOwn (model P w) (cxOf (L2.CX P w) P w K mg base ["value", "bound", "one"] "is_unlike" (defScope s_is_unlike) D.f_is_unlike cdv A outer s H E).A (cxOf (L2.CX P w) P w K mg base ["value", "bound", "one"] "is_unlike" (defScope s_is_unlike) D.f_is_unlike cdv A outer s H E).env (cxOf (L2.CX P w) P w K mg base ["value", "bound", "one"] "is_unlike" (defScope s_is_unlike) D.f_is_unlike cdv A outer s H E).xe := passes_of rfl
  unfold b_is_unlike
  exact (dss_cons (ds_if (PW.pt (dw_or (dt_not (dt_val (de_call (ok_is_sequence D) (hr.mono (by decide)) (by rfl) D.g_is_sequence D.F_is_sequence.kp D.b_is_sequence tk (da_cons (de_var (pv 0)) da_nil)))) (dw_or1 (dt_not (dt_val (de_call1 (pe_callB (cr_all rfl) (by rfl) D.z_all (by decide +kernel) (pa_cons ((dn_lc (pe_lc (own := [("one", 2)]) rfl nd (di_seq rfl (de_var (pv 0))) (blkOk_by (own := [("one", 2)]) (N := ["value", "bound", "one"]) (sc := defScope s_is_unlike) (by decide +kernel)) (fun _ _ _ _ _ => (dg_name (pg_name (i := 2) nd rfl (by first | exact Or.inl rfl | exact Or.inr rfl)))) (fun _ _ _ _ _ => dts_nil) (fun _ _ _ _ _ => (de_call (ok_is_below D) (hr.mono (by decide)) (by rfl) D.g_is_below D.F_is_below.kp D.b_is_below takes0 (da_cons (de_var (pv 2)) (da_cons (de_var (pv 1)) da_nil))))) (by decide))).keep.peek pa_nil)) cs_all)))))) (dss_one (ds_ret de_bl)) dss_nil)
    (dss_one (ds_ret (de_cmp (op_eqD hr.units) os_eq (de_call1 (pe_callB cr_lenA (by rfl) D.z_len (by decide +kernel) (pa_cons ((dn_dc (pe_dc (own := [("one", 2)]) rfl nd (di_seq rfl (de_var (pv 0))) (blkOk_by (own := [("one", 2)]) (N := ["value", "bound", "one"]) (sc := defScope s_is_unlike) (by decide +kernel)) (fun _ _ _ _ _ => (dg_name (pg_name (i := 2) nd rfl (by first | exact Or.inl rfl | exact Or.inr rfl)))) (fun _ _ _ _ _ => dts_nil) (fun _ _ _ _ _ => (de_var (pv 2))) (fun _ _ _ _ _ => de_bl)) (by decide))).keep.peek pa_nil)) cs_len) (de_call1 (pe_callB cr_lenA (by rfl) D.z_len (by decide +kernel) (pa_cons (dp_var (pv 0)) pa_nil)) cs_len).peek (nomark _)))))
theorem ok_is_unlike (D : Dfs w K mg) : FnOk P w K mg base (L2.CX P w) 4 D.f_is_unlike D.fd_is_unlike ["value", "bound"] (spM ⟨K, D.cl⟩ 2 false false m_is_unlike) :=
  fun_ok2 (cl := D.cl) (n := 2) (fm := m_is_unlike) D.F_is_unlike sc_is_unlike (by decide) (by rfl) (by unfold m_is_unlike; rfl) (bd_is_unlike D)
theorem bd_round_days (D : Dfs w K mg) (cdv : Value) (A : Around) (outer : List Env) (s : Shared) (H : Hp) (E : XK) (π : Nat → Option Pin) (hr : Room 4 (A.deeper (envOfC "round_days" (defScope s_round_days) s.heap.objs.size D.f_round_days cdv))) : PSs (cxOf (L2.CX P w) P w K mg base ["rota", "wheel"] "round_days" (defScope s_round_days) D.f_round_days cdv A outer s H E) (defBody s_round_days) (TMs ⟨K, D.cl⟩ π (fun cls d _ H => E cls d H) b_round_days_k73) := by
  have nd := sc_round_days.nd
  have tk : Takes (cxOf (L2.CX P w) P w K mg base ["rota", "wheel"] "round_days" (defScope s_round_days) D.f_round_days cdv A outer s H E) (fun cls d _ H => E cls d H) := takes_of rfl rfl rfl rfl
  have hp : PassesOwn (model P w) (cxOf (L2.CX P w) P w K mg base ["rota", "wheel"] "round_days" (defScope s_round_days) D.f_round_days cdv A outer s H E).A (cxOf (L2.CX P w) P w K mg base ["rota", "wheel"] "round_days" (defScope s_round_days) D.f_round_days cdv A outer s H E).env (cxOf (L2.CX P w) P w K mg base ["rota", "wheel"] "round_days" (defScope s_round_days) D.f_round_days cdv A outer s H E).xe := passes_of rfl
  unfold b_round_days_k73
  exact (dss_cons (ds_expr (de_call (ok_need_wheel D) (hr.mono (by decide)) (by rfl) D.g_need_wheel D.F_need_wheel.kp D.b_need_wheel tk (da_cons (de_var (pv 0)) (da_cons (de_var (pv 1)) da_nil))))
    (dss_one (ds_ret (de_call1 (pe_callB cr_lenA (by rfl) D.z_len (by decide +kernel) (pa_cons (de_call (ok_way D) (hr.mono (by decide)) (by rfl) D.g_way D.F_way.kp D.b_way tk (da_cons (de_var (pv 0)) (da_cons (de_var (pv 1)) da_nil))).peek pa_nil)) cs_len))))
theorem ok_round_days (D : Dfs w K mg) : FnOk P w K mg base (L2.CX P w) 5 D.f_round_days D.fd_round_days ["rota", "wheel"] (spM ⟨K, D.cl⟩ 2 false false m_round_days_k73) :=
  fun_ok2 (cl := D.cl) (n := 2) (fm := m_round_days_k73) D.F_round_days sc_round_days (by decide) (by rfl) (by unfold m_round_days_k73; rfl) (bd_round_days D)
theorem bd_can_be (D : Dfs w K mg) (cdv : Value) (A : Around) (outer : List Env) (s : Shared) (H : Hp) (E : XK) (π : Nat → Option Pin) (hr : Room 4 (A.deeper (envOfC "can_be" (defScope s_can_be) s.heap.objs.size D.f_can_be cdv))) : PSs (cxOf (L2.CX P w) P w K mg base ["season", "missed", "made", "paid"] "can_be" (defScope s_can_be) D.f_can_be cdv A outer s H E) (defBody s_can_be) (TMs ⟨K, D.cl⟩ π (fun cls d _ H => E cls d H) b_can_be) := by
  have nd := sc_can_be.nd
  have tk : Takes (cxOf (L2.CX P w) P w K mg base ["season", "missed", "made", "paid"] "can_be" (defScope s_can_be) D.f_can_be cdv A outer s H E) (fun cls d _ H => E cls d H) := takes_of rfl rfl rfl rfl
  have hp : PassesOwn (model P w) (cxOf (L2.CX P w) P w K mg base ["season", "missed", "made", "paid"] "can_be" (defScope s_can_be) D.f_can_be cdv A outer s H E).A (cxOf (L2.CX P w) P w K mg base ["season", "missed", "made", "paid"] "can_be" (defScope s_can_be) D.f_can_be cdv A outer s H E).env (cxOf (L2.CX P w) P w K mg base ["season", "missed", "made", "paid"] "can_be" (defScope s_can_be) D.f_can_be cdv A outer s H E).xe := passes_of rfl
  unfold b_can_be
  exact (dss_cons (ds_asgV (ps_set (i := 3) nd rfl (by first | exact Or.inl rfl | exact Or.inr rfl) (de_call (ok_cost D) (hr.mono (by decide)) (by rfl) D.g_cost D.F_cost.kp D.b_cost tk (da_cons (de_var (pv 0)) (da_cons (de_var (pv 1)) (da_cons (de_var (pv 2)) da_nil))))))
    (dss_one (ds_ret (de_and (de_cmp op_notN os_notN (de_var (pv 3)) (de_non).peek (nomark _)) (de_one (de_cmp op_le os_le (de_var (pv 3)) (de_attr rfl (at_budget D) (dp_var (pv 0)) (by rfl)).peek (nomark _)))))))
theorem ok_can_be (D : Dfs w K mg) : FnOk P w K mg base (L2.CX P w) 5 D.f_can_be D.fd_can_be ["season", "missed", "made"] (spM ⟨K, D.cl⟩ 3 false false m_can_be) :=
  fun_ok2 (cl := D.cl) (n := 3) (fm := m_can_be) D.F_can_be sc_can_be (by decide) (by rfl) (by unfold m_can_be; rfl) (bd_can_be D)
theorem bd_least (D : Dfs w K mg) (cdv : Value) (A : Around) (outer : List Env) (s : Shared) (H : Hp) (E : XK) (π : Nat → Option Pin) (hr : Room 4 (A.deeper (envOfC "least" (defScope s_least) s.heap.objs.size D.f_least cdv))) : PSs (cxOf (L2.CX P w) P w K mg base ["season"] "least" (defScope s_least) D.f_least cdv A outer s H E) (defBody s_least) (TMs ⟨K, D.cl⟩ π (fun cls d _ H => E cls d H) b_least) := by
  have nd := sc_least.nd
  have tk : Takes (cxOf (L2.CX P w) P w K mg base ["season"] "least" (defScope s_least) D.f_least cdv A outer s H E) (fun cls d _ H => E cls d H) := takes_of rfl rfl rfl rfl
  have hp : PassesOwn (model P w) (cxOf (L2.CX P w) P w K mg base ["season"] "least" (defScope s_least) D.f_least cdv A outer s H E).A (cxOf (L2.CX P w) P w K mg base ["season"] "least" (defScope s_least) D.f_least cdv A outer s H E).env (cxOf (L2.CX P w) P w K mg base ["season"] "least" (defScope s_least) D.f_least cdv A outer s H E).xe := passes_of rfl
  unfold b_least
  exact (dss_one (ds_ret (de_call (ok_cost D) (hr.mono (by decide)) (by rfl) D.g_cost D.F_cost.kp D.b_cost tk (da_cons (de_var (pv 0)) (da_cons ((dn_dnewT pe_dnewT)).keep (da_cons ((dn_dnewT pe_dnewT)).keep da_nil))))))
theorem ok_least (D : Dfs w K mg) : FnOk P w K mg base (L2.CX P w) 5 D.f_least D.fd_least ["season"] (spM ⟨K, D.cl⟩ 1 false false m_least) :=
  fun_ok2 (cl := D.cl) (n := 1) (fm := m_least) D.F_least sc_least (by decide) (by rfl) (by unfold m_least; rfl) (bd_least D)
theorem bd_ways_with (D : Dfs w K mg) (cdv : Value) (A : Around) (outer : List Env) (s : Shared) (H : Hp) (E : XK) (π : Nat → Option Pin) (hr : Room 4 (A.deeper (envOfC "ways_with" (defScope s_ways_with) s.heap.objs.size D.f_ways_with cdv))) : PSs (cxOf (L2.CX P w) P w K mg base ["season", "missed", "made"] "ways_with" (defScope s_ways_with) D.f_ways_with cdv A outer s H E) (defBody s_ways_with) (TMs ⟨K, D.cl⟩ π (fun cls d _ H => E cls d H) b_ways_with) := by
  have nd := sc_ways_with.nd
  have tk : Takes (cxOf (L2.CX P w) P w K mg base ["season", "missed", "made"] "ways_with" (defScope s_ways_with) D.f_ways_with cdv A outer s H E) (fun cls d _ H => E cls d H) := takes_of rfl rfl rfl rfl
  have hp : PassesOwn (model P w) (cxOf (L2.CX P w) P w K mg base ["season", "missed", "made"] "ways_with" (defScope s_ways_with) D.f_ways_with cdv A outer s H E).A (cxOf (L2.CX P w) P w K mg base ["season", "missed", "made"] "ways_with" (defScope s_ways_with) D.f_ways_with cdv A outer s H E).env (cxOf (L2.CX P w) P w K mg base ["season", "missed", "made"] "ways_with" (defScope s_ways_with) D.f_ways_with cdv A outer s H E).xe := passes_of rfl
  unfold b_ways_with
  exact (dss_one (ds_ret (de_call1 (pe_callB (cr_sumT rfl) (by rfl) D.z_sum (by decide +kernel) (pa_cons (de_call (ok_lots_by_size D) (hr.mono (by decide)) (by rfl) D.g_lots_by_size D.F_lots_by_size.kp D.b_lots_by_size tk (da_cons (de_var (pv 0)) (da_cons (de_var (pv 1)) (da_cons (de_var (pv 2)) da_nil)))).peek pa_nil)) cs_sumT)))
theorem ok_ways_with (D : Dfs w K mg) : FnOk P w K mg base (L2.CX P w) 5 D.f_ways_with D.fd_ways_with ["season", "missed", "made"] (spM ⟨K, D.cl⟩ 3 false false m_ways_with) :=
  fun_ok2 (cl := D.cl) (n := 3) (fm := m_ways_with) D.F_ways_with sc_ways_with (by decide) (by rfl) (by unfold m_ways_with; rfl) (bd_ways_with D)
theorem bd_is_row (D : Dfs w K mg) (cdv : Value) (A : Around) (outer : List Env) (s : Shared) (H : Hp) (E : XK) (π : Nat → Option Pin) (hr : Room 4 (A.deeper (envOfC "is_row" (defScope s_is_row) s.heap.objs.size D.f_is_row cdv))) : PSs (cxOf (L2.CX P w) P w K mg base ["value", "places"] "is_row" (defScope s_is_row) D.f_is_row cdv A outer s H E) (defBody s_is_row) (TMs ⟨K, D.cl⟩ π (fun cls d _ H => E cls d H) b_is_row) := by
  have nd := sc_is_row.nd
  have tk : Takes (cxOf (L2.CX P w) P w K mg base ["value", "places"] "is_row" (defScope s_is_row) D.f_is_row cdv A outer s H E) (fun cls d _ H => E cls d H) := takes_of rfl rfl rfl rfl
  have hp : PassesOwn (model P w) (cxOf (L2.CX P w) P w K mg base ["value", "places"] "is_row" (defScope s_is_row) D.f_is_row cdv A outer s H E).A (cxOf (L2.CX P w) P w K mg base ["value", "places"] "is_row" (defScope s_is_row) D.f_is_row cdv A outer s H E).env (cxOf (L2.CX P w) P w K mg base ["value", "places"] "is_row" (defScope s_is_row) D.f_is_row cdv A outer s H E).xe := passes_of rfl
  unfold b_is_row
  exact (dss_cons (ds_if (PW.pt (dw_or (dt_not (dt_val (de_isi rfl .tuple (pe_callB call_isi (by rfl) D.z_isinstance (by decide +kernel) (pa_cons (dp_var (pv 0)) (pa_cons (pe_bltn (v := .ty "tuple") (by rfl) D.z_tuple (by decide +kernel) rfl) pa_nil)))))) (dw_or (dt_cmp (op_neD hr.units) os_ne (de_call1 (pe_callB cr_lenA (by rfl) D.z_len (by decide +kernel) (pa_cons (dp_var (pv 0)) pa_nil)) cs_len) (de_c (pe_glob (by rfl) D.c_PAIR_rotas (D.r_PAIR_rotas)) fun _ => .int _).peek (nomark _)) (dw_or1 (dt_not (dt_val (de_call (ok_is_unlike D) (hr.mono (by decide)) (by rfl) D.g_is_unlike D.F_is_unlike.kp D.b_is_unlike tk (da_cons (de_ixV (pe_ix ix_seq (pv 0) de_int (fun _ _ => rfl))) (da_cons (de_var (pv 1)) da_nil))))))))) (dss_one (ds_ret de_bl)) dss_nil)
    (dss_one (ds_ret (de_and (de_call (ok_is_unlike D) (hr.mono (by decide)) (by rfl) D.g_is_unlike D.F_is_unlike.kp D.b_is_unlike tk (da_cons (de_ixV (pe_ix ix_seq (pv 0) de_int (fun _ _ => rfl))) (da_cons (de_var (pv 1)) da_nil))) (de_one (de_cmp (op_eqD hr.units) os_eq (de_call1 (pe_callB cr_lenA (by rfl) D.z_len (by decide +kernel) (pa_cons (de_ixV (pe_ix ix_seq (pv 0) de_int (fun _ _ => rfl))).peek pa_nil)) cs_len) (dp_var (pv 1)) (nomark _)))))))
theorem ok_is_row (D : Dfs w K mg) : FnOk P w K mg base (L2.CX P w) 5 D.f_is_row D.fd_is_row ["value", "places"] (spM ⟨K, D.cl⟩ 2 false false m_is_row) :=
  fun_ok2 (cl := D.cl) (n := 2) (fm := m_is_row) D.F_is_row sc_is_row (by decide) (by rfl) (by unfold m_is_row; rfl) (bd_is_row D)
theorem bd_every_due (D : Dfs w K mg) (cdv : Value) (A : Around) (outer : List Env) (s : Shared) (H : Hp) (E : XK) (π : Nat → Option Pin) (hr : Room 5 (A.deeper (envOfC "every_due" (defScope s_every_due) s.heap.objs.size D.f_every_due cdv))) : PSs (cxOf (L2.CX P w) P w K mg base ["rota", "days", "found", "known", "day", "wheel", "days_due", "size"] "every_due" (defScope s_every_due) D.f_every_due cdv A outer s H E) (defBody s_every_due) (TMs ⟨K, D.cl⟩ π (fun cls d _ H => E cls d H) b_every_due_k73) := by
  have nd := sc_every_due.nd
  have tk : Takes (cxOf (L2.CX P w) P w K mg base ["rota", "days", "found", "known", "day", "wheel", "days_due", "size"] "every_due" (defScope s_every_due) D.f_every_due cdv A outer s H E) (fun cls d _ H => E cls d H) := takes_of rfl rfl rfl rfl
  have hp : PassesOwn (model P w) (cxOf (L2.CX P w) P w K mg base ["rota", "days", "found", "known", "day", "wheel", "days_due", "size"] "every_due" (defScope s_every_due) D.f_every_due cdv A outer s H E).A (cxOf (L2.CX P w) P w K mg base ["rota", "days", "found", "known", "day", "wheel", "days_due", "size"] "every_due" (defScope s_every_due) D.f_every_due cdv A outer s H E).env (cxOf (L2.CX P w) P w K mg base ["rota", "days", "found", "known", "day", "wheel", "days_due", "size"] "every_due" (defScope s_every_due) D.f_every_due cdv A outer s H E).xe := passes_of rfl
  unfold b_every_due_k73
  exact (dss_cons (ds_par (ps_par (i := 2) (j := 3) (by rfl) nd rfl rfl (by decide) rfl rfl (dk_own (dn_lst da_nil) (dk_val ((dn_lc (pe_lc (own := [("wheel", 5)]) rfl nd (di_rng1 (by rfl) D.z_range (da_cons (de_attr rfl (at_places D) (dp_var (pv 0)) (by rfl)) da_nil)) (blkOk_by (own := [("wheel", 5)]) (N := ["rota", "days", "found", "known", "day", "wheel", "days_due", "size"]) (sc := defScope s_every_due) (by decide +kernel)) (fun _ _ _ _ _ => (dg_name (pg_name (i := 5) nd rfl (by first | exact Or.inl rfl | exact Or.inr rfl)))) (fun _ _ _ _ _ => dts_nil) (fun _ _ _ _ _ => (de_tup (da_cons (de_call (ok_due_in_round D) (hr.mono (by decide)) (by rfl) D.g_due_in_round D.F_due_in_round.kp D.b_due_in_round takes0 (da_cons (de_var (pv 0)) (da_cons (de_var (pv 5)) da_nil))) (da_cons (de_call (ok_round_days D) (hr.mono (by decide)) (by rfl) D.g_round_days D.F_round_days.kp D.b_round_days takes0 (da_cons (de_var (pv 0)) (da_cons (de_var (pv 5)) da_nil))) da_nil))))) (by decide))).keep dk_nil)) (by rfl)))
    (dss_cons (ds_for hp rfl (di_rng1 (by rfl) D.z_range (da_cons (de_var (pv 1)) da_nil)) (dg_name (pg_name (i := 4) nd rfl (by first | exact Or.inl rfl | exact Or.inr rfl))) (dss_one (ds_expr (de_extend rfl (pe_bm PySem.F.plainAttrs_list PySem.F.slot_list_extend PySem.F.type_list_extend mt_extend (pv 2) (pa_cons (dn_lc (pe_lc (own := [("wheel", 5), ("days_due", 6), ("size", 7)]) rfl nd (di_enum rfl (by rfl) D.z_enumerate (de_var (pv 3))) (blkOk_by (own := [("wheel", 5), ("days_due", 6), ("size", 7)]) (N := ["rota", "days", "found", "known", "day", "wheel", "days_due", "size"]) (sc := defScope s_every_due) (by decide +kernel)) (fun _ _ _ _ _ => (dg_tup rfl rfl (dgs_cons (dg_name (pg_name (i := 5) nd rfl (by first | exact Or.inl rfl | exact Or.inr rfl))) (dgs_cons (dg_tup rfl rfl (dgs_cons (dg_name (pg_name (i := 6) nd rfl (by first | exact Or.inl rfl | exact Or.inr rfl))) (dgs_cons (dg_name (pg_name (i := 7) nd rfl (by first | exact Or.inl rfl | exact Or.inr rfl))) dgs_nil))) dgs_nil)))) (fun _ _ _ _ _ => (dts_one (dt_cmp (op_inA hr.units) os_inA (de_bin op_mod os_mod (de_var (pv 4)) (dp_var (pv 7))) (dp_var (pv 6)) (by rfl)))) (fun _ _ _ _ _ => (de_tup (da_cons (de_var (pv 4)) (da_cons (de_var (pv 5)) da_nil))))) (by decide)) pa_nil))))))
    (dss_one (ds_ret (de_call1 (pe_callTy call_tuple_of (by rfl) D.z_tuple (by decide +kernel) (pa_cons (dp_var (pv 2)) pa_nil)) cs_tuple)))))
theorem ok_every_due (D : Dfs w K mg) : FnOk P w K mg base (L2.CX P w) 6 D.f_every_due D.fd_every_due ["rota", "days"] (spM ⟨K, D.cl⟩ 2 false false m_every_due_k73) :=
  fun_ok2 (cl := D.cl) (n := 2) (fm := m_every_due_k73) D.F_every_due sc_every_due (by decide) (by rfl) (by unfold m_every_due_k73; rfl) (bd_every_due D)
theorem bd_possible (D : Dfs w K mg) (cdv : Value) (A : Around) (outer : List Env) (s : Shared) (H : Hp) (E : XK) (π : Nat → Option Pin) (hr : Room 5 (A.deeper (envOfC "possible" (defScope s_possible) s.heap.objs.size D.f_possible cdv))) : PSs (cxOf (L2.CX P w) P w K mg base ["season"] "possible" (defScope s_possible) D.f_possible cdv A outer s H E) (defBody s_possible) (TMs ⟨K, D.cl⟩ π (fun cls d _ H => E cls d H) b_possible) := by
  have nd := sc_possible.nd
  have tk : Takes (cxOf (L2.CX P w) P w K mg base ["season"] "possible" (defScope s_possible) D.f_possible cdv A outer s H E) (fun cls d _ H => E cls d H) := takes_of rfl rfl rfl rfl
  have hp : PassesOwn (model P w) (cxOf (L2.CX P w) P w K mg base ["season"] "possible" (defScope s_possible) D.f_possible cdv A outer s H E).A (cxOf (L2.CX P w) P w K mg base ["season"] "possible" (defScope s_possible) D.f_possible cdv A outer s H E).env (cxOf (L2.CX P w) P w K mg base ["season"] "possible" (defScope s_possible) D.f_possible cdv A outer s H E).xe := passes_of rfl
  unfold b_possible
  exact (dss_one (ds_ret (de_call (ok_can_be D) (hr.mono (by decide)) (by rfl) D.g_can_be D.F_can_be.kp D.b_can_be tk (da_cons (de_var (pv 0)) (da_cons ((dn_dnewT pe_dnewT)).keep (da_cons ((dn_dnewT pe_dnewT)).keep da_nil))))))
theorem ok_possible (D : Dfs w K mg) : FnOk P w K mg base (L2.CX P w) 6 D.f_possible D.fd_possible ["season"] (spM ⟨K, D.cl⟩ 1 false false m_possible) :=
  fun_ok2 (cl := D.cl) (n := 1) (fm := m_possible) D.F_possible sc_possible (by decide) (by rfl) (by unfold m_possible; rfl) (bd_possible D)
theorem bd_count (D : Dfs w K mg) (cdv : Value) (A : Around) (outer : List Env) (s : Shared) (H : Hp) (E : XK) (π : Nat → Option Pin) (hr : Room 5 (A.deeper (envOfC "count" (defScope s_count) s.heap.objs.size D.f_count cdv))) : PSs (cxOf (L2.CX P w) P w K mg base ["season"] "count" (defScope s_count) D.f_count cdv A outer s H E) (defBody s_count) (TMs ⟨K, D.cl⟩ π (fun cls d _ H => E cls d H) b_count) := by
  have nd := sc_count.nd
  have tk : Takes (cxOf (L2.CX P w) P w K mg base ["season"] "count" (defScope s_count) D.f_count cdv A outer s H E) (fun cls d _ H => E cls d H) := takes_of rfl rfl rfl rfl
  have hp : PassesOwn (model P w) (cxOf (L2.CX P w) P w K mg base ["season"] "count" (defScope s_count) D.f_count cdv A outer s H E).A (cxOf (L2.CX P w) P w K mg base ["season"] "count" (defScope s_count) D.f_count cdv A outer s H E).env (cxOf (L2.CX P w) P w K mg base ["season"] "count" (defScope s_count) D.f_count cdv A outer s H E).xe := passes_of rfl
  unfold b_count
  exact (dss_one (ds_ret (de_call (ok_ways_with D) (hr.mono (by decide)) (by rfl) D.g_ways_with D.F_ways_with.kp D.b_ways_with tk (da_cons (de_var (pv 0)) (da_cons ((dn_dnewT pe_dnewT)).keep (da_cons ((dn_dnewT pe_dnewT)).keep da_nil))))))
theorem ok_count (D : Dfs w K mg) : FnOk P w K mg base (L2.CX P w) 6 D.f_count D.fd_count ["season"] (spM ⟨K, D.cl⟩ 1 false false m_count) :=
  fun_ok2 (cl := D.cl) (n := 1) (fm := m_count) D.F_count sc_count (by decide) (by rfl) (by unfold m_count; rfl) (bd_count D)
theorem bd_gap (D : Dfs w K mg) (cdv : Value) (A : Around) (outer : List Env) (s : Shared) (H : Hp) (E : XK) (π : Nat → Option Pin) (hr : Room 5 (A.deeper (envOfC "gap" (defScope s_gap) s.heap.objs.size D.f_gap cdv))) : PSs (cxOf (L2.CX P w) P w K mg base ["rota", "wheel", "misses", "days", "size", "far", "more", "longer", "day", "at"] "gap" (defScope s_gap) D.f_gap cdv A outer s H E) (defBody s_gap) (TMs ⟨K, D.cl⟩ π (fun cls d _ H => E cls d H) b_gap_k73) := by
  have nd := sc_gap.nd
  have tk : Takes (cxOf (L2.CX P w) P w K mg base ["rota", "wheel", "misses", "days", "size", "far", "more", "longer", "day", "at"] "gap" (defScope s_gap) D.f_gap cdv A outer s H E) (fun cls d _ H => E cls d H) := takes_of rfl rfl rfl rfl
  have hp : PassesOwn (model P w) (cxOf (L2.CX P w) P w K mg base ["rota", "wheel", "misses", "days", "size", "far", "more", "longer", "day", "at"] "gap" (defScope s_gap) D.f_gap cdv A outer s H E).A (cxOf (L2.CX P w) P w K mg base ["rota", "wheel", "misses", "days", "size", "far", "more", "longer", "day", "at"] "gap" (defScope s_gap) D.f_gap cdv A outer s H E).env (cxOf (L2.CX P w) P w K mg base ["rota", "wheel", "misses", "days", "size", "far", "more", "longer", "day", "at"] "gap" (defScope s_gap) D.f_gap cdv A outer s H E).xe := passes_of rfl
  unfold b_gap_k73
  exact (dss_cons (ds_expr (de_call (ok_need_wheel D) (hr.mono (by decide)) (by rfl) D.g_need_wheel D.F_need_wheel.kp D.b_need_wheel tk (da_cons (de_var (pv 0)) (da_cons (de_var (pv 1)) da_nil))))
    (dss_cons (ds_parT (is := [3, 4]) rfl (ps_asg (pe_tup (dk_val (de_call (ok_due_in_round D) (hr.mono (by decide)) (by rfl) D.g_due_in_round D.F_due_in_round.kp D.b_due_in_round tk (da_cons (de_var (pv 0)) (da_cons (de_var (pv 1)) da_nil))) (dk_val (de_call (ok_round_days D) (hr.mono (by decide)) (by rfl) D.g_round_days D.F_round_days.kp D.b_round_days tk (da_cons (de_var (pv 0)) (da_cons (de_var (pv 1)) da_nil))) dk_nil))) (pg_tup rfl (pgs_cons (pg_name (i := 3) nd rfl (by first | exact Or.inl rfl | exact Or.inr rfl)) (pgs_cons (pg_name (i := 4) nd rfl (by first | exact Or.inl rfl | exact Or.inr rfl)) pgs_nil)))) rfl rfl (by decide))
    (dss_cons (ds_if (dt_cmp (op_eqD hr.units) os_eq (de_call1 (pe_callB cr_lenA (by rfl) D.z_len (by decide +kernel) (pa_cons (dp_var (pv 3)) pa_nil)) cs_len) (de_int).peek (nomark _)) (dss_one (ds_ret de_non)) dss_nil)
    (dss_cons (ds_parT (is := [5, 6]) rfl (ps_asg (pe_tup (dk_val (de_bin op_fdivW os_div (de_bin op_addA os_add (de_var (pv 2)) (de_int).peek) (de_call1 (pe_callB cr_lenA (by rfl) D.z_len (by decide +kernel) (pa_cons (dp_var (pv 3)) pa_nil)) cs_len).peek) (dk_val (de_bin op_mod os_mod (de_bin op_addA os_add (de_var (pv 2)) (de_int).peek) (de_call1 (pe_callB cr_lenA (by rfl) D.z_len (by decide +kernel) (pa_cons (dp_var (pv 3)) pa_nil)) cs_len).peek) dk_nil))) (pg_tup rfl (pgs_cons (pg_name (i := 5) nd rfl (by first | exact Or.inl rfl | exact Or.inr rfl)) (pgs_cons (pg_name (i := 6) nd rfl (by first | exact Or.inl rfl | exact Or.inr rfl)) pgs_nil)))) rfl rfl (by decide))
    (dss_cons (ds_asgV (ps_set (i := 7) nd rfl (by first | exact Or.inl rfl | exact Or.inr rfl) ((dn_lst (da_star rfl (dp_var (pv 3)) (da_star rfl ((dn_lc (pe_lc (own := [("day", 8)]) rfl nd (di_seq rfl (de_var (pv 3))) (blkOk_by (own := [("day", 8)]) (N := ["rota", "wheel", "misses", "days", "size", "far", "more", "longer", "day", "at"]) (sc := defScope s_gap) (by decide +kernel)) (fun _ _ _ _ _ => (dg_name (pg_name (i := 8) nd rfl (by first | exact Or.inl rfl | exact Or.inr rfl)))) (fun _ _ _ _ _ => dts_nil) (fun _ _ _ _ _ => (de_bin op_addA os_add (de_var (pv 8)) (dp_var (pv 4))))) (by decide))).keep.peek da_nil (StX.pa_star ((dn_lc (pe_lc (own := [("day", 8)]) rfl nd (di_seq rfl (de_var (pv 3))) (blkOk_by (own := [("day", 8)]) (N := ["rota", "wheel", "misses", "days", "size", "far", "more", "longer", "day", "at"]) (sc := defScope s_gap) (by decide +kernel)) (fun _ _ _ _ _ => (dg_name (pg_name (i := 8) nd rfl (by first | exact Or.inl rfl | exact Or.inr rfl)))) (fun _ _ _ _ _ => dts_nil) (fun _ _ _ _ _ => (de_bin op_addA os_add (de_var (pv 8)) (dp_var (pv 4))))) (by decide))).keep.peek da_nil)) (StX.pa_star (dp_var (pv 3)) (da_star rfl ((dn_lc (pe_lc (own := [("day", 8)]) rfl nd (di_seq rfl (de_var (pv 3))) (blkOk_by (own := [("day", 8)]) (N := ["rota", "wheel", "misses", "days", "size", "far", "more", "longer", "day", "at"]) (sc := defScope s_gap) (by decide +kernel)) (fun _ _ _ _ _ => (dg_name (pg_name (i := 8) nd rfl (by first | exact Or.inl rfl | exact Or.inr rfl)))) (fun _ _ _ _ _ => dts_nil) (fun _ _ _ _ _ => (de_bin op_addA os_add (de_var (pv 8)) (dp_var (pv 4))))) (by decide))).keep.peek da_nil (StX.pa_star ((dn_lc (pe_lc (own := [("day", 8)]) rfl nd (di_seq rfl (de_var (pv 3))) (blkOk_by (own := [("day", 8)]) (N := ["rota", "wheel", "misses", "days", "size", "far", "more", "longer", "day", "at"]) (sc := defScope s_gap) (by decide +kernel)) (fun _ _ _ _ _ => (dg_name (pg_name (i := 8) nd rfl (by first | exact Or.inl rfl | exact Or.inr rfl)))) (fun _ _ _ _ _ => dts_nil) (fun _ _ _ _ _ => (de_bin op_addA os_add (de_var (pv 8)) (dp_var (pv 4))))) (by decide))).keep.peek da_nil)))))).keep))
    (dss_one (ds_ret (de_bin op_addA os_add (de_bin op_mul os_mulI (de_var (pv 5)) (dp_var (pv 4))) (de_call1 (pe_callB (cr_max rfl) (by rfl) D.z_max (by decide +kernel) (pa_cons ((dn_lc (pe_lc (own := [("at", 9)]) rfl nd (di_rng1 (by rfl) D.z_range (da_cons (de_call1 (pe_callB cr_lenA (by rfl) D.z_len (by decide +kernel) (pa_cons (dp_var (pv 3)) pa_nil)) cs_len) da_nil)) (blkOk_by (own := [("at", 9)]) (N := ["rota", "wheel", "misses", "days", "size", "far", "more", "longer", "day", "at"]) (sc := defScope s_gap) (by decide +kernel)) (fun _ _ _ _ _ => (dg_name (pg_name (i := 9) nd rfl (by first | exact Or.inl rfl | exact Or.inr rfl)))) (fun _ _ _ _ _ => dts_nil) (fun _ _ _ _ _ => (de_call1 (pe_callTy call_int1 (by rfl) D.z_int (by decide +kernel) (pa_cons (de_bin op_sub os_sub (de_ixV (pe_ix ix_seq (pv 7) (de_bin op_addA os_add (de_var (pv 9)) (dp_var (pv 6))) (fun _ _ => rfl))) (de_ixV (pe_ix ix_seq (pv 7) (de_var (pv 9)) (fun _ _ => rfl))).peek).peek pa_nil)) cs_int))) (by decide))).keep.peek pa_nil)) cs_max).peek))))))))
theorem ok_gap (D : Dfs w K mg) : FnOk P w K mg base (L2.CX P w) 6 D.f_gap D.fd_gap ["rota", "wheel", "misses"] (spM ⟨K, D.cl⟩ 3 false false m_gap_k73) :=
  fun_ok2 (cl := D.cl) (n := 3) (fm := m_gap_k73) D.F_gap sc_gap (by decide) (by rfl) (by unfold m_gap_k73; rfl) (bd_gap D)
theorem bd_Rota_init (D : Dfs w K mg) (cdv : Value) (A : Around) (outer : List Env) (s : Shared) (H : Hp) (E : XK) (π : Nat → Option Pin) (hr : Room 5 (A.deeper (envOfC "Rota.__init__" (defScope s_Rota_init) s.heap.objs.size D.f_Rota_init cdv))) : PSs (cxOf (L2.CX P w) P w K mg base ["self", "places", "rows", "row", "turned", "moves", "one"] "Rota.__init__" (defScope s_Rota_init) D.f_Rota_init cdv A outer s H E) (defBody s_Rota_init) (TMs ⟨K, D.cl⟩ π (fun cls d _ H => E cls d H) b_Rota_init_k73) := by
  have nd := sc_Rota_init.nd
  have tk : Takes (cxOf (L2.CX P w) P w K mg base ["self", "places", "rows", "row", "turned", "moves", "one"] "Rota.__init__" (defScope s_Rota_init) D.f_Rota_init cdv A outer s H E) (fun cls d _ H => E cls d H) := takes_of rfl rfl rfl rfl
  have hp : PassesOwn (model P w) (cxOf (L2.CX P w) P w K mg base ["self", "places", "rows", "row", "turned", "moves", "one"] "Rota.__init__" (defScope s_Rota_init) D.f_Rota_init cdv A outer s H E).A (cxOf (L2.CX P w) P w K mg base ["self", "places", "rows", "row", "turned", "moves", "one"] "Rota.__init__" (defScope s_Rota_init) D.f_Rota_init cdv A outer s H E).env (cxOf (L2.CX P w) P w K mg base ["self", "places", "rows", "row", "turned", "moves", "one"] "Rota.__init__" (defScope s_Rota_init) D.f_Rota_init cdv A outer s H E).xe := passes_of rfl
  unfold b_Rota_init_k73
  exact (dss_cons (ds_if (dt_not (dt_val (de_call (ok_is_from D) (hr.mono (by decide)) (by rfl) D.g_is_from D.F_is_from.kp D.b_is_from tk (da_cons (de_var (pv 1)) (da_cons de_int da_nil))))) (dss_one (ds_raise rfl rfl tk D.er_InvalidRota rfl (ok_InvalidRota_init D) (hr.mono (by decide)) D.b_InvalidRota_init passes_no (by rfl) de_str)) dss_nil)
    (dss_cons (ds_if (PW.pt (dw_or (dt_not (dt_val (de_call (ok_is_sequence D) (hr.mono (by decide)) (by rfl) D.g_is_sequence D.F_is_sequence.kp D.b_is_sequence tk (da_cons (de_var (pv 2)) da_nil)))) (dw_or (dt_cmp (op_eqD hr.units) os_eq (de_call1 (pe_callB cr_lenA (by rfl) D.z_len (by decide +kernel) (pa_cons (dp_var (pv 2)) pa_nil)) cs_len) (de_int).peek (nomark _)) (dw_or1 (dt_not (dt_val (de_call1 (pe_callB (cr_all rfl) (by rfl) D.z_all (by decide +kernel) (pa_cons ((dn_lc (pe_lc (own := [("row", 3)]) rfl nd (di_seq rfl (de_var (pv 2))) (blkOk_by (own := [("row", 3)]) (N := ["self", "places", "rows", "row", "turned", "moves", "one"]) (sc := defScope s_Rota_init) (by decide +kernel)) (fun _ _ _ _ _ => (dg_name (pg_name (i := 3) nd rfl (by first | exact Or.inl rfl | exact Or.inr rfl)))) (fun _ _ _ _ _ => dts_nil) (fun _ _ _ _ _ => (de_call (ok_is_row D) (hr.mono (by decide)) (by rfl) D.g_is_row D.F_is_row.kp D.b_is_row takes0 (da_cons (de_var (pv 3)) (da_cons (de_var (pv 1)) da_nil))))) (by decide))).keep.peek pa_nil)) cs_all))))))) (dss_one (ds_raise rfl rfl tk D.er_InvalidRota rfl (ok_InvalidRota_init D) (hr.mono (by decide)) D.b_InvalidRota_init passes_no (by rfl) de_str)) dss_nil)
    (dss_cons (ds_fput rfl (at_places D) (ps_fld (pv 0) (de_var (pv 1)) rfl))
    (dss_cons (ds_fput rfl (at_rows D) (ps_fld (pv 0) (de_call1 (pe_callTy call_tuple_of (by rfl) D.z_tuple (by decide +kernel) (pa_cons ((dn_lc (pe_lc (own := [("turned", 4), ("moves", 5)]) rfl nd (di_seq rfl (de_var (pv 2))) (blkOk_by (own := [("turned", 4), ("moves", 5)]) (N := ["self", "places", "rows", "row", "turned", "moves", "one"]) (sc := defScope s_Rota_init) (by decide +kernel)) (fun _ _ _ _ _ => (dg_tup rfl rfl (dgs_cons (dg_name (pg_name (i := 4) nd rfl (by first | exact Or.inl rfl | exact Or.inr rfl))) (dgs_cons (dg_name (pg_name (i := 5) nd rfl (by first | exact Or.inl rfl | exact Or.inr rfl))) dgs_nil)))) (fun _ _ _ _ _ => dts_nil) (fun _ _ _ _ _ => (de_tup (da_cons (de_call1 (pe_callTy call_tuple_of (by rfl) D.z_tuple (by decide +kernel) (pa_cons ((dn_call1 (pe_callB cr_sortedI (by rfl) D.z_sorted (by decide +kernel) (pa_cons ((dn_lc (pe_lc (own := [("one", 6)]) rfl nd (di_seq rfl (de_var (pv 4))) (blkOk_by (own := [("one", 6)]) (by kernel_rfl)) (fun _ _ _ _ _ => (dg_name (pg_name (i := 6) nd rfl (by first | exact Or.inl rfl | exact Or.inr rfl)))) (fun _ _ _ _ _ => dts_nil) (fun _ _ _ _ _ => (de_call1 (pe_callTy call_int1 (by rfl) D.z_int (by decide +kernel) (pa_cons (dp_var (pv 6)) pa_nil)) cs_int))) (by decide))).keep.peek pa_nil)) cn_sorted)).keep.peek pa_nil)) cs_tuple) (da_cons (de_call1 (pe_callTy call_tuple_of (by rfl) D.z_tuple (by decide +kernel) (pa_cons (dp_var (pv 5)) pa_nil)) cs_tuple) da_nil))))) (by decide))).keep.peek pa_nil)) cs_tuple) rfl))
    (dss_one (ds_fput rfl (at_text D) (ps_fld (pv 0) (de_call (ok_text_of_rota D) (hr.mono (by decide)) (by rfl) D.g_text_of_rota D.F_text_of_rota.kp D.b_text_of_rota tk (da_cons (de_attr rfl (at_places D) (dp_var (pv 0)) (by rfl)) (da_cons (de_attr rfl (at_rows D) (dp_var (pv 0)) (by rfl)) da_nil))) rfl)))))))
theorem ok_Rota_init (D : Dfs w K mg) : FnOk P w K mg base (L2.CX P w) 6 D.f_Rota_init D.fd_Rota_init ["self", "places", "rows"] (spM ⟨K, D.cl⟩ 3 true false m_Rota_init_k73) :=
  fun_ok2 (cl := D.cl) (n := 3) (fm := m_Rota_init_k73) D.F_Rota_init sc_Rota_init (by decide) (by rfl) (by unfold m_Rota_init_k73; rfl) (bd_Rota_init D)
theorem bd_Season_init (D : Dfs w K mg) (cdv : Value) (A : Around) (outer : List Env) (s : Shared) (H : Hp) (E : XK) (π : Nat → Option Pin) (hr : Room 6 (A.deeper (envOfC "Season.__init__" (defScope s_Season_init) s.heap.objs.size D.f_Season_init cdv))) : PSs (cxOf (L2.CX P w) P w K mg base ["self", "rota", "days", "budget", "looks", "one", "look"] "Season.__init__" (defScope s_Season_init) D.f_Season_init cdv A outer s H E) (defBody s_Season_init) (TMs ⟨K, D.cl⟩ π (fun cls d _ H => E cls d H) b_Season_init_k73) := by
  have nd := sc_Season_init.nd
  have tk : Takes (cxOf (L2.CX P w) P w K mg base ["self", "rota", "days", "budget", "looks", "one", "look"] "Season.__init__" (defScope s_Season_init) D.f_Season_init cdv A outer s H E) (fun cls d _ H => E cls d H) := takes_of rfl rfl rfl rfl
  have hp : PassesOwn (model P w) (cxOf (L2.CX P w) P w K mg base ["self", "rota", "days", "budget", "looks", "one", "look"] "Season.__init__" (defScope s_Season_init) D.f_Season_init cdv A outer s H E).A (cxOf (L2.CX P w) P w K mg base ["self", "rota", "days", "budget", "looks", "one", "look"] "Season.__init__" (defScope s_Season_init) D.f_Season_init cdv A outer s H E).env (cxOf (L2.CX P w) P w K mg base ["self", "rota", "days", "budget", "looks", "one", "look"] "Season.__init__" (defScope s_Season_init) D.f_Season_init cdv A outer s H E).xe := passes_of rfl
  unfold b_Season_init_k73
  exact (dss_cons (ds_if (dt_not (dt_val (de_call (ok_is_from D) (hr.mono (by decide)) (by rfl) D.g_is_from D.F_is_from.kp D.b_is_from tk (da_cons (de_var (pv 2)) (da_cons de_int da_nil))))) (dss_one (ds_raise rfl rfl tk D.er_InvalidSeason rfl (ok_InvalidSeason_init D) (hr.mono (by decide)) D.b_InvalidSeason_init passes_no (by rfl) de_str)) dss_nil)
    (dss_cons (ds_if (dt_not (dt_val (de_call (ok_is_from D) (hr.mono (by decide)) (by rfl) D.g_is_from D.F_is_from.kp D.b_is_from tk (da_cons (de_var (pv 3)) (da_cons de_int da_nil))))) (dss_one (ds_raise rfl rfl tk D.er_InvalidSeason rfl (ok_InvalidSeason_init D) (hr.mono (by decide)) D.b_InvalidSeason_init passes_no (by rfl) de_str)) dss_nil)
    (dss_cons (ds_if (PW.pt (dw_or (dt_not (dt_val (de_call (ok_is_sequence D) (hr.mono (by decide)) (by rfl) D.g_is_sequence D.F_is_sequence.kp D.b_is_sequence tk (da_cons (de_var (pv 4)) da_nil)))) (dw_or1 (dt_not (dt_val (de_call1 (pe_callB (cr_all rfl) (by rfl) D.z_all (by decide +kernel) (pa_cons ((dn_lc (pe_lc (own := [("one", 5)]) rfl nd (di_seq rfl (de_var (pv 4))) (blkOk_by (own := [("one", 5)]) (N := ["self", "rota", "days", "budget", "looks", "one", "look"]) (sc := defScope s_Season_init) (by decide +kernel)) (fun _ _ _ _ _ => (dg_name (pg_name (i := 5) nd rfl (by first | exact Or.inl rfl | exact Or.inr rfl)))) (fun _ _ _ _ _ => dts_nil) (fun _ _ _ _ _ => (de_call (ok_is_look D) (hr.mono (by decide)) (by rfl) D.g_is_look D.F_is_look.kp D.b_is_look takes0 (da_cons (de_var (pv 5)) (da_cons (de_var (pv 1)) (da_cons (de_var (pv 2)) da_nil)))))) (by decide))).keep.peek pa_nil)) cs_all)))))) (dss_one (ds_raise rfl rfl tk D.er_InvalidSeason rfl (ok_InvalidSeason_init D) (hr.mono (by decide)) D.b_InvalidSeason_init passes_no (by rfl) de_str)) dss_nil)
    (dss_cons (ds_fput rfl (at_rota D) (ps_fld (pv 0) (de_var (pv 1)) rfl))
    (dss_cons (ds_fput rfl (at_days D) (ps_fld (pv 0) (de_var (pv 2)) rfl))
    (dss_cons (ds_fput rfl (at_budget D) (ps_fld (pv 0) (de_var (pv 3)) rfl))
    (dss_cons (ds_fput rfl (at_looks D) (ps_fld (pv 0) (de_call1 (pe_callTy call_tuple_of (by rfl) D.z_tuple (by decide +kernel) (pa_cons ((dn_lc (pe_lc (own := [("look", 6)]) rfl nd (di_seq rfl (de_call (ok_every_look D) (hr.mono (by decide)) (by rfl) D.g_every_look D.F_every_look.kp D.b_every_look tk (da_cons (de_var (pv 1)) (da_cons (de_var (pv 2)) da_nil)))) (blkOk_by (own := [("look", 6)]) (N := ["self", "rota", "days", "budget", "looks", "one", "look"]) (sc := defScope s_Season_init) (by decide +kernel)) (fun _ _ _ _ _ => (dg_name (pg_name (i := 6) nd rfl (by first | exact Or.inl rfl | exact Or.inr rfl)))) (fun _ _ _ _ _ => (dts_one (dt_cmp (op_inA hr.units) os_inA (de_var (pv 6)) (dp_var (pv 4)) (by rfl)))) (fun _ _ _ _ _ => (de_var (pv 6)))) (by decide))).keep.peek pa_nil)) cs_tuple) rfl))
    (dss_cons (ds_fput rfl (at_wheels D) (ps_fld (pv 0) (de_attr rfl (at_places D) (dp_var (pv 1)) (by rfl)) rfl))
    (dss_one (ds_fput rfl (at_due D) (ps_fld (pv 0) (de_call (ok_every_due D) (hr.mono (by decide)) (by rfl) D.g_every_due D.F_every_due.kp D.b_every_due tk (da_cons (de_var (pv 1)) (da_cons (de_var (pv 2)) da_nil))) rfl)))))))))))
theorem ok_Season_init (D : Dfs w K mg) : FnOk P w K mg base (L2.CX P w) 7 D.f_Season_init D.fd_Season_init ["self", "rota", "days", "budget", "looks"] (spM ⟨K, D.cl⟩ 5 true false m_Season_init_k73) :=
  fun_okD2 (cl := D.cl) (n := 5) (fm := m_Season_init_k73) D.F_Season_init sc_Season_init (by decide) (by rfl) (by unfold m_Season_init_k73; rfl) (bd_Season_init D)
theorem bd_Desk_told (D : Dfs w K mg) (cdv : Value) (A : Around) (outer : List Env) (s : Shared) (H : Hp) (E : XK) (π : Nat → Option Pin) (hr : Room 6 (A.deeper (envOfC "Desk.told" (defScope s_Desk_told) s.heap.objs.size D.f_Desk_told cdv))) : PSs (cxOf (L2.CX P w) P w K mg base ["self", "word", "numbers", "season", "shown", "found", "one"] "Desk.told" (defScope s_Desk_told) D.f_Desk_told cdv A outer s H E) (defBody s_Desk_told) (TMs ⟨K, D.cl⟩ π (fun cls d _ H => E cls d H) b_Desk_told_k73) := by
  have nd := sc_Desk_told.nd
  have tk : Takes (cxOf (L2.CX P w) P w K mg base ["self", "word", "numbers", "season", "shown", "found", "one"] "Desk.told" (defScope s_Desk_told) D.f_Desk_told cdv A outer s H E) (fun cls d _ H => E cls d H) := takes_of rfl rfl rfl rfl
  have hp : PassesOwn (model P w) (cxOf (L2.CX P w) P w K mg base ["self", "word", "numbers", "season", "shown", "found", "one"] "Desk.told" (defScope s_Desk_told) D.f_Desk_told cdv A outer s H E).A (cxOf (L2.CX P w) P w K mg base ["self", "word", "numbers", "season", "shown", "found", "one"] "Desk.told" (defScope s_Desk_told) D.f_Desk_told cdv A outer s H E).env (cxOf (L2.CX P w) P w K mg base ["self", "word", "numbers", "season", "shown", "found", "one"] "Desk.told" (defScope s_Desk_told) D.f_Desk_told cdv A outer s H E).xe := passes_of rfl
  unfold b_Desk_told_k73
  exact (dss_cons (ds_asgV (ps_set (i := 3) nd rfl (by first | exact Or.inl rfl | exact Or.inr rfl) (de_attr rfl (at_season D) (de_attr rfl (at_live D) (dp_var (pv 0)) (by rfl)).peek (by rfl))))
    (dss_cons (ds_if (dt_cmp (op_eqD hr.units) os_eq (de_var (pv 1)) (de_str).peek (nomark _)) (dss_one (ds_ret de_str)) dss_nil)
    (dss_cons (ds_if (dt_cmp (op_eqD hr.units) os_eq (de_var (pv 1)) (de_str).peek (nomark _)) (dss_cons (ds_asgV (ps_set (i := 4) nd rfl (by first | exact Or.inl rfl | exact Or.inr rfl) (de_join (pe_join de_str ((dn_lc (pe_lc (own := [("one", 6)]) rfl nd (di_seq rfl (de_attr rfl (at_sure D) (de_attr rfl (at_live D) (dp_var (pv 0)) (by rfl)).peek (by rfl))) (blkOk_by (own := [("one", 6)]) (N := ["self", "word", "numbers", "season", "shown", "found", "one"]) (sc := defScope s_Desk_told) (by decide +kernel)) (fun _ _ _ _ _ => (dg_name (pg_name (i := 6) nd rfl (by first | exact Or.inl rfl | exact Or.inr rfl)))) (fun _ _ _ _ _ => dts_nil) (fun _ _ _ _ _ => (de_ifExp (dt_cmp op_isN os_isN (de_var (pv 6)) (de_non).peek (nomark _)) de_str (de_call1 (pe_callTy call_str_int (by rfl) D.z_str (by decide +kernel) (pa_cons (dp_var (pv 6)) pa_nil)) cs_str)))) (by decide))).keep.peek))))
    (dss_one (ds_ret (de_ifExp (dt_val (de_attr rfl (at_is_possible D) (de_attr rfl (at_live D) (dp_var (pv 0)) (by rfl)).peek (by rfl))) (de_var (pv 4)) de_str)))) dss_nil)
    (dss_cons (ds_if (dt_cmp (op_eqD hr.units) os_eq (de_var (pv 1)) (de_str).peek (nomark _)) (dss_one (ds_ret (de_call1 (pe_callTy call_str_int (by rfl) D.z_str (by decide +kernel) (pa_cons (de_call (ok_count D) (hr.mono (by decide)) (by rfl) D.g_count D.F_count.kp D.b_count tk (da_cons (de_var (pv 3)) da_nil)).peek pa_nil)) cs_str))) dss_nil)
    (dss_cons (ds_asgV (ps_set (i := 5) nd rfl (by first | exact Or.inl rfl | exact Or.inr rfl) (de_ifExp (dt_cmp (op_eqD hr.units) os_eq (de_var (pv 1)) (de_str).peek (nomark _)) (de_call (ok_least D) (hr.mono (by decide)) (by rfl) D.g_least D.F_least.kp D.b_least tk (da_cons (de_var (pv 3)) da_nil)) (de_call (ok_gap D) (hr.mono (by decide)) (by rfl) D.g_gap D.F_gap.kp D.b_gap tk (da_cons (de_attr rfl (at_rota D) (dp_var (pv 3)) (by rfl)) (da_cons (de_ixV (pe_ix ix_seq (pv 2) de_int (fun _ _ => rfl))) (da_cons (de_ixV (pe_ix ix_seq (pv 2) de_int (fun _ _ => rfl))) da_nil)))))))
    (dss_one (ds_ret (de_ifExp (dt_cmp op_isN os_isN (de_var (pv 5)) (de_non).peek (nomark _)) de_str (de_call1 (pe_callTy call_str_int (by rfl) D.z_str (by decide +kernel) (pa_cons (dp_var (pv 5)) pa_nil)) cs_str)))))))))
theorem ok_Desk_told (D : Dfs w K mg) : FnOk P w K mg base (L2.CX P w) 7 D.f_Desk_told D.fd_Desk_told ["self", "word", "numbers"] (spM ⟨K, D.cl⟩ 3 true false m_Desk_told_k73) :=
  fun_ok2 (cl := D.cl) (n := 3) (fm := m_Desk_told_k73) D.F_Desk_told sc_Desk_told (by decide) (by rfl) (by unfold m_Desk_told_k73; rfl) (bd_Desk_told D)
theorem bd_Rota_read (D : Dfs w K mg) (cdv : Value) (A : Around) (outer : List Env) (s : Shared) (H : Hp) (E : XK) (π : Nat → Option Pin) (hr : Room 7 (A.deeper (envOfC "Rota.read" (defScope s_Rota_read) s.heap.objs.size D.f_Rota_read cdv))) : PSs (cxOf (L2.CX P w) P w K mg base ["cls", "text", "lines", "places", "rows", "at", "line", "row"] "Rota.read" (defScope s_Rota_read) D.f_Rota_read cdv A outer s H E) (defBody s_Rota_read) (TMs ⟨K, D.cl⟩ π (fun cls d _ H => E cls d H) b_Rota_read_k73) := by
  have nd := sc_Rota_read.nd
  have tk : Takes (cxOf (L2.CX P w) P w K mg base ["cls", "text", "lines", "places", "rows", "at", "line", "row"] "Rota.read" (defScope s_Rota_read) D.f_Rota_read cdv A outer s H E) (fun cls d _ H => E cls d H) := takes_of rfl rfl rfl rfl
  have hp : PassesOwn (model P w) (cxOf (L2.CX P w) P w K mg base ["cls", "text", "lines", "places", "rows", "at", "line", "row"] "Rota.read" (defScope s_Rota_read) D.f_Rota_read cdv A outer s H E).A (cxOf (L2.CX P w) P w K mg base ["cls", "text", "lines", "places", "rows", "at", "line", "row"] "Rota.read" (defScope s_Rota_read) D.f_Rota_read cdv A outer s H E).env (cxOf (L2.CX P w) P w K mg base ["cls", "text", "lines", "places", "rows", "at", "line", "row"] "Rota.read" (defScope s_Rota_read) D.f_Rota_read cdv A outer s H E).xe := passes_of rfl
  unfold b_Rota_read_k73
  exact (dss_cons (ds_if (dt_not (dt_val (de_isi rfl .str (pe_callB call_isi (by rfl) D.z_isinstance (by decide +kernel) (pa_cons (dp_var (pv 1)) (pa_cons (pe_bltn (v := .ty "str") (by rfl) D.z_str (by decide +kernel) rfl) pa_nil)))))) (dss_one (ds_raise rfl rfl tk D.er_InvalidText rfl (ok_InvalidText_init D) (hr.mono (by decide)) D.b_InvalidText_init passes_no (by rfl) de_int)) dss_nil)
    (dss_cons (ds_asgV (ps_set (i := 2) nd rfl (by first | exact Or.inl rfl | exact Or.inr rfl) ((dn_split (pe_split (de_var (pv 1)) de_str))).keep))
    (dss_cons (ds_asgV (ps_set (i := 3) nd rfl (by first | exact Or.inl rfl | exact Or.inr rfl) (de_call (ok_places_in D) (hr.mono (by decide)) (by rfl) D.g_places_in D.F_places_in.kp D.b_places_in tk (da_cons (de_ixV (pe_ix ix_seq (pv 2) de_int (fun _ _ => rfl))) da_nil))))
    (dss_cons (ds_if (dt_cmp op_isN os_isN (de_var (pv 3)) (de_non).peek (nomark _)) (dss_one (ds_raise rfl rfl tk D.er_InvalidText rfl (ok_InvalidText_init D) (hr.mono (by decide)) D.b_InvalidText_init passes_no (by rfl) de_int)) dss_nil)
    (dss_cons (ds_asgN (ps_set (i := 4) nd rfl (by first | exact Or.inl rfl | exact Or.inr rfl) (dn_lst da_nil)))
    (dss_cons (ds_for hp rfl (di_enum rfl (by rfl) D.z_enumerate (de_slV rfl (pe_slice sl_all (pv 2) (do_some de_int) do_none))) (dg_tup rfl rfl (dgs_cons (dg_name (pg_name (i := 5) nd rfl (by first | exact Or.inl rfl | exact Or.inr rfl))) (dgs_cons (dg_name (pg_name (i := 6) nd rfl (by first | exact Or.inl rfl | exact Or.inr rfl))) dgs_nil))) (dss_cons (ds_asgV (ps_set (i := 7) nd rfl (by first | exact Or.inl rfl | exact Or.inr rfl) (de_call (ok_row_in D) (hr.mono (by decide)) (by rfl) D.g_row_in D.F_row_in.kp D.b_row_in tk (da_cons (de_var (pv 6)) da_nil))))
    (dss_cons (ds_if (dt_cmp op_isN os_isN (de_var (pv 7)) (de_non).peek (nomark _)) (dss_one (ds_raise rfl rfl tk D.er_InvalidText rfl (ok_InvalidText_init D) (hr.mono (by decide)) D.b_InvalidText_init passes_no (by rfl) (de_bin op_addA os_add (de_var (pv 5)) (de_int).peek))) dss_nil)
    (dss_one (ds_expr (de_append rfl (pe_bm PySem.F.plainAttrs_list PySem.F.slot_list_append PySem.F.type_list_append mt_append (pv 4) (pa_cons (de_var (pv 7)) pa_nil))))))))
    (dss_one (ds_ret ((dn_makeL (i := 0) D.mk_Rota (ok_Rota_init D) (hr.mono (by decide)) rfl (by first | exact Or.inl rfl | exact Or.inr (Or.inl rfl) | exact Or.inr (Or.inr rfl)) D.b_Rota_init rfl tk (da_cons (de_var (pv 3)) (da_cons (de_var (pv 4)) da_nil)))).keep))))))))
theorem ok_Rota_read (D : Dfs w K mg) : FnOk P w K mg base (L2.CX P w) 8 D.f_Rota_read D.fd_Rota_read ["cls", "text"] (spM ⟨K, D.cl⟩ 2 false false m_Rota_read_k73) :=
  fun_ok2 (cl := D.cl) (n := 2) (fm := m_Rota_read_k73) D.F_Rota_read sc_Rota_read (by decide) (by rfl) (by unfold m_Rota_read_k73; rfl) (bd_Rota_read D)
theorem bd_Season_seen (D : Dfs w K mg) (cdv : Value) (A : Around) (outer : List Env) (s : Shared) (H : Hp) (E : XK) (π : Nat → Option Pin) (hr : Room 8 (A.deeper (envOfC "Season.seen" (defScope s_Season_seen) s.heap.objs.size D.f_Season_seen cdv))) : PSs (cxOf (L2.CX P w) P w K mg base ["self", "looks"] "Season.seen" (defScope s_Season_seen) D.f_Season_seen cdv A outer s H E) (defBody s_Season_seen) (TMs ⟨K, D.cl⟩ π (fun cls d _ H => E cls d H) b_Season_seen_k73) := by
  have nd := sc_Season_seen.nd
  have tk : Takes (cxOf (L2.CX P w) P w K mg base ["self", "looks"] "Season.seen" (defScope s_Season_seen) D.f_Season_seen cdv A outer s H E) (fun cls d _ H => E cls d H) := takes_of rfl rfl rfl rfl
  have hp : PassesOwn (model P w) (cxOf (L2.CX P w) P w K mg base ["self", "looks"] "Season.seen" (defScope s_Season_seen) D.f_Season_seen cdv A outer s H E).A (cxOf (L2.CX P w) P w K mg base ["self", "looks"] "Season.seen" (defScope s_Season_seen) D.f_Season_seen cdv A outer s H E).env (cxOf (L2.CX P w) P w K mg base ["self", "looks"] "Season.seen" (defScope s_Season_seen) D.f_Season_seen cdv A outer s H E).xe := passes_of rfl
  unfold b_Season_seen_k73
  exact (dss_cons (ds_if (dt_not (dt_val (de_call (ok_is_sequence D) (hr.mono (by decide)) (by rfl) D.g_is_sequence D.F_is_sequence.kp D.b_is_sequence tk (da_cons (de_var (pv 1)) da_nil)))) (dss_one (ds_raise rfl rfl tk D.er_InvalidSeason rfl (ok_InvalidSeason_init D) (hr.mono (by decide)) D.b_InvalidSeason_init passes_no (by rfl) de_str)) dss_nil)
    (dss_one (ds_ret ((dn_make D.mk_Season (ok_Season_init D) (hr.mono (by decide)) (by rfl) D.gC_Season D.b_Season_init rfl (fun _ _ _ _ _ h => h) tk (da_cons (de_attr rfl (at_rota D) (dp_var (pv 0)) (by rfl)) (da_cons (de_attr rfl (at_days D) (dp_var (pv 0)) (by rfl)) (da_cons (de_attr rfl (at_budget D) (dp_var (pv 0)) (by rfl)) (da_cons ((dn_lst (da_star rfl (de_attr rfl (at_looks D) (dp_var (pv 0)) (by rfl)).peek (da_star rfl (dp_var (pv 1)) da_nil (StX.pa_star (dp_var (pv 1)) da_nil)) (StX.pa_star (de_attr rfl (at_looks D) (dp_var (pv 0)) (by rfl)).peek (da_star rfl (dp_var (pv 1)) da_nil (StX.pa_star (dp_var (pv 1)) da_nil)))))).keep da_nil)))))).keep)))
theorem ok_Season_seen (D : Dfs w K mg) : FnOk P w K mg base (L2.CX P w) 9 D.f_Season_seen D.fd_Season_seen ["self", "looks"] (spM ⟨K, D.cl⟩ 2 false false m_Season_seen_k73) :=
  fun_ok2 (cl := D.cl) (n := 2) (fm := m_Season_seen_k73) D.F_Season_seen sc_Season_seen (by decide) (by rfl) (by unfold m_Season_seen_k73; rfl) (bd_Season_seen D)
theorem bd_can_show (D : Dfs w K mg) (cdv : Value) (A : Around) (outer : List Env) (s : Shared) (H : Hp) (E : XK) (π : Nat → Option Pin) (hr : Room 9 (A.deeper (envOfC "can_show" (defScope s_can_show) s.heap.objs.size D.f_can_show cdv))) : PSs (cxOf (L2.CX P w) P w K mg base ["season", "wheel", "day", "up"] "can_show" (defScope s_can_show) D.f_can_show cdv A outer s H E) (defBody s_can_show) (TMs ⟨K, D.cl⟩ π (fun cls d _ H => E cls d H) b_can_show_k73) := by
  have nd := sc_can_show.nd
  have tk : Takes (cxOf (L2.CX P w) P w K mg base ["season", "wheel", "day", "up"] "can_show" (defScope s_can_show) D.f_can_show cdv A outer s H E) (fun cls d _ H => E cls d H) := takes_of rfl rfl rfl rfl
  have hp : PassesOwn (model P w) (cxOf (L2.CX P w) P w K mg base ["season", "wheel", "day", "up"] "can_show" (defScope s_can_show) D.f_can_show cdv A outer s H E).A (cxOf (L2.CX P w) P w K mg base ["season", "wheel", "day", "up"] "can_show" (defScope s_can_show) D.f_can_show cdv A outer s H E).env (cxOf (L2.CX P w) P w K mg base ["season", "wheel", "day", "up"] "can_show" (defScope s_can_show) D.f_can_show cdv A outer s H E).xe := passes_of rfl
  unfold b_can_show_k73
  exact (dss_one (ds_ret ((dn_lc (pe_lc (own := [("up", 3)]) rfl nd (di_rng1 (by rfl) D.z_range (da_cons de_int da_nil)) (blkOk_by (own := [("up", 3)]) (N := ["season", "wheel", "day", "up"]) (sc := defScope s_can_show) (by decide +kernel)) (fun _ _ _ _ _ => (dg_name (pg_name (i := 3) nd rfl (by first | exact Or.inl rfl | exact Or.inr rfl)))) (fun _ _ _ _ _ => (dts_one (dt_val (de_call (ok_possible D) (hr.mono (by decide)) (by rfl) D.g_possible D.F_possible.kp D.b_possible takes0 (da_cons (de_meth (de_var (pv 0)) D.cls_Season D.me_Season_seen (ok_Season_seen D) (hr.mono (by decide)) D.b_Season_seen rfl (by decide +kernel) (fun _ _ _ _ _ h => h) takes0 (da_cons ((dn_lst (da_cons (de_tup (da_cons (de_var (pv 2)) (da_cons (de_var (pv 1)) (da_cons (de_var (pv 3)) da_nil)))) da_nil))).keep da_nil)) da_nil))))) (fun _ _ _ _ _ => (de_var (pv 3)))) (by decide))).keep))
theorem ok_can_show (D : Dfs w K mg) : FnOk P w K mg base (L2.CX P w) 10 D.f_can_show D.fd_can_show ["season", "wheel", "day"] (spM ⟨K, D.cl⟩ 3 false false m_can_show_k73) :=
  fun_ok2 (cl := D.cl) (n := 3) (fm := m_can_show_k73) D.F_can_show sc_can_show (by decide) (by rfl) (by unfold m_can_show_k73; rfl) (bd_can_show D)
theorem bd_sure_sides (D : Dfs w K mg) (cdv : Value) (A : Around) (outer : List Env) (s : Shared) (H : Hp) (E : XK) (π : Nat → Option Pin) (hr : Room 10 (A.deeper (envOfC "sure_sides" (defScope s_sure_sides) s.heap.objs.size D.f_sure_sides cdv))) : PSs (cxOf (L2.CX P w) P w K mg base ["season", "day", "found", "wheel", "some"] "sure_sides" (defScope s_sure_sides) D.f_sure_sides cdv A outer s H E) (defBody s_sure_sides) (TMs ⟨K, D.cl⟩ π (fun cls d _ H => E cls d H) b_sure_sides_k73) := by
  have nd := sc_sure_sides.nd
  have tk : Takes (cxOf (L2.CX P w) P w K mg base ["season", "day", "found", "wheel", "some"] "sure_sides" (defScope s_sure_sides) D.f_sure_sides cdv A outer s H E) (fun cls d _ H => E cls d H) := takes_of rfl rfl rfl rfl
  have hp : PassesOwn (model P w) (cxOf (L2.CX P w) P w K mg base ["season", "day", "found", "wheel", "some"] "sure_sides" (defScope s_sure_sides) D.f_sure_sides cdv A outer s H E).A (cxOf (L2.CX P w) P w K mg base ["season", "day", "found", "wheel", "some"] "sure_sides" (defScope s_sure_sides) D.f_sure_sides cdv A outer s H E).env (cxOf (L2.CX P w) P w K mg base ["season", "day", "found", "wheel", "some"] "sure_sides" (defScope s_sure_sides) D.f_sure_sides cdv A outer s H E).xe := passes_of rfl
  unfold b_sure_sides_k73
  exact (dss_cons (ds_setLcV (ps_setLc (own := [("wheel", 3)]) (i := 2) rfl nd rfl rfl (sw_true rfl rfl rfl (by decide +kernel)) (di_rng1 (by rfl) D.z_range (da_cons (de_attr rfl (at_wheels D) (dp_var (pv 0)) (by rfl)) da_nil)) (blkOk_by (own := [("wheel", 3)]) (N := ["season", "day", "found", "wheel", "some"]) (sc := defScope s_sure_sides) (by decide +kernel)) (fun _ _ _ _ _ => (dg_name (pg_name (i := 3) nd rfl (by first | exact Or.inl rfl | exact Or.inr rfl)))) (fun _ _ _ _ _ => dts_nil) (fun _ _ _ _ _ => (de_call (ok_can_show D) (hr.mono (by decide)) (by rfl) D.g_can_show D.F_can_show.kp D.b_can_show takes0 (da_cons (de_var (pv 0)) (da_cons (de_var (pv 3)) (da_cons (de_var (pv 1)) da_nil)))))) (by decide))
    (dss_one (ds_ret (de_call1 (pe_callTy call_tuple_of (by rfl) D.z_tuple (by decide +kernel) (pa_cons ((dn_lc (pe_lc (own := [("some", 4)]) rfl nd (di_seq rfl (de_var (pv 2))) (blkOk_by (own := [("some", 4)]) (N := ["season", "day", "found", "wheel", "some"]) (sc := defScope s_sure_sides) (by decide +kernel)) (fun _ _ _ _ _ => (dg_name (pg_name (i := 4) nd rfl (by first | exact Or.inl rfl | exact Or.inr rfl)))) (fun _ _ _ _ _ => dts_nil) (fun _ _ _ _ _ => (de_ifExp (dt_cmp (op_eqD hr.units) os_eq (de_call1 (pe_callB cr_lenA (by rfl) D.z_len (by decide +kernel) (pa_cons (dp_var (pv 4)) pa_nil)) cs_len) (de_int).peek (nomark _)) (de_ixV (pe_ix ix_seq (pv 4) de_int (fun _ _ => rfl))) de_non))) (by decide))).keep.peek pa_nil)) cs_tuple))))
theorem ok_sure_sides (D : Dfs w K mg) : FnOk P w K mg base (L2.CX P w) 11 D.f_sure_sides D.fd_sure_sides ["season", "day"] (spM ⟨K, D.cl⟩ 2 false false m_sure_sides_k73) :=
  fun_ok2 (cl := D.cl) (n := 2) (fm := m_sure_sides_k73) D.F_sure_sides sc_sure_sides (by decide) (by rfl) (by unfold m_sure_sides_k73; rfl) (bd_sure_sides D)
theorem bd_Live_show (D : Dfs w K mg) (cdv : Value) (A : Around) (outer : List Env) (s : Shared) (H : Hp) (E : XK) (π : Nat → Option Pin) (hr : Room 11 (A.deeper (envOfC "Live.show" (defScope s_Live_show) s.heap.objs.size D.f_Live_show cdv))) : PSs (cxOf (L2.CX P w) P w K mg base ["self", "season", "wheel"] "Live.show" (defScope s_Live_show) D.f_Live_show cdv A outer s H E) (defBody s_Live_show) (TMs ⟨K, D.cl⟩ π (fun cls d _ H => E cls d H) b_Live_show_k73) := by
  have nd := sc_Live_show.nd
  have tk : Takes (cxOf (L2.CX P w) P w K mg base ["self", "season", "wheel"] "Live.show" (defScope s_Live_show) D.f_Live_show cdv A outer s H E) (fun cls d _ H => E cls d H) := takes_of rfl rfl rfl rfl
  have hp : PassesOwn (model P w) (cxOf (L2.CX P w) P w K mg base ["self", "season", "wheel"] "Live.show" (defScope s_Live_show) D.f_Live_show cdv A outer s H E).A (cxOf (L2.CX P w) P w K mg base ["self", "season", "wheel"] "Live.show" (defScope s_Live_show) D.f_Live_show cdv A outer s H E).env (cxOf (L2.CX P w) P w K mg base ["self", "season", "wheel"] "Live.show" (defScope s_Live_show) D.f_Live_show cdv A outer s H E).xe := passes_of rfl
  unfold b_Live_show_k73
  exact (dss_cons (ds_fput rfl (at_season D) (ps_fld (pv 0) (de_var (pv 1)) rfl))
    (dss_cons (ds_fput rfl (at_is_possible D) (ps_fld (pv 0) (de_call (ok_possible D) (hr.mono (by decide)) (by rfl) D.g_possible D.F_possible.kp D.b_possible tk (da_cons (de_var (pv 1)) da_nil)) rfl))
    (dss_cons (ds_fput rfl (at_sure D) (ps_fld (pv 0) (de_call1 (pe_callTy call_tuple_of (by rfl) D.z_tuple (by decide +kernel) (pa_cons ((dn_lc (pe_lc (own := [("wheel", 2)]) rfl nd (di_rng1 (by rfl) D.z_range (da_cons (de_attr rfl (at_wheels D) (dp_var (pv 1)) (by rfl)) da_nil)) (blkOk_by (own := [("wheel", 2)]) (N := ["self", "season", "wheel"]) (sc := defScope s_Live_show) (by decide +kernel)) (fun _ _ _ _ _ => (dg_name (pg_name (i := 2) nd rfl (by first | exact Or.inl rfl | exact Or.inr rfl)))) (fun _ _ _ _ _ => dts_nil) (fun _ _ _ _ _ => de_non)) (by decide))).keep.peek pa_nil)) cs_tuple) rfl))
    (dss_one (ds_if (dt_val (de_attr rfl (at_is_possible D) (dp_var (pv 0)) (by rfl))) (dss_one (ds_fput rfl (at_sure D) (ps_fld (pv 0) (de_call (ok_sure_sides D) (hr.mono (by decide)) (by rfl) D.g_sure_sides D.F_sure_sides.kp D.b_sure_sides tk (da_cons (de_var (pv 1)) (da_cons (de_attr rfl (at_days D) (dp_var (pv 1)) (by rfl)) da_nil))) rfl))) dss_nil)))))
theorem ok_Live_show (D : Dfs w K mg) : FnOk P w K mg base (L2.CX P w) 12 D.f_Live_show D.fd_Live_show ["self", "season"] (spM ⟨K, D.cl⟩ 2 true false m_Live_show_k73) :=
  fun_ok2 (cl := D.cl) (n := 2) (fm := m_Live_show_k73) D.F_Live_show sc_Live_show (by decide) (by rfl) (by unfold m_Live_show_k73; rfl) (bd_Live_show D)
theorem bd_Live_init (D : Dfs w K mg) (cdv : Value) (A : Around) (outer : List Env) (s : Shared) (H : Hp) (E : XK) (π : Nat → Option Pin) (hr : Room 12 (A.deeper (envOfC "Live.__init__" (defScope s_Live_init) s.heap.objs.size D.f_Live_init cdv))) : PSs (cxOf (L2.CX P w) P w K mg base ["self", "season"] "Live.__init__" (defScope s_Live_init) D.f_Live_init cdv A outer s H E) (defBody s_Live_init) (TMs ⟨K, D.cl⟩ π (fun cls d _ H => E cls d H) b_Live_init_k73) := by
  have nd := sc_Live_init.nd
  have tk : Takes (cxOf (L2.CX P w) P w K mg base ["self", "season"] "Live.__init__" (defScope s_Live_init) D.f_Live_init cdv A outer s H E) (fun cls d _ H => E cls d H) := takes_of rfl rfl rfl rfl
  have hp : PassesOwn (model P w) (cxOf (L2.CX P w) P w K mg base ["self", "season"] "Live.__init__" (defScope s_Live_init) D.f_Live_init cdv A outer s H E).A (cxOf (L2.CX P w) P w K mg base ["self", "season"] "Live.__init__" (defScope s_Live_init) D.f_Live_init cdv A outer s H E).env (cxOf (L2.CX P w) P w K mg base ["self", "season"] "Live.__init__" (defScope s_Live_init) D.f_Live_init cdv A outer s H E).xe := passes_of rfl
  unfold b_Live_init_k73
  exact (dss_cons (ds_fput rfl (at_past D) (ps_fld (pv 0) (de_tup da_nil) rfl))
    (dss_one (ds_expr (de_methIo (pv 0) D.cls_Live D.me_Live_show (ok_Live_show D) (hr.mono (by decide)) D.b_Live_show rfl (by decide +kernel) tk (da_cons (de_var (pv 1)) da_nil)))))
theorem ok_Live_init (D : Dfs w K mg) : FnOk P w K mg base (L2.CX P w) 13 D.f_Live_init D.fd_Live_init ["self", "season"] (spM ⟨K, D.cl⟩ 2 true false m_Live_init_k73) :=
  fun_ok2 (cl := D.cl) (n := 2) (fm := m_Live_init_k73) D.F_Live_init sc_Live_init (by decide) (by rfl) (by unfold m_Live_init_k73; rfl) (bd_Live_init D)
theorem bd_Live_go_on (D : Dfs w K mg) (cdv : Value) (A : Around) (outer : List Env) (s : Shared) (H : Hp) (E : XK) (π : Nat → Option Pin) (hr : Room 12 (A.deeper (envOfC "Live.go_on" (defScope s_Live_go_on) s.heap.objs.size D.f_Live_go_on cdv))) : PSs (cxOf (L2.CX P w) P w K mg base ["self", "season"] "Live.go_on" (defScope s_Live_go_on) D.f_Live_go_on cdv A outer s H E) (defBody s_Live_go_on) (TMs ⟨K, D.cl⟩ π (fun cls d _ H => E cls d H) b_Live_go_on_k73) := by
  have nd := sc_Live_go_on.nd
  have tk : Takes (cxOf (L2.CX P w) P w K mg base ["self", "season"] "Live.go_on" (defScope s_Live_go_on) D.f_Live_go_on cdv A outer s H E) (fun cls d _ H => E cls d H) := takes_of rfl rfl rfl rfl
  have hp : PassesOwn (model P w) (cxOf (L2.CX P w) P w K mg base ["self", "season"] "Live.go_on" (defScope s_Live_go_on) D.f_Live_go_on cdv A outer s H E).A (cxOf (L2.CX P w) P w K mg base ["self", "season"] "Live.go_on" (defScope s_Live_go_on) D.f_Live_go_on cdv A outer s H E).env (cxOf (L2.CX P w) P w K mg base ["self", "season"] "Live.go_on" (defScope s_Live_go_on) D.f_Live_go_on cdv A outer s H E).xe := passes_of rfl
  unfold b_Live_go_on_k73
  exact (dss_cons (ds_fput rfl (at_past D) (ps_fld (pv 0) (de_tup (da_star rfl (de_attr rfl (at_past D) (dp_var (pv 0)) (by rfl)).peek (da_cons (de_attr rfl (at_season D) (dp_var (pv 0)) (by rfl)) da_nil) (StX.pa_star (de_attr rfl (at_past D) (dp_var (pv 0)) (by rfl)).peek (da_cons (de_attr rfl (at_season D) (dp_var (pv 0)) (by rfl)) da_nil)))) rfl))
    (dss_one (ds_expr (de_methIo (pv 0) D.cls_Live D.me_Live_show (ok_Live_show D) (hr.mono (by decide)) D.b_Live_show rfl (by decide +kernel) tk (da_cons (de_var (pv 1)) da_nil)))))
theorem ok_Live_go_on (D : Dfs w K mg) : FnOk P w K mg base (L2.CX P w) 13 D.f_Live_go_on D.fd_Live_go_on ["self", "season"] (spM ⟨K, D.cl⟩ 2 true false m_Live_go_on_k73) :=
  fun_ok2 (cl := D.cl) (n := 2) (fm := m_Live_go_on_k73) D.F_Live_go_on sc_Live_go_on (by decide) (by rfl) (by unfold m_Live_go_on_k73; rfl) (bd_Live_go_on D)
theorem bd_Live_look (D : Dfs w K mg) (cdv : Value) (A : Around) (outer : List Env) (s : Shared) (H : Hp) (E : XK) (π : Nat → Option Pin) (hr : Room 13 (A.deeper (envOfC "Live.look" (defScope s_Live_look) s.heap.objs.size D.f_Live_look cdv))) : PSs (cxOf (L2.CX P w) P w K mg base ["self", "day", "wheel", "side", "look"] "Live.look" (defScope s_Live_look) D.f_Live_look cdv A outer s H E) (defBody s_Live_look) (TMs ⟨K, D.cl⟩ π (fun cls d _ H => E cls d H) b_Live_look_k73) := by
  have nd := sc_Live_look.nd
  have tk : Takes (cxOf (L2.CX P w) P w K mg base ["self", "day", "wheel", "side", "look"] "Live.look" (defScope s_Live_look) D.f_Live_look cdv A outer s H E) (fun cls d _ H => E cls d H) := takes_of rfl rfl rfl rfl
  have hp : PassesOwn (model P w) (cxOf (L2.CX P w) P w K mg base ["self", "day", "wheel", "side", "look"] "Live.look" (defScope s_Live_look) D.f_Live_look cdv A outer s H E).A (cxOf (L2.CX P w) P w K mg base ["self", "day", "wheel", "side", "look"] "Live.look" (defScope s_Live_look) D.f_Live_look cdv A outer s H E).env (cxOf (L2.CX P w) P w K mg base ["self", "day", "wheel", "side", "look"] "Live.look" (defScope s_Live_look) D.f_Live_look cdv A outer s H E).xe := passes_of rfl
  unfold b_Live_look_k73
  exact (dss_cons (ds_asgV (ps_set (i := 4) nd rfl (by first | exact Or.inl rfl | exact Or.inr rfl) (de_tup (da_cons (de_var (pv 1)) (da_cons (de_var (pv 2)) (da_cons (de_var (pv 3)) da_nil))))))
    (dss_cons (ds_if (dt_not (dt_val (de_call (ok_is_look D) (hr.mono (by decide)) (by rfl) D.g_is_look D.F_is_look.kp D.b_is_look tk (da_cons (de_var (pv 4)) (da_cons (de_attr rfl (at_rota D) (de_attr rfl (at_season D) (dp_var (pv 0)) (by rfl)).peek (by rfl)) (da_cons (de_attr rfl (at_days D) (de_attr rfl (at_season D) (dp_var (pv 0)) (by rfl)).peek (by rfl)) da_nil)))))) (dss_one (ds_raise rfl rfl tk D.er_Refused rfl (ok_Refused_init D) (hr.mono (by decide)) D.b_Refused_init passes_no (by rfl) (de_var (pv 4)))) dss_nil)
    (dss_cons (ds_expr (de_methIo (pv 0) D.cls_Live D.me_Live_go_on (ok_Live_go_on D) (hr.mono (by decide)) D.b_Live_go_on rfl (by decide +kernel) tk (da_cons (de_meth (de_attr rfl (at_season D) (dp_var (pv 0)) (by rfl)) D.cls_Season D.me_Season_seen (ok_Season_seen D) (hr.mono (by decide)) D.b_Season_seen rfl (by decide +kernel) (fun _ _ _ _ _ h => h) tk (da_cons ((dn_lst (da_cons (de_var (pv 4)) da_nil))).keep da_nil)) da_nil)))
    (dss_one (ds_ret (de_attr rfl (at_is_possible D) (dp_var (pv 0)) (by rfl)))))))
theorem ok_Live_look (D : Dfs w K mg) : FnOk P w K mg base (L2.CX P w) 14 D.f_Live_look D.fd_Live_look ["self", "day", "wheel", "side"] (spM ⟨K, D.cl⟩ 4 true false m_Live_look_k73) :=
  fun_ok2 (cl := D.cl) (n := 4) (fm := m_Live_look_k73) D.F_Live_look sc_Live_look (by decide) (by rfl) (by unfold m_Live_look_k73; rfl) (bd_Live_look D)
theorem bd_first_live (D : Dfs w K mg) (cdv : Value) (A : Around) (outer : List Env) (s : Shared) (H : Hp) (E : XK) (π : Nat → Option Pin) (hr : Room 14 (A.deeper (envOfC "first_live" (defScope s_first_live) s.heap.objs.size D.f_first_live cdv))) : PSs (cxOf (L2.CX P w) P w K mg base ["rota"] "first_live" (defScope s_first_live) D.f_first_live cdv A outer s H E) (defBody s_first_live) (TMs ⟨K, D.cl⟩ π (fun cls d _ H => E cls d H) b_first_live_k73) := by
  have nd := sc_first_live.nd
  have tk : Takes (cxOf (L2.CX P w) P w K mg base ["rota"] "first_live" (defScope s_first_live) D.f_first_live cdv A outer s H E) (fun cls d _ H => E cls d H) := takes_of rfl rfl rfl rfl
  have hp : PassesOwn (model P w) (cxOf (L2.CX P w) P w K mg base ["rota"] "first_live" (defScope s_first_live) D.f_first_live cdv A outer s H E).A (cxOf (L2.CX P w) P w K mg base ["rota"] "first_live" (defScope s_first_live) D.f_first_live cdv A outer s H E).env (cxOf (L2.CX P w) P w K mg base ["rota"] "first_live" (defScope s_first_live) D.f_first_live cdv A outer s H E).xe := passes_of rfl
  unfold b_first_live_k73
  exact (dss_one (ds_ret ((dn_make D.mk_Live (ok_Live_init D) (hr.mono (by decide)) (by rfl) D.gC_Live D.b_Live_init rfl (fun _ _ _ _ _ h => h) tk (da_cons ((dn_makeD D.mk_Season (ok_Season_init D) (hr.mono (by decide)) (by rfl) D.gC_Season D.bv_Season_init D.bb_Season_init (fun F => .cons (by obtain ⟨_, _, _, z⟩ := D.be_Season_init; exact rep_empty z F) .nil) rfl (fun _ _ _ _ _ h => h) tk (da_cons (de_var (pv 0)) (da_cons (de_c (pe_glob (by rfl) D.c_FIRST_DAYS (D.r_FIRST_DAYS)) fun _ => .int _) (da_cons de_int da_nil))))).keep da_nil))).keep))
theorem ok_first_live (D : Dfs w K mg) : FnOk P w K mg base (L2.CX P w) 15 D.f_first_live D.fd_first_live ["rota"] (spM ⟨K, D.cl⟩ 1 false false m_first_live_k73) :=
  fun_ok2 (cl := D.cl) (n := 1) (fm := m_first_live_k73) D.F_first_live sc_first_live (by decide) (by rfl) (by unfold m_first_live_k73; rfl) (bd_first_live D)
theorem bd_Desk_new_season (D : Dfs w K mg) (cdv : Value) (A : Around) (outer : List Env) (s : Shared) (H : Hp) (E : XK) (π : Nat → Option Pin) (hr : Room 14 (A.deeper (envOfC "Desk.new_season" (defScope s_Desk_new_season) s.heap.objs.size D.f_Desk_new_season cdv))) : PSs (cxOf (L2.CX P w) P w K mg base ["self", "numbers", "season"] "Desk.new_season" (defScope s_Desk_new_season) D.f_Desk_new_season cdv A outer s H E) (defBody s_Desk_new_season) (TMs ⟨K, D.cl⟩ π (fun cls d _ H => E cls d H) b_Desk_new_season_k73) := by
  have nd := sc_Desk_new_season.nd
  have tk : Takes (cxOf (L2.CX P w) P w K mg base ["self", "numbers", "season"] "Desk.new_season" (defScope s_Desk_new_season) D.f_Desk_new_season cdv A outer s H E) (fun cls d _ H => E cls d H) := takes_of rfl rfl rfl rfl
  have hp : PassesOwn (model P w) (cxOf (L2.CX P w) P w K mg base ["self", "numbers", "season"] "Desk.new_season" (defScope s_Desk_new_season) D.f_Desk_new_season cdv A outer s H E).A (cxOf (L2.CX P w) P w K mg base ["self", "numbers", "season"] "Desk.new_season" (defScope s_Desk_new_season) D.f_Desk_new_season cdv A outer s H E).env (cxOf (L2.CX P w) P w K mg base ["self", "numbers", "season"] "Desk.new_season" (defScope s_Desk_new_season) D.f_Desk_new_season cdv A outer s H E).xe := passes_of rfl
  unfold b_Desk_new_season_k73
  exact (dss_cons (ds_asgV (ps_set (i := 2) nd rfl (by first | exact Or.inl rfl | exact Or.inr rfl) ((dn_makeD D.mk_Season (ok_Season_init D) (hr.mono (by decide)) (by rfl) D.gC_Season D.bv_Season_init D.bb_Season_init (fun F => .cons (by obtain ⟨_, _, _, z⟩ := D.be_Season_init; exact rep_empty z F) .nil) rfl (fun _ _ _ _ _ h => h) tk (da_cons (de_attr rfl (at_rota D) (de_attr rfl (at_season D) (de_attr rfl (at_live D) (dp_var (pv 0)) (by rfl)).peek (by rfl)).peek (by rfl)) (da_cons (de_ixV (pe_ix ix_seq (pv 1) de_int (fun _ _ => rfl))) (da_cons (de_ixV (pe_ix ix_seq (pv 1) de_int (fun _ _ => rfl))) da_nil))))).keep))
    (dss_cons (ds_expr (de_methIo (pv 0) D.cls_Desk D.me_Desk_keep (ok_Desk_keep D) (hr.mono (by decide)) D.b_Desk_keep rfl (by decide +kernel) tk (da_cons ((dn_make D.mk_Live (ok_Live_init D) (hr.mono (by decide)) (by rfl) D.gC_Live D.b_Live_init rfl (fun _ _ _ _ _ h => h) tk (da_cons (de_var (pv 2)) da_nil))).keep da_nil)))
    (dss_one (ds_ret (de_call1 (pe_callTy call_str_int (by rfl) D.z_str (by decide +kernel) (pa_cons (de_call1 (pe_callB cr_lenA (by rfl) D.z_len (by decide +kernel) (pa_cons (de_attr rfl (at_due D) (dp_var (pv 2)) (by rfl)).peek pa_nil)) cs_len).peek pa_nil)) cs_str)))))
theorem ok_Desk_new_season (D : Dfs w K mg) : FnOk P w K mg base (L2.CX P w) 15 D.f_Desk_new_season D.fd_Desk_new_season ["self", "numbers"] (spM ⟨K, D.cl⟩ 2 true false m_Desk_new_season_k73) :=
  fun_ok2 (cl := D.cl) (n := 2) (fm := m_Desk_new_season_k73) D.F_Desk_new_season sc_Desk_new_season (by decide) (by rfl) (by unfold m_Desk_new_season_k73; rfl) (bd_Desk_new_season D)
theorem bd_Desk_new_look (D : Dfs w K mg) (cdv : Value) (A : Around) (outer : List Env) (s : Shared) (H : Hp) (E : XK) (π : Nat → Option Pin) (hr : Room 14 (A.deeper (envOfC "Desk.new_look" (defScope s_Desk_new_look) s.heap.objs.size D.f_Desk_new_look cdv))) : PSs (cxOf (L2.CX P w) P w K mg base ["self", "numbers", "live", "is_possible"] "Desk.new_look" (defScope s_Desk_new_look) D.f_Desk_new_look cdv A outer s H E) (defBody s_Desk_new_look) (TMs ⟨K, D.cl⟩ π (fun cls d _ H => E cls d H) b_Desk_new_look_k73) := by
  have nd := sc_Desk_new_look.nd
  have tk : Takes (cxOf (L2.CX P w) P w K mg base ["self", "numbers", "live", "is_possible"] "Desk.new_look" (defScope s_Desk_new_look) D.f_Desk_new_look cdv A outer s H E) (fun cls d _ H => E cls d H) := takes_of rfl rfl rfl rfl
  have hp : PassesOwn (model P w) (cxOf (L2.CX P w) P w K mg base ["self", "numbers", "live", "is_possible"] "Desk.new_look" (defScope s_Desk_new_look) D.f_Desk_new_look cdv A outer s H E).A (cxOf (L2.CX P w) P w K mg base ["self", "numbers", "live", "is_possible"] "Desk.new_look" (defScope s_Desk_new_look) D.f_Desk_new_look cdv A outer s H E).env (cxOf (L2.CX P w) P w K mg base ["self", "numbers", "live", "is_possible"] "Desk.new_look" (defScope s_Desk_new_look) D.f_Desk_new_look cdv A outer s H E).xe := passes_of rfl
  unfold b_Desk_new_look_k73
  exact (dss_cons (ds_asgN (ps_set (i := 2) nd rfl (by first | exact Or.inl rfl | exact Or.inr rfl) (dn_make D.mk_Live (ok_Live_init D) (hr.mono (by decide)) (by rfl) D.gC_Live D.b_Live_init rfl (fun _ _ _ _ _ h => h) tk (da_cons (de_attr rfl (at_season D) (de_attr rfl (at_live D) (dp_var (pv 0)) (by rfl)).peek (by rfl)) da_nil))))
    (dss_cons (ds_asgV (ps_set (i := 3) nd rfl (by first | exact Or.inl rfl | exact Or.inr rfl) (de_methIo (pv 2) D.cls_Live D.me_Live_look (ok_Live_look D) (hr.mono (by decide)) D.b_Live_look rfl (by decide +kernel) tk (da_cons (de_ixV (pe_ix ix_seq (pv 1) de_int (fun _ _ => rfl))) (da_cons (de_ixV (pe_ix ix_seq (pv 1) de_int (fun _ _ => rfl))) (da_cons (de_ixV (pe_ix ix_seq (pv 1) de_int (fun _ _ => rfl))) da_nil))))))
    (dss_cons (ds_expr (de_methIo (pv 0) D.cls_Desk D.me_Desk_keep (ok_Desk_keep D) (hr.mono (by decide)) D.b_Desk_keep rfl (by decide +kernel) tk (da_cons (de_var (pv 2)) da_nil)))
    (dss_one (ds_ret (de_ifExp (dt_val (de_var (pv 3))) de_str de_str))))))
theorem ok_Desk_new_look (D : Dfs w K mg) : FnOk P w K mg base (L2.CX P w) 15 D.f_Desk_new_look D.fd_Desk_new_look ["self", "numbers"] (spM ⟨K, D.cl⟩ 2 true false m_Desk_new_look_k73) :=
  fun_ok2 (cl := D.cl) (n := 2) (fm := m_Desk_new_look_k73) D.F_Desk_new_look sc_Desk_new_look (by decide) (by rfl) (by unfold m_Desk_new_look_k73; rfl) (bd_Desk_new_look D)
theorem bd_Desk_init (D : Dfs w K mg) (cdv : Value) (A : Around) (outer : List Env) (s : Shared) (H : Hp) (E : XK) (π : Nat → Option Pin) (hr : Room 15 (A.deeper (envOfC "Desk.__init__" (defScope s_Desk_init) s.heap.objs.size D.f_Desk_init cdv))) : PSs (cxOf (L2.CX P w) P w K mg base ["self"] "Desk.__init__" (defScope s_Desk_init) D.f_Desk_init cdv A outer s H E) (defBody s_Desk_init) (TMs ⟨K, D.cl⟩ π (fun cls d _ H => E cls d H) b_Desk_init_k73) := by
  have nd := sc_Desk_init.nd
  have tk : Takes (cxOf (L2.CX P w) P w K mg base ["self"] "Desk.__init__" (defScope s_Desk_init) D.f_Desk_init cdv A outer s H E) (fun cls d _ H => E cls d H) := takes_of rfl rfl rfl rfl
  have hp : PassesOwn (model P w) (cxOf (L2.CX P w) P w K mg base ["self"] "Desk.__init__" (defScope s_Desk_init) D.f_Desk_init cdv A outer s H E).A (cxOf (L2.CX P w) P w K mg base ["self"] "Desk.__init__" (defScope s_Desk_init) D.f_Desk_init cdv A outer s H E).env (cxOf (L2.CX P w) P w K mg base ["self"] "Desk.__init__" (defScope s_Desk_init) D.f_Desk_init cdv A outer s H E).xe := passes_of rfl
  unfold b_Desk_init_k73
  exact (dss_cons (ds_fput rfl (at_live D) (ps_fld (pv 0) (de_call (ok_first_live D) (hr.mono (by decide)) (by rfl) D.g_first_live D.F_first_live.kp D.b_first_live tk (da_cons ((dn_make D.mk_Rota (ok_Rota_init D) (hr.mono (by decide)) (by rfl) D.gC_Rota D.b_Rota_init rfl (fun _ _ _ _ _ h => h) tk (da_cons de_int (da_cons ((dn_lst (da_cons (de_tup (da_cons (de_tup (da_cons de_int da_nil)) (da_cons (de_tup (da_cons de_int da_nil)) da_nil))) da_nil))).keep da_nil)))).keep da_nil)) rfl))
    (dss_one (ds_fput rfl (at_past D) (ps_fld (pv 0) (de_tup da_nil) rfl))))
theorem ok_Desk_init (D : Dfs w K mg) : FnOk P w K mg base (L2.CX P w) 16 D.f_Desk_init D.fd_Desk_init ["self"] (spM ⟨K, D.cl⟩ 1 true false m_Desk_init_k73) :=
  fun_ok2 (cl := D.cl) (n := 1) (fm := m_Desk_init_k73) D.F_Desk_init sc_Desk_init (by decide) (by rfl) (by unfold m_Desk_init_k73; rfl) (bd_Desk_init D)
theorem bd_Desk_begin (D : Dfs w K mg) (cdv : Value) (A : Around) (outer : List Env) (s : Shared) (H : Hp) (E : XK) (π : Nat → Option Pin) (hr : Room 15 (A.deeper (envOfC "Desk.begin" (defScope s_Desk_begin) s.heap.objs.size D.f_Desk_begin cdv))) : PSs (cxOf (L2.CX P w) P w K mg base ["self", "rota"] "Desk.begin" (defScope s_Desk_begin) D.f_Desk_begin cdv A outer s H E) (defBody s_Desk_begin) (TMs ⟨K, D.cl⟩ π (fun cls d _ H => E cls d H) b_Desk_begin_k73) := by
  have nd := sc_Desk_begin.nd
  have tk : Takes (cxOf (L2.CX P w) P w K mg base ["self", "rota"] "Desk.begin" (defScope s_Desk_begin) D.f_Desk_begin cdv A outer s H E) (fun cls d _ H => E cls d H) := takes_of rfl rfl rfl rfl
  have hp : PassesOwn (model P w) (cxOf (L2.CX P w) P w K mg base ["self", "rota"] "Desk.begin" (defScope s_Desk_begin) D.f_Desk_begin cdv A outer s H E).A (cxOf (L2.CX P w) P w K mg base ["self", "rota"] "Desk.begin" (defScope s_Desk_begin) D.f_Desk_begin cdv A outer s H E).env (cxOf (L2.CX P w) P w K mg base ["self", "rota"] "Desk.begin" (defScope s_Desk_begin) D.f_Desk_begin cdv A outer s H E).xe := passes_of rfl
  unfold b_Desk_begin_k73
  exact (dss_cons (ds_expr (de_methIo (pv 0) D.cls_Desk D.me_Desk_keep (ok_Desk_keep D) (hr.mono (by decide)) D.b_Desk_keep rfl (by decide +kernel) tk (da_cons (de_call (ok_first_live D) (hr.mono (by decide)) (by rfl) D.g_first_live D.F_first_live.kp D.b_first_live tk (da_cons (de_var (pv 1)) da_nil)) da_nil)))
    (dss_one (ds_ret (de_call1 (pe_callTy call_str_int (by rfl) D.z_str (by decide +kernel) (pa_cons (de_own1 (ok := okLen) (pe_callB (cr_lenO (ok_Rota_len D) D.b_Rota_len D.me_Rota_len (hr.mono (by decide))) (by rfl) D.z_len (by decide +kernel) (pa_cons (de_var (pv 1)) pa_nil)) rfl len_v).peek pa_nil)) cs_str))))
theorem ok_Desk_begin (D : Dfs w K mg) : FnOk P w K mg base (L2.CX P w) 16 D.f_Desk_begin D.fd_Desk_begin ["self", "rota"] (spM ⟨K, D.cl⟩ 2 true false m_Desk_begin_k73) :=
  fun_ok2 (cl := D.cl) (n := 2) (fm := m_Desk_begin_k73) D.F_Desk_begin sc_Desk_begin (by decide) (by rfl) (by unfold m_Desk_begin_k73; rfl) (bd_Desk_begin D)
theorem bd_Desk_say (D : Dfs w K mg) (cdv : Value) (A : Around) (outer : List Env) (s : Shared) (H : Hp) (E : XK) (π : Nat → Option Pin) (hr : Room 16 (A.deeper (envOfC "Desk.say" (defScope s_Desk_say) s.heap.objs.size D.f_Desk_say cdv))) : PSs (cxOf (L2.CX P w) P w K mg base ["self", "command", "words", "numbers"] "Desk.say" (defScope s_Desk_say) D.f_Desk_say cdv A outer s H E) (defBody s_Desk_say) (TMs ⟨K, D.cl⟩ π (fun cls d _ H => E cls d H) b_Desk_say) := by
  have nd := sc_Desk_say.nd
  have tk : Takes (cxOf (L2.CX P w) P w K mg base ["self", "command", "words", "numbers"] "Desk.say" (defScope s_Desk_say) D.f_Desk_say cdv A outer s H E) (fun cls d _ H => E cls d H) := takes_of rfl rfl rfl rfl
  have hp : PassesOwn (model P w) (cxOf (L2.CX P w) P w K mg base ["self", "command", "words", "numbers"] "Desk.say" (defScope s_Desk_say) D.f_Desk_say cdv A outer s H E).A (cxOf (L2.CX P w) P w K mg base ["self", "command", "words", "numbers"] "Desk.say" (defScope s_Desk_say) D.f_Desk_say cdv A outer s H E).env (cxOf (L2.CX P w) P w K mg base ["self", "command", "words", "numbers"] "Desk.say" (defScope s_Desk_say) D.f_Desk_say cdv A outer s H E).xe := passes_of rfl
  unfold b_Desk_say
  exact (dss_cons (ds_asgV (ps_set (i := 2) nd rfl (by first | exact Or.inl rfl | exact Or.inr rfl) (de_call (ok_words_of D) (hr.mono (by decide)) (by rfl) D.g_words_of D.F_words_of.kp D.b_words_of tk (da_cons (de_var (pv 1)) da_nil))))
    (dss_cons (ds_if (PW.pt (dw_and (dt_cmp (op_eqD hr.units) os_eq (de_ixV (pe_ix ix_seq (pv 2) de_int (fun _ _ => rfl))) (de_str).peek (nomark _)) (dw_and1 (dt_cmp op_gt os_gt (de_call1 (pe_callB cr_lenA (by rfl) D.z_len (by decide +kernel) (pa_cons (dp_var (pv 2)) pa_nil)) cs_len) (de_int).peek (nomark _))))) (dss_one (ds_ret (de_methIo (pv 0) D.cls_Desk D.me_Desk_begin (ok_Desk_begin D) (hr.mono (by decide)) D.b_Desk_begin rfl (by decide +kernel) tk (da_cons (de_cmeth (pe_glob (by rfl) D.gC_Rota rfl) D.cr_Rota D.cm_Rota_read (ok_Rota_read D) (hr.mono (by decide)) D.b_Rota_read rfl tk (da_cons (de_repl (pe_repl1 (y := " ; ") (z := "\n") (pet_sl rfl (pet1_slice sl_all (de_var (pv 1)) (pet_len (pet1_callB cr_lenA (by rfl) D.z_len (by decide +kernel) pet1_str) cs_len))))) da_nil)) da_nil)))) dss_nil)
    (dss_cons (ds_asgV (ps_set (i := 3) nd rfl (by first | exact Or.inl rfl | exact Or.inr rfl) (de_call (ok_numbers_of D) (hr.mono (by decide)) (by rfl) D.g_numbers_of D.F_numbers_of.kp D.b_numbers_of tk (da_cons (de_var (pv 2)) da_nil))))
    (dss_cons (ds_if (dt_cmp (op_eqD hr.units) os_eq (de_ixV (pe_ix ix_seq (pv 2) de_int (fun _ _ => rfl))) (de_str).peek (nomark _)) (dss_one (ds_ret (de_methIo (pv 0) D.cls_Desk D.me_Desk_new_season (ok_Desk_new_season D) (hr.mono (by decide)) D.b_Desk_new_season rfl (by decide +kernel) tk (da_cons (de_var (pv 3)) da_nil)))) dss_nil)
    (dss_cons (ds_if (dt_cmp (op_eqD hr.units) os_eq (de_ixV (pe_ix ix_seq (pv 2) de_int (fun _ _ => rfl))) (de_str).peek (nomark _)) (dss_one (ds_ret (de_methIo (pv 0) D.cls_Desk D.me_Desk_new_look (ok_Desk_new_look D) (hr.mono (by decide)) D.b_Desk_new_look rfl (by decide +kernel) tk (da_cons (de_var (pv 3)) da_nil)))) dss_nil)
    (dss_cons (ds_if (PW.pt (dw_and (dt_cmp (op_eqD hr.units) os_eq (de_ixV (pe_ix ix_seq (pv 2) de_int (fun _ _ => rfl))) (de_str).peek (nomark _)) (dw_and1 (dt_val (de_methIo0 (pv 0) D.cls_Desk D.me_Desk_undo (ok_Desk_undo D) (hr.mono (by decide)) D.b_Desk_undo rfl (by decide +kernel) tk))))) (dss_one (ds_ret de_str)) dss_nil)
    (dss_one (ds_ret (de_methIo (pv 0) D.cls_Desk D.me_Desk_told (ok_Desk_told D) (hr.mono (by decide)) D.b_Desk_told rfl (by decide +kernel) tk (da_cons (de_ixV (pe_ix ix_seq (pv 2) de_int (fun _ _ => rfl))) (da_cons (de_var (pv 3)) da_nil)))))))))))
theorem ok_Desk_say (D : Dfs w K mg) : FnOk P w K mg base (L2.CX P w) 17 D.f_Desk_say D.fd_Desk_say ["self", "command"] (spM ⟨K, D.cl⟩ 2 true false m_Desk_say) :=
  fun_ok2 (cl := D.cl) (n := 2) (fm := m_Desk_say) D.F_Desk_say sc_Desk_say (by decide) (by rfl) (by unfold m_Desk_say; rfl) (bd_Desk_say D)
theorem bd_law_heard (D : Dfs w K mg) (cdv : Value) (A : Around) (outer : List Env) (s : Shared) (H : Hp) (E : XK) (π : Nat → Option Pin) (hr : Room 17 (A.deeper (envOfC "_law_heard" (defScope s_law_heard) s.heap.objs.size D.f_law_heard cdv))) (hg : (A.deeper (envOfC "_law_heard" (defScope s_law_heard) s.heap.objs.size D.f_law_heard cdv)).guards = some []) : PSs (cxOf (L2.CX P w) P w K mg base ["_law_desk", "_law_command", "_law_found", "e"] "_law_heard" (defScope s_law_heard) D.f_law_heard cdv A outer s H E) (defBody s_law_heard) (TMs ⟨K, D.cl⟩ π (fun cls d _ H => E cls d H) b_law_heard) := by
  have nd := sc_law_heard.nd
  have tk : Takes (cxOf (L2.CX P w) P w K mg base ["_law_desk", "_law_command", "_law_found", "e"] "_law_heard" (defScope s_law_heard) D.f_law_heard cdv A outer s H E) (fun cls d _ H => E cls d H) := takes_of rfl rfl rfl rfl
  have hp : PassesOwn (model P w) (cxOf (L2.CX P w) P w K mg base ["_law_desk", "_law_command", "_law_found", "e"] "_law_heard" (defScope s_law_heard) D.f_law_heard cdv A outer s H E).A (cxOf (L2.CX P w) P w K mg base ["_law_desk", "_law_command", "_law_found", "e"] "_law_heard" (defScope s_law_heard) D.f_law_heard cdv A outer s H E).env (cxOf (L2.CX P w) P w K mg base ["_law_desk", "_law_command", "_law_found", "e"] "_law_heard" (defScope s_law_heard) D.f_law_heard cdv A outer s H E).xe := passes_of rfl
  unfold b_law_heard
  exact (dss_cons (ds_asgV (ps_set (i := 2) nd rfl (by first | exact Or.inl rfl | exact Or.inr rfl) de_str))
    (dss_cons (ds_tryM rfl rfl rfl tk (fun W pn xe tk hp => (dss_one (ds_expr (de_methIo (pv 0) D.cls_Desk D.me_Desk_say (ok_Desk_say D) (hr.mono (by decide)) D.b_Desk_say rfl (by decide +kernel) tk (da_cons (de_var (pv 1)) da_nil))))) (.bare (q := qTab [(25, true), (21, false), (20, false), (22, false), (26, false), (30, false)]) ⟨by rfl, by decide, .inl D.kl_InvalidCommand.g⟩ (hq_cons rfl (D.kl_InvalidCommand.exm D.su_InvalidCommand_InvalidCommand D.er_InvalidCommand.exc.hs) (hq_cons rfl (D.kl_InvalidCommand.exm D.su_InvalidText_InvalidCommand D.er_InvalidCommand.exc.hs) (hq_cons rfl (D.kl_InvalidCommand.exm D.su_InvalidRota_InvalidCommand D.er_InvalidCommand.exc.hs) (hq_cons rfl (D.kl_InvalidCommand.exm D.su_InvalidSeason_InvalidCommand D.er_InvalidCommand.exc.hs) (hq_cons rfl (D.kl_InvalidCommand.exm D.su_NoWheel_InvalidCommand D.er_InvalidCommand.exc.hs) (hq_cons rfl (D.kl_InvalidCommand.exm D.su_Refused_InvalidCommand D.er_InvalidCommand.exc.hs) hq_nil)))))) (fun a oe cls d pn hz hf => pss_one (ds_asgV (ps_set (i := 2) nd rfl (by first | exact Or.inl rfl | exact Or.inr rfl) de_str))) (.cons (q := qTab [(25, false), (21, true), (20, false), (22, false), (26, false), (30, false)]) (i := 3) nd rfl rfl ⟨by rfl, by decide, .inl D.kl_InvalidText.g⟩ (hq_cons rfl (D.kl_InvalidText.exm D.su_InvalidCommand_InvalidText D.er_InvalidText.exc.hs) (hq_cons rfl (D.kl_InvalidText.exm D.su_InvalidText_InvalidText D.er_InvalidText.exc.hs) (hq_cons rfl (D.kl_InvalidText.exm D.su_InvalidRota_InvalidText D.er_InvalidText.exc.hs) (hq_cons rfl (D.kl_InvalidText.exm D.su_InvalidSeason_InvalidText D.er_InvalidText.exc.hs) (hq_cons rfl (D.kl_InvalidText.exm D.su_NoWheel_InvalidText D.er_InvalidText.exc.hs) (hq_cons rfl (D.kl_InvalidText.exm D.su_Refused_InvalidText D.er_InvalidText.exc.hs) hq_nil)))))) (fun a oe cls d pn hz hf => sx_one (sx_set (ps_set (i := 2) nd rfl (by first | exact Or.inl rfl | exact Or.inr rfl) (te_bin op_addA os_add de_str (te_call1 (pe_callTy call_str_int (by rfl) D.z_str (by decide +kernel) (pa_cons (te_fld rfl rfl D.er_InvalidText.xf D.na_InvalidText hz hf (pv 3)) pa_nil)) cs_str))))) (.cons (q := qTab [(25, false), (21, false), (20, true), (22, false), (26, false), (30, false)]) (i := 3) nd rfl rfl ⟨by rfl, by decide, .inl D.kl_InvalidRota.g⟩ (hq_cons rfl (D.kl_InvalidRota.exm D.su_InvalidCommand_InvalidRota D.er_InvalidRota.exc.hs) (hq_cons rfl (D.kl_InvalidRota.exm D.su_InvalidText_InvalidRota D.er_InvalidRota.exc.hs) (hq_cons rfl (D.kl_InvalidRota.exm D.su_InvalidRota_InvalidRota D.er_InvalidRota.exc.hs) (hq_cons rfl (D.kl_InvalidRota.exm D.su_InvalidSeason_InvalidRota D.er_InvalidRota.exc.hs) (hq_cons rfl (D.kl_InvalidRota.exm D.su_NoWheel_InvalidRota D.er_InvalidRota.exc.hs) (hq_cons rfl (D.kl_InvalidRota.exm D.su_Refused_InvalidRota D.er_InvalidRota.exc.hs) hq_nil)))))) (fun a oe cls d pn hz hf => sx_one (sx_set (ps_set (i := 2) nd rfl (by first | exact Or.inl rfl | exact Or.inr rfl) (te_bin op_addA os_add de_str (te_fld rfl rfl D.er_InvalidRota.xf D.na_InvalidRota hz hf (pv 3)))))) (.cons (q := qTab [(25, false), (21, false), (20, false), (22, true), (26, false), (30, false)]) (i := 3) nd rfl rfl ⟨by rfl, by decide, .inl D.kl_InvalidSeason.g⟩ (hq_cons rfl (D.kl_InvalidSeason.exm D.su_InvalidCommand_InvalidSeason D.er_InvalidSeason.exc.hs) (hq_cons rfl (D.kl_InvalidSeason.exm D.su_InvalidText_InvalidSeason D.er_InvalidSeason.exc.hs) (hq_cons rfl (D.kl_InvalidSeason.exm D.su_InvalidRota_InvalidSeason D.er_InvalidSeason.exc.hs) (hq_cons rfl (D.kl_InvalidSeason.exm D.su_InvalidSeason_InvalidSeason D.er_InvalidSeason.exc.hs) (hq_cons rfl (D.kl_InvalidSeason.exm D.su_NoWheel_InvalidSeason D.er_InvalidSeason.exc.hs) (hq_cons rfl (D.kl_InvalidSeason.exm D.su_Refused_InvalidSeason D.er_InvalidSeason.exc.hs) hq_nil)))))) (fun a oe cls d pn hz hf => sx_one (sx_set (ps_set (i := 2) nd rfl (by first | exact Or.inl rfl | exact Or.inr rfl) (te_bin op_addA os_add de_str (te_fld rfl rfl D.er_InvalidSeason.xf D.na_InvalidSeason hz hf (pv 3)))))) (.cons (q := qTab [(25, false), (21, false), (20, false), (22, false), (26, true), (30, false)]) (i := 3) nd rfl rfl ⟨by rfl, by decide, .inl D.kl_NoWheel.g⟩ (hq_cons rfl (D.kl_NoWheel.exm D.su_InvalidCommand_NoWheel D.er_NoWheel.exc.hs) (hq_cons rfl (D.kl_NoWheel.exm D.su_InvalidText_NoWheel D.er_NoWheel.exc.hs) (hq_cons rfl (D.kl_NoWheel.exm D.su_InvalidRota_NoWheel D.er_NoWheel.exc.hs) (hq_cons rfl (D.kl_NoWheel.exm D.su_InvalidSeason_NoWheel D.er_NoWheel.exc.hs) (hq_cons rfl (D.kl_NoWheel.exm D.su_NoWheel_NoWheel D.er_NoWheel.exc.hs) (hq_cons rfl (D.kl_NoWheel.exm D.su_Refused_NoWheel D.er_NoWheel.exc.hs) hq_nil)))))) (fun a oe cls d pn hz hf => sx_one (sx_set (ps_set (i := 2) nd rfl (by first | exact Or.inl rfl | exact Or.inr rfl) (te_bin op_addA os_add de_str (te_call1 (pe_callTy call_str_int (by rfl) D.z_str (by decide +kernel) (pa_cons (te_fld rfl rfl D.er_NoWheel.xf D.na_NoWheel hz hf (pv 3)) pa_nil)) cs_str))))) (.cons (q := qTab [(25, false), (21, false), (20, false), (22, false), (26, false), (30, true)]) (i := 3) nd rfl rfl ⟨by rfl, by decide, .inl D.kl_Refused.g⟩ (hq_cons rfl (D.kl_Refused.exm D.su_InvalidCommand_Refused D.er_Refused.exc.hs) (hq_cons rfl (D.kl_Refused.exm D.su_InvalidText_Refused D.er_Refused.exc.hs) (hq_cons rfl (D.kl_Refused.exm D.su_InvalidRota_Refused D.er_Refused.exc.hs) (hq_cons rfl (D.kl_Refused.exm D.su_InvalidSeason_Refused D.er_Refused.exc.hs) (hq_cons rfl (D.kl_Refused.exm D.su_NoWheel_Refused D.er_Refused.exc.hs) (hq_cons rfl (D.kl_Refused.exm D.su_Refused_Refused D.er_Refused.exc.hs) hq_nil)))))) (fun a oe cls d pn hz hf => sx_one (sx_set (ps_set (i := 2) nd rfl (by first | exact Or.inl rfl | exact Or.inr rfl) (te_bin op_addA os_add de_str (te_call1 (pe_callB (cr_reprS hg (have hu_ := room_un hr; hu_)) (by rfl) D.z_repr (by decide +kernel) (pa_cons (te_fld rfl rfl D.er_Refused.xf D.na_Refused hz hf (pv 3)) pa_nil)) cs_reprD))))) .nil)))))))
    (dss_one (ds_ret (de_var (pv 2))))))
theorem ok_law_heard (D : Dfs w K mg) : FnG P w K mg base (L2.CX P w) 18 D.f_law_heard D.fd_law_heard ["_law_desk", "_law_command"] (spM ⟨K, D.cl⟩ 2 true false m_law_heard) :=
  fun_okG (cl := D.cl) (n := 2) (fm := m_law_heard) D.F_law_heard sc_law_heard (by decide) (by rfl) (by unfold m_law_heard; rfl) (bd_law_heard D)
theorem bd_law (D : Dfs w K mg) (cdv : Value) (A : Around) (outer : List Env) (s : Shared) (H : Hp) (E : XK) (π : Nat → Option Pin) (hr : Room 18 (A.deeper (envOfC "law" (defScope s_law) s.heap.objs.size D.f_law cdv))) (hg : (A.deeper (envOfC "law" (defScope s_law) s.heap.objs.size D.f_law cdv)).guards = some []) : PSs (cxOf (L2.CX P w) P w K mg base ["_law_script", "_law_good", "_law_bad", "_law_written", "_law_k", "_law_box_here", "_law_desk", "_law_turn", "_law_many", "_law_command", "_law_due", "_law_value_here"] "law" (defScope s_law) D.f_law cdv A outer s H E) (defBody s_law) (TMs ⟨K, D.cl⟩ π (fun cls d _ H => E cls d H) b_law) := by
  have nd := sc_law.nd
  have tk : Takes (cxOf (L2.CX P w) P w K mg base ["_law_script", "_law_good", "_law_bad", "_law_written", "_law_k", "_law_box_here", "_law_desk", "_law_turn", "_law_many", "_law_command", "_law_due", "_law_value_here"] "law" (defScope s_law) D.f_law cdv A outer s H E) (fun cls d _ H => E cls d H) := takes_of rfl rfl rfl rfl
  have hp : PassesOwn (model P w) (cxOf (L2.CX P w) P w K mg base ["_law_script", "_law_good", "_law_bad", "_law_written", "_law_k", "_law_box_here", "_law_desk", "_law_turn", "_law_many", "_law_command", "_law_due", "_law_value_here"] "law" (defScope s_law) D.f_law cdv A outer s H E).A (cxOf (L2.CX P w) P w K mg base ["_law_script", "_law_good", "_law_bad", "_law_written", "_law_k", "_law_box_here", "_law_desk", "_law_turn", "_law_many", "_law_command", "_law_due", "_law_value_here"] "law" (defScope s_law) D.f_law cdv A outer s H E).env (cxOf (L2.CX P w) P w K mg base ["_law_script", "_law_good", "_law_bad", "_law_written", "_law_k", "_law_box_here", "_law_desk", "_law_turn", "_law_many", "_law_command", "_law_due", "_law_value_here"] "law" (defScope s_law) D.f_law cdv A outer s H E).xe := passes_of rfl
  unfold b_law st_law_0 st_law_1 st_law_2 st_law_3 st_law_4 st_law_5 st_law_6 st_law_7 st_law_8 st_law_9 st_law_10 st_law_11 lp_law_2 lp_law_1 lp_law_0
  exact (dss_cons (ds_asgN (ps_set (i := 1) nd rfl (by first | exact Or.inl rfl | exact Or.inr rfl) (dn_lst (da_cons de_str (da_cons de_str (da_cons de_str (da_cons de_str (da_cons de_str (da_cons de_str (da_cons de_str da_nil))))))))))
    (dss_cons (ds_expr (de_append rfl (pe_bm PySem.F.plainAttrs_list PySem.F.slot_list_append PySem.F.type_list_append mt_append (pv 1) (pa_cons de_str pa_nil))))
    (dss_cons (ds_asgV (ps_set (i := 2) nd rfl (by first | exact Or.inl rfl | exact Or.inr rfl) ((dn_lst (da_cons de_str (da_cons de_str (da_cons de_str (da_cons de_str (da_cons de_str (da_cons de_str (da_cons de_str (da_cons de_str (da_cons de_str da_nil))))))))))).keep))
    (dss_cons (ds_asgV (ps_set (i := 2) nd rfl (by first | exact Or.inl rfl | exact Or.inr rfl) (de_bin op_addA os_add (de_var (pv 2)) ((dn_lst (da_cons de_str (da_cons de_str (da_cons de_str (da_cons de_str (da_cons de_str (da_cons de_str da_nil)))))))).keep.peek)))
    (dss_cons (ds_asgV (ps_set (i := 2) nd rfl (by first | exact Or.inl rfl | exact Or.inr rfl) (de_bin op_addA os_add (de_var (pv 2)) ((dn_lst (da_cons de_str (da_cons de_str (da_cons de_str (da_cons de_str da_nil)))))).keep.peek)))
    (dss_cons (ds_asgN (ps_set (i := 3) nd rfl (by first | exact Or.inl rfl | exact Or.inr rfl) (dn_lst (da_cons (de_tup (da_cons de_str (da_cons de_str da_nil))) (da_cons (de_tup (da_cons de_str (da_cons de_str da_nil))) (da_cons (de_tup (da_cons de_str (da_cons de_str da_nil))) da_nil))))))
    (dss_cons (ds_asgN (ps_set (i := 3) nd rfl (by first | exact Or.inl rfl | exact Or.inr rfl) (dn_cat (de_var (pv 3)) ((dn_lst (da_cons (de_tup (da_cons de_str (da_cons de_str da_nil))) (da_cons (de_tup (da_cons de_str (da_cons de_str da_nil))) da_nil)))).keep.peek)))
    (dss_cons (ds_asgN (ps_set (i := 3) nd rfl (by first | exact Or.inl rfl | exact Or.inr rfl) (dn_cat (de_var (pv 3)) ((dn_lst (da_cons (de_tup (da_cons de_str (da_cons de_str da_nil))) (da_cons (de_tup (da_cons de_str (da_cons de_str da_nil))) da_nil)))).keep.peek)))
    (dss_cons (ds_asgN (ps_set (i := 3) nd rfl (by first | exact Or.inl rfl | exact Or.inr rfl) (dn_cat (de_var (pv 3)) ((dn_lst (da_cons (de_tup (da_cons de_str (da_cons de_str da_nil))) (da_cons (de_tup (da_cons de_str (da_cons de_str da_nil))) da_nil)))).keep.peek)))
    (dss_cons (ds_expr (de_append rfl (pe_bm PySem.F.plainAttrs_list PySem.F.slot_list_append PySem.F.type_list_append mt_append (pv 3) (pa_cons (de_tup (da_cons de_str (da_cons de_str da_nil))) pa_nil))))
    (dss_cons (ds_for hp rfl (di_rng1 (by rfl) D.z_range (da_cons (de_mm2 (pe_callB (call_max2 rfl) (by rfl) D.z_max (by decide +kernel) (pa_cons de_int (pa_cons (de_mm2 (pe_callB (call_min2 rfl) (by rfl) D.z_min (by decide +kernel) (pa_cons de_int (pa_cons (de_call1 (pe_callB cr_lenA (by rfl) D.z_len (by decide +kernel) (pa_cons (dp_var (pv 0)) pa_nil)) cs_len) pa_nil)))) pa_nil)))) da_nil)) (dg_name (pg_name (i := 4) nd rfl (by first | exact Or.inl rfl | exact Or.inr rfl))) (dss_cons (ds_asgN (ps_set (i := 5) nd rfl (by first | exact Or.inl rfl | exact Or.inr rfl) (dn_call (ok_law_box D) (hr.mono (by decide)) (by rfl) D.g_law_box D.F_law_box.kp D.b_law_box tk (da_cons (de_var (pv 0)) (da_cons (de_var (pv 4)) (da_cons de_int da_nil))))))
    (dss_cons (ds_asgN (ps_set (i := 6) nd rfl (by first | exact Or.inl rfl | exact Or.inr rfl) (dn_make0 D.mk_Desk (ok_Desk_init D) (hr.mono (by decide)) (by rfl) D.gC_Desk D.b_Desk_init rfl tk)))
    (dss_cons (ds_expr (de_methIo (pv 6) D.cls_Desk D.me_Desk_say (ok_Desk_say D) (hr.mono (by decide)) D.b_Desk_say rfl (by decide +kernel) tk (da_cons de_str da_nil)))
    (dss_cons (ds_for hp rfl (di_rng1 (by rfl) D.z_range (da_cons de_int da_nil)) (dg_name (pg_name (i := 7) nd rfl (by first | exact Or.inl rfl | exact Or.inr rfl))) (dss_cons (ds_asgV (ps_set (i := 8) nd rfl (by first | exact Or.inl rfl | exact Or.inr rfl) (de_own1Io (ok := okLen) (pe_callB (cr_lenO (ok_Desk_len D) D.b_Desk_len D.me_Desk_len (hr.mono (by decide))) (by rfl) D.z_len (by decide +kernel) (pa_cons (pv 6) pa_nil)) rfl len_v)))
    (dss_cons (ds_if (PW.pt (dw_or (dt_cmp (op_neD hr.units) os_ne (de_callIoG hg (ok_law_heard D) (hr.mono (by decide)) (by rfl) D.g_law_heard D.F_law_heard.kp D.b_law_heard tk (pv 6) (da_cons (de_callIo (ok_law_pick D) (hr.mono (by decide)) (by rfl) D.g_law_pick D.F_law_pick.kp D.b_law_pick tk (pv 5) (da_cons (de_var (pv 2)) da_nil)) da_nil)) (de_str).peek (nomark _)) (dw_or1 (dt_cmp (op_neD hr.units) os_ne (de_own1Io (ok := okLen) (pe_callB (cr_lenO (ok_Desk_len D) D.b_Desk_len D.me_Desk_len (hr.mono (by decide))) (by rfl) D.z_len (by decide +kernel) (pa_cons (pv 6) pa_nil)) rfl len_v) (dp_var (pv 8)) (nomark _))))) (dss_one (ds_ret de_bl)) dss_nil)
    (dss_cons (ds_asg (ps_asg (de_callIo (ok_law_pick D) (hr.mono (by decide)) (by rfl) D.g_law_pick D.F_law_pick.kp D.b_law_pick tk (pv 5) (da_cons (de_var (pv 3)) da_nil)) (dg_tup rfl rfl (dgs_cons (dg_name (pg_name (i := 9) nd rfl (by first | exact Or.inl rfl | exact Or.inr rfl))) (dgs_cons (dg_name (pg_name (i := 10) nd rfl (by first | exact Or.inl rfl | exact Or.inr rfl))) dgs_nil)))))
    (dss_cons (ds_if (PW.pt (dw_or (dt_cmp (op_neD hr.units) os_ne (de_callIoG hg (ok_law_heard D) (hr.mono (by decide)) (by rfl) D.g_law_heard D.F_law_heard.kp D.b_law_heard tk (pv 6) (da_cons (de_var (pv 9)) da_nil)) (dp_var (pv 10)) (nomark _)) (dw_or1 (dt_cmp (op_neD hr.units) os_ne (de_own1Io (ok := okLen) (pe_callB (cr_lenO (ok_Desk_len D) D.b_Desk_len D.me_Desk_len (hr.mono (by decide))) (by rfl) D.z_len (by decide +kernel) (pa_cons (pv 6) pa_nil)) rfl len_v) (dp_var (pv 8)) (nomark _))))) (dss_one (ds_ret de_bl)) dss_nil)
    (dss_cons (ds_asgV (ps_set (i := 11) nd rfl (by first | exact Or.inl rfl | exact Or.inr rfl) (de_callIo (ok_law_value D) (hr.mono (by decide)) (by rfl) D.g_law_value D.F_law_value.kp D.b_law_value tk (pv 5) da_nil)))
    (dss_one (ds_if (PW.pt (dw_and (dt_not (dt_val (de_isi rfl .str (pe_callB call_isi (by rfl) D.z_isinstance (by decide +kernel) (pa_cons (dp_var (pv 11)) (pa_cons (pe_bltn (v := .ty "str") (by rfl) D.z_str (by decide +kernel) rfl) pa_nil)))))) (dw_and1 (dt_cmp (op_neD hr.units) os_ne (de_callIoG hg (ok_law_heard D) (hr.mono (by decide)) (by rfl) D.g_law_heard D.F_law_heard.kp D.b_law_heard tk (pv 6) (da_cons (de_var (pv 11)) da_nil)) (de_str).peek (nomark _))))) (dss_one (ds_ret de_bl)) dss_nil))))))))
    (dss_one (ds_for hp rfl (di_seq rfl (de_var (pv 1))) (dg_name (pg_name (i := 9) nd rfl (by first | exact Or.inl rfl | exact Or.inr rfl))) (dss_one (ds_if (dt_cmp (op_neD hr.units) os_ne (de_callIoG hg (ok_law_heard D) (hr.mono (by decide)) (by rfl) D.g_law_heard D.F_law_heard.kp D.b_law_heard tk (pv 6) (da_cons (de_var (pv 9)) da_nil)) (de_str).peek (nomark _)) (dss_one (ds_ret de_bl)) dss_nil)))))))))
    (dss_one (ds_ret (de_cmp (op_eqD hr.units) os_eq (de_callTmpG hg (ok_law_heard D) (hr.mono (by decide)) (by rfl) D.g_law_heard D.F_law_heard.kp D.b_law_heard tk (dn_make0 D.mk_Desk (ok_Desk_init D) (hr.mono (by decide)) (by rfl) D.gC_Desk D.b_Desk_init rfl tk) ((dn_make0 D.mk_Desk (ok_Desk_init D) (hr.mono (by decide)) (by rfl) D.gC_Desk D.b_Desk_init rfl tk)).keep) (de_str).peek (nomark _)))))))))))))))
theorem ok_law (D : Dfs w K mg) : FnG P w K mg base (L2.CX P w) 19 D.f_law D.fd_law ["_law_script"] (spM ⟨K, D.cl⟩ 1 false false m_law) :=
  fun_okG (cl := D.cl) (n := 1) (fm := m_law) D.F_law sc_law (by decide) (by rfl) (by unfold m_law; rfl) (bd_law D)
end
end Dl
namespace Dl
open PySem PySem.Spec PyProof.Rows L2
/-! ### steps of a mirror -/
abbrev vl (d : Dt) : Option Sl := some (.val d)
abbrev ow (d : Dt) : Option Sl := some (.own false d)
abbrev io (d : Dt) : Option Sl := some (.own true d)
abbrev nD (n : Nat) : Dt := .int (n : Int)
section
variable {α β : Type} {ρ ρ' ρ1 ρ2 ρ3 : En} {s t : En → So} {o : So} {m ma mb : Mi Dt} {ms : Mi (List Dt)} {d d1 d2 x y z : Dt} {ds es : List Dt} {i j n k : Nat} {f : List Dt → Fo} {c c' : Mi Bool} {b : Bool} {Q : So → Prop}
theorem seq_nx (h : s ρ = .nx ρ') (k : t ρ' = o) : sSeq s t ρ = o := by unfold sSeq; rw [h]; exact k
theorem set_ok (h : m ρ = .ok d ρ1) (k : setSl i (.val d) ρ1 = some ρ2) : sSet i m ρ = .nx ρ2 := by unfold sSet sBind; rw [h]; dsimp only; unfold sPut; rw [k]
theorem setN_ok (h : m ρ = .ok d ρ1) (k : setSl i (.own false d) ρ1 = some ρ2) : sSetN i m ρ = .nx ρ2 := by unfold sSetN sBind; rw [h]; dsimp only; unfold sPut; rw [k]
theorem ret_ok (h : m ρ = .ok d ρ1) : sRet m ρ = .rt d ρ1 := by unfold sRet sBind; rw [h]
theorem drop_ok (h : m ρ = .ok d ρ1) : sDrop m ρ = .nx ρ1 := by unfold sDrop sBind; rw [h]
theorem if_f (h : c ρ = .ok false ρ1) (k : t ρ1 = o) : sIf c s t ρ = o := by unfold sIf sBind; rw [h]; exact k
theorem asg_ok {g : Dt → En → Option En} (h : m ρ = .ok d ρ1) (k : g d ρ1 = some ρ2) : sAsg m g ρ = .nx ρ2 := by unfold sAsg sBind; rw [h]; dsimp only; rw [k]
theorem pars_ok {is : List Nat} {ks : List Bool} (h : ms ρ = .ok ds ρ1) (k : putSls is ks ds ρ1 = some ρ2) : sPars is ks ms ρ = .nx ρ2 := by unfold sPars sBind; rw [h]; dsimp only; rw [k]
theorem for_ok {mi : Mi (List Dt)} {g : Dt → En → Option En} {bd : En → So} (h : mi ρ = .ok ds ρ1) (k : forGo g bd ds ρ1 = o) : sFor mi g bd ρ = o := by unfold sFor sBind; rw [h]; exact k
theorem bind_ok {a : α} {mm : Mi α} {k : α → Mi β} {r : Ou β} (h : mm ρ = .ok a ρ1) (q : k a ρ1 = r) : mBind mm k ρ = r := by unfold mBind; rw [h]; exact q
theorem m2_ok {f : Dt → Dt → Option Dt} (ha : ma ρ = .ok x ρ1) (hb : mb ρ1 = .ok y ρ2) (hf : f x y = some z) : m2 f ma mb ρ = .ok z ρ2 := by unfold m2 mBind; rw [ha]; dsimp only; rw [hb]; dsimp only; rw [hf]; rfl
theorem m1_ok {f : Dt → Option Dt} (ha : ma ρ = .ok x ρ1) (hf : f x = some z) : m1 f ma ρ = .ok z ρ1 := by unfold m1 mBind; rw [ha]; dsimp only; rw [hf]; rfl
theorem m1N_ok {f : Dt → Option (List Dt)} (ha : ma ρ = .ok x ρ1) (hf : f x = some es) : m1N f ma ρ = .ok (.lst es) ρ1 := by unfold m1N mBind; rw [ha]; dsimp only; rw [hf]; rfl
theorem cons_ok (h : m ρ = .ok d ρ1) (k : ms ρ1 = .ok ds ρ2) : mCons m ms ρ = .ok (d :: ds) ρ2 := by unfold mCons mBind; rw [h]; dsimp only; rw [k]; rfl
theorem tup_ok (h : ms ρ = .ok ds ρ1) (hl : ds.length ≤ sizeLine) : mTup ms ρ = .ok (.tup ds) ρ1 := by unfold mTup mBind; rw [h]; dsimp only; rw [if_pos hl]; rfl
theorem lst_ok (h : ms ρ = .ok ds ρ1) (hl : ds.length ≤ sizeLine) : mLst ms ρ = .ok (.lst ds) ρ1 := by unfold mLst mBind; rw [h]; dsimp only; rw [if_pos hl]; rfl
theorem tb_ok (h : m ρ = .ok (.bl b) ρ1) : mB m ρ = .ok b ρ1 := by unfold mB mBind; rw [h]; rfl
theorem not_ok (h : c ρ = .ok b ρ1) : mNot c ρ = .ok (!b) ρ1 := by unfold mNot mBind; rw [h]; rfl
theorem and_t (h : c ρ = .ok true ρ1) (k : c' ρ1 = .ok b ρ2) : mAnd c c' ρ = .ok b ρ2 := by unfold mAnd mBind; rw [h]; exact k
theorem and_f (h : c ρ = .ok false ρ1) : mAnd c c' ρ = .ok false ρ1 := by unfold mAnd mBind; rw [h]; rfl
theorem or_t (h : c ρ = .ok true ρ1) : mOr c c' ρ = .ok true ρ1 := by unfold mOr mBind; rw [h]; rfl
theorem or_f (h : c ρ = .ok false ρ1) (k : c' ρ1 = .ok b ρ2) : mOr c c' ρ = .ok b ρ2 := by unfold mOr mBind; rw [h]; exact k
theorem call_ok {r : Dt} (h : ms ρ = .ok ds ρ1) (hn : ds.length = n) (hf : f ds = .ret d r) : mCall n f ms ρ = .ok d ρ1 := by unfold mCall mBind; rw [h]; dsimp only; rw [if_pos hn, hf]
theorem callIo_ok {io0 io : Bool} {d0 d1 r : Dt} (h0 : ρ[i]? = some (some (.own io0 d0))) (h : ms ρ = .ok ds ρ1) (h1 : ρ1[i]? = some (some (.own io d1))) (hn : ds.length + 1 = n) (hf : f (d1 :: ds) = .ret d r) (hr : ρ1.set i (some (.own io r)) = ρ2) : mCallIo n f i ms ρ = .ok d ρ2 := by
  subst hr
  unfold mCallIo mBind
  rw [h0]; dsimp only; rw [h]; dsimp only; rw [h1]; dsimp only; rw [if_pos hn, hf]
theorem make_ok {cc : Nat} {r : Dt} (h : ms ρ = .ok ds ρ1) (hn : ds.length + 1 = n) (hf : f (.ins cc [] :: ds) = .ret .non r) : mMake cc n f ms ρ = .ok r ρ1 := by unfold mMake mBind; rw [h]; dsimp only; rw [if_pos hn, hf]
theorem runF_rt {io0 : Bool} {bd : En → So} {r : Dt} (h : bd (argE io0 ds ++ List.replicate (k - ds.length) none) = .rt d ρ) (ho : ioOut io0 ρ = some r) : runF k io0 false bd ds = .ret d r := by unfold runF; rw [h]; dsimp only; rw [ho]
theorem rng1_ok {N : Int} (h : ms ρ = .ok [.int N] ρ1) (l0 : -(2 ^ 62) ≤ N) (l1 : N < 2 ^ 62) : mRng1 ms ρ = .ok (rngD 0 N.toNat) ρ1 := by
  unfold mRng1 mBind
  rw [h]
  simp only
  rw [if_pos ⟨l0, l1⟩]
  rfl
theorem rngD_map : ∀ (lo : Int) (n : Nat), rngD lo n = (List.range n).map fun (i : Nat) => Dt.int (lo + (i : Int))
  | lo, 0 => rfl
  | lo, n + 1 => by
    rw [List.range_succ_eq_map, List.map_cons, List.map_map]
    show Dt.int lo :: rngD (lo + 1) n = _
    rw [rngD_map (lo + 1) n]
    congr 1
    · simp
    · apply List.map_congr_left
      intro i _
      show Dt.int (lo + 1 + (i : Int)) = Dt.int (lo + ((i + 1 : Nat) : Int))
      congr 1
      omega
theorem rngD0 (n : Nat) : rngD 0 n = (List.range n).map nD := by
  rw [rngD_map]; apply List.map_congr_left; intro i _; simp
theorem rngN_ok {N : Nat} (h : ms ρ = .ok [nD N] ρ1) (l : N < 1000000) : mRng1 ms ρ = .ok ((List.range N).map nD) ρ1 := by
  rw [rng1_ok h (by omega) (by omega)]; rw [show ((N : Int)).toNat = N by omega, rngD0]
end
/-! ### loops -/
section
variable {α σ : Type} {g : Dt → En → Option En} {bd : En → So}
/-- a loop that runs through, by what holds between two turns -/
theorem forGo_inv (f : α → Dt) (I : List α → En → Prop) : ∀ (xs pre : List α) (ρ : En), I pre ρ → (∀ (p : List α) (x : α) (q : List α) (ρ : En), pre ++ xs = p ++ x :: q → I p ρ → ∃ ρ1, g (f x) ρ = some ρ1 ∧ ∃ ρ2, (bd ρ1 = .nx ρ2 ∨ bd ρ1 = .ct ρ2) ∧ I (p ++ [x]) ρ2) →
    ∃ ρ', forGo g bd (xs.map f) ρ = .nx ρ' ∧ I (pre ++ xs) ρ'
  | [], pre, ρ, h0, _ => ⟨ρ, rfl, by rw [List.append_nil]; exact h0⟩
  | x :: xs, pre, ρ, h0, h => by
    obtain ⟨ρ1, h1, ρ2, h2, h3⟩ := h pre x xs ρ rfl h0
    obtain ⟨ρ', h4, h5⟩ := forGo_inv f I xs (pre ++ [x]) ρ2 h3 fun p y q r e => h p y q r (by rw [← e, List.append_assoc]; rfl)
    refine ⟨ρ', ?_, by rw [List.append_assoc] at h5; exact h5⟩
    show forGo g bd (f x :: xs.map f) ρ = _
    unfold forGo
    rw [h1]; dsimp only
    rcases h2 with h2 | h2 <;> rw [h2] <;> exact h4
/-- the same where what holds does not hang on the turn -/
theorem forGo_all (f : α → Dt) (I : En → Prop) (xs : List α) (ρ : En) (h0 : I ρ) (h : ∀ x ∈ xs, ∀ ρ, I ρ → ∃ ρ1, g (f x) ρ = some ρ1 ∧ ∃ ρ2, (bd ρ1 = .nx ρ2 ∨ bd ρ1 = .ct ρ2) ∧ I ρ2) :
    ∃ ρ', forGo g bd (xs.map f) ρ = .nx ρ' ∧ I ρ' :=
  forGo_inv f (fun _ => I) xs [] ρ h0 fun p x q r e k => h x (by rw [List.nil_append] at e; rw [e]; simp) r k
end
/-! ### comprehensions -/
/-! ### small facts -/
theorem sl_le {n : Nat} (h : n ≤ 1000000) : n ≤ sizeLine := Nat.le_trans h (by decide)
theorem atI_nat {α : Type} (l : List α) (i : Nat) : atI l (i : Int) = l[i]? := by
  by_cases h : i < l.length
  · simp [atI, ixN, h]
  · simp [atI, ixN, h]
/-- a slot that a loop's variable left -/
def lv : Option Dt → Option Sl
  | none => none
  | some d => some (.val d)
theorem feq_int (a b : Int) : fEq (.int a) (.int b) = some (.bl (decide (a = b))) := by
  by_cases h : a = b
  · subst h; simp [fEq, dEq, toPy, SeqAt.shaped, PyData.canLay0, PyData.depth, PyData.eqv]
  · simp [fEq, dEq, toPy, SeqAt.shaped, PyData.canLay0, PyData.depth, PyData.eqv, h]
theorem fne_int (a b : Int) : fNe (.int a) (.int b) = some (.bl (!decide (a = b))) := by
  have h := feq_int a b
  unfold fEq at h
  unfold fNe
  cases q : dEq (.int a) (.int b) with
  | none => rw [q] at h; cases h
  | some v => rw [q] at h; simp at h; rw [h]; rfl
end Dl
namespace Dl
open PySem PySem.Spec PyProof.Rows L2
/-! ### draws (the first sort of law) -/
theorem atI0 {α : Type} (x : α) (l : List α) : atI (x :: l) 0 = some x := by
  simp [atI, ixN]
theorem atI_nn {α : Type} (l : List α) {i : Int} (h0 : 0 ≤ i) (h1 : i < l.length) : atI l i = l[i.toNat]? := by
  simp [atI, ixN, h0, h1]
theorem atI1 {α : Type} (x y : α) (l : List α) : atI (x :: y :: l) 1 = some y := by
  rw [atI_nn _ (by decide) (by simp; omega)]; rfl
theorem atI2 {α : Type} (x y z : α) (l : List α) : atI (x :: y :: z :: l) 2 = some z := by
  rw [atI_nn _ (by decide) (by simp; omega)]; rfl
/-- a box of draws -/
def bxD (b : Int × Int × Int) : Dt := .lst [.int b.1, .int b.2.1, .int b.2.2]
theorem take_pos {c s t b : Int} (hc : 0 < c) (hb : 0 < b) (hb2 : b < 1267650600228229401496703205376) :
    m_law_take [bxD (c, s, t), .int b] = .ret (.int (c % b)) (bxD (c / b, s, t)) := by
  simp [bxD, m_law_take, runF, b_law_take, sSeq, sIf, sBind, mB, m2, m1, mBind, mOpt, mPure, hasSl, mIxV, mPeek, mVar, fI, fIx, fGt, argE, atI0, hc, sSet, sPut, setSl, fMod, hb, fInt, fDiv, CDivX, hb2, sLput, putL, mMut, sRet, ioOut, ixN]
def tRaw (s t : Int) : Int := ((s + 104729 * (t + 1)) * 69623) % 2147483647
def tSeed (s t : Int) : Int := (tRaw s t * 48271 + 30103) % 2147483629 + 1
theorem take_zero {c s t b : Int} (hc : ¬ 0 < c) (hb : 0 < b) (hb2 : b < 1099511627776) :
    m_law_take [bxD (c, s, t), .int b] = .ret (.int ((tRaw s t * 2147483647 + tSeed s t) / 8191 % b)) (bxD (c, tSeed s t, t + 1)) := by
  simp [bxD, m_law_take, runF, b_law_take, sSeq, sIf, sBind, mB, m2, m1, mBind, mOpt, mPure, hasSl, mIxV, mPeek, mVar, fI, fIx, fGt, argE, atI0, atI1, atI2, hc, sSet, sPut, setSl, fMod, hb, fInt, fDiv, CDivX, hb2, sLput, putL, mMut, sRet, ioOut, ixN, fMulI, CMul, fAdd, fPow, CPow, fLt, tRaw, tSeed]
theorem take_wide {c s t b : Int} (hc : ¬ 0 < c) (hb : 0 < b) (hb2 : ¬ b < 1099511627776) :
    m_law_take [bxD (c, s, t), .int b] = .ret (.int (((tRaw s t * 2147483647 + tSeed s t) * 2147483629 ^ 3 + tSeed s t ^ 3 * 8191 + tRaw s t) % b)) (bxD (c, tSeed s t, t + 1)) := by
  have r0 : 0 ≤ tRaw s t := Int.emod_nonneg _ (by decide)
  have r1 : tRaw s t < 2147483647 := Int.emod_lt_of_pos _ (by decide)
  have s0 : 0 ≤ tSeed s t := by
    have := Int.emod_nonneg (tRaw s t * 48271 + 30103) (show (2147483629 : Int) ≠ 0 by decide)
    unfold tSeed; omega
  have s1 : tSeed s t ≤ 2147483629 := by
    have := Int.emod_lt_of_pos (tRaw s t * 48271 + 30103) (show (0 : Int) < 2147483629 by decide)
    unfold tSeed; omega
  have q1 : (tSeed s t).natAbs < 18446744073709551616 := by omega
  have q2 : -18446744073709551616 < tRaw s t * 2147483647 + tSeed s t := by omega
  have q3 : tRaw s t * 2147483647 + tSeed s t < 18446744073709551616 := by omega
  have eR : (s + 104729 * (t + 1)) * 69623 % 2147483647 = tRaw s t := rfl
  have eS : (tRaw s t * 48271 + 30103) % 2147483629 + 1 = tSeed s t := rfl
  generalize hR : tRaw s t = R at *
  generalize hS : tSeed s t = S at *
  simp [bxD, m_law_take, runF, b_law_take, sSeq, sIf, sBind, mB, m2, m1, mBind, mOpt, mPure, hasSl, mIxV, mPeek, mVar, fI, fIx, fGt, argE, atI0, atI1, atI2, hc, sSet, sPut, setSl, fMod, hb, fInt, fDiv, CDivX, hb2, sLput, putL, mMut, sRet, ioOut, ixN, fMulI, CMul, fAdd, fPow, CPow, fLt, eR, eS, q1, q2, q3]
theorem take_any (q : Int × Int × Int) (b : Int) (hb : 0 < b) (hb2 : b < 1267650600228229401496703205376) : ∃ d q', 0 ≤ d ∧ d < b ∧ m_law_take [bxD q, .int b] = .ret (.int d) (bxD q') := by
  obtain ⟨c, s, t⟩ := q
  by_cases hc : 0 < c
  · exact ⟨_, _, Int.emod_nonneg _ (by omega), Int.emod_lt_of_pos _ hb, take_pos hc hb hb2⟩
  · by_cases h : b < 1099511627776
    · exact ⟨_, _, Int.emod_nonneg _ (by omega), Int.emod_lt_of_pos _ hb, take_zero hc hb h⟩
    · exact ⟨_, _, Int.emod_nonneg _ (by omega), Int.emod_lt_of_pos _ hb, take_wide hc hb h⟩
/-- a natural number is drawn -/
theorem take_nat (q : Int × Int × Int) (b : Nat) (hb : 0 < b) (hb2 : b < 1267650600228229401496703205376) : ∃ (d : Nat) (q' : Int × Int × Int), d < b ∧ m_law_take [bxD q, nD b] = .ret (nD d) (bxD q') := by
  obtain ⟨d, q', h1, h2, h3⟩ := take_any q b (by omega) (by omega)
  obtain ⟨n, rfl⟩ : ∃ n : Nat, d = n := ⟨d.toNat, by omega⟩
  exact ⟨n, q', by omega, h3⟩
theorem sl2 : 2 ≤ sizeLine := by decide
theorem sl3 : 3 ≤ sizeLine := by decide
theorem box_any (ns : List Int) (k o : Int) (hk : 0 ≤ k) : ∃ q, m_law_box [.scr ns, .int k, .int o] = .ret (bxD q) .non := by
  have go : (∃ c s, m_law_box [.scr ns, .int k, .int o] = .ret (.lst [.int c, .int s, .int 0]) .non) → ∃ q, m_law_box [.scr ns, .int k, .int o] = .ret (bxD q) .non := fun ⟨c, s, h⟩ => ⟨(c, s, 0), h⟩
  refine go ?_
  by_cases h1 : k < ns.length
  · have hk2 : k.toNat < ns.length := by omega
    by_cases h3 : 1000000000000000000 ≤ (if ns[k.toNat] < 0 then -ns[k.toNat] else ns[k.toNat])
    · simp [m_law_box, runF, b_law_box, sSeq, sIf, sBind, mB, m2, m1, mBind, mOpt, mPure, hasSl, mIxV, mPeek, mVar, fI, fIx, fGt, fGe, argE, sSet, sPut, setSl, fMod, fInt, sRetN, ioOut, fMulI, CMul, fAdd, fPow, CPow, fLt, fLen, mLst, mCons, fAbs, atI0, atI1, sl2, sl3, atI_nn _ hk h1, h1, hk2, h3]
    · simp [m_law_box, runF, b_law_box, sSeq, sIf, sBind, mB, m2, m1, mBind, mOpt, mPure, hasSl, mIxV, mPeek, mVar, fI, fIx, fGt, fGe, argE, sSet, sPut, setSl, fMod, fInt, sRetN, ioOut, fMulI, CMul, fAdd, fPow, CPow, fLt, fLen, mLst, mCons, fAbs, atI0, atI1, sl2, sl3, atI_nn _ hk h1, h1, hk2, h3]
  · by_cases h2 : 0 < ns.length
    · have q1 : 0 ≤ k % (ns.length : Int) := Int.emod_nonneg _ (by omega)
      have q2 : k % (ns.length : Int) < ns.length := Int.emod_lt_of_pos _ (by omega)
      have hk2 : (k % (ns.length : Int)).toNat < ns.length := by omega
      by_cases h3 : 1000000000000000000 ≤ 7727 * k + 104729 * o + 43 + (if ns[(k % (ns.length : Int)).toNat] < 0 then -ns[(k % (ns.length : Int)).toNat] else ns[(k % (ns.length : Int)).toNat]) % 2147483629 * 69623
      · simp [m_law_box, runF, b_law_box, sSeq, sIf, sBind, mB, m2, m1, mBind, mOpt, mPure, hasSl, mIxV, mPeek, mVar, fI, fIx, fGt, fGe, argE, sSet, sPut, setSl, fMod, fInt, sRetN, ioOut, fMulI, CMul, fAdd, fPow, CPow, fLt, fLen, mLst, mCons, fAbs, atI0, atI1, sl2, sl3, h1, h2, atI_nn _ q1 q2, List.getElem?_eq_getElem hk2, h3]
      · simp [m_law_box, runF, b_law_box, sSeq, sIf, sBind, mB, m2, m1, mBind, mOpt, mPure, hasSl, mIxV, mPeek, mVar, fI, fIx, fGt, fGe, argE, sSet, sPut, setSl, fMod, fInt, sRetN, ioOut, fMulI, CMul, fAdd, fPow, CPow, fLt, fLen, mLst, mCons, fAbs, atI0, atI1, sl2, sl3, h1, h2, atI_nn _ q1 q2, List.getElem?_eq_getElem hk2, h3]
    · by_cases h3 : 1000000000000000000 ≤ 7727 * k + 104729 * o + 43
      · simp [m_law_box, runF, b_law_box, sSeq, sIf, sBind, mB, m2, m1, mBind, mOpt, mPure, hasSl, mIxV, mPeek, mVar, fI, fIx, fGt, fGe, argE, sSet, sPut, setSl, fMod, fInt, sRetN, ioOut, fMulI, CMul, fAdd, fPow, CPow, fLt, fLen, mLst, mCons, fAbs, atI0, atI1, sl2, sl3, h1, h2, h3]
      · simp [m_law_box, runF, b_law_box, sSeq, sIf, sBind, mB, m2, m1, mBind, mOpt, mPure, hasSl, mIxV, mPeek, mVar, fI, fIx, fGt, fGe, argE, sSet, sPut, setSl, fMod, fInt, sRetN, ioOut, fMulI, CMul, fAdd, fPow, CPow, fLt, fLen, mLst, mCons, fAbs, atI0, atI1, sl2, sl3, h1, h2, h3]
theorem pick_any (q : Int × Int × Int) (xs : List Dt) (h0 : 0 < xs.length) (h1 : xs.length < 1000000) : ∃ x q', x ∈ xs ∧ m_law_pick [bxD q, .lst xs] = .ret x (bxD q') := by
  obtain ⟨d, q', h2, h4⟩ := take_nat q xs.length h0 (by omega)
  refine ⟨xs[d], q', List.getElem_mem h2, ?_⟩
  refine runF_rt (ρ := [io (bxD q'), vl (.lst xs)]) (ret_ok ?_) rfl
  show hasSl 1 (mIxV 1 (mCallIo 2 m_law_take 0 (mCons (m1 fLen (mPeek 1)) (mPure [])))) [io (bxD q), vl (.lst xs)] = _
  show mIxV 1 (mCallIo 2 m_law_take 0 (mCons (m1 fLen (mPeek 1)) (mPure []))) [io (bxD q), vl (.lst xs)] = _
  refine bind_ok (callIo_ok (d0 := bxD q) (io0 := true) (io := true) (d1 := bxD q) rfl (cons_ok (m1_ok rfl rfl) rfl) rfl rfl h4 rfl) ?_
  refine bind_ok (a := .lst xs) (ρ1 := [io (bxD q'), vl (.lst xs)]) rfl ?_
  show mOpt (fIx (.lst xs) (.int (d : Int))) _ = _
  rw [show fIx (.lst xs) (.int (d : Int)) = atI xs (d : Int) from rfl, atI_nat, List.getElem?_eq_getElem h2]
  rfl
/-! ### a list in another order -/
end Dl
namespace Dl
open PySem PySem.Spec PyProof.Rows L2
/-! ### lists of numbers -/
/-! ### rows -/
def rowD (r : List Nat × List Nat) : Dt := .tup [.tup (r.1.map nD), .tup (r.2.map nD)]
def trowD (r : List Nat × List Nat) : Dt := .tup [.lst (r.1.map nD), .lst (r.2.map nD)]
def toldD (p : Nat) (rs : List (List Nat × List Nat)) : Dt := .tup [nD p, .lst (rs.map trowD)]
structure GoodRow (p : Nat) (r : List Nat × List Nat) : Prop where
  nd : r.1.Nodup
  lt : ∀ x ∈ r.1, x < p
  pm : r.2.Perm (List.range p)
theorem nodup_le : ∀ (p : Nat) (l : List Nat), l.Nodup → (∀ x ∈ l, x < p) → l.length ≤ p
  | 0, [], _, _ => Nat.le_refl _
  | 0, x :: l, _, h => absurd (h x (by simp)) (by omega)
  | p + 1, l, nd, h => by
    by_cases hp : p ∈ l
    · have h1 := nodup_le p (l.erase p) (nd.erase p) fun x hx => by
        have h2 : x ∈ l := List.mem_of_mem_erase hx
        have h3 : x ≠ p := fun z => by rw [z] at hx; exact (List.Nodup.not_mem_erase nd) hx
        have := h x h2
        omega
      rw [List.length_erase_of_mem hp] at h1
      omega
    · have h1 := nodup_le p l nd fun x hx => by
        have := h x hx
        have h3 : x ≠ p := fun z => hp (z ▸ hx)
        omega
      omega
theorem GoodRow.le {p : Nat} {r : List Nat × List Nat} (h : GoodRow p r) : r.1.length ≤ p := nodup_le p r.1 h.nd h.lt
theorem GoodRow.len {p : Nat} {r : List Nat × List Nat} (h : GoodRow p r) : r.2.length = p := by rw [h.pm.length_eq, List.length_range]
/-! ### a drawn rota -/
end Dl
namespace Dl
open PySem PySem.Spec PyProof.Rows L2
/-! ### the small tests -/
/-! ### texts -/
def nS (n : Nat) : Str := (toString (n : Int) : String)
def wordsS (l : List Nat) : Str := Txt.join (" " : Str) (l.map nS)
def spotS (l : List Nat) : Str := if 0 < l.length then wordsS l else ("none" : Str)
def lineS (acc : Str) (r : List Nat × List Nat) : Str := ((((Str.empty ++ acc) ++ ("\nturn " : Str)) ++ spotS r.1) ++ (" move " : Str)) ++ wordsS r.2
def txtS (p : Nat) (rs : List (List Nat × List Nat)) : Str := rs.foldl lineS ((Str.empty ++ ("places " : Str)) ++ nS p)
end Dl
namespace Dl
open PySem PySem.Spec PyProof.Rows L2
/-! ### a rota is made -/
def rotaD (p : Nat) (rs : List (List Nat × List Nat)) : Dt := .ins 0 [nD p, .tup (rs.map rowD), .str (txtS p rs)]
end Dl
namespace Dl
open PySem PySem.Spec PyProof.Rows L2
/-! ### the ways of wheels, as mathematics -/
abbrev Rw := List Nat × List Nat
def mvR (r : Rw) (s : Nat) : Nat := r.2.getD s 0
def rowAt (rs : List Rw) (d : Nat) : Rw := rs.getD (d % rs.length) ([], [])
def pos (rs : List Rw) (w : Nat) : Nat → Nat
  | 0 => w
  | d + 1 => mvR (rowAt rs d) (pos rs w d)
structure Good (p : Nat) (rs : List Rw) : Prop where
  n0 : 0 < rs.length
  row : ∀ r ∈ rs, GoodRow p r
variable {p : Nat} {rs : List Rw}
theorem Good.at (h : Good p rs) (d : Nat) : GoodRow p (rowAt rs d) := by
  unfold rowAt
  have hd : d % rs.length < rs.length := Nat.mod_lt _ h.n0
  rw [List.getD_eq_getElem?_getD, List.getElem?_eq_getElem hd]
  exact h.row _ (List.getElem_mem hd)
theorem mvR_lt {r : Rw} (h : GoodRow p r) {s : Nat} (hs : s < p) : mvR r s < p ∧ r.2[s]? = some (mvR r s) := by
  have hl : s < r.2.length := by rw [h.len]; exact hs
  unfold mvR
  rw [List.getD_eq_getElem?_getD, List.getElem?_eq_getElem hl]
  exact ⟨List.mem_range.mp (h.pm.mem_iff.mp (List.getElem_mem hl)), rfl⟩
theorem mvR_inj {r : Rw} (h : GoodRow p r) {a b : Nat} (ha : a < p) (hb : b < p) (e : mvR r a = mvR r b) : a = b := by
  have h1 := (mvR_lt h ha).2
  have h2 := (mvR_lt h hb).2
  have nd : r.2.Nodup := h.pm.nodup_iff.mpr List.nodup_range
  have la : a < r.2.length := by rw [h.len]; exact ha
  have lb : b < r.2.length := by rw [h.len]; exact hb
  rw [List.getElem?_eq_getElem la] at h1
  rw [List.getElem?_eq_getElem lb] at h2
  have e3 : r.2[a] = r.2[b] := by rw [Option.some.inj h1, Option.some.inj h2]; exact e
  exact (List.getElem_inj nd).mp e3
theorem pos_lt (h : Good p rs) {w : Nat} (hw : w < p) : ∀ d, pos rs w d < p
  | 0 => hw
  | d + 1 => (mvR_lt (h.at d) (pos_lt h hw d)).1
theorem pos_inj (h : Good p rs) {a b : Nat} (ha : a < p) (hb : b < p) : ∀ d, pos rs a d = pos rs b d → a = b
  | 0, e => e
  | d + 1, e => pos_inj h ha hb d (mvR_inj (h.at d) (pos_lt h ha d) (pos_lt h hb d) e)
theorem pos_shift (w k : Nat) : ∀ d, pos rs (pos rs w (rs.length * k)) d = pos rs w (rs.length * k + d)
  | 0 => rfl
  | d + 1 => by
    show mvR (rowAt rs d) (pos rs (pos rs w (rs.length * k)) d) = mvR (rowAt rs (rs.length * k + d)) (pos rs w (rs.length * k + d))
    rw [pos_shift w k d]
    unfold rowAt
    rw [Nat.mul_add_mod]
theorem pigeon (f : Nat → Nat) (p : Nat) (h : ∀ i, i ≤ p → f i < p) : ∃ i j, i < j ∧ j ≤ p ∧ f i = f j := by
  apply Classical.byContradiction
  intro hn
  have hd : ∀ i j, i < j → j ≤ p → f i ≠ f j := fun i j h1 h2 e => hn ⟨i, j, h1, h2, e⟩
  have nd : ((List.range (p + 1)).map f).Nodup := by
    rw [List.nodup_iff_pairwise_ne, List.pairwise_map]
    refine List.Pairwise.imp_of_mem (fun {a b} ha hb hab => ?_) (List.pairwise_lt_range (n := p + 1))
    have := List.mem_range.mp hb
    exact hd a b hab (by omega)
  have := nodup_le p _ nd fun x hx => by
    obtain ⟨i, hi, rfl⟩ := List.mem_map.mp hx
    have := List.mem_range.mp hi
    exact h i (by omega)
  rw [List.length_map, List.length_range] at this
  omega
theorem back (h : Good p rs) {w : Nat} (hw : w < p) : ∃ j, j < p ∧ pos rs w (rs.length * (j + 1)) = w := by
  obtain ⟨i, j, h1, h2, e⟩ := pigeon (fun k => pos rs w (rs.length * k)) p fun k _ => pos_lt h hw _
  have e2 : pos rs (pos rs w (rs.length * (j - i))) (rs.length * i) = pos rs w (rs.length * i) := by
    rw [pos_shift, ← Nat.mul_add, show j - i + i = j by omega]; exact e.symm
  have e3 := pos_inj h (pos_lt h hw _) hw _ e2
  exact ⟨j - i - 1, by omega, by rw [show j - i - 1 + 1 = j - i by omega]; exact e3⟩
/-! ### due days -/
def isDue (rs : List Rw) (w d : Nat) : Bool := decide (pos rs w d ∈ (rowAt rs d).1)
end Dl
namespace Dl
open PySem PySem.Spec PyProof.Rows L2
variable {p : Nat} {rs : List Rw}
theorem find_one {p : Nat} {f : Nat → Nat} (hf : ∀ a b, a < p → b < p → f a = f b → a = b) {w : Nat} (hw : w < p) : (List.range p).filter (fun v => decide (f v = f w)) = [w] := by
  have h1 : ∀ n, n ≤ p → (List.range n).filter (fun v => decide (f v = f w)) = if w < n then [w] else [] := fun n => by
    induction n with
    | zero => intro _; rfl
    | succ n ih =>
      intro hn
      rw [List.range_succ, List.filter_append, ih (by omega)]
      by_cases e : n = w
      · subst e
        rw [if_neg (by omega), if_pos (by omega)]
        simp
      · have ne : f n ≠ f w := fun z => e (hf n w (by omega) hw z)
        rw [List.filter_cons_of_neg (by simpa using ne)]
        by_cases hlt : w < n
        · rw [if_pos hlt, if_pos (by omega)]; rfl
        · rw [if_neg hlt, if_neg (by omega)]; rfl
  rw [h1 p (Nat.le_refl _), if_pos hw]
end Dl
namespace Dl
open PySem PySem.Spec PyProof.Rows L2
/-! ### data that are compared -/
inductive Flt : Nat → Dt → Prop
  | non {k : Nat} : Flt k .non
  | bl {k : Nat} (b : Bool) : Flt k (.bl b)
  | int {k : Nat} (i : Int) : Flt k (.int i)
  | str {k : Nat} {x : Str} (h : PyData.canLay0 (.str x) = true) : Flt k (.str x)
  | lst {k : Nat} {xs : List Dt} (h : ∀ x ∈ xs, Flt k x) : Flt (k + 1) (.lst xs)
  | tup {k : Nat} {xs : List Dt} (h : ∀ x ∈ xs, Flt k x) : Flt (k + 1) (.tup xs)
structure PyOk (k : Nat) (d : Dt) (p : PyData) : Prop where
  e : toPy d = some p
  lay : p.canLay0 = true
  dep : p.depth ≤ k
  refl : PyData.eqv p p = true
theorem pys_of {k : Nat} : ∀ {xs : List Dt}, (∀ x ∈ xs, ∃ p, PyOk k x p) → ∃ ps, toPys xs = some ps ∧ PyData.canLayAll0 ps = true ∧ PyData.depthAll ps ≤ k ∧ PyData.eqvAll ps ps = true
  | [], _ => ⟨[], rfl, by simp [PyData.canLayAll0], by simp [PyData.depthAll], by simp [PyData.eqvAll]⟩
  | x :: xs, h => by
    obtain ⟨p, h1⟩ := h x (by simp)
    obtain ⟨ps, h2, h3, h4, h5⟩ := pys_of (xs := xs) fun y hy => h y (by simp [hy])
    refine ⟨p :: ps, ?_, ?_, ?_, ?_⟩
    · unfold toPys; rw [h1.e, h2]
    · simp [PyData.canLayAll0, h1.lay, h3]
    · simp only [PyData.depthAll]; have := h1.dep; omega
    · simp [PyData.eqvAll, h1.refl, h5]
theorem Flt.py {k : Nat} {d : Dt} (h : Flt k d) : ∃ p, PyOk k d p := by
  induction h with
  | non => exact ⟨.none, rfl, by simp [PyData.canLay0], by simp [PyData.depth], by simp [PyData.eqv]⟩
  | bl b => exact ⟨.bool b, rfl, by simp [PyData.canLay0], by simp [PyData.depth], by simp [PyData.eqv]⟩
  | int i => exact ⟨.int i, rfl, by simp [PyData.canLay0], by simp [PyData.depth], by simp [PyData.eqv]⟩
  | @str k x h => exact ⟨.str x, rfl, h, by simp [PyData.depth], by simp [PyData.eqv]⟩
  | @lst k xs h ih =>
    obtain ⟨ps, h1, h2, h3, h4⟩ := pys_of ih
    exact ⟨.list ps, by unfold toPy; rw [h1]; rfl, by simpa [PyData.canLay0] using h2, by simp only [PyData.depth]; omega, by simpa [PyData.eqv] using h4⟩
  | @tup k xs h ih =>
    obtain ⟨ps, h1, h2, h3, h4⟩ := pys_of ih
    exact ⟨.tuple ps, by unfold toPy; rw [h1]; rfl, by simpa [PyData.canLay0] using h2, by simp only [PyData.depth]; omega, by simpa [PyData.eqv] using h4⟩
theorem PyOk.shaped {k : Nat} {d : Dt} {p : PyData} (h : PyOk k d p) (hk : k ≤ 60) : SeqAt.shaped p = true := by
  unfold SeqAt.shaped
  rw [h.lay, decide_eq_true (by have := h.dep; omega)]; rfl
theorem dEq_self {k : Nat} {d : Dt} (h : Flt k d) (hk : k ≤ 60) : dEq d d = some true := by
  obtain ⟨p, hp⟩ := h.py
  unfold dEq
  rw [hp.e]; dsimp only
  rw [hp.shaped hk, Bool.and_self, if_pos rfl, hp.refl]
theorem feq_self {k : Nat} {d : Dt} (h : Flt k d) (hk : k ≤ 60) : fEq d d = some (.bl true) := by unfold fEq; rw [dEq_self h hk]; rfl
theorem fne_self {k : Nat} {d : Dt} (h : Flt k d) (hk : k ≤ 60) : fNe d d = some (.bl false) := by unfold fNe; rw [dEq_self h hk]; rfl
theorem flt_nats {k : Nat} (l : List Nat) : ∀ x ∈ l.map nD, Flt k x := fun x hx => by
  obtain ⟨n, _, rfl⟩ := List.mem_map.mp hx
  exact .int _
/-! ### the law's own going -/
variable {p : Nat} {rs : List Rw}
def prD (q : Nat × Nat) : Dt := .tup [nD q.1, nD q.2]
def dueAt (p : Nat) (rs : List Rw) (d : Nat) : List (Nat × Nat) := ((List.range p).filter fun w => isDue rs w d).map fun w => (d, w)
def dueP (p : Nat) (rs : List Rw) (D : Nat) : List (Nat × Nat) := (List.range D).flatMap (dueAt p rs)
theorem dueP_succ (D : Nat) : dueP p rs (D + 1) = dueP p rs D ++ dueAt p rs D := by
  unfold dueP; rw [List.range_succ, List.flatMap_append]; simp
theorem dueAt_len (d : Nat) : (dueAt p rs d).length ≤ p := by
  unfold dueAt
  rw [List.length_map]
  have := List.length_filter_le (fun w => isDue rs w d) (List.range p)
  rwa [List.length_range] at this
theorem dueP_len : ∀ D, (dueP p rs D).length ≤ D * p
  | 0 => by simp [dueP]
  | D + 1 => by
    have h1 := dueP_len D
    have h2 := dueAt_len (p := p) (rs := rs) D
    rw [dueP_succ, List.length_append, Nat.succ_mul]
    omega
end Dl
namespace Dl
open PySem PySem.Spec PyProof.Rows L2
/-! ### the cells of a script -/
/-- a slot with a box, or with none yet -/
def bo : Option (Int × Int × Int) → Option Sl
  | none => none
  | some q => ow (bxD q)
theorem fSub_nat {a b : Nat} (h : b ≤ a) : fSub (nD a) (nD b) = some (nD (a - b)) := by
  show some (Dt.int _) = some (Dt.int _)
  congr 2; omega
theorem ge_nat (a b : Nat) : fGe (nD a) (nD b) = some (.bl (decide (b ≤ a))) := by
  show some (Dt.bl _) = some (Dt.bl _)
  congr 2
  exact decide_eq_decide.mpr (by omega)
end Dl
namespace Dl
open PySem PySem.Spec PyProof.Rows L2
variable {p : Nat} {rs : List Rw}
/-! ### due days, as mathematics -/
/-! ### the mirrors -/
theorem lt64 {n : Nat} (h : n < 1000000000000000000) : (n : Int) < 2 ^ 64 := Int.lt_trans (Int.ofNat_lt.mpr h) (by decide)
theorem ge64 (n : Nat) : -(2 ^ 64) < (n : Int) := Int.lt_of_lt_of_le (by decide) (Int.natCast_nonneg n)
theorem fMul_of {i j k : Int} (hc : CMul i j) (e : i * j = k) : fMulI (.int i) (.int j) = some (.int k) := by
  subst e
  have e1 : fMulI (.int i) (.int j) = if CMul i j then some (.int (i * j)) else none := rfl
  rw [e1, if_pos hc]
theorem fMul_nat (a b : Nat) (hb : b < 1000000000000000000 ∨ a < 1000000000000000000) : fMulI (nD a) (nD b) = some (nD (a * b)) := by
  have hc : CMul (a : Int) (b : Int) := by
    rcases hb with hb | hb
    · exact .inr ⟨ge64 b, lt64 hb⟩
    · exact .inl ⟨ge64 a, lt64 hb⟩
  exact fMul_of hc (Int.natCast_mul a b).symm
theorem fAdd_nat (a b : Nat) : fAdd (nD a) (nD b) = some (nD (a + b)) := rfl
theorem fLt_nat (a b : Nat) : fLt (nD a) (nD b) = some (.bl (decide (a < b))) := by
  show some (Dt.bl _) = some (Dt.bl _)
  congr 2
  exact decide_eq_decide.mpr (by omega)
theorem len_lst {α : Type} (f : α → Dt) (l : List α) : fLen (.lst (l.map f)) = some (nD l.length) := by
  show some (Dt.int ((l.map f).length : Int)) = _
  rw [List.length_map]
theorem len_tup {α : Type} (f : α → Dt) (l : List α) : fLen (.tup (l.map f)) = some (nD l.length) := by
  show some (Dt.int ((l.map f).length : Int)) = _
  rw [List.length_map]
end Dl
namespace Dl
open PySem PySem.Spec PyProof.Rows L2
/-! ### days on a ring, as mathematics -/
/-- the day with a number, round and round -/
def dd (D : List Nat) (R a : Nat) : Nat := a / D.length * R + D.getD (a % D.length) 0
variable {D : List Nat} {R : Nat}
/-! ### the mirrors -/
end Dl
namespace Dl
open PySem PySem.Spec PyProof.Rows L2
/-! ### texts that are compared -/
theorem strOk_of (s : String) : PyData.canLay0 (.str (Str.ofString s)) = true := by
  have key : ∀ c : Char, c.toNat < 1114112 := fun c => by
    have h1 := c.valid
    rcases h1 with h1 | h1
    · have : c.toNat < 55296 := h1
      omega
    · exact h1.2
  rw [Str.ofString_eq_toList]
  simp only [PyData.canLay0, PyData.strOk]
  rw [List.all_toArray, List.all_map, List.all_eq_true]
  intro c _
  exact decide_eq_true (key c)
theorem flt_str {k : Nat} (s : String) : Flt k (.str (Str.ofString s)) := .str (strOk_of s)
/-! ### drawn days of a ring -/
/-! ### the law's own gap -/
variable {D : List Nat} {R : Nat}
end Dl
namespace Dl
open PySem PySem.Spec PyProof.Rows L2
variable {p : Nat} {rs : List Rw}
theorem pick_w (D w : Nat) (hw : w < p) : ((dueP p rs D).filter fun q => decide (q.2 = w)).map (·.1) = (List.range D).filter (isDue rs w) := by
  induction D with
  | zero => simp [dueP]
  | succ D ih =>
    rw [dueP_succ, List.filter_append, List.map_append, ih, List.range_succ, List.filter_append]
    congr 1
    unfold dueAt
    rw [List.filter_map, List.map_map, List.filter_filter]
    have e3 : (List.range p).filter (fun a => ((fun q : Nat × Nat => decide (q.2 = w)) ∘ fun w => (D, w)) a && isDue rs a D) = ((List.range p).filter fun a => decide (a = w)).filter fun _ => isDue rs w D := by
      rw [List.filter_filter]
      apply List.filter_congr
      intro a _
      by_cases ha : a = w
      · subst ha; simp
      · simp [ha]
    have e4 := find_one (f := fun v => v) (p := p) (fun a b _ _ z => z) hw
    rw [e3, e4]
    cases hd : isDue rs w D <;> simp [hd]
end Dl
namespace Dl
open PySem PySem.Spec PyProof.Rows L2
variable {p : Nat} {rs : List Rw}
/-! ### pairs and triples among others -/
theorem pr_flt {k : Nat} (q : Nat × Nat) : Flt (k + 1) (prD q) := .tup fun x hx => by
  simp only [List.mem_cons, List.not_mem_nil, or_false] at hx
  rcases hx with rfl | rfl <;> exact .int _
/-- a look -/
abbrev Lk := Nat × Nat × Nat
def lkD (q : Lk) : Dt := .tup [nD q.1, nD q.2.1, nD q.2.2]
/-! ### dicts with pairs as keys -/
theorem mem_dueP {D : Nat} {q : Nat × Nat} : q ∈ dueP p rs D ↔ q.1 < D ∧ q.2 < p ∧ isDue rs q.2 q.1 = true := by
  unfold dueP dueAt
  rw [List.mem_flatMap]
  constructor
  · rintro ⟨d, hd, h⟩
    obtain ⟨w, hw, rfl⟩ := List.mem_map.mp h
    rw [List.mem_filter, List.mem_range] at hw
    exact ⟨List.mem_range.mp hd, hw.1, hw.2⟩
  · rintro ⟨h1, h2, h3⟩
    exact ⟨q.1, List.mem_range.mpr h1, List.mem_map.mpr ⟨q.2, List.mem_filter.mpr ⟨List.mem_range.mpr h2, h3⟩, rfl⟩⟩
theorem dueP_nodup (D : Nat) : (dueP p rs D).Nodup := by
  unfold dueP
  rw [List.nodup_iff_pairwise_ne, List.pairwise_flatMap]
  refine ⟨fun d _ => ?_, ?_⟩
  · unfold dueAt
    rw [List.pairwise_map]
    exact (List.nodup_iff_pairwise_ne.mp (List.nodup_range.filter _)).imp fun h e => h (by injection e)
  · refine (List.nodup_iff_pairwise_ne.mp List.nodup_range).imp fun h x hx y hy e => h ?_
    unfold dueAt at hx hy
    obtain ⟨a, _, rfl⟩ := List.mem_map.mp hx
    obtain ⟨b, _, e2⟩ := List.mem_map.mp hy
    rw [← e2] at e
    injection e
/-! ### all due turnings -/
end Dl
namespace Dl
open PySem PySem.Spec PyProof.Rows L2
variable {p : Nat} {rs : List Rw}
/-! ### nested comprehensions -/
/-- all looks that can be -/
def allLk (p D : Nat) : List Lk := (List.range (D + 1)).flatMap fun d => (List.range p).flatMap fun w => (List.range 2).flatMap fun s => [(d, w, s)]
theorem mem_allLk {p D : Nat} {q : Lk} : q ∈ allLk p D ↔ q.1 ≤ D ∧ q.2.1 < p ∧ q.2.2 < 2 := by
  obtain ⟨d, w, s⟩ := q
  unfold allLk
  simp only [List.mem_flatMap, List.mem_range, List.mem_cons, List.not_mem_nil, or_false, Prod.mk.injEq]
  constructor
  · rintro ⟨a, ha, b, hb, c, hc, rfl, rfl, rfl⟩
    exact ⟨by omega, hb, hc⟩
  · rintro ⟨h1, h2, h3⟩
    exact ⟨d, by omega, w, h2, s, h3, rfl, rfl, rfl⟩
/-! ### a season is made -/
structure GoodLk (p D : Nat) (q : Lk) : Prop where
  d : q.1 ≤ D
  w : q.2.1 < p
  s : q.2.2 < 2
/-- the looks of a season, ascending -/
def lksOf (p D : Nat) (L : List Lk) : List Lk := (allLk p D).filter fun q => decide (q ∈ L)
def seasonD (p : Nat) (rs : List Rw) (D b : Nat) (L : List Lk) : Dt := .ins 1 [rotaD p rs, nD D, nD b, .tup (L.map lkD), nD p, .tup ((dueP p rs D).map prD)]
end Dl
namespace Dl
open PySem PySem.Spec PyProof.Rows L2
variable {p : Nat} {rs : List Rw} {D b : Nat} {L : List Lk}
/-! ### misses -/
structure Miss (p : Nat) (rs : List Rw) (D : Nat) (M : List (Nat × Nat)) : Prop where
  nd : M.Nodup
  mem : ∀ q ∈ M, q ∈ dueP p rs D
theorem Miss.len {M : List (Nat × Nat)} (h : Miss p rs D M) : M.length ≤ D * p := by
  have h1 : M.length ≤ (dueP p rs D).length := List.Nodup.length_le_of_subset h.nd fun q hq => h.mem q hq
  have h2 := dueP_len (p := p) (rs := rs) D
  omega
/-! ### what was turned -/
/-- the days ahead of one on which a wheel was turned -/
def madeL (rs : List Rw) (D : Nat) (M : List (Nat × Nat)) (w day : Nat) : List Nat := ((List.range D).filter (isDue rs w)).filter fun d => decide (d < day) && !decide ((d, w) ∈ M)
def sideN (rs : List Rw) (D : Nat) (M : List (Nat × Nat)) (day w : Nat) : Nat := (madeL rs D M w day).length % 2
/-! ### looks that break -/
theorem fne_nat (a b : Nat) : fNe (nD a) (nD b) = some (.bl (!decide (a = b))) := by
  rw [fne_int]
  congr 3
  exact decide_eq_decide.mpr (by omega)
theorem fLe_nat (a b : Nat) : fLe (nD a) (nD b) = some (.bl (decide (a ≤ b))) := by
  show some (Dt.bl _) = some (Dt.bl _)
  congr 2
  exact decide_eq_decide.mpr (by omega)
end Dl
namespace Dl
open PySem PySem.Spec PyProof.Rows L2
variable {p : Nat} {rs : List Rw} {D b : Nat} {L : List Lk}
/-! ### a season of the told rota -/
theorem Miss.nil : Miss p rs D [] := ⟨List.nodup_nil, fun q hq => nomatch hq⟩
theorem flt_prs {k : Nat} (M : List (Nat × Nat)) : ∀ x ∈ M.map prD, Flt (k + 1) x := fun x hx => by
  obtain ⟨q, _, rfl⟩ := List.mem_map.mp hx
  exact pr_flt q
end Dl
namespace Dl
open PySem PySem.Spec PyProof.Rows L2
variable {p : Nat} {rs : List Rw} {D : Nat} {M : List (Nat × Nat)}
/-! ### what was turned ahead of a day, by the days themselves -/
/-! ### small steps -/
theorem gt_nat (a b : Nat) : fGt (nD a) (nD b) = some (.bl (decide (b < a))) := by
  show some (Dt.bl _) = some (Dt.bl _)
  congr 2
  exact decide_eq_decide.mpr (by omega)
end Dl
namespace Dl
open PySem PySem.Spec PyProof.Rows L2
variable {p : Nat} {rs : List Rw} {D b : Nat} {M : List (Nat × Nat)} {L K : List Lk}
theorem lks_good (K : List Lk) : ∀ q ∈ lksOf p D K, GoodLk p D q := fun q hq => by
  have := mem_allLk.mp (List.mem_filter.mp hq).1
  exact ⟨this.1, this.2.1, this.2.2⟩
theorem lks_mem {K : List Lk} {q : Lk} (h : q ∈ lksOf p D K) : q ∈ K := of_decide_eq_true (List.mem_filter.mp h).2
theorem mem_lks {K : List Lk} {q : Lk} (h : q ∈ K) (hg : GoodLk p D q) : q ∈ lksOf p D K := List.mem_filter.mpr ⟨mem_allLk.mpr ⟨hg.d, hg.w, hg.s⟩, decide_eq_true h⟩
/-! ### how many looks break -/
theorem filter_eq_one {α : Type} [DecidableEq α] {z : α} : ∀ {l : List α}, l.Nodup → z ∈ l → (l.filter fun x => decide (x = z)).length = 1
  | [], _, h => by cases h
  | x :: l, nd, h => by
    rw [List.nodup_cons] at nd
    by_cases e : x = z
    · subst e
      rw [List.filter_cons_of_pos (by simp), List.length_cons]
      have : l.filter (fun y => decide (y = x)) = [] := by
        rw [List.filter_eq_nil_iff]
        intro y hy
        simp
        intro e2; exact nd.1 (e2 ▸ hy)
      rw [this]; rfl
    · rw [List.filter_cons_of_neg (by simpa using e)]
      exact filter_eq_one nd.2 (by simpa [Ne.symm e] using h)
/-! ### the first miss is made up for -/
theorem meth_ok {c n : Nat} {f : List Dt → Fo} {m : Mi Dt} {ms : Mi (List Dt)} {ρ ρ1 ρ2 : En} {vs ds : List Dt} {d r : Dt} (hm : m ρ = .ok (.ins c vs) ρ1) (h : ms ρ1 = .ok ds ρ2) (hn : ds.length + 1 = n) (hf : f (.ins c vs :: ds) = .ret d r) : mMeth c n f m ms ρ = .ok d ρ2 := by
  unfold mMeth
  refine bind_ok hm ?_
  dsimp only
  rw [if_pos rfl]
  refine bind_ok h ?_
  rw [if_pos (by rw [List.length_cons]; exact hn), hf]
end Dl
namespace Dl
open PySem PySem.Spec PyProof.Rows L2
variable {p : Nat} {rs : List Rw} {D b : Nat} {M : List (Nat × Nat)} {K : List Lk}
/-! ### places by other numbers -/
/-- an order of the places -/
structure Ord (p : Nat) (o : List Nat) : Prop where
  pm : o.Perm (List.range p)
theorem Ord.len {o : List Nat} (h : Ord p o) : o.length = p := by rw [h.pm.length_eq, List.length_range]
theorem Ord.nd {o : List Nat} (h : Ord p o) : o.Nodup := h.pm.nodup_iff.mpr List.nodup_range
def oat (o : List Nat) (w : Nat) : Nat := o.getD w 0
theorem Ord.get {o : List Nat} (h : Ord p o) {w : Nat} (hw : w < p) : o[w]? = some (oat o w) := by
  unfold oat
  rw [List.getD_eq_getElem?_getD, List.getElem?_eq_getElem (by rw [h.len]; exact hw)]; rfl
theorem Ord.lt {o : List Nat} (h : Ord p o) {w : Nat} (hw : w < p) : oat o w < p := List.mem_range.mp (h.pm.mem_iff.mp (List.mem_of_getElem? (h.get hw)))
theorem Ord.inj {o : List Nat} (h : Ord p o) {a b : Nat} (ha : a < p) (hb : b < p) (e : oat o a = oat o b) : a = b := by
  have h1 := h.get ha
  have h2 := h.get hb
  rw [e] at h1
  have la : a < o.length := by rw [h.len]; exact ha
  have lb : b < o.length := by rw [h.len]; exact hb
  rw [List.getElem?_eq_getElem la] at h1
  rw [List.getElem?_eq_getElem lb] at h2
  exact (List.getElem_inj h.nd).mp ((Option.some.inj h1).trans (Option.some.inj h2).symm)
end Dl
namespace Dl
/-! ### lots: all sublists, ascending as tuples -/
section
variable {α : Type}
def lotT : List α → List (List α)
  | [] => []
  | x :: xs => ([] :: lotT xs).map (x :: ·) ++ lotT xs
def lots (xs : List α) : List (List α) := [] :: lotT xs
theorem cnt_cons (p : List α → Bool) (x : α) (xs : List α) : (lots (x :: xs)).countP p = (lots xs).countP (fun L => p (x :: L)) + (lots xs).countP p := by
  unfold lots
  rw [lotT, List.countP_cons, List.countP_append, List.countP_map, List.countP_cons]
  rw [List.countP_cons, List.countP_cons (l := lotT xs) (p := p)]
  simp only [Function.comp_def]
  omega
theorem cnt_nil (p : List α → Bool) : (lots ([] : List α)).countP p = if p [] = true then 1 else 0 := by
  unfold lots lotT; rw [List.countP_cons, List.countP_nil, Nat.zero_add]
theorem mem_lots {L : List α} : ∀ {xs : List α}, L ∈ lots xs ↔ L.Sublist xs
  | [] => by unfold lots lotT; simp
  | x :: xs => by
    have ih := @mem_lots L xs
    have ih2 := fun (M : List α) => @mem_lots M xs
    unfold lots at ih ih2 ⊢
    rw [lotT, List.mem_cons, List.mem_append, List.mem_map]
    constructor
    · rintro (h | ⟨M, h1, h2⟩ | h)
      · subst h; exact List.nil_sublist _
      · subst h2; exact ((ih2 M).mp h1).cons_cons x
      · exact (ih.mp (List.mem_cons_of_mem _ h)).cons x
    · intro h
      cases h with
      | cons _ h =>
        rcases List.mem_cons.mp (ih.mpr h) with e | e
        · exact .inl e
        · exact .inr (.inr e)
      | cons_cons _ h => exact .inr (.inl ⟨_, (ih2 _).mpr h, rfl⟩)
/-- a lot is parted by a test -/
theorem cnt_split (q : α → Bool) : ∀ (xs : List α) (P : List α → List α → Bool),
    (lots xs).countP (fun L => P (L.filter q) (L.filter fun x => !q x)) = ((lots (xs.filter q)).map fun A => (lots (xs.filter fun x => !q x)).countP (P A)).sum
  | [], P => by
    rw [cnt_nil]; simp only [List.filter_nil]
    show _ = ((lots ([] : List α)).map _).sum
    unfold lots lotT
    by_cases h : P [] [] = true
    · simp [List.countP_cons, h]
    · simp [List.countP_cons, h]
  | x :: xs, P => by
    rw [cnt_cons]
    by_cases hx : q x = true
    · have e1 := cnt_split q xs (fun A B => P (x :: A) B)
      have e2 := cnt_split q xs P
      rw [List.filter_cons_of_pos hx, List.filter_cons_of_neg (by simp [hx])]
      simp only [List.filter_cons_of_pos hx, List.filter_cons_of_neg (p := fun x => !q x) (a := x) (by simp [hx])]
      rw [e1, e2]
      have key : ∀ (f : List α → Nat), ((lots (x :: xs.filter q)).map f).sum = ((lots (xs.filter q)).map fun A => f (x :: A)).sum + ((lots (xs.filter q)).map f).sum := by
        intro f
        unfold lots
        rw [lotT]
        simp only [List.map_cons, List.map_append, List.sum_cons, List.sum_append, List.map_map, Function.comp_def]
        omega
      rw [key]
    · have hx' : q x = false := by simpa using hx
      have e1 := cnt_split q xs (fun A B => P A (x :: B))
      have e2 := cnt_split q xs P
      rw [List.filter_cons_of_neg hx, List.filter_cons_of_pos (p := fun x => !q x) (by simp [hx'])]
      simp only [List.filter_cons_of_neg hx, List.filter_cons_of_pos (p := fun x => !q x) (a := x) (by simp [hx'])]
      rw [e1, e2]
      have key : ∀ (l : List (List α)) (f g : List α → Nat), (l.map f).sum + (l.map g).sum = (l.map fun A => f A + g A).sum := by
        intro l f g
        induction l with
        | nil => rfl
        | cons a l ih => simp only [List.map_cons, List.sum_cons]; omega
      rw [key]
      congr 1
      apply List.map_congr_left
      intro A _
      rw [cnt_cons]
end
/-! ### sums by sizes -/
def conv (f g : Nat → Nat) (j : Nat) : Nat := ((List.range (j + 1)).map fun i => f i * g (j - i)).sum
theorem sum_zero {α : Type} {l : List α} {f : α → Nat} (h : ∀ x ∈ l, f x = 0) : (l.map f).sum = 0 := by
  induction l with
  | nil => rfl
  | cons a l ih => rw [List.map_cons, List.sum_cons, h a (by simp), ih fun x hx => h x (List.mem_cons_of_mem _ hx)]
theorem sum_pos {α : Type} {l : List α} {f : α → Nat} {x : α} (hx : x ∈ l) (h : 0 < f x) : 0 < (l.map f).sum := by
  induction l with
  | nil => cases hx
  | cons a l ih =>
    rw [List.map_cons, List.sum_cons]
    rcases List.mem_cons.mp hx with e | e
    · subst e; omega
    · have := ih e; omega
theorem sum_add {α : Type} (l : List α) (f g : α → Nat) : (l.map f).sum + (l.map g).sum = (l.map fun A => f A + g A).sum := by
  induction l with
  | nil => rfl
  | cons a l ih => simp only [List.map_cons, List.sum_cons]; omega
theorem sum_congr {α : Type} {l : List α} {f g : α → Nat} (h : ∀ x ∈ l, f x = g x) : (l.map f).sum = (l.map g).sum := by
  rw [List.map_congr_left h]
/-- a sum over things by their sizes -/
theorem sum_by_size {α : Type} (sz : α → Nat) (ok : α → Bool) (g : Nat → Nat) (j : Nat) : ∀ l : List α,
    (l.map fun A => if ok A = true ∧ sz A ≤ j then g (j - sz A) else 0).sum = conv (fun i => l.countP fun A => ok A && decide (sz A = i)) g j
  | [] => by
    unfold conv
    rw [List.map_nil]
    exact (sum_zero fun i _ => by simp).symm
  | a :: l => by
    rw [List.map_cons, List.sum_cons, sum_by_size sz ok g j l]
    unfold conv
    have e : ((List.range (j + 1)).map fun i => (if (ok a && decide (sz a = i)) = true then 1 else 0) * g (j - i)).sum = if ok a = true ∧ sz a ≤ j then g (j - sz a) else 0 := by
      by_cases ha : ok a = true
      · by_cases hs : sz a ≤ j
        · rw [if_pos ⟨ha, hs⟩]
          have : ∀ n, ((List.range n).map fun i => (if (ok a && decide (sz a = i)) = true then 1 else 0) * g (j - i)).sum = if sz a < n then g (j - sz a) else 0 := by
            intro n
            induction n with
            | zero => rfl
            | succ n ih =>
              rw [List.range_succ, List.map_append, List.sum_append, ih]
              simp only [List.map_cons, List.map_nil, List.sum_cons, List.sum_nil, ha, Bool.true_and, decide_eq_true_eq]
              by_cases h1 : sz a = n
              · subst h1
                simp
              · rw [if_neg h1]
                by_cases h2 : sz a < n
                · rw [if_pos h2, if_pos (by omega)]; omega
                · rw [if_neg h2, if_neg (by omega)]; omega
          rw [this, if_pos (by omega)]
        · rw [if_neg (fun z => hs z.2)]
          exact sum_zero fun i hi => by
            have := List.mem_range.mp hi
            have hne : sz a ≠ i := by omega
            simp [hne]
      · rw [if_neg (fun z => ha z.1)]
        exact sum_zero fun i hi => by simp [ha]
    rw [← e, sum_add]
    apply sum_congr
    intro i _
    dsimp only
    rw [List.countP_cons, Nat.add_mul, Nat.add_comm]
/-- the first size that there is -/
def Lead (f : Nat → Nat) (k : Nat) : Prop := 0 < f k ∧ ∀ i, i < k → f i = 0
theorem conv_lead {f g : Nat → Nat} {a b : Nat} (h1 : Lead f a) (h2 : Lead g b) : Lead (conv f g) (a + b) := by
  constructor
  · unfold conv
    refine sum_pos (x := a) (List.mem_range.mpr (by omega)) ?_
    rw [show a + b - a = b by omega]
    exact Nat.mul_pos h1.1 h2.1
  · intro i hi
    unfold conv
    refine sum_zero fun x hx => ?_
    have hx := List.mem_range.mp hx
    by_cases hxa : x < a
    · rw [h1.2 x hxa, Nat.zero_mul]
    · rw [h2.2 (i - x) (by omega), Nat.mul_zero]
theorem conv_none {f g : Nat → Nat} (h : (∀ i, f i = 0) ∨ ∀ i, g i = 0) (j : Nat) : conv f g j = 0 := by
  unfold conv
  refine sum_zero fun x _ => ?_
  rcases h with h | h
  · rw [h, Nat.zero_mul]
  · rw [h, Nat.mul_zero]
/-! ### Pascal's numbers -/
def ch : Nat → Nat → Nat
  | _, 0 => 1
  | 0, _ + 1 => 0
  | n + 1, k + 1 => ch n k + ch n (k + 1)
theorem ch_zero (n : Nat) : ch n 0 = 1 := by cases n <;> rfl
theorem ch_over : ∀ (n k : Nat), n < k → ch n k = 0
  | _, 0, h => by omega
  | 0, k + 1, _ => rfl
  | n + 1, k + 1, h => by
    show ch n k + ch n (k + 1) = 0
    rw [ch_over n k (by omega), ch_over n (k + 1) (by omega)]
theorem ch_one : ∀ n, ch n 1 = n
  | 0 => rfl
  | n + 1 => by show ch n 0 + ch n 1 = n + 1; rw [ch_zero, ch_one n]; omega
/-- what is wanted of a lot: some are missed, some are made -/
def okMN {α : Type} [DecidableEq α] (M N : List α) (ps L : List α) : Bool := ps.all fun x => (!decide (x ∈ M) || decide (x ∈ L)) && (!decide (x ∈ N) || !decide (x ∈ L))
theorem okMN_iff {α : Type} [DecidableEq α] {M N ps L : List α} : okMN M N ps L = true ↔ ∀ x ∈ ps, (x ∈ M → x ∈ L) ∧ (x ∈ N → x ∉ L) := by
  unfold okMN
  rw [List.all_eq_true]
  constructor
  · intro h x hx
    have := h x hx
    simp only [Bool.and_eq_true, Bool.or_eq_true, Bool.not_eq_true', decide_eq_true_eq, decide_eq_false_iff_not] at this
    exact ⟨fun m => this.1.resolve_left (fun z => z m), fun n => this.2.resolve_left (fun z => z n)⟩
  · intro h x hx
    have := h x hx
    simp only [Bool.and_eq_true, Bool.or_eq_true, Bool.not_eq_true', decide_eq_true_eq, decide_eq_false_iff_not]
    exact ⟨(Decidable.em (x ∈ M)).symm.imp_right this.1, (Decidable.em (x ∈ N)).symm.imp_right this.2⟩
def goneN {α : Type} [DecidableEq α] (M : List α) (ps : List α) : Nat := ps.countP fun x => decide (x ∈ M)
def freeN {α : Type} [DecidableEq α] (M N : List α) (ps : List α) : Nat := ps.countP fun x => !decide (x ∈ M) && !decide (x ∈ N)
theorem cnt_size {α : Type} [DecidableEq α] {M N : List α} (hMN : ∀ x ∈ M, x ∉ N) : ∀ {ps : List α} (_ : ps.Nodup) (j : Nat),
    (lots ps).countP (fun A => okMN M N ps A && decide (A.length = j)) = if goneN M ps ≤ j then ch (freeN M N ps) (j - goneN M ps) else 0
  | [], _, j => by
    rw [cnt_nil]
    unfold okMN goneN freeN
    simp only [List.all_nil, List.length_nil, Bool.true_and, List.countP_nil, Nat.zero_le, if_true, Nat.sub_zero, decide_eq_true_eq]
    cases j with
    | zero => rfl
    | succ j => simp [ch]
  | x :: xs, nd, j => by
    have nd' := (List.nodup_cons.mp nd).2
    have hx := (List.nodup_cons.mp nd).1
    rw [cnt_cons]
    have sub : ∀ L ∈ lots xs, x ∉ L := fun L hL z => hx ((mem_lots.mp hL).subset z)
    have e1 : (lots xs).countP (fun L => okMN M N (x :: xs) (x :: L) && decide ((x :: L).length = j)) = if x ∈ N then 0 else if 0 < j then (lots xs).countP (fun A => okMN M N xs A && decide (A.length = j - 1)) else 0 := by
      have cg : ∀ L ∈ lots xs, (okMN M N (x :: xs) (x :: L) && decide ((x :: L).length = j)) = (if x ∈ N then false else if 0 < j then (okMN M N xs L && decide (L.length = j - 1)) else false) := by
        intro L hL
        have e : okMN M N (x :: xs) (x :: L) = (!decide (x ∈ N) && okMN M N xs L) := by
          unfold okMN
          rw [List.all_cons]
          simp only [List.mem_cons, true_or, decide_true, Bool.or_true, Bool.true_and, Bool.not_true, Bool.or_false]
          congr 1
          rw [Bool.eq_iff_iff, List.all_eq_true, List.all_eq_true]
          constructor
          · intro h y hy
            have hne : y ≠ x := fun z => hx (z ▸ hy)
            have := h y hy
            simpa [hne] using this
          · intro h y hy
            have hne : y ≠ x := fun z => hx (z ▸ hy)
            have := h y hy
            simpa [hne] using this
        rw [e, List.length_cons]
        by_cases hN : x ∈ N
        · simp [hN]
        · rw [if_neg hN]
          by_cases hj : 0 < j
          · rw [if_pos hj]
            have : decide (L.length + 1 = j) = decide (L.length = j - 1) := by
              apply decide_eq_decide.mpr; omega
            rw [this]; simp [hN]
          · rw [if_neg hj]
            have : decide (L.length + 1 = j) = false := by simp; omega
            rw [this, Bool.and_false]
      rw [List.countP_congr fun L hL => by rw [cg L hL]]
      by_cases hN : x ∈ N
      · simp [hN]
      · by_cases hj : 0 < j
        · simp [hN, hj]
        · simp [hN, hj]
    have e2 : (lots xs).countP (fun L => okMN M N (x :: xs) L && decide (L.length = j)) = if x ∈ M then 0 else (lots xs).countP (fun A => okMN M N xs A && decide (A.length = j)) := by
      have cg : ∀ L ∈ lots xs, (okMN M N (x :: xs) L && decide (L.length = j)) = (if x ∈ M then false else (okMN M N xs L && decide (L.length = j))) := by
        intro L hL
        have hxL := sub L hL
        unfold okMN
        rw [List.all_cons]
        by_cases hM : x ∈ M
        · simp [hM, hxL]
        · simp [hM, hxL]
      rw [List.countP_congr fun L hL => by rw [cg L hL]]
      by_cases hM : x ∈ M
      · simp [hM]
      · simp [hM]
    rw [e1, e2, cnt_size hMN nd', cnt_size hMN nd']
    unfold goneN freeN
    rw [List.countP_cons, List.countP_cons]
    by_cases hM : x ∈ M
    · have hN := hMN x hM
      simp only [hM, hN, if_true, if_false, decide_true, Bool.not_true, Bool.false_and, Bool.false_eq_true, Nat.add_zero]
      by_cases hj : 0 < j
      · rw [if_pos hj]
        by_cases h2 : xs.countP (fun x => decide (x ∈ M)) ≤ j - 1
        · rw [if_pos h2, if_pos (by omega)]
          congr 1; omega
        · rw [if_neg h2, if_neg (by omega)]
      · rw [if_neg hj, if_neg (by omega)]
    · by_cases hN : x ∈ N
      · simp [hM, hN]
      · simp only [hM, hN, if_false, decide_false, Bool.not_false, Bool.true_and, if_true, Bool.false_eq_true, Nat.add_zero]
        generalize hg : xs.countP (fun x => decide (x ∈ M)) = g
        generalize hf : xs.countP (fun x => !decide (x ∈ M) && !decide (x ∈ N)) = f
        by_cases hj : 0 < j
        · rw [if_pos hj]
          by_cases h2 : g ≤ j - 1
          · rw [if_pos h2, if_pos (by omega), if_pos (by omega)]
            have : j - g = (j - 1 - g) + 1 := by omega
            rw [this]; rfl
          · rw [if_neg h2, Nat.zero_add]
            by_cases h3 : g ≤ j
            · rw [if_pos h3, if_pos h3]
              have : j - g = 0 := by omega
              rw [this, ch_zero, ch_zero]
            · rw [if_neg h3, if_neg h3]
        · rw [if_neg hj, Nat.zero_add]
          by_cases h3 : g ≤ j
          · rw [if_pos h3, if_pos h3]
            have : j - g = 0 := by omega
            rw [this, ch_zero, ch_zero]
          · rw [if_neg h3, if_neg h3]
end Dl
namespace Dl
/-! ### parts: tests and what is asked of the number of the missed ones -/
section
variable {α : Type} [DecidableEq α]
abbrev Pt (α : Type) := (α → Bool) × (Nat → Bool)
def inAny (pre : List (Pt α)) (x : α) : Bool := pre.any fun t => t.1 x
def cntP (M N xs : List α) (pre : List (Pt α)) (j : Nat) : Nat :=
  (lots (xs.filter (inAny pre))).countP fun L => (okMN M N (xs.filter (inAny pre)) L && pre.all fun t => t.2 (L.countP t.1)) && decide (L.length = j)
def partP (M N xs : List α) (t : Pt α) (i : Nat) : Nat := (lots (xs.filter t.1)).countP fun A => (okMN M N (xs.filter t.1) A && t.2 A.length) && decide (A.length = i)
theorem inAny_app (pre : List (Pt α)) (t : Pt α) (x : α) : inAny (pre ++ [t]) x = (inAny pre x || t.1 x) := by
  unfold inAny; rw [List.any_append, List.any_cons, List.any_nil, Bool.or_false]
theorem cntP_nil (M N xs : List α) (j : Nat) : cntP M N xs [] j = if j = 0 then 1 else 0 := by
  unfold cntP
  have e : xs.filter (inAny ([] : List (Pt α))) = [] := by
    apply List.filter_eq_nil_iff.mpr
    intro x _; simp [inAny]
  rw [e, cnt_nil]
  simp only [okMN, List.all_nil, Bool.true_and, List.length_nil, decide_eq_true_eq]
  by_cases h : j = 0
  · simp [h]
  · rw [if_neg (fun z => h z.symm), if_neg h]
theorem cntP_snoc {M N xs : List α} {pre : List (Pt α)} {t : Pt α} (hd : ∀ x ∈ xs, inAny pre x = true → t.1 x = false) (j : Nat) : cntP M N xs (pre ++ [t]) j = conv (cntP M N xs pre) (partP M N xs t) j := by
  let U := xs.filter (inAny (pre ++ [t]))
  have hU : ∀ x, x ∈ U ↔ x ∈ xs ∧ (inAny pre x = true ∨ t.1 x = true) := fun x => by
    show x ∈ List.filter _ _ ↔ _
    rw [List.mem_filter, inAny_app, Bool.or_eq_true]
  have f1 : U.filter (fun x => !t.1 x) = xs.filter (inAny pre) := by
    show (xs.filter _).filter _ = _
    rw [List.filter_filter]
    apply List.filter_congr
    intro x hx
    rw [inAny_app]
    cases h1 : inAny pre x with
    | true => rw [hd x hx h1]; rfl
    | false => cases t.1 x <;> rfl
  have f2 : U.filter (fun x => !!t.1 x) = xs.filter t.1 := by
    show (xs.filter _).filter _ = _
    rw [List.filter_filter]
    apply List.filter_congr
    intro x hx
    rw [inAny_app]
    cases t.1 x with
    | true => simp
    | false => simp
  let P : List α → List α → Bool := fun B A => (okMN M N (xs.filter (inAny pre)) B && pre.all fun s => s.2 (B.countP s.1)) && ((okMN M N (xs.filter t.1) A && t.2 A.length) && decide (B.length + A.length = j))
  have e0 : cntP M N xs (pre ++ [t]) j = (lots U).countP fun L => P (L.filter fun x => !t.1 x) (L.filter fun x => !!t.1 x) := by
    show (lots U).countP _ = _
    apply List.countP_congr
    intro L hL
    have hLU : ∀ x ∈ L, x ∈ U := fun x hx => (mem_lots.mp hL).subset hx
    have e1 : okMN M N U L = (okMN M N (xs.filter (inAny pre)) (L.filter fun x => !t.1 x) && okMN M N (xs.filter t.1) (L.filter fun x => !!t.1 x)) := by
      rw [Bool.eq_iff_iff, Bool.and_eq_true, okMN_iff, okMN_iff, okMN_iff]
      constructor
      · intro h
        refine ⟨fun x hx => ?_, fun x hx => ?_⟩
        · obtain ⟨h1, h2⟩ := List.mem_filter.mp hx
          have h3 := hd x h1 h2
          have := h x ((hU x).mpr ⟨h1, .inl h2⟩)
          rw [List.mem_filter, h3]
          simpa using this
        · obtain ⟨h1, h2⟩ := List.mem_filter.mp hx
          have := h x ((hU x).mpr ⟨h1, .inr h2⟩)
          rw [List.mem_filter, h2]
          simpa using this
      · rintro ⟨ha, hb⟩ x hx
        obtain ⟨h1, h2 | h2⟩ := (hU x).mp hx
        · have := ha x (List.mem_filter.mpr ⟨h1, h2⟩)
          rw [List.mem_filter, hd x h1 h2] at this
          simpa using this
        · have := hb x (List.mem_filter.mpr ⟨h1, h2⟩)
          rw [List.mem_filter, h2] at this
          simpa using this
    have e2 : ((pre ++ [t]).all fun s => s.2 (L.countP s.1)) = ((pre.all fun s => s.2 ((L.filter fun x => !t.1 x).countP s.1)) && t.2 (L.filter fun x => !!t.1 x).length) := by
      rw [List.all_append, List.all_cons, List.all_nil, Bool.and_true]
      congr 1
      · rw [Bool.eq_iff_iff, List.all_eq_true, List.all_eq_true]
        have : ∀ s ∈ pre, (L.filter fun x => !t.1 x).countP s.1 = L.countP s.1 := by
          intro s hs
          rw [List.countP_filter]
          apply List.countP_congr
          intro x hx
          constructor
          · intro h; exact (Bool.and_eq_true _ _ ▸ h).1
          · intro h
            have : inAny pre x = true := List.any_eq_true.mpr ⟨s, hs, h⟩
            rw [h, hd x ((hU x).mp (hLU x hx)).1 this]; rfl
        exact ⟨fun h s hs => by rw [this s hs]; exact h s hs, fun h s hs => by rw [← this s hs]; exact h s hs⟩
      · rw [List.countP_eq_length_filter]
        congr 2
        simp
    have e3 : L.length = (L.filter fun x => !t.1 x).length + (L.filter fun x => !!t.1 x).length := by
      have h1 := List.length_eq_countP_add_countP (fun x => !t.1 x) (l := L)
      rw [List.countP_eq_length_filter, List.countP_eq_length_filter] at h1
      rw [h1]
      congr 3
      funext x; cases t.1 x <;> rfl
    show ((okMN M N U L && _) && decide (L.length = j)) = true ↔ P _ _ = true
    rw [e1, e2, e3]
    show _ ↔ ((_ && _) && ((_ && _) && _)) = true
    simp only [Bool.and_eq_true]
    constructor
    · rintro ⟨⟨⟨a, b⟩, c, d⟩, e⟩; exact ⟨⟨a, c⟩, ⟨b, d⟩, e⟩
    · rintro ⟨⟨a, c⟩, ⟨b, d⟩, e⟩; exact ⟨⟨⟨a, b⟩, c, d⟩, e⟩
  rw [e0, cnt_split, f1, f2]
  rw [show conv (cntP M N xs pre) (partP M N xs t) j = _ from (sum_by_size (fun B : List α => B.length) (fun B => okMN M N (xs.filter (inAny pre)) B && pre.all fun s => s.2 (B.countP s.1)) (partP M N xs t) j (lots (xs.filter (inAny pre)))).symm]
  apply sum_congr
  intro B _
  by_cases hB : (okMN M N (xs.filter (inAny pre)) B && pre.all fun s => s.2 (B.countP s.1)) = true
  · by_cases hj : B.length ≤ j
    · rw [if_pos ⟨hB, hj⟩]
      unfold partP
      apply List.countP_congr
      intro A _
      show (_ && _) = true ↔ _
      rw [hB, Bool.true_and]
      have : decide (B.length + A.length = j) = decide (A.length = j - B.length) := by
        apply decide_eq_decide.mpr; omega
      rw [this]
    · rw [if_neg (fun z => hj z.2)]
      apply List.countP_eq_zero.mpr
      intro A _
      show ¬ (_ && _) = true
      have : decide (B.length + A.length = j) = false := by simp; omega
      rw [this]; simp
  · rw [if_neg (fun z => hB z.1)]
    apply List.countP_eq_zero.mpr
    intro A _
    show ¬ (_ && _) = true
    rw [Bool.eq_false_iff.mpr hB]; simp
/-- a part by its numbers -/
def parO : Option Bool → Nat → Bool
  | none, _ => true
  | some o, n => decide (n % 2 = 1) == o
def pp (gone free : Nat) (odd : Option Bool) (i : Nat) : Nat := if parO odd i = true then (if gone ≤ i then ch free (i - gone) else 0) else 0
theorem partP_eq {M N xs : List α} (nd : xs.Nodup) (hMN : ∀ x ∈ M, x ∉ N) (q : α → Bool) (odd : Option Bool) (i : Nat) :
    partP M N xs (q, parO odd) i = pp (goneN M (xs.filter q)) (freeN M N (xs.filter q)) odd i := by
  unfold partP pp
  rw [← cnt_size hMN (nd.filter q)]
  by_cases h : parO odd i = true
  · rw [if_pos h]
    apply List.countP_congr
    intro A _
    constructor
    · intro z
      simp only [Bool.and_eq_true, decide_eq_true_eq] at z ⊢
      exact ⟨z.1.1, z.2⟩
    · intro z
      simp only [Bool.and_eq_true, decide_eq_true_eq] at z ⊢
      exact ⟨⟨z.1, by rw [z.2]; exact h⟩, z.2⟩
  · rw [if_neg h]
    apply List.countP_eq_zero.mpr
    intro A _ z
    simp only [Bool.and_eq_true, decide_eq_true_eq] at z
    exact h (z.2 ▸ z.1.2)
end
/-- the first number of misses of a part -/
def leadP (gone free : Nat) (odd : Option Bool) : Option Nat :=
  if odd = none ∨ odd = some (decide (gone % 2 = 1)) then some gone else if free = 0 then none else some (gone + 1)
theorem leadP_ok {gone free : Nat} {odd : Option Bool} : (∀ k, leadP gone free odd = some k → Lead (pp gone free odd) k) ∧ (leadP gone free odd = none → ∀ i, pp gone free odd i = 0) := by
  unfold leadP
  by_cases h : odd = none ∨ odd = some (decide (gone % 2 = 1))
  · rw [if_pos h]
    refine ⟨fun k hk => ?_, fun z => nomatch z⟩
    cases hk
    have hp : parO odd gone = true := by
      rcases h with h | h
      · subst h; rfl
      · subst h; simp [parO]
    refine ⟨?_, fun i hi => ?_⟩
    · unfold pp
      rw [if_pos hp, if_pos (Nat.le_refl _), Nat.sub_self, ch_zero]; decide
    · unfold pp
      rw [if_neg (show ¬ gone ≤ i by omega)]
      split <;> rfl
  · rw [if_neg h]
    have hno : odd = some (!decide (gone % 2 = 1)) := by
      cases odd with
      | none => exact absurd (.inl rfl) h
      | some o =>
        have : o ≠ decide (gone % 2 = 1) := fun z => h (.inr (by rw [z]))
        cases o <;> cases hd : decide (gone % 2 = 1) <;> simp_all
    have p0 : parO odd gone = false := by subst hno; cases hd : decide (gone % 2 = 1) <;> simp_all [parO]
    by_cases hf : free = 0
    · rw [if_pos hf]
      refine ⟨fun k hk => (nomatch hk), fun _ i => ?_⟩
      unfold pp
      by_cases hi : i = gone
      · subst hi; rw [p0]; rfl
      · subst hf
        by_cases h2 : gone ≤ i
        · rw [if_pos h2, ch_over 0 (i - gone) (by omega)]; split <;> rfl
        · rw [if_neg h2]; split <;> rfl
    · rw [if_neg hf]
      refine ⟨fun k hk => ?_, fun z => nomatch z⟩
      cases hk
      have p1 : parO odd (gone + 1) = true := by
        subst hno
        show (decide ((gone + 1) % 2 = 1) == !decide (gone % 2 = 1)) = true
        by_cases h2 : gone % 2 = 1
        · have : ¬ (gone + 1) % 2 = 1 := by omega
          simp [h2, this]
        · have : (gone + 1) % 2 = 1 := by omega
          simp [h2, this]
      refine ⟨?_, fun i hi => ?_⟩
      · unfold pp
        rw [if_pos p1, if_pos (by omega), show gone + 1 - gone = 1 by omega, ch_one]; omega
      · unfold pp
        by_cases hi2 : i = gone
        · subst hi2; rw [p0]; rfl
        · rw [if_neg (show ¬ gone ≤ i by omega)]; split <;> rfl
end Dl
namespace Dl
/-! ### stretches of one wheel: from what was seen -/
abbrev Str3 := Nat × Nat × Option Bool
def sttL (sz : Nat → Nat → Nat) (D : Nat) : List (Nat × List Nat) → Nat → Nat → List Str3
  | [], first, _ => [(first, D, none)]
  | (day, seen) :: g, first, up => (first, day, some (decide ((sz first day + up + seen.headD 0) % 2 = 1))) :: ((if 1 < seen.length then [(day, day, some true)] else []) ++ sttL sz D g day (seen.getLastD 0))
structure SeenOk (D : Nat) (g : List (Nat × List Nat)) : Prop where
  asc : g.Pairwise fun a b => a.1 < b.1
  le : ∀ x ∈ g, x.1 ≤ D
  ne : ∀ x ∈ g, x.2 ≠ []
  lt : ∀ x ∈ g, ∀ s ∈ x.2, s < 2
  two : ∀ x ∈ g, 1 < x.2.length → x.2 = [0, 1]
theorem SeenOk.tail {D : Nat} {x : Nat × List Nat} {g : List (Nat × List Nat)} (h : SeenOk D (x :: g)) : SeenOk D g :=
  ⟨(List.pairwise_cons.mp h.asc).2, fun y hy => h.le y (List.mem_cons_of_mem _ hy), fun y hy => h.ne y (List.mem_cons_of_mem _ hy), fun y hy => h.lt y (List.mem_cons_of_mem _ hy), fun y hy => h.two y (List.mem_cons_of_mem _ hy)⟩
structure Cnt2 (cd cl : Nat → Nat → Nat) : Prop where
  dd : ∀ a b e, a ≤ b → b ≤ e → cd a b + cd b e = cd a e
  ll : ∀ a b e, a ≤ b → b ≤ e → cl a b + cl b e = cl a e
  le : ∀ a b, cl a b ≤ cd a b
  z : ∀ a, cl a a = 0
theorem strs_ok {cd cl : Nat → Nat → Nat} (C : Cnt2 cd cl) {D : Nat} : ∀ (g : List (Nat × List Nat)) (first up : Nat), SeenOk D g → (∀ x ∈ g, first ≤ x.1) → up < 2 → (cd 0 first - cl 0 first) % 2 = up →
    ((∀ x ∈ g, ∀ s ∈ x.2, (cd 0 x.1 - cl 0 x.1) % 2 = s) ↔ ∀ t ∈ sttL cd D g first up, parO t.2.2 (cl t.1 t.2.1) = true)
  | [], first, up, _, _, _, _ => by
    unfold sttL
    constructor
    · intro _ t ht
      rw [List.mem_singleton.mp ht]; rfl
    · intro _ x hx; cases hx
  | (day, seen) :: g, first, up, h, hf, hu, hs => by
    have hday : first ≤ day := hf (day, seen) (by simp)
    have hne : seen ≠ [] := h.ne (day, seen) (by simp)
    have hlt : ∀ s ∈ seen, s < 2 := h.lt (day, seen) (by simp)
    have e1 := C.dd 0 first day (Nat.zero_le _) hday
    have e2 := C.ll 0 first day (Nat.zero_le _) hday
    have l1 := C.le first day
    have l2 := C.le 0 first
    have hhead : seen.headD 0 ∈ seen := by
      cases seen with
      | nil => exact absurd rfl hne
      | cons a l => simp
    have hh := hlt _ hhead
    have key : (cd 0 day - cl 0 day) % 2 = seen.headD 0 ↔ parO (some (decide ((cd first day + up + seen.headD 0) % 2 = 1))) (cl first day) = true := by
      show _ ↔ (decide (cl first day % 2 = 1) == decide ((cd first day + up + seen.headD 0) % 2 = 1)) = true
      rw [beq_iff_eq, decide_eq_decide]
      omega
    unfold sttL
    by_cases h1 : 1 < seen.length
    · have e := h.two (day, seen) (by simp) h1
      dsimp only at e
      subst e
      rw [if_pos h1]
      constructor
      · intro z
        have z0 := z (day, [0, 1]) (by simp) 0 (by simp)
        have z1 := z (day, [0, 1]) (by simp) 1 (by simp)
        dsimp only at z0 z1
        omega
      · intro z
        have := z (day, day, some true) (by simp)
        dsimp only at this
        rw [C.z] at this
        exact absurd this (by decide)
    · rw [if_neg h1]
      obtain ⟨s, rfl⟩ : ∃ s, seen = [s] := by
        cases seen with
        | nil => exact absurd rfl hne
        | cons a l => cases l with
          | nil => exact ⟨a, rfl⟩
          | cons b l => simp at h1
      have hg : ∀ x ∈ g, day ≤ x.1 := fun x hx => Nat.le_of_lt ((List.pairwise_cons.mp h.asc).1 x hx)
      rw [List.nil_append]
      show _ ↔ ∀ t ∈ (first, day, some (decide ((cd first day + up + s) % 2 = 1))) :: sttL cd D g day s, _
      have key' : (cd 0 day - cl 0 day) % 2 = s ↔ parO (some (decide ((cd first day + up + s) % 2 = 1))) (cl first day) = true := key
      constructor
      · intro z
        have z0 := z (day, [s]) (by simp) s (by simp)
        dsimp only at z0
        have ih := strs_ok C g day s h.tail hg hh z0
        intro t ht
        rcases List.mem_cons.mp ht with e | e
        · subst e; exact key'.mp z0
        · exact ih.mp (fun x hx => z x (List.mem_cons_of_mem _ hx)) t e
      · intro z
        have z0 := key'.mpr (z (first, day, some (decide ((cd first day + up + s) % 2 = 1))) (by simp))
        have ih := strs_ok C g day s h.tail hg hh z0
        intro x hx
        rcases List.mem_cons.mp hx with e | e
        · subst e
          intro u hu
          rw [List.mem_singleton.mp hu]; exact z0
        · exact ih.mpr (fun t ht => z t (List.mem_cons_of_mem _ ht)) x e
/-- each day of a wheel is in just one stretch -/
theorem strs_cover {cd : Nat → Nat → Nat} {D : Nat} : ∀ (g : List (Nat × List Nat)) (first up : Nat), SeenOk D g → (∀ x ∈ g, first ≤ x.1) → ∀ d, first ≤ d → d < D → ∃ t ∈ sttL cd D g first up, t.1 ≤ d ∧ d < t.2.1
  | [], first, up, _, _, d, h1, h2 => ⟨(first, D, none), by unfold sttL; simp, h1, h2⟩
  | (day, seen) :: g, first, up, h, hf, d, h1, h2 => by
    by_cases hd : d < day
    · exact ⟨(first, day, _), by unfold sttL; exact List.mem_cons_self .., h1, hd⟩
    · obtain ⟨t, ht, h3⟩ := strs_cover (cd := cd) g day (seen.getLastD 0) h.tail (fun x hx => Nat.le_of_lt ((List.pairwise_cons.mp h.asc).1 x hx)) d (by omega) h2
      exact ⟨t, by unfold sttL; exact List.mem_cons_of_mem _ (List.mem_append_right _ ht), h3⟩
theorem strs_from {cd : Nat → Nat → Nat} {D : Nat} : ∀ (g : List (Nat × List Nat)) (first up : Nat), SeenOk D g → (∀ x ∈ g, first ≤ x.1) → ∀ t ∈ sttL cd D g first up, first ≤ t.1
  | [], first, up, _, _, t, ht => by unfold sttL at ht; rw [List.mem_singleton.mp ht]; exact Nat.le_refl _
  | (day, seen) :: g, first, up, h, hf, t, ht => by
    have hday : first ≤ day := hf (day, seen) (by simp)
    unfold sttL at ht
    rcases List.mem_cons.mp ht with e | e
    · rw [e]; exact Nat.le_refl _
    · rcases List.mem_append.mp e with e | e
      · split at e
        · rw [List.mem_singleton.mp e]; exact hday
        · cases e
      · have := strs_from (cd := cd) g day (seen.getLastD 0) h.tail (fun x hx => Nat.le_of_lt ((List.pairwise_cons.mp h.asc).1 x hx)) t e
        omega
theorem strs_apart {cd : Nat → Nat → Nat} {D : Nat} : ∀ (g : List (Nat × List Nat)) (first up : Nat), SeenOk D g → (∀ x ∈ g, first ≤ x.1) → (sttL cd D g first up).Pairwise fun a b => ∀ d, ¬ ((a.1 ≤ d ∧ d < a.2.1) ∧ b.1 ≤ d ∧ d < b.2.1)
  | [], first, up, _, _ => by unfold sttL; exact List.pairwise_singleton _ _
  | (day, seen) :: g, first, up, h, hf => by
    have hg : ∀ x ∈ g, day ≤ x.1 := fun x hx => Nat.le_of_lt ((List.pairwise_cons.mp h.asc).1 x hx)
    have ih := strs_apart (cd := cd) g day (seen.getLastD 0) h.tail hg
    have fr := strs_from (cd := cd) g day (seen.getLastD 0) h.tail hg
    unfold sttL
    refine List.pairwise_cons.mpr ⟨fun t ht d hd => ?_, List.pairwise_append.mpr ⟨?_, ih, fun a ha b hb d hd => ?_⟩⟩
    · rcases List.mem_append.mp ht with e | e
      · split at e
        · rw [List.mem_singleton.mp e] at hd; dsimp only at hd; omega
        · cases e
      · have := fr t e; dsimp only at hd; omega
    · split
      · exact List.pairwise_singleton _ _
      · exact List.Pairwise.nil
    · split at ha
      · rw [List.mem_singleton.mp ha] at hd; dsimp only at hd; omega
      · cases ha
end Dl
namespace Dl
/-! ### what was seen, day by day -/
def putG (d s : Nat) : List (Nat × List Nat) → List (Nat × List Nat)
  | [] => [(d, [s])]
  | (e, l) :: g => if e = d then (e, l ++ [s]) :: g else (e, l) :: putG d s g
def flatG (g : List (Nat × List Nat)) : List (Nat × Nat) := g.flatMap fun x => x.2.map fun s => (x.1, s)
structure GInv (g : List (Nat × List Nat)) : Prop where
  asc : g.Pairwise fun a b => a.1 < b.1
  ne : ∀ x ∈ g, x.2 ≠ []
  up : ∀ x ∈ g, x.2.Pairwise (· < ·)
theorem putG_keys {d s : Nat} : ∀ {g : List (Nat × List Nat)} {x : Nat × List Nat}, x ∈ putG d s g → x.1 = d ∨ ∃ y ∈ g, y.1 = x.1
  | [], x, h => by rw [putG, List.mem_singleton] at h; rw [h]; exact .inl rfl
  | (e, l) :: g, x, h => by
    rw [putG] at h
    split at h
    · rcases List.mem_cons.mp h with z | z
      · rw [z]; exact .inr ⟨(e, l), by simp, rfl⟩
      · exact .inr ⟨x, List.mem_cons_of_mem _ z, rfl⟩
    · rcases List.mem_cons.mp h with z | z
      · rw [z]; exact .inr ⟨(e, l), by simp, rfl⟩
      · rcases putG_keys z with q | ⟨y, hy, q⟩
        · exact .inl q
        · exact .inr ⟨y, List.mem_cons_of_mem _ hy, q⟩
theorem putG_ok {d s : Nat} : ∀ {g : List (Nat × List Nat)}, GInv g → (∀ x ∈ g, x.1 < d ∨ (x.1 = d ∧ ∀ u ∈ x.2, u < s)) → GInv (putG d s g) ∧ flatG (putG d s g) = flatG g ++ [(d, s)]
  | [], _, _ => ⟨⟨List.pairwise_singleton _ _, fun x hx => by rw [putG, List.mem_singleton] at hx; rw [hx]; simp, fun x hx => by rw [putG, List.mem_singleton] at hx; rw [hx]; exact List.pairwise_singleton _ _⟩, rfl⟩
  | (e, l) :: g, h, hk => by
    have h1 := (List.pairwise_cons.mp h.asc).1
    have hg : GInv g := ⟨(List.pairwise_cons.mp h.asc).2, fun x hx => h.ne x (List.mem_cons_of_mem _ hx), fun x hx => h.up x (List.mem_cons_of_mem _ hx)⟩
    rw [putG]
    by_cases he : e = d
    · rw [if_pos he]
      have gn : g = [] := by
        cases g with
        | nil => rfl
        | cons y g =>
          have a1 := h1 y (by simp)
          have a2 := hk y (by simp)
          dsimp only at a1
          omega
      subst gn
      have hl : ∀ u ∈ l, u < s := by
        rcases hk (e, l) (by simp) with z | z
        · dsimp only at z; omega
        · exact z.2
      refine ⟨⟨List.pairwise_singleton _ _, fun x hx => ?_, fun x hx => ?_⟩, ?_⟩
      · rw [List.mem_singleton.mp hx]; simp
      · rw [List.mem_singleton.mp hx]
        exact List.pairwise_append.mpr ⟨h.up (e, l) (by simp), List.pairwise_singleton _ _, fun a ha b hb => by rw [List.mem_singleton.mp hb]; exact hl a ha⟩
      · unfold flatG; simp [he]
    · rw [if_neg he]
      have hed : e < d := by
        rcases hk (e, l) (by simp) with z | z
        · exact z
        · exact absurd z.1 he
      obtain ⟨i1, i2⟩ := putG_ok (d := d) (s := s) hg fun x hx => hk x (List.mem_cons_of_mem _ hx)
      refine ⟨⟨List.pairwise_cons.mpr ⟨fun x hx => ?_, i1.asc⟩, fun x hx => ?_, fun x hx => ?_⟩, ?_⟩
      · dsimp only
        rcases putG_keys hx with z | ⟨y, hy, z⟩
        · omega
        · have := h1 y hy; dsimp only at this; omega
      · rcases List.mem_cons.mp hx with z | z
        · rw [z]; exact h.ne (e, l) (by simp)
        · exact i1.ne x z
      · rcases List.mem_cons.mp hx with z | z
        · rw [z]; exact h.up (e, l) (by simp)
        · exact i1.up x z
      · show ((l.map fun s => (e, s)) ++ flatG (putG d s g)) = _
        rw [i2]; show _ = ((l.map fun s => (e, s)) ++ flatG g) ++ _
        rw [List.append_assoc]
def grpG (P : List (Nat × Nat)) : List (Nat × List Nat) := P.foldl (fun g q => putG q.1 q.2 g) []
def ltP (a b : Nat × Nat) : Prop := a.1 < b.1 ∨ (a.1 = b.1 ∧ a.2 < b.2)
theorem mem_flat {g : List (Nat × List Nat)} {d s : Nat} : (d, s) ∈ flatG g ↔ ∃ x ∈ g, x.1 = d ∧ s ∈ x.2 := by
  unfold flatG
  rw [List.mem_flatMap]
  constructor
  · rintro ⟨x, hx, h⟩
    obtain ⟨u, hu, e⟩ := List.mem_map.mp h
    cases e
    exact ⟨x, hx, rfl, hu⟩
  · rintro ⟨x, hx, rfl, h⟩
    exact ⟨x, hx, List.mem_map.mpr ⟨s, h, rfl⟩⟩
theorem grp_go : ∀ (P : List (Nat × Nat)) (g : List (Nat × List Nat)), GInv g → (flatG g ++ P).Pairwise ltP → GInv (P.foldl (fun g q => putG q.1 q.2 g) g) ∧ flatG (P.foldl (fun g q => putG q.1 q.2 g) g) = flatG g ++ P
  | [], g, h, _ => ⟨h, by simp⟩
  | (d, s) :: P, g, h, hp => by
    have hk : ∀ x ∈ g, x.1 < d ∨ (x.1 = d ∧ ∀ u ∈ x.2, u < s) := fun x hx => by
      have hlt : ∀ u ∈ x.2, ltP (x.1, u) (d, s) := fun u hu => (List.pairwise_append.mp hp).2.2 (x.1, u) (mem_flat.mpr ⟨x, hx, rfl, hu⟩) (d, s) (by simp)
      by_cases hxd : x.1 < d
      · exact .inl hxd
      · refine .inr ⟨?_, fun u hu => ?_⟩
        · cases hx2 : x.2 with
          | nil => exact absurd hx2 (h.ne x hx)
          | cons u l =>
            have := hlt u (by rw [hx2]; simp)
            unfold ltP at this; dsimp only at this; omega
        · have := hlt u hu
          unfold ltP at this; dsimp only at this; omega
    obtain ⟨i1, i2⟩ := putG_ok h hk
    have := grp_go P (putG d s g) i1 (by rw [i2, List.append_assoc]; exact hp)
    rw [i2, List.append_assoc] at this
    exact this
theorem grp_ok {P : List (Nat × Nat)} (h : P.Pairwise ltP) : GInv (grpG P) ∧ flatG (grpG P) = P := by
  have := grp_go P [] ⟨.nil, fun x hx => (nomatch hx), fun x hx => (nomatch hx)⟩ (by simpa [flatG] using h)
  rw [show flatG ([] : List (Nat × List Nat)) ++ P = P from rfl] at this
  exact this
theorem grp_seen {D : Nat} {P : List (Nat × Nat)} (h : P.Pairwise ltP) (h1 : ∀ q ∈ P, q.1 ≤ D) (h2 : ∀ q ∈ P, q.2 < 2) : SeenOk D (grpG P) := by
  obtain ⟨i1, i2⟩ := grp_ok h
  have mem : ∀ x ∈ grpG P, ∀ s ∈ x.2, (x.1, s) ∈ P := fun x hx s hs => by rw [← i2]; exact mem_flat.mpr ⟨x, hx, rfl, hs⟩
  refine ⟨i1.asc, fun x hx => ?_, i1.ne, fun x hx s hs => h2 _ (mem x hx s hs), fun x hx hl => ?_⟩
  · cases hx2 : x.2 with
    | nil => exact absurd hx2 (i1.ne x hx)
    | cons u l => exact h1 _ (mem x hx u (by rw [hx2]; simp))
  · have hu := i1.up x hx
    have hlt : ∀ s ∈ x.2, s < 2 := fun s hs => h2 _ (mem x hx s hs)
    generalize x.2 = l at hl hu hlt
    match l, hl, hu, hlt with
    | a :: b :: r, _, hu, hlt =>
      have h3 := (List.pairwise_cons.mp hu).1
      have h4 := h3 b (by simp)
      have h5 := hlt a (by simp)
      have h6 := hlt b (by simp)
      have : r = [] := by
        cases r with
        | nil => rfl
        | cons c r =>
          have h7 := (List.pairwise_cons.mp (List.pairwise_cons.mp hu).2).1 c (by simp)
          have h8 := hlt c (by simp)
          omega
      subst this
      rw [show a = 0 by omega, show b = 1 by omega]
/-! ### a season's turnings, looks and parts -/
abbrev Lk3 := Nat × Nat × Nat
def cnW (w a b : Nat) (L : List (Nat × Nat)) : Nat := L.countP fun x => decide (x.2 = w) && (decide (a ≤ x.1) && decide (x.1 < b))
def sdU (U L : List (Nat × Nat)) (w d : Nat) : Nat := (U.countP fun x => decide (x.2 = w) && (decide (x.1 < d) && !decide (x ∈ L))) % 2
def unb (U : List (Nat × Nat)) (K : List Lk3) (L : List (Nat × Nat)) : Bool := K.all fun q => decide (sdU U L q.2.1 q.1 = q.2.2)
def lkW (K : List Lk3) (w : Nat) : List (Nat × Nat) := (K.filter fun q => decide (q.2.1 = w)).map fun q => (q.1, q.2.2)
def stW (U : List (Nat × Nat)) (D : Nat) (K : List Lk3) (w : Nat) : List Str3 := sttL (fun a b => cnW w a b U) D (grpG (lkW K w)) 0 0
def prts (U : List (Nat × Nat)) (p D : Nat) (K : List Lk3) : List (Nat × Str3) := (List.range p).flatMap fun w => (stW U D K w).map fun t => (w, t)
def qOf (x : Nat × Str3) (y : Nat × Nat) : Bool := decide (y.2 = x.1) && (decide (x.2.1 ≤ y.1) && decide (y.1 < x.2.2.1))
def ptOf (x : Nat × Str3) : Pt (Nat × Nat) := (qOf x, parO x.2.2.2)
/-- looks as a season holds them -/
structure LooksOk (p D : Nat) (K : List Lk3) : Prop where
  asc : ∀ w, (lkW K w).Pairwise ltP
  d : ∀ q ∈ K, q.1 ≤ D
  w : ∀ q ∈ K, q.2.1 < p
  s : ∀ q ∈ K, q.2.2 < 2
structure DueOk (p D : Nat) (U : List (Nat × Nat)) : Prop where
  nd : U.Nodup
  d : ∀ x ∈ U, x.1 < D
  w : ∀ x ∈ U, x.2 < p
section
variable {p D : Nat} {U L : List (Nat × Nat)} {K : List Lk3}
theorem mem_lkW {w d s : Nat} : (d, s) ∈ lkW K w ↔ (d, w, s) ∈ K := by
  unfold lkW
  rw [List.mem_map]
  constructor
  · rintro ⟨⟨a, b, c⟩, h, e⟩
    obtain ⟨h1, h2⟩ := List.mem_filter.mp h
    have h3 : b = w := of_decide_eq_true h2
    dsimp only at e
    cases e; subst h3
    exact h1
  · intro h
    exact ⟨(d, w, s), List.mem_filter.mpr ⟨h, by simp⟩, rfl⟩
theorem LooksOk.seen (h : LooksOk p D K) (w : Nat) : SeenOk D (grpG (lkW K w)) := grp_seen (h.asc w) (fun q hq => h.d _ (mem_lkW.mp (show (q.1, q.2) ∈ _ from hq))) fun q hq => h.s _ (mem_lkW.mp (show (q.1, q.2) ∈ _ from hq))
theorem cnW_zero (w a : Nat) (L : List (Nat × Nat)) : cnW w a a L = 0 := by
  unfold cnW
  apply List.countP_eq_zero.mpr
  intro x _ h
  simp only [Bool.and_eq_true, decide_eq_true_eq] at h
  omega
theorem cnW_add (w : Nat) {a b e : Nat} (h1 : a ≤ b) (h2 : b ≤ e) (L : List (Nat × Nat)) : cnW w a b L + cnW w b e L = cnW w a e L := by
  unfold cnW
  induction L with
  | nil => rfl
  | cons x L ih =>
    rw [List.countP_cons, List.countP_cons, List.countP_cons, ← ih]
    by_cases hw : x.2 = w
    · simp only [hw, decide_true, Bool.true_and, Bool.and_eq_true, decide_eq_true_eq]
      by_cases c1 : a ≤ x.1 <;> by_cases c2 : x.1 < b <;> by_cases c3 : x.1 < e <;> by_cases c4 : b ≤ x.1 <;> simp only [c1, c2, c3, c4, and_true, and_false, if_true, if_false, true_and, false_and] <;> omega
    · simp [hw]
theorem cnW_le (w a b : Nat) (h : L.Sublist U) : cnW w a b L ≤ cnW w a b U := h.countP_le
theorem cnt2 (w : Nat) (h : L.Sublist U) : Cnt2 (fun a b => cnW w a b U) (fun a b => cnW w a b L) :=
  ⟨fun a b e h1 h2 => cnW_add w h1 h2 U, fun a b e h1 h2 => cnW_add w h1 h2 L, fun a b => cnW_le w a b h, fun a => cnW_zero w a L⟩
theorem made_cnt (nd : U.Nodup) (h : L.Sublist U) (w d : Nat) : (U.countP fun x => decide (x.2 = w) && (decide (x.1 < d) && !decide (x ∈ L))) = cnW w 0 d U - cnW w 0 d L := by
  have : (U.countP fun x => decide (x.2 = w) && (decide (x.1 < d) && !decide (x ∈ L))) + cnW w 0 d L = cnW w 0 d U := by
    induction h with
    | slnil => rfl
    | @cons l₁ l₂ a h ih =>
      have na := (List.nodup_cons.mp nd).1
      have ih := ih (List.nodup_cons.mp nd).2
      have ha : a ∉ l₁ := fun z => na (h.subset z)
      unfold cnW at ih ⊢
      rw [List.countP_cons, List.countP_cons]
      simp only [ha, not_false_eq_true, decide_false, Bool.not_false, Bool.and_true, Nat.zero_le, decide_true, Bool.true_and] at ih ⊢
      omega
    | @cons_cons l₁ l₂ a h ih =>
      have na := (List.nodup_cons.mp nd).1
      have ih := ih (List.nodup_cons.mp nd).2
      unfold cnW at ih ⊢
      rw [List.countP_cons, List.countP_cons, List.countP_cons]
      have e : l₂.countP (fun x => decide (x.2 = w) && (decide (x.1 < d) && !decide (x ∈ a :: l₁))) = l₂.countP (fun x => decide (x.2 = w) && (decide (x.1 < d) && !decide (x ∈ l₁))) := by
        apply List.countP_congr
        intro x hx
        have : x ≠ a := fun z => na (z ▸ hx)
        simp [this]
      rw [e]
      simp only [List.mem_cons, true_or, decide_true, Bool.not_true, Bool.and_false, Bool.false_eq_true, if_false, Nat.add_zero, Nat.zero_le, Bool.true_and] at ih ⊢
      omega
  omega
theorem sdU_eq (nd : U.Nodup) (h : L.Sublist U) (w d : Nat) : sdU U L w d = (cnW w 0 d U - cnW w 0 d L) % 2 := by
  unfold sdU; rw [made_cnt nd h]
/-- a lot breaks no look just if it fills each part as it is asked -/
theorem unb_parts (hU : DueOk p D U) (hK : LooksOk p D K) (h : L.Sublist U) : unb U K L = (prts U p D K).all fun x => (ptOf x).2 (L.countP (ptOf x).1) := by
  rw [Bool.eq_iff_iff]
  unfold unb
  rw [List.all_eq_true, List.all_eq_true]
  have one : ∀ w, (∀ x ∈ grpG (lkW K w), ∀ s ∈ x.2, (cnW w 0 x.1 U - cnW w 0 x.1 L) % 2 = s) ↔ ∀ t ∈ stW U D K w, parO t.2.2 (cnW w t.1 t.2.1 L) = true := fun w =>
    strs_ok (cnt2 w h) _ 0 0 (hK.seen w) (fun _ _ => Nat.zero_le _) (by decide) (by
      show (cnW w 0 0 U - cnW w 0 0 L) % 2 = 0
      rw [cnW_zero, cnW_zero])
  have flat : ∀ w, (∀ x ∈ grpG (lkW K w), ∀ s ∈ x.2, (cnW w 0 x.1 U - cnW w 0 x.1 L) % 2 = s) ↔ ∀ d s, (d, w, s) ∈ K → sdU U L w d = s := fun w => by
    constructor
    · intro z d s hs
      have : (d, s) ∈ flatG (grpG (lkW K w)) := by rw [(grp_ok (hK.asc w)).2]; exact mem_lkW.mpr hs
      obtain ⟨x, hx, e, hs'⟩ := mem_flat.mp this
      have := z x hx s hs'
      rw [e] at this
      rw [sdU_eq hU.nd h]; exact this
    · intro z x hx s hs
      have : (x.1, s) ∈ flatG (grpG (lkW K w)) := mem_flat.mpr ⟨x, hx, rfl, hs⟩
      rw [(grp_ok (hK.asc w)).2] at this
      have := z x.1 s (mem_lkW.mp this)
      rw [sdU_eq hU.nd h] at this; exact this
  constructor
  · intro z x hx
    unfold prts at hx
    obtain ⟨w, hw, hx⟩ := List.mem_flatMap.mp hx
    obtain ⟨t, ht, e⟩ := List.mem_map.mp hx
    subst e
    exact (one w).mp ((flat w).mpr fun d s hs => of_decide_eq_true (z (d, w, s) hs)) t ht
  · rintro z ⟨d, w, s⟩ hq
    have := (flat w).mp ((one w).mpr fun t ht => z (w, t) (List.mem_flatMap.mpr ⟨w, List.mem_range.mpr (hK.w _ hq), List.mem_map.mpr ⟨t, ht, rfl⟩⟩)) d s hq
    exact decide_eq_true this
theorem prts_cover (hU : DueOk p D U) (hK : LooksOk p D K) {x : Nat × Nat} (hx : x ∈ U) : inAny ((prts U p D K).map ptOf) x = true := by
  obtain ⟨t, ht, h1, h2⟩ := strs_cover (cd := fun a b => cnW x.2 a b U) _ 0 0 (hK.seen x.2) (fun _ _ => Nat.zero_le _) x.1 (Nat.zero_le _) (hU.d x hx)
  refine List.any_eq_true.mpr ⟨ptOf (x.2, t), List.mem_map.mpr ⟨(x.2, t), List.mem_flatMap.mpr ⟨x.2, List.mem_range.mpr (hU.w x hx), List.mem_map.mpr ⟨t, ht, rfl⟩⟩, rfl⟩, ?_⟩
  show (decide (x.2 = x.2) && (decide (t.1 ≤ x.1) && decide (x.1 < t.2.1))) = true
  simp [h1, h2]
theorem prts_apart (hK : LooksOk p D K) : (prts U p D K).Pairwise fun a b => ∀ x, ¬ (qOf a x = true ∧ qOf b x = true) := by
  unfold prts
  have go : ∀ ws : List Nat, ws.Nodup → (ws.flatMap fun w => (stW U D K w).map fun t => (w, t)).Pairwise fun a b => ∀ x, ¬ (qOf a x = true ∧ qOf b x = true) := by
    intro ws
    induction ws with
    | nil => intro _; exact .nil
    | cons w ws ih =>
      intro nd
      rw [List.flatMap_cons]
      refine List.pairwise_append.mpr ⟨?_, ih (List.nodup_cons.mp nd).2, fun a ha b hb x hx => ?_⟩
      · rw [List.pairwise_map]
        refine (strs_apart (cd := fun a b => cnW w a b U) _ 0 0 (hK.seen w) (fun _ _ => Nat.zero_le _)).imp fun {a b} h x hx => ?_
        unfold qOf at hx
        simp only [Bool.and_eq_true, decide_eq_true_eq] at hx
        exact h x.1 ⟨hx.1.2, hx.2.2⟩
      · obtain ⟨t, _, e⟩ := List.mem_map.mp ha
        obtain ⟨v, hv, hb⟩ := List.mem_flatMap.mp hb
        obtain ⟨u, _, e2⟩ := List.mem_map.mp hb
        subst e e2
        unfold qOf at hx
        simp only [Bool.and_eq_true, decide_eq_true_eq] at hx
        have : w = v := by rw [← hx.1.1, ← hx.2.1]
        exact (List.nodup_cons.mp nd).1 (this ▸ hv)
  exact go _ List.nodup_range
/-! ### all parts together -/
def numsOf (U : List (Nat × Nat)) (p D : Nat) (K : List Lk3) (M N : List (Nat × Nat)) : List (Nat × Nat × Option Bool) := (prts U p D K).map fun x => (goneN M (U.filter (qOf x)), freeN M N (U.filter (qOf x)), x.2.2.2)
def polyL (l : List (Nat × Nat × Option Bool)) : Nat → Nat := l.foldl (fun f t => conv f (pp t.1 t.2.1 t.2.2)) (fun j => if j = 0 then 1 else 0)
def costL : List (Nat × Nat × Option Bool) → Option Nat
  | [] => some 0
  | t :: l => match leadP t.1 t.2.1 t.2.2 with
    | none => none
    | some k => (costL l).map (k + ·)
def cntMN (U : List (Nat × Nat)) (K : List Lk3) (M N : List (Nat × Nat)) (j : Nat) : Nat := (lots U).countP fun L => (okMN M N U L && unb U K L) && decide (L.length = j)
theorem cnt_all (hU : DueOk p D U) (hK : LooksOk p D K) {M N : List (Nat × Nat)} (hMN : ∀ x ∈ M, x ∉ N) : cntMN U K M N = polyL (numsOf U p D K M N) := by
  have go : ∀ (l : List (Nat × Str3)) (pre : List (Nat × Str3)), (pre ++ l).Pairwise (fun a b => ∀ x, ¬ (qOf a x = true ∧ qOf b x = true)) →
      cntP M N U ((pre ++ l).map ptOf) = (l.map fun x => (goneN M (U.filter (qOf x)), freeN M N (U.filter (qOf x)), x.2.2.2)).foldl (fun f t => conv f (pp t.1 t.2.1 t.2.2)) (cntP M N U (pre.map ptOf)) := by
    intro l
    induction l with
    | nil => intro pre _; rw [List.append_nil]; rfl
    | cons x l ih =>
      intro pre hp
      have e := ih (pre ++ [x]) (by rw [List.append_assoc]; exact hp)
      rw [List.append_assoc] at e
      rw [show pre ++ x :: l = pre ++ ([x] ++ l) from rfl, e]
      rw [List.map_cons, List.foldl_cons]
      congr 1
      funext j
      rw [List.map_append, List.map_singleton, cntP_snoc]
      · congr 1
        funext i
        exact partP_eq hU.nd hMN (qOf x) x.2.2.2 i
      · intro y hy h
        obtain ⟨t, ht, hty⟩ := List.any_eq_true.mp h
        obtain ⟨z, hz, rfl⟩ := List.mem_map.mp ht
        have := (List.pairwise_append.mp hp).2.2 z hz x (by simp) y
        cases hq : (ptOf x).1 y with
        | false => rfl
        | true => exact absurd ⟨hty, hq⟩ this
  have e := go (prts U p D K) [] (by simpa using prts_apart hK)
  rw [List.nil_append] at e
  unfold polyL numsOf
  have e0 : cntP M N U (([] : List (Nat × Str3)).map ptOf) = fun j => if j = 0 then 1 else 0 := funext fun j => cntP_nil M N U j
  rw [e0] at e
  rw [← e]
  funext j
  unfold cntMN cntP
  have ef : U.filter (inAny ((prts U p D K).map ptOf)) = U := List.filter_eq_self.mpr fun x hx => prts_cover hU hK hx
  rw [ef]
  apply List.countP_congr
  intro L hL
  rw [unb_parts hU hK (mem_lots.mp hL), List.all_map]
  rfl
theorem lead_go : ∀ (l : List (Nat × Nat × Option Bool)) (f : Nat → Nat) (c : Nat), Lead f c →
    (∀ k, costL l = some k → Lead (l.foldl (fun f t => conv f (pp t.1 t.2.1 t.2.2)) f) (c + k)) ∧ (costL l = none → ∀ j, l.foldl (fun f t => conv f (pp t.1 t.2.1 t.2.2)) f j = 0)
  | [], f, c, h => ⟨fun k hk => by cases hk; exact h, fun z => nomatch z⟩
  | t :: l, f, c, h => by
    rw [List.foldl_cons]
    unfold costL
    cases ht : leadP t.1 t.2.1 t.2.2 with
    | none =>
      dsimp only
      refine ⟨fun k hk => (nomatch hk), fun _ => ?_⟩
      have z : ∀ j, conv f (pp t.1 t.2.1 t.2.2) j = 0 := fun j => conv_none (.inr (leadP_ok.2 ht)) j
      have stay : ∀ (l : List (Nat × Nat × Option Bool)) (g : Nat → Nat), (∀ j, g j = 0) → ∀ j, l.foldl (fun f t => conv f (pp t.1 t.2.1 t.2.2)) g j = 0 := by
        intro l
        induction l with
        | nil => intro g hg; exact hg
        | cons t l ih => intro g hg; exact ih _ fun j => conv_none (.inl hg) j
      exact stay l _ z
    | some a =>
      dsimp only
      have := lead_go l _ (c + a) (conv_lead h (leadP_ok.1 a ht))
      refine ⟨fun k hk => ?_, fun hn => ?_⟩
      · cases hc : costL l with
        | none => rw [hc] at hk; cases hk
        | some b =>
          rw [hc] at hk
          cases hk
          have := this.1 b hc
          rw [Nat.add_assoc] at this
          exact this
      · cases hc : costL l with
        | none => exact this.2 hc
        | some b => rw [hc] at hn; cases hn
theorem cost_lead (l : List (Nat × Nat × Option Bool)) : (∀ k, costL l = some k → Lead (polyL l) k) ∧ (costL l = none → ∀ j, polyL l j = 0) := by
  have := lead_go l (fun j => if j = 0 then 1 else 0) 0 ⟨by simp, fun i hi => by omega⟩
  refine ⟨fun k hk => ?_, this.2⟩
  have := this.1 k hk
  rw [Nat.zero_add] at this
  exact this
end
end Dl
namespace Dl
open PySem PySem.Spec PyProof.Rows L2
variable {p : Nat} {rs : List Rw} {D b : Nat} {L : List Lk}
theorem chain_nat {ma mb mc : Mi Dt} {ρ : En} {x y z : Nat} (ha : ma ρ = .ok (nD x) ρ) (hb : mb ρ = .ok (nD y) ρ) (hc : mc ρ = .ok (nD z) ρ) : mB (mChain fLe fLt ma mb mc) ρ = .ok (decide (x ≤ y) && decide (y < z)) ρ := by
  refine tb_ok ?_
  refine bind_ok ha (bind_ok hb ?_)
  rw [fLe_nat]
  by_cases h : x ≤ y
  · rw [decide_eq_true h]
    refine bind_ok (a := .bl true) (ρ1 := ρ) rfl ?_
    rw [Bool.true_and]
    refine bind_ok hc ?_
    rw [fLt_nat]; rfl
  · rw [decide_eq_false h]
    exact bind_ok (a := .bl false) (ρ1 := ρ) rfl rfl
def dayL (rs : List Rw) (D w : Nat) : List Nat := (List.range D).filter (isDue rs w)
theorem ixv {ρ : En} {i : Nat} {m : Mi Dt} {s : Sl} {d y z : Dt} (h1 : ρ[i]? = some (some s)) (h2 : m ρ = .ok y ρ) (h3 : mPeek i ρ = .ok d ρ) (h4 : fIx d y = some z) : hasSl i (mIxV i m) ρ = .ok z ρ := by
  unfold hasSl
  rw [h1]
  exact bind_ok h2 (bind_ok h3 (by rw [h4]; rfl))
end Dl
namespace Dl
open PySem PySem.Spec PyProof.Rows L2
variable {p : Nat} {rs : List Rw} {D b : Nat} {L : List Lk}
theorem due_w {w : Nat} (hw : w < p) : ((dueP p rs D).filter fun q => decide (q.2 = w)) = (dayL rs D w).map fun d => (d, w) := by
  unfold dayL
  rw [← pick_w D w hw, List.map_map]
  have : ∀ l : List (Nat × Nat), (∀ q ∈ l, q.2 = w) → l = l.map ((fun d => (d, w)) ∘ (·.1)) := fun l h => by
    induction l with
    | nil => rfl
    | cons q l ih =>
      rw [List.map_cons, ← ih fun x hx => h x (List.mem_cons_of_mem _ hx)]
      congr 1
      have := h q (by simp)
      show q = (q.1, w)
      rw [← this]
  exact this _ fun q hq => of_decide_eq_true (List.mem_filter.mp hq).2
end Dl
namespace Dl
open PySem PySem.Spec PyProof.Rows L2
variable {p : Nat} {rs : List Rw} {D b : Nat} {L : List Lk}
def nO : Option Nat → Dt
  | none => .non
  | some k => nD k
def isE (g : Nat) (o : Option Bool) : Bool := match o with
  | none => true
  | some o => decide (g % 2 = 1) == o
theorem leadP_isE (g f : Nat) (o : Option Bool) : leadP g f o = if isE g o = true then some g else if f = 0 then none else some (g + 1) := by
  unfold leadP isE
  cases o with
  | none => simp
  | some o =>
    by_cases h : o = decide (g % 2 = 1)
    · rw [if_pos (.inr (by rw [h])), if_pos (by rw [h]; simp)]
    · have h2 : (decide (g % 2 = 1) == o) = false := by
        cases hb : (decide (g % 2 = 1) == o) with
        | false => rfl
        | true => exact absurd (beq_iff_eq.mp hb).symm h
      rw [if_neg (fun z => z.elim (fun z => nomatch z) fun z => h (Option.some.inj z))]
      exact (if_neg (show ¬ (decide (g % 2 = 1) == o) = true by rw [h2]; simp)).symm
def canB (c : Option Nat) (b : Nat) : Bool := match c with
  | none => false
  | some k => decide (k ≤ b)
end Dl
namespace Dl
open PySem PySem.Spec PyProof.Rows L2
variable {p : Nat} {rs : List Rw} {D b : Nat} {K L : List Lk}
/-! ### turnings and looks as a season holds them -/
theorem due_ok : DueOk p D (dueP p rs D) := ⟨dueP_nodup D, fun x hx => (mem_dueP.mp hx).1, fun x hx => (mem_dueP.mp hx).2.1⟩
def lt3 (a c : Lk) : Prop := a.1 < c.1 ∨ (a.1 = c.1 ∧ (a.2.1 < c.2.1 ∨ (a.2.1 = c.2.1 ∧ a.2.2 < c.2.2)))
theorem allLk_asc (p D : Nat) : (allLk p D).Pairwise lt3 := by
  unfold allLk
  rw [List.pairwise_flatMap]
  refine ⟨fun d _ => ?_, List.pairwise_lt_range.imp fun {a c} h x hx y hy => ?_⟩
  · rw [List.pairwise_flatMap]
    refine ⟨fun w _ => ?_, List.pairwise_lt_range.imp fun {a c} h x hx y hy => ?_⟩
    · rw [List.pairwise_flatMap]
      refine ⟨fun s _ => List.pairwise_singleton _ _, List.pairwise_lt_range.imp fun {a c} h x hx y hy => ?_⟩
      rw [List.mem_singleton.mp hx, List.mem_singleton.mp hy]
      exact .inr ⟨rfl, .inr ⟨rfl, h⟩⟩
    · obtain ⟨s, _, hx⟩ := List.mem_flatMap.mp hx
      obtain ⟨t, _, hy⟩ := List.mem_flatMap.mp hy
      rw [List.mem_singleton.mp hx, List.mem_singleton.mp hy]
      exact .inr ⟨rfl, .inl h⟩
  · obtain ⟨u, _, hx⟩ := List.mem_flatMap.mp hx
    obtain ⟨s, _, hx⟩ := List.mem_flatMap.mp hx
    obtain ⟨v, _, hy⟩ := List.mem_flatMap.mp hy
    obtain ⟨t, _, hy⟩ := List.mem_flatMap.mp hy
    rw [List.mem_singleton.mp hx, List.mem_singleton.mp hy]
    exact .inl h
theorem lks_ok (K : List Lk) : LooksOk p D (lksOf p D K) := by
  refine ⟨fun w => ?_, fun q hq => ?_, fun q hq => ?_, fun q hq => ?_⟩
  · unfold lkW
    rw [List.pairwise_map]
    have h1 : (lksOf p D K).Pairwise lt3 := (allLk_asc p D).filter _
    refine (h1.filter _).imp_of_mem fun {a c} ha hc h => ?_
    have e1 : a.2.1 = w := of_decide_eq_true (List.mem_filter.mp ha).2
    have e2 : c.2.1 = w := of_decide_eq_true (List.mem_filter.mp hc).2
    unfold lt3 at h
    unfold ltP
    dsimp only
    omega
  · exact (mem_allLk.mp (List.mem_filter.mp hq).1).1
  · exact (mem_allLk.mp (List.mem_filter.mp hq).1).2.1
  · exact (mem_allLk.mp (List.mem_filter.mp hq).1).2.2
/-! ### what fits -/
abbrev Pr := Nat × Nat
theorem side_sd (M : List Pr) {w : Nat} (hw : w < p) (d : Nat) : sdU (dueP p rs D) M w d = sideN rs D M d w := by
  unfold sdU sideN madeL
  rw [← List.countP_eq_length_filter]
  congr 1
  rw [show ((List.range D).filter (isDue rs w)) = dayL rs D w from rfl]
  have h := due_w (p := p) (rs := rs) (D := D) hw
  have e : (dueP p rs D).countP (fun x => decide (x.2 = w) && (decide (x.1 < d) && !decide (x ∈ M))) = ((dueP p rs D).filter fun q => decide (q.2 = w)).countP fun x => decide (x.1 < d) && !decide (x ∈ M) := by
    rw [List.countP_filter]
    apply List.countP_congr
    intro x _
    simp only [Bool.and_eq_true]
    exact ⟨fun z => ⟨z.2, z.1⟩, fun z => ⟨z.2, z.1⟩⟩
  rw [e, h, List.countP_map]
  rfl
def unK (rs : List Rw) (D : Nat) (K : List Lk) (M : List Pr) : Bool := K.all fun q => decide (sideN rs D M q.1 q.2.1 = q.2.2)
theorem unb_un (hK : ∀ q ∈ K, q.2.1 < p) (M : List Pr) : unb (dueP p rs D) K M = unK rs D K M := by
  unfold unb unK
  rw [Bool.eq_iff_iff, List.all_eq_true, List.all_eq_true]
  exact ⟨fun h q hq => by rw [← side_sd M (hK q hq)]; exact h q hq, fun h q hq => by rw [side_sd M (hK q hq)]; exact h q hq⟩
theorem unK_lks (hK : ∀ q ∈ K, GoodLk p D q) (M : List Pr) : unK rs D (lksOf p D K) M = unK rs D K M := by
  unfold unK
  rw [Bool.eq_iff_iff, List.all_eq_true, List.all_eq_true]
  exact ⟨fun h q hq => h q (mem_lks hq (hK q hq)), fun h q hq => h q (lks_mem hq)⟩
/-- all lots that fit, ascending -/
def fitL (p : Nat) (rs : List Rw) (D b : Nat) (K : List Lk) : List (List Pr) := (lots (dueP p rs D)).filter fun M => unK rs D K M && decide (M.length ≤ b)
theorem mem_fitL {M : List Pr} : M ∈ fitL p rs D b K ↔ M.Sublist (dueP p rs D) ∧ unK rs D K M = true ∧ M.length ≤ b := by
  unfold fitL
  rw [List.mem_filter, mem_lots, Bool.and_eq_true, decide_eq_true_eq]
/-- a season whose looks come of K -/
structure Sn (p : Nat) (rs : List Rw) (D b : Nat) (K : List Lk) : Prop where
  good : Good p rs
  rl : rs.length < 1000
  hp : p < 100
  D0 : 0 < D
  hD : D ≤ 60
  hb : b < 1000
  hK : ∀ q ∈ K, GoodLk p D q
  kl : K.length < 900
theorem Sn.un (h : Sn p rs D b K) (M : List Pr) : unb (dueP p rs D) (lksOf p D K) M = unK rs D K M := by
  rw [unb_un (fun q hq => (lks_good K q hq).w), unK_lks h.hK]
/-- the lots that fit, with some missed and some made -/
def wMN (p : Nat) (rs : List Rw) (D b : Nat) (K : List Lk) (M N : List Pr) : Nat := (fitL p rs D b K).countP (okMN M N (dueP p rs D))
theorem poly_cnt (h : Sn p rs D b K) {M N : List Pr} (hMN : ∀ x ∈ M, x ∉ N) (j : Nat) : polyL (numsOf (dueP p rs D) p D (lksOf p D K) M N) j = (lots (dueP p rs D)).countP fun x => (okMN M N (dueP p rs D) x && unK rs D K x) && decide (x.length = j) := by
  rw [← cnt_all due_ok (lks_ok K) hMN]
  unfold cntMN
  apply List.countP_congr
  intro x _
  rw [h.un]
theorem cost_min (h : Sn p rs D b K) {M N : List Pr} (hMN : ∀ x ∈ M, x ∉ N) :
    (∀ k, costL (numsOf (dueP p rs D) p D (lksOf p D K) M N) = some k → (∃ x, x.Sublist (dueP p rs D) ∧ okMN M N (dueP p rs D) x = true ∧ unK rs D K x = true ∧ x.length = k) ∧ ∀ x, x.Sublist (dueP p rs D) → okMN M N (dueP p rs D) x = true → unK rs D K x = true → k ≤ x.length) ∧
    (costL (numsOf (dueP p rs D) p D (lksOf p D K) M N) = none → ∀ x, x.Sublist (dueP p rs D) → okMN M N (dueP p rs D) x = true → unK rs D K x = false) := by
  obtain ⟨c1, c2⟩ := cost_lead (numsOf (dueP p rs D) p D (lksOf p D K) M N)
  refine ⟨fun k hk => ?_, fun hn x hx ho => ?_⟩
  · obtain ⟨h1, h2⟩ := c1 k hk
    rw [poly_cnt h hMN] at h1
    obtain ⟨x, hx, hP⟩ := List.countP_pos_iff.mp h1
    simp only [Bool.and_eq_true, decide_eq_true_eq] at hP
    refine ⟨⟨x, mem_lots.mp hx, hP.1.1, hP.1.2, hP.2⟩, fun y hy ho hu => ?_⟩
    rcases Nat.lt_or_ge y.length k with hlt | hge
    · have := h2 y.length hlt
      rw [poly_cnt h hMN, List.countP_eq_zero] at this
      exact absurd (show ((okMN M N (dueP p rs D) y && unK rs D K y) && decide (y.length = y.length)) = true by rw [ho, hu]; simp) (this y (mem_lots.mpr hy))
    · exact hge
  · have := c2 hn x.length
    rw [poly_cnt h hMN, List.countP_eq_zero] at this
    have := this x (mem_lots.mpr hx)
    rw [ho] at this
    simpa using this
theorem can_w (h : Sn p rs D b K) {M N : List Pr} (hMN : ∀ x ∈ M, x ∉ N) : canB (costL (numsOf (dueP p rs D) p D (lksOf p D K) M N)) b = decide (0 < wMN p rs D b K M N) := by
  obtain ⟨c1, c2⟩ := cost_min h hMN
  rw [Bool.eq_iff_iff, decide_eq_true_eq]
  unfold wMN
  rw [List.countP_pos_iff]
  cases hc : costL (numsOf (dueP p rs D) p D (lksOf p D K) M N) with
  | none =>
    refine ⟨fun z => (by cases z), fun ⟨x, hx, ho⟩ => ?_⟩
    obtain ⟨h1, h2, h3⟩ := mem_fitL.mp hx
    rw [c2 hc x h1 ho] at h2
    cases h2
  | some k =>
    obtain ⟨⟨x, x1, x2, x3, x4⟩, hmin⟩ := c1 k hc
    show decide (k ≤ b) = true ↔ _
    rw [decide_eq_true_eq]
    refine ⟨fun hk => ⟨x, mem_fitL.mpr ⟨x1, x3, by omega⟩, x2⟩, fun ⟨y, hy, ho⟩ => ?_⟩
    obtain ⟨h1, h2, h3⟩ := mem_fitL.mp hy
    have := hmin y h1 ho h2
    omega
end Dl
namespace Dl
open PySem PySem.Spec PyProof.Rows L2
variable {p : Nat} {rs : List Rw} {D b : Nat} {K L : List Lk}
def sideO (l : List Nat) : Dt := match l with
  | [s] => nD s
  | _ => .non
end Dl
namespace Dl
open PySem PySem.Spec PyProof.Rows L2
/-! ### == [] and != [] -/
/-! ### draws of a deal -/
def dlD (q : List Int × Int) : Dt := .deal q.1 q.2
abbrev Dq := { q : List Int × Int // q.1.length < 900 }
end Dl
namespace Dl
open PySem PySem.Spec PyProof.Rows L2
variable {p : Nat} {rs : List Rw} {D b : Nat} {K : List Lk}
theorem feq_nat (a b : Nat) : fEq (nD a) (nD b) = some (.bl (decide (a = b))) := (feq_int _ _).trans (by congr 2; exact decide_eq_decide.mpr (by omega))
/-! ### the side by the law -/
/-! ### drawn looks -/
/-! ### a season told -/
structure Told (most p : Nat) (rs : List Rw) (D b : Nat) (K : List Lk) : Prop where
  good : Good p rs
  p0 : 0 < p
  p3 : p ≤ 3
  l3 : rs.length ≤ 3
  D0 : 0 < D
  D6 : D ≤ 6
  b9 : b ≤ 18
  hK : ∀ x ∈ K, GoodLk p D x
  k5 : K.length ≤ 4
  due : (dueP p rs D).length ≤ max 3 most
def tE (p : Nat) (rs : List Rw) (most : Nat) (q : Dq) (D : Option Nat) (s4 s5 s6 : Option Dt) : En := [io (dlD q.1), vl (nD most), vl (toldD p rs), lv (D.map nD), lv s4, lv s5, lv s6]
def tC : Mi Bool := mAnd (mB (m2 fGt (m1 fLen (mCall 2 m_law_due (mCons (mVar 2) (mCons (mVar 3) (mPure []))))) (mPeek 1))) (mB (m2 fGt (mVar 3) (mPure (.int 1))))
def tB : En → So := sSet 3 (m2 fSub (mVar 3) (mPure (.int 1)))
end Dl
namespace Dl
open PySem PySem.Spec PyProof.Rows L2
variable {p : Nat} {rs : List Rw} {D b : Nat} {K : List Lk} {most : Nat}
theorem Told.n0 (h : Told most p rs D b K) : 0 < rs.length := h.good.n0
abbrev cstO (p : Nat) (rs : List Rw) (D : Nat) (K : List Lk) : Option Nat := costL (numsOf (dueP p rs D) p D (lksOf p D K) [] [])
def oDq : Option Dq → Option Sl
  | none => none
  | some q => ow (dlD q.1)
theorem no_flt {k : Nat} (o : Option Nat) : Flt k (nO o) := by cases o with
  | none => exact .non
  | some n => exact .int _
end Dl
namespace Dl
open PySem PySem.Spec PyProof.Rows L2
variable {p : Nat} {rs : List Rw} {D b : Nat} {K : List Lk} {most : Nat}
/-! ### whether a turning was missed -/
def anM (F : List (List Pr)) (x : Pr) : Bool := F.any fun M => decide (x ∈ M)
def anN (F : List (List Pr)) (x : Pr) : Bool := F.any fun M => !decide (x ∈ M)
theorem ok_m {U : List Pr} {x : Pr} (hx : x ∈ U) (M : List Pr) : okMN [x] [] U M = decide (x ∈ M) := by
  rw [Bool.eq_iff_iff, okMN_iff, decide_eq_true_eq]
  exact ⟨fun h => (h x hx).1 (by simp), fun h y _ => ⟨fun z => by rw [List.mem_singleton.mp z]; exact h, fun z => by cases z⟩⟩
theorem ok_n {U : List Pr} {x : Pr} (hx : x ∈ U) (M : List Pr) : okMN [] [x] U M = !decide (x ∈ M) := by
  rw [Bool.eq_iff_iff, okMN_iff]
  simp only [Bool.not_eq_true', decide_eq_false_iff_not]
  exact ⟨fun h => (h x hx).2 (by simp), fun h y _ => ⟨(fun z => by cases z), (fun z => by rw [List.mem_singleton.mp z]; exact h)⟩⟩
theorem pos_any {F : List (List Pr)} {f : List Pr → Bool} : decide (0 < F.countP f) = F.any f := by
  rw [Bool.eq_iff_iff, decide_eq_true_eq, List.countP_pos_iff, List.any_eq_true]
/-! ### sides shown -/
end Dl
namespace Dl
open PySem PySem.Spec PyProof.Rows L2
/-! ### steps that leave the slots as they are -/
section
variable {ρ ρ1 ρ2 : En} {i j n : Nat} {m ma mb : Mi Dt} {ms : Mi (List Dt)} {d r x y z : Dt} {ds : List Dt} {f : List Dt → Fo} {s : Option Dt} {t : Sl} {io0 : Bool}
theorem sl_lv (h : ρ[i]? = some (lv s)) : setSl i t ρ = some (ρ.set i (some t)) := by unfold setSl; rw [h]; cases s <;> rfl
theorem sl_vl (h : ρ[i]? = some (some (.val d))) : setSl i t ρ = some (ρ.set i (some t)) := by unfold setSl; rw [h]
theorem sl_ow (h : ρ[i]? = some (some (.own false d))) : setSl i t ρ = some (ρ.set i (some t)) := by unfold setSl; rw [h]
theorem sl_no (h : ρ[i]? = some none) : setSl i t ρ = some (ρ.set i (some t)) := by unfold setSl; rw [h]
end
end Dl
namespace Dl
open PySem PySem.Spec PyProof.Rows L2
/-! ### what the step words lean on -/
section
variable {α : Type} {ρ ρ1 ρ2 ρ3 : En} {i j n : Nat} {m ma mb : Mi Dt} {ms : Mi (List Dt)} {d r x y z : Dt} {ds : List Dt} {f : List Dt → Fo} {s : Option Dt} {t : Sl} {io0 : Bool} {c : Mi Bool} {a b : Nat}
theorem var_ok (h : ρ[i]? = some (some (.val d))) : mVar i ρ = .ok d ρ := by unfold mVar; rw [h]
theorem peek_ok (h : ρ[i]? = some (some (.val d))) : mPeek i ρ = .ok d ρ := by unfold mPeek; rw [h]
theorem peek_ow (h : ρ[i]? = some (some (.own io0 d))) : mPeek i ρ = .ok d ρ := by unfold mPeek; rw [h]
theorem pure_ok {a : α} : mPure a ρ = .ok a ρ := rfl
theorem lit_ok {k : Nat} : mPure (Dt.int (OfNat.ofNat k : Int)) ρ = .ok (nD (OfNat.ofNat k)) ρ := rfl
theorem chain_ge {ma mb mc : Mi Dt} {ρ : En} {x y z : Nat} (ha : ma ρ = .ok (nD x) ρ) (hb : mb ρ = .ok (nD y) ρ) (hc : mc ρ = .ok (nD z) ρ) : mB (mChain fGe fGe ma mb mc) ρ = .ok (decide (y ≤ x) && decide (z ≤ y)) ρ := by
  refine tb_ok ?_
  refine bind_ok ha (bind_ok hb ?_)
  rw [ge_nat]
  by_cases h : y ≤ x
  · rw [decide_eq_true h]
    refine bind_ok (a := .bl true) (ρ1 := ρ) rfl ?_
    rw [Bool.true_and]
    refine bind_ok hc ?_
    rw [ge_nat]; rfl
  · rw [decide_eq_false h]
    exact bind_ok (a := .bl false) (ρ1 := ρ) rfl rfl
theorem chain_ge_t {ma mb mc : Mi Dt} {x y z : Nat} (ha : ma ρ = .ok (nD x) ρ) (hb : mb ρ = .ok (nD y) ρ) (hc : mc ρ = .ok (nD z) ρ) (h1 : y ≤ x) (h2 : z ≤ y) : mB (mChain fGe fGe ma mb mc) ρ = .ok true ρ := by
  rw [chain_ge ha hb hc, decide_eq_true h1, decide_eq_true h2]; rfl
theorem chainT {ma mb mc : Mi Dt} {x y z : Nat} (ha : ma ρ = .ok (nD x) ρ) (hb : mb ρ = .ok (nD y) ρ) (hc : mc ρ = .ok (nD z) ρ) (h1 : x ≤ y) (h2 : y < z) : mB (mChain fLe fLt ma mb mc) ρ = .ok true ρ := by
  rw [chain_nat ha hb hc, decide_eq_true h1, decide_eq_true h2]; rfl
theorem callQ' (h : ms ρ = .ok ds ρ1) (hn : ds.length = n) (hf : f ds = .ret d r) : mCall n f ms ρ = .ok d ρ1 := call_ok h hn hf
theorem methQ {c : Nat} {S : Dt} (hm : m ρ = .ok S ρ1) (h : ms ρ1 = .ok ds ρ2) (hn : ds.length + 1 = n) (hf : f (S :: ds) = .ret d r) (hS : ∃ vs, S = .ins c vs) : mMeth c n f m ms ρ = .ok d ρ2 := by
  obtain ⟨vs, rfl⟩ := hS
  exact meth_ok hm h hn hf
theorem callJ {io1 : Bool} (h0 : ρ[i]? = some (some (.own io0 x))) (h : ms ρ = .ok ds ρ1) (h1 : ρ1[i]? = some (some (.own io1 y))) (hn : ds.length + 1 = n) (hf : f (y :: ds) = .ret d r) : mCallIo n f i ms ρ = .ok d (ρ1.set i (some (.own io1 r))) := callIo_ok h0 h h1 hn hf rfl
theorem not_f (h : c ρ = .ok true ρ1) : mNot c ρ = .ok false ρ1 := not_ok h
theorem not_t (h : c ρ = .ok false ρ1) : mNot c ρ = .ok true ρ1 := not_ok h
theorem ixv' {s : Sl} (h1 : ρ[i]? = some (some s)) (h2 : m ρ = .ok y ρ) (h3 : mPeek i ρ = .ok d ρ) (h4 : fIx d y = some z) : hasSl i (mIxV i m) ρ = .ok z ρ := ixv h1 h2 h3 h4
theorem pars2_ok (h : ms ρ = .ok [x, y] ρ1) (k1 : setSl i (.val x) ρ1 = some ρ2) (k2 : setSl j (.val y) ρ2 = some ρ3) : sPars [i, j] [false, false] ms ρ = .nx ρ3 := pars_ok h (by show (setSl i (.val x) ρ1).bind _ = _; rw [k1]; show (setSl j (.val y) ρ2).bind _ = _; rw [k2]; rfl)
theorem lt_f (h : ¬ a < b) : fLt (nD a) (nD b) = some (.bl false) := by rw [fLt_nat, decide_eq_false h]
theorem lt_t (h : a < b) : fLt (nD a) (nD b) = some (.bl true) := by rw [fLt_nat, decide_eq_true h]
theorem le_f (h : ¬ a ≤ b) : fLe (nD a) (nD b) = some (.bl false) := by rw [fLe_nat, decide_eq_false h]
theorem le_t (h : a ≤ b) : fLe (nD a) (nD b) = some (.bl true) := by rw [fLe_nat, decide_eq_true h]
theorem gt_f (h : ¬ b < a) : fGt (nD a) (nD b) = some (.bl false) := by rw [gt_nat, decide_eq_false h]
theorem gt_t (h : b < a) : fGt (nD a) (nD b) = some (.bl true) := by rw [gt_nat, decide_eq_true h]
theorem ge_f (h : ¬ b ≤ a) : fGe (nD a) (nD b) = some (.bl false) := by rw [ge_nat, decide_eq_false h]
theorem ge_t (h : b ≤ a) : fGe (nD a) (nD b) = some (.bl true) := by rw [ge_nat, decide_eq_true h]
theorem eq_f (h : ¬ a = b) : fEq (nD a) (nD b) = some (.bl false) := by rw [feq_nat, decide_eq_false h]
theorem eq_t (h : a = b) : fEq (nD a) (nD b) = some (.bl true) := by rw [feq_nat, decide_eq_true h]
theorem ne_f (h : a = b) : fNe (nD a) (nD b) = some (.bl false) := by rw [fne_nat, decide_eq_true h]; rfl
theorem ne_t (h : ¬ a = b) : fNe (nD a) (nD b) = some (.bl true) := by rw [fne_nat, decide_eq_false h]; rfl
theorem flt_tup_nats {k : Nat} (l : List Nat) : Flt (k + 1) (.tup (l.map nD)) := .tup (flt_nats l)
theorem flt_lst_nats {k : Nat} (l : List Nat) : Flt (k + 1) (.lst (l.map nD)) := .lst (flt_nats l)
theorem flt_side {k : Nat} (l : List Nat) : Flt k (sideO l) := by
  unfold sideO
  split
  · exact .int _
  · exact .non
theorem sl_dq {ρ : En} {i : Nat} {q : Option Dq} {t : Sl} (h : ρ[i]? = some (oDq q)) : setSl i t ρ = some (ρ.set i (some t)) := by unfold setSl; rw [h]; cases q <;> rfl
end
end Dl
namespace Dl
open PySem PySem.Spec PyProof.Rows L2
variable {p : Nat} {rs : List Rw} {D b : Nat} {K : List Lk} {most : Nat}
def cellM (k : Nat) (ns : List Int) : Nat := max 1 (min k ns.length)
theorem cellsM_ok {k : Nat} (hk : k < 100) {ns : List Int} {ρ : En} (h : ρ[0]? = some (vl (.scr ns))) : mRng1 (mCons (m2 fMax2 (mPure (.int 1)) (m2 fMin2 (mPure (.int k)) (m1 fLen (mPeek 0)))) (mPure [])) ρ = .ok ((List.range (cellM k ns)).map nD) ρ := by
  refine rngN_ok (cons_ok (m2_ok rfl (m2_ok rfl (m1_ok (x := .scr ns) (z := nD ns.length) ?_ rfl) rfl) ?_) rfl) (by unfold cellM; omega)
  · unfold mPeek; rw [h]
  · show some (Dt.int _) = some (Dt.int _)
    congr 2
    unfold cellM
    show (if (if (ns.length : Int) < k then (ns.length : Int) else k) > 1 then (if (ns.length : Int) < k then (ns.length : Int) else k) else 1) = _
    split <;> split <;> omega
/-! ### the lots that a look leaves -/
end Dl
namespace Dl
open PySem PySem.Spec PyProof.Rows L2
variable {p : Nat} {rs : List Rw} {D b : Nat} {K : List Lk} {most : Nat}
local macro_rules | `(tactic| array_mem_dec) => `(tactic| first
  | with_reducible assumption
  | with_reducible exact fAdd_nat _ _
  | with_reducible exact fMul_nat _ _ (by omega)
  | with_reducible exact fSub_nat (by first | assumption | omega)
  | with_reducible exact lt_f (by first | assumption | omega)
  | with_reducible exact lt_t (by first | assumption | omega)
  | with_reducible exact le_f (by first | assumption | omega)
  | with_reducible exact le_t (by first | assumption | omega)
  | with_reducible exact gt_f (by first | assumption | omega)
  | with_reducible exact gt_t (by first | assumption | omega)
  | with_reducible exact ge_f (by first | assumption | omega)
  | with_reducible exact ge_t (by first | assumption | omega)
  | with_reducible exact eq_f (by first | assumption | omega)
  | with_reducible exact eq_t (by first | assumption | omega)
  | with_reducible exact ne_f (by first | assumption | omega)
  | with_reducible exact ne_t (by first | assumption | omega)
  | with_reducible exact feq_nat _ _
  | with_reducible exact fne_nat _ _
  | with_reducible exact fLt_nat _ _
  | with_reducible exact fLe_nat _ _
  | with_reducible exact gt_nat _ _
  | with_reducible exact ge_nat _ _
  | with_reducible exact len_lst _ _
  | with_reducible exact len_tup _ _
  | with_reducible exact fne_self (k := 2) (by first | assumption | exact .int _ | exact .bl _ | exact .non | exact flt_tup_nats _ | exact flt_lst_nats _ | exact flt_side _ | exact flt_str _) (by decide)
  | with_reducible exact feq_self (k := 2) (by first | assumption | exact .int _ | exact .bl _ | exact .non | exact flt_tup_nats _ | exact flt_lst_nats _ | exact flt_side _ | exact flt_str _) (by decide)
  | rfl)
local macro_rules | `(tactic| array_get_dec) => `(tactic| first
  | ((with_reducible apply var_ok); rfl)
  | ((with_reducible apply peek_ok); rfl)
  | ((with_reducible apply peek_ow); rfl)
  | with_reducible exact lit_ok
  | with_reducible exact pure_ok
  | ((with_reducible apply cons_ok); array_get_dec; array_get_dec)
  | ((with_reducible apply callQ'); array_get_dec; rfl; with_reducible assumption)
  | ((with_reducible apply methQ); array_get_dec; array_get_dec; rfl; (with_reducible assumption); exact ⟨_, rfl⟩)
  | ((with_reducible apply callJ); rfl; array_get_dec; rfl; rfl; with_reducible assumption)
  | ((with_reducible apply m2_ok); array_get_dec; array_get_dec; array_mem_dec)
  | ((with_reducible apply m1_ok); array_get_dec; array_mem_dec)
  | ((with_reducible apply m1N_ok); array_get_dec; array_mem_dec)
  | ((with_reducible apply tup_ok); array_get_dec; exact sl_le (by simp))
  | ((with_reducible apply lst_ok); array_get_dec; exact sl_le (by simp))
  | ((with_reducible apply chain_ge_t); array_get_dec; array_get_dec; array_get_dec; omega; omega)
  | ((with_reducible apply chainT); array_get_dec; array_get_dec; array_get_dec; omega; omega)
  | ((with_reducible apply tb_ok); array_get_dec)
  | ((with_reducible apply not_f); array_get_dec)
  | ((with_reducible apply not_t); array_get_dec)
  | ((with_reducible apply not_ok); array_get_dec)
  | ((with_reducible apply and_t); array_get_dec; array_get_dec)
  | ((with_reducible apply and_f); array_get_dec)
  | ((with_reducible apply or_f); array_get_dec; array_get_dec)
  | ((with_reducible apply or_t); array_get_dec)
  | ((with_reducible apply ixv'); rfl; array_get_dec; rfl; array_mem_dec)
  | with_reducible assumption)
local macro_rules | `(tactic| decreasing_trivial) => `(tactic| first
  | ((with_reducible apply sl_lv); rfl)
  | ((with_reducible apply sl_vl); rfl)
  | ((with_reducible apply sl_no); rfl)
  | ((with_reducible apply sl_ow); rfl)
  | ((with_reducible apply sl_dq); rfl))
local macro_rules | `(tactic| get_elem_tactic_extensible) => `(tactic| first
  | ((with_reducible apply set_ok); array_get_dec; decreasing_trivial)
  | ((with_reducible apply setN_ok); array_get_dec; decreasing_trivial)
  | ((with_reducible apply pars2_ok); array_get_dec; decreasing_trivial; decreasing_trivial)
  | ((with_reducible apply drop_ok); array_get_dec)
  | ((with_reducible apply if_f (t := fun ρ => So.nx ρ)); array_get_dec; rfl)
  | ((with_reducible apply if_f); array_get_dec; rfl))
/-! ### dicts of pairs by a comprehension -/
/-! ### how long a wheel lay: all cases -/
end Dl
namespace Dl
open PySem PySem.Spec PyProof.Rows L2
variable {p : Nat} {rs : List Rw} {D b : Nat} {K : List Lk} {most : Nat}
local macro_rules | `(tactic| array_mem_dec) => `(tactic| first
  | with_reducible assumption
  | with_reducible exact fAdd_nat _ _
  | with_reducible exact fMul_nat _ _ (by omega)
  | with_reducible exact fSub_nat (by first | assumption | omega)
  | with_reducible exact lt_f (by first | assumption | omega)
  | with_reducible exact lt_t (by first | assumption | omega)
  | with_reducible exact le_f (by first | assumption | omega)
  | with_reducible exact le_t (by first | assumption | omega)
  | with_reducible exact gt_f (by first | assumption | omega)
  | with_reducible exact gt_t (by first | assumption | omega)
  | with_reducible exact ge_f (by first | assumption | omega)
  | with_reducible exact ge_t (by first | assumption | omega)
  | with_reducible exact eq_f (by first | assumption | omega)
  | with_reducible exact eq_t (by first | assumption | omega)
  | with_reducible exact ne_f (by first | assumption | omega)
  | with_reducible exact ne_t (by first | assumption | omega)
  | with_reducible exact feq_nat _ _
  | with_reducible exact fne_nat _ _
  | with_reducible exact fLt_nat _ _
  | with_reducible exact fLe_nat _ _
  | with_reducible exact gt_nat _ _
  | with_reducible exact ge_nat _ _
  | with_reducible exact len_lst _ _
  | with_reducible exact len_tup _ _
  | with_reducible exact fne_self (k := 2) (by first | assumption | exact .int _ | exact .bl _ | exact .non | exact flt_tup_nats _ | exact flt_lst_nats _ | exact flt_side _ | exact flt_str _) (by decide)
  | with_reducible exact feq_self (k := 2) (by first | assumption | exact .int _ | exact .bl _ | exact .non | exact flt_tup_nats _ | exact flt_lst_nats _ | exact flt_side _ | exact flt_str _) (by decide)
  | rfl)
local macro_rules | `(tactic| array_get_dec) => `(tactic| first
  | ((with_reducible apply var_ok); rfl)
  | ((with_reducible apply peek_ok); rfl)
  | ((with_reducible apply peek_ow); rfl)
  | with_reducible exact lit_ok
  | with_reducible exact pure_ok
  | ((with_reducible apply cons_ok); array_get_dec; array_get_dec)
  | ((with_reducible apply callQ'); array_get_dec; rfl; with_reducible assumption)
  | ((with_reducible apply methQ); array_get_dec; array_get_dec; rfl; (with_reducible assumption); exact ⟨_, rfl⟩)
  | ((with_reducible apply callJ); rfl; array_get_dec; rfl; rfl; with_reducible assumption)
  | ((with_reducible apply m2_ok); array_get_dec; array_get_dec; array_mem_dec)
  | ((with_reducible apply m1_ok); array_get_dec; array_mem_dec)
  | ((with_reducible apply m1N_ok); array_get_dec; array_mem_dec)
  | ((with_reducible apply tup_ok); array_get_dec; exact sl_le (by simp))
  | ((with_reducible apply lst_ok); array_get_dec; exact sl_le (by simp))
  | ((with_reducible apply chain_ge_t); array_get_dec; array_get_dec; array_get_dec; omega; omega)
  | ((with_reducible apply chainT); array_get_dec; array_get_dec; array_get_dec; omega; omega)
  | ((with_reducible apply tb_ok); array_get_dec)
  | ((with_reducible apply not_f); array_get_dec)
  | ((with_reducible apply not_t); array_get_dec)
  | ((with_reducible apply not_ok); array_get_dec)
  | ((with_reducible apply and_t); array_get_dec; array_get_dec)
  | ((with_reducible apply and_f); array_get_dec)
  | ((with_reducible apply or_f); array_get_dec; array_get_dec)
  | ((with_reducible apply or_t); array_get_dec)
  | ((with_reducible apply ixv'); rfl; array_get_dec; rfl; array_mem_dec)
  | with_reducible assumption)
local macro_rules | `(tactic| decreasing_trivial) => `(tactic| first
  | ((with_reducible apply sl_lv); rfl)
  | ((with_reducible apply sl_vl); rfl)
  | ((with_reducible apply sl_no); rfl)
  | ((with_reducible apply sl_ow); rfl)
  | ((with_reducible apply sl_dq); rfl))
local macro_rules | `(tactic| get_elem_tactic_extensible) => `(tactic| first
  | ((with_reducible apply set_ok); array_get_dec; decreasing_trivial)
  | ((with_reducible apply setN_ok); array_get_dec; decreasing_trivial)
  | ((with_reducible apply pars2_ok); array_get_dec; decreasing_trivial; decreasing_trivial)
  | ((with_reducible apply drop_ok); array_get_dec)
  | ((with_reducible apply if_f (t := fun ρ => So.nx ρ)); array_get_dec; rfl)
  | ((with_reducible apply if_f); array_get_dec; rfl))
/-! ### the longest case -/
end Dl
namespace Dl
open PySem PySem.Spec PyProof.Rows L2
variable {p : Nat} {rs : List Rw} {D b : Nat} {K : List Lk} {most : Nat}
local macro_rules | `(tactic| array_mem_dec) => `(tactic| first
  | with_reducible assumption
  | with_reducible exact fAdd_nat _ _
  | with_reducible exact fMul_nat _ _ (by omega)
  | with_reducible exact fSub_nat (by first | assumption | omega)
  | with_reducible exact lt_f (by first | assumption | omega)
  | with_reducible exact lt_t (by first | assumption | omega)
  | with_reducible exact le_f (by first | assumption | omega)
  | with_reducible exact le_t (by first | assumption | omega)
  | with_reducible exact gt_f (by first | assumption | omega)
  | with_reducible exact gt_t (by first | assumption | omega)
  | with_reducible exact ge_f (by first | assumption | omega)
  | with_reducible exact ge_t (by first | assumption | omega)
  | with_reducible exact eq_f (by first | assumption | omega)
  | with_reducible exact eq_t (by first | assumption | omega)
  | with_reducible exact ne_f (by first | assumption | omega)
  | with_reducible exact ne_t (by first | assumption | omega)
  | with_reducible exact feq_nat _ _
  | with_reducible exact fne_nat _ _
  | with_reducible exact fLt_nat _ _
  | with_reducible exact fLe_nat _ _
  | with_reducible exact gt_nat _ _
  | with_reducible exact ge_nat _ _
  | with_reducible exact len_lst _ _
  | with_reducible exact len_tup _ _
  | with_reducible exact fne_self (k := 2) (by first | assumption | exact .int _ | exact .bl _ | exact .non | exact flt_tup_nats _ | exact flt_lst_nats _ | exact flt_side _ | exact flt_str _) (by decide)
  | with_reducible exact feq_self (k := 2) (by first | assumption | exact .int _ | exact .bl _ | exact .non | exact flt_tup_nats _ | exact flt_lst_nats _ | exact flt_side _ | exact flt_str _) (by decide)
  | rfl)
local macro_rules | `(tactic| array_get_dec) => `(tactic| first
  | ((with_reducible apply var_ok); rfl)
  | ((with_reducible apply peek_ok); rfl)
  | ((with_reducible apply peek_ow); rfl)
  | with_reducible exact lit_ok
  | with_reducible exact pure_ok
  | ((with_reducible apply cons_ok); array_get_dec; array_get_dec)
  | ((with_reducible apply callQ'); array_get_dec; rfl; with_reducible assumption)
  | ((with_reducible apply methQ); array_get_dec; array_get_dec; rfl; (with_reducible assumption); exact ⟨_, rfl⟩)
  | ((with_reducible apply callJ); rfl; array_get_dec; rfl; rfl; with_reducible assumption)
  | ((with_reducible apply m2_ok); array_get_dec; array_get_dec; array_mem_dec)
  | ((with_reducible apply m1_ok); array_get_dec; array_mem_dec)
  | ((with_reducible apply m1N_ok); array_get_dec; array_mem_dec)
  | ((with_reducible apply tup_ok); array_get_dec; exact sl_le (by simp))
  | ((with_reducible apply lst_ok); array_get_dec; exact sl_le (by simp))
  | ((with_reducible apply chain_ge_t); array_get_dec; array_get_dec; array_get_dec; omega; omega)
  | ((with_reducible apply chainT); array_get_dec; array_get_dec; array_get_dec; omega; omega)
  | ((with_reducible apply tb_ok); array_get_dec)
  | ((with_reducible apply not_f); array_get_dec)
  | ((with_reducible apply not_t); array_get_dec)
  | ((with_reducible apply not_ok); array_get_dec)
  | ((with_reducible apply and_t); array_get_dec; array_get_dec)
  | ((with_reducible apply and_f); array_get_dec)
  | ((with_reducible apply or_f); array_get_dec; array_get_dec)
  | ((with_reducible apply or_t); array_get_dec)
  | ((with_reducible apply ixv'); rfl; array_get_dec; rfl; array_mem_dec)
  | with_reducible assumption)
local macro_rules | `(tactic| decreasing_trivial) => `(tactic| first
  | ((with_reducible apply sl_lv); rfl)
  | ((with_reducible apply sl_vl); rfl)
  | ((with_reducible apply sl_no); rfl)
  | ((with_reducible apply sl_ow); rfl)
  | ((with_reducible apply sl_dq); rfl))
local macro_rules | `(tactic| get_elem_tactic_extensible) => `(tactic| first
  | ((with_reducible apply set_ok); array_get_dec; decreasing_trivial)
  | ((with_reducible apply setN_ok); array_get_dec; decreasing_trivial)
  | ((with_reducible apply pars2_ok); array_get_dec; decreasing_trivial; decreasing_trivial)
  | ((with_reducible apply drop_ok); array_get_dec)
  | ((with_reducible apply if_f (t := fun ρ => So.nx ρ)); array_get_dec; rfl)
  | ((with_reducible apply if_f); array_get_dec; rfl))
end Dl
namespace Dl
open PySem PySem.Spec PyProof.Rows L2
variable {p : Nat} {rs : List Rw} {D b : Nat} {K : List Lk} {most : Nat}
local macro_rules | `(tactic| array_mem_dec) => `(tactic| first
  | with_reducible assumption
  | with_reducible exact fAdd_nat _ _
  | with_reducible exact fMul_nat _ _ (by omega)
  | with_reducible exact fSub_nat (by first | assumption | omega)
  | with_reducible exact lt_f (by first | assumption | omega)
  | with_reducible exact lt_t (by first | assumption | omega)
  | with_reducible exact le_f (by first | assumption | omega)
  | with_reducible exact le_t (by first | assumption | omega)
  | with_reducible exact gt_f (by first | assumption | omega)
  | with_reducible exact gt_t (by first | assumption | omega)
  | with_reducible exact ge_f (by first | assumption | omega)
  | with_reducible exact ge_t (by first | assumption | omega)
  | with_reducible exact eq_f (by first | assumption | omega)
  | with_reducible exact eq_t (by first | assumption | omega)
  | with_reducible exact ne_f (by first | assumption | omega)
  | with_reducible exact ne_t (by first | assumption | omega)
  | with_reducible exact feq_nat _ _
  | with_reducible exact fne_nat _ _
  | with_reducible exact fLt_nat _ _
  | with_reducible exact fLe_nat _ _
  | with_reducible exact gt_nat _ _
  | with_reducible exact ge_nat _ _
  | with_reducible exact len_lst _ _
  | with_reducible exact len_tup _ _
  | ((with_reducible apply fne_self (k := 2)); (first | with_reducible assumption | exact .int _ | exact .bl _ | exact .non | exact flt_tup_nats _ | exact flt_lst_nats _ | exact flt_side _ | exact flt_str _ | exact no_flt _ | exact .tup (flt_prs _) | exact .lst (flt_prs _)); decide)
  | ((with_reducible apply feq_self (k := 2)); (first | with_reducible assumption | exact .int _ | exact .bl _ | exact .non | exact flt_tup_nats _ | exact flt_lst_nats _ | exact flt_side _ | exact flt_str _ | exact no_flt _ | exact .tup (flt_prs _) | exact .lst (flt_prs _)); decide)
  | rfl)
local macro_rules | `(tactic| array_get_dec) => `(tactic| first
  | ((with_reducible apply var_ok); rfl)
  | ((with_reducible apply peek_ok); rfl)
  | ((with_reducible apply peek_ow); rfl)
  | with_reducible exact lit_ok
  | with_reducible exact pure_ok
  | ((with_reducible apply cons_ok); array_get_dec; array_get_dec)
  | ((with_reducible apply callQ'); array_get_dec; rfl; with_reducible assumption)
  | ((with_reducible apply methQ); array_get_dec; array_get_dec; rfl; (with_reducible assumption); exact ⟨_, rfl⟩)
  | ((with_reducible apply callJ); rfl; array_get_dec; rfl; rfl; with_reducible assumption)
  | ((with_reducible apply m2_ok); array_get_dec; array_get_dec; array_mem_dec)
  | ((with_reducible apply m1_ok); array_get_dec; array_mem_dec)
  | ((with_reducible apply m1N_ok); array_get_dec; array_mem_dec)
  | ((with_reducible apply tup_ok); array_get_dec; exact sl_le (by simp))
  | ((with_reducible apply lst_ok); array_get_dec; exact sl_le (by simp))
  | ((with_reducible apply chain_ge_t); array_get_dec; array_get_dec; array_get_dec; omega; omega)
  | ((with_reducible apply chainT); array_get_dec; array_get_dec; array_get_dec; omega; omega)
  | ((with_reducible apply tb_ok); array_get_dec)
  | ((with_reducible apply not_f); array_get_dec)
  | ((with_reducible apply not_t); array_get_dec)
  | ((with_reducible apply not_ok); array_get_dec)
  | ((with_reducible apply and_t); array_get_dec; array_get_dec)
  | ((with_reducible apply and_f); array_get_dec)
  | ((with_reducible apply or_f); array_get_dec; array_get_dec)
  | ((with_reducible apply or_t); array_get_dec)
  | ((with_reducible apply ixv'); rfl; array_get_dec; rfl; array_mem_dec)
  | with_reducible assumption)
local macro_rules | `(tactic| decreasing_trivial) => `(tactic| first
  | ((with_reducible apply sl_lv); rfl)
  | ((with_reducible apply sl_vl); rfl)
  | ((with_reducible apply sl_no); rfl)
  | ((with_reducible apply sl_ow); rfl)
  | ((with_reducible apply sl_dq); rfl))
local macro_rules | `(tactic| get_elem_tactic_extensible) => `(tactic| first
  | ((with_reducible apply set_ok); array_get_dec; decreasing_trivial)
  | ((with_reducible apply setN_ok); array_get_dec; decreasing_trivial)
  | ((with_reducible apply pars2_ok); array_get_dec; decreasing_trivial; decreasing_trivial)
  | ((with_reducible apply drop_ok); array_get_dec)
  | ((with_reducible apply if_f (t := fun ρ => So.nx ρ)); array_get_dec; rfl)
  | ((with_reducible apply if_f); array_get_dec; rfl))
/-! ### the fewest misses with some missed and some made -/
end Dl
namespace Dl
open PySem PySem.Spec PyProof.Rows L2
variable {p : Nat} {rs : List Rw} {D b : Nat} {K L : List Lk} {most : Nat}
local macro_rules | `(tactic| array_mem_dec) => `(tactic| first
  | with_reducible assumption
  | with_reducible exact fAdd_nat _ _
  | with_reducible exact fMul_nat _ _ (by omega)
  | with_reducible exact fSub_nat (by first | assumption | omega)
  | with_reducible exact lt_f (by first | assumption | omega)
  | with_reducible exact lt_t (by first | assumption | omega)
  | with_reducible exact le_f (by first | assumption | omega)
  | with_reducible exact le_t (by first | assumption | omega)
  | with_reducible exact gt_f (by first | assumption | omega)
  | with_reducible exact gt_t (by first | assumption | omega)
  | with_reducible exact ge_f (by first | assumption | omega)
  | with_reducible exact ge_t (by first | assumption | omega)
  | with_reducible exact eq_f (by first | assumption | omega)
  | with_reducible exact eq_t (by first | assumption | omega)
  | with_reducible exact ne_f (by first | assumption | omega)
  | with_reducible exact ne_t (by first | assumption | omega)
  | with_reducible exact feq_nat _ _
  | with_reducible exact fne_nat _ _
  | with_reducible exact fLt_nat _ _
  | with_reducible exact fLe_nat _ _
  | with_reducible exact gt_nat _ _
  | with_reducible exact ge_nat _ _
  | with_reducible exact len_lst _ _
  | with_reducible exact len_tup _ _
  | ((with_reducible apply fne_self (k := 2)); (first | with_reducible assumption | exact .int _ | exact .bl _ | exact .non | exact flt_tup_nats _ | exact flt_lst_nats _ | exact flt_side _ | exact flt_str _ | exact no_flt _ | exact .tup (flt_prs _) | exact .lst (flt_prs _)); decide)
  | ((with_reducible apply feq_self (k := 2)); (first | with_reducible assumption | exact .int _ | exact .bl _ | exact .non | exact flt_tup_nats _ | exact flt_lst_nats _ | exact flt_side _ | exact flt_str _ | exact no_flt _ | exact .tup (flt_prs _) | exact .lst (flt_prs _)); decide)
  | rfl)
local macro_rules | `(tactic| array_get_dec) => `(tactic| first
  | ((with_reducible apply var_ok); rfl)
  | ((with_reducible apply peek_ok); rfl)
  | ((with_reducible apply peek_ow); rfl)
  | with_reducible exact lit_ok
  | with_reducible exact pure_ok
  | ((with_reducible apply cons_ok); array_get_dec; array_get_dec)
  | ((with_reducible apply callQ'); array_get_dec; rfl; with_reducible assumption)
  | ((with_reducible apply methQ); array_get_dec; array_get_dec; rfl; (with_reducible assumption); exact ⟨_, rfl⟩)
  | ((with_reducible apply callJ); rfl; array_get_dec; rfl; rfl; with_reducible assumption)
  | ((with_reducible apply m2_ok); array_get_dec; array_get_dec; array_mem_dec)
  | ((with_reducible apply m1_ok); array_get_dec; array_mem_dec)
  | ((with_reducible apply m1N_ok); array_get_dec; array_mem_dec)
  | ((with_reducible apply tup_ok); array_get_dec; exact sl_le (by simp))
  | ((with_reducible apply lst_ok); array_get_dec; exact sl_le (by simp))
  | ((with_reducible apply chain_ge_t); array_get_dec; array_get_dec; array_get_dec; omega; omega)
  | ((with_reducible apply chainT); array_get_dec; array_get_dec; array_get_dec; omega; omega)
  | ((with_reducible apply tb_ok); array_get_dec)
  | ((with_reducible apply not_f); array_get_dec)
  | ((with_reducible apply not_t); array_get_dec)
  | ((with_reducible apply not_ok); array_get_dec)
  | ((with_reducible apply and_t); array_get_dec; array_get_dec)
  | ((with_reducible apply and_f); array_get_dec)
  | ((with_reducible apply or_f); array_get_dec; array_get_dec)
  | ((with_reducible apply or_t); array_get_dec)
  | ((with_reducible apply ixv'); rfl; array_get_dec; rfl; array_mem_dec)
  | with_reducible assumption)
local macro_rules | `(tactic| decreasing_trivial) => `(tactic| first
  | ((with_reducible apply sl_lv); rfl)
  | ((with_reducible apply sl_vl); rfl)
  | ((with_reducible apply sl_no); rfl)
  | ((with_reducible apply sl_ow); rfl)
  | ((with_reducible apply sl_dq); rfl))
local macro_rules | `(tactic| get_elem_tactic_extensible) => `(tactic| first
  | ((with_reducible apply set_ok); array_get_dec; decreasing_trivial)
  | ((with_reducible apply setN_ok); array_get_dec; decreasing_trivial)
  | ((with_reducible apply pars2_ok); array_get_dec; decreasing_trivial; decreasing_trivial)
  | ((with_reducible apply drop_ok); array_get_dec)
  | ((with_reducible apply if_f (t := fun ρ => So.nx ρ)); array_get_dec; rfl)
  | ((with_reducible apply if_f); array_get_dec; rfl))
end Dl
namespace Dl
open PySem PySem.Spec PyProof.Rows L2
variable {p : Nat} {rs : List Rw} {D b : Nat} {K L : List Lk} {most : Nat}
/-! ### lots among others -/
/-! ### chains -/
theorem chain_le {ma mb mc : Mi Dt} {ρ : En} {x y z : Nat} (ha : ma ρ = .ok (nD x) ρ) (hb : mb ρ = .ok (nD y) ρ) (hc : mc ρ = .ok (nD z) ρ) (h1 : x ≤ y) (h2 : y ≤ z) : mB (mChain fLe fLe ma mb mc) ρ = .ok true ρ := by
  refine tb_ok ?_
  refine bind_ok ha (bind_ok hb ?_)
  rw [fLe_nat, decide_eq_true h1]
  refine bind_ok (a := .bl true) (ρ1 := ρ) rfl ?_
  refine bind_ok hc ?_
  rw [fLe_nat, decide_eq_true h2]; rfl
/-! ### the greatest one of some numbers, step by step -/
end Dl
namespace Dl
open PySem PySem.Spec PyProof.Rows L2
variable {p : Nat} {rs : List Rw} {D b : Nat} {K L : List Lk} {most : Nat}
local macro_rules | `(tactic| array_mem_dec) => `(tactic| first
  | with_reducible assumption
  | with_reducible exact fAdd_nat _ _
  | with_reducible exact fMul_nat _ _ (by omega)
  | with_reducible exact fSub_nat (by first | assumption | omega)
  | with_reducible exact lt_f (by first | assumption | omega)
  | with_reducible exact lt_t (by first | assumption | omega)
  | with_reducible exact le_f (by first | assumption | omega)
  | with_reducible exact le_t (by first | assumption | omega)
  | with_reducible exact gt_f (by first | assumption | omega)
  | with_reducible exact gt_t (by first | assumption | omega)
  | with_reducible exact ge_f (by first | assumption | omega)
  | with_reducible exact ge_t (by first | assumption | omega)
  | with_reducible exact eq_f (by first | assumption | omega)
  | with_reducible exact eq_t (by first | assumption | omega)
  | with_reducible exact ne_f (by first | assumption | omega)
  | with_reducible exact ne_t (by first | assumption | omega)
  | with_reducible exact feq_nat _ _
  | with_reducible exact fne_nat _ _
  | with_reducible exact fLt_nat _ _
  | with_reducible exact fLe_nat _ _
  | with_reducible exact gt_nat _ _
  | with_reducible exact ge_nat _ _
  | with_reducible exact len_lst _ _
  | with_reducible exact len_tup _ _
  | ((with_reducible apply fne_self (k := 2)); (first | with_reducible assumption | exact .int _ | exact .bl _ | exact .non | exact flt_tup_nats _ | exact flt_lst_nats _ | exact flt_side _ | exact flt_str _ | exact no_flt _ | exact .tup (flt_prs _) | exact .lst (flt_prs _)); decide)
  | ((with_reducible apply feq_self (k := 2)); (first | with_reducible assumption | exact .int _ | exact .bl _ | exact .non | exact flt_tup_nats _ | exact flt_lst_nats _ | exact flt_side _ | exact flt_str _ | exact no_flt _ | exact .tup (flt_prs _) | exact .lst (flt_prs _)); decide)
  | rfl)
local macro_rules | `(tactic| array_get_dec) => `(tactic| first
  | ((with_reducible apply var_ok); rfl)
  | ((with_reducible apply peek_ok); rfl)
  | ((with_reducible apply peek_ow); rfl)
  | with_reducible exact lit_ok
  | with_reducible exact pure_ok
  | ((with_reducible apply cons_ok); array_get_dec; array_get_dec)
  | ((with_reducible apply callQ'); array_get_dec; rfl; with_reducible assumption)
  | ((with_reducible apply methQ); array_get_dec; array_get_dec; rfl; (with_reducible assumption); exact ⟨_, rfl⟩)
  | ((with_reducible apply callJ); rfl; array_get_dec; rfl; rfl; with_reducible assumption)
  | ((with_reducible apply m2_ok); array_get_dec; array_get_dec; array_mem_dec)
  | ((with_reducible apply m1_ok); array_get_dec; array_mem_dec)
  | ((with_reducible apply m1N_ok); array_get_dec; array_mem_dec)
  | ((with_reducible apply tup_ok); array_get_dec; exact sl_le (by simp))
  | ((with_reducible apply lst_ok); array_get_dec; exact sl_le (by simp))
  | ((with_reducible apply chain_ge_t); array_get_dec; array_get_dec; array_get_dec; omega; omega)
  | ((with_reducible apply chain_le); array_get_dec; array_get_dec; array_get_dec; omega; omega)
  | ((with_reducible apply chainT); array_get_dec; array_get_dec; array_get_dec; omega; omega)
  | ((with_reducible apply tb_ok); array_get_dec)
  | ((with_reducible apply not_f); array_get_dec)
  | ((with_reducible apply not_t); array_get_dec)
  | ((with_reducible apply not_ok); array_get_dec)
  | ((with_reducible apply and_t); array_get_dec; array_get_dec)
  | ((with_reducible apply and_f); array_get_dec)
  | ((with_reducible apply or_f); array_get_dec; array_get_dec)
  | ((with_reducible apply or_t); array_get_dec)
  | ((with_reducible apply ixv'); rfl; array_get_dec; rfl; array_mem_dec)
  | with_reducible assumption)
local macro_rules | `(tactic| decreasing_trivial) => `(tactic| first
  | ((with_reducible apply sl_lv); rfl)
  | ((with_reducible apply sl_vl); rfl)
  | ((with_reducible apply sl_no); rfl)
  | ((with_reducible apply sl_ow); rfl)
  | ((with_reducible apply sl_dq); rfl))
local macro_rules | `(tactic| get_elem_tactic_extensible) => `(tactic| first
  | ((with_reducible apply set_ok); array_get_dec; decreasing_trivial)
  | ((with_reducible apply setN_ok); array_get_dec; decreasing_trivial)
  | ((with_reducible apply pars2_ok); array_get_dec; decreasing_trivial; decreasing_trivial)
  | ((with_reducible apply drop_ok); array_get_dec)
  | ((with_reducible apply if_f (t := fun ρ => So.nx ρ)); array_get_dec; rfl)
  | ((with_reducible apply if_f); array_get_dec; rfl))
/-! ### lots by their numbers -/
/-! ### the walk -/
end Dl
namespace Dl
open PySem PySem.Spec PyProof.Rows L2
variable {p : Nat} {rs : List Rw} {D b : Nat} {K L : List Lk} {most : Nat}
local macro_rules | `(tactic| array_mem_dec) => `(tactic| first
  | with_reducible assumption
  | with_reducible exact fAdd_nat _ _
  | with_reducible exact fMul_nat _ _ (by omega)
  | with_reducible exact fSub_nat (by first | assumption | omega)
  | with_reducible exact lt_f (by first | assumption | omega)
  | with_reducible exact lt_t (by first | assumption | omega)
  | with_reducible exact le_f (by first | assumption | omega)
  | with_reducible exact le_t (by first | assumption | omega)
  | with_reducible exact gt_f (by first | assumption | omega)
  | with_reducible exact gt_t (by first | assumption | omega)
  | with_reducible exact ge_f (by first | assumption | omega)
  | with_reducible exact ge_t (by first | assumption | omega)
  | with_reducible exact eq_f (by first | assumption | omega)
  | with_reducible exact eq_t (by first | assumption | omega)
  | with_reducible exact ne_f (by first | assumption | omega)
  | with_reducible exact ne_t (by first | assumption | omega)
  | with_reducible exact feq_nat _ _
  | with_reducible exact fne_nat _ _
  | with_reducible exact fLt_nat _ _
  | with_reducible exact fLe_nat _ _
  | with_reducible exact gt_nat _ _
  | with_reducible exact ge_nat _ _
  | with_reducible exact len_lst _ _
  | with_reducible exact len_tup _ _
  | ((with_reducible apply fne_self (k := 2)); (first | with_reducible assumption | exact .int _ | exact .bl _ | exact .non | exact flt_tup_nats _ | exact flt_lst_nats _ | exact flt_side _ | exact flt_str _ | exact no_flt _ | exact .tup (flt_prs _) | exact .lst (flt_prs _)); decide)
  | ((with_reducible apply feq_self (k := 2)); (first | with_reducible assumption | exact .int _ | exact .bl _ | exact .non | exact flt_tup_nats _ | exact flt_lst_nats _ | exact flt_side _ | exact flt_str _ | exact no_flt _ | exact .tup (flt_prs _) | exact .lst (flt_prs _)); decide)
  | rfl)
local macro_rules | `(tactic| array_get_dec) => `(tactic| first
  | ((with_reducible apply var_ok); rfl)
  | ((with_reducible apply peek_ok); rfl)
  | ((with_reducible apply peek_ow); rfl)
  | with_reducible exact lit_ok
  | with_reducible exact pure_ok
  | ((with_reducible apply cons_ok); array_get_dec; array_get_dec)
  | ((with_reducible apply callQ'); array_get_dec; rfl; with_reducible assumption)
  | ((with_reducible apply methQ); array_get_dec; array_get_dec; rfl; (with_reducible assumption); exact ⟨_, rfl⟩)
  | ((with_reducible apply callJ); rfl; array_get_dec; rfl; rfl; with_reducible assumption)
  | ((with_reducible apply m2_ok); array_get_dec; array_get_dec; array_mem_dec)
  | ((with_reducible apply m1_ok); array_get_dec; array_mem_dec)
  | ((with_reducible apply m1N_ok); array_get_dec; array_mem_dec)
  | ((with_reducible apply tup_ok); array_get_dec; exact sl_le (by simp))
  | ((with_reducible apply lst_ok); array_get_dec; exact sl_le (by simp))
  | ((with_reducible apply chain_ge_t); array_get_dec; array_get_dec; array_get_dec; omega; omega)
  | ((with_reducible apply chain_le); array_get_dec; array_get_dec; array_get_dec; omega; omega)
  | ((with_reducible apply chainT); array_get_dec; array_get_dec; array_get_dec; omega; omega)
  | ((with_reducible apply tb_ok); array_get_dec)
  | ((with_reducible apply not_f); array_get_dec)
  | ((with_reducible apply not_t); array_get_dec)
  | ((with_reducible apply not_ok); array_get_dec)
  | ((with_reducible apply and_t); array_get_dec; array_get_dec)
  | ((with_reducible apply and_f); array_get_dec)
  | ((with_reducible apply or_f); array_get_dec; array_get_dec)
  | ((with_reducible apply or_t); array_get_dec)
  | ((with_reducible apply ixv'); rfl; array_get_dec; rfl; array_mem_dec)
  | with_reducible assumption)
local macro_rules | `(tactic| decreasing_trivial) => `(tactic| first
  | ((with_reducible apply sl_lv); rfl)
  | ((with_reducible apply sl_vl); rfl)
  | ((with_reducible apply sl_no); rfl)
  | ((with_reducible apply sl_ow); rfl)
  | ((with_reducible apply sl_dq); rfl))
local macro_rules | `(tactic| get_elem_tactic_extensible) => `(tactic| first
  | ((with_reducible apply set_ok); array_get_dec; decreasing_trivial)
  | ((with_reducible apply setN_ok); array_get_dec; decreasing_trivial)
  | ((with_reducible apply pars2_ok); array_get_dec; decreasing_trivial; decreasing_trivial)
  | ((with_reducible apply drop_ok); array_get_dec)
  | ((with_reducible apply if_f (t := fun ρ => So.nx ρ)); array_get_dec; rfl)
  | ((with_reducible apply if_f); array_get_dec; rfl))
end Dl
namespace Dl
open PySem PySem.Spec PyProof.Rows L2
variable {p : Nat} {rs : List Rw} {D b : Nat} {K L : List Lk} {most : Nat}
local macro_rules | `(tactic| array_mem_dec) => `(tactic| first
  | with_reducible assumption
  | with_reducible exact fAdd_nat _ _
  | with_reducible exact fMul_nat _ _ (by omega)
  | with_reducible exact fSub_nat (by first | assumption | omega)
  | with_reducible exact lt_f (by first | assumption | omega)
  | with_reducible exact lt_t (by first | assumption | omega)
  | with_reducible exact le_f (by first | assumption | omega)
  | with_reducible exact le_t (by first | assumption | omega)
  | with_reducible exact gt_f (by first | assumption | omega)
  | with_reducible exact gt_t (by first | assumption | omega)
  | with_reducible exact ge_f (by first | assumption | omega)
  | with_reducible exact ge_t (by first | assumption | omega)
  | with_reducible exact eq_f (by first | assumption | omega)
  | with_reducible exact eq_t (by first | assumption | omega)
  | with_reducible exact ne_f (by first | assumption | omega)
  | with_reducible exact ne_t (by first | assumption | omega)
  | with_reducible exact feq_nat _ _
  | with_reducible exact fne_nat _ _
  | with_reducible exact fLt_nat _ _
  | with_reducible exact fLe_nat _ _
  | with_reducible exact gt_nat _ _
  | with_reducible exact ge_nat _ _
  | with_reducible exact len_lst _ _
  | with_reducible exact len_tup _ _
  | ((with_reducible apply fne_self (k := 2)); (first | with_reducible assumption | exact .int _ | exact .bl _ | exact .non | exact flt_tup_nats _ | exact flt_lst_nats _ | exact flt_side _ | exact flt_str _ | exact no_flt _ | exact .tup (flt_prs _) | exact .lst (flt_prs _)); decide)
  | ((with_reducible apply feq_self (k := 2)); (first | with_reducible assumption | exact .int _ | exact .bl _ | exact .non | exact flt_tup_nats _ | exact flt_lst_nats _ | exact flt_side _ | exact flt_str _ | exact no_flt _ | exact .tup (flt_prs _) | exact .lst (flt_prs _)); decide)
  | rfl)
local macro_rules | `(tactic| array_get_dec) => `(tactic| first
  | ((with_reducible apply var_ok); rfl)
  | ((with_reducible apply peek_ok); rfl)
  | ((with_reducible apply peek_ow); rfl)
  | with_reducible exact lit_ok
  | with_reducible exact pure_ok
  | ((with_reducible apply cons_ok); array_get_dec; array_get_dec)
  | ((with_reducible apply callQ'); array_get_dec; rfl; with_reducible assumption)
  | ((with_reducible apply methQ); array_get_dec; array_get_dec; rfl; (with_reducible assumption); exact ⟨_, rfl⟩)
  | ((with_reducible apply callJ); rfl; array_get_dec; rfl; rfl; with_reducible assumption)
  | ((with_reducible apply m2_ok); array_get_dec; array_get_dec; array_mem_dec)
  | ((with_reducible apply m1_ok); array_get_dec; array_mem_dec)
  | ((with_reducible apply m1N_ok); array_get_dec; array_mem_dec)
  | ((with_reducible apply tup_ok); array_get_dec; exact sl_le (by simp))
  | ((with_reducible apply lst_ok); array_get_dec; exact sl_le (by simp))
  | ((with_reducible apply chain_ge_t); array_get_dec; array_get_dec; array_get_dec; omega; omega)
  | ((with_reducible apply chain_le); array_get_dec; array_get_dec; array_get_dec; omega; omega)
  | ((with_reducible apply chainT); array_get_dec; array_get_dec; array_get_dec; omega; omega)
  | ((with_reducible apply tb_ok); array_get_dec)
  | ((with_reducible apply not_f); array_get_dec)
  | ((with_reducible apply not_t); array_get_dec)
  | ((with_reducible apply not_ok); array_get_dec)
  | ((with_reducible apply and_t); array_get_dec; array_get_dec)
  | ((with_reducible apply and_f); array_get_dec)
  | ((with_reducible apply or_f); array_get_dec; array_get_dec)
  | ((with_reducible apply or_t); array_get_dec)
  | ((with_reducible apply ixv'); rfl; array_get_dec; rfl; array_mem_dec)
  | with_reducible assumption)
local macro_rules | `(tactic| decreasing_trivial) => `(tactic| first
  | ((with_reducible apply sl_lv); rfl)
  | ((with_reducible apply sl_vl); rfl)
  | ((with_reducible apply sl_no); rfl)
  | ((with_reducible apply sl_ow); rfl)
  | ((with_reducible apply sl_dq); rfl))
local macro_rules | `(tactic| get_elem_tactic_extensible) => `(tactic| first
  | ((with_reducible apply set_ok); array_get_dec; decreasing_trivial)
  | ((with_reducible apply setN_ok); array_get_dec; decreasing_trivial)
  | ((with_reducible apply pars2_ok); array_get_dec; decreasing_trivial; decreasing_trivial)
  | ((with_reducible apply drop_ok); array_get_dec)
  | ((with_reducible apply if_f (t := fun ρ => So.nx ρ)); array_get_dec; rfl)
  | ((with_reducible apply if_f); array_get_dec; rfl))
/-! ### small drawn seasons -/
abbrev Bq := Int × Int × Int
end Dl
namespace Dl
open PySem PySem.Spec PyProof.Rows L2
variable {p : Nat} {rs : List Rw} {D b : Nat} {K L : List Lk} {most : Nat}
/-! ### stretches, one behind the other -/
/-! ### odd stretches -/
def isT (o : Option Bool) : Bool := decide (o = some true)
/-! ### lots and stretches -/
end Dl
namespace Dl
open PySem PySem.Spec PyProof.Rows L2
variable {p : Nat} {rs : List Rw} {D b : Nat} {K L : List Lk} {most : Nat}
/-! ### sorted numbers and pairs; more misses lie no shorter -/
theorem Sn.bare (h : Sn p rs D b K) : Sn p rs D b [] := ⟨h.good, h.rl, h.hp, h.D0, h.hD, h.hb, (fun _ z => by cases z), by simp⟩
end Dl
namespace Dl
open PySem PySem.Spec PyProof.Rows L2
/-! ### what is shown by repr() -/
inductive Shw : Nat → Nat → Dt → Prop
  | non {k n : Nat} (h : 4 ≤ n) : Shw k n .non
  | bl {k n : Nat} (b : Bool) (h : 5 ≤ n) : Shw k n (.bl b)
  | nat {k n : Nat} {m : Nat} (hm : m < 10 ^ 10) (h : 10 ≤ n) : Shw k n (nD m)
  | tup {k n c l : Nat} {xs : List Dt} (h : ∀ x ∈ xs, Shw k n x) (hl : xs.length ≤ l) (hc : (n + 2) * l + 3 ≤ c) : Shw (k + 1) c (.tup xs)
structure ShP (k n : Nat) (d : Dt) (p : PyData) : Prop where
  e : toPy d = some p
  sh : p.showable = true
  nd : p.hasDict = false
  dep : p.depth ≤ k
  len : p.shown.length ≤ n
  ok : PyData.strOk p.shown = true
theorem ok_of (s : String) : PyData.strOk (Str.ofString s) = true := by simpa [PyData.canLay0] using strOk_of s
theorem ok_app {a b : Str} (ha : PyData.strOk a = true) (hb : PyData.strOk b = true) : PyData.strOk (a ++ b) = true := by
  show (a.cps ++ b.cps).all _ = true
  rw [Array.all_append, Bool.and_eq_true]
  exact ⟨ha, hb⟩
theorem ok_join {s : Str} (hs : PyData.strOk s = true) : ∀ ts : List Str, (∀ t ∈ ts, PyData.strOk t = true) → PyData.strOk (Str.join s ts) = true
  | [], _ => ok_of ""
  | [t], h => h t (by simp)
  | t :: u :: ts, h => by
    show PyData.strOk (t ++ s ++ Str.join s (u :: ts)) = true
    exact ok_app (ok_app (h t (by simp)) hs) (ok_join hs (u :: ts) fun y hy => h y (by simp [hy]))
theorem shp_all {k n : Nat} : ∀ {xs : List Dt}, (∀ x ∈ xs, ∃ p, ShP k n x p) → ∃ ps, toPys xs = some ps ∧ PyData.showableAll ps = true ∧ PyData.hasDictAll ps = false ∧ PyData.depthAll ps ≤ k ∧ (PyData.shownAll ps).length = xs.length ∧ ∀ t ∈ PyData.shownAll ps, t.length ≤ n ∧ PyData.strOk t = true
  | [], _ => ⟨[], rfl, by simp [PyData.showableAll], by simp [PyData.hasDictAll], by simp [PyData.depthAll], by simp [PyData.shownAll], by simp [PyData.shownAll]⟩
  | x :: xs, h => by
    obtain ⟨p, h1⟩ := h x (by simp)
    obtain ⟨ps, h2, h3, h4, h5, h6, h7⟩ := shp_all (xs := xs) fun y hy => h y (by simp [hy])
    refine ⟨p :: ps, ?_, ?_, ?_, ?_, ?_, ?_⟩
    · unfold toPys; rw [h1.e, h2]
    · simp [PyData.showableAll, h1.sh, h3]
    · simp [PyData.hasDictAll, h1.nd, h4]
    · simp only [PyData.depthAll]; have := h1.dep; omega
    · simp [PyData.shownAll, h6]
    · intro t ht
      simp only [PyData.shownAll, List.mem_cons] at ht
      rcases ht with rfl | ht
      · exact ⟨h1.len, h1.ok⟩
      · exact h7 t ht
theorem piled_le {n : Nat} : ∀ (ts : List Str), (∀ t ∈ ts, t.length ≤ n) → piled ts ≤ (n + 2) * ts.length
  | [], _ => by simp [piled]
  | t :: ts, h => by
    have := piled_le ts fun y hy => h y (by simp [hy])
    have h1 := h t (by simp)
    unfold piled at this ⊢
    rw [List.map_cons, List.sum_cons, List.length_cons, Nat.mul_succ]
    omega
theorem tupText_le {n : Nat} {ts : List Str} (h : ∀ t ∈ ts, t.length ≤ n) : (tupleText ts).length ≤ (n + 2) * ts.length + 3 := by
  have hj : (Str.join ", " ts).length ≤ (n + 2) * ts.length := by
    cases ts with
    | nil => exact Nat.le_of_eq rfl
    | cons t r =>
      have := join_length_add (t :: r) (by simp)
      have := piled_le _ h
      omega
  unfold tupleText
  rw [strLen_append, strLen_append]
  have e1 : (("(" : String) : Str).length = 1 := rfl
  have e2 : ((if ts.length == 1 then ",)" else ")" : String) : Str).length ≤ 2 := by split <;> decide
  omega
theorem Shw.py {k n : Nat} {d : Dt} (h : Shw k n d) : ∃ p, ShP k n d p := by
  induction h with
  | non h => exact ⟨.none, rfl, by simp [PyData.showable], by simp [PyData.hasDict], by simp [PyData.depth], by simp only [PyData.shown]; exact h, by simp only [PyData.shown]; exact ok_of _⟩
  | bl b h => exact ⟨.bool b, rfl, by simp [PyData.showable], by simp [PyData.hasDict], by simp [PyData.depth], by simp only [PyData.shown]; cases b <;> exact Nat.le_trans (by decide) h, by simp only [PyData.shown]; cases b <;> exact ok_of _⟩
  | @nat k n m hm h =>
    refine ⟨.int (m : Int), rfl, ?_, by simp [PyData.hasDict], by simp [PyData.depth], ?_, by simp only [PyData.shown]; exact ok_of _⟩
    · simp only [PyData.showable, decide_eq_true_eq]
      have : (m : Int).natAbs.log2 ≤ 34 := by
        rw [Int.natAbs_natCast]
        by_cases z : m = 0
        · subst z; decide
        · exact Nat.le_of_lt_succ ((Nat.log2_lt z).mpr (Nat.lt_trans hm (by decide)))
      omega
    · simp only [PyData.shown]
      exact Nat.le_trans (toString_length_le (by omega) (k := 10) (by decide) (by exact_mod_cast hm)) h
  | @tup k n c l xs h hl hc ih =>
    obtain ⟨ps, h1, h2, h3, h4, h5, h6⟩ := shp_all ih
    refine ⟨.tuple ps, by unfold toPy; rw [h1]; rfl, by simpa [PyData.showable] using h2, by simpa [PyData.hasDict] using h3, by simp only [PyData.depth]; omega, ?_, ?_⟩
    rotate_left
    · simp only [PyData.shown]
      unfold tupleText
      exact ok_app (ok_app (ok_of _) (ok_join (ok_of _) _ fun t ht => (h6 t ht).2)) (ok_of _)
    simp only [PyData.shown]
    have := tupText_le fun t ht => (h6 t ht).1
    rw [h5] at this
    have := Nat.mul_le_mul_left (n + 2) hl
    omega
end Dl
namespace Dl
open PySem PySem.Spec PyProof.Rows L2
variable {p : Nat} {rs : List Rw} {D b : Nat} {K L : List Lk} {most : Nat}
/-! ### wheels by themselves -/
/-! ### one turning missed, or made -/
theorem cost_at {α : Type} {g g0 : α → Nat × Nat × Option Bool} : ∀ {A B : List α} {P : α} {k : Nat}, costL ((A ++ P :: B).map g0) = some k → (∀ y ∈ A, g y = g0 y) → (∀ y ∈ B, g y = g0 y) → ∃ k0, leadP (g0 P).1 (g0 P).2.1 (g0 P).2.2 = some k0 ∧ k0 ≤ k ∧ costL ((A ++ P :: B).map g) = (leadP (g P).1 (g P).2.1 (g P).2.2).map fun y => k - k0 + y
  | [], B, P, k, hc, _, hB => by
    rw [List.nil_append, List.map_cons] at hc ⊢
    rw [show B.map g = B.map g0 from List.map_congr_left hB]
    unfold costL at hc ⊢
    cases h0 : leadP (g0 P).1 (g0 P).2.1 (g0 P).2.2 with
    | none => rw [h0] at hc; cases hc
    | some k0 =>
      rw [h0] at hc
      cases hr : costL (B.map g0) with
      | none => rw [hr] at hc; cases hc
      | some kb =>
        rw [hr] at hc
        have hk : k0 + kb = k := Option.some.inj hc
        refine ⟨k0, rfl, by omega, ?_⟩
        cases leadP (g P).1 (g P).2.1 (g P).2.2 with
        | none => rfl
        | some y => show some (y + kb) = some (k - k0 + y); congr 1; omega
  | a :: A, B, P, k, hc, hA, hB => by
    rw [List.cons_append, List.map_cons] at hc ⊢
    unfold costL at hc ⊢
    rw [hA a (by simp)]
    cases h0 : leadP (g0 a).1 (g0 a).2.1 (g0 a).2.2 with
    | none => rw [h0] at hc; cases hc
    | some ka =>
      rw [h0] at hc
      cases hr : costL ((A ++ P :: B).map g0) with
      | none => rw [hr] at hc; cases hc
      | some kr =>
        rw [hr] at hc
        have hk : ka + kr = k := Option.some.inj hc
        obtain ⟨k0, i1, i2, i3⟩ := cost_at hr (fun y hy => hA y (by simp [hy])) hB
        refine ⟨k0, i1, by omega, ?_⟩
        dsimp only
        rw [i3]
        cases leadP (g P).1 (g P).2.1 (g P).2.2 with
        | none => rfl
        | some y => show some (ka + (kr - k0 + y)) = some (k - k0 + y); congr 1; omega
theorem an_m (h : Sn p rs D b K) {x : Pr} (hx : x ∈ dueP p rs D) : anM (fitL p rs D b K) x = canB (costL (numsOf (dueP p rs D) p D (lksOf p D K) [x] [])) b := by
  rw [can_w h (M := [x]) (N := []) (fun _ _ z => by cases z)]
  unfold wMN anM
  rw [pos_any, show okMN [x] [] (dueP p rs D) = fun M => decide (x ∈ M) from funext fun M => ok_m hx M]
theorem an_n (h : Sn p rs D b K) {x : Pr} (hx : x ∈ dueP p rs D) : anN (fitL p rs D b K) x = canB (costL (numsOf (dueP p rs D) p D (lksOf p D K) [] [x])) b := by
  rw [can_w h (M := []) (N := [x]) (fun _ z => by cases z)]
  unfold wMN anN
  rw [pos_any, show okMN [] [x] (dueP p rs D) = fun M => !decide (x ∈ M) from funext fun M => ok_n hx M]
/-- the numbers of parts, with one turning missed or made -/
theorem gone_one {l : List Pr} {x : Pr} (nd : l.Nodup) (hx : x ∈ l) : goneN [x] l = 1 := by
  unfold goneN
  rw [List.countP_eq_length_filter]
  have := filter_eq_one nd hx
  rw [← this]
  exact congrArg List.length (List.filter_congr fun y _ => Bool.eq_iff_iff.mpr (by simp))
theorem gone_none {l : List Pr} {x : Pr} (hx : x ∉ l) : goneN [x] l = 0 := by
  unfold goneN
  rw [List.countP_eq_zero]
  intro y hy z
  simp at z
  exact hx (z ▸ hy)
theorem gone_nil (l : List Pr) : goneN [] l = 0 := by unfold goneN; simp
theorem free_nil (l : List Pr) : freeN [] [] l = l.length := by unfold freeN; simp [List.countP_eq_length_filter]
theorem free_m (l : List Pr) (x : Pr) : freeN [x] [] l + goneN [x] l = l.length := by
  unfold freeN goneN
  induction l with
  | nil => rfl
  | cons a l ih =>
    rw [List.countP_cons, List.countP_cons, List.length_cons]
    by_cases h : a = x
    · simp [h] at ih ⊢; omega
    · simp [h] at ih ⊢; omega
theorem free_n (l : List Pr) (x : Pr) : freeN [] [x] l + goneN [x] l = l.length := by
  unfold freeN goneN
  induction l with
  | nil => rfl
  | cons a l ih =>
    rw [List.countP_cons, List.countP_cons, List.length_cons]
    by_cases h : a = x
    · simp [h] at ih ⊢; omega
    · simp [h] at ih ⊢; omega
theorem split_part {x : Pr} {P : Nat × Str3} {K : List Lk3} (hK : LooksOk p D K) {U : List Pr} (hP : P ∈ prts U p D K) (hq : qOf P x = true) : ∃ A B, prts U p D K = A ++ P :: B ∧ (∀ y ∈ A, x ∉ U.filter (qOf y)) ∧ (∀ y ∈ B, x ∉ U.filter (qOf y)) := by
  obtain ⟨A, B, e⟩ := List.append_of_mem hP
  have hp := prts_apart (U := U) hK
  rw [e, List.pairwise_append] at hp
  refine ⟨A, B, e, fun y hy hz => ?_, fun y hy hz => ?_⟩
  · exact hp.2.2 y hy P (by simp) x ⟨(List.mem_filter.mp hz).2, hq⟩
  · exact (List.pairwise_cons.mp hp.2.1).1 y hy x ⟨hq, (List.mem_filter.mp hz).2⟩
/-- with no budget to spare a turning is told by its stretch -/
theorem tight {k : Nat} (h : Sn p rs D k K) (hk : cstO p rs D K = some k) {x : Pr} {P : Nat × Str3} (hP : P ∈ prts (dueP p rs D) p D (lksOf p D K)) (hx : x ∈ (dueP p rs D).filter (qOf P)) : anM (fitL p rs D k K) x = isT P.2.2.2 ∧ (isT P.2.2.2 = true → anN (fitL p rs D k K) x = decide (1 < ((dueP p rs D).filter (qOf P)).length)) := by
  obtain ⟨hxU, hxq⟩ := List.mem_filter.mp hx
  obtain ⟨A, B, e, hA, hB⟩ := split_part (lks_ok (p := p) (D := D) K) hP hxq
  let U := dueP p rs D
  let g0 : Nat × Str3 → Nat × Nat × Option Bool := fun y => (goneN [] (U.filter (qOf y)), freeN [] [] (U.filter (qOf y)), y.2.2.2)
  let g1 : Nat × Str3 → Nat × Nat × Option Bool := fun y => (goneN [x] (U.filter (qOf y)), freeN [x] [] (U.filter (qOf y)), y.2.2.2)
  let g2 : Nat × Str3 → Nat × Nat × Option Bool := fun y => (goneN [] (U.filter (qOf y)), freeN [] [x] (U.filter (qOf y)), y.2.2.2)
  have s1 : ∀ y, x ∉ U.filter (qOf y) → g1 y = g0 y := fun y hy => by
    have a := gone_none hy
    have c := free_m (U.filter (qOf y)) x
    show (_, _, _) = (_, _, _)
    rw [a, gone_nil, free_nil, show freeN [x] [] (U.filter (qOf y)) = (U.filter (qOf y)).length by omega]
  have s2 : ∀ y, x ∉ U.filter (qOf y) → g2 y = g0 y := fun y hy => by
    have a := gone_none hy
    have c := free_n (U.filter (qOf y)) x
    show (_, _, _) = (_, _, _)
    rw [gone_nil, free_nil, show freeN [] [x] (U.filter (qOf y)) = (U.filter (qOf y)).length by omega]
  have hc : costL ((A ++ P :: B).map g0) = some k := by rw [← e]; exact hk
  obtain ⟨k0, i1, i2, i3⟩ := cost_at (g := g1) hc (fun y hy => s1 y (hA y hy)) (fun y hy => s1 y (hB y hy))
  obtain ⟨k0', j1, j2, j3⟩ := cost_at (g := g2) hc (fun y hy => s2 y (hA y hy)) (fun y hy => s2 y (hB y hy))
  have hg := gone_one ((dueP_nodup (p := p) (rs := rs) D).filter (qOf P)) hx
  have hfm := free_m ((dueP p rs D).filter (qOf P)) x
  have hfn := free_n ((dueP p rs D).filter (qOf P)) x
  have l0 : leadP (g0 P).1 (g0 P).2.1 (g0 P).2.2 = leadP 0 (U.filter (qOf P)).length P.2.2.2 := by show leadP (goneN [] _) (freeN [] [] _) _ = _; rw [gone_nil, free_nil]
  have l1 : leadP (g1 P).1 (g1 P).2.1 (g1 P).2.2 = leadP 1 ((U.filter (qOf P)).length - 1) P.2.2.2 := by
    show leadP (goneN [x] (U.filter (qOf P))) (freeN [x] [] (U.filter (qOf P))) _ = _
    rw [show goneN [x] (U.filter (qOf P)) = 1 from hg, show freeN [x] [] (U.filter (qOf P)) = (U.filter (qOf P)).length - 1 by show freeN [x] [] ((dueP p rs D).filter (qOf P)) = ((dueP p rs D).filter (qOf P)).length - 1; omega]
  have l2 : leadP (g2 P).1 (g2 P).2.1 (g2 P).2.2 = leadP 0 ((U.filter (qOf P)).length - 1) P.2.2.2 := by
    show leadP (goneN [] (U.filter (qOf P))) (freeN [] [x] (U.filter (qOf P))) _ = _
    rw [gone_nil, show freeN [] [x] (U.filter (qOf P)) = (U.filter (qOf P)).length - 1 by show freeN [] [x] ((dueP p rs D).filter (qOf P)) = ((dueP p rs D).filter (qOf P)).length - 1; omega]
  rw [l0] at i1 j1
  rw [l1] at i3
  rw [l2] at j3
  rw [an_m h hxU, an_n h hxU]
  have n1 : numsOf (dueP p rs D) p D (lksOf p D K) [x] [] = (A ++ P :: B).map g1 := by rw [← e]; rfl
  have n2 : numsOf (dueP p rs D) p D (lksOf p D K) [] [x] = (A ++ P :: B).map g2 := by rw [← e]; rfl
  rw [n1, n2, i3, j3]
  have hlp : 0 < (U.filter (qOf P)).length := List.length_pos_of_mem hx
  show canB _ k = _ ∧ (_ → canB _ k = decide (1 < (U.filter (qOf P)).length))
  generalize (U.filter (qOf P)).length = n at i1 j1 hlp ⊢
  generalize P.2.2.2 = o at i1 j1 ⊢
  rw [leadP_isE] at i1 j1 ⊢
  rw [leadP_isE]
  cases o with
  | none =>
    simp [isE] at i1 j1
    subst i1
    refine ⟨?_, fun z => by cases z⟩
    show decide (k - 0 + 1 ≤ k) = false
    exact decide_eq_false (by omega)
  | some c =>
    cases c with
    | false =>
      simp [isE] at i1 j1
      subst i1
      refine ⟨?_, fun z => by cases z⟩
      simp only [isE]
      by_cases hn : n - 1 = 0
      · simp [hn, canB, isT]
      · simp [hn, canB, isT] <;> omega
    | true =>
      simp [isE, Nat.pos_iff_ne_zero.mp hlp] at i1 j1
      subst i1
      refine ⟨?_, fun _ => ?_⟩
      · simp [isE, canB, isT] <;> omega
      · simp only [isE]
        by_cases hn : n - 1 = 0
        · have : ¬ 1 < n := by omega
          simp [hn, canB, this]
        · have : 1 < n := by omega
          subst j1
          simp [hn, canB, this] <;> omega
end Dl
namespace Dl
open PySem PySem.Spec PyProof.Rows L2
/-! ### what is heard at a desk, by hand -/
def liveD (past : List Dt) (s : Dt) (b : Bool) (sure : List Dt) : Dt := .ins 5 [.tup past, s, .bl b, .tup sure]
def deskD (l : Dt) (past : List Dt) : Dt := .ins 7 [l, .tup past]
def rsA : List Rw := [([0], [0])]
def rsB : List Rw := [([0], [1, 0])]
def s73A : Dt := seasonD 1 rsA 7 0 []
def s73B : Dt := seasonD 2 rsB 7 0 []
def s73C : Dt := seasonD 2 rsB 7 0 [(0, 1, 0)]
def s73D : Dt := seasonD 2 rsB 9 3 []
def l73A : Dt := liveD [] s73A true [nD 1]
def l73B : Dt := liveD [] s73B true [nD 0, nD 1]
def l73C : Dt := liveD [s73B] s73C true [nD 0, nD 1]
def l73D : Dt := liveD [] s73D true [.non, .non]
def d73_0 : Dt := deskD l73A []
def d73_1 : Dt := deskD l73B [l73A]
def d73_2 : Dt := deskD l73C [l73A, l73B]
def d73_3 : Dt := deskD l73D [l73A, l73B, l73C]
def d73_4 : Dt := deskD l73A [l73A, l73B, l73C]
theorem h_init : m_Desk_init_k73 [.ins 7 []] = .ret .non d73_0 := by kernel_rfl
theorem h_rota : m_Desk_say [d73_0, .str "rota places 2 ; turn 0 move 1 0"] = .ret (.str "1") d73_1 := by kernel_rfl
theorem h_desk : m_law_heard [d73_0, d73_0] = .ret (.str "command") d73_0 := by kernel_rfl
theorem hb_0 : m_law_heard [d73_1, .str ""] = .ret (.str "command") d73_1 := by kernel_rfl
theorem hb_1 : m_law_heard [d73_1, .str "side"] = .ret (.str "command") d73_1 := by kernel_rfl
theorem hb_2 : m_law_heard [d73_1, .str "sides 1"] = .ret (.str "command") d73_1 := by kernel_rfl
theorem hb_3 : m_law_heard [d73_1, .str "least "] = .ret (.str "command") d73_1 := by kernel_rfl
theorem hb_4 : m_law_heard [d73_1, .str " count"] = .ret (.str "command") d73_1 := by kernel_rfl
theorem hb_5 : m_law_heard [d73_1, .str "gap 0"] = .ret (.str "command") d73_1 := by kernel_rfl
theorem hb_6 : m_law_heard [d73_1, .str "gap 0 5 1"] = .ret (.str "command") d73_1 := by kernel_rfl
theorem hb_7 : m_law_heard [d73_1, .str "gap a 1"] = .ret (.str "command") d73_1 := by kernel_rfl
theorem hb_8 : m_law_heard [d73_1, .str "look 0 1"] = .ret (.str "command") d73_1 := by kernel_rfl
theorem hb_9 : m_law_heard [d73_1, .str "look 0 1 0 0"] = .ret (.str "command") d73_1 := by kernel_rfl
theorem hb_10 : m_law_heard [d73_1, .str "rota"] = .ret (.str "command") d73_1 := by kernel_rfl
theorem hb_11 : m_law_heard [d73_1, .str "season 07 1"] = .ret (.str "command") d73_1 := by kernel_rfl
theorem hb_12 : m_law_heard [d73_1, .str "season 5"] = .ret (.str "command") d73_1 := by kernel_rfl
theorem hb_13 : m_law_heard [d73_1, .str "undo 1"] = .ret (.str "command") d73_1 := by kernel_rfl
theorem hb_14 : m_law_heard [d73_1, .str "Rota places 1"] = .ret (.str "command") d73_1 := by kernel_rfl
theorem hb_15 : m_law_heard [d73_1, .str "gap 100 1"] = .ret (.str "command") d73_1 := by kernel_rfl
theorem hb_16 : m_law_heard [d73_1, .str "look 0 1 x"] = .ret (.str "command") d73_1 := by kernel_rfl
theorem hb_17 : m_law_heard [d73_1, .str "season -1 2"] = .ret (.str "command") d73_1 := by kernel_rfl
theorem hb_18 : m_law_heard [d73_1, .str "gap 0 1\n"] = .ret (.str "command") d73_1 := by kernel_rfl
theorem hw_0 : m_law_heard [d73_1, .str "rota places 2"] = .ret (.str "rota rows") d73_1 := by kernel_rfl
theorem hw_1 : m_law_heard [d73_1, .str "rota places x"] = .ret (.str "text 0") d73_1 := by kernel_rfl
theorem hw_2 : m_law_heard [d73_1, .str "rota places 1 ; turn 0"] = .ret (.str "text 1") d73_1 := by kernel_rfl
theorem hw_3 : m_law_heard [d73_1, .str "rota places 1 ; turn 0 move 1"] = .ret (.str "rota rows") d73_1 := by kernel_rfl
theorem hw_4 : m_law_heard [d73_1, .str "season 0 3"] = .ret (.str "season days") d73_1 := by kernel_rfl
theorem hw_5 : m_law_heard [d73_1, .str "gap 9 1"] = .ret (.str "wheel 9") d73_1 := by kernel_rfl
theorem hw_6 : m_law_heard [d73_1, .str "look 99 0 0"] = .ret (.str "refused (99, 0, 0)") d73_1 := by kernel_rfl
theorem hw_7 : m_law_heard [d73_1, .str "look 0 7 0"] = .ret (.str "refused (0, 7, 0)") d73_1 := by kernel_rfl
theorem hw_8 : m_law_heard [d73_1, .str "rota places 0"] = .ret (.str "rota places") d73_1 := by kernel_rfl
theorem hw_9 : m_law_heard [d73_1, .str "look 0 0 2"] = .ret (.str "refused (0, 0, 2)") d73_1 := by kernel_rfl
theorem hg_0 : m_law_heard [d73_1, .str "sides"] = .ret (.str "let") d73_1 := by kernel_rfl
theorem hg_1 : m_law_heard [d73_1, .str "least"] = .ret (.str "let") d73_1 := by kernel_rfl
theorem hg_2 : m_law_heard [d73_1, .str "count"] = .ret (.str "let") d73_1 := by kernel_rfl
theorem hg_3 : m_law_heard [d73_1, .str "gap 0 5"] = .ret (.str "let") d73_1 := by kernel_rfl
theorem hg_4 : m_law_heard [d73_1, .str "look 0 1 0"] = .ret (.str "let") d73_2 := by kernel_rfl
theorem hg_5 : m_law_heard [d73_2, .str "season 9 3"] = .ret (.str "let") d73_3 := by kernel_rfl
theorem hg_6 : m_law_heard [d73_3, .str "undo"] = .ret (.str "let") d73_2 := by kernel_rfl
theorem hg_7 : m_law_heard [d73_2, .str "rota places 1 ; turn 0 move 0"] = .ret (.str "let") d73_4 := by kernel_rfl
end Dl
namespace Dl
open PySem PySem.Spec PyProof.Rows L2
theorem fne_s1 (r : String) : fNe (.str r) (.str r) = some (.bl false) := fne_self (k := 1) (flt_str r) (by decide)
theorem desk_len (l : Dt) (P : List Dt) : m_Desk_len [deskD l P] = .ret (nD P.length) (deskD l P) :=
  runF_rt (ρ := [some (.own true (deskD l P))]) (ret_ok (m1_ok (x := .tup P) rfl rfl)) rfl
theorem len_own {i : Nat} {ρ : En} {l : Dt} {P : List Dt} (hn : P.length < 1000) (h : ρ[i]? = some (ow (deskD l P))) : mOwn1Io 7 m_Desk_len okLen i ρ = .ok (nD P.length) ρ := by
  unfold mOwn1Io
  rw [h]
  show (if (7 : Nat) = 7 then (match m_Desk_len [deskD l P] with | .ret z o => if okLen z = true then Ou.ok z (ρ.set i (some (.own false o))) else .bad | _ => .bad) else .bad) = _
  rw [if_pos rfl, desk_len]
  show (if okLen (nD P.length) = true then Ou.ok (nD P.length) (ρ.set i (some (.own false (deskD l P)))) else .bad) = _
  have ho : okLen (nD P.length) = true := by
    show (decide (0 ≤ (P.length : Int)) && decide ((P.length : Int) < 4611686018427387904)) = true
    rw [decide_eq_true (by omega), decide_eq_true (by omega)]; rfl
  rw [if_pos ho]
  have e : ρ.set i (some (.own false (deskD l P))) = ρ := by
    apply List.ext_getElem?
    intro j
    by_cases hj : i = j
    · subst hj
      have hi : i < ρ.length := by
        rcases Nat.lt_or_ge i ρ.length with z | z
        · exact z
        · rw [List.getElem?_eq_none z] at h; cases h
      rw [List.getElem?_set_self hi, h]
    · rw [List.getElem?_set_ne hj]
  rw [e]
theorem callTmp_ok {f : List Dt → Fo} {mo me : Mi Dt} {ρ ρ1 ρ2 : En} {c : Nat} {dv : List Dt} {y z o : Dt} (h1 : mo ρ = .ok (.ins c dv) ρ1) (h2 : me ρ1 = .ok y ρ2) (h3 : f [.ins c dv, y] = .ret z o) : mCallTmp f mo me ρ = .ok z ρ2 := by
  unfold mCallTmp
  rw [h1]; dsimp only
  rw [h2]; dsimp only
  rw [h3]
/-! ### the lists -/
def badL : List Dt := [.str "", .str "side", .str "sides 1", .str "least ", .str " count", .str "gap 0", .str "gap 0 5 1", .str "gap a 1", .str "look 0 1", .str "look 0 1 0 0", .str "rota", .str "season 07 1", .str "season 5", .str "undo 1", .str "Rota places 1", .str "gap 100 1", .str "look 0 1 x", .str "season -1 2", .str "gap 0 1\n"]
def wrP : List (String × String) := [("rota places 2", "rota rows"), ("rota places x", "text 0"), ("rota places 1 ; turn 0", "text 1"), ("rota places 1 ; turn 0 move 1", "rota rows"), ("season 0 3", "season days"), ("gap 9 1", "wheel 9"), ("look 99 0 0", "refused (99, 0, 0)"), ("look 0 7 0", "refused (0, 7, 0)"), ("rota places 0", "rota places"), ("look 0 0 2", "refused (0, 0, 2)")]
def wrD (x : String × String) : Dt := .tup [.str x.1, .str x.2]
def wrL : List Dt := wrP.map wrD
def goodL : List Dt := [.str "sides", .str "least", .str "count", .str "gap 0 5", .str "look 0 1 0", .str "season 9 3", .str "undo", .str "rota places 1 ; turn 0 move 0"]
theorem bad_ok {x : Dt} (hx : x ∈ badL) : m_law_heard [d73_1, x] = .ret (.str "command") d73_1 := by
  unfold badL at hx
  simp only [List.mem_cons, List.not_mem_nil, or_false] at hx
  rcases hx with rfl | rfl | rfl | rfl | rfl | rfl | rfl | rfl | rfl | rfl | rfl | rfl | rfl | rfl | rfl | rfl | rfl | rfl | rfl
  · exact hb_0
  · exact hb_1
  · exact hb_2
  · exact hb_3
  · exact hb_4
  · exact hb_5
  · exact hb_6
  · exact hb_7
  · exact hb_8
  · exact hb_9
  · exact hb_10
  · exact hb_11
  · exact hb_12
  · exact hb_13
  · exact hb_14
  · exact hb_15
  · exact hb_16
  · exact hb_17
  · exact hb_18
theorem wr_ok {x : String × String} (hx : x ∈ wrP) : m_law_heard [d73_1, .str x.1] = .ret (.str x.2) d73_1 := by
  unfold wrP at hx
  simp only [List.mem_cons, List.not_mem_nil, or_false] at hx
  rcases hx with rfl | rfl | rfl | rfl | rfl | rfl | rfl | rfl | rfl | rfl
  · exact hw_0
  · exact hw_1
  · exact hw_2
  · exact hw_3
  · exact hw_4
  · exact hw_5
  · exact hw_6
  · exact hw_7
  · exact hw_8
  · exact hw_9
/-! ### any values -/
def f0 (d : Dt) : Dt := .lst [d, .int 1]
def f1 (d : Dt) : Dt := .tup [d]
def deepV : Dt := f0 (f1 (f0 (f1 (f0 (f1 (f0 (.tup [])))))))
def valL : List Dt := [.int 0, .int (-3), .int 1000000000, .str "", .str "turn", .non, .bl true, .bl false, .lst [], .lst [.int 1, .str "move"], .tup [.int 0, .non], .tup [], .str "none", .int 2, .str "x y", .lst [.str "0"], .tup [.int 1, .int 0], .int 1]
theorem val_pick (q : Int × Int × Int) : ∃ v q', v ∈ valL ++ [deepV] ∧ m_law_value [bxD q] = .ret v (bxD q') := by
  obtain ⟨x, q', hx, e1⟩ := pick_any q (valL ++ [deepV]) (by decide) (by decide)
  refine ⟨x, q', hx, ?_⟩
  let E (s1 s2 s3 : Option Dt) : En := [io (bxD q), lv s1, lv s2, lv s3]
  refine runF_rt (ρ := [io (bxD q'), vl (.lst valL), vl deepV, vl (.int 6)]) ?_ rfl
  show b_law_value (E none none none) = _
  unfold b_law_value
  refine seq_nx (ρ' := E (some (.lst (valL.take 12))) none none) rfl ?_
  refine seq_nx (ρ' := E (some (.lst valL)) none none) rfl ?_
  refine seq_nx (ρ' := E (some (.lst valL)) (some (.tup [])) none) rfl ?_
  refine seq_nx (ρ' := E (some (.lst valL)) (some deepV) (some (.int 6))) rfl ?_
  refine ret_ok (callIo_ok (ρ := E (some (.lst valL)) (some deepV) (some (.int 6))) (ρ1 := E (some (.lst valL)) (some deepV) (some (.int 6))) (d0 := bxD q) (d1 := bxD q) (io0 := true) (io := true) (ds := [.lst (valL ++ [deepV])]) rfl ?_ rfl rfl e1 rfl)
  rfl
theorem val_ok {v : Dt} (hv : v ∈ valL ++ [deepV]) : fIsi .str v = some (.bl true) ∨ (fIsi .str v = some (.bl false) ∧ m_law_heard [d73_1, v] = .ret (.str "command") d73_1) := by
  unfold valL at hv
  simp only [List.cons_append, List.nil_append, List.mem_cons, List.not_mem_nil, or_false] at hv
  rcases hv with rfl | rfl | rfl | rfl | rfl | rfl | rfl | rfl | rfl | rfl | rfl | rfl | rfl | rfl | rfl | rfl | rfl | rfl | rfl
  all_goals first
    | exact .inl rfl
    | exact .inr ⟨rfl, by kernel_rfl⟩
/-! ### the law -/
def av : Bool → Dt → Option Sl
  | true, d => ow d
  | false, d => vl d
theorem var_av {ρ : En} {i : Nat} {c : Bool} {d : Dt} (h : ρ[i]? = some (av c d)) : mVar i ρ = .ok d (ρ.set i (vl d)) := by
  cases c with
  | true => unfold mVar; rw [h]; rfl
  | false =>
    have e : ρ.set i (vl d) = ρ := by
      apply List.ext_getElem?
      intro j
      by_cases hj : i = j
      · subst hj
        have hi : i < ρ.length := by
          rcases Nat.lt_or_ge i ρ.length with z | z
          · exact z
          · rw [List.getElem?_eq_none z] at h; cases h
        rw [List.getElem?_set_self hi, h]; rfl
      · rw [List.getElem?_set_ne hj]
    rw [e]
    unfold mVar; rw [h]; rfl
abbrev e73 (ns : List Int) (c1 c3 : Bool) (k : Nat) (q : Bq) (dk : Dt) (s7 s8 s9 s10 s11 : Option Dt) : En := [vl (.scr ns), av c1 (.lst goodL), vl (.lst badL), av c3 (.lst wrL), vl (nD k), ow (bxD q), ow dk, lv s7, lv s8, lv s9, lv s10, lv s11]
theorem turn73 (ns : List Int) (c1 c3 : Bool) (k t : Nat) (q : Bq) (s8 s9 s10 s11 : Option Dt) : ∃ (q' : Bq) (s8' s9' s10' s11' : Option Dt), lp_law_0 (e73 ns c1 c3 k q d73_1 (some (nD t)) s8 s9 s10 s11) = .nx (e73 ns c1 false k q' d73_1 (some (nD t)) s8' s9' s10' s11') := by
  let E (c3 : Bool) (q : Bq) (s8 s9 s10 s11 : Option Dt) : En := e73 ns c1 c3 k q d73_1 (some (nD t)) s8 s9 s10 s11
  obtain ⟨x, q1, hx, e1⟩ := pick_any q badL (by decide) (by decide)
  obtain ⟨y, q2, hy, e2⟩ := pick_any q1 wrL (by decide) (by decide)
  obtain ⟨z, hz, rfl⟩ := List.mem_map.mp hy
  obtain ⟨v, q3, hv, e3⟩ := val_pick q2
  have len : ∀ (c3 : Bool) (q : Bq) (s9 s10 s11 : Option Dt), mB (m2 fNe (mOwn1Io 7 m_Desk_len okLen 6) (mPeek 8)) (E c3 q (some (nD 1)) s9 s10 s11) = .ok false (E c3 q (some (nD 1)) s9 s10 s11) := fun c3 q s9 s10 s11 =>
    tb_ok (m2_ok (x := nD 1) (y := nD 1) (len_own (l := l73B) (P := [l73A]) (by decide) rfl) rfl ((fne_nat 1 1).trans rfl))
  refine ⟨q3, some (nD 1), some (.str z.1), some (.str z.2), some v, ?_⟩
  unfold lp_law_0
  refine seq_nx (ρ' := E c3 q (some (nD 1)) s9 s10 s11) (set_ok (d := nD 1) (ρ1 := E c3 q s8 s9 s10 s11) (len_own (l := l73B) (P := [l73A]) (by decide) rfl) (by cases s8 <;> rfl)) ?_
  refine seq_nx (ρ' := E c3 q1 (some (nD 1)) s9 s10 s11) (if_f (or_f (ρ1 := E c3 q1 (some (nD 1)) s9 s10 s11) (tb_ok (m2_ok (x := .str "command") (y := .str "command") (callIo_ok (io0 := false) (d0 := d73_1) (io := false) (d1 := d73_1) (ds := [x]) (ρ1 := E c3 q1 (some (nD 1)) s9 s10 s11) rfl (cons_ok (callIo_ok (io0 := false) (d0 := bxD q) (io := false) (d1 := bxD q) (ds := [.lst badL]) (ρ1 := E c3 q (some (nD 1)) s9 s10 s11) rfl rfl rfl rfl e1 rfl) rfl) rfl rfl (bad_ok hx) rfl) rfl (fne_s1 _))) (len _ _ _ _ _)) rfl) ?_
  refine seq_nx (ρ' := E false q2 (some (nD 1)) (some (.str z.1)) (some (.str z.2)) s11) (asg_ok (d := wrD z) (ρ1 := E false q2 (some (nD 1)) s9 s10 s11) (callIo_ok (io0 := false) (d0 := bxD q1) (io := false) (d1 := bxD q1) (ds := [.lst wrL]) (ρ1 := E false q1 (some (nD 1)) s9 s10 s11) rfl (cons_ok (var_av (c := c3) rfl) rfl) rfl rfl e2 rfl) (by cases s9 <;> cases s10 <;> rfl)) ?_
  refine seq_nx (ρ' := E false q2 (some (nD 1)) (some (.str z.1)) (some (.str z.2)) s11) (if_f (or_f (ρ1 := E false q2 (some (nD 1)) (some (.str z.1)) (some (.str z.2)) s11) (tb_ok (m2_ok (x := .str z.2) (y := .str z.2) (callIo_ok (io0 := false) (d0 := d73_1) (io := false) (d1 := d73_1) (ds := [.str z.1]) (ρ1 := E false q2 (some (nD 1)) (some (.str z.1)) (some (.str z.2)) s11) rfl rfl rfl rfl (wr_ok hz) rfl) rfl (fne_s1 _))) (len _ _ _ _ _)) rfl) ?_
  let G : En := E false q3 (some (nD 1)) (some (.str z.1)) (some (.str z.2)) (some v)
  refine seq_nx (ρ' := G) (set_ok (d := v) (ρ1 := E false q3 (some (nD 1)) (some (.str z.1)) (some (.str z.2)) s11) (callIo_ok (io0 := false) (d0 := bxD q2) (io := false) (d1 := bxD q2) (ds := []) (ρ1 := E false q2 (some (nD 1)) (some (.str z.1)) (some (.str z.2)) s11) rfl rfl rfl rfl e3 rfl) (by cases s11 <;> rfl)) ?_
  have ti : ∀ c, fIsi .str v = some (.bl c) → mB (m1 (fIsi .str) (mPeek 11)) G = .ok c G := fun c hc => tb_ok (m1_ok (x := v) rfl hc)
  rcases val_ok hv with h | ⟨h, hh⟩
  · exact if_f (and_f (not_ok (ti _ h))) rfl
  · exact if_f (and_t (not_ok (ti _ h)) (tb_ok (m2_ok (x := .str "command") (y := .str "command") (callIo_ok (io0 := false) (d0 := d73_1) (io := false) (d1 := d73_1) (ds := [v]) (ρ1 := G) rfl rfl rfl rfl hh rfl) rfl (fne_s1 _)))) rfl
theorem good_step {ns : List Int} {c1 c3 : Bool} {k : Nat} {q : Bq} {s7 s8 s9 s10 s11 : Option Dt} {c : String} {dA dB : Dt} (h : m_law_heard [dA, .str c] = .ret (.str "let") dB) (rest : List Dt) : forGo (gV 9) lp_law_1 (.str c :: rest) (e73 ns c1 c3 k q dA s7 s8 s9 s10 s11) = forGo (gV 9) lp_law_1 rest (e73 ns c1 c3 k q dB s7 s8 (some (.str c)) s10 s11) := by
  let E (dk : Dt) (s9 : Option Dt) : En := e73 ns c1 c3 k q dk s7 s8 s9 s10 s11
  have e1 : gV 9 (.str c) (E dA s9) = some (E dA (some (.str c))) := by cases s9 <;> rfl
  have e2 : lp_law_1 (E dA (some (.str c))) = .nx (E dB (some (.str c))) := by
    unfold lp_law_1
    exact if_f (tb_ok (m2_ok (x := .str "let") (y := .str "let") (callIo_ok (io0 := false) (d0 := dA) (io := false) (d1 := dA) (ds := [.str c]) (ρ1 := E dA (some (.str c))) rfl rfl rfl rfl h rfl) rfl (fne_s1 _))) rfl
  rw [forGo.eq_def]
  show (match gV 9 (.str c) (E dA s9) with | none => So.bad | some ρ1 => match lp_law_1 ρ1 with | .nx ρ2 => forGo (gV 9) lp_law_1 rest ρ2 | .ct ρ2 => forGo (gV 9) lp_law_1 rest ρ2 | .bk ρ2 => .nx ρ2 | o => o) = _
  rw [e1]
  dsimp only
  rw [e2]
def oo : Option Dt → Option Sl
  | none => none
  | some d => ow d
abbrev g73 (ns : List Int) (c1 c3 : Bool) (s4 : Option Dt) (q : Option Bq) (dk : Option Dt) (s7 s8 s9 s10 s11 : Option Dt) : En := [vl (.scr ns), av c1 (.lst goodL), vl (.lst badL), av c3 (.lst wrL), lv s4, bo q, oo dk, lv s7, lv s8, lv s9, lv s10, lv s11]
theorem cell73 (ns : List Int) (c1 c3 : Bool) (k : Nat) (q : Option Bq) (dk s7 s8 s9 s10 s11 : Option Dt) : ∃ (c3' : Bool) (q' : Option Bq) (dk' s7' s8' s9' s10' s11' : Option Dt), lp_law_2 (g73 ns c1 c3 (some (nD k)) q dk s7 s8 s9 s10 s11) = .nx (g73 ns false c3' (some (nD k)) q' dk' s7' s8' s9' s10' s11') := by
  obtain ⟨q0, e0⟩ := box_any ns k 73 (by omega)
  obtain ⟨ρ', g1, c3', q1, r7, r8, r9, r10, r11, rfl⟩ := forGo_all (g := gV 7) (bd := lp_law_0) nD (fun ρ => ∃ (c3 : Bool) (q : Bq) (s7 s8 s9 s10 s11 : Option Dt), ρ = e73 ns c1 c3 k q d73_1 s7 s8 s9 s10 s11) (List.range 12) (e73 ns c1 c3 k q0 d73_1 s7 s8 s9 s10 s11) ⟨c3, q0, s7, s8, s9, s10, s11, rfl⟩ (by
    rintro t _ ρ ⟨c3, q, s7, s8, s9, s10, s11, rfl⟩
    obtain ⟨q', a, b, c, d, e⟩ := turn73 ns c1 c3 k t q s8 s9 s10 s11
    exact ⟨e73 ns c1 c3 k q d73_1 (some (nD t)) s8 s9 s10 s11, by cases s7 <;> rfl, _, .inl e, _, _, _, _, _, _, _, rfl⟩)
  refine ⟨c3', some q1, some d73_4, r7, r8, some (.str "rota places 1 ; turn 0 move 0"), r10, r11, ?_⟩
  unfold lp_law_2
  refine seq_nx (ρ' := g73 ns c1 c3 (some (nD k)) (some q0) dk s7 s8 s9 s10 s11) (setN_ok (d := bxD q0) (ρ1 := g73 ns c1 c3 (some (nD k)) q dk s7 s8 s9 s10 s11) (call_ok (ds := [.scr ns, nD k, .int 73]) (r := .non) rfl rfl e0) (by cases q <;> rfl)) ?_
  refine seq_nx (ρ' := e73 ns c1 c3 k q0 d73_0 s7 s8 s9 s10 s11) (setN_ok (d := d73_0) (ρ1 := g73 ns c1 c3 (some (nD k)) (some q0) dk s7 s8 s9 s10 s11) (make_ok (ds := []) rfl rfl h_init) (by cases dk <;> rfl)) ?_
  have sr : mMethIo 7 2 m_Desk_say 6 (mCons (mPure (.str "rota places 2 ; turn 0 move 1 0")) (mPure [])) (e73 ns c1 c3 k q0 d73_0 s7 s8 s9 s10 s11) = .ok (.str "1") (e73 ns c1 c3 k q0 d73_1 s7 s8 s9 s10 s11) := by
    unfold mMethIo
    show (if (7 : Nat) = 7 then mCallIo 2 m_Desk_say 6 _ _ else .bad) = _
    rw [if_pos rfl]
    exact callIo_ok (io0 := false) (d0 := d73_0) (io := false) (d1 := d73_0) (ds := [.str "rota places 2 ; turn 0 move 1 0"]) (ρ1 := e73 ns c1 c3 k q0 d73_0 s7 s8 s9 s10 s11) rfl rfl rfl rfl h_rota rfl
  refine seq_nx (drop_ok sr) ?_
  refine seq_nx (for_ok (rngN_ok (N := 12) rfl (by decide)) g1) ?_
  refine for_ok (ds := goodL) (ρ1 := e73 ns false c3' k q1 d73_1 r7 r8 r9 r10 r11) (bind_ok (a := .lst goodL) (var_av (c := c1) rfl) rfl) ?_
  unfold goodL
  rw [good_step hg_0, good_step hg_1, good_step hg_2, good_step hg_3, good_step hg_4, good_step hg_5, good_step hg_6, good_step hg_7]
  rfl
theorem law_true (ns : List Int) (_ : ns.length ≤ 63) : m_law [.scr ns] = .ret (.bl true) .non := by
  let Z (a1 a2 a3 : Option Sl) : En := [vl (.scr ns), a1, a2, a3, none, none, none, none, none, none, none, none]
  obtain ⟨ρ', h1, c1, c3, s4, q, dk, s7, s8, s9, s10, s11, rfl⟩ := forGo_all (g := gV 4) (bd := lp_law_2) nD (fun ρ => ∃ (c1 c3 : Bool) (s4 : Option Dt) (q : Option Bq) (dk s7 s8 s9 s10 s11 : Option Dt), ρ = g73 ns c1 c3 s4 q dk s7 s8 s9 s10 s11) (List.range (cellM 3 ns)) (Z (ow (.lst goodL)) (vl (.lst badL)) (ow (.lst wrL))) ⟨true, true, none, none, none, none, none, none, none, none, rfl⟩ (by
    rintro k _ ρ ⟨c1, c3, s4, q, dk, s7, s8, s9, s10, s11, rfl⟩
    obtain ⟨c3', q', dk', a, b, c, d, e, h⟩ := cell73 ns c1 c3 k q dk s7 s8 s9 s10 s11
    exact ⟨g73 ns c1 c3 (some (nD k)) q dk s7 s8 s9 s10 s11, by cases s4 <;> rfl, _, .inl h, _, _, _, _, _, _, _, _, _, _, rfl⟩)
  have e11 : st_law_11 (g73 ns c1 c3 s4 q dk s7 s8 s9 s10 s11) = .rt (.bl true) (g73 ns c1 c3 s4 q dk s7 s8 s9 s10 s11) := by
    have em : ∀ ρ, mMake 7 1 m_Desk_init_k73 (mPure []) ρ = .ok d73_0 ρ := fun ρ => make_ok (ds := []) rfl rfl h_init
    exact ret_ok (m2_ok (x := .str "command") (y := .str "command") (callTmp_ok (c := 7) (dv := [l73A, .tup []]) (em _) (em _) h_desk) rfl (feq_self (k := 1) (flt_str _) (by decide)))
  have goodA : List Dt := goodL.take 7
  unfold m_law b_law
  refine runF_rt (ρ := g73 ns c1 c3 s4 q dk s7 s8 s9 s10 s11) ?_ rfl
  refine seq_nx (ρ' := Z (ow (.lst (goodL.take 7))) none none) rfl ?_
  refine seq_nx (ρ' := Z (ow (.lst goodL)) none none) rfl ?_
  refine seq_nx (ρ' := Z (ow (.lst goodL)) (vl (.lst (badL.take 9))) none) rfl ?_
  refine seq_nx (ρ' := Z (ow (.lst goodL)) (vl (.lst (badL.take 15))) none) rfl ?_
  refine seq_nx (ρ' := Z (ow (.lst goodL)) (vl (.lst badL)) none) rfl ?_
  refine seq_nx (ρ' := Z (ow (.lst goodL)) (vl (.lst badL)) (ow (.lst (wrL.take 3)))) rfl ?_
  refine seq_nx (ρ' := Z (ow (.lst goodL)) (vl (.lst badL)) (ow (.lst (wrL.take 5)))) rfl ?_
  refine seq_nx (ρ' := Z (ow (.lst goodL)) (vl (.lst badL)) (ow (.lst (wrL.take 7)))) rfl ?_
  refine seq_nx (ρ' := Z (ow (.lst goodL)) (vl (.lst badL)) (ow (.lst (wrL.take 9)))) rfl ?_
  refine seq_nx (ρ' := Z (ow (.lst goodL)) (vl (.lst badL)) (ow (.lst wrL))) rfl ?_
  refine seq_nx (ρ' := g73 ns c1 c3 s4 q dk s7 s8 s9 s10 s11) (for_ok (cellsM_ok (k := 3) (by decide) rfl) h1) e11
end Dl
namespace Dl
open PySem PySem.Spec PyProof.Rows L2
theorem dicW_of {K : PySem.W.Frag} {d : Addr} {o : Obj} {ks : List (Option (Str × Int))} (h : K.lookup d = some o) (h2 : He.dicW [(d, o)] d = some ks) : He.dicW K d = some ks := by
  have e : List.lookup d [(d, o)] = some o := by rw [List.lookup_cons, beq_self_eq_true d]
  unfold He.dicW at h2 ⊢
  rw [h]
  rw [e] at h2
  exact h2
/-! ### what the top has written -/
def spL (K : PySem.W.Frag) : Sp := fun vs H Q E => ∀ cl : Nat → Option (Addr × List Str), spM ⟨K, cl⟩ 1 false false m_law vs H Q E
theorem all_mk {P : Program} {w : World} {K : PySem.W.Frag} {h : Heap} {mg : Str → Option Value} {fa : Addr} (X : K.In h) (G : h.Ns mainGlobals mg) (hfa : mg "law" = some (.ref fa))
    {C_Season : Addr}
    {C_Live : Addr}
    {C_Rota : Addr}
    {C_Desk : Addr}
    {E_InvalidRota : Addr}
    {E_InvalidText : Addr}
    {E_InvalidSeason : Addr}
    {E_InvalidCommand : Addr}
    {E_NoWheel : Addr}
    {E_Refused : Addr}
    {R_TurnError : Addr}
    {eInvalidCommand : Addr} {eodInvalidCommand eanInvalidCommand : Option Addr} {eslInvalidCommand : Array (Option Value)} {eocInvalidCommand ekVInvalidCommand edcInvalidCommand epmInvalidCommand ecdInvalidCommand ectInvalidCommand : Value} {xnmInvalidCommand : Str} {xqInvalidCommand : Str} {xNInvalidCommand : Addr} {xbsInvalidCommand xbmInvalidCommand : List Value} {xsnInvalidCommand : _} {xsubInvalidCommand : _} {xabInvalidCommand xcolInvalidCommand : _} {xddInvalidCommand : _} {xk0InvalidCommand xk1InvalidCommand xk2InvalidCommand xk3InvalidCommand xk5InvalidCommand : _}
    {eInvalidText : Addr} {eodInvalidText eanInvalidText : Option Addr} {eslInvalidText : Array (Option Value)} {eocInvalidText ekVInvalidText edcInvalidText epmInvalidText ecdInvalidText ectInvalidText : Value} {xnmInvalidText : Str} {xqInvalidText : Str} {xNInvalidText : Addr} {xbsInvalidText xbmInvalidText : List Value} {xsnInvalidText : _} {xsubInvalidText : _} {xabInvalidText xcolInvalidText : _} {xddInvalidText : _} {xk0InvalidText xk1InvalidText xk2InvalidText xk3InvalidText xk5InvalidText : _}
    {eInvalidRota : Addr} {eodInvalidRota eanInvalidRota : Option Addr} {eslInvalidRota : Array (Option Value)} {eocInvalidRota ekVInvalidRota edcInvalidRota epmInvalidRota ecdInvalidRota ectInvalidRota : Value} {xnmInvalidRota : Str} {xqInvalidRota : Str} {xNInvalidRota : Addr} {xbsInvalidRota xbmInvalidRota : List Value} {xsnInvalidRota : _} {xsubInvalidRota : _} {xabInvalidRota xcolInvalidRota : _} {xddInvalidRota : _} {xk0InvalidRota xk1InvalidRota xk2InvalidRota xk3InvalidRota xk5InvalidRota : _}
    {eInvalidSeason : Addr} {eodInvalidSeason eanInvalidSeason : Option Addr} {eslInvalidSeason : Array (Option Value)} {eocInvalidSeason ekVInvalidSeason edcInvalidSeason epmInvalidSeason ecdInvalidSeason ectInvalidSeason : Value} {xnmInvalidSeason : Str} {xqInvalidSeason : Str} {xNInvalidSeason : Addr} {xbsInvalidSeason xbmInvalidSeason : List Value} {xsnInvalidSeason : _} {xsubInvalidSeason : _} {xabInvalidSeason xcolInvalidSeason : _} {xddInvalidSeason : _} {xk0InvalidSeason xk1InvalidSeason xk2InvalidSeason xk3InvalidSeason xk5InvalidSeason : _}
    {eNoWheel : Addr} {eodNoWheel eanNoWheel : Option Addr} {eslNoWheel : Array (Option Value)} {eocNoWheel ekVNoWheel edcNoWheel epmNoWheel ecdNoWheel ectNoWheel : Value} {xnmNoWheel : Str} {xqNoWheel : Str} {xNNoWheel : Addr} {xbsNoWheel xbmNoWheel : List Value} {xsnNoWheel : _} {xsubNoWheel : _} {xabNoWheel xcolNoWheel : _} {xddNoWheel : _} {xk0NoWheel xk1NoWheel xk2NoWheel xk3NoWheel xk5NoWheel : _}
    {eRefused : Addr} {eodRefused eanRefused : Option Addr} {eslRefused : Array (Option Value)} {eocRefused ekVRefused edcRefused epmRefused ecdRefused ectRefused : Value} {xnmRefused : Str} {xqRefused : Str} {xNRefused : Addr} {xbsRefused xbmRefused : List Value} {xsnRefused : _} {xsubRefused : _} {xabRefused xcolRefused : _} {xddRefused : _} {xk0Refused xk1Refused xk2Refused xk3Refused xk5Refused : _}
    {f0 : Addr} {od0 an0 : Option Addr} {sl0 : Array (Option Value)} {oc0 kV0 dc0 pm0 cd0 ct0 : Value}
    {f1 : Addr} {od1 an1 : Option Addr} {sl1 : Array (Option Value)} {oc1 kV1 dc1 pm1 cd1 ct1 : Value}
    {f2 : Addr} {od2 an2 : Option Addr} {sl2 : Array (Option Value)} {oc2 kV2 dc2 pm2 cd2 ct2 : Value}
    {f3 : Addr} {od3 an3 : Option Addr} {sl3 : Array (Option Value)} {oc3 kV3 dc3 pm3 cd3 ct3 : Value}
    {f4 : Addr} {od4 an4 : Option Addr} {sl4 : Array (Option Value)} {oc4 kV4 dc4 pm4 cd4 ct4 : Value}
    {f5 : Addr} {od5 an5 : Option Addr} {sl5 : Array (Option Value)} {oc5 kV5 dc5 pm5 cd5 ct5 : Value}
    {f6 : Addr} {od6 an6 : Option Addr} {sl6 : Array (Option Value)} {oc6 kV6 dc6 pm6 cd6 ct6 : Value}
    {f7 : Addr} {od7 an7 : Option Addr} {sl7 : Array (Option Value)} {oc7 kV7 dc7 pm7 cd7 ct7 : Value}
    {f8 : Addr} {od8 an8 : Option Addr} {sl8 : Array (Option Value)} {oc8 kV8 dc8 pm8 cd8 ct8 : Value}
    {f9 : Addr} {od9 an9 : Option Addr} {sl9 : Array (Option Value)} {oc9 kV9 dc9 pm9 cd9 ct9 : Value}
    {f10 : Addr} {od10 an10 : Option Addr} {sl10 : Array (Option Value)} {oc10 kV10 dc10 pm10 cd10 ct10 : Value}
    {f11 : Addr} {od11 an11 : Option Addr} {sl11 : Array (Option Value)} {oc11 kV11 dc11 pm11 cd11 ct11 : Value}
    {f12 : Addr} {od12 an12 : Option Addr} {sl12 : Array (Option Value)} {oc12 kV12 dc12 pm12 cd12 ct12 : Value}
    {f13 : Addr} {od13 an13 : Option Addr} {sl13 : Array (Option Value)} {oc13 kV13 dc13 pm13 cd13 ct13 : Value}
    {f14 : Addr} {od14 an14 : Option Addr} {sl14 : Array (Option Value)} {oc14 kV14 dc14 pm14 cd14 ct14 : Value}
    {f15 : Addr} {od15 an15 : Option Addr} {sl15 : Array (Option Value)} {oc15 kV15 dc15 pm15 cd15 ct15 : Value}
    {f16 : Addr} {od16 an16 : Option Addr} {sl16 : Array (Option Value)} {oc16 kV16 dc16 pm16 cd16 ct16 : Value}
    {f17 : Addr} {od17 an17 : Option Addr} {sl17 : Array (Option Value)} {oc17 kV17 dc17 pm17 cd17 ct17 : Value}
    {f18 : Addr} {od18 an18 : Option Addr} {sl18 : Array (Option Value)} {oc18 kV18 dc18 pm18 cd18 ct18 : Value}
    {f19 : Addr} {od19 an19 : Option Addr} {sl19 : Array (Option Value)} {oc19 kV19 dc19 pm19 cd19 ct19 : Value}
    {f20 : Addr} {od20 an20 : Option Addr} {sl20 : Array (Option Value)} {oc20 kV20 dc20 pm20 cd20 ct20 : Value}
    {f21 : Addr} {od21 an21 : Option Addr} {sl21 : Array (Option Value)} {oc21 kV21 dc21 pm21 cd21 ct21 : Value}
    {f22 : Addr} {od22 an22 : Option Addr} {sl22 : Array (Option Value)} {oc22 kV22 dc22 pm22 cd22 ct22 : Value}
    {f23 : Addr} {od23 an23 : Option Addr} {sl23 : Array (Option Value)} {oc23 kV23 dc23 pm23 cd23 ct23 : Value}
    {f24 : Addr} {od24 an24 : Option Addr} {sl24 : Array (Option Value)} {oc24 kV24 dc24 pm24 cd24 ct24 : Value}
    {f25 : Addr} {od25 an25 : Option Addr} {sl25 : Array (Option Value)} {oc25 kV25 dc25 pm25 cd25 ct25 : Value}
    {f26 : Addr} {od26 an26 : Option Addr} {sl26 : Array (Option Value)} {oc26 kV26 dc26 pm26 cd26 ct26 : Value}
    {f27 : Addr} {od27 an27 : Option Addr} {sl27 : Array (Option Value)} {oc27 kV27 dc27 pm27 cd27 ct27 : Value}
    {f28 : Addr} {od28 an28 : Option Addr} {sl28 : Array (Option Value)} {oc28 kV28 dc28 pm28 cd28 ct28 : Value}
    {f29 : Addr} {od29 an29 : Option Addr} {sl29 : Array (Option Value)} {oc29 kV29 dc29 pm29 cd29 ct29 : Value}
    {f30 : Addr} {od30 an30 : Option Addr} {sl30 : Array (Option Value)} {oc30 kV30 dc30 pm30 cd30 ct30 : Value}
    {f31 : Addr} {od31 an31 : Option Addr} {sl31 : Array (Option Value)} {oc31 kV31 dc31 pm31 cd31 ct31 : Value}
    {f32 : Addr} {od32 an32 : Option Addr} {sl32 : Array (Option Value)} {oc32 kV32 dc32 pm32 cd32 ct32 : Value}
    {f33 : Addr} {od33 an33 : Option Addr} {sl33 : Array (Option Value)} {oc33 kV33 dc33 pm33 cd33 ct33 : Value}
    {f34 : Addr} {od34 an34 : Option Addr} {sl34 : Array (Option Value)} {oc34 kV34 dc34 pm34 cd34 ct34 : Value}
    {f35 : Addr} {od35 an35 : Option Addr} {sl35 : Array (Option Value)} {oc35 kV35 dc35 pm35 cd35 ct35 : Value}
    {f36 : Addr} {od36 an36 : Option Addr} {sl36 : Array (Option Value)} {oc36 kV36 dc36 pm36 cd36 ct36 : Value}
    {f37 : Addr} {od37 an37 : Option Addr} {sl37 : Array (Option Value)} {oc37 kV37 dc37 pm37 cd37 ct37 : Value}
    {f38 : Addr} {od38 an38 : Option Addr} {sl38 : Array (Option Value)} {oc38 kV38 dc38 pm38 cd38 ct38 : Value}
    {f39 : Addr} {od39 an39 : Option Addr} {sl39 : Array (Option Value)} {oc39 kV39 dc39 pm39 cd39 ct39 : Value}
    {f40 : Addr} {od40 an40 : Option Addr} {sl40 : Array (Option Value)} {oc40 kV40 dc40 pm40 cd40 ct40 : Value}
    {f41 : Addr} {od41 an41 : Option Addr} {sl41 : Array (Option Value)} {oc41 kV41 dc41 pm41 cd41 ct41 : Value}
    {f42 : Addr} {od42 an42 : Option Addr} {sl42 : Array (Option Value)} {oc42 kV42 dc42 pm42 cd42 ct42 : Value}
    {f43 : Addr} {od43 an43 : Option Addr} {sl43 : Array (Option Value)} {oc43 kV43 dc43 pm43 cd43 ct43 : Value}
    {tT43 tE43 : Addr} {td43 ed43 : Option Addr} {tc43 : Value} {ts43 es43 : Array (Option Value)} {tn43 en43 : Nat}
    {f44 : Addr} {od44 an44 : Option Addr} {sl44 : Array (Option Value)} {oc44 kV44 dc44 pm44 cd44 ct44 : Value}
    {f45 : Addr} {od45 an45 : Option Addr} {sl45 : Array (Option Value)} {oc45 kV45 dc45 pm45 cd45 ct45 : Value}
    {pq45 : Addr} {rq45 : List Value}
    {f46 : Addr} {od46 an46 : Option Addr} {sl46 : Array (Option Value)} {oc46 kV46 dc46 pm46 cd46 ct46 : Value}
    {f47 : Addr} {od47 an47 : Option Addr} {sl47 : Array (Option Value)} {oc47 kV47 dc47 pm47 cd47 ct47 : Value}
    {f48 : Addr} {od48 an48 : Option Addr} {sl48 : Array (Option Value)} {oc48 kV48 dc48 pm48 cd48 ct48 : Value}
    {f49 : Addr} {od49 an49 : Option Addr} {sl49 : Array (Option Value)} {oc49 kV49 dc49 pm49 cd49 ct49 : Value}
    {f50 : Addr} {od50 an50 : Option Addr} {sl50 : Array (Option Value)} {oc50 kV50 dc50 pm50 cd50 ct50 : Value}
    {f51 : Addr} {od51 an51 : Option Addr} {sl51 : Array (Option Value)} {oc51 kV51 dc51 pm51 cd51 ct51 : Value}
    {f52 : Addr} {od52 an52 : Option Addr} {sl52 : Array (Option Value)} {oc52 kV52 dc52 pm52 cd52 ct52 : Value}
    {f53 : Addr} {od53 an53 : Option Addr} {sl53 : Array (Option Value)} {oc53 kV53 dc53 pm53 cd53 ct53 : Value}
    {f54 : Addr} {od54 an54 : Option Addr} {sl54 : Array (Option Value)} {oc54 kV54 dc54 pm54 cd54 ct54 : Value}
    {f55 : Addr} {od55 an55 : Option Addr} {sl55 : Array (Option Value)} {oc55 kV55 dc55 pm55 cd55 ct55 : Value}
    {f56 : Addr} {od56 an56 : Option Addr} {sl56 : Array (Option Value)} {oc56 kV56 dc56 pm56 cd56 ct56 : Value}
    {f57 : Addr} {od57 an57 : Option Addr} {sl57 : Array (Option Value)} {oc57 kV57 dc57 pm57 cd57 ct57 : Value}
    {f58 : Addr} {od58 an58 : Option Addr} {sl58 : Array (Option Value)} {oc58 kV58 dc58 pm58 cd58 ct58 : Value}
    {f59 : Addr} {od59 an59 : Option Addr} {sl59 : Array (Option Value)} {oc59 kV59 dc59 pm59 cd59 ct59 : Value}
    {f60 : Addr} {od60 an60 : Option Addr} {sl60 : Array (Option Value)} {oc60 kV60 dc60 pm60 cd60 ct60 : Value}
    {f61 : Addr} {od61 an61 : Option Addr} {sl61 : Array (Option Value)} {oc61 kV61 dc61 pm61 cd61 ct61 : Value}
    {t0 : Tok}
    {t1 : Tok}
    {t2 : Tok}
    {t3 : Tok}
    {t4 : Tok}
    {t5 : Tok}
    {dK_SIZES : Addr} {tK0_SIZES : Tok} {tK1_SIZES : Tok} {tK2_SIZES : Tok} {tK3_SIZES : Tok} {tK4_SIZES : Tok} {tK5_SIZES : Tok} {tK6_SIZES : Tok}
    (aC_Season : PySem.W.nsIn K mainGlobals "Season" = some (some (.ref C_Season)))
    (pg_Season : PySem.W.plainGet K C_Season Str.empty = true)
    (hd_Season : PySem.W.hasDictIn K C_Season = true)
    (po_Season : PySem.W.plainOver K C_Season = true)
    (sa_Season : PySem.W.findIn K (.ref C_Season) "__setattr__" = some (some (.builtin "object.__setattr__")))
    (mk_Season : PySem.W.makesIn K C_Season = true)
    (kc_Season : PySem.W.keepIn K (.ref C_Season) = true)
    (na_Season_rota : PySem.W.findIn K (.ref C_Season) "rota" = some none)
    (na_Season_days : PySem.W.findIn K (.ref C_Season) "days" = some none)
    (na_Season_budget : PySem.W.findIn K (.ref C_Season) "budget" = some none)
    (na_Season_looks : PySem.W.findIn K (.ref C_Season) "looks" = some none)
    (na_Season_wheels : PySem.W.findIn K (.ref C_Season) "wheels" = some none)
    (na_Season_due : PySem.W.findIn K (.ref C_Season) "due" = some none)
    (aC_Live : PySem.W.nsIn K mainGlobals "Live" = some (some (.ref C_Live)))
    (pg_Live : PySem.W.plainGet K C_Live Str.empty = true)
    (hd_Live : PySem.W.hasDictIn K C_Live = true)
    (po_Live : PySem.W.plainOver K C_Live = true)
    (sa_Live : PySem.W.findIn K (.ref C_Live) "__setattr__" = some (some (.builtin "object.__setattr__")))
    (mk_Live : PySem.W.makesIn K C_Live = true)
    (kc_Live : PySem.W.keepIn K (.ref C_Live) = true)
    (na_Live_past : PySem.W.findIn K (.ref C_Live) "past" = some none)
    (na_Live_season : PySem.W.findIn K (.ref C_Live) "season" = some none)
    (na_Live_is_possible : PySem.W.findIn K (.ref C_Live) "is_possible" = some none)
    (na_Live_sure : PySem.W.findIn K (.ref C_Live) "sure" = some none)
    (aC_Rota : PySem.W.nsIn K mainGlobals "Rota" = some (some (.ref C_Rota)))
    (pg_Rota : PySem.W.plainGet K C_Rota Str.empty = true)
    (hd_Rota : PySem.W.hasDictIn K C_Rota = true)
    (po_Rota : PySem.W.plainOver K C_Rota = true)
    (sa_Rota : PySem.W.findIn K (.ref C_Rota) "__setattr__" = some (some (.builtin "object.__setattr__")))
    (mk_Rota : PySem.W.makesIn K C_Rota = true)
    (kc_Rota : PySem.W.keepIn K (.ref C_Rota) = true)
    (na_Rota_places : PySem.W.findIn K (.ref C_Rota) "places" = some none)
    (na_Rota_rows : PySem.W.findIn K (.ref C_Rota) "rows" = some none)
    (na_Rota_text : PySem.W.findIn K (.ref C_Rota) "text" = some none)
    (aC_Desk : PySem.W.nsIn K mainGlobals "Desk" = some (some (.ref C_Desk)))
    (pg_Desk : PySem.W.plainGet K C_Desk Str.empty = true)
    (hd_Desk : PySem.W.hasDictIn K C_Desk = true)
    (po_Desk : PySem.W.plainOver K C_Desk = true)
    (sa_Desk : PySem.W.findIn K (.ref C_Desk) "__setattr__" = some (some (.builtin "object.__setattr__")))
    (mk_Desk : PySem.W.makesIn K C_Desk = true)
    (kc_Desk : PySem.W.keepIn K (.ref C_Desk) = true)
    (na_Desk_live : PySem.W.findIn K (.ref C_Desk) "live" = some none)
    (na_Desk_past : PySem.W.findIn K (.ref C_Desk) "past" = some none)
    (sb_Desk_int : PySem.W.subIn K (.ref C_Desk) (.type "int") = some false)
    (sb_Desk_bool : PySem.W.subIn K (.ref C_Desk) (.type "bool") = some false)
    (sb_Desk_str : PySem.W.subIn K (.ref C_Desk) (.type "str") = some false)
    (sb_Desk_list : PySem.W.subIn K (.ref C_Desk) (.type "list") = some false)
    (sb_Desk_tuple : PySem.W.subIn K (.ref C_Desk) (.type "tuple") = some false)
    (iha_Desk : PySem.W.findIn K (.ref C_Desk) "__class__" = some (some (.builtin "object.__class__")))
    (ihn_Desk : PySem.W.specialIn K (.builtin "object.__class__") "__get__" = some (some (.builtin "getset_descriptor.__get__")))
    (iht_Desk : PySem.W.takesIn K (.builtin "object.__class__") = some true)
    (aE_InvalidRota : PySem.W.nsIn K mainGlobals "InvalidRota" = some (some (.ref E_InvalidRota)))
    (hdE_InvalidRota : PySem.W.hasDictIn K E_InvalidRota = true)
    (tyE_InvalidRota : PySem.W.typeIn K (.ref E_InvalidRota) = some (.type "type"))
    (sfE_InvalidRota : PySem.W.subIn K (.ref E_InvalidRota) (.ref E_InvalidRota) = some true)
    (aE_InvalidText : PySem.W.nsIn K mainGlobals "InvalidText" = some (some (.ref E_InvalidText)))
    (hdE_InvalidText : PySem.W.hasDictIn K E_InvalidText = true)
    (tyE_InvalidText : PySem.W.typeIn K (.ref E_InvalidText) = some (.type "type"))
    (sfE_InvalidText : PySem.W.subIn K (.ref E_InvalidText) (.ref E_InvalidText) = some true)
    (aE_InvalidSeason : PySem.W.nsIn K mainGlobals "InvalidSeason" = some (some (.ref E_InvalidSeason)))
    (hdE_InvalidSeason : PySem.W.hasDictIn K E_InvalidSeason = true)
    (tyE_InvalidSeason : PySem.W.typeIn K (.ref E_InvalidSeason) = some (.type "type"))
    (sfE_InvalidSeason : PySem.W.subIn K (.ref E_InvalidSeason) (.ref E_InvalidSeason) = some true)
    (aE_InvalidCommand : PySem.W.nsIn K mainGlobals "InvalidCommand" = some (some (.ref E_InvalidCommand)))
    (hdE_InvalidCommand : PySem.W.hasDictIn K E_InvalidCommand = true)
    (tyE_InvalidCommand : PySem.W.typeIn K (.ref E_InvalidCommand) = some (.type "type"))
    (sfE_InvalidCommand : PySem.W.subIn K (.ref E_InvalidCommand) (.ref E_InvalidCommand) = some true)
    (aE_NoWheel : PySem.W.nsIn K mainGlobals "NoWheel" = some (some (.ref E_NoWheel)))
    (hdE_NoWheel : PySem.W.hasDictIn K E_NoWheel = true)
    (tyE_NoWheel : PySem.W.typeIn K (.ref E_NoWheel) = some (.type "type"))
    (sfE_NoWheel : PySem.W.subIn K (.ref E_NoWheel) (.ref E_NoWheel) = some true)
    (aE_Refused : PySem.W.nsIn K mainGlobals "Refused" = some (some (.ref E_Refused)))
    (hdE_Refused : PySem.W.hasDictIn K E_Refused = true)
    (tyE_Refused : PySem.W.typeIn K (.ref E_Refused) = some (.type "type"))
    (sfE_Refused : PySem.W.subIn K (.ref E_Refused) (.ref E_Refused) = some true)
    (su_InvalidCommand_InvalidCommand : PySem.W.subIn K (.ref E_InvalidCommand) (.ref E_InvalidCommand) = some true)
    (su_InvalidCommand_InvalidRota : PySem.W.subIn K (.ref E_InvalidCommand) (.ref E_InvalidRota) = some false)
    (su_InvalidCommand_InvalidSeason : PySem.W.subIn K (.ref E_InvalidCommand) (.ref E_InvalidSeason) = some false)
    (su_InvalidCommand_InvalidText : PySem.W.subIn K (.ref E_InvalidCommand) (.ref E_InvalidText) = some false)
    (su_InvalidCommand_NoWheel : PySem.W.subIn K (.ref E_InvalidCommand) (.ref E_NoWheel) = some false)
    (su_InvalidCommand_Refused : PySem.W.subIn K (.ref E_InvalidCommand) (.ref E_Refused) = some false)
    (su_InvalidRota_InvalidCommand : PySem.W.subIn K (.ref E_InvalidRota) (.ref E_InvalidCommand) = some false)
    (su_InvalidRota_InvalidRota : PySem.W.subIn K (.ref E_InvalidRota) (.ref E_InvalidRota) = some true)
    (su_InvalidRota_InvalidSeason : PySem.W.subIn K (.ref E_InvalidRota) (.ref E_InvalidSeason) = some false)
    (su_InvalidRota_InvalidText : PySem.W.subIn K (.ref E_InvalidRota) (.ref E_InvalidText) = some false)
    (su_InvalidRota_NoWheel : PySem.W.subIn K (.ref E_InvalidRota) (.ref E_NoWheel) = some false)
    (su_InvalidRota_Refused : PySem.W.subIn K (.ref E_InvalidRota) (.ref E_Refused) = some false)
    (su_InvalidSeason_InvalidCommand : PySem.W.subIn K (.ref E_InvalidSeason) (.ref E_InvalidCommand) = some false)
    (su_InvalidSeason_InvalidRota : PySem.W.subIn K (.ref E_InvalidSeason) (.ref E_InvalidRota) = some false)
    (su_InvalidSeason_InvalidSeason : PySem.W.subIn K (.ref E_InvalidSeason) (.ref E_InvalidSeason) = some true)
    (su_InvalidSeason_InvalidText : PySem.W.subIn K (.ref E_InvalidSeason) (.ref E_InvalidText) = some false)
    (su_InvalidSeason_NoWheel : PySem.W.subIn K (.ref E_InvalidSeason) (.ref E_NoWheel) = some false)
    (su_InvalidSeason_Refused : PySem.W.subIn K (.ref E_InvalidSeason) (.ref E_Refused) = some false)
    (su_InvalidText_InvalidCommand : PySem.W.subIn K (.ref E_InvalidText) (.ref E_InvalidCommand) = some false)
    (su_InvalidText_InvalidRota : PySem.W.subIn K (.ref E_InvalidText) (.ref E_InvalidRota) = some false)
    (su_InvalidText_InvalidSeason : PySem.W.subIn K (.ref E_InvalidText) (.ref E_InvalidSeason) = some false)
    (su_InvalidText_InvalidText : PySem.W.subIn K (.ref E_InvalidText) (.ref E_InvalidText) = some true)
    (su_InvalidText_NoWheel : PySem.W.subIn K (.ref E_InvalidText) (.ref E_NoWheel) = some false)
    (su_InvalidText_Refused : PySem.W.subIn K (.ref E_InvalidText) (.ref E_Refused) = some false)
    (su_NoWheel_InvalidCommand : PySem.W.subIn K (.ref E_NoWheel) (.ref E_InvalidCommand) = some false)
    (su_NoWheel_InvalidRota : PySem.W.subIn K (.ref E_NoWheel) (.ref E_InvalidRota) = some false)
    (su_NoWheel_InvalidSeason : PySem.W.subIn K (.ref E_NoWheel) (.ref E_InvalidSeason) = some false)
    (su_NoWheel_InvalidText : PySem.W.subIn K (.ref E_NoWheel) (.ref E_InvalidText) = some false)
    (su_NoWheel_NoWheel : PySem.W.subIn K (.ref E_NoWheel) (.ref E_NoWheel) = some true)
    (su_NoWheel_Refused : PySem.W.subIn K (.ref E_NoWheel) (.ref E_Refused) = some false)
    (su_Refused_InvalidCommand : PySem.W.subIn K (.ref E_Refused) (.ref E_InvalidCommand) = some false)
    (su_Refused_InvalidRota : PySem.W.subIn K (.ref E_Refused) (.ref E_InvalidRota) = some false)
    (su_Refused_InvalidSeason : PySem.W.subIn K (.ref E_Refused) (.ref E_InvalidSeason) = some false)
    (su_Refused_InvalidText : PySem.W.subIn K (.ref E_Refused) (.ref E_InvalidText) = some false)
    (su_Refused_NoWheel : PySem.W.subIn K (.ref E_Refused) (.ref E_NoWheel) = some false)
    (su_Refused_Refused : PySem.W.subIn K (.ref E_Refused) (.ref E_Refused) = some true)
    (aR_TurnError : PySem.W.nsIn K mainGlobals "TurnError" = some (some (.ref R_TurnError)))
    (rdR_TurnError : PySem.W.readsIn K R_TurnError (.type "type") = true)
    (gaR_TurnError : PySem.W.specialIn K (.ref R_TurnError) "__getattribute__" = some (some (.builtin "type.__getattribute__")))
    (inR_TurnError : PySem.W.findCls K (.ref R_TurnError) (.type "type") "__init__" = some (.val (.builtin "ValueError.__init__")))
    (xa_InvalidCommand : PySem.W.findIn K (.ref E_InvalidCommand) "__init__" = some (some (.ref eInvalidCommand)))
    (xi_InvalidCommand : PySem.W.typeIn K (.ref eInvalidCommand) = some (.type "function"))
    (xl_InvalidCommand : K.lookup eInvalidCommand = some ⟨eocInvalidCommand, eodInvalidCommand, .func (PySem.W.fnOf "__init__" "InvalidCommand.__init__" (defArgs s_InvalidCommand_init) (defBody s_InvalidCommand_init) (defScope s_InvalidCommand_init) .none ekVInvalidCommand edcInvalidCommand epmInvalidCommand eanInvalidCommand ecdInvalidCommand ectInvalidCommand), eslInvalidCommand⟩)
    (xc_InvalidCommand : PySem.W.codeIn K ecdInvalidCommand "InvalidCommand.__init__" = true)
    (xk_InvalidCommand : PySem.W.keepIn K (.ref eInvalidCommand) = true)
    (xo_InvalidCommand : K.lookup E_InvalidCommand = some (excClassObj xnmInvalidCommand xqInvalidCommand E_InvalidCommand xNInvalidCommand xbsInvalidCommand xbmInvalidCommand true xsnInvalidCommand xsubInvalidCommand xabInvalidCommand xcolInvalidCommand xddInvalidCommand xk0InvalidCommand xk1InvalidCommand xk2InvalidCommand xk3InvalidCommand xk5InvalidCommand "ValueError.__new__"))
    (xv_InvalidCommand : PySem.HandSPX.refsVE xbmInvalidCommand = true)
    (xs_InvalidCommand : PySem.W.findIn K (.ref E_InvalidCommand) "__setattr__" = some (some (.builtin "object.__setattr__")))
    (xb_InvalidCommand : PySem.W.subIn K (.ref E_InvalidCommand) (.type "BaseException") = some true)
    (xp_InvalidCommand : PySem.W.keepIn K (.ref E_InvalidCommand) = true)
    (xg_InvalidCommand : PySem.W.findIn K (.ref E_InvalidCommand) "__getattribute__" = some (some (.builtin "BaseException.__getattribute__")))
    (xh_InvalidCommand : PySem.W.findIn K (.ref E_InvalidCommand) "__getattr__" = some none)
    (xd_InvalidCommand : PySem.W.findIn K (.ref E_InvalidCommand) "__class__" = some (some (.builtin "object.__class__")))
    (xe_InvalidCommand : PySem.W.specialIn K (.builtin "object.__class__") "__get__" = some (some (.builtin "getset_descriptor.__get__")))
    (xt_InvalidCommand : PySem.W.takesIn K (.builtin "object.__class__") = some true)
    (xm_InvalidCommand : PySem.W.mroIn K E_InvalidCommand (.type "object") = some true)
    (xa_InvalidText : PySem.W.findIn K (.ref E_InvalidText) "__init__" = some (some (.ref eInvalidText)))
    (xi_InvalidText : PySem.W.typeIn K (.ref eInvalidText) = some (.type "function"))
    (xl_InvalidText : K.lookup eInvalidText = some ⟨eocInvalidText, eodInvalidText, .func (PySem.W.fnOf "__init__" "InvalidText.__init__" (defArgs s_InvalidText_init) (defBody s_InvalidText_init) (defScope s_InvalidText_init) .none ekVInvalidText edcInvalidText epmInvalidText eanInvalidText ecdInvalidText ectInvalidText), eslInvalidText⟩)
    (xc_InvalidText : PySem.W.codeIn K ecdInvalidText "InvalidText.__init__" = true)
    (xk_InvalidText : PySem.W.keepIn K (.ref eInvalidText) = true)
    (xo_InvalidText : K.lookup E_InvalidText = some (excClassObj xnmInvalidText xqInvalidText E_InvalidText xNInvalidText xbsInvalidText xbmInvalidText true xsnInvalidText xsubInvalidText xabInvalidText xcolInvalidText xddInvalidText xk0InvalidText xk1InvalidText xk2InvalidText xk3InvalidText xk5InvalidText "ValueError.__new__"))
    (xv_InvalidText : PySem.HandSPX.refsVE xbmInvalidText = true)
    (xs_InvalidText : PySem.W.findIn K (.ref E_InvalidText) "__setattr__" = some (some (.builtin "object.__setattr__")))
    (xb_InvalidText : PySem.W.subIn K (.ref E_InvalidText) (.type "BaseException") = some true)
    (xp_InvalidText : PySem.W.keepIn K (.ref E_InvalidText) = true)
    (xg_InvalidText : PySem.W.findIn K (.ref E_InvalidText) "__getattribute__" = some (some (.builtin "BaseException.__getattribute__")))
    (xh_InvalidText : PySem.W.findIn K (.ref E_InvalidText) "__getattr__" = some none)
    (xd_InvalidText : PySem.W.findIn K (.ref E_InvalidText) "__class__" = some (some (.builtin "object.__class__")))
    (xe_InvalidText : PySem.W.specialIn K (.builtin "object.__class__") "__get__" = some (some (.builtin "getset_descriptor.__get__")))
    (xt_InvalidText : PySem.W.takesIn K (.builtin "object.__class__") = some true)
    (xm_InvalidText : PySem.W.mroIn K E_InvalidText (.type "object") = some true)
    (xn_InvalidText : PySem.W.findIn K (.ref E_InvalidText) "at" = some none)
    (xa_InvalidRota : PySem.W.findIn K (.ref E_InvalidRota) "__init__" = some (some (.ref eInvalidRota)))
    (xi_InvalidRota : PySem.W.typeIn K (.ref eInvalidRota) = some (.type "function"))
    (xl_InvalidRota : K.lookup eInvalidRota = some ⟨eocInvalidRota, eodInvalidRota, .func (PySem.W.fnOf "__init__" "InvalidRota.__init__" (defArgs s_InvalidRota_init) (defBody s_InvalidRota_init) (defScope s_InvalidRota_init) .none ekVInvalidRota edcInvalidRota epmInvalidRota eanInvalidRota ecdInvalidRota ectInvalidRota), eslInvalidRota⟩)
    (xc_InvalidRota : PySem.W.codeIn K ecdInvalidRota "InvalidRota.__init__" = true)
    (xk_InvalidRota : PySem.W.keepIn K (.ref eInvalidRota) = true)
    (xo_InvalidRota : K.lookup E_InvalidRota = some (excClassObj xnmInvalidRota xqInvalidRota E_InvalidRota xNInvalidRota xbsInvalidRota xbmInvalidRota true xsnInvalidRota xsubInvalidRota xabInvalidRota xcolInvalidRota xddInvalidRota xk0InvalidRota xk1InvalidRota xk2InvalidRota xk3InvalidRota xk5InvalidRota "ValueError.__new__"))
    (xv_InvalidRota : PySem.HandSPX.refsVE xbmInvalidRota = true)
    (xs_InvalidRota : PySem.W.findIn K (.ref E_InvalidRota) "__setattr__" = some (some (.builtin "object.__setattr__")))
    (xb_InvalidRota : PySem.W.subIn K (.ref E_InvalidRota) (.type "BaseException") = some true)
    (xp_InvalidRota : PySem.W.keepIn K (.ref E_InvalidRota) = true)
    (xg_InvalidRota : PySem.W.findIn K (.ref E_InvalidRota) "__getattribute__" = some (some (.builtin "BaseException.__getattribute__")))
    (xh_InvalidRota : PySem.W.findIn K (.ref E_InvalidRota) "__getattr__" = some none)
    (xd_InvalidRota : PySem.W.findIn K (.ref E_InvalidRota) "__class__" = some (some (.builtin "object.__class__")))
    (xe_InvalidRota : PySem.W.specialIn K (.builtin "object.__class__") "__get__" = some (some (.builtin "getset_descriptor.__get__")))
    (xt_InvalidRota : PySem.W.takesIn K (.builtin "object.__class__") = some true)
    (xm_InvalidRota : PySem.W.mroIn K E_InvalidRota (.type "object") = some true)
    (xn_InvalidRota : PySem.W.findIn K (.ref E_InvalidRota) "word" = some none)
    (xa_InvalidSeason : PySem.W.findIn K (.ref E_InvalidSeason) "__init__" = some (some (.ref eInvalidSeason)))
    (xi_InvalidSeason : PySem.W.typeIn K (.ref eInvalidSeason) = some (.type "function"))
    (xl_InvalidSeason : K.lookup eInvalidSeason = some ⟨eocInvalidSeason, eodInvalidSeason, .func (PySem.W.fnOf "__init__" "InvalidSeason.__init__" (defArgs s_InvalidSeason_init) (defBody s_InvalidSeason_init) (defScope s_InvalidSeason_init) .none ekVInvalidSeason edcInvalidSeason epmInvalidSeason eanInvalidSeason ecdInvalidSeason ectInvalidSeason), eslInvalidSeason⟩)
    (xc_InvalidSeason : PySem.W.codeIn K ecdInvalidSeason "InvalidSeason.__init__" = true)
    (xk_InvalidSeason : PySem.W.keepIn K (.ref eInvalidSeason) = true)
    (xo_InvalidSeason : K.lookup E_InvalidSeason = some (excClassObj xnmInvalidSeason xqInvalidSeason E_InvalidSeason xNInvalidSeason xbsInvalidSeason xbmInvalidSeason true xsnInvalidSeason xsubInvalidSeason xabInvalidSeason xcolInvalidSeason xddInvalidSeason xk0InvalidSeason xk1InvalidSeason xk2InvalidSeason xk3InvalidSeason xk5InvalidSeason "ValueError.__new__"))
    (xv_InvalidSeason : PySem.HandSPX.refsVE xbmInvalidSeason = true)
    (xs_InvalidSeason : PySem.W.findIn K (.ref E_InvalidSeason) "__setattr__" = some (some (.builtin "object.__setattr__")))
    (xb_InvalidSeason : PySem.W.subIn K (.ref E_InvalidSeason) (.type "BaseException") = some true)
    (xp_InvalidSeason : PySem.W.keepIn K (.ref E_InvalidSeason) = true)
    (xg_InvalidSeason : PySem.W.findIn K (.ref E_InvalidSeason) "__getattribute__" = some (some (.builtin "BaseException.__getattribute__")))
    (xh_InvalidSeason : PySem.W.findIn K (.ref E_InvalidSeason) "__getattr__" = some none)
    (xd_InvalidSeason : PySem.W.findIn K (.ref E_InvalidSeason) "__class__" = some (some (.builtin "object.__class__")))
    (xe_InvalidSeason : PySem.W.specialIn K (.builtin "object.__class__") "__get__" = some (some (.builtin "getset_descriptor.__get__")))
    (xt_InvalidSeason : PySem.W.takesIn K (.builtin "object.__class__") = some true)
    (xm_InvalidSeason : PySem.W.mroIn K E_InvalidSeason (.type "object") = some true)
    (xn_InvalidSeason : PySem.W.findIn K (.ref E_InvalidSeason) "word" = some none)
    (xa_NoWheel : PySem.W.findIn K (.ref E_NoWheel) "__init__" = some (some (.ref eNoWheel)))
    (xi_NoWheel : PySem.W.typeIn K (.ref eNoWheel) = some (.type "function"))
    (xl_NoWheel : K.lookup eNoWheel = some ⟨eocNoWheel, eodNoWheel, .func (PySem.W.fnOf "__init__" "NoWheel.__init__" (defArgs s_NoWheel_init) (defBody s_NoWheel_init) (defScope s_NoWheel_init) .none ekVNoWheel edcNoWheel epmNoWheel eanNoWheel ecdNoWheel ectNoWheel), eslNoWheel⟩)
    (xc_NoWheel : PySem.W.codeIn K ecdNoWheel "NoWheel.__init__" = true)
    (xk_NoWheel : PySem.W.keepIn K (.ref eNoWheel) = true)
    (xo_NoWheel : K.lookup E_NoWheel = some (excClassObj xnmNoWheel xqNoWheel E_NoWheel xNNoWheel xbsNoWheel xbmNoWheel true xsnNoWheel xsubNoWheel xabNoWheel xcolNoWheel xddNoWheel xk0NoWheel xk1NoWheel xk2NoWheel xk3NoWheel xk5NoWheel "ValueError.__new__"))
    (xv_NoWheel : PySem.HandSPX.refsVE xbmNoWheel = true)
    (xs_NoWheel : PySem.W.findIn K (.ref E_NoWheel) "__setattr__" = some (some (.builtin "object.__setattr__")))
    (xb_NoWheel : PySem.W.subIn K (.ref E_NoWheel) (.type "BaseException") = some true)
    (xp_NoWheel : PySem.W.keepIn K (.ref E_NoWheel) = true)
    (xg_NoWheel : PySem.W.findIn K (.ref E_NoWheel) "__getattribute__" = some (some (.builtin "BaseException.__getattribute__")))
    (xh_NoWheel : PySem.W.findIn K (.ref E_NoWheel) "__getattr__" = some none)
    (xd_NoWheel : PySem.W.findIn K (.ref E_NoWheel) "__class__" = some (some (.builtin "object.__class__")))
    (xe_NoWheel : PySem.W.specialIn K (.builtin "object.__class__") "__get__" = some (some (.builtin "getset_descriptor.__get__")))
    (xt_NoWheel : PySem.W.takesIn K (.builtin "object.__class__") = some true)
    (xm_NoWheel : PySem.W.mroIn K E_NoWheel (.type "object") = some true)
    (xn_NoWheel : PySem.W.findIn K (.ref E_NoWheel) "value" = some none)
    (xa_Refused : PySem.W.findIn K (.ref E_Refused) "__init__" = some (some (.ref eRefused)))
    (xi_Refused : PySem.W.typeIn K (.ref eRefused) = some (.type "function"))
    (xl_Refused : K.lookup eRefused = some ⟨eocRefused, eodRefused, .func (PySem.W.fnOf "__init__" "Refused.__init__" (defArgs s_Refused_init) (defBody s_Refused_init) (defScope s_Refused_init) .none ekVRefused edcRefused epmRefused eanRefused ecdRefused ectRefused), eslRefused⟩)
    (xc_Refused : PySem.W.codeIn K ecdRefused "Refused.__init__" = true)
    (xk_Refused : PySem.W.keepIn K (.ref eRefused) = true)
    (xo_Refused : K.lookup E_Refused = some (excClassObj xnmRefused xqRefused E_Refused xNRefused xbsRefused xbmRefused true xsnRefused xsubRefused xabRefused xcolRefused xddRefused xk0Refused xk1Refused xk2Refused xk3Refused xk5Refused "ValueError.__new__"))
    (xv_Refused : PySem.HandSPX.refsVE xbmRefused = true)
    (xs_Refused : PySem.W.findIn K (.ref E_Refused) "__setattr__" = some (some (.builtin "object.__setattr__")))
    (xb_Refused : PySem.W.subIn K (.ref E_Refused) (.type "BaseException") = some true)
    (xp_Refused : PySem.W.keepIn K (.ref E_Refused) = true)
    (xg_Refused : PySem.W.findIn K (.ref E_Refused) "__getattribute__" = some (some (.builtin "BaseException.__getattribute__")))
    (xh_Refused : PySem.W.findIn K (.ref E_Refused) "__getattr__" = some none)
    (xd_Refused : PySem.W.findIn K (.ref E_Refused) "__class__" = some (some (.builtin "object.__class__")))
    (xe_Refused : PySem.W.specialIn K (.builtin "object.__class__") "__get__" = some (some (.builtin "getset_descriptor.__get__")))
    (xt_Refused : PySem.W.takesIn K (.builtin "object.__class__") = some true)
    (xm_Refused : PySem.W.mroIn K E_Refused (.type "object") = some true)
    (xn_Refused : PySem.W.findIn K (.ref E_Refused) "value" = some none)
    (a0 : PySem.W.nsIn K mainGlobals "is_integer" = some (some (.ref f0)))
    (l0 : K.lookup f0 = some ⟨oc0, od0, .func (PySem.W.fnOf "is_integer" "is_integer" (defArgs s_is_integer) (defBody s_is_integer) (defScope s_is_integer) .none kV0 dc0 pm0 an0 cd0 ct0), sl0⟩)
    (c0 : PySem.W.codeIn K cd0 "is_integer" = true)
    (k0 : PySem.W.keepIn K (.ref f0) = true)
    (a1 : PySem.W.nsIn K mainGlobals "is_sequence" = some (some (.ref f1)))
    (l1 : K.lookup f1 = some ⟨oc1, od1, .func (PySem.W.fnOf "is_sequence" "is_sequence" (defArgs s_is_sequence) (defBody s_is_sequence) (defScope s_is_sequence) .none kV1 dc1 pm1 an1 cd1 ct1), sl1⟩)
    (c1 : PySem.W.codeIn K cd1 "is_sequence" = true)
    (k1 : PySem.W.keepIn K (.ref f1) = true)
    (a2 : PySem.W.nsIn K mainGlobals "number_in" = some (some (.ref f2)))
    (l2 : K.lookup f2 = some ⟨oc2, od2, .func (PySem.W.fnOf "number_in" "number_in" (defArgs s_number_in) (defBody s_number_in) (defScope s_number_in) .none kV2 dc2 pm2 an2 cd2 ct2), sl2⟩)
    (c2 : PySem.W.codeIn K cd2 "number_in" = true)
    (k2 : PySem.W.keepIn K (.ref f2) = true)
    (a3 : PySem.W.nsIn K mainGlobals "way" = some (some (.ref f3)))
    (l3 : K.lookup f3 = some ⟨oc3, od3, .func (PySem.W.fnOf "way" "way" (defArgs s_way) (defBody s_way) (defScope s_way) .none kV3 dc3 pm3 an3 cd3 ct3), sl3⟩)
    (c3 : PySem.W.codeIn K cd3 "way" = true)
    (k3 : PySem.W.keepIn K (.ref f3) = true)
    (a4 : PySem.W.nsIn K mainGlobals "every_look" = some (some (.ref f4)))
    (l4 : K.lookup f4 = some ⟨oc4, od4, .func (PySem.W.fnOf "every_look" "every_look" (defArgs s_every_look) (defBody s_every_look) (defScope s_every_look) .none kV4 dc4 pm4 an4 cd4 ct4), sl4⟩)
    (c4 : PySem.W.codeIn K cd4 "every_look" = true)
    (k4 : PySem.W.keepIn K (.ref f4) = true)
    (a5 : PySem.W.nsIn K mainGlobals "due_days" = some (some (.ref f5)))
    (l5 : K.lookup f5 = some ⟨oc5, od5, .func (PySem.W.fnOf "due_days" "due_days" (defArgs s_due_days) (defBody s_due_days) (defScope s_due_days) .none kV5 dc5 pm5 an5 cd5 ct5), sl5⟩)
    (c5 : PySem.W.codeIn K cd5 "due_days" = true)
    (k5 : PySem.W.keepIn K (.ref f5) = true)
    (a6 : PySem.W.nsIn K mainGlobals "seen_by_day" = some (some (.ref f6)))
    (l6 : K.lookup f6 = some ⟨oc6, od6, .func (PySem.W.fnOf "seen_by_day" "seen_by_day" (defArgs s_seen_by_day) (defBody s_seen_by_day) (defScope s_seen_by_day) .none kV6 dc6 pm6 an6 cd6 ct6), sl6⟩)
    (c6 : PySem.W.codeIn K cd6 "seen_by_day" = true)
    (k6 : PySem.W.keepIn K (.ref f6) = true)
    (a7 : PySem.W.nsIn K mainGlobals "chosen" = some (some (.ref f7)))
    (l7 : K.lookup f7 = some ⟨oc7, od7, .func (PySem.W.fnOf "chosen" "chosen" (defArgs s_chosen) (defBody s_chosen) (defScope s_chosen) .none kV7 dc7 pm7 an7 cd7 ct7), sl7⟩)
    (c7 : PySem.W.codeIn K cd7 "chosen" = true)
    (k7 : PySem.W.keepIn K (.ref f7) = true)
    (a8 : PySem.W.nsIn K mainGlobals "joined" = some (some (.ref f8)))
    (l8 : K.lookup f8 = some ⟨oc8, od8, .func (PySem.W.fnOf "joined" "joined" (defArgs s_joined) (defBody s_joined) (defScope s_joined) .none kV8 dc8 pm8 an8 cd8 ct8), sl8⟩)
    (c8 : PySem.W.codeIn K cd8 "joined" = true)
    (k8 : PySem.W.keepIn K (.ref f8) = true)
    (a9 : PySem.W.findIn K (.ref C_Rota) "__len__" = some (some (.ref f9)))
    (i9 : PySem.W.isFn K (.ref f9) = true)
    (l9 : K.lookup f9 = some ⟨oc9, od9, .func (PySem.W.fnOf "__len__" "Rota.__len__" (defArgs s_Rota_len) (defBody s_Rota_len) (defScope s_Rota_len) .none kV9 dc9 pm9 an9 cd9 ct9), sl9⟩)
    (c9 : PySem.W.codeIn K cd9 "Rota.__len__" = true)
    (k9 : PySem.W.keepIn K (.ref f9) = true)
    (a10 : PySem.W.nsIn K mainGlobals "text_of_rota" = some (some (.ref f10)))
    (l10 : K.lookup f10 = some ⟨oc10, od10, .func (PySem.W.fnOf "text_of_rota" "text_of_rota" (defArgs s_text_of_rota) (defBody s_text_of_rota) (defScope s_text_of_rota) .none kV10 dc10 pm10 an10 cd10 ct10), sl10⟩)
    (c10 : PySem.W.codeIn K cd10 "text_of_rota" = true)
    (k10 : PySem.W.keepIn K (.ref f10) = true)
    (a11 : PySem.W.findIn K (.ref C_Desk) "keep" = some (some (.ref f11)))
    (i11 : PySem.W.isFn K (.ref f11) = true)
    (l11 : K.lookup f11 = some ⟨oc11, od11, .func (PySem.W.fnOf "keep" "Desk.keep" (defArgs s_Desk_keep) (defBody s_Desk_keep) (defScope s_Desk_keep) .none kV11 dc11 pm11 an11 cd11 ct11), sl11⟩)
    (c11 : PySem.W.codeIn K cd11 "Desk.keep" = true)
    (k11 : PySem.W.keepIn K (.ref f11) = true)
    (a12 : PySem.W.findIn K (.ref C_Desk) "undo" = some (some (.ref f12)))
    (i12 : PySem.W.isFn K (.ref f12) = true)
    (l12 : K.lookup f12 = some ⟨oc12, od12, .func (PySem.W.fnOf "undo" "Desk.undo" (defArgs s_Desk_undo) (defBody s_Desk_undo) (defScope s_Desk_undo) .none kV12 dc12 pm12 an12 cd12 ct12), sl12⟩)
    (c12 : PySem.W.codeIn K cd12 "Desk.undo" = true)
    (k12 : PySem.W.keepIn K (.ref f12) = true)
    (a13 : PySem.W.findIn K (.ref C_Desk) "__len__" = some (some (.ref f13)))
    (i13 : PySem.W.isFn K (.ref f13) = true)
    (l13 : K.lookup f13 = some ⟨oc13, od13, .func (PySem.W.fnOf "__len__" "Desk.__len__" (defArgs s_Desk_len) (defBody s_Desk_len) (defScope s_Desk_len) .none kV13 dc13 pm13 an13 cd13 ct13), sl13⟩)
    (c13 : PySem.W.codeIn K cd13 "Desk.__len__" = true)
    (k13 : PySem.W.keepIn K (.ref f13) = true)
    (a14 : PySem.W.nsIn K mainGlobals "_law_box" = some (some (.ref f14)))
    (l14 : K.lookup f14 = some ⟨oc14, od14, .func (PySem.W.fnOf "_law_box" "_law_box" (defArgs s_law_box) (defBody s_law_box) (defScope s_law_box) .none kV14 dc14 pm14 an14 cd14 ct14), sl14⟩)
    (c14 : PySem.W.codeIn K cd14 "_law_box" = true)
    (k14 : PySem.W.keepIn K (.ref f14) = true)
    (a15 : PySem.W.nsIn K mainGlobals "_law_take" = some (some (.ref f15)))
    (l15 : K.lookup f15 = some ⟨oc15, od15, .func (PySem.W.fnOf "_law_take" "_law_take" (defArgs s_law_take) (defBody s_law_take) (defScope s_law_take) .none kV15 dc15 pm15 an15 cd15 ct15), sl15⟩)
    (c15 : PySem.W.codeIn K cd15 "_law_take" = true)
    (k15 : PySem.W.keepIn K (.ref f15) = true)
    (a16 : PySem.W.nsIn K mainGlobals "is_from" = some (some (.ref f16)))
    (l16 : K.lookup f16 = some ⟨oc16, od16, .func (PySem.W.fnOf "is_from" "is_from" (defArgs s_is_from) (defBody s_is_from) (defScope s_is_from) .none kV16 dc16 pm16 an16 cd16 ct16), sl16⟩)
    (c16 : PySem.W.codeIn K cd16 "is_from" = true)
    (k16 : PySem.W.keepIn K (.ref f16) = true)
    (a17 : PySem.W.nsIn K mainGlobals "numbers_in" = some (some (.ref f17)))
    (l17 : K.lookup f17 = some ⟨oc17, od17, .func (PySem.W.fnOf "numbers_in" "numbers_in" (defArgs s_numbers_in) (defBody s_numbers_in) (defScope s_numbers_in) .none kV17 dc17 pm17 an17 cd17 ct17), sl17⟩)
    (c17 : PySem.W.codeIn K cd17 "numbers_in" = true)
    (k17 : PySem.W.keepIn K (.ref f17) = true)
    (a18 : PySem.W.nsIn K mainGlobals "due_in_round" = some (some (.ref f18)))
    (l18 : K.lookup f18 = some ⟨oc18, od18, .func (PySem.W.fnOf "due_in_round" "due_in_round" (defArgs s_due_in_round) (defBody s_due_in_round) (defScope s_due_in_round) .none kV18 dc18 pm18 an18 cd18 ct18), sl18⟩)
    (c18 : PySem.W.codeIn K cd18 "due_in_round" = true)
    (k18 : PySem.W.keepIn K (.ref f18) = true)
    (a19 : PySem.W.nsIn K mainGlobals "stretches_of" = some (some (.ref f19)))
    (l19 : K.lookup f19 = some ⟨oc19, od19, .func (PySem.W.fnOf "stretches_of" "stretches_of" (defArgs s_stretches_of) (defBody s_stretches_of) (defScope s_stretches_of) .none kV19 dc19 pm19 an19 cd19 ct19), sl19⟩)
    (c19 : PySem.W.codeIn K cd19 "stretches_of" = true)
    (k19 : PySem.W.keepIn K (.ref f19) = true)
    (a20 : PySem.W.nsIn K mainGlobals "_law_pick" = some (some (.ref f20)))
    (l20 : K.lookup f20 = some ⟨oc20, od20, .func (PySem.W.fnOf "_law_pick" "_law_pick" (defArgs s_law_pick) (defBody s_law_pick) (defScope s_law_pick) .none kV20 dc20 pm20 an20 cd20 ct20), sl20⟩)
    (c20 : PySem.W.codeIn K cd20 "_law_pick" = true)
    (k20 : PySem.W.keepIn K (.ref f20) = true)
    (a21 : PySem.W.nsIn K mainGlobals "is_below" = some (some (.ref f21)))
    (l21 : K.lookup f21 = some ⟨oc21, od21, .func (PySem.W.fnOf "is_below" "is_below" (defArgs s_is_below) (defBody s_is_below) (defScope s_is_below) .none kV21 dc21 pm21 an21 cd21 ct21), sl21⟩)
    (c21 : PySem.W.codeIn K cd21 "is_below" = true)
    (k21 : PySem.W.keepIn K (.ref f21) = true)
    (a22 : PySem.W.nsIn K mainGlobals "parts_of" = some (some (.ref f22)))
    (l22 : K.lookup f22 = some ⟨oc22, od22, .func (PySem.W.fnOf "parts_of" "parts_of" (defArgs s_parts_of) (defBody s_parts_of) (defScope s_parts_of) .none kV22 dc22 pm22 an22 cd22 ct22), sl22⟩)
    (c22 : PySem.W.codeIn K cd22 "parts_of" = true)
    (k22 : PySem.W.keepIn K (.ref f22) = true)
    (a23 : PySem.W.nsIn K mainGlobals "places_in" = some (some (.ref f23)))
    (l23 : K.lookup f23 = some ⟨oc23, od23, .func (PySem.W.fnOf "places_in" "places_in" (defArgs s_places_in) (defBody s_places_in) (defScope s_places_in) .none kV23 dc23 pm23 an23 cd23 ct23), sl23⟩)
    (c23 : PySem.W.codeIn K cd23 "places_in" = true)
    (k23 : PySem.W.keepIn K (.ref f23) = true)
    (a24 : PySem.W.nsIn K mainGlobals "row_in" = some (some (.ref f24)))
    (l24 : K.lookup f24 = some ⟨oc24, od24, .func (PySem.W.fnOf "row_in" "row_in" (defArgs s_row_in) (defBody s_row_in) (defScope s_row_in) .none kV24 dc24 pm24 an24 cd24 ct24), sl24⟩)
    (c24 : PySem.W.codeIn K cd24 "row_in" = true)
    (k24 : PySem.W.keepIn K (.ref f24) = true)
    (a25 : PySem.W.nsIn K mainGlobals "words_of" = some (some (.ref f25)))
    (l25 : K.lookup f25 = some ⟨oc25, od25, .func (PySem.W.fnOf "words_of" "words_of" (defArgs s_words_of) (defBody s_words_of) (defScope s_words_of) .none kV25 dc25 pm25 an25 cd25 ct25), sl25⟩)
    (c25 : PySem.W.codeIn K cd25 "words_of" = true)
    (k25 : PySem.W.keepIn K (.ref f25) = true)
    (a26 : PySem.W.nsIn K mainGlobals "numbers_of" = some (some (.ref f26)))
    (l26 : K.lookup f26 = some ⟨oc26, od26, .func (PySem.W.fnOf "numbers_of" "numbers_of" (defArgs s_numbers_of) (defBody s_numbers_of) (defScope s_numbers_of) .none kV26 dc26 pm26 an26 cd26 ct26), sl26⟩)
    (c26 : PySem.W.codeIn K cd26 "numbers_of" = true)
    (k26 : PySem.W.keepIn K (.ref f26) = true)
    (a27 : PySem.W.nsIn K mainGlobals "_law_value" = some (some (.ref f27)))
    (l27 : K.lookup f27 = some ⟨oc27, od27, .func (PySem.W.fnOf "_law_value" "_law_value" (defArgs s_law_value) (defBody s_law_value) (defScope s_law_value) .none kV27 dc27 pm27 an27 cd27 ct27), sl27⟩)
    (c27 : PySem.W.codeIn K cd27 "_law_value" = true)
    (k27 : PySem.W.keepIn K (.ref f27) = true)
    (a28 : PySem.W.nsIn K mainGlobals "need_wheel" = some (some (.ref f28)))
    (l28 : K.lookup f28 = some ⟨oc28, od28, .func (PySem.W.fnOf "need_wheel" "need_wheel" (defArgs s_need_wheel) (defBody s_need_wheel) (defScope s_need_wheel) .none kV28 dc28 pm28 an28 cd28 ct28), sl28⟩)
    (c28 : PySem.W.codeIn K cd28 "need_wheel" = true)
    (k28 : PySem.W.keepIn K (.ref f28) = true)
    (a29 : PySem.W.nsIn K mainGlobals "is_look" = some (some (.ref f29)))
    (l29 : K.lookup f29 = some ⟨oc29, od29, .func (PySem.W.fnOf "is_look" "is_look" (defArgs s_is_look) (defBody s_is_look) (defScope s_is_look) .none kV29 dc29 pm29 an29 cd29 ct29), sl29⟩)
    (c29 : PySem.W.codeIn K cd29 "is_look" = true)
    (k29 : PySem.W.keepIn K (.ref f29) = true)
    (a30 : PySem.W.nsIn K mainGlobals "cost" = some (some (.ref f30)))
    (l30 : K.lookup f30 = some ⟨oc30, od30, .func (PySem.W.fnOf "cost" "cost" (defArgs s_cost) (defBody s_cost) (defScope s_cost) .none kV30 dc30 pm30 an30 cd30 ct30), sl30⟩)
    (c30 : PySem.W.codeIn K cd30 "cost" = true)
    (k30 : PySem.W.keepIn K (.ref f30) = true)
    (a31 : PySem.W.nsIn K mainGlobals "lots_by_size" = some (some (.ref f31)))
    (l31 : K.lookup f31 = some ⟨oc31, od31, .func (PySem.W.fnOf "lots_by_size" "lots_by_size" (defArgs s_lots_by_size) (defBody s_lots_by_size) (defScope s_lots_by_size) .none kV31 dc31 pm31 an31 cd31 ct31), sl31⟩)
    (c31 : PySem.W.codeIn K cd31 "lots_by_size" = true)
    (k31 : PySem.W.keepIn K (.ref f31) = true)
    (a32 : PySem.W.nsIn K mainGlobals "is_unlike" = some (some (.ref f32)))
    (l32 : K.lookup f32 = some ⟨oc32, od32, .func (PySem.W.fnOf "is_unlike" "is_unlike" (defArgs s_is_unlike) (defBody s_is_unlike) (defScope s_is_unlike) .none kV32 dc32 pm32 an32 cd32 ct32), sl32⟩)
    (c32 : PySem.W.codeIn K cd32 "is_unlike" = true)
    (k32 : PySem.W.keepIn K (.ref f32) = true)
    (a33 : PySem.W.nsIn K mainGlobals "round_days" = some (some (.ref f33)))
    (l33 : K.lookup f33 = some ⟨oc33, od33, .func (PySem.W.fnOf "round_days" "round_days" (defArgs s_round_days) (defBody s_round_days) (defScope s_round_days) .none kV33 dc33 pm33 an33 cd33 ct33), sl33⟩)
    (c33 : PySem.W.codeIn K cd33 "round_days" = true)
    (k33 : PySem.W.keepIn K (.ref f33) = true)
    (a34 : PySem.W.nsIn K mainGlobals "can_be" = some (some (.ref f34)))
    (l34 : K.lookup f34 = some ⟨oc34, od34, .func (PySem.W.fnOf "can_be" "can_be" (defArgs s_can_be) (defBody s_can_be) (defScope s_can_be) .none kV34 dc34 pm34 an34 cd34 ct34), sl34⟩)
    (c34 : PySem.W.codeIn K cd34 "can_be" = true)
    (k34 : PySem.W.keepIn K (.ref f34) = true)
    (a35 : PySem.W.nsIn K mainGlobals "least" = some (some (.ref f35)))
    (l35 : K.lookup f35 = some ⟨oc35, od35, .func (PySem.W.fnOf "least" "least" (defArgs s_least) (defBody s_least) (defScope s_least) .none kV35 dc35 pm35 an35 cd35 ct35), sl35⟩)
    (c35 : PySem.W.codeIn K cd35 "least" = true)
    (k35 : PySem.W.keepIn K (.ref f35) = true)
    (a36 : PySem.W.nsIn K mainGlobals "ways_with" = some (some (.ref f36)))
    (l36 : K.lookup f36 = some ⟨oc36, od36, .func (PySem.W.fnOf "ways_with" "ways_with" (defArgs s_ways_with) (defBody s_ways_with) (defScope s_ways_with) .none kV36 dc36 pm36 an36 cd36 ct36), sl36⟩)
    (c36 : PySem.W.codeIn K cd36 "ways_with" = true)
    (k36 : PySem.W.keepIn K (.ref f36) = true)
    (a37 : PySem.W.nsIn K mainGlobals "is_row" = some (some (.ref f37)))
    (l37 : K.lookup f37 = some ⟨oc37, od37, .func (PySem.W.fnOf "is_row" "is_row" (defArgs s_is_row) (defBody s_is_row) (defScope s_is_row) .none kV37 dc37 pm37 an37 cd37 ct37), sl37⟩)
    (c37 : PySem.W.codeIn K cd37 "is_row" = true)
    (k37 : PySem.W.keepIn K (.ref f37) = true)
    (a38 : PySem.W.nsIn K mainGlobals "every_due" = some (some (.ref f38)))
    (l38 : K.lookup f38 = some ⟨oc38, od38, .func (PySem.W.fnOf "every_due" "every_due" (defArgs s_every_due) (defBody s_every_due) (defScope s_every_due) .none kV38 dc38 pm38 an38 cd38 ct38), sl38⟩)
    (c38 : PySem.W.codeIn K cd38 "every_due" = true)
    (k38 : PySem.W.keepIn K (.ref f38) = true)
    (a39 : PySem.W.nsIn K mainGlobals "possible" = some (some (.ref f39)))
    (l39 : K.lookup f39 = some ⟨oc39, od39, .func (PySem.W.fnOf "possible" "possible" (defArgs s_possible) (defBody s_possible) (defScope s_possible) .none kV39 dc39 pm39 an39 cd39 ct39), sl39⟩)
    (c39 : PySem.W.codeIn K cd39 "possible" = true)
    (k39 : PySem.W.keepIn K (.ref f39) = true)
    (a40 : PySem.W.nsIn K mainGlobals "count" = some (some (.ref f40)))
    (l40 : K.lookup f40 = some ⟨oc40, od40, .func (PySem.W.fnOf "count" "count" (defArgs s_count) (defBody s_count) (defScope s_count) .none kV40 dc40 pm40 an40 cd40 ct40), sl40⟩)
    (c40 : PySem.W.codeIn K cd40 "count" = true)
    (k40 : PySem.W.keepIn K (.ref f40) = true)
    (a41 : PySem.W.nsIn K mainGlobals "gap" = some (some (.ref f41)))
    (l41 : K.lookup f41 = some ⟨oc41, od41, .func (PySem.W.fnOf "gap" "gap" (defArgs s_gap) (defBody s_gap) (defScope s_gap) .none kV41 dc41 pm41 an41 cd41 ct41), sl41⟩)
    (c41 : PySem.W.codeIn K cd41 "gap" = true)
    (k41 : PySem.W.keepIn K (.ref f41) = true)
    (a42 : PySem.W.findIn K (.ref C_Rota) "__init__" = some (some (.ref f42)))
    (i42 : PySem.W.isFn K (.ref f42) = true)
    (l42 : K.lookup f42 = some ⟨oc42, od42, .func (PySem.W.fnOf "__init__" "Rota.__init__" (defArgs s_Rota_init) (defBody s_Rota_init) (defScope s_Rota_init) .none kV42 dc42 pm42 an42 cd42 ct42), sl42⟩)
    (c42 : PySem.W.codeIn K cd42 "Rota.__init__" = true)
    (k42 : PySem.W.keepIn K (.ref f42) = true)
    (a43 : PySem.W.findIn K (.ref C_Season) "__init__" = some (some (.ref f43)))
    (i43 : PySem.W.isFn K (.ref f43) = true)
    (l43 : K.lookup f43 = some ⟨oc43, od43, .func (PySem.W.fnOf "__init__" "Season.__init__" (defArgs s_Season_init) (defBody s_Season_init) (defScope s_Season_init) (.ref tT43) kV43 dc43 pm43 an43 cd43 ct43), sl43⟩)
    (lt43 : K.lookup tT43 = some ⟨tc43, td43, .seq #[.ref tE43] tn43, ts43⟩)
    (le43 : K.lookup tE43 = some ⟨.type "tuple", ed43, .seq #[] en43, es43⟩)
    (c43 : PySem.W.codeIn K cd43 "Season.__init__" = true)
    (k43 : PySem.W.keepIn K (.ref f43) = true)
    (a44 : PySem.W.findIn K (.ref C_Desk) "told" = some (some (.ref f44)))
    (i44 : PySem.W.isFn K (.ref f44) = true)
    (l44 : K.lookup f44 = some ⟨oc44, od44, .func (PySem.W.fnOf "told" "Desk.told" (defArgs s_Desk_told) (defBody s_Desk_told) (defScope s_Desk_told) .none kV44 dc44 pm44 an44 cd44 ct44), sl44⟩)
    (c44 : PySem.W.codeIn K cd44 "Desk.told" = true)
    (k44 : PySem.W.keepIn K (.ref f44) = true)
    (rd45 : PySem.W.readsIn K C_Rota (.type "type") = true)
    (ga45 : PySem.W.specialIn K (.ref C_Rota) "__getattribute__" = some (some (.builtin "type.__getattribute__")))
    (a45 : PySem.W.findCls K (.ref C_Rota) (.type "type") "read" = some (.get (.builtin "classmethod.__get__") (.ref pq45) .none (.ref C_Rota)))
    (rr45 : PySem.W.recIn K pq45 "classmethod" = some (.ref f45 :: rq45))
    (i45 : PySem.W.fnIn K f45 = true)
    (l45 : K.lookup f45 = some ⟨oc45, od45, .func (PySem.W.fnOf "read" "Rota.read" (defArgs s_Rota_read) (defBody s_Rota_read) (defScope s_Rota_read) .none kV45 dc45 pm45 an45 cd45 ct45), sl45⟩)
    (c45 : PySem.W.codeIn K cd45 "Rota.read" = true)
    (k45 : PySem.W.keepIn K (.ref f45) = true)
    (a46 : PySem.W.findIn K (.ref C_Season) "seen" = some (some (.ref f46)))
    (i46 : PySem.W.isFn K (.ref f46) = true)
    (l46 : K.lookup f46 = some ⟨oc46, od46, .func (PySem.W.fnOf "seen" "Season.seen" (defArgs s_Season_seen) (defBody s_Season_seen) (defScope s_Season_seen) .none kV46 dc46 pm46 an46 cd46 ct46), sl46⟩)
    (c46 : PySem.W.codeIn K cd46 "Season.seen" = true)
    (k46 : PySem.W.keepIn K (.ref f46) = true)
    (a47 : PySem.W.nsIn K mainGlobals "can_show" = some (some (.ref f47)))
    (l47 : K.lookup f47 = some ⟨oc47, od47, .func (PySem.W.fnOf "can_show" "can_show" (defArgs s_can_show) (defBody s_can_show) (defScope s_can_show) .none kV47 dc47 pm47 an47 cd47 ct47), sl47⟩)
    (c47 : PySem.W.codeIn K cd47 "can_show" = true)
    (k47 : PySem.W.keepIn K (.ref f47) = true)
    (a48 : PySem.W.nsIn K mainGlobals "sure_sides" = some (some (.ref f48)))
    (l48 : K.lookup f48 = some ⟨oc48, od48, .func (PySem.W.fnOf "sure_sides" "sure_sides" (defArgs s_sure_sides) (defBody s_sure_sides) (defScope s_sure_sides) .none kV48 dc48 pm48 an48 cd48 ct48), sl48⟩)
    (c48 : PySem.W.codeIn K cd48 "sure_sides" = true)
    (k48 : PySem.W.keepIn K (.ref f48) = true)
    (a49 : PySem.W.findIn K (.ref C_Live) "show" = some (some (.ref f49)))
    (i49 : PySem.W.isFn K (.ref f49) = true)
    (l49 : K.lookup f49 = some ⟨oc49, od49, .func (PySem.W.fnOf "show" "Live.show" (defArgs s_Live_show) (defBody s_Live_show) (defScope s_Live_show) .none kV49 dc49 pm49 an49 cd49 ct49), sl49⟩)
    (c49 : PySem.W.codeIn K cd49 "Live.show" = true)
    (k49 : PySem.W.keepIn K (.ref f49) = true)
    (a50 : PySem.W.findIn K (.ref C_Live) "__init__" = some (some (.ref f50)))
    (i50 : PySem.W.isFn K (.ref f50) = true)
    (l50 : K.lookup f50 = some ⟨oc50, od50, .func (PySem.W.fnOf "__init__" "Live.__init__" (defArgs s_Live_init) (defBody s_Live_init) (defScope s_Live_init) .none kV50 dc50 pm50 an50 cd50 ct50), sl50⟩)
    (c50 : PySem.W.codeIn K cd50 "Live.__init__" = true)
    (k50 : PySem.W.keepIn K (.ref f50) = true)
    (a51 : PySem.W.findIn K (.ref C_Live) "go_on" = some (some (.ref f51)))
    (i51 : PySem.W.isFn K (.ref f51) = true)
    (l51 : K.lookup f51 = some ⟨oc51, od51, .func (PySem.W.fnOf "go_on" "Live.go_on" (defArgs s_Live_go_on) (defBody s_Live_go_on) (defScope s_Live_go_on) .none kV51 dc51 pm51 an51 cd51 ct51), sl51⟩)
    (c51 : PySem.W.codeIn K cd51 "Live.go_on" = true)
    (k51 : PySem.W.keepIn K (.ref f51) = true)
    (a52 : PySem.W.findIn K (.ref C_Live) "undo" = some (some (.ref f52)))
    (i52 : PySem.W.isFn K (.ref f52) = true)
    (l52 : K.lookup f52 = some ⟨oc52, od52, .func (PySem.W.fnOf "undo" "Live.undo" (defArgs s_Live_undo) (defBody s_Live_undo) (defScope s_Live_undo) .none kV52 dc52 pm52 an52 cd52 ct52), sl52⟩)
    (c52 : PySem.W.codeIn K cd52 "Live.undo" = true)
    (k52 : PySem.W.keepIn K (.ref f52) = true)
    (a53 : PySem.W.findIn K (.ref C_Live) "look" = some (some (.ref f53)))
    (i53 : PySem.W.isFn K (.ref f53) = true)
    (l53 : K.lookup f53 = some ⟨oc53, od53, .func (PySem.W.fnOf "look" "Live.look" (defArgs s_Live_look) (defBody s_Live_look) (defScope s_Live_look) .none kV53 dc53 pm53 an53 cd53 ct53), sl53⟩)
    (c53 : PySem.W.codeIn K cd53 "Live.look" = true)
    (k53 : PySem.W.keepIn K (.ref f53) = true)
    (a54 : PySem.W.nsIn K mainGlobals "first_live" = some (some (.ref f54)))
    (l54 : K.lookup f54 = some ⟨oc54, od54, .func (PySem.W.fnOf "first_live" "first_live" (defArgs s_first_live) (defBody s_first_live) (defScope s_first_live) .none kV54 dc54 pm54 an54 cd54 ct54), sl54⟩)
    (c54 : PySem.W.codeIn K cd54 "first_live" = true)
    (k54 : PySem.W.keepIn K (.ref f54) = true)
    (a55 : PySem.W.findIn K (.ref C_Desk) "new_season" = some (some (.ref f55)))
    (i55 : PySem.W.isFn K (.ref f55) = true)
    (l55 : K.lookup f55 = some ⟨oc55, od55, .func (PySem.W.fnOf "new_season" "Desk.new_season" (defArgs s_Desk_new_season) (defBody s_Desk_new_season) (defScope s_Desk_new_season) .none kV55 dc55 pm55 an55 cd55 ct55), sl55⟩)
    (c55 : PySem.W.codeIn K cd55 "Desk.new_season" = true)
    (k55 : PySem.W.keepIn K (.ref f55) = true)
    (a56 : PySem.W.findIn K (.ref C_Desk) "new_look" = some (some (.ref f56)))
    (i56 : PySem.W.isFn K (.ref f56) = true)
    (l56 : K.lookup f56 = some ⟨oc56, od56, .func (PySem.W.fnOf "new_look" "Desk.new_look" (defArgs s_Desk_new_look) (defBody s_Desk_new_look) (defScope s_Desk_new_look) .none kV56 dc56 pm56 an56 cd56 ct56), sl56⟩)
    (c56 : PySem.W.codeIn K cd56 "Desk.new_look" = true)
    (k56 : PySem.W.keepIn K (.ref f56) = true)
    (a57 : PySem.W.findIn K (.ref C_Desk) "__init__" = some (some (.ref f57)))
    (i57 : PySem.W.isFn K (.ref f57) = true)
    (l57 : K.lookup f57 = some ⟨oc57, od57, .func (PySem.W.fnOf "__init__" "Desk.__init__" (defArgs s_Desk_init) (defBody s_Desk_init) (defScope s_Desk_init) .none kV57 dc57 pm57 an57 cd57 ct57), sl57⟩)
    (c57 : PySem.W.codeIn K cd57 "Desk.__init__" = true)
    (k57 : PySem.W.keepIn K (.ref f57) = true)
    (a58 : PySem.W.findIn K (.ref C_Desk) "begin" = some (some (.ref f58)))
    (i58 : PySem.W.isFn K (.ref f58) = true)
    (l58 : K.lookup f58 = some ⟨oc58, od58, .func (PySem.W.fnOf "begin" "Desk.begin" (defArgs s_Desk_begin) (defBody s_Desk_begin) (defScope s_Desk_begin) .none kV58 dc58 pm58 an58 cd58 ct58), sl58⟩)
    (c58 : PySem.W.codeIn K cd58 "Desk.begin" = true)
    (k58 : PySem.W.keepIn K (.ref f58) = true)
    (a59 : PySem.W.findIn K (.ref C_Desk) "say" = some (some (.ref f59)))
    (i59 : PySem.W.isFn K (.ref f59) = true)
    (l59 : K.lookup f59 = some ⟨oc59, od59, .func (PySem.W.fnOf "say" "Desk.say" (defArgs s_Desk_say) (defBody s_Desk_say) (defScope s_Desk_say) .none kV59 dc59 pm59 an59 cd59 ct59), sl59⟩)
    (c59 : PySem.W.codeIn K cd59 "Desk.say" = true)
    (k59 : PySem.W.keepIn K (.ref f59) = true)
    (a60 : PySem.W.nsIn K mainGlobals "_law_heard" = some (some (.ref f60)))
    (l60 : K.lookup f60 = some ⟨oc60, od60, .func (PySem.W.fnOf "_law_heard" "_law_heard" (defArgs s_law_heard) (defBody s_law_heard) (defScope s_law_heard) .none kV60 dc60 pm60 an60 cd60 ct60), sl60⟩)
    (c60 : PySem.W.codeIn K cd60 "_law_heard" = true)
    (k60 : PySem.W.keepIn K (.ref f60) = true)
    (a61 : PySem.W.nsIn K mainGlobals "law" = some (some (.ref f61)))
    (l61 : K.lookup f61 = some ⟨oc61, od61, .func (PySem.W.fnOf "law" "law" (defArgs s_law) (defBody s_law) (defScope s_law) .none kV61 dc61 pm61 an61 cd61 ct61), sl61⟩)
    (c61 : PySem.W.codeIn K cd61 "law" = true)
    (k61 : PySem.W.keepIn K (.ref f61) = true)
    (z0 : PySem.W.nsIn K mainGlobals "abs" = some none)
    (z1 : PySem.W.nsIn K mainGlobals "all" = some none)
    (z2 : PySem.W.nsIn K mainGlobals "bool" = some none)
    (z3 : PySem.W.nsIn K mainGlobals "enumerate" = some none)
    (z4 : PySem.W.nsIn K mainGlobals "int" = some none)
    (z5 : PySem.W.nsIn K mainGlobals "isinstance" = some none)
    (z6 : PySem.W.nsIn K mainGlobals "len" = some none)
    (z7 : PySem.W.nsIn K mainGlobals "list" = some none)
    (z8 : PySem.W.nsIn K mainGlobals "max" = some none)
    (z9 : PySem.W.nsIn K mainGlobals "min" = some none)
    (z10 : PySem.W.nsIn K mainGlobals "range" = some none)
    (z11 : PySem.W.nsIn K mainGlobals "repr" = some none)
    (z12 : PySem.W.nsIn K mainGlobals "sorted" = some none)
    (z13 : PySem.W.nsIn K mainGlobals "str" = some none)
    (z14 : PySem.W.nsIn K mainGlobals "sum" = some none)
    (z15 : PySem.W.nsIn K mainGlobals "tuple" = some none)
    (y0 : PySem.W.nsIn K mainGlobals "DIGITS_desk" = some (some (.int 2 t0)))
    (y1 : PySem.W.nsIn K mainGlobals "DIGITS_rotas" = some (some (.int 2 t1)))
    (y2 : PySem.W.nsIn K mainGlobals "FIRST_DAYS" = some (some (.int 7 t2)))
    (y3 : PySem.W.nsIn K mainGlobals "PAIR_rotas" = some (some (.int 2 t3)))
    (y4 : PySem.W.nsIn K mainGlobals "PAIR_seasons" = some (some (.int 2 t4)))
    (y5 : PySem.W.nsIn K mainGlobals "TRIPLE" = some (some (.int 3 t5)))
    (kg_SIZES : PySem.W.nsIn K mainGlobals "SIZES" = some (some (.ref dK_SIZES)))
    (kw_SIZES : He.dicW K dK_SIZES = some (He.keysIn w.params ["sides", "least", "count", "undo", "season", "gap", "look"]))
    (kv0_SIZES : PySem.W.nsIn K dK_SIZES "sides" = some (some (.int 0 tK0_SIZES)))
    (kv1_SIZES : PySem.W.nsIn K dK_SIZES "least" = some (some (.int 0 tK1_SIZES)))
    (kv2_SIZES : PySem.W.nsIn K dK_SIZES "count" = some (some (.int 0 tK2_SIZES)))
    (kv3_SIZES : PySem.W.nsIn K dK_SIZES "undo" = some (some (.int 0 tK3_SIZES)))
    (kv4_SIZES : PySem.W.nsIn K dK_SIZES "season" = some (some (.int 2 tK4_SIZES)))
    (kv5_SIZES : PySem.W.nsIn K dK_SIZES "gap" = some (some (.int 2 tK5_SIZES)))
    (kv6_SIZES : PySem.W.nsIn K dK_SIZES "look" = some (some (.int 3 tK6_SIZES)))
    : ∃ fd : FuncData, (∀ (s : Shared) (v : Value), BindsTo s fd ⟨[v], []⟩ [("_law_script", v)]) ∧ ∀ base : Heap, K.In base → base.Ns mainGlobals mg → FnG P w K mg base (L2.CX P w) 19 fa fd ["_law_script"] (spL K) := by
  have e := hfa.symm.trans (PySem.W.mg_of X G a61)
  cases e
  have F0 := fun_mk (st := s_is_integer) l0 c0 k0
  have b0 := F0.binds (ps := ["value"]) fun _ _ _ _ _ _ us hl => match us, hl with | [_], _ => rfl
  have F1 := fun_mk (st := s_is_sequence) l1 c1 k1
  have b1 := F1.binds (ps := ["value"]) fun _ _ _ _ _ _ us hl => match us, hl with | [_], _ => rfl
  have F2 := fun_mk (st := s_number_in) l2 c2 k2
  have b2 := F2.binds (ps := ["word", "digits"]) fun _ _ _ _ _ _ us hl => match us, hl with | [_, _], _ => rfl
  have F3 := fun_mk (st := s_way) l3 c3 k3
  have b3 := F3.binds (ps := ["rota", "wheel"]) fun _ _ _ _ _ _ us hl => match us, hl with | [_, _], _ => rfl
  have F4 := fun_mk (st := s_every_look) l4 c4 k4
  have b4 := F4.binds (ps := ["rota", "days"]) fun _ _ _ _ _ _ us hl => match us, hl with | [_, _], _ => rfl
  have F5 := fun_mk (st := s_due_days) l5 c5 k5
  have b5 := F5.binds (ps := ["season", "wheel"]) fun _ _ _ _ _ _ us hl => match us, hl with | [_, _], _ => rfl
  have F6 := fun_mk (st := s_seen_by_day) l6 c6 k6
  have b6 := F6.binds (ps := ["season", "wheel"]) fun _ _ _ _ _ _ us hl => match us, hl with | [_, _], _ => rfl
  have F7 := fun_mk (st := s_chosen) l7 c7 k7
  have b7 := F7.binds (ps := ["size"]) fun _ _ _ _ _ _ us hl => match us, hl with | [_], _ => rfl
  have F8 := fun_mk (st := s_joined) l8 c8 k8
  have b8 := F8.binds (ps := ["one", "other", "bound"]) fun _ _ _ _ _ _ us hl => match us, hl with | [_, _, _], _ => rfl
  have F9 := fun_mk (st := s_Rota_len) l9 c9 k9
  have b9 := F9.binds (ps := ["self"]) fun _ _ _ _ _ _ us hl => match us, hl with | [_], _ => rfl
  have F10 := fun_mk (st := s_text_of_rota) l10 c10 k10
  have b10 := F10.binds (ps := ["places", "rows"]) fun _ _ _ _ _ _ us hl => match us, hl with | [_, _], _ => rfl
  have F11 := fun_mk (st := s_Desk_keep) l11 c11 k11
  have b11 := F11.binds (ps := ["self", "live"]) fun _ _ _ _ _ _ us hl => match us, hl with | [_, _], _ => rfl
  have F12 := fun_mk (st := s_Desk_undo) l12 c12 k12
  have b12 := F12.binds (ps := ["self"]) fun _ _ _ _ _ _ us hl => match us, hl with | [_], _ => rfl
  have F13 := fun_mk (st := s_Desk_len) l13 c13 k13
  have b13 := F13.binds (ps := ["self"]) fun _ _ _ _ _ _ us hl => match us, hl with | [_], _ => rfl
  have F14 := fun_mk (st := s_law_box) l14 c14 k14
  have b14 := F14.binds (ps := ["_law_script", "_law_k", "_law_own"]) fun _ _ _ _ _ _ us hl => match us, hl with | [_, _, _], _ => rfl
  have F15 := fun_mk (st := s_law_take) l15 c15 k15
  have b15 := F15.binds (ps := ["_law_box_here", "_law_bound"]) fun _ _ _ _ _ _ us hl => match us, hl with | [_, _], _ => rfl
  have F16 := fun_mk (st := s_is_from) l16 c16 k16
  have b16 := F16.binds (ps := ["value", "least"]) fun _ _ _ _ _ _ us hl => match us, hl with | [_, _], _ => rfl
  have F17 := fun_mk (st := s_numbers_in) l17 c17 k17
  have b17 := F17.binds (ps := ["words", "digits"]) fun _ _ _ _ _ _ us hl => match us, hl with | [_, _], _ => rfl
  have F18 := fun_mk (st := s_due_in_round) l18 c18 k18
  have b18 := F18.binds (ps := ["rota", "wheel"]) fun _ _ _ _ _ _ us hl => match us, hl with | [_, _], _ => rfl
  have F19 := fun_mk (st := s_stretches_of) l19 c19 k19
  have b19 := F19.binds (ps := ["season", "wheel"]) fun _ _ _ _ _ _ us hl => match us, hl with | [_, _], _ => rfl
  have F20 := fun_mk (st := s_law_pick) l20 c20 k20
  have b20 := F20.binds (ps := ["_law_box_here", "_law_items"]) fun _ _ _ _ _ _ us hl => match us, hl with | [_, _], _ => rfl
  have F21 := fun_mk (st := s_is_below) l21 c21 k21
  have b21 := F21.binds (ps := ["value", "bound"]) fun _ _ _ _ _ _ us hl => match us, hl with | [_, _], _ => rfl
  have F22 := fun_mk (st := s_parts_of) l22 c22 k22
  have b22 := F22.binds (ps := ["season", "missed", "made"]) fun _ _ _ _ _ _ us hl => match us, hl with | [_, _, _], _ => rfl
  have F23 := fun_mk (st := s_places_in) l23 c23 k23
  have b23 := F23.binds (ps := ["line"]) fun _ _ _ _ _ _ us hl => match us, hl with | [_], _ => rfl
  have F24 := fun_mk (st := s_row_in) l24 c24 k24
  have b24 := F24.binds (ps := ["line"]) fun _ _ _ _ _ _ us hl => match us, hl with | [_], _ => rfl
  have F25 := fun_mk (st := s_words_of) l25 c25 k25
  have b25 := F25.binds (ps := ["command"]) fun _ _ _ _ _ _ us hl => match us, hl with | [_], _ => rfl
  have F26 := fun_mk (st := s_numbers_of) l26 c26 k26
  have b26 := F26.binds (ps := ["words"]) fun _ _ _ _ _ _ us hl => match us, hl with | [_], _ => rfl
  have F27 := fun_mk (st := s_law_value) l27 c27 k27
  have b27 := F27.binds (ps := ["_law_box_here"]) fun _ _ _ _ _ _ us hl => match us, hl with | [_], _ => rfl
  have F28 := fun_mk (st := s_need_wheel) l28 c28 k28
  have b28 := F28.binds (ps := ["rota", "wheel"]) fun _ _ _ _ _ _ us hl => match us, hl with | [_, _], _ => rfl
  have F29 := fun_mk (st := s_is_look) l29 c29 k29
  have b29 := F29.binds (ps := ["value", "rota", "days"]) fun _ _ _ _ _ _ us hl => match us, hl with | [_, _, _], _ => rfl
  have F30 := fun_mk (st := s_cost) l30 c30 k30
  have b30 := F30.binds (ps := ["season", "missed", "made"]) fun _ _ _ _ _ _ us hl => match us, hl with | [_, _, _], _ => rfl
  have F31 := fun_mk (st := s_lots_by_size) l31 c31 k31
  have b31 := F31.binds (ps := ["season", "missed", "made"]) fun _ _ _ _ _ _ us hl => match us, hl with | [_, _, _], _ => rfl
  have F32 := fun_mk (st := s_is_unlike) l32 c32 k32
  have b32 := F32.binds (ps := ["value", "bound"]) fun _ _ _ _ _ _ us hl => match us, hl with | [_, _], _ => rfl
  have F33 := fun_mk (st := s_round_days) l33 c33 k33
  have b33 := F33.binds (ps := ["rota", "wheel"]) fun _ _ _ _ _ _ us hl => match us, hl with | [_, _], _ => rfl
  have F34 := fun_mk (st := s_can_be) l34 c34 k34
  have b34 := F34.binds (ps := ["season", "missed", "made"]) fun _ _ _ _ _ _ us hl => match us, hl with | [_, _, _], _ => rfl
  have F35 := fun_mk (st := s_least) l35 c35 k35
  have b35 := F35.binds (ps := ["season"]) fun _ _ _ _ _ _ us hl => match us, hl with | [_], _ => rfl
  have F36 := fun_mk (st := s_ways_with) l36 c36 k36
  have b36 := F36.binds (ps := ["season", "missed", "made"]) fun _ _ _ _ _ _ us hl => match us, hl with | [_, _, _], _ => rfl
  have F37 := fun_mk (st := s_is_row) l37 c37 k37
  have b37 := F37.binds (ps := ["value", "places"]) fun _ _ _ _ _ _ us hl => match us, hl with | [_, _], _ => rfl
  have F38 := fun_mk (st := s_every_due) l38 c38 k38
  have b38 := F38.binds (ps := ["rota", "days"]) fun _ _ _ _ _ _ us hl => match us, hl with | [_, _], _ => rfl
  have F39 := fun_mk (st := s_possible) l39 c39 k39
  have b39 := F39.binds (ps := ["season"]) fun _ _ _ _ _ _ us hl => match us, hl with | [_], _ => rfl
  have F40 := fun_mk (st := s_count) l40 c40 k40
  have b40 := F40.binds (ps := ["season"]) fun _ _ _ _ _ _ us hl => match us, hl with | [_], _ => rfl
  have F41 := fun_mk (st := s_gap) l41 c41 k41
  have b41 := F41.binds (ps := ["rota", "wheel", "misses"]) fun _ _ _ _ _ _ us hl => match us, hl with | [_, _, _], _ => rfl
  have F42 := fun_mk (st := s_Rota_init) l42 c42 k42
  have b42 := F42.binds (ps := ["self", "places", "rows"]) fun _ _ _ _ _ _ us hl => match us, hl with | [_, _, _], _ => rfl
  have F43 := funD_mk (st := s_Season_init) l43 c43 k43 lt43
  have b43 := binds_all (ps := ["self", "rota", "days", "budget", "looks"]) F43 fun _ _ _ _ _ _ _ us its hl hi => match us, its, hl, hi with | [_, _, _, _, _], [_], _, _ => ⟨_, rfl, rfl⟩
  obtain ⟨ds43, bv43, bb43⟩ := binds_but (ps := ["self", "rota", "days", "budget", "looks"]) F43 4 rfl fun _ _ _ _ _ _ _ us its hl hi => match us, its, hl, hi with | [_, _, _, _], [_], _, _ => ⟨_, rfl, rfl⟩
  have F44 := fun_mk (st := s_Desk_told) l44 c44 k44
  have b44 := F44.binds (ps := ["self", "word", "numbers"]) fun _ _ _ _ _ _ us hl => match us, hl with | [_, _, _], _ => rfl
  have F45 := fun_mk (st := s_Rota_read) l45 c45 k45
  have b45 := F45.binds (ps := ["cls", "text"]) fun _ _ _ _ _ _ us hl => match us, hl with | [_, _], _ => rfl
  have F46 := fun_mk (st := s_Season_seen) l46 c46 k46
  have b46 := F46.binds (ps := ["self", "looks"]) fun _ _ _ _ _ _ us hl => match us, hl with | [_, _], _ => rfl
  have F47 := fun_mk (st := s_can_show) l47 c47 k47
  have b47 := F47.binds (ps := ["season", "wheel", "day"]) fun _ _ _ _ _ _ us hl => match us, hl with | [_, _, _], _ => rfl
  have F48 := fun_mk (st := s_sure_sides) l48 c48 k48
  have b48 := F48.binds (ps := ["season", "day"]) fun _ _ _ _ _ _ us hl => match us, hl with | [_, _], _ => rfl
  have F49 := fun_mk (st := s_Live_show) l49 c49 k49
  have b49 := F49.binds (ps := ["self", "season"]) fun _ _ _ _ _ _ us hl => match us, hl with | [_, _], _ => rfl
  have F50 := fun_mk (st := s_Live_init) l50 c50 k50
  have b50 := F50.binds (ps := ["self", "season"]) fun _ _ _ _ _ _ us hl => match us, hl with | [_, _], _ => rfl
  have F51 := fun_mk (st := s_Live_go_on) l51 c51 k51
  have b51 := F51.binds (ps := ["self", "season"]) fun _ _ _ _ _ _ us hl => match us, hl with | [_, _], _ => rfl
  have F52 := fun_mk (st := s_Live_undo) l52 c52 k52
  have b52 := F52.binds (ps := ["self"]) fun _ _ _ _ _ _ us hl => match us, hl with | [_], _ => rfl
  have F53 := fun_mk (st := s_Live_look) l53 c53 k53
  have b53 := F53.binds (ps := ["self", "day", "wheel", "side"]) fun _ _ _ _ _ _ us hl => match us, hl with | [_, _, _, _], _ => rfl
  have F54 := fun_mk (st := s_first_live) l54 c54 k54
  have b54 := F54.binds (ps := ["rota"]) fun _ _ _ _ _ _ us hl => match us, hl with | [_], _ => rfl
  have F55 := fun_mk (st := s_Desk_new_season) l55 c55 k55
  have b55 := F55.binds (ps := ["self", "numbers"]) fun _ _ _ _ _ _ us hl => match us, hl with | [_, _], _ => rfl
  have F56 := fun_mk (st := s_Desk_new_look) l56 c56 k56
  have b56 := F56.binds (ps := ["self", "numbers"]) fun _ _ _ _ _ _ us hl => match us, hl with | [_, _], _ => rfl
  have F57 := fun_mk (st := s_Desk_init) l57 c57 k57
  have b57 := F57.binds (ps := ["self"]) fun _ _ _ _ _ _ us hl => match us, hl with | [_], _ => rfl
  have F58 := fun_mk (st := s_Desk_begin) l58 c58 k58
  have b58 := F58.binds (ps := ["self", "rota"]) fun _ _ _ _ _ _ us hl => match us, hl with | [_, _], _ => rfl
  have F59 := fun_mk (st := s_Desk_say) l59 c59 k59
  have b59 := F59.binds (ps := ["self", "command"]) fun _ _ _ _ _ _ us hl => match us, hl with | [_, _], _ => rfl
  have F60 := fun_mk (st := s_law_heard) l60 c60 k60
  have b60 := F60.binds (ps := ["_law_desk", "_law_command"]) fun _ _ _ _ _ _ us hl => match us, hl with | [_, _], _ => rfl
  have F61 := fun_mk (st := s_law) l61 c61 k61
  have b61 := F61.binds (ps := ["_law_script"]) fun _ _ _ _ _ _ us hl => match us, hl with | [_], _ => rfl
  have FE_InvalidCommand := fun_mk (st := s_InvalidCommand_init) xl_InvalidCommand xc_InvalidCommand xk_InvalidCommand
  have bE_InvalidCommand := FE_InvalidCommand.binds (ps := ["self"]) fun _ _ _ _ _ _ us hl => match us, hl with | [_], _ => rfl
  have FE_InvalidText := fun_mk (st := s_InvalidText_init) xl_InvalidText xc_InvalidText xk_InvalidText
  have bE_InvalidText := FE_InvalidText.binds (ps := ["self", "at"]) fun _ _ _ _ _ _ us hl => match us, hl with | [_, _], _ => rfl
  have FE_InvalidRota := fun_mk (st := s_InvalidRota_init) xl_InvalidRota xc_InvalidRota xk_InvalidRota
  have bE_InvalidRota := FE_InvalidRota.binds (ps := ["self", "word"]) fun _ _ _ _ _ _ us hl => match us, hl with | [_, _], _ => rfl
  have FE_InvalidSeason := fun_mk (st := s_InvalidSeason_init) xl_InvalidSeason xc_InvalidSeason xk_InvalidSeason
  have bE_InvalidSeason := FE_InvalidSeason.binds (ps := ["self", "word"]) fun _ _ _ _ _ _ us hl => match us, hl with | [_, _], _ => rfl
  have FE_NoWheel := fun_mk (st := s_NoWheel_init) xl_NoWheel xc_NoWheel xk_NoWheel
  have bE_NoWheel := FE_NoWheel.binds (ps := ["self", "value"]) fun _ _ _ _ _ _ us hl => match us, hl with | [_, _], _ => rfl
  have FE_Refused := fun_mk (st := s_Refused_init) xl_Refused xc_Refused xk_Refused
  have bE_Refused := FE_Refused.binds (ps := ["self", "value"]) fun _ _ _ _ _ _ us hl => match us, hl with | [_, _], _ => rfl
  let D : Dfs w K mg := { f_is_integer := f0, fd_is_integer := _, F_is_integer := F0, b_is_integer := b0, g_is_integer := PySem.W.mg_of X G a0, f_is_sequence := f1, fd_is_sequence := _, F_is_sequence := F1, b_is_sequence := b1, g_is_sequence := PySem.W.mg_of X G a1, f_number_in := f2, fd_number_in := _, F_number_in := F2, b_number_in := b2, g_number_in := PySem.W.mg_of X G a2, f_way := f3, fd_way := _, F_way := F3, b_way := b3, g_way := PySem.W.mg_of X G a3, f_every_look := f4, fd_every_look := _, F_every_look := F4, b_every_look := b4, g_every_look := PySem.W.mg_of X G a4, f_due_days := f5, fd_due_days := _, F_due_days := F5, b_due_days := b5, g_due_days := PySem.W.mg_of X G a5, f_seen_by_day := f6, fd_seen_by_day := _, F_seen_by_day := F6, b_seen_by_day := b6, g_seen_by_day := PySem.W.mg_of X G a6, f_chosen := f7, fd_chosen := _, F_chosen := F7, b_chosen := b7, g_chosen := PySem.W.mg_of X G a7, f_joined := f8, fd_joined := _, F_joined := F8, b_joined := b8, g_joined := PySem.W.mg_of X G a8, f_Rota_len := f9, fd_Rota_len := _, F_Rota_len := F9, b_Rota_len := b9, f_text_of_rota := f10, fd_text_of_rota := _, F_text_of_rota := F10, b_text_of_rota := b10, g_text_of_rota := PySem.W.mg_of X G a10, f_Desk_keep := f11, fd_Desk_keep := _, F_Desk_keep := F11, b_Desk_keep := b11, f_Desk_undo := f12, fd_Desk_undo := _, F_Desk_undo := F12, b_Desk_undo := b12, f_Desk_len := f13, fd_Desk_len := _, F_Desk_len := F13, b_Desk_len := b13, f_law_box := f14, fd_law_box := _, F_law_box := F14, b_law_box := b14, g_law_box := PySem.W.mg_of X G a14, f_law_take := f15, fd_law_take := _, F_law_take := F15, b_law_take := b15, g_law_take := PySem.W.mg_of X G a15, f_is_from := f16, fd_is_from := _, F_is_from := F16, b_is_from := b16, g_is_from := PySem.W.mg_of X G a16, f_numbers_in := f17, fd_numbers_in := _, F_numbers_in := F17, b_numbers_in := b17, g_numbers_in := PySem.W.mg_of X G a17, f_due_in_round := f18, fd_due_in_round := _, F_due_in_round := F18, b_due_in_round := b18, g_due_in_round := PySem.W.mg_of X G a18, f_stretches_of := f19, fd_stretches_of := _, F_stretches_of := F19, b_stretches_of := b19, g_stretches_of := PySem.W.mg_of X G a19, f_law_pick := f20, fd_law_pick := _, F_law_pick := F20, b_law_pick := b20, g_law_pick := PySem.W.mg_of X G a20, f_is_below := f21, fd_is_below := _, F_is_below := F21, b_is_below := b21, g_is_below := PySem.W.mg_of X G a21, f_parts_of := f22, fd_parts_of := _, F_parts_of := F22, b_parts_of := b22, g_parts_of := PySem.W.mg_of X G a22, f_places_in := f23, fd_places_in := _, F_places_in := F23, b_places_in := b23, g_places_in := PySem.W.mg_of X G a23, f_row_in := f24, fd_row_in := _, F_row_in := F24, b_row_in := b24, g_row_in := PySem.W.mg_of X G a24, f_words_of := f25, fd_words_of := _, F_words_of := F25, b_words_of := b25, g_words_of := PySem.W.mg_of X G a25, f_numbers_of := f26, fd_numbers_of := _, F_numbers_of := F26, b_numbers_of := b26, g_numbers_of := PySem.W.mg_of X G a26, f_law_value := f27, fd_law_value := _, F_law_value := F27, b_law_value := b27, g_law_value := PySem.W.mg_of X G a27, f_need_wheel := f28, fd_need_wheel := _, F_need_wheel := F28, b_need_wheel := b28, g_need_wheel := PySem.W.mg_of X G a28, f_is_look := f29, fd_is_look := _, F_is_look := F29, b_is_look := b29, g_is_look := PySem.W.mg_of X G a29, f_cost := f30, fd_cost := _, F_cost := F30, b_cost := b30, g_cost := PySem.W.mg_of X G a30, f_lots_by_size := f31, fd_lots_by_size := _, F_lots_by_size := F31, b_lots_by_size := b31, g_lots_by_size := PySem.W.mg_of X G a31, f_is_unlike := f32, fd_is_unlike := _, F_is_unlike := F32, b_is_unlike := b32, g_is_unlike := PySem.W.mg_of X G a32, f_round_days := f33, fd_round_days := _, F_round_days := F33, b_round_days := b33, g_round_days := PySem.W.mg_of X G a33, f_can_be := f34, fd_can_be := _, F_can_be := F34, b_can_be := b34, g_can_be := PySem.W.mg_of X G a34, f_least := f35, fd_least := _, F_least := F35, b_least := b35, g_least := PySem.W.mg_of X G a35, f_ways_with := f36, fd_ways_with := _, F_ways_with := F36, b_ways_with := b36, g_ways_with := PySem.W.mg_of X G a36, f_is_row := f37, fd_is_row := _, F_is_row := F37, b_is_row := b37, g_is_row := PySem.W.mg_of X G a37, f_every_due := f38, fd_every_due := _, F_every_due := F38, b_every_due := b38, g_every_due := PySem.W.mg_of X G a38, f_possible := f39, fd_possible := _, F_possible := F39, b_possible := b39, g_possible := PySem.W.mg_of X G a39, f_count := f40, fd_count := _, F_count := F40, b_count := b40, g_count := PySem.W.mg_of X G a40, f_gap := f41, fd_gap := _, F_gap := F41, b_gap := b41, g_gap := PySem.W.mg_of X G a41, f_Rota_init := f42, fd_Rota_init := _, F_Rota_init := F42, b_Rota_init := b42, f_Season_init := f43, fd_Season_init := _, tE_Season_init := _, F_Season_init := F43, b_Season_init := b43, ds_Season_init := ds43, bv_Season_init := bv43, bb_Season_init := bb43, be_Season_init := ⟨_, _, _, le43⟩, f_Desk_told := f44, fd_Desk_told := _, F_Desk_told := F44, b_Desk_told := b44, f_Rota_read := f45, fd_Rota_read := _, F_Rota_read := F45, b_Rota_read := b45, f_Season_seen := f46, fd_Season_seen := _, F_Season_seen := F46, b_Season_seen := b46, f_can_show := f47, fd_can_show := _, F_can_show := F47, b_can_show := b47, g_can_show := PySem.W.mg_of X G a47, f_sure_sides := f48, fd_sure_sides := _, F_sure_sides := F48, b_sure_sides := b48, g_sure_sides := PySem.W.mg_of X G a48, f_Live_show := f49, fd_Live_show := _, F_Live_show := F49, b_Live_show := b49, f_Live_init := f50, fd_Live_init := _, F_Live_init := F50, b_Live_init := b50, f_Live_go_on := f51, fd_Live_go_on := _, F_Live_go_on := F51, b_Live_go_on := b51, f_Live_undo := f52, fd_Live_undo := _, F_Live_undo := F52, b_Live_undo := b52, f_Live_look := f53, fd_Live_look := _, F_Live_look := F53, b_Live_look := b53, f_first_live := f54, fd_first_live := _, F_first_live := F54, b_first_live := b54, g_first_live := PySem.W.mg_of X G a54, f_Desk_new_season := f55, fd_Desk_new_season := _, F_Desk_new_season := F55, b_Desk_new_season := b55, f_Desk_new_look := f56, fd_Desk_new_look := _, F_Desk_new_look := F56, b_Desk_new_look := b56, f_Desk_init := f57, fd_Desk_init := _, F_Desk_init := F57, b_Desk_init := b57, f_Desk_begin := f58, fd_Desk_begin := _, F_Desk_begin := F58, b_Desk_begin := b58, f_Desk_say := f59, fd_Desk_say := _, F_Desk_say := F59, b_Desk_say := b59, f_law_heard := f60, fd_law_heard := _, F_law_heard := F60, b_law_heard := b60, g_law_heard := PySem.W.mg_of X G a60, f_law := fa, fd_law := _, F_law := F61, b_law := b61, g_law := PySem.W.mg_of X G a61, E_InvalidRota := E_InvalidRota, kl_InvalidRota := ⟨PySem.W.mg_of X G aE_InvalidRota, hdE_InvalidRota, tyE_InvalidRota, sfE_InvalidRota⟩, E_InvalidText := E_InvalidText, kl_InvalidText := ⟨PySem.W.mg_of X G aE_InvalidText, hdE_InvalidText, tyE_InvalidText, sfE_InvalidText⟩, E_InvalidSeason := E_InvalidSeason, kl_InvalidSeason := ⟨PySem.W.mg_of X G aE_InvalidSeason, hdE_InvalidSeason, tyE_InvalidSeason, sfE_InvalidSeason⟩, E_InvalidCommand := E_InvalidCommand, kl_InvalidCommand := ⟨PySem.W.mg_of X G aE_InvalidCommand, hdE_InvalidCommand, tyE_InvalidCommand, sfE_InvalidCommand⟩, E_NoWheel := E_NoWheel, kl_NoWheel := ⟨PySem.W.mg_of X G aE_NoWheel, hdE_NoWheel, tyE_NoWheel, sfE_NoWheel⟩, E_Refused := E_Refused, kl_Refused := ⟨PySem.W.mg_of X G aE_Refused, hdE_Refused, tyE_Refused, sfE_Refused⟩, su_InvalidCommand_InvalidCommand := su_InvalidCommand_InvalidCommand, su_InvalidCommand_InvalidRota := su_InvalidCommand_InvalidRota, su_InvalidCommand_InvalidSeason := su_InvalidCommand_InvalidSeason, su_InvalidCommand_InvalidText := su_InvalidCommand_InvalidText, su_InvalidCommand_NoWheel := su_InvalidCommand_NoWheel, su_InvalidCommand_Refused := su_InvalidCommand_Refused, su_InvalidRota_InvalidCommand := su_InvalidRota_InvalidCommand, su_InvalidRota_InvalidRota := su_InvalidRota_InvalidRota, su_InvalidRota_InvalidSeason := su_InvalidRota_InvalidSeason, su_InvalidRota_InvalidText := su_InvalidRota_InvalidText, su_InvalidRota_NoWheel := su_InvalidRota_NoWheel, su_InvalidRota_Refused := su_InvalidRota_Refused, su_InvalidSeason_InvalidCommand := su_InvalidSeason_InvalidCommand, su_InvalidSeason_InvalidRota := su_InvalidSeason_InvalidRota, su_InvalidSeason_InvalidSeason := su_InvalidSeason_InvalidSeason, su_InvalidSeason_InvalidText := su_InvalidSeason_InvalidText, su_InvalidSeason_NoWheel := su_InvalidSeason_NoWheel, su_InvalidSeason_Refused := su_InvalidSeason_Refused, su_InvalidText_InvalidCommand := su_InvalidText_InvalidCommand, su_InvalidText_InvalidRota := su_InvalidText_InvalidRota, su_InvalidText_InvalidSeason := su_InvalidText_InvalidSeason, su_InvalidText_InvalidText := su_InvalidText_InvalidText, su_InvalidText_NoWheel := su_InvalidText_NoWheel, su_InvalidText_Refused := su_InvalidText_Refused, su_NoWheel_InvalidCommand := su_NoWheel_InvalidCommand, su_NoWheel_InvalidRota := su_NoWheel_InvalidRota, su_NoWheel_InvalidSeason := su_NoWheel_InvalidSeason, su_NoWheel_InvalidText := su_NoWheel_InvalidText, su_NoWheel_NoWheel := su_NoWheel_NoWheel, su_NoWheel_Refused := su_NoWheel_Refused, su_Refused_InvalidCommand := su_Refused_InvalidCommand, su_Refused_InvalidRota := su_Refused_InvalidRota, su_Refused_InvalidSeason := su_Refused_InvalidSeason, su_Refused_InvalidText := su_Refused_InvalidText, su_Refused_NoWheel := su_Refused_NoWheel, su_Refused_Refused := su_Refused_Refused, R_TurnError := R_TurnError, rg_TurnError := PySem.W.mg_of X G aR_TurnError, rt_TurnError := ⟨rdR_TurnError, gaR_TurnError, inR_TurnError⟩, f_InvalidCommand_init := eInvalidCommand, fd_InvalidCommand_init := _, F_InvalidCommand_init := FE_InvalidCommand, b_InvalidCommand_init := bE_InvalidCommand, er_InvalidCommand := ⟨⟨⟨_, _, _, _, _, _, _, _, _, _, _, _, _, _, _, xo_InvalidCommand, xv_InvalidCommand⟩, xs_InvalidCommand, xb_InvalidCommand, tyE_InvalidCommand, xp_InvalidCommand⟩, ⟨xg_InvalidCommand, xh_InvalidCommand, xb_InvalidCommand, hdE_InvalidCommand, xd_InvalidCommand, xe_InvalidCommand, xt_InvalidCommand, xm_InvalidCommand⟩, ⟨xg_InvalidCommand, xh_InvalidCommand, xb_InvalidCommand, hdE_InvalidCommand⟩, xa_InvalidCommand, xi_InvalidCommand, PySem.W.mg_of X G aE_InvalidCommand⟩, f_InvalidText_init := eInvalidText, fd_InvalidText_init := _, F_InvalidText_init := FE_InvalidText, b_InvalidText_init := bE_InvalidText, er_InvalidText := ⟨⟨⟨_, _, _, _, _, _, _, _, _, _, _, _, _, _, _, xo_InvalidText, xv_InvalidText⟩, xs_InvalidText, xb_InvalidText, tyE_InvalidText, xp_InvalidText⟩, ⟨xg_InvalidText, xh_InvalidText, xb_InvalidText, hdE_InvalidText, xd_InvalidText, xe_InvalidText, xt_InvalidText, xm_InvalidText⟩, ⟨xg_InvalidText, xh_InvalidText, xb_InvalidText, hdE_InvalidText⟩, xa_InvalidText, xi_InvalidText, PySem.W.mg_of X G aE_InvalidText⟩, na_InvalidText := xn_InvalidText, f_InvalidRota_init := eInvalidRota, fd_InvalidRota_init := _, F_InvalidRota_init := FE_InvalidRota, b_InvalidRota_init := bE_InvalidRota, er_InvalidRota := ⟨⟨⟨_, _, _, _, _, _, _, _, _, _, _, _, _, _, _, xo_InvalidRota, xv_InvalidRota⟩, xs_InvalidRota, xb_InvalidRota, tyE_InvalidRota, xp_InvalidRota⟩, ⟨xg_InvalidRota, xh_InvalidRota, xb_InvalidRota, hdE_InvalidRota, xd_InvalidRota, xe_InvalidRota, xt_InvalidRota, xm_InvalidRota⟩, ⟨xg_InvalidRota, xh_InvalidRota, xb_InvalidRota, hdE_InvalidRota⟩, xa_InvalidRota, xi_InvalidRota, PySem.W.mg_of X G aE_InvalidRota⟩, na_InvalidRota := xn_InvalidRota, f_InvalidSeason_init := eInvalidSeason, fd_InvalidSeason_init := _, F_InvalidSeason_init := FE_InvalidSeason, b_InvalidSeason_init := bE_InvalidSeason, er_InvalidSeason := ⟨⟨⟨_, _, _, _, _, _, _, _, _, _, _, _, _, _, _, xo_InvalidSeason, xv_InvalidSeason⟩, xs_InvalidSeason, xb_InvalidSeason, tyE_InvalidSeason, xp_InvalidSeason⟩, ⟨xg_InvalidSeason, xh_InvalidSeason, xb_InvalidSeason, hdE_InvalidSeason, xd_InvalidSeason, xe_InvalidSeason, xt_InvalidSeason, xm_InvalidSeason⟩, ⟨xg_InvalidSeason, xh_InvalidSeason, xb_InvalidSeason, hdE_InvalidSeason⟩, xa_InvalidSeason, xi_InvalidSeason, PySem.W.mg_of X G aE_InvalidSeason⟩, na_InvalidSeason := xn_InvalidSeason, f_NoWheel_init := eNoWheel, fd_NoWheel_init := _, F_NoWheel_init := FE_NoWheel, b_NoWheel_init := bE_NoWheel, er_NoWheel := ⟨⟨⟨_, _, _, _, _, _, _, _, _, _, _, _, _, _, _, xo_NoWheel, xv_NoWheel⟩, xs_NoWheel, xb_NoWheel, tyE_NoWheel, xp_NoWheel⟩, ⟨xg_NoWheel, xh_NoWheel, xb_NoWheel, hdE_NoWheel, xd_NoWheel, xe_NoWheel, xt_NoWheel, xm_NoWheel⟩, ⟨xg_NoWheel, xh_NoWheel, xb_NoWheel, hdE_NoWheel⟩, xa_NoWheel, xi_NoWheel, PySem.W.mg_of X G aE_NoWheel⟩, na_NoWheel := xn_NoWheel, f_Refused_init := eRefused, fd_Refused_init := _, F_Refused_init := FE_Refused, b_Refused_init := bE_Refused, er_Refused := ⟨⟨⟨_, _, _, _, _, _, _, _, _, _, _, _, _, _, _, xo_Refused, xv_Refused⟩, xs_Refused, xb_Refused, tyE_Refused, xp_Refused⟩, ⟨xg_Refused, xh_Refused, xb_Refused, hdE_Refused, xd_Refused, xe_Refused, xt_Refused, xm_Refused⟩, ⟨xg_Refused, xh_Refused, xb_Refused, hdE_Refused⟩, xa_Refused, xi_Refused, PySem.W.mg_of X G aE_Refused⟩, na_Refused := xn_Refused, C_Season := C_Season, gC_Season := PySem.W.mg_of X G aC_Season, cls_Season := ⟨pg_Season, hd_Season, po_Season, sa_Season⟩, mk_Season := ⟨mk_Season, a43, i43, kc_Season⟩, na_Season_rota := na_Season_rota, na_Season_days := na_Season_days, na_Season_budget := na_Season_budget, na_Season_looks := na_Season_looks, na_Season_wheels := na_Season_wheels, na_Season_due := na_Season_due, me_Season_seen := ⟨a46, i46, k46⟩, C_Live := C_Live, gC_Live := PySem.W.mg_of X G aC_Live, cls_Live := ⟨pg_Live, hd_Live, po_Live, sa_Live⟩, mk_Live := ⟨mk_Live, a50, i50, kc_Live⟩, na_Live_past := na_Live_past, na_Live_season := na_Live_season, na_Live_is_possible := na_Live_is_possible, na_Live_sure := na_Live_sure, me_Live_go_on := ⟨a51, i51, k51⟩, me_Live_look := ⟨a53, i53, k53⟩, me_Live_show := ⟨a49, i49, k49⟩, me_Live_undo := ⟨a52, i52, k52⟩, C_Rota := C_Rota, gC_Rota := PySem.W.mg_of X G aC_Rota, cls_Rota := ⟨pg_Rota, hd_Rota, po_Rota, sa_Rota⟩, mk_Rota := ⟨mk_Rota, a42, i42, kc_Rota⟩, na_Rota_places := na_Rota_places, na_Rota_rows := na_Rota_rows, na_Rota_text := na_Rota_text, me_Rota_len := ⟨a9, i9, k9⟩, cr_Rota := ⟨rd45, ga45⟩, pq_Rota_read := pq45, cm_Rota_read := ⟨a45, ⟨_, rr45⟩, i45⟩, C_Desk := C_Desk, gC_Desk := PySem.W.mg_of X G aC_Desk, cls_Desk := ⟨pg_Desk, hd_Desk, po_Desk, sa_Desk⟩, mk_Desk := ⟨mk_Desk, a57, i57, kc_Desk⟩, na_Desk_live := na_Desk_live, na_Desk_past := na_Desk_past, nb_Desk := ⟨⟨⟨pg_Desk, hd_Desk, po_Desk, sa_Desk⟩, iha_Desk, ihn_Desk, iht_Desk, mro_obj mk_Desk, if_pos (beq_self_eq_true _)⟩, fun n => match n with | .int => sb_Desk_int | .bool => sb_Desk_bool | .str => sb_Desk_str | .list => sb_Desk_list | .tuple => sb_Desk_tuple⟩, me_Desk_len := ⟨a13, i13, k13⟩, me_Desk_begin := ⟨a58, i58, k58⟩, me_Desk_keep := ⟨a11, i11, k11⟩, me_Desk_new_look := ⟨a56, i56, k56⟩, me_Desk_new_season := ⟨a55, i55, k55⟩, me_Desk_say := ⟨a59, i59, k59⟩, me_Desk_told := ⟨a44, i44, k44⟩, me_Desk_undo := ⟨a12, i12, k12⟩, d_SIZES := dK_SIZES, gk_SIZES := PySem.W.mg_of X G kg_SIZES, kd_SIZES := ktab_of kw_SIZES (fun p hp => by simp only [List.mem_cons, List.not_mem_nil, or_false] at hp; rcases hp with rfl | rfl | rfl | rfl | rfl | rfl | rfl; exact ⟨_, kv0_SIZES⟩; exact ⟨_, kv1_SIZES⟩; exact ⟨_, kv2_SIZES⟩; exact ⟨_, kv3_SIZES⟩; exact ⟨_, kv4_SIZES⟩; exact ⟨_, kv5_SIZES⟩; exact ⟨_, kv6_SIZES⟩), z_abs := PySem.W.mg_none_of X G z0, z_all := PySem.W.mg_none_of X G z1, z_bool := PySem.W.mg_none_of X G z2, z_enumerate := PySem.W.mg_none_of X G z3, z_int := PySem.W.mg_none_of X G z4, z_isinstance := PySem.W.mg_none_of X G z5, z_len := PySem.W.mg_none_of X G z6, z_list := PySem.W.mg_none_of X G z7, z_max := PySem.W.mg_none_of X G z8, z_min := PySem.W.mg_none_of X G z9, z_range := PySem.W.mg_none_of X G z10, z_repr := PySem.W.mg_none_of X G z11, z_sorted := PySem.W.mg_none_of X G z12, z_str := PySem.W.mg_none_of X G z13, z_sum := PySem.W.mg_none_of X G z14, z_tuple := PySem.W.mg_none_of X G z15, v_DIGITS_desk := _, c_DIGITS_desk := PySem.W.mg_of X G y0, r_DIGITS_desk := ⟨_, rfl⟩, v_DIGITS_rotas := _, c_DIGITS_rotas := PySem.W.mg_of X G y1, r_DIGITS_rotas := ⟨_, rfl⟩, v_FIRST_DAYS := _, c_FIRST_DAYS := PySem.W.mg_of X G y2, r_FIRST_DAYS := ⟨_, rfl⟩, v_PAIR_rotas := _, c_PAIR_rotas := PySem.W.mg_of X G y3, r_PAIR_rotas := ⟨_, rfl⟩, v_PAIR_seasons := _, c_PAIR_seasons := PySem.W.mg_of X G y4, r_PAIR_seasons := ⟨_, rfl⟩, v_TRIPLE := _, c_TRIPLE := PySem.W.mg_of X G y5, r_TRIPLE := ⟨_, rfl⟩ }
  exact ⟨D.fd_law, fun s v => .of_eq rfl, fun base _ _ => (ok_law D).imp fun vs H Q E h => h D.cl⟩
theorem law_sp {K : PySem.W.Frag} (hm : ∀ ns : List Int, ns.length ≤ 63 → m_law [.scr ns] = .ret (.bl true) .non) (H : Hp) (a : Addr) (ns : List Int) (hl : ns.length ≤ 63) (hS : SqL K H a (ns.map V.int)) : spL K [.ref a] H (fun v _ => v = .bl true) fun _ _ _ => False := by
  intro cl
  refine ⟨H, [.scr ns], none, rfl, le_refl H, ⟨.cons (.scr hS) .nil, rfl⟩, ?_⟩
  rw [hm ns hl]
  exact fun F' H' v _ _ _ r => Rep.bl_inv (show Rep _ _ _ _ from r)
end Dl
open PySem PySem.W PyProof.Rows
theorem Dl.cx_none {P : Program} {w : World} {H : L2.Hp} {s : Shared} {e : Value} {s' : Shared} (h : L2.CX P w [] H s (fun _ _ _ => False) e s') : False := by
  obtain ⟨_, _, _, _, _, _, _, _, _, _, _, _, z⟩ := h
  exact z
set_option maxHeartbeats 0 in
theorem PySem.Challenge.cw_turnrota_k73_desks_refuse_holds : PySem.Challenge.rw_turnrota_k73_desks_refuse.Holds := by
  w_on; o_law; k_head; (case hw => w_witness2)
  k_fill
  refine Dl.walkG (l := PySem.Challenge.rw_turnrota_k73_desks_refuse) (n := 63) (k := 19) (x := "_law_script") (CX := fun w => L2.CX PySem.Challenge.rw_turnrota_k73_desks_refuse.prog w) (sp := fun w => Dl.spL _) rfl (by decide) rfl ⟨rfl, by decide, by decide⟩ (fun w h Y => PySem.W.kIn_of Y) ?F (fun _ H a ns hl _ hS => Dl.law_sp Dl.law_true H a ns hl hS) (fun _ _ _ _ _ h => Dl.cx_none h)
  case F =>
    intro w mg fa h KX G hmg
    refine' Dl.all_mk KX G hmg ?aC_Season ?pg_Season ?hd_Season ?po_Season ?sa_Season ?mk_Season ?kc_Season ?na_Season_rota ?na_Season_days ?na_Season_budget ?na_Season_looks ?na_Season_wheels ?na_Season_due ?aC_Live ?pg_Live ?hd_Live ?po_Live ?sa_Live ?mk_Live ?kc_Live ?na_Live_past ?na_Live_season ?na_Live_is_possible ?na_Live_sure ?aC_Rota ?pg_Rota ?hd_Rota ?po_Rota ?sa_Rota ?mk_Rota ?kc_Rota ?na_Rota_places ?na_Rota_rows ?na_Rota_text ?aC_Desk ?pg_Desk ?hd_Desk ?po_Desk ?sa_Desk ?mk_Desk ?kc_Desk ?na_Desk_live ?na_Desk_past ?sb_Desk_int ?sb_Desk_bool ?sb_Desk_str ?sb_Desk_list ?sb_Desk_tuple ?iha_Desk ?ihn_Desk ?iht_Desk ?aE_InvalidRota ?hdE_InvalidRota ?tyE_InvalidRota ?sfE_InvalidRota ?aE_InvalidText ?hdE_InvalidText ?tyE_InvalidText ?sfE_InvalidText ?aE_InvalidSeason ?hdE_InvalidSeason ?tyE_InvalidSeason ?sfE_InvalidSeason ?aE_InvalidCommand ?hdE_InvalidCommand ?tyE_InvalidCommand ?sfE_InvalidCommand ?aE_NoWheel ?hdE_NoWheel ?tyE_NoWheel ?sfE_NoWheel ?aE_Refused ?hdE_Refused ?tyE_Refused ?sfE_Refused ?su_InvalidCommand_InvalidCommand ?su_InvalidCommand_InvalidRota ?su_InvalidCommand_InvalidSeason ?su_InvalidCommand_InvalidText ?su_InvalidCommand_NoWheel ?su_InvalidCommand_Refused ?su_InvalidRota_InvalidCommand ?su_InvalidRota_InvalidRota ?su_InvalidRota_InvalidSeason ?su_InvalidRota_InvalidText ?su_InvalidRota_NoWheel ?su_InvalidRota_Refused ?su_InvalidSeason_InvalidCommand ?su_InvalidSeason_InvalidRota ?su_InvalidSeason_InvalidSeason ?su_InvalidSeason_InvalidText ?su_InvalidSeason_NoWheel ?su_InvalidSeason_Refused ?su_InvalidText_InvalidCommand ?su_InvalidText_InvalidRota ?su_InvalidText_InvalidSeason ?su_InvalidText_InvalidText ?su_InvalidText_NoWheel ?su_InvalidText_Refused ?su_NoWheel_InvalidCommand ?su_NoWheel_InvalidRota ?su_NoWheel_InvalidSeason ?su_NoWheel_InvalidText ?su_NoWheel_NoWheel ?su_NoWheel_Refused ?su_Refused_InvalidCommand ?su_Refused_InvalidRota ?su_Refused_InvalidSeason ?su_Refused_InvalidText ?su_Refused_NoWheel ?su_Refused_Refused ?aR_TurnError ?rdR_TurnError ?gaR_TurnError ?inR_TurnError ?xa_InvalidCommand ?xi_InvalidCommand ?xl_InvalidCommand ?xc_InvalidCommand ?xk_InvalidCommand ?xo_InvalidCommand ?xv_InvalidCommand ?xs_InvalidCommand ?xb_InvalidCommand ?xp_InvalidCommand ?xg_InvalidCommand ?xh_InvalidCommand ?xd_InvalidCommand ?xe_InvalidCommand ?xt_InvalidCommand ?xm_InvalidCommand ?xa_InvalidText ?xi_InvalidText ?xl_InvalidText ?xc_InvalidText ?xk_InvalidText ?xo_InvalidText ?xv_InvalidText ?xs_InvalidText ?xb_InvalidText ?xp_InvalidText ?xg_InvalidText ?xh_InvalidText ?xd_InvalidText ?xe_InvalidText ?xt_InvalidText ?xm_InvalidText ?xn_InvalidText ?xa_InvalidRota ?xi_InvalidRota ?xl_InvalidRota ?xc_InvalidRota ?xk_InvalidRota ?xo_InvalidRota ?xv_InvalidRota ?xs_InvalidRota ?xb_InvalidRota ?xp_InvalidRota ?xg_InvalidRota ?xh_InvalidRota ?xd_InvalidRota ?xe_InvalidRota ?xt_InvalidRota ?xm_InvalidRota ?xn_InvalidRota ?xa_InvalidSeason ?xi_InvalidSeason ?xl_InvalidSeason ?xc_InvalidSeason ?xk_InvalidSeason ?xo_InvalidSeason ?xv_InvalidSeason ?xs_InvalidSeason ?xb_InvalidSeason ?xp_InvalidSeason ?xg_InvalidSeason ?xh_InvalidSeason ?xd_InvalidSeason ?xe_InvalidSeason ?xt_InvalidSeason ?xm_InvalidSeason ?xn_InvalidSeason ?xa_NoWheel ?xi_NoWheel ?xl_NoWheel ?xc_NoWheel ?xk_NoWheel ?xo_NoWheel ?xv_NoWheel ?xs_NoWheel ?xb_NoWheel ?xp_NoWheel ?xg_NoWheel ?xh_NoWheel ?xd_NoWheel ?xe_NoWheel ?xt_NoWheel ?xm_NoWheel ?xn_NoWheel ?xa_Refused ?xi_Refused ?xl_Refused ?xc_Refused ?xk_Refused ?xo_Refused ?xv_Refused ?xs_Refused ?xb_Refused ?xp_Refused ?xg_Refused ?xh_Refused ?xd_Refused ?xe_Refused ?xt_Refused ?xm_Refused ?xn_Refused ?a0 ?l0 ?c0 ?k0 ?a1 ?l1 ?c1 ?k1 ?a2 ?l2 ?c2 ?k2 ?a3 ?l3 ?c3 ?k3 ?a4 ?l4 ?c4 ?k4 ?a5 ?l5 ?c5 ?k5 ?a6 ?l6 ?c6 ?k6 ?a7 ?l7 ?c7 ?k7 ?a8 ?l8 ?c8 ?k8 ?a9 ?i9 ?l9 ?c9 ?k9 ?a10 ?l10 ?c10 ?k10 ?a11 ?i11 ?l11 ?c11 ?k11 ?a12 ?i12 ?l12 ?c12 ?k12 ?a13 ?i13 ?l13 ?c13 ?k13 ?a14 ?l14 ?c14 ?k14 ?a15 ?l15 ?c15 ?k15 ?a16 ?l16 ?c16 ?k16 ?a17 ?l17 ?c17 ?k17 ?a18 ?l18 ?c18 ?k18 ?a19 ?l19 ?c19 ?k19 ?a20 ?l20 ?c20 ?k20 ?a21 ?l21 ?c21 ?k21 ?a22 ?l22 ?c22 ?k22 ?a23 ?l23 ?c23 ?k23 ?a24 ?l24 ?c24 ?k24 ?a25 ?l25 ?c25 ?k25 ?a26 ?l26 ?c26 ?k26 ?a27 ?l27 ?c27 ?k27 ?a28 ?l28 ?c28 ?k28 ?a29 ?l29 ?c29 ?k29 ?a30 ?l30 ?c30 ?k30 ?a31 ?l31 ?c31 ?k31 ?a32 ?l32 ?c32 ?k32 ?a33 ?l33 ?c33 ?k33 ?a34 ?l34 ?c34 ?k34 ?a35 ?l35 ?c35 ?k35 ?a36 ?l36 ?c36 ?k36 ?a37 ?l37 ?c37 ?k37 ?a38 ?l38 ?c38 ?k38 ?a39 ?l39 ?c39 ?k39 ?a40 ?l40 ?c40 ?k40 ?a41 ?l41 ?c41 ?k41 ?a42 ?i42 ?l42 ?c42 ?k42 ?a43 ?i43 ?l43 ?lt43 ?le43 ?c43 ?k43 ?a44 ?i44 ?l44 ?c44 ?k44 ?rd45 ?ga45 ?a45 ?rr45 ?i45 ?l45 ?c45 ?k45 ?a46 ?i46 ?l46 ?c46 ?k46 ?a47 ?l47 ?c47 ?k47 ?a48 ?l48 ?c48 ?k48 ?a49 ?i49 ?l49 ?c49 ?k49 ?a50 ?i50 ?l50 ?c50 ?k50 ?a51 ?i51 ?l51 ?c51 ?k51 ?a52 ?i52 ?l52 ?c52 ?k52 ?a53 ?i53 ?l53 ?c53 ?k53 ?a54 ?l54 ?c54 ?k54 ?a55 ?i55 ?l55 ?c55 ?k55 ?a56 ?i56 ?l56 ?c56 ?k56 ?a57 ?i57 ?l57 ?c57 ?k57 ?a58 ?i58 ?l58 ?c58 ?k58 ?a59 ?i59 ?l59 ?c59 ?k59 ?a60 ?l60 ?c60 ?k60 ?a61 ?l61 ?c61 ?k61 ?z0 ?z1 ?z2 ?z3 ?z4 ?z5 ?z6 ?z7 ?z8 ?z9 ?z10 ?z11 ?z12 ?z13 ?z14 ?z15 ?y0 ?y1 ?y2 ?y3 ?y4 ?y5 ?kg_SIZES ?kw_SIZES ?kv0_SIZES ?kv1_SIZES ?kv2_SIZES ?kv3_SIZES ?kv4_SIZES ?kv5_SIZES ?kv6_SIZES
    (case aC_Season => k_is); (case aC_Live => k_is); (case aC_Rota => k_is); (case aC_Desk => k_is); (case aE_InvalidRota => k_is); (case aE_InvalidText => k_is); (case aE_InvalidSeason => k_is); (case aE_InvalidCommand => k_is); (case aE_NoWheel => k_is); (case aE_Refused => k_is); (case pg_Season => k_is); (case hd_Season => k_is); (case po_Season => k_is); (case sa_Season => k_is); (case mk_Season => k_is); (case kc_Season => k_is); (case na_Season_rota => k_is); (case na_Season_days => k_is); (case na_Season_budget => k_is); (case na_Season_looks => k_is); (case na_Season_wheels => k_is); (case na_Season_due => k_is); (case pg_Live => k_is); (case hd_Live => k_is); (case po_Live => k_is); (case sa_Live => k_is); (case mk_Live => k_is); (case kc_Live => k_is); (case na_Live_past => k_is); (case na_Live_season => k_is); (case na_Live_is_possible => k_is); (case na_Live_sure => k_is); (case pg_Rota => k_is); (case hd_Rota => k_is); (case po_Rota => k_is); (case sa_Rota => k_is); (case mk_Rota => k_is); (case kc_Rota => k_is); (case na_Rota_places => k_is); (case na_Rota_rows => k_is); (case na_Rota_text => k_is); (case pg_Desk => k_is); (case hd_Desk => k_is); (case po_Desk => k_is); (case sa_Desk => k_is); (case mk_Desk => k_is); (case kc_Desk => k_is); (case na_Desk_live => k_is); (case na_Desk_past => k_is); (case sb_Desk_int => k_is); (case sb_Desk_bool => k_is); (case sb_Desk_str => k_is); (case sb_Desk_list => k_is); (case sb_Desk_tuple => k_is); (case iha_Desk => k_is); (case ihn_Desk => k_is); (case iht_Desk => k_is); (case hdE_InvalidRota => k_is); (case tyE_InvalidRota => k_is); (case sfE_InvalidRota => k_is); (case hdE_InvalidText => k_is); (case tyE_InvalidText => k_is); (case sfE_InvalidText => k_is); (case hdE_InvalidSeason => k_is); (case tyE_InvalidSeason => k_is); (case sfE_InvalidSeason => k_is); (case hdE_InvalidCommand => k_is); (case tyE_InvalidCommand => k_is); (case sfE_InvalidCommand => k_is); (case hdE_NoWheel => k_is); (case tyE_NoWheel => k_is); (case sfE_NoWheel => k_is); (case hdE_Refused => k_is); (case tyE_Refused => k_is); (case sfE_Refused => k_is); (case su_InvalidCommand_InvalidCommand => k_is); (case su_InvalidCommand_InvalidRota => k_is); (case su_InvalidCommand_InvalidSeason => k_is); (case su_InvalidCommand_InvalidText => k_is); (case su_InvalidCommand_NoWheel => k_is); (case su_InvalidCommand_Refused => k_is); (case su_InvalidRota_InvalidCommand => k_is); (case su_InvalidRota_InvalidRota => k_is); (case su_InvalidRota_InvalidSeason => k_is); (case su_InvalidRota_InvalidText => k_is); (case su_InvalidRota_NoWheel => k_is); (case su_InvalidRota_Refused => k_is); (case su_InvalidSeason_InvalidCommand => k_is); (case su_InvalidSeason_InvalidRota => k_is); (case su_InvalidSeason_InvalidSeason => k_is); (case su_InvalidSeason_InvalidText => k_is); (case su_InvalidSeason_NoWheel => k_is); (case su_InvalidSeason_Refused => k_is); (case su_InvalidText_InvalidCommand => k_is); (case su_InvalidText_InvalidRota => k_is); (case su_InvalidText_InvalidSeason => k_is); (case su_InvalidText_InvalidText => k_is); (case su_InvalidText_NoWheel => k_is); (case su_InvalidText_Refused => k_is); (case su_NoWheel_InvalidCommand => k_is); (case su_NoWheel_InvalidRota => k_is); (case su_NoWheel_InvalidSeason => k_is); (case su_NoWheel_InvalidText => k_is); (case su_NoWheel_NoWheel => k_is); (case su_NoWheel_Refused => k_is); (case su_Refused_InvalidCommand => k_is); (case su_Refused_InvalidRota => k_is); (case su_Refused_InvalidSeason => k_is); (case su_Refused_InvalidText => k_is); (case su_Refused_NoWheel => k_is); (case su_Refused_Refused => k_is); (case aR_TurnError => k_is); (case rdR_TurnError => k_is); (case gaR_TurnError => k_is); (case inR_TurnError => k_is); (case xa_InvalidCommand => k_is); (case xi_InvalidCommand => k_is); (case xl_InvalidCommand => k_is); (case xc_InvalidCommand => k_is); (case xk_InvalidCommand => k_is); (case xo_InvalidCommand => k_is); (case xv_InvalidCommand => decide +kernel); (case xs_InvalidCommand => k_is); (case xb_InvalidCommand => k_is); (case xp_InvalidCommand => k_is); (case xg_InvalidCommand => k_is); (case xh_InvalidCommand => k_is); (case xd_InvalidCommand => k_is); (case xe_InvalidCommand => k_is); (case xt_InvalidCommand => k_is); (case xm_InvalidCommand => k_is); (case xa_InvalidText => k_is); (case xi_InvalidText => k_is); (case xl_InvalidText => k_is); (case xc_InvalidText => k_is); (case xk_InvalidText => k_is); (case xo_InvalidText => k_is); (case xv_InvalidText => decide +kernel); (case xs_InvalidText => k_is); (case xb_InvalidText => k_is); (case xp_InvalidText => k_is); (case xg_InvalidText => k_is); (case xh_InvalidText => k_is); (case xd_InvalidText => k_is); (case xe_InvalidText => k_is); (case xt_InvalidText => k_is); (case xm_InvalidText => k_is); (case xn_InvalidText => k_is); (case xa_InvalidRota => k_is); (case xi_InvalidRota => k_is); (case xl_InvalidRota => k_is); (case xc_InvalidRota => k_is); (case xk_InvalidRota => k_is); (case xo_InvalidRota => k_is); (case xv_InvalidRota => decide +kernel); (case xs_InvalidRota => k_is); (case xb_InvalidRota => k_is); (case xp_InvalidRota => k_is); (case xg_InvalidRota => k_is); (case xh_InvalidRota => k_is); (case xd_InvalidRota => k_is); (case xe_InvalidRota => k_is); (case xt_InvalidRota => k_is); (case xm_InvalidRota => k_is); (case xn_InvalidRota => k_is); (case xa_InvalidSeason => k_is); (case xi_InvalidSeason => k_is); (case xl_InvalidSeason => k_is); (case xc_InvalidSeason => k_is); (case xk_InvalidSeason => k_is); (case xo_InvalidSeason => k_is); (case xv_InvalidSeason => decide +kernel); (case xs_InvalidSeason => k_is); (case xb_InvalidSeason => k_is); (case xp_InvalidSeason => k_is); (case xg_InvalidSeason => k_is); (case xh_InvalidSeason => k_is); (case xd_InvalidSeason => k_is); (case xe_InvalidSeason => k_is); (case xt_InvalidSeason => k_is); (case xm_InvalidSeason => k_is); (case xn_InvalidSeason => k_is); (case xa_NoWheel => k_is); (case xi_NoWheel => k_is); (case xl_NoWheel => k_is); (case xc_NoWheel => k_is); (case xk_NoWheel => k_is); (case xo_NoWheel => k_is); (case xv_NoWheel => decide +kernel); (case xs_NoWheel => k_is); (case xb_NoWheel => k_is); (case xp_NoWheel => k_is); (case xg_NoWheel => k_is); (case xh_NoWheel => k_is); (case xd_NoWheel => k_is); (case xe_NoWheel => k_is); (case xt_NoWheel => k_is); (case xm_NoWheel => k_is); (case xn_NoWheel => k_is); (case xa_Refused => k_is); (case xi_Refused => k_is); (case xl_Refused => k_is); (case xc_Refused => k_is); (case xk_Refused => k_is); (case xo_Refused => k_is); (case xv_Refused => decide +kernel); (case xs_Refused => k_is); (case xb_Refused => k_is); (case xp_Refused => k_is); (case xg_Refused => k_is); (case xh_Refused => k_is); (case xd_Refused => k_is); (case xe_Refused => k_is); (case xt_Refused => k_is); (case xm_Refused => k_is); (case xn_Refused => k_is); (case a0 => k_is); (case l0 => k_is); (case c0 => k_is); (case k0 => k_is); (case a1 => k_is); (case l1 => k_is); (case c1 => k_is); (case k1 => k_is); (case a2 => k_is); (case l2 => k_is); (case c2 => k_is); (case k2 => k_is); (case a3 => k_is); (case l3 => k_is); (case c3 => k_is); (case k3 => k_is); (case a4 => k_is); (case l4 => k_is); (case c4 => k_is); (case k4 => k_is); (case a5 => k_is); (case l5 => k_is); (case c5 => k_is); (case k5 => k_is); (case a6 => k_is); (case l6 => k_is); (case c6 => k_is); (case k6 => k_is); (case a7 => k_is); (case l7 => k_is); (case c7 => k_is); (case k7 => k_is); (case a8 => k_is); (case l8 => k_is); (case c8 => k_is); (case k8 => k_is); (case a9 => k_is); (case i9 => k_is); (case l9 => k_is); (case c9 => k_is); (case k9 => k_is); (case a10 => k_is); (case l10 => k_is); (case c10 => k_is); (case k10 => k_is); (case a11 => k_is); (case i11 => k_is); (case l11 => k_is); (case c11 => k_is); (case k11 => k_is); (case a12 => k_is); (case i12 => k_is); (case l12 => k_is); (case c12 => k_is); (case k12 => k_is); (case a13 => k_is); (case i13 => k_is); (case l13 => k_is); (case c13 => k_is); (case k13 => k_is); (case a14 => k_is); (case l14 => k_is); (case c14 => k_is); (case k14 => k_is); (case a15 => k_is); (case l15 => k_is); (case c15 => k_is); (case k15 => k_is); (case a16 => k_is); (case l16 => k_is); (case c16 => k_is); (case k16 => k_is); (case a17 => k_is); (case l17 => k_is); (case c17 => k_is); (case k17 => k_is); (case a18 => k_is); (case l18 => k_is); (case c18 => k_is); (case k18 => k_is); (case a19 => k_is); (case l19 => k_is); (case c19 => k_is); (case k19 => k_is); (case a20 => k_is); (case l20 => k_is); (case c20 => k_is); (case k20 => k_is); (case a21 => k_is); (case l21 => k_is); (case c21 => k_is); (case k21 => k_is); (case a22 => k_is); (case l22 => k_is); (case c22 => k_is); (case k22 => k_is); (case a23 => k_is); (case l23 => k_is); (case c23 => k_is); (case k23 => k_is); (case a24 => k_is); (case l24 => k_is); (case c24 => k_is); (case k24 => k_is); (case a25 => k_is); (case l25 => k_is); (case c25 => k_is); (case k25 => k_is); (case a26 => k_is); (case l26 => k_is); (case c26 => k_is); (case k26 => k_is); (case a27 => k_is); (case l27 => k_is); (case c27 => k_is); (case k27 => k_is); (case a28 => k_is); (case l28 => k_is); (case c28 => k_is); (case k28 => k_is); (case a29 => k_is); (case l29 => k_is); (case c29 => k_is); (case k29 => k_is); (case a30 => k_is); (case l30 => k_is); (case c30 => k_is); (case k30 => k_is); (case a31 => k_is); (case l31 => k_is); (case c31 => k_is); (case k31 => k_is); (case a32 => k_is); (case l32 => k_is); (case c32 => k_is); (case k32 => k_is); (case a33 => k_is); (case l33 => k_is); (case c33 => k_is); (case k33 => k_is); (case a34 => k_is); (case l34 => k_is); (case c34 => k_is); (case k34 => k_is); (case a35 => k_is); (case l35 => k_is); (case c35 => k_is); (case k35 => k_is); (case a36 => k_is); (case l36 => k_is); (case c36 => k_is); (case k36 => k_is); (case a37 => k_is); (case l37 => k_is); (case c37 => k_is); (case k37 => k_is); (case a38 => k_is); (case l38 => k_is); (case c38 => k_is); (case k38 => k_is); (case a39 => k_is); (case l39 => k_is); (case c39 => k_is); (case k39 => k_is); (case a40 => k_is); (case l40 => k_is); (case c40 => k_is); (case k40 => k_is); (case a41 => k_is); (case l41 => k_is); (case c41 => k_is); (case k41 => k_is); (case a42 => k_is); (case i42 => k_is); (case l42 => k_is); (case c42 => k_is); (case k42 => k_is); (case a43 => k_is); (case i43 => k_is); (case l43 => k_is); (case lt43 => k_is); (case le43 => k_is); (case c43 => k_is); (case k43 => k_is); (case a44 => k_is); (case i44 => k_is); (case l44 => k_is); (case c44 => k_is); (case k44 => k_is); (case rd45 => k_is); (case ga45 => k_is); (case a45 => k_is); (case rr45 => k_is); (case i45 => k_is); (case l45 => k_is); (case c45 => k_is); (case k45 => k_is); (case a46 => k_is); (case i46 => k_is); (case l46 => k_is); (case c46 => k_is); (case k46 => k_is); (case a47 => k_is); (case l47 => k_is); (case c47 => k_is); (case k47 => k_is); (case a48 => k_is); (case l48 => k_is); (case c48 => k_is); (case k48 => k_is); (case a49 => k_is); (case i49 => k_is); (case l49 => k_is); (case c49 => k_is); (case k49 => k_is); (case a50 => k_is); (case i50 => k_is); (case l50 => k_is); (case c50 => k_is); (case k50 => k_is); (case a51 => k_is); (case i51 => k_is); (case l51 => k_is); (case c51 => k_is); (case k51 => k_is); (case a52 => k_is); (case i52 => k_is); (case l52 => k_is); (case c52 => k_is); (case k52 => k_is); (case a53 => k_is); (case i53 => k_is); (case l53 => k_is); (case c53 => k_is); (case k53 => k_is); (case a54 => k_is); (case l54 => k_is); (case c54 => k_is); (case k54 => k_is); (case a55 => k_is); (case i55 => k_is); (case l55 => k_is); (case c55 => k_is); (case k55 => k_is); (case a56 => k_is); (case i56 => k_is); (case l56 => k_is); (case c56 => k_is); (case k56 => k_is); (case a57 => k_is); (case i57 => k_is); (case l57 => k_is); (case c57 => k_is); (case k57 => k_is); (case a58 => k_is); (case i58 => k_is); (case l58 => k_is); (case c58 => k_is); (case k58 => k_is); (case a59 => k_is); (case i59 => k_is); (case l59 => k_is); (case c59 => k_is); (case k59 => k_is); (case a60 => k_is); (case l60 => k_is); (case c60 => k_is); (case k60 => k_is); (case a61 => k_is); (case l61 => k_is); (case c61 => k_is); (case k61 => k_is); (case z0 => k_is); (case z1 => k_is); (case z2 => k_is); (case z3 => k_is); (case z4 => k_is); (case z5 => k_is); (case z6 => k_is); (case z7 => k_is); (case z8 => k_is); (case z9 => k_is); (case z10 => k_is); (case z11 => k_is); (case z12 => k_is); (case z13 => k_is); (case z14 => k_is); (case z15 => k_is); (case y0 => k_is); (case y1 => k_is); (case y2 => k_is); (case y3 => k_is); (case y4 => k_is); (case y5 => k_is); (case kg_SIZES => k_is); (case kw_SIZES => exact Dl.dicW_of (by k_is) rfl); (case kv0_SIZES => k_is); (case kv1_SIZES => k_is); (case kv2_SIZES => k_is); (case kv3_SIZES => k_is); (case kv4_SIZES => k_is); (case kv5_SIZES => k_is); (case kv6_SIZES => k_is)
