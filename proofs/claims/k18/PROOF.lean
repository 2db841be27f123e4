import PyProof.Rows.All
import Wide.All
import OpenK.AllK
import Wide.FinOn
import HandS.ForMost
import HandS.ForExc
import HandS.CallSlots
import HandS.Lambda
import HandS.EndTab
import HandS.TupAny
import HandS.TupMul
import HandS.TupLe
import HandS.Deep
import HandS.Wide
import HandS.Flow
import HandS.Style
import HandS.IsInst
import HandS.Defaults
import HandS.EndBits
import HandS.Comp
import HandS.Zip
import HandS.TryMany
import HandS.ExcField
import HandS.ExcIs
import HandS.ExcInit
import KE.KExcIs
import HandS.More
import HandS.SetFor
import HandS.TupSets
import KE.SortData
import KE.DataCmp
import KE.DataFind
import HandS.Text
import PyProof.InstNe
import HandS.Conv
import HandS.RaiseMore
import PyProof.FactsAll.set_2
import HandS.SetBool
import HandS.DictComp
import PyProof.DictRoadsH
import PyProof.DictMoreH
import KE.KDictCopyH
import HandS.Iter
import PySem.Challenge.RW_ringrules_k18_whole_named_rules_counted
set_option Elab.async false
set_option linter.all false
set_option maxRecDepth 100000
set_option maxHeartbeats 4000000
namespace B
open PySem PySem.Spec L2

/-! ## values without a heap -/
inductive Tag where
  | tup | lst | dct | scr | wtp | dcg | ins (c : Str) (fs : List Str)
  deriving DecidableEq
inductive D where
  | non | bl (b : Bool) | int (i : Int) | str (x : Str) | nd (t : Tag) (ds : List D)
abbrev D.tup (ds : List D) : D := .nd .tup ds
abbrev D.lst (ds : List D) : D := .nd .lst ds
abbrev D.dct (ds : List D) : D := .nd .dct ds
/-- a key of a dict as data -/
def keyD : Key → D
  | .inl i => .int i
  | .inr x => .str x
/-- the entries of a dict, as tuples -/
inductive KDs : List Key → List D → List D → Prop
  | nil : KDs [] [] []
  | cons {k : Key} {ks : List Key} {d : D} {ds es : List D} : KDs ks ds es → KDs (k :: ks) (d :: ds) (.tup [keyD k, d] :: es)
inductive TDs : List (List Key) → List D → List D → Prop
  | nil : TDs [] [] []
  | cons {k : List Key} {ks : List (List Key)} {d : D} {ds es : List D} : TDs ks ds es → TDs (k :: ks) (d :: ds) (.tup [.tup (k.map keyD), d] :: es)
/-- a tuple's hash -/
def hT (ks : List Int) : Int := reduceHash (Builtin.Tuple.tupleHashOf (ks.map hashInt))
/-- the dict at a whose keys are tuples of ints: each entry's key, where this stands, the value -/
def DicG0 (h : Heap) (a : Addr) (xs : List (List Int × Addr × V)) (ep : Nat) : Prop := xs.length ≤ sizeLine ∧ (a == sysModules) = false ∧ ∃ ys : List (List Int × Addr × Value), Paired (fun (p : List Int × Addr × V) (q : List Int × Addr × Value) => p.1 = q.1 ∧ p.2.1 = q.2.1 ∧ RelV p.2.2 q.2.2) xs ys ∧
  ∃ o es, h.get? a = some o ∧ o.ExactDict ∧ o.data = .dict es ep ∧ es.toList = ys.map (fun x => (⟨hT x.1, .ref x.2.1, x.2.2⟩ : DictEntry)) ∧ (ys.map (·.1)).Nodup
def DicG (a : Addr) (xs : List (List Int × Addr × V)) (ep : Nat) : HO := .ext fun h => DicG0 h a xs ep
theorem dicG_nc {a : Addr} {xs : List (List Int × Addr × V)} {ep : Nat} (c : Addr) (q : Str) : DicG a xs ep ≠ LamX.CodeO c q := fun e => by
  have e3 := congrFun (HO.ext.inj e) { objs := Array.replicate (c + 1) { cls := .none, data := .fields #[.none, .str q 0] } }
  have hc : (fun h : Heap => ∃ (oc : Obj) (vs : Array Value) (t : Tok), h.get? c = some oc ∧ oc.data = .fields vs ∧ vs[1]? = some (.str q t)) { objs := Array.replicate (c + 1) { cls := .none, data := .fields #[.none, .str q 0] } } := by
    refine ⟨{ cls := .none, data := .fields #[.none, .str q 0] }, _, 0, ?_, rfl, rfl⟩
    simp [Heap.get?]
  have hs : DicG0 { objs := Array.replicate (c + 1) { cls := .none, data := .fields #[.none, .str q 0] } } a xs ep := by
    rw [show DicG0 _ a xs ep = _ from e3]
    exact hc
  obtain ⟨_, _, ys, _, o, es, ho, _, hd, _⟩ := hs
  simp only [Heap.get?] at ho
  by_cases ha : a < c + 1
  · rw [Array.getElem?_replicate, if_pos ha] at ho
    cases ho
    cases hd
  · rw [Array.getElem?_replicate, if_neg ha] at ho
    cases ho
/-- such a dict's entries as data -/
inductive GDs : List (List Int) → List D → List D → Prop
  | nil : GDs [] [] []
  | cons {k : List Int} {ks : List (List Int)} {d : D} {ds es : List D} : GDs ks ds es → GDs (k :: ks) (d :: ds) (.nd .tup [.nd .tup (k.map D.int), d] :: es)
mutual
/-- v stands for d, in the heap F -/
inductive DR (K : PySem.W.Frag) (mg : Str → Option Value) (F : Hp) : V → D → Prop
  | non : DR K mg F .non .non
  | bl (b : Bool) : DR K mg F (.bl b) (.bl b)
  | int (i : Int) : DR K mg F (.int i) (.int i)
  | str (x : Str) : DR K mg F (.str x) (.str x)
  | tup {a : Addr} {vs : List V} {ds : List D} : F a = some (.tup vs) → DRs K mg F vs ds → DR K mg F (.ref a) (.nd .tup ds)
  | wtp {a : Addr} {vs : List V} {ds : List D} : SqT K F a vs → DRs K mg F vs ds → DR K mg F (.ref a) (.nd .wtp ds)
  | lst {a : Addr} {vs : List V} {ds : List D} : F a = some (.lst vs) → DRs K mg F vs ds → DR K mg F (.ref a) (.nd .lst ds)
  | scr {a : Addr} {vs : List V} {ds : List D} : SqL K F a vs → DRs K mg F vs ds → DR K mg F (.ref a) (.nd .scr ds)
  | dK {a : Addr} {kvs : List (Key × V)} {ds es : List D} : F a = some (.dK kvs) → DRs K mg F (kvs.map (·.2)) ds → KDs (kvs.map (·.1)) ds es → DR K mg F (.ref a) (.nd .dct es)
  | dT {a : Addr} {kvs : List (List Key × V)} {ds es : List D} : F a = some (.dT kvs) → DRs K mg F (kvs.map (·.2)) ds → TDs (kvs.map (·.1)) ds es → DR K mg F (.ref a) (.nd .dct es)
  | dg {a : Addr} {xs : List (List Int × Addr × V)} {ep : Nat} {ds es : List D} : F a = some (DicG a xs ep) → (∀ x ∈ xs, F x.2.1 = some (.tup (x.1.map V.int))) → DRs K mg F (xs.map (·.2.2)) ds → GDs (xs.map (·.1)) ds es → DR K mg F (.ref a) (.nd .dcg es)
  | ins {a C dx : Addr} {c : Str} {fs : List (Str × V)} {ds : List D} : F a = some (.ins C dx fs) → mg c = some (.ref C) → DRs K mg F (fs.map (·.2)) ds → DR K mg F (.ref a) (.nd (.ins c (fs.map (·.1))) ds)
inductive DRs (K : PySem.W.Frag) (mg : Str → Option Value) (F : Hp) : List V → List D → Prop
  | nil : DRs K mg F [] []
  | cons {v : V} {vs : List V} {d : D} {ds : List D} : DR K mg F v d → DRs K mg F vs ds → DRs K mg F (v :: vs) (d :: ds)
end
section
variable {K : PySem.W.Frag} {mg : Str → Option Value} {F F' H : Hp}
theorem Same.rd {a : Addr} {u : HO} (e : Same F F') (h : Rd F a u) : Rd F' a u := by
  rcases h with h | ⟨o, h⟩
  · exact .inl (e _ _ h)
  · exact .inr ⟨o, e _ _ h⟩
theorem Same.sqT {a : Addr} {vs : List V} (e : Same F F') (h : SqT K F a vs) : SqT K F' a vs := by
  rcases h with h | h
  · exact .inl (Same.rd e h)
  · exact .inr h
theorem Same.tp {a : Addr} {vs : List V} (e : Same F F') (h : F a = some (.tup vs)) : SqT K F' a vs := .inl (.inl (e _ _ h))
theorem Same.sqL {a : Addr} {vs : List V} (e : Same F F') (h : SqL K F a vs) : SqL K F' a vs := by
  rcases h with h | h
  · exact .inl (Same.rd e h)
  · exact .inr h
mutual
theorem DR.mono (e : Same F F') : ∀ {v : V} {d : D}, DR K mg F v d → DR K mg F' v d
  | _, _, .non => .non
  | _, _, .bl b => .bl b
  | _, _, .int i => .int i
  | _, _, .str x => .str x
  | _, _, .tup h r => .tup (e _ _ h) (DRs.mono e r)
  | _, _, .wtp h r => .wtp (Same.sqT e h) (DRs.mono e r)
  | _, _, .lst h r => .lst (e _ _ h) (DRs.mono e r)
  | _, _, .scr h r => .scr (Same.sqL e h) (DRs.mono e r)
  | _, _, .dK h r q => .dK (e _ _ h) (DRs.mono e r) q
  | _, _, .dT h r q => .dT (e _ _ h) (DRs.mono e r) q
  | _, _, .dg h k r q => .dg (e _ _ h) (fun x hx => e _ _ (k x hx)) (DRs.mono e r) q
  | _, _, .ins h g r => .ins (e _ _ h) g (DRs.mono e r)
theorem DRs.mono (e : Same F F') : ∀ {vs : List V} {ds : List D}, DRs K mg F vs ds → DRs K mg F' vs ds
  | _, _, .nil => .nil
  | _, _, .cons a b => .cons (DR.mono e a) (DRs.mono e b)
end
theorem DRs.length : ∀ {vs : List V} {ds : List D}, DRs K mg F vs ds → vs.length = ds.length
  | _, _, .nil => rfl
  | _, _, .cons _ b => by rw [List.length_cons, List.length_cons, DRs.length b]
theorem DRs.get : ∀ {vs : List V} {ds : List D} {i : Nat} {v : V}, DRs K mg F vs ds → vs[i]? = some v → ∃ d, ds[i]? = some d ∧ DR K mg F v d
  | _, _, _, _, .nil, h => by simp at h
  | _, _, 0, _, .cons a _, h => by
    have e := Option.some.inj h
    subst e
    exact ⟨_, rfl, a⟩
  | _, _, i + 1, v, .cons _ b, h => DRs.get (i := i) b h
theorem DRs.getD : ∀ {vs : List V} {ds : List D} {i : Nat} {d : D}, DRs K mg F vs ds → ds[i]? = some d → ∃ v, vs[i]? = some v ∧ DR K mg F v d
  | _, _, _, _, .nil, h => by simp at h
  | _, _, 0, _, .cons a _, h => by
    have e := Option.some.inj h
    subst e
    exact ⟨_, rfl, a⟩
  | _, _, i + 1, d, .cons _ b, h => DRs.getD (i := i) b h
theorem DRs.append : ∀ {vs ws : List V} {ds es : List D}, DRs K mg F vs ds → DRs K mg F ws es → DRs K mg F (vs ++ ws) (ds ++ es)
  | _, _, _, _, .nil, s => s
  | _, _, _, _, .cons a b, s => .cons a (DRs.append b s)
theorem DRs.take : ∀ {vs : List V} {ds : List D} (n : Nat), DRs K mg F vs ds → DRs K mg F (vs.take n) (ds.take n)
  | _, _, 0, _ => .nil
  | _, _, _ + 1, .nil => .nil
  | _, _, n + 1, .cons a b => .cons a (DRs.take n b)
theorem DRs.drop : ∀ {vs : List V} {ds : List D} (n : Nat), DRs K mg F vs ds → DRs K mg F (vs.drop n) (ds.drop n)
  | _, _, 0, h => h
  | _, _, _ + 1, .nil => .nil
  | _, _, n + 1, .cons _ b => DRs.drop n b
theorem DRs.set {v : V} {d : D} (h : DR K mg F v d) : ∀ {vs : List V} {ds : List D} (i : Nat), DRs K mg F vs ds → DRs K mg F (vs.set i v) (ds.set i d)
  | _, _, _, .nil => .nil
  | _, _, 0, .cons _ b => .cons h b
  | _, _, i + 1, .cons a b => .cons a (DRs.set h i b)
theorem DRs.reverse {vs : List V} {ds : List D} (h : DRs K mg F vs ds) : DRs K mg F vs.reverse ds.reverse := by
  have key : ∀ {vs : List V} {ds : List D} {ws : List V} {es : List D}, DRs K mg F vs ds → DRs K mg F ws es → DRs K mg F (vs.reverse ++ ws) (ds.reverse ++ es) := by
    intro vs
    induction vs with
    | nil =>
      intro ds ws es h1 h2
      cases h1
      exact h2
    | cons v vs ih =>
      intro ds ws es h1 h2
      cases h1 with
      | cons a b =>
        rw [List.reverse_cons, List.reverse_cons, List.append_assoc, List.append_assoc]
        exact ih b (.cons a h2)
  have := key h (.nil (K := K) (mg := mg) (F := F))
  rwa [List.append_nil, List.append_nil] at this
theorem DRs.ints : ∀ (ns : List Int), DRs K mg F (ns.map V.int) (ns.map D.int)
  | [] => .nil
  | n :: ns => .cons (.int n) (DRs.ints ns)
theorem DRs.int_of : ∀ {vs : List V} {ns : List Int}, DRs K mg F vs (ns.map D.int) → vs = ns.map V.int
  | _, [], .nil => rfl
  | _, n :: ns, .cons a b => by
    cases a
    rw [List.map_cons, DRs.int_of b]
theorem DRs.bl_of : ∀ {vs : List V} {bs : List Bool}, DRs K mg F vs (bs.map D.bl) → vs = bs.map V.bl
  | _, [], .nil => rfl
  | _, n :: ns, .cons a b => by
    cases a
    rw [List.map_cons, DRs.bl_of b]
theorem DRs.str_of : ∀ {vs : List V} {bs : List Str}, DRs K mg F vs (bs.map D.str) → vs = bs.map V.str
  | _, [], .nil => rfl
  | _, n :: ns, .cons a b => by
    cases a
    rw [List.map_cons, DRs.str_of b]
end
/-! ## data that no object that can change belongs to -/
mutual
def imm : D → Bool
  | .nd .tup ds => imms ds
  | .nd .wtp ds => imms ds
  | .nd _ _ => false
  | _ => true
def imms : List D → Bool
  | [] => true
  | d :: ds => imm d && imms ds
end
/-- tuples (and what is written, locked) stand in F' -/
def Tups (F F' : Hp) : Prop := ∀ a xs, F a = some (.tup xs) → F' a = some (.tup xs)
def Frzs (F F' : Hp) : Prop := ∀ a o u, F a = some (.frz o u) → F' a = some (.frz o u)
mutual
theorem DR.imm {K : PySem.W.Frag} {mg : Str → Option Value} {F F' : Hp} (t : Tups F F') (z : Frzs F F') : ∀ {v : V} {d : D}, DR K mg F v d → imm d = true → DR K mg F' v d
  | _, _, .non, _ => .non
  | _, _, .bl b, _ => .bl b
  | _, _, .int i, _ => .int i
  | _, _, .str x, _ => .str x
  | _, _, .tup h r, e => .tup (t _ _ h) (DRs.imm t z r (by simpa [B.imm] using e))
  | _, _, .wtp h r, e => by
    refine .wtp ?_ (DRs.imm t z r (by simpa [B.imm] using e))
    rcases h with (h | ⟨o, h⟩) | h
    · exact .inl (.inl (t _ _ h))
    · exact .inl (.inr ⟨o, z _ _ _ h⟩)
    · exact .inr h
  | _, _, .lst h r, e => by simp [B.imm] at e
  | _, _, .scr h r, e => by simp [B.imm] at e
  | _, _, .dK h r q, e => by simp [B.imm] at e
  | _, _, .dT h r q, e => by simp [B.imm] at e
  | _, _, .dg h k r q, e => by simp [B.imm] at e
  | _, _, .ins h g r, e => by simp [B.imm] at e
theorem DRs.imm {K : PySem.W.Frag} {mg : Str → Option Value} {F F' : Hp} (t : Tups F F') (z : Frzs F F') : ∀ {vs : List V} {ds : List D}, DRs K mg F vs ds → imms ds = true → DRs K mg F' vs ds
  | _, _, .nil, _ => .nil
  | _, _, .cons a b, e => by
    simp only [B.imms, Bool.and_eq_true] at e
    exact .cons (DR.imm t z a e.1) (DRs.imm t z b e.2)
end

/-! ## slots, states, runs -/
/-- an exception: its class's name, its fields -/
structure Exn where
  cls : Str
  fs : List (Str × D)
/-- a caught exception: where, of which class, where its dict is, its data -/
structure Ez where
  a : Addr
  cls : Value
  dd : Option Addr
  x : Exn
  /-- of a lambda: what its maker's names hold, as data; objects that stay -/
  vs : List V
  ds : List D
  cs : List (Addr × HO)
abbrev ez (a : Addr) (cls : Value) (dd : Option Addr) (x : Exn) : Ez := ⟨a, cls, dd, x, [], [], []⟩
/-- what a name holds: nothing; data that stays as it is; a caught exception; an object of one's own (io: the caller's, handed in to be changed) -/
inductive Sl where
  | un | fz (d : D) | ex (z : Ez) | own (io : Option Nat) (d : D) | gh (ts : List (Addr × Str))
abbrev Env := List Sl
inductive R (α : Type) where
  | stuck | ok (a : α) (β : Env) | exc (x : Exn) (β : Env)
abbrev M (α : Type) := Env → R α
def R.bnd {α γ : Type} (r : R α) (f : α → Env → R γ) : R γ := match r with
  | .stuck => .stuck
  | .ok a β => f a β
  | .exc x β => .exc x β
def ret {α : Type} (a : α) : M α := fun β => .ok a β
def bnd {α γ : Type} (m : M α) (f : α → M γ) : M γ := fun β => (m β).bnd f
def stk {α : Type} : M α := fun _ => .stuck
def liftO {α : Type} (o : Option α) : M α := match o with
  | none => stk
  | some a => ret a
theorem R.bnd_assoc {α γ δ : Type} (r : R α) (f : α → Env → R γ) (g : γ → Env → R δ) : (r.bnd f).bnd g = r.bnd fun a β => (f a β).bnd g := by cases r <;> rfl
theorem bnd_assoc {α γ δ : Type} (m : M α) (f : α → M γ) (g : γ → M δ) : bnd (bnd m f) g = bnd m fun a => bnd (f a) g := by
  funext β
  exact R.bnd_assoc _ _ _
/-- what an expression hands back: data that stays; a new object that nobody else holds -/
inductive Rs where
  | fz (d : D) | own (d : D)
def Rs.d : Rs → D
  | .fz d => d
  | .own d => d
/-- a value that is read at once: data, or what stands in a slot -/
inductive Pl where
  | d (d : D) | sl (i : Nat)
def look (β : Env) : Pl → Option D
  | .d d => some d
  | .sl i => match β[i]? with
    | some (.fz d) => some d
    | some (.own _ d) => some d
    | _ => none
inductive Fl where
  | nx | ret (r : Rs) | brk | ct

/-! ## the invariant -/
/-- an object of one's own at a: its content, of data that stays -/
inductive OwnR (K : PySem.W.Frag) (mg : Str → Option Value) (F H : Hp) (a : Addr) : D → Prop
  | lst {vs : List V} {ds : List D} : H a = some (.lst vs) → DRs K mg F vs ds → OwnR K mg F H a (.nd .lst ds)
  | dK {kvs : List (Key × V)} {ds es : List D} : H a = some (.dK kvs) → DRs K mg F (kvs.map (·.2)) ds → KDs (kvs.map (·.1)) ds es → OwnR K mg F H a (.nd .dct es)
  | dT {kvs : List (List Key × V)} {ds es : List D} : H a = some (.dT kvs) → DRs K mg F (kvs.map (·.2)) ds → TDs (kvs.map (·.1)) ds es → OwnR K mg F H a (.nd .dct es)
  | dg {xs : List (List Int × Addr × V)} {ep : Nat} {ds es : List D} : H a = some (DicG a xs ep) → (∀ x ∈ xs, F x.2.1 = some (.tup (x.1.map V.int))) → DRs K mg F (xs.map (·.2.2)) ds → GDs (xs.map (·.1)) ds es → OwnR K mg F H a (.nd .dcg es)
  | ins {C dx : Addr} {c : Str} {fs : List (Str × V)} {ds : List D} : H a = some (.ins C dx fs) → mg c = some (.ref C) → DRs K mg F (fs.map (·.2)) ds → OwnR K mg F H a (.nd (.ins c (fs.map (·.1))) ds)
section
variable {K : PySem.W.Frag} {mg : Str → Option Value} {G : GT} {F F' H H' : Hp} {io : List Addr} {β : Env} {σ : L2.St} {a : Addr} {d : D}
theorem OwnR.there (h : OwnR K mg F H a d) : ∃ o, H a = some o ∧ (∀ xs, o ≠ .tup xs) ∧ ∀ ob u, o ≠ .frz ob u := by
  cases h with
  | lst h _ => exact ⟨_, h, fun _ => nofun, fun _ _ => nofun⟩
  | dK h _ _ => exact ⟨_, h, fun _ => nofun, fun _ _ => nofun⟩
  | dT h _ _ => exact ⟨_, h, fun _ => nofun, fun _ _ => nofun⟩
  | dg h _ _ _ => exact ⟨_, h, fun _ => nofun, fun _ _ => nofun⟩
  | ins h _ _ => exact ⟨_, h, fun _ => nofun, fun _ _ => nofun⟩
theorem OwnR.nc (h : OwnR K mg F H a d) : ∀ c q, H a ≠ some (LamX.CodeO c q) := fun c q z => by
  cases h with
  | lst h _ => unfold LamX.CodeO at z; rw [h] at z; cases z
  | dK h _ _ => unfold LamX.CodeO at z; rw [h] at z; cases z
  | dT h _ _ => unfold LamX.CodeO at z; rw [h] at z; cases z
  | dg h _ _ _ => exact dicG_nc c q (Option.some.inj (h.symm.trans z))
  | ins h _ _ => unfold LamX.CodeO at z; rw [h] at z; cases z
theorem OwnR.mono (h : OwnR K mg F H a d) (e : Same F F') (eh : H' a = H a) : OwnR K mg F' H' a d := by
  cases h with
  | lst h r => exact .lst (eh.trans h) (r.mono e)
  | dK h r q => exact .dK (eh.trans h) (r.mono e) q
  | dT h r q => exact .dT (eh.trans h) (r.mono e) q
  | dg h k r q => exact .dg (eh.trans h) (fun x hx => e _ _ (k x hx)) (r.mono e) q
  | ins h g r => exact .ins (eh.trans h) g (r.mono e)
/-- as data, where a stands -/
theorem OwnR.dr (h : OwnR K mg F H a d) (e : Same F F') (ea : F' a = H a) : DR K mg F' (.ref a) d := by
  cases h with
  | lst h r => exact .lst (ea.trans h) (r.mono e)
  | dK h r q => exact .dK (ea.trans h) (r.mono e) q
  | dT h r q => exact .dT (ea.trans h) (r.mono e) q
  | dg h k r q => exact .dg (ea.trans h) (fun x hx => e _ _ (k x hx)) (r.mono e) q
  | ins h g r => exact .ins (ea.trans h) g (r.mono e)
end
/-- an exception that flies: its class, its own dict -/
def XR (K : PySem.W.Frag) (mg : Str → Option Value) (F : Hp) (cls : Value) (d : Option Addr) (x : Exn) : Prop :=
  (mg x.cls = some cls) ∧ ((x.fs = [] ∧ d = none) ∨ ∃ dd fs ds, d = some dd ∧ F dd = some (.xd fs) ∧ fs.map (·.1) = x.fs.map (·.1) ∧ DRs K mg F (fs.map (·.2)) ds ∧ ds = x.fs.map (·.2))
theorem XR.mono {K : PySem.W.Frag} {mg : Str → Option Value} {F F' : Hp} {cls : Value} {d : Option Addr} {x : Exn} (e : Same F F') (h : XR K mg F cls d x) : XR K mg F' cls d x := by
  obtain ⟨h1, h | ⟨dd, fs, ds, h2, h3, h4, h5, h6⟩⟩ := h
  · exact ⟨h1, .inl h⟩
  · exact ⟨h1, .inr ⟨dd, fs, ds, h2, e _ _ h3, h4, h5.mono e, h6⟩⟩
/-- what such a slot tells of the data -/
structure XZ (K : PySem.W.Frag) (mg : Str → Option Value) (F : Hp) (z : Ez) : Prop where
  r : XR K mg F z.cls z.dd z.x
  vs : DRs K mg F z.vs z.ds
  cs : ∀ p ∈ z.cs, F p.1 = some p.2
theorem XZ.mono {K : PySem.W.Frag} {mg : Str → Option Value} {F F' : Hp} {z : Ez} (h : XZ K mg F z) (e : Same F F') : XZ K mg F' z := ⟨h.r.mono e, h.vs.mono e, fun p hp => e _ _ (h.cs p hp)⟩
theorem XZ.ez {K : PySem.W.Frag} {mg : Str → Option Value} {F : Hp} {a : Addr} {cls : Value} {dd : Option Addr} {x : Exn} (h : XR K mg F cls dd x) : XZ K mg F (ez a cls dd x) := ⟨h, .nil, fun _ z => (nomatch z)⟩
/-- what stays: objects as they are; tables of code objects, by the name that these bear -/
structure GT where
  g : Hp
  t : Addr → Option Str
def GT.dom (G : GT) (a : Addr) : Option Unit := match G.t a with
  | some _ => some ()
  | none => (G.g a).map fun _ => ()
instance : CoeFun GT fun _ => Addr → Option Unit := ⟨GT.dom⟩
structure Keep (G : GT) (F H : Hp) : Prop where
  g : ∀ a o, G.g a = some o → H a = some o
  t : ∀ a q, G.t a = some q → F a = none ∧ LamX.TabS H a q
  dj : ∀ a o, G.g a = some o → G.t a = none
theorem tab_upd {H : Hp} {a P : Addr} {o : HO} {q : Str} (ts : LamX.TabS H P q) (hp : P ≠ a) (nc : ∀ c q, H a ≠ some (LamX.CodeO c q)) : LamX.TabS (L2.upd H a o) P q := by
  obtain ⟨ps, h1, h2, h3⟩ := ts
  refine ⟨ps, by rw [upd_ne hp]; exact h1, h2, fun pos cv hc => ?_⟩
  obtain ⟨c, e1, e2⟩ := h3 pos cv hc
  refine ⟨c, e1, ?_⟩
  rw [upd_ne fun z => nc c q (by rw [← z]; exact e2)]
  exact e2
section
variable {G : GT} {F F' H H' : Hp} {a : Addr} {o : HO}
theorem GT.none_iff : G a = none ↔ G.t a = none ∧ G.g a = none := by
  show GT.dom G a = none ↔ _
  unfold GT.dom
  cases G.t a with
  | some q => simp
  | none => cases G.g a <;> simp
theorem GT.tn (h : G a = none) : G.t a = none := (GT.none_iff.mp h).1
theorem GT.gn (h : G a = none) : G.g a = none := (GT.none_iff.mp h).2
theorem Keep.free (k : Keep G F H) (h : H a = none) : G a = none := by
  refine GT.none_iff.mpr ⟨?_, ?_⟩
  · cases e : G.t a with
    | none => rfl
    | some q =>
      obtain ⟨_, ps, q, _⟩ := k.t a q e
      rw [h] at q
      cases q
  · cases e : G.g a with
    | none => rfl
    | some o =>
      have q := k.g a o e
      rw [h] at q
      cases q
theorem Keep.mono (k : Keep G F H) (sh : Same H H') (f : ∀ a, H a ≠ none → F a = none → F' a = none) : Keep G F' H' := by
  refine ⟨fun a o h => sh _ _ (k.g a o h), fun a q h => ?_, k.dj⟩
  obtain ⟨fa, ts⟩ := k.t a q h
  refine ⟨f a (fun z => ?_) fa, ts.ext fun b o h => sh b o h⟩
  obtain ⟨ps, h1, _⟩ := ts
  rw [z] at h1
  cases h1
theorem Keep.upd (k : Keep G F H) (g : G a = none) (nc : ∀ c q, H a ≠ some (LamX.CodeO c q)) : Keep G F (L2.upd H a o) := by
  refine ⟨fun b u h => ?_, fun b q h => ?_, k.dj⟩
  · rw [upd_ne (ne_of_none h (GT.gn g))]
    exact k.g b u h
  · obtain ⟨fa, ts⟩ := k.t b q h
    exact ⟨fa, tab_upd ts (fun z => by rw [z, GT.tn g] at h; cases h) nc⟩
theorem Keep.setF (k : Keep G F H) (g : G a = none) : Keep G (L2.upd F a o) H := by
  refine ⟨k.g, fun b q h => ?_, k.dj⟩
  obtain ⟨fa, ts⟩ := k.t b q h
  exact ⟨by rw [upd_ne fun z => by rw [z, GT.tn g] at h; cases h]; exact fa, ts⟩
def GT.upd (G : GT) (D : Addr) (o : HO) : GT := ⟨L2.upd G.g D o, G.t⟩
theorem GT.upd_ne {D : Addr} (h : a ≠ D) : G.upd D o a = G a := by
  show GT.dom _ _ = GT.dom _ _
  unfold GT.dom GT.upd
  simp only [L2.upd_ne h]
theorem GT.upd_self {D : Addr} (h : G D = none) : G.upd D o D ≠ none := fun z => by
  have := GT.gn z
  unfold GT.upd at this
  simp only [upd_same] at this
  cases this
theorem GT.upd_upd {D : Addr} {o' : HO} : (G.upd D o).upd D o' = G.upd D o' := by
  unfold GT.upd
  simp only [L2.upd_upd]
theorem Keep.guard (k : Keep G F H) {D : Addr} (t : G.t D = none) (nc : ∀ c q, H D ≠ some (LamX.CodeO c q)) : Keep (G.upd D o) F (L2.upd H D o) := by
  refine ⟨fun b u h => ?_, fun b q h => ?_, fun b u h => ?_⟩
  · unfold GT.upd at h
    by_cases hb : b = D
    · subst hb
      simp only [upd_same] at h ⊢
      exact h
    · simp only [L2.upd_ne hb] at h ⊢
      exact k.g b u h
  · obtain ⟨fa, ts⟩ := k.t b q h
    exact ⟨fa, tab_upd ts (fun z => by rw [z, show (G.upd D o).t D = G.t D from rfl, t] at h; cases h) nc⟩
  · by_cases hb : b = D
    · rw [hb]
      exact t
    · unfold GT.upd at h
      simp only [L2.upd_ne hb] at h
      exact k.dj b u h
theorem Keep.unguard {D : Addr} (k : Keep (G.upd D o) F H) (g : G D = none) : Keep G F H := by
  refine ⟨fun b u h => k.g b u ?_, k.t, fun b u h => k.dj b u ?_⟩ <;>
    (unfold GT.upd; simp only [L2.upd_ne (ne_of_none h (GT.gn g))]; exact h)
theorem nc_none (h : H a = none) : ∀ c q, H a ≠ some (LamX.CodeO c q) := fun c q z => by rw [h] at z; cases z
theorem nc_lst {vs : List V} (h : H a = some (.lst vs)) : ∀ c q, H a ≠ some (LamX.CodeO c q) := fun c q z => by
  rw [h] at z
  unfold LamX.CodeO at z
  cases z
end
/-- what a slot's reference stands for -/
def SlR (K : PySem.W.Frag) (mg : Str → Option Value) (G : GT) (F : Hp) (io : List Addr) (H : Hp) (o : Option V) : Sl → Prop
  | .un => True
  | .fz d => ∃ v, o = some v ∧ DR K mg F v d
  | .ex z => o = some (.ref z.a) ∧ XZ K mg F z
  | .gh ts => ∀ p ∈ ts, G.t p.1 = some p.2
  | .own b d => ∃ a, o = some (.ref a) ∧ F a = none ∧ G a = none ∧ (b = none → a ∉ io) ∧ (∀ k, b = some k → io[k]? = some a) ∧ OwnR K mg F H a d
def isOwn : Sl → Bool
  | .own _ _ => true
  | _ => false
/-- G: what else must stay as it is; F: the data that stays; io: the addresses of what was handed in to be changed -/
structure BI (K : PySem.W.Frag) (mg : Str → Option Value) (G : GT) (F : Hp) (io : List Addr) (β : Env) (σ : L2.St) (H : Hp) : Prop where
  sg : Keep G F H
  sf : Same F H
  ioF : ∀ a ∈ io, F a = none
  ioH : ∀ a ∈ io, ∃ o, H a = some o
  len : β.length = σ.length
  sl : ∀ (i : Nat) (s : Sl), β[i]? = some s → ∃ o, σ[i]? = some o ∧ SlR K mg G F io H o s
  apart : ∀ (i j : Nat) (s t : Sl) (a : Addr), β[i]? = some s → β[j]? = some t → isOwn s = true → isOwn t = true → σ[i]? = some (some (V.ref a)) → σ[j]? = some (some (V.ref a)) → i = j
/-- F grows by what is new -/
structure FE (G : GT) (io : List Addr) (F F' : Hp) : Prop where
  same : Same F F'
  new : ∀ a o, F' a = some o → F a = some o ∨ (G a = none ∧ a ∉ io)
theorem FE.refl {G : GT} {io : List Addr} {F : Hp} : FE G io F F := ⟨Same.refl _, fun _ _ h => .inl h⟩
theorem FE.trans {G : GT} {io : List Addr} {F F1 F2 : Hp} (a : FE G io F F1) (b : FE G io F1 F2) : FE G io F F2 :=
  ⟨a.same.trans b.same, fun x o h => (b.new x o h).elim (fun h => a.new x o h) .inr⟩
/-- what a value stands for, that an expression hands back -/
def RR (K : PySem.W.Frag) (mg : Str → Option Value) (G : GT) (F : Hp) (io : List Addr) (H : Hp) (β : Env) (σ : L2.St) (v : V) : Rs → Prop
  | .fz d => DR K mg F v d
  | .own d => ∃ a, v = .ref a ∧ F a = none ∧ G a = none ∧ a ∉ io ∧ OwnR K mg F H a d ∧ ∀ (i : Nat) (s : Sl), β[i]? = some s → isOwn s = true → σ[i]? ≠ some (some (V.ref a))
/-- a place -/
def PR (K : PySem.W.Frag) (mg : Str → Option Value) (F : Hp) (σ : L2.St) (v : V) : Pl → Prop
  | .d d => DR K mg F v d
  | .sl i => σ[i]? = some (some v)
/-- read now: the outermost object in H, what belongs to it in F -/
inductive HR (K : PySem.W.Frag) (mg : Str → Option Value) (F H : Hp) : V → D → Prop
  | non : HR K mg F H .non .non
  | bl (b : Bool) : HR K mg F H (.bl b) (.bl b)
  | int (i : Int) : HR K mg F H (.int i) (.int i)
  | str (x : Str) : HR K mg F H (.str x) (.str x)
  | tup {a : Addr} {vs : List V} {ds : List D} : F a = some (.tup vs) → DRs K mg F vs ds → HR K mg F H (.ref a) (.nd .tup ds)
  | wtp {a : Addr} {vs : List V} {ds : List D} : SqT K F a vs → DRs K mg F vs ds → HR K mg F H (.ref a) (.nd .wtp ds)
  | lst {a : Addr} {vs : List V} {ds : List D} : H a = some (.lst vs) → DRs K mg F vs ds → HR K mg F H (.ref a) (.nd .lst ds)
  | scr {a : Addr} {vs : List V} {ds : List D} : SqL K H a vs → DRs K mg F vs ds → HR K mg F H (.ref a) (.nd .scr ds)
  | dK {a : Addr} {kvs : List (Key × V)} {ds es : List D} : H a = some (.dK kvs) → DRs K mg F (kvs.map (·.2)) ds → KDs (kvs.map (·.1)) ds es → HR K mg F H (.ref a) (.nd .dct es)
  | dT {a : Addr} {kvs : List (List Key × V)} {ds es : List D} : H a = some (.dT kvs) → DRs K mg F (kvs.map (·.2)) ds → TDs (kvs.map (·.1)) ds es → HR K mg F H (.ref a) (.nd .dct es)
  | dg {a : Addr} {xs : List (List Int × Addr × V)} {ep : Nat} {ds es : List D} : H a = some (DicG a xs ep) → (∀ x ∈ xs, F x.2.1 = some (.tup (x.1.map V.int))) → DRs K mg F (xs.map (·.2.2)) ds → GDs (xs.map (·.1)) ds es → HR K mg F H (.ref a) (.nd .dcg es)
  | ins {a C dx : Addr} {c : Str} {fs : List (Str × V)} {ds : List D} : H a = some (.ins C dx fs) → mg c = some (.ref C) → DRs K mg F (fs.map (·.2)) ds → HR K mg F H (.ref a) (.nd (.ins c (fs.map (·.1))) ds)
section
variable {K : PySem.W.Frag} {mg : Str → Option Value} {F H : Hp} {v : V} {d : D}
theorem DR.hr (h : DR K mg F v d) (e : Same F H) : HR K mg F H v d := by
  cases h with
  | non => exact .non
  | bl b => exact .bl b
  | int i => exact .int i
  | str x => exact .str x
  | tup h r => exact .tup h r
  | wtp h r => exact .wtp h r
  | lst h r => exact .lst (e _ _ h) r
  | scr h r => exact .scr (Same.sqL e h) r
  | dK h r q => exact .dK (e _ _ h) r q
  | dT h r q => exact .dT (e _ _ h) r q
  | dg h k r q => exact .dg (e _ _ h) k r q
  | ins h g r => exact .ins (e _ _ h) g r
theorem OwnR.hr {a : Addr} (h : OwnR K mg F H a d) : HR K mg F H (.ref a) d := by
  cases h with
  | lst h r => exact .lst h r
  | dK h r q => exact .dK h r q
  | dT h r q => exact .dT h r q
  | dg h k r q => exact .dg h k r q
  | ins h g r => exact .ins h g r
theorem HR.dr (h : HR K mg F H v d) (e : Same F H) : DR K mg H v d := by
  cases h with
  | non => exact .non
  | bl b => exact .bl b
  | int i => exact .int i
  | str x => exact .str x
  | tup h r => exact .tup (e _ _ h) (r.mono e)
  | wtp h r => exact .wtp (Same.sqT e h) (r.mono e)
  | lst h r => exact .lst h (r.mono e)
  | scr h r => exact .scr h (r.mono e)
  | dK h r q => exact .dK h (r.mono e) q
  | dT h r q => exact .dT h (r.mono e) q
  | dg h k r q => exact .dg h (fun x hx => e _ _ (k x hx)) (r.mono e) q
  | ins h g r => exact .ins h g (r.mono e)
end
/-- a run's value, told of the heap alone: all stays; data, new or of F; or a new object of one's own -/
def NR (K : PySem.W.Frag) (mg : Str → Option Value) (F H : Hp) (r : Rs) (z : V) (H' : Hp) : Prop := Same H H' ∧ match r with
  | .fz d => ∃ F', Same F F' ∧ (∀ a o, F' a = some o → F a = some o ∨ H a = none) ∧ Same F' H' ∧ DR K mg F' z d
  | .own d => ∃ a, z = .ref a ∧ H a = none ∧ OwnR K mg F H' a d
section
variable {K : PySem.W.Frag} {mg : Str → Option Value} {G : GT} {F F' H H' : Hp} {io : List Addr} {β β' : Env} {σ : L2.St} {a : Addr} {d : D} {v : V} {i : Nat}
theorem PR.mono {p : Pl} (h : PR K mg F σ v p) (e : Same F F') : PR K mg F' σ v p := by
  cases p with
  | d d => exact DR.mono e h
  | sl i => exact h
/-- a place read now -/
theorem BI.look (I : BI K mg G F io β σ H) {p : Pl} (h : PR K mg F σ v p) (l : look β p = some d) : HR K mg F H v d := by
  cases p with
  | d e =>
    cases l
    exact DR.hr h I.sf
  | sl i =>
    simp only [B.look] at l
    cases e : β[i]? with
    | none => rw [e] at l; cases l
    | some s =>
      rw [e] at l
      obtain ⟨o, eo, hs⟩ := I.sl i s e
      have ev : o = some v := Option.some.inj (eo.symm.trans h)
      subst ev
      cases s with
      | ex z0 => cases l
      | gh _ => cases l
      | un => cases l
      | fz e =>
        cases l
        obtain ⟨w, ew, r⟩ := hs
        cases ew
        exact r.hr I.sf
      | own b e =>
        cases l
        obtain ⟨a, ew, f, g, _, _, r⟩ := hs
        cases ew
        exact r.hr
/-- all stays, F grows by what is new -/
theorem BI.grow (I : BI K mg G F io β σ H) (sh : Same H H') (sf : Same F F') (nw : ∀ a o, F' a = some o → F a = some o ∨ H a = none) (sfh : Same F' H') : FE G io F F' ∧ BI K mg G F' io β σ H' := by
  refine ⟨⟨sf, fun a o h => ?_⟩, ⟨I.sg.mono sh fun a h f => ?_, sfh, fun a ha => ?_, fun a ha => ?_, I.len, fun i s e => ?_, I.apart⟩⟩
  · rcases nw a o h with h | h
    · exact .inl h
    · refine .inr ⟨I.sg.free h, fun z => ?_⟩
      obtain ⟨u, hu⟩ := I.ioH a z
      rw [hu] at h
      cases h
  · cases q : F' a with
    | none => rfl
    | some o =>
      rcases nw a o q with z | z
      · rw [f] at z; cases z
      · exact absurd z h
  · cases q : F' a with
    | none => rfl
    | some o =>
      obtain ⟨u, hu⟩ := I.ioH a ha
      rcases nw a o q with h | h
      · rw [I.ioF a ha] at h
        cases h
      · rw [hu] at h
        cases h
  · obtain ⟨u, hu⟩ := I.ioH a ha
    exact ⟨u, sh _ _ hu⟩
  · obtain ⟨w, ew, hs⟩ := I.sl i s e
    refine ⟨w, ew, ?_⟩
    cases s with
    | ex z0 => exact ⟨hs.1, hs.2.mono sf⟩
    | gh _ => exact hs
    | un => trivial
    | fz e =>
      obtain ⟨v, q, r⟩ := hs
      exact ⟨v, q, r.mono sf⟩
    | own b e' =>
      obtain ⟨x, q, f', g', i1, i2, r⟩ := hs
      obtain ⟨u, hu, _⟩ := r.there
      refine ⟨x, q, ?_, g', i1, i2, r.mono sf (by rw [sh _ _ hu, hu])⟩
      cases z : F' x with
      | none => rfl
      | some o =>
        rcases nw x o z with h | h
        · rw [f'] at h
          cases h
        · rw [hu] at h
          cases h
theorem BI.step {r : Rs} (I : BI K mg G F io β σ H) (n : NR K mg F H r v H') : ∃ F', FE G io F F' ∧ BI K mg G F' io β σ H' ∧ RR K mg G F' io H' β σ v r := by
  obtain ⟨sh, n⟩ := n
  cases r with
  | fz d =>
    obtain ⟨F', sf, nw, sfh, r⟩ := n
    obtain ⟨fe, I'⟩ := I.grow sh sf nw sfh
    exact ⟨F', fe, I', r⟩
  | own d =>
    obtain ⟨a, rfl, ha, o⟩ := n
    obtain ⟨fe, I'⟩ := I.grow sh (Same.refl F) (fun _ _ h => .inl h) (I.sf.trans sh)
    refine ⟨F, fe, I', a, rfl, Same.free I.sf ha, I.sg.free ha, fun z => ?_, o, fun i s e q z => ?_⟩
    · obtain ⟨u, hu⟩ := I.ioH a z
      rw [hu] at ha
      cases ha
    · obtain ⟨w, ew, hs⟩ := I.sl i s e
      cases s with
      | ex z0 => cases q
      | gh _ => cases q
      | own b e' =>
        obtain ⟨x, q', _, _, _, _, r⟩ := hs
        obtain ⟨u, hu, _⟩ := r.there
        rw [z, q'] at ew
        have : a = x := by
          have := Option.some.inj (Option.some.inj ew)
          exact V.ref.inj this
        rw [this, hu] at ha
        cases ha
      | un => cases q
      | fz _ => cases q
/-- a value that was there -/
theorem NR.val (sf : Same F H) (h : DR K mg F v d) : NR K mg F H (.fz d) v H := ⟨Same.refl _, F, Same.refl _, fun _ _ h => .inl h, sf, h⟩
/-- a new list of one's own; a new tuple -/
theorem NR.lst {a : Addr} {vs : List V} {ds : List D} (ha : H a = none) (h : DRs K mg F vs ds) : NR K mg F H (.own (.nd .lst ds)) (.ref a) (upd H a (.lst vs)) :=
  ⟨fun b o e => by rw [upd_ne (ne_of_none e ha)]; exact e, a, rfl, ha, .lst upd_same h⟩
theorem NR.tup {a : Addr} {vs : List V} {ds : List D} (sf : Same F H) (ha : H a = none) (h : DRs K mg F vs ds) : NR K mg F H (.fz (.nd .tup ds)) (.ref a) (upd H a (.tup vs)) := by
  have fa := Same.free sf ha
  have sm : Same F (upd F a (.tup vs)) := fun b u h => by
    rw [upd_ne (ne_of_none h fa)]
    exact h
  refine ⟨fun b o e => by rw [upd_ne (ne_of_none e ha)]; exact e, upd F a (.tup vs), sm, fun b o h => ?_, fun b o h => ?_, .tup upd_same (h.mono sm)⟩
  · by_cases hb : b = a
    · subst hb
      exact .inr ha
    · rw [upd_ne hb] at h
      exact .inl h
  · by_cases hb : b = a
    · subst hb
      rw [upd_same] at h ⊢
      exact h
    · rw [upd_ne hb] at h ⊢
      exact sf b o h
/-- the new object is let stay -/
theorem BI.freeze (I : BI K mg G F io β σ H) (r : RR K mg G F io H β σ v (.own d)) : ∃ F', FE G io F F' ∧ BI K mg G F' io β σ H ∧ DR K mg F' v d := by
  obtain ⟨a, rfl, f, g, ni, o, ap⟩ := r
  obtain ⟨ho, ha, _⟩ := o.there
  have sm : Same F (upd F a ho) := fun b u h => by
    rw [upd_ne (ne_of_none h f)]
    exact h
  refine ⟨upd F a ho, ⟨sm, fun b u h => ?_⟩, ⟨I.sg.setF g, fun b u h => ?_, fun b hb => ?_, I.ioH, I.len, fun i s e => ?_, I.apart⟩, o.dr sm (by rw [upd_same, ha])⟩
  · by_cases hb : b = a
    · subst hb
      exact .inr ⟨g, ni⟩
    · rw [upd_ne hb] at h
      exact .inl h
  · by_cases hb : b = a
    · subst hb
      rw [upd_same] at h
      cases h
      exact ha
    · rw [upd_ne hb] at h
      exact I.sf b u h
  · rw [upd_ne (show b ≠ a from fun z => ni (by rw [← z]; exact hb))]
    exact I.ioF b hb
  · obtain ⟨w, ew, hs⟩ := I.sl i s e
    refine ⟨w, ew, ?_⟩
    cases s with
    | ex z0 => exact ⟨hs.1, hs.2.mono sm⟩
    | gh _ => exact hs
    | un => trivial
    | fz e =>
      obtain ⟨v, q, r⟩ := hs
      exact ⟨v, q, r.mono sm⟩
    | own b e' =>
      obtain ⟨x, q, f', g', i1, i2, r⟩ := hs
      refine ⟨x, q, ?_, g', i1, i2, r.mono sm rfl⟩
      rw [upd_ne fun z => ap i _ e rfl (by rw [ew, q, z])]
      exact f'
theorem BI.freezeR {r : Rs} (I : BI K mg G F io β σ H) (h : RR K mg G F io H β σ v r) : ∃ F', FE G io F F' ∧ BI K mg G F' io β σ H ∧ DR K mg F' v r.d := by
  cases r with
  | fz d => exact ⟨F, .refl, I, h⟩
  | own d => exact I.freeze h
end
end B

set_option Elab.async false
set_option linter.all false
set_option maxRecDepth 100000
set_option maxHeartbeats 4000000
namespace B
open PySem PySem.Spec L2

/-! ## judgements -/
/-- what must hold behind a run r that began at F: Rel: how what Lean's run gives stands to what the machine gives -/
def Post {α γ : Type} (K : PySem.W.Frag) (mg : Str → Option Value) (W : WX) (Rel : GT → Hp → List Addr → Hp → Env → L2.St → γ → α → Prop) (G : GT) (F : Hp) (io : List Addr) (σ : L2.St) (r : R α) (Q : γ → Hp → Prop) : Prop :=
  match r with
  | .stuck => False
  | .ok a β => ∀ v H' F', FE G io F F' → BI K mg G F' io β σ H' → Rel G F' io H' β σ v a → Q v H'
  | .exc x β => ∀ cls d H' F', FE G io F F' → BI K mg G F' io β σ H' → XR K mg F' cls d x → W cls d σ H'
def gOf {α γ : Type} (K : PySem.W.Frag) (mg : Str → Option Value) (W : WX) (Rel : GT → Hp → List Addr → Hp → Env → L2.St → γ → α → Prop) (m : M α) : L2.St → Hp → (γ → Hp → Prop) → Prop :=
  fun σ H Q => ∃ G io F β, BI K mg G F io β σ H ∧ Post K mg W Rel G F io σ (m β) Q
section
variable {α α' γ γ' : Type} {K : PySem.W.Frag} {mg : Str → Option Value} {W : WX} {Rel : GT → Hp → List Addr → Hp → Env → L2.St → γ → α → Prop} {Rel' : GT → Hp → List Addr → Hp → Env → L2.St → γ' → α' → Prop} {G : GT} {F F1 : Hp} {io : List Addr} {σ : L2.St}
theorem Post.bnd {r : R α} {f : α → Env → R α'} {Q : γ → Hp → Prop} {Q' : γ' → Hp → Prop} (h : Post K mg W Rel' G F io σ (r.bnd f) Q')
    (k : ∀ a β v H' F', FE G io F F' → BI K mg G F' io β σ H' → Rel G F' io H' β σ v a → Post K mg W Rel' G F io σ (f a β) Q' → Q v H') : Post K mg W Rel G F io σ r Q := by
  cases r with
  | stuck => exact h
  | ok a β => exact fun v H' F' fe I r => k a β v H' F' fe I r h
  | exc x β => exact h
theorem Post.mono {r : R α} {Q : γ → Hp → Prop} (h : Post K mg W Rel G F io σ r Q) (fe : FE G io F F1) : Post K mg W Rel G F1 io σ r Q := by
  cases r with
  | stuck => exact h
  | ok a β => exact fun v H' F' fe' => h v H' F' (fe.trans fe')
  | exc x β => exact fun c d H' F' fe' => h c d H' F' (fe.trans fe')
theorem Post.conv {r : R α} {f : α → α'} {Q : γ → Hp → Prop} {Q' : γ' → Hp → Prop} (h : Post K mg W Rel' G F io σ (r.bnd fun a β => .ok (f a) β) Q')
    (k : ∀ a β v H' F', FE G io F F' → BI K mg G F' io β σ H' → Rel G F' io H' β σ v a → (∀ v' H'' F'', FE G io F F'' → BI K mg G F'' io β σ H'' → Rel' G F'' io H'' β σ v' (f a) → Q' v' H'') → Q v H') : Post K mg W Rel G F io σ r Q := by
  cases r with
  | stuck => exact h
  | ok a β => exact fun v H' F' fe I r => k a β v H' F' fe I r h
  | exc x β => exact h
end
/-! how results stand -/
abbrev relE (K : PySem.W.Frag) (mg : Str → Option Value) : GT → Hp → List Addr → Hp → Env → L2.St → V → Rs → Prop := fun G F io H β σ v r => RR K mg G F io H β σ v r
abbrev relP (K : PySem.W.Frag) (mg : Str → Option Value) : GT → Hp → List Addr → Hp → Env → L2.St → V → Pl → Prop := fun _ F _ _ _ σ v p => PR K mg F σ v p
abbrev relB : GT → Hp → List Addr → Hp → Env → L2.St → Bool → Bool → Prop := fun _ _ _ _ _ _ v b => v = b
/-- places in a row -/
inductive PRs (K : PySem.W.Frag) (mg : Str → Option Value) (F : Hp) (σ : L2.St) : List V → List Pl → Prop
  | nil : PRs K mg F σ [] []
  | cons {v : V} {vs : List V} {p : Pl} {ps : List Pl} : PR K mg F σ v p → PRs K mg F σ vs ps → PRs K mg F σ (v :: vs) (p :: ps)
abbrev relA (K : PySem.W.Frag) (mg : Str → Option Value) : GT → Hp → List Addr → Hp → Env → L2.St → List V → List Pl → Prop := fun _ F _ _ _ σ v p => PRs K mg F σ v p
theorem PRs.mono {K : PySem.W.Frag} {mg : Str → Option Value} {F F' : Hp} {σ : L2.St} (e : Same F F') : ∀ {vs : List V} {ps : List Pl}, PRs K mg F σ vs ps → PRs K mg F' σ vs ps
  | _, _, .nil => .nil
  | _, _, .cons a b => .cons (a.mono e) (PRs.mono e b)

/-- an expression: it hands back data, or a new object -/
def BE (X : Cx) (e : Expr) (m : M Rs) : Prop := ∀ W, Takes X W → PE X e (gOf X.K X.mg W (relE X.K X.mg) m)
/-- an expression that is read at once -/
def BP (X : Cx) (e : Expr) (m : M Pl) : Prop := ∀ W, Takes X W → PE X e (gOf X.K X.mg W (relP X.K X.mg) m)
/-- a test -/
def BT (X : Cx) (e : Expr) (m : M Bool) : Prop := ∀ W, Takes X W → PT X e (gOf X.K X.mg W relB m)
def BW (X : Cx) (e : Expr) (m : M Bool) : Prop := ∀ W, Takes X W → PW X e (gOf X.K X.mg W relB m)
/-- arguments -/
def BA (X : Cx) (es : List Expr) (m : M (List Pl)) : Prop := ∀ W, Takes X W → PA X es (gOf X.K X.mg W (relA X.K X.mg) m)

theorem _root_.L2.PE.imp {X : Cx} {e : Expr} {t t' : TE} (h : PE X e t) (k : ∀ σ H Q, t' σ H Q → t σ H Q) : PE X e t' := ⟨fun pins s σ H Q I q => h.run pins s σ H Q I (k σ H Q q)⟩
theorem _root_.L2.PT.imp {X : Cx} {e : Expr} {t t' : TT} (h : PT X e t) (k : ∀ σ H Q, t' σ H Q → t σ H Q) : PT X e t' := ⟨fun pins s σ H Q I q => h.run pins s σ H Q I (k σ H Q q)⟩
theorem _root_.L2.PW.imp {X : Cx} {e : Expr} {t t' : TT} (h : PW X e t) (k : ∀ σ H Q, t' σ H Q → t σ H Q) : PW X e t' := ⟨fun w pins s σ H Q I q => h.run w pins s σ H Q I (k σ H Q q)⟩
theorem _root_.L2.PA.imp {X : Cx} {es : List Expr} {t t' : TA} (h : PA X es t) (k : ∀ σ H Q, t' σ H Q → t σ H Q) : PA X es t' := ⟨fun pos pins s σ H Q I q => h.run pos pins s σ H Q I (k σ H Q q)⟩

/-! ## names, constants -/
def mVar (i : Nat) : M Rs := fun β => match β[i]? with
  | some (.fz d) => .ok (.fz d) β
  | some (.own none d) => .ok (.fz d) (β.set i (.fz d))
  | _ => .stuck
def mPl (i : Nat) : M Pl := fun β => match β[i]? with
  | some (.fz _) => .ok (.sl i) β
  | some (.own _ _) => .ok (.sl i) β
  | _ => .stuck
def mC (d : D) : M Rs := ret (.fz d)
def mCP (d : D) : M Pl := ret (.d d)
def toPl (r : Rs) : Pl := .d r.d
def mP (m : M Rs) : M Pl := bnd m fun r => ret (.d r.d)
section
variable {K : PySem.W.Frag} {mg : Str → Option Value} {G : GT} {F F' H H' : Hp} {io : List Addr} {β β' : Env} {σ : L2.St} {d : D} {v : V} {i : Nat}
/-- a slot's object is let stay -/
theorem BI.freezeSl (I : BI K mg G F io β σ H) (e : β[i]? = some (.own none d)) : ∃ v F', σ[i]? = some (some v) ∧ FE G io F F' ∧ BI K mg G F' io (β.set i (.fz d)) σ H ∧ DR K mg F' v d := by
  obtain ⟨o, eo, a, rfl, f, g, ni, _, r⟩ := I.sl i _ e
  have hi : i < β.length := (List.getElem?_eq_some_iff.mp e).1
  -- the same state without the slot
  have J : BI K mg G F io (β.set i .un) σ H := by
    refine ⟨I.sg, I.sf, I.ioF, I.ioH, by rw [List.length_set]; exact I.len, fun j s ej => ?_, fun j k s t b ej ek hj hk => ?_⟩
    · by_cases hj : j = i
      · subst hj
        rw [List.getElem?_set_self hi] at ej
        cases ej
        exact ⟨_, eo, trivial⟩
      · rw [List.getElem?_set_ne (Ne.symm hj)] at ej
        exact I.sl j s ej
    · by_cases hj' : j = i
      · subst hj'
        rw [List.getElem?_set_self hi] at ej
        cases ej
        cases hj
      · by_cases hk' : k = i
        · subst hk'
          rw [List.getElem?_set_self hi] at ek
          cases ek
          cases hk
        · rw [List.getElem?_set_ne (Ne.symm hj')] at ej
          rw [List.getElem?_set_ne (Ne.symm hk')] at ek
          exact I.apart j k s t b ej ek hj hk
  have R0 : RR K mg G F io H (β.set i .un) σ (.ref a) (.own d) := by
    refine ⟨a, rfl, f, g, ni rfl, r, fun j s ej hs z => ?_⟩
    by_cases hj : j = i
    · subst hj
      rw [List.getElem?_set_self hi] at ej
      cases ej
      cases hs
    · rw [List.getElem?_set_ne (Ne.symm hj)] at ej
      exact hj (I.apart j i s _ a ej e hs rfl z eo)
  obtain ⟨F', fe, J', dr⟩ := J.freeze R0
  refine ⟨_, F', eo, fe, ⟨J'.sg, J'.sf, J'.ioF, J'.ioH, by have := J'.len; rw [List.length_set] at this ⊢; exact this, fun j s ej => ?_, fun j k s t b ej ek hj hk => ?_⟩, dr⟩
  · by_cases hj : j = i
    · subst hj
      rw [List.getElem?_set_self hi] at ej
      cases ej
      exact ⟨_, eo, _, rfl, dr⟩
    · rw [List.getElem?_set_ne (Ne.symm hj)] at ej
      exact J'.sl j s (by rw [List.getElem?_set_ne (Ne.symm hj)]; exact ej)
  · by_cases hj' : j = i
    · subst hj'
      rw [List.getElem?_set_self hi] at ej
      cases ej
      cases hj
    · by_cases hk' : k = i
      · subst hk'
        rw [List.getElem?_set_self hi] at ek
        cases ek
        cases hk
      · rw [List.getElem?_set_ne (Ne.symm hj')] at ej
        rw [List.getElem?_set_ne (Ne.symm hk')] at ek
        exact I.apart j k s t b ej ek hj hk
end
section
variable {X : Cx} {e a b c : Expr} {es rest : List Expr} {pos : Pos} {i : Nat} {x : Str} {ma mb mc : M Pl} {me : M Rs} {mt mu : M Bool}
theorem be_var {i : Nat} {x : Str} {pos : Pos} (hN : X.N[i]? = some x := by rfl) (hv : Vis X.env.scope x := by first | exact Or.inl rfl | exact Or.inr (Or.inl rfl) | exact Or.inr (Or.inr rfl)) (hd : (x == ("__debug__" : Str)) = false := by decide)
    (hcd : (x == ("__classdict__" : Str)) = false := by decide) : BE X (.Name x pos) (mVar i) := by
  refine fun W tk => (pe_var hN hv hd hcd).imp fun σ H Q h => ?_
  obtain ⟨G, io, F, β, I, h⟩ := h
  unfold mVar at h
  cases e : β[i]? with
  | none => rw [e] at h; exact h.elim
  | some s =>
    rw [e] at h
    cases s with
    | ex z0 => exact h.elim
    | gh _ => exact h.elim
    | un => exact h.elim
    | fz d =>
      obtain ⟨o, eo, v, rfl, r⟩ := I.sl i _ e
      exact ⟨v, eo, h v H F .refl I r⟩
    | own bo d =>
      cases bo with
      | some k => exact h.elim
      | none =>
        obtain ⟨v, F', eo, fe, I', r⟩ := I.freezeSl e
        exact ⟨v, eo, h v H F' fe I' r⟩
theorem bp_var {i : Nat} {x : Str} {pos : Pos} (hN : X.N[i]? = some x := by rfl) (hv : Vis X.env.scope x := by first | exact Or.inl rfl | exact Or.inr (Or.inl rfl) | exact Or.inr (Or.inr rfl)) (hd : (x == ("__debug__" : Str)) = false := by decide)
    (hcd : (x == ("__classdict__" : Str)) = false := by decide) : BP X (.Name x pos) (mPl i) := by
  refine fun W tk => (pe_var hN hv hd hcd).imp fun σ H Q h => ?_
  obtain ⟨G, io, F, β, I, h⟩ := h
  unfold mPl at h
  cases e : β[i]? with
  | none => rw [e] at h; exact h.elim
  | some s =>
    rw [e] at h
    cases s with
    | ex z0 => exact h.elim
    | gh _ => exact h.elim
    | un => exact h.elim
    | fz d =>
      obtain ⟨o, eo, v, rfl, r⟩ := I.sl i _ e
      exact ⟨v, eo, h v H F .refl I eo⟩
    | own bo d =>
      obtain ⟨o, eo, v, rfl, r⟩ := I.sl i _ e
      exact ⟨_, eo, h _ H F .refl I eo⟩
theorem bp_of (h : BE X e me) : BP X e (mP me) := by
  refine fun W tk => (h W tk).imp fun σ H Q hq => ?_
  obtain ⟨G, io, F, β, I, hq⟩ := hq
  refine ⟨G, io, F, β, I, hq.bnd fun r β' v H' F' fe I' rr h2 => ?_⟩
  obtain ⟨F2, fe2, I2, dr⟩ := I'.freezeR rr
  exact h2 v H' F2 (fe.trans fe2) I2 dr
theorem be_int {i : Int} {j : Nat} : BE X (.Constant (.int i) j pos) (mC (.int i)) := fun W tk => pe_int.imp fun σ H Q ⟨_, _, F, _, I, h⟩ => h _ H F .refl I (.int i)
theorem be_bl {b : Bool} {j : Nat} : BE X (.Constant (.bool b) j pos) (mC (.bl b)) := fun W tk => pe_bl.imp fun σ H Q ⟨_, _, F, _, I, h⟩ => h _ H F .refl I (.bl b)
theorem be_non {j : Nat} : BE X (.Constant .none j pos) (mC .non) := fun W tk => pe_non.imp fun σ H Q ⟨_, _, F, _, I, h⟩ => h _ H F .refl I .non
theorem be_str {x : Str} {j : Nat} : BE X (.Constant (.str x) j pos) (mC (.str x)) := fun W tk => pe_str.imp fun σ H Q ⟨_, _, F, _, I, h⟩ => h _ H F .refl I (.str x)
/-- code that isn't come to -/
theorem pe_no {t : TE} (h : ∀ σ H (Q : VK), ¬ t σ H Q) : PE X e t := ⟨fun _ _ σ H Q _ q => (h σ H Q q).elim⟩
theorem be_no : BE X e stk := fun W tk => pe_no fun σ H Q ⟨_, _, _, _, _, h⟩ => h

/-! ## operators -/
/-- a two-place operation, by data -/
def rD (K : PySem.W.Frag) (mg : Str → Option Value) (g : D → D → Option Rs) : R2 := fun x y H Q => ∃ F d e r, Same F H ∧ HR K mg F H x d ∧ HR K mg F H y e ∧ g d e = some r ∧ ∀ z H', NR K mg F H r z H' → Q z H'
def OpD (X : Cx) (f : Value → Value → Sem Value) (g : D → D → Option Rs) : Prop := OpR X f (rD X.K X.mg g)
/-- by one of HandS's rules -/
theorem OpD.of {f : Value → Value → Sem Value} {r : R2} {g : D → D → Option Rs} (h : OpR X f r)
    (k : ∀ F H x y d e rs (Q : VK), Same F H → HR X.K X.mg F H x d → HR X.K X.mg F H y e → g d e = some rs → (∀ z H', NR X.K X.mg F H rs z H' → Q z H') → r x y H Q) : OpD X f g :=
  fun pins s σ H x y v u Q I rx ry ⟨F, d, e, rs, sf, hx, hy, hg, q⟩ => h pins s σ H x y v u Q I rx ry (k F H x y d e rs Q sf hx hy hg q)
def OpR.alt {f : Value → Value → Sem Value} {r r' : R2} (h : OpR X f r) (h' : OpR X f r') := OpR.or h h'
def fin2 (g : D → D → Option Rs) (p q : Pl) : M Rs := fun β => match look β p, look β q with
  | some d, some e => (match g d e with
    | some r => .ok r β
    | none => .stuck)
  | _, _ => .stuck
def mOp (g : D → D → Option Rs) (ma mb : M Pl) : M Rs := bnd ma fun p => bnd mb fun q => fin2 g p q
theorem fin2_post {W : WX} {G : GT} {F : Hp} {io : List Addr} {σ : L2.St} {g : D → D → Option Rs} {p q : Pl} {β : Env} {v w : V} {H : Hp} {Q : VK} (I : BI X.K X.mg G F io β σ H) (rp : PR X.K X.mg F σ v p) (rq : PR X.K X.mg F σ w q)
    (h : Post X.K X.mg W (relE X.K X.mg) G F io σ (fin2 g p q β) Q) : rD X.K X.mg g v w H Q := by
  unfold fin2 at h
  cases e1 : look β p with
  | none => rw [e1] at h; exact h.elim
  | some d =>
    cases e2 : look β q with
    | none => rw [e1, e2] at h; exact h.elim
    | some e =>
      rw [e1, e2] at h
      simp only at h
      cases e3 : g d e with
      | none => rw [e3] at h; exact h.elim
      | some r =>
        rw [e3] at h
        refine ⟨F, d, e, r, I.sf, I.look rp e1, I.look rq e2, e3, fun z H' n => ?_⟩
        obtain ⟨F', fe, I', rr⟩ := I.step n
        exact h z H' F' fe I' rr
theorem be_op {op : Operator} {g : D → D → Option Rs} (ho : OpD X (binaryOp op) g) (ha : BP X a ma) (hb : BP X b mb) : BE X (.BinOp a op b pos) (mOp g ma mb) := by
  refine fun W tk => (pe_op ho (ha W tk) (hb W tk)).imp fun σ H Q h => ?_
  obtain ⟨G, io, F, β, I, h⟩ := h
  refine ⟨G, io, F, β, I, h.bnd fun p β1 v H1 F1 fe1 I1 r1 h1 => ⟨G, io, F1, β1, I1, (h1.mono fe1).bnd fun q β2 w H2 F2 fe2 I2 r2 h2 => ?_⟩⟩
  exact fin2_post I2 (r1.mono fe2.same) r2 (h2.mono fe2)
theorem be_cmp {op : CmpOp} {g : D → D → Option Rs} (ho : OpD X (compareOp op) g) (ha : BP X a ma) (hb : BP X b mb) (hm : behindInMarks op b = false := by first | exact nomark _ | rfl) : BE X (.Compare a [op] [b] pos) (mOp g ma mb) := by
  refine fun W tk => (pe_cmpR ho (ha W tk) (hb W tk) hm).imp fun σ H Q h => ?_
  obtain ⟨G, io, F, β, I, h⟩ := h
  refine ⟨G, io, F, β, I, h.bnd fun p β1 v H1 F1 fe1 I1 r1 h1 => ⟨G, io, F1, β1, I1, (h1.mono fe1).bnd fun q β2 w H2 F2 fe2 I2 r2 h2 => ?_⟩⟩
  exact fin2_post I2 (r1.mono fe2.same) r2 (h2.mono fe2)
/-- a value that must be a truth -/
def asB (m : M Rs) : M Bool := bnd m fun r => match r with
  | .fz (.bl b) => ret b
  | _ => stk
theorem asB_post {W : WX} {G : GT} {F : Hp} {io : List Addr} {σ : L2.St} {r : R Rs} {Q : Bool → Hp → Prop} (h : Post X.K X.mg W relB G F io σ (r.bnd fun r => match r with
  | .fz (.bl b) => ret b
  | _ => stk) Q) : Post X.K X.mg W (relE X.K X.mg) G F io σ r fun x H' => ∃ k, x = .bl k ∧ Q k H' := by
  refine h.bnd fun r β v H' F' fe I rr h2 => ?_
  cases r with
  | own d => exact h2.elim
  | fz d =>
    cases d with
    | bl k =>
      cases (show DR X.K X.mg F' v (.bl k) from rr)
      exact ⟨k, rfl, h2 k H' F' fe I rfl⟩
    | _ => exact h2.elim
theorem bt_cmp {op : CmpOp} {g : D → D → Option Rs} (ho : OpD X (compareOp op) g) (ha : BP X a ma) (hb : BP X b mb) (hm : behindInMarks op b = false := by first | exact nomark _ | rfl) : BT X (.Compare a [op] [b] pos) (asB (mOp g ma mb)) := by
  refine fun W tk => (pt_cmpR ho (ha W tk) (hb W tk) hm).imp fun σ H Q h => ?_
  obtain ⟨G, io, F, β, I, h⟩ := h
  have h := asB_post h
  refine ⟨G, io, F, β, I, h.bnd fun p β1 v H1 F1 fe1 I1 r1 h1 => ⟨G, io, F1, β1, I1, (h1.mono fe1).bnd fun q β2 w H2 F2 fe2 I2 r2 h2 => ?_⟩⟩
  exact fin2_post I2 (r1.mono fe2.same) r2 (h2.mono fe2)
theorem bt_val (h : BE X e me) (he : ∀ whole, isTrue e X.env whole = (do let v ← whole; standAt e.pos; holding [v] (truthy v)) := by intro _; rfl) : BT X e (asB me) := by
  refine fun W tk => (pt_val (h W tk) he).imp fun σ H Q hq => ?_
  obtain ⟨G, io, F, β, I, hq⟩ := hq
  exact ⟨G, io, F, β, I, asB_post hq⟩
/-! ### truth of any value -/
def truD : D → Option Bool
  | .non => some false
  | .bl b => some b
  | .int i => some (i != 0)
  | .str x => if x.length ≤ sizeLine then some ((x.length : Int) != 0) else none
  | .nd .tup ds => some (!ds.isEmpty)
  | .nd .lst ds => some (!ds.isEmpty)
  | _ => none
def finT (p : Pl) : M Bool := fun β => match (look β p).bind truD with
  | some b => .ok b β
  | none => .stuck
def mTru (m : M Pl) : M Bool := bnd m finT
theorem DRs.isEmpty {K : PySem.W.Frag} {mg : Str → Option Value} {F : Hp} {vs : List V} {ds : List D} (h : DRs K mg F vs ds) : vs.isEmpty = ds.isEmpty := by cases h <;> rfl
theorem tru_of {F H : Hp} {x : V} {d : D} {k : Bool} (sf : Same F H) (h : HR X.K X.mg F H x d) (e : truD d = some k) : TruV X.K x H k := by
  cases h with
  | non => cases e; rfl
  | bl b => cases e; rfl
  | int i => cases e; rfl
  | str x =>
    have e : (if x.length ≤ sizeLine then some ((x.length : Int) != 0) else none) = some k := e
    by_cases hz : x.length ≤ sizeLine
    · rw [if_pos hz] at e
      cases e
      exact ⟨hz, rfl⟩
    · rw [if_neg hz] at e
      cases e
  | tup h r =>
    cases e
    exact .inr (.inl ⟨_, Same.tp sf h, by rw [r.isEmpty]⟩)
  | wtp h r => cases e
  | lst h r =>
    cases e
    exact .inl ⟨_, .inl (.inl h), by rw [r.isEmpty]⟩
  | scr h r => cases e
  | dK h r q => cases e
  | dT h r q => cases e
  | dg h k r q => cases e
  | ins h g r => cases e
theorem bt_tru (h : BP X e ma) (he : ∀ whole, isTrue e X.env whole = (do let v ← whole; standAt e.pos; holding [v] (truthy v)) := by intro _; rfl) : BT X e (mTru ma) := by
  refine fun W tk => (pt_truth (h W tk) he).imp fun σ H Q hq => ?_
  obtain ⟨G, io, F, β, I, hq⟩ := hq
  refine ⟨G, io, F, β, I, hq.bnd fun p β1 v H1 F1 fe1 I1 r1 h1 => ?_⟩
  unfold finT at h1
  cases e1 : (look β1 p).bind truD with
  | none => rw [e1] at h1; exact h1.elim
  | some k =>
    rw [e1] at h1
    obtain ⟨d, e2, e3⟩ := Option.bind_eq_some_iff.mp e1
    exact ⟨k, tru_of I1.sf (I1.look r1 e2) e3, h1 k H1 F1 fe1 I1 rfl⟩

/-! ### and, or, not -/
def mAnd (m n : M Bool) : M Bool := bnd m fun b => if b = true then n else ret false
def mOr (m n : M Bool) : M Bool := bnd m fun b => if b = true then ret true else n
def mNot (m : M Bool) : M Bool := bnd m fun b => ret (!b)
theorem bw_and1 (h : BT X a mt) : BW X (.BoolOp .And [a] pos) mt := fun W tk => pw_and1 (h W tk)
theorem bw_or1 (h : BT X a mt) : BW X (.BoolOp .Or [a] pos) mt := fun W tk => pw_or1 (h W tk)
theorem bw_and (h : BT X a mt) (h2 : BW X (.BoolOp .And (b :: rest) pos) mu) : BW X (.BoolOp .And (a :: b :: rest) pos) (mAnd mt mu) := by
  refine fun W tk => (pw_and (h W tk) (h2 W tk)).imp fun σ H Q hq => ?_
  obtain ⟨G, io, F, β, I, hq⟩ := hq
  refine ⟨G, io, F, β, I, hq.bnd fun k β1 v H1 F1 fe1 I1 r1 h1 => ?_⟩
  cases (show v = k from r1)
  cases k with
  | true => exact ⟨G, io, F1, β1, I1, h1.mono fe1⟩
  | false => exact h1 false H1 F1 fe1 I1 rfl
theorem bw_or (h : BT X a mt) (h2 : BW X (.BoolOp .Or (b :: rest) pos) mu) : BW X (.BoolOp .Or (a :: b :: rest) pos) (mOr mt mu) := by
  refine fun W tk => (pw_or (h W tk) (h2 W tk)).imp fun σ H Q hq => ?_
  obtain ⟨G, io, F, β, I, hq⟩ := hq
  refine ⟨G, io, F, β, I, hq.bnd fun k β1 v H1 F1 fe1 I1 r1 h1 => ?_⟩
  cases (show v = k from r1)
  cases k with
  | false => exact ⟨G, io, F1, β1, I1, h1.mono fe1⟩
  | true => exact h1 true H1 F1 fe1 I1 rfl
theorem bt_w (h : BW X e mt) : BT X e mt := fun W tk => (h W tk).pt
theorem bt_not (h : BT X a mt) : BT X (.UnaryOp .Not a pos) (mNot mt) := by
  refine fun W tk => (pt_not (h W tk)).imp fun σ H Q hq => ?_
  obtain ⟨G, io, F, β, I, hq⟩ := hq
  refine ⟨G, io, F, β, I, hq.bnd fun k β1 v H1 F1 fe1 I1 r1 h1 => ?_⟩
  cases (show v = k from r1)
  exact h1 (!k) H1 F1 fe1 I1 rfl
/-- as values: all but the last True or False -/
def mAndV (m n : M Rs) : M Rs := bnd (asB m) fun b => if b = true then n else ret (.fz (.bl false))
def mOrV (m n : M Rs) : M Rs := bnd (asB m) fun b => if b = true then ret (.fz (.bl true)) else n
def mNotV (m : M Rs) : M Rs := bnd (asB m) fun b => ret (.fz (.bl (!b)))
theorem be_one {op : BoolOp} (h : BE X a me) : BE X (.BoolOp op [a] pos) me := fun W tk => pe_one (h W tk)
theorem be_and {mr : M Rs} (h : BE X a me) (h2 : BE X (.BoolOp .And (b :: rest) pos) mr) : BE X (.BoolOp .And (a :: b :: rest) pos) (mAndV me mr) := by
  refine fun W tk => (pe_and (h W tk) (h2 W tk)).imp fun σ H Q hq => ?_
  obtain ⟨G, io, F, β, I, hq⟩ := hq
  unfold mAndV asB bnd at hq
  rw [R.bnd_assoc] at hq
  refine ⟨G, io, F, β, I, hq.bnd fun r β1 v H1 F1 fe1 I1 r1 h1 => ?_⟩
  cases r with
  | own d => exact h1.elim
  | fz d =>
    cases d with
    | bl k =>
      cases (show DR X.K X.mg F1 v (.bl k) from r1)
      refine ⟨k, rfl, ?_⟩
      cases k with
      | true => exact ⟨G, io, F1, β1, I1, Post.mono h1 fe1⟩
      | false => exact h1 _ H1 F1 fe1 I1 (.bl false)
    | _ => exact h1.elim
theorem be_or {mr : M Rs} (h : BE X a me) (h2 : BE X (.BoolOp .Or (b :: rest) pos) mr) : BE X (.BoolOp .Or (a :: b :: rest) pos) (mOrV me mr) := by
  refine fun W tk => (pe_or (h W tk) (h2 W tk)).imp fun σ H Q hq => ?_
  obtain ⟨G, io, F, β, I, hq⟩ := hq
  unfold mOrV asB bnd at hq
  rw [R.bnd_assoc] at hq
  refine ⟨G, io, F, β, I, hq.bnd fun r β1 v H1 F1 fe1 I1 r1 h1 => ?_⟩
  cases r with
  | own d => exact h1.elim
  | fz d =>
    cases d with
    | bl k =>
      cases (show DR X.K X.mg F1 v (.bl k) from r1)
      refine ⟨k, rfl, ?_⟩
      cases k with
      | true => exact h1 _ H1 F1 fe1 I1 (.bl true)
      | false => exact ⟨G, io, F1, β1, I1, Post.mono h1 fe1⟩
    | _ => exact h1.elim
theorem be_not (h : BE X a me) : BE X (.UnaryOp .Not a pos) (mNotV me) := by
  refine fun W tk => (pe_not (h W tk)).imp fun σ H Q hq => ?_
  obtain ⟨G, io, F, β, I, hq⟩ := hq
  unfold mNotV asB bnd at hq
  rw [R.bnd_assoc] at hq
  refine ⟨G, io, F, β, I, hq.bnd fun r β1 v H1 F1 fe1 I1 r1 h1 => ?_⟩
  cases r with
  | own d => exact h1.elim
  | fz d =>
    cases d with
    | bl k =>
      cases (show DR X.K X.mg F1 v (.bl k) from r1)
      exact ⟨k, rfl, h1 _ H1 F1 fe1 I1 (.bl _)⟩
    | _ => exact h1.elim
def mIf (m : M Bool) (a b : M Rs) : M Rs := bnd m fun k => if k = true then a else b
theorem be_if {mx my : M Rs} (h : BT X c mt) (ha : BE X a mx) (hb : BE X b my) : BE X (.IfExp c a b pos) (mIf mt mx my) := by
  refine fun W tk => (pe_ifExp (h W tk) (ha W tk) (hb W tk)).imp fun σ H Q hq => ?_
  obtain ⟨G, io, F, β, I, hq⟩ := hq
  refine ⟨G, io, F, β, I, hq.bnd fun k β1 v H1 F1 fe1 I1 r1 h1 => ?_⟩
  cases (show v = k from r1)
  cases k with
  | true => exact ⟨G, io, F1, β1, I1, h1.mono fe1⟩
  | false => exact ⟨G, io, F1, β1, I1, h1.mono fe1⟩

/-! ## arguments, displays -/
def mNil : M (List Pl) := ret []
def mCons (m : M Pl) (n : M (List Pl)) : M (List Pl) := bnd m fun p => bnd n fun ps => ret (p :: ps)
theorem ba_nil : BA X [] mNil := fun W tk => pa_nil.imp fun σ H Q ⟨_, _, F, _, I, h⟩ => h _ H F .refl I .nil
theorem ba_cons {mr : M (List Pl)} (h : BP X e ma) (hr : BA X es mr) (hs : starEach (e :: es) X.env = (false, eval e X.env) :: starEach es X.env := by rfl) : BA X (e :: es) (mCons ma mr) := by
  refine fun W tk => (pa_cons (h W tk) (hr W tk) hs).imp fun σ H Q hq => ?_
  obtain ⟨G, io, F, β, I, hq⟩ := hq
  refine ⟨G, io, F, β, I, hq.bnd fun p β1 v H1 F1 fe1 I1 r1 h1 => ⟨G, io, F1, β1, I1, (h1.mono fe1).bnd fun ps β2 vs H2 F2 fe2 I2 r2 h2 => ?_⟩⟩
  exact (h2.mono fe2) _ H2 F2 .refl I2 (.cons (r1.mono fe2.same) r2)
end
end B

set_option Elab.async false
set_option linter.all false
set_option maxRecDepth 100000
set_option maxHeartbeats 4000000
namespace B
open PySem PySem.Spec L2
/-! ## numbers -/
def gI (f : Int → Int → Int) : D → D → Option Rs
  | .int i, .int j => some (.fz (.int (f i j)))
  | _, _ => none
def gIc (C : Int → Int → Bool) (f : Int → Int → Int) : D → D → Option Rs
  | .int i, .int j => if C i j = true then some (.fz (.int (f i j))) else none
  | _, _ => none
section
variable {X : Cx}
theorem opd_I {f : Value → Value → Sem Value} {g : Int → Int → Int} (h : OpR X f (rI0 fun i j => .int (g i j))) : OpD X f (gI g) := by
  refine OpD.of h fun F H x y d e rs Q sf hx hy hg q => ?_
  unfold gI at hg
  split at hg
  · cases hx
    cases hy
    cases hg
    exact ⟨_, _, rfl, rfl, q _ _ (NR.val sf (.int _))⟩
  · cases hg
theorem opd_Ic {f : Value → Value → Sem Value} {P : Int → Int → Prop} {g : Int → Int → Int} {C : Int → Int → Bool} (h : OpR X f (rI P fun i j => .int (g i j))) (hC : ∀ i j, C i j = true → P i j) : OpD X f (gIc C g) := by
  refine OpD.of h fun F H x y d e rs Q sf hx hy hg q => ?_
  unfold gIc at hg
  split at hg
  · rename_i i j
    by_cases hc : C i j = true
    · rw [if_pos hc] at hg
      cases hx
      cases hy
      cases hg
      exact ⟨_, _, rfl, rfl, hC _ _ hc, q _ _ (NR.val sf (.int _))⟩
    · rw [if_neg hc] at hg
      cases hg
  · cases hg
end
theorem OpD.alt {X : Cx} {f : Value → Value → Sem Value} {g g' : D → D → Option Rs} (h : OpD X f g) (h' : OpD X f g') : OpD X f (fun d e => (g d e).orElse fun _ => g' d e) := by
  refine OpD.of (OpR.or h h') fun F H x y d e rs Q sf hx hy hg q => ?_
  cases e1 : g d e with
  | some r =>
    rw [e1] at hg
    cases hg
    exact .inl ⟨F, d, e, _, sf, hx, hy, e1, q⟩
  | none =>
    rw [e1] at hg
    exact .inr ⟨F, d, e, _, sf, hx, hy, hg, q⟩
theorem OpD.congr {X : Cx} {f : Value → Value → Sem Value} {g g' : D → D → Option Rs} (h : OpD X f g) (k : ∀ d e r, g' d e = some r → g d e = some r) : OpD X f g' :=
  OpD.of h fun F H x y d e rs Q sf hx hy hg q => ⟨F, d, e, rs, sf, hx, hy, k _ _ _ hg, q⟩

/-! ## + -/
def gCat : D → D → Option Rs
  | .nd .lst a, .nd .lst b => if a.length + b.length ≤ sizeLine then some (.own (.nd .lst (a ++ b))) else none
  | _, _ => none
def gCatT : D → D → Option Rs
  | .nd .tup a, .nd .tup b => if a.length + b.length ≤ sizeLine then some (.fz (.nd .tup (a ++ b))) else none
  | _, _ => none
def gCatS : D → D → Option Rs
  | .str a, .str b => if a.length + b.length ≤ sizeLine then some (.fz (.str (a ++ b))) else none
  | _, _ => none
def gAdd : D → D → Option Rs
  | .int i, .int j => some (.fz (.int (i + j)))
  | .nd .lst a, .nd .lst b => if a.length + b.length ≤ sizeLine then some (.own (.nd .lst (a ++ b))) else none
  | .nd .tup a, .nd .tup b => if a.length + b.length ≤ sizeLine then some (.fz (.nd .tup (a ++ b))) else none
  | .str a, .str b => if a.length + b.length ≤ sizeLine then some (.fz (.str (a ++ b))) else none
  | _, _ => none
section
variable {X : Cx}
theorem opd_cat : OpD X (binaryOp .Add) gCat := by
  refine OpD.of op_cat fun F H x y d e rs Q sf hx hy hg q => ?_
  unfold gCat at hg
  split at hg
  · rename_i a b
    by_cases hc : a.length + b.length ≤ sizeLine
    · rw [if_pos hc] at hg
      cases hg
      cases hx with
      | lst hx rx =>
        cases hy with
        | lst hy ry =>
          exact ⟨_, _, _, _, rfl, rfl, hx, hy, by rw [rx.length, ry.length]; exact hc, fun p hp => q _ _ (NR.lst hp (rx.append ry))⟩
    · rw [if_neg hc] at hg
      cases hg
  · cases hg
theorem opd_catT : OpD X (binaryOp .Add) gCatT := by
  refine OpD.of op_catA fun F H x y d e rs Q sf hx hy hg q => ?_
  unfold gCatT at hg
  split at hg
  · rename_i a b
    by_cases hc : a.length + b.length ≤ sizeLine
    · rw [if_pos hc] at hg
      cases hg
      cases hx with
      | tup hx rx =>
        cases hy with
        | tup hy ry =>
          refine ⟨_, _, _, _, rfl, rfl, Same.tp sf hx, Same.tp sf hy, by rw [rx.length, ry.length]; exact hc, fun e => ?_, fun _ e => ?_, fun _ _ p hp => q _ _ (NR.tup sf hp (rx.append ry))⟩
          · subst e
            cases rx
            exact q _ _ (NR.val sf (.tup hy ry))
          · subst e
            cases ry
            rw [List.append_nil] at q
            exact q _ _ (NR.val sf (.tup hx rx))
    · rw [if_neg hc] at hg
      cases hg
  · cases hg
theorem opd_catS : OpD X (binaryOp .Add) gCatS := by
  refine OpD.of op_add_str fun F H x y d e rs Q sf hx hy hg q => ?_
  unfold gCatS at hg
  split at hg
  · rename_i a b
    by_cases hc : a.length + b.length ≤ sizeLine
    · rw [if_pos hc] at hg
      cases hg
      cases hx
      cases hy
      exact ⟨_, _, rfl, rfl, hc, q _ _ (NR.val sf (.str _))⟩
    · rw [if_neg hc] at hg
      cases hg
  · cases hg
theorem opd_add : OpD X (binaryOp .Add) gAdd := by
  refine (((opd_I op_add).alt opd_cat).alt (opd_catT.alt opd_catS)).congr fun d e r h => ?_
  unfold gAdd at h
  split at h
  · exact h
  · simp only [gI, gCat, Option.orElse]
    split at h
    · rename_i hc
      rw [if_pos hc]
      exact h
    · cases h
  · simp only [gI, gCat, gCatT, Option.orElse]
    split at h
    · rename_i hc
      rw [if_pos hc]
      exact h
    · cases h
  · simp only [gI, gCat, gCatT, gCatS, Option.orElse]
    split at h
    · rename_i hc
      rw [if_pos hc]
      exact h
    · cases h
  · cases h
theorem opd_sub : OpD X (binaryOp .Sub) (gI fun i j => i - j) := opd_I op_sub
/-- *: of numbers of which one is below 2^64, or of numbers of less than a million bits together; lists, tuples times a number -/
def smallI (i : Int) : Bool := decide (-(2 ^ 64) < i ∧ i < 2 ^ 64)
def cMul (i j : Int) : Bool := smallI i || smallI j
def cMulW (i j : Int) : Bool := decide (i.natAbs.log2 + j.natAbs.log2 < 1000000)
def gRep : D → D → Option Rs
  | .nd .lst ds, .int k => if k < 2 ^ 30 ∧ -(2 ^ 30) < k ∧ ds.length * k.toNat ≤ sizeLine then some (.own (.nd .lst (List.replicate k.toNat ds).flatten)) else none
  | _, _ => none
def gRepT : D → D → Option Rs
  | .nd .tup ds, .int k => if ds ≠ [] ∧ 2 ≤ k ∧ k ≤ 1000 ∧ ds.length ≤ 1000 then some (.fz (.nd .tup (List.replicate k.toNat ds).flatten)) else none
  | _, _ => none
def gMul : D → D → Option Rs
  | .int i, .int j => if cMul i j = true then some (.fz (.int (i * j))) else if cMulW i j = true then some (.fz (.int (i * j))) else none
  | .nd .lst ds, .int k => if k < 2 ^ 30 ∧ -(2 ^ 30) < k ∧ ds.length * k.toNat ≤ sizeLine then some (.own (.nd .lst (List.replicate k.toNat ds).flatten)) else none
  | .nd .tup ds, .int k => if ds ≠ [] ∧ 2 ≤ k ∧ k ≤ 1000 ∧ ds.length ≤ 1000 then some (.fz (.nd .tup (List.replicate k.toNat ds).flatten)) else none
  | _, _ => none
theorem DRs.rep {K : PySem.W.Frag} {mg : Str → Option Value} {F : Hp} {vs : List V} {ds : List D} (h : DRs K mg F vs ds) : ∀ k, DRs K mg F (List.replicate k vs).flatten (List.replicate k ds).flatten
  | 0 => .nil
  | k + 1 => by
    rw [List.replicate_succ, List.replicate_succ, List.flatten_cons, List.flatten_cons]
    exact h.append (DRs.rep h k)
theorem opd_rep : OpD X (binaryOp .Mult) gRep := by
  refine OpD.of op_rep fun F H x y d e rs Q sf hx hy hg q => ?_
  unfold gRep at hg
  split at hg
  · split at hg
    · rename_i hc
      cases hg
      cases hx with
      | lst hx rx =>
        cases hy
        refine ⟨_, _, _, rfl, rfl, hx, by omega, by omega, by rw [rx.length]; exact hc.2.2, fun p hp => q _ _ (NR.lst hp (rx.rep _))⟩
    · cases hg
  · cases hg
theorem opd_repT : OpD X (binaryOp .Mult) gRepT := by
  refine OpD.of op_repT fun F H x y d e rs Q sf hx hy hg q => ?_
  unfold gRepT at hg
  split at hg
  · split at hg
    · rename_i hc
      obtain ⟨h1, h2, h3, h4⟩ := hc
      cases hg
      cases hx with
      | tup hx rx =>
        cases hy
        refine ⟨_, _, _, rfl, rfl, Same.tp sf hx, fun e => ?_, h2, h3, by rw [rx.length]; exact h4, fun p hp => q _ _ (NR.tup sf hp (rx.rep _))⟩
        subst e
        cases rx
        exact h1 rfl
    · cases hg
  · cases hg
theorem opd_mul : OpD X (binaryOp .Mult) gMul := by
  refine (((opd_Ic (C := cMul) op_mul ?_).alt (opd_Ic (C := cMulW) op_mulW ?_)).alt (opd_rep.alt opd_repT)).congr fun d e r h => ?_
  · intro i j h
    unfold cMul smallI at h
    simp only [Bool.or_eq_true, decide_eq_true_eq] at h
    exact h
  · intro i j h
    unfold CMulW
    simpa [cMulW] using h
  · unfold gMul at h
    split at h
    · simp only [gIc, Option.orElse]
      split at h
      · rename_i hc
        rw [if_pos hc]
        exact h
      · rename_i hc
        rw [if_neg hc]
        split at h
        · rename_i hw
          rw [if_pos hw]
          exact h
        · cases h
    · simp only [gIc, gRep, Option.orElse]
      split at h
      · rename_i hc
        rw [if_pos hc]
        cases h
        rfl
      · cases h
    · simp only [gIc, gRep, gRepT, Option.orElse]
      split at h
      · rename_i hc
        rw [if_pos hc]
        cases h
        rfl
      · cases h
    · cases h
/-! ## //, %, **, <<, bits -/
def cDiv (_ j : Int) : Bool := decide (0 < j ∧ j.natAbs.log2 < 9000)
theorem opd_fdiv : OpD X (binaryOp .FloorDiv) (gIc cDiv fun i j => i / j) := opd_Ic op_fdivW fun i j h => by unfold CDivW; simpa [cDiv] using h
theorem opd_mod : OpD X (binaryOp .Mod) (gIc (fun _ j => decide (0 < j)) fun i j => i % j) := opd_Ic op_mod fun i j h => of_decide_eq_true h
def cPow (i j : Int) : Bool := decide (0 ≤ j ∧ j ≤ 1000000 ∧ i.natAbs < 2 ^ 64)
theorem opd_pow : OpD X (binaryOp .Pow) (gIc cPow fun i j => i ^ j.toNat) := opd_Ic op_pow fun i j h => by unfold CPow; simpa [cPow] using h
theorem opd_shl : OpD X (binaryOp .LShift) (gIc cPow fun i j => i * 2 ^ j.toNat) := opd_Ic op_shl fun i j h => by unfold CPow; simpa [cPow] using h
theorem opd_band : OpD X (binaryOp .BitAnd) (gI Builtin.bitAnd) := opd_I op_and
theorem opd_bor : OpD X (binaryOp .BitOr) (gI Builtin.bitOr) := opd_I op_or
/-! one-place -/
def UnD (X : Cx) (f : Value → Sem Value) (g : D → Option Rs) : Prop := UnR X f fun x H Q => ∃ F d r, Same F H ∧ HR X.K X.mg F H x d ∧ g d = some r ∧ ∀ z H', NR X.K X.mg F H r z H' → Q z H'
def fin1 (g : D → Option Rs) (p : Pl) : M Rs := fun β => match (look β p).bind g with
  | some r => .ok r β
  | none => .stuck
def mUn (g : D → Option Rs) (m : M Pl) : M Rs := bnd m (fin1 g)
theorem fin1_post {W : WX} {G : GT} {F : Hp} {io : List Addr} {σ : L2.St} {g : D → Option Rs} {p : Pl} {β : Env} {v : V} {H : Hp} {Q : VK} (I : BI X.K X.mg G F io β σ H) (rp : PR X.K X.mg F σ v p)
    (h : Post X.K X.mg W (relE X.K X.mg) G F io σ (fin1 g p β) Q) : ∃ F d r, Same F H ∧ HR X.K X.mg F H v d ∧ g d = some r ∧ ∀ z H', NR X.K X.mg F H r z H' → Q z H' := by
  unfold fin1 at h
  cases e : (look β p).bind g with
  | none => rw [e] at h; exact h.elim
  | some r =>
    rw [e] at h
    obtain ⟨d, e1, e2⟩ := Option.bind_eq_some_iff.mp e
    refine ⟨F, d, r, I.sf, I.look rp e1, e2, fun z H' n => ?_⟩
    obtain ⟨F', fe, I', rr⟩ := I.step n
    exact h z H' F' fe I' rr
theorem be_un {a : Expr} {ma : M Pl} {pos : Pos} {op : UnaryOp} {g : D → Option Rs} (ho : UnD X (unaryOp op) g) (ha : BP X a ma) : BE X (.UnaryOp op a pos) (mUn g ma) := by
  refine fun W tk => (pe_un ho (ha W tk)).imp fun σ H Q h => ?_
  obtain ⟨G, io, F, β, I, h⟩ := h
  refine ⟨G, io, F, β, I, h.bnd fun p β1 v H1 F1 fe1 I1 r1 h1 => fin1_post I1 r1 (h1.mono fe1)⟩
def gNeg : D → Option Rs
  | .int i => some (.fz (.int (-i)))
  | _ => none
theorem und_neg : UnD X (unaryOp .USub) gNeg := by
  intro pins s σ H x v Q I rx h
  obtain ⟨F, d, r, sf, hx, hg, q⟩ := h
  unfold gNeg at hg
  split at hg
  · cases hg
    cases hx
    exact un_neg pins s σ H _ v Q I rx ⟨_, rfl, q _ _ (NR.val sf (.int _))⟩
  · cases hg
end
/-! ## comparisons -/
def gC (f : Int → Int → Bool) : D → D → Option Rs
  | .int i, .int j => some (.fz (.bl (f i j)))
  | _, _ => none
mutual
/-- as PyData (dicts and instances: as a dict, which is not compared) -/
def toPy : D → PyData
  | .non => .none
  | .bl b => .bool b
  | .int i => .int i
  | .str x => .str x
  | .nd .tup ds => .tuple (toPys ds)
  | .nd .lst ds => .list (toPys ds)
  | .nd .dct _ => .dict []
  | .nd .scr _ => .dict []
  | .nd .wtp _ => .dict []
  | .nd .dcg _ => .dict []
  | .nd (.ins _ _) _ => .dict []
def toPys : List D → List PyData
  | [] => []
  | d :: ds => toPy d :: toPys ds
end
def shp (d : D) : Bool := SeqAt.shaped (toPy d)
def eqv (d e : D) : Bool := PyData.eqv (toPy d) (toPy e)
mutual
theorem DR.dp {K : PySem.W.Frag} {mg : Str → Option Value} {H : Hp} : ∀ {v : V} {d : D}, DR K mg H v d → (toPy d).canLay0 = true → Dp K H v (toPy d)
  | _, _, .non, _ => .non
  | _, _, .bl b, _ => .bl b
  | _, _, .int i, _ => .int i
  | _, _, .str x, _ => .str x
  | _, _, .wtp h r, e => by simp [toPy, PyData.canLay0] at e
  | _, _, .tup h r, e => .tup (.inl (.inl h)) (DRs.dp r (by simpa [toPy, PyData.canLay0] using e))
  | _, _, .lst h r, e => .lst (.inl (.inl h)) (DRs.dp r (by simpa [toPy, PyData.canLay0] using e))
  | _, _, .scr h r, e => by simp [toPy, PyData.canLay0] at e
  | _, _, .dK h r q, e => by simp [toPy, PyData.canLay0] at e
  | _, _, .dT h r q, e => by simp [toPy, PyData.canLay0] at e
  | _, _, .dg h k r q, e => by simp [toPy, PyData.canLay0] at e
  | _, _, .ins h g r, e => by simp [toPy, PyData.canLay0] at e
theorem DRs.dp {K : PySem.W.Frag} {mg : Str → Option Value} {H : Hp} : ∀ {vs : List V} {ds : List D}, DRs K mg H vs ds → PyData.canLayAll0 (toPys ds) = true → DpAll K H vs (toPys ds)
  | _, _, .nil, _ => .nil
  | _, _, .cons a b, e => by
    simp only [toPys, PyData.canLayAll0, Bool.and_eq_true] at e
    exact .cons (DR.dp a e.1) (DRs.dp b e.2)
end
theorem shp_lay {d : D} (h : shp d = true) : (toPy d).canLay0 = true := by
  unfold shp SeqAt.shaped at h
  rw [Bool.and_eq_true] at h
  exact h.1
def gEq (d e : D) : Option Rs := if shp d = true ∧ shp e = true then some (.fz (.bl (eqv d e))) else none
def gNe (d e : D) : Option Rs := if shp d = true ∧ shp e = true then some (.fz (.bl (!eqv d e))) else none
section
variable {X : Cx}
theorem opd_C {f : Value → Value → Sem Value} {g : Int → Int → Bool} (h : OpR X f (rI0 fun i j => .bl (g i j))) : OpD X f (gC g) := by
  refine OpD.of h fun F H x y d e rs Q sf hx hy hg q => ?_
  unfold gC at hg
  split at hg
  · cases hx
    cases hy
    cases hg
    exact ⟨_, _, rfl, rfl, q _ _ (NR.val sf (.bl _))⟩
  · cases hg
theorem opd_lt : OpD X (compareOp .Lt) (gC fun i j => decide (i < j)) := opd_C op_lt
theorem opd_le : OpD X (compareOp .LtE) (gC fun i j => decide (i ≤ j)) := opd_C op_le
theorem opd_gt : OpD X (compareOp .Gt) (gC fun i j => decide (j < i)) := opd_C op_gt
theorem opd_ge : OpD X (compareOp .GtE) (gC fun i j => decide (j ≤ i)) := opd_C op_ge
theorem opd_eq (hu : X.A.units + 64 < cLine) : OpD X (compareOp .Eq) gEq := by
  refine OpD.of (op_eqD hu) fun F H x y d e rs Q sf hx hy hg q => ?_
  unfold gEq at hg
  split at hg
  · rename_i hc
    cases hg
    exact ⟨_, _, (hx.dr sf).dp (shp_lay hc.1), (hy.dr sf).dp (shp_lay hc.2), hc.1, hc.2, q _ _ (NR.val sf (.bl _))⟩
  · cases hg
theorem opd_ne (hu : X.A.units + 64 < cLine) : OpD X (compareOp .NotEq) gNe := by
  refine OpD.of (op_neD hu) fun F H x y d e rs Q sf hx hy hg q => ?_
  unfold gNe at hg
  split at hg
  · rename_i hc
    cases hg
    exact ⟨_, _, (hx.dr sf).dp (shp_lay hc.1), (hy.dr sf).dp (shp_lay hc.2), hc.1, hc.2, q _ _ (NR.val sf (.bl _))⟩
  · cases hg
end
end B

set_option Elab.async false
set_option linter.all false
set_option maxRecDepth 100000
set_option maxHeartbeats 4000000
namespace B
open PySem PySem.Spec L2
/-! ## in -/
def flt : D → Bool
  | .nd _ _ => false
  | _ => true
theorem flt_v {K : PySem.W.Frag} {mg : Str → Option Value} {F : Hp} {v : V} {d : D} (h : DR K mg F v d) (e : flt d = true) : flatV v = true := by cases h <;> first | rfl | (cases e; done)
theorem flt_vs {K : PySem.W.Frag} {mg : Str → Option Value} {F : Hp} : ∀ {vs : List V} {ds : List D}, DRs K mg F vs ds → ds.all flt = true → vs.all flatV = true
  | _, _, .nil, _ => rfl
  | _, _, .cons a b, e => by
    rw [List.all_cons, Bool.and_eq_true] at e ⊢
    exact ⟨flt_v a e.1, flt_vs b e.2⟩
theorem eqv_v {K : PySem.W.Frag} {mg : Str → Option Value} {F : Hp} {v w : V} {d e : D} (h : DR K mg F v d) (h2 : DR K mg F w e) (f : flt d = true) (f2 : flt e = true) : eqV v w = eqv d e := by
  cases h <;> first | (cases f; done) | (cases h2 <;> first | (cases f2; done) | rfl | (simp only [eqV, eqv, toPy, PyData.eqv]))
theorem inv_v {K : PySem.W.Frag} {mg : Str → Option Value} {F : Hp} {v : V} {d : D} (h : DR K mg F v d) (f : flt d = true) : ∀ {vs : List V} {ds : List D}, DRs K mg F vs ds → ds.all flt = true → inV v vs = ds.any fun z => eqv z d
  | _, _, .nil, _ => rfl
  | _, _, .cons a b, e => by
    rw [List.all_cons, Bool.and_eq_true] at e
    have ih := inv_v h f b e.2
    unfold inV at ih ⊢
    rw [List.any_cons, List.any_cons, ih, eqv_v a h e.1 f]
def hasSub (t s : Str) : Bool := !(Builtin.Str.occurrences t s 0 t.length 1).isEmpty
def inD (d : D) : D → Option Bool
  | .nd .lst ds => if shp d = true ∧ shp (.nd .lst ds) = true then some (ds.any fun z => eqv z d) else none
  | .nd .tup ds => if flt d = true ∧ ds.all flt = true then some (ds.any fun z => eqv z d) else none
  | .str t => match d with
    | .str s => some (hasSub t s)
    | _ => none
  | _ => none
def gIn (d e : D) : Option Rs := (inD d e).map fun b => .fz (.bl b)
def gNotIn (d e : D) : Option Rs := (inD d e).map fun b => .fz (.bl (!b))
theorem any_py (d : D) : ∀ ds : List D, ((toPys ds).any fun z => PyData.eqv z (toPy d)) = ds.any fun z => eqv z d
  | [] => rfl
  | e :: ds => by
    rw [toPys, List.any_cons, List.any_cons, any_py d ds]
    rfl
section
variable {X : Cx}
theorem opd_in (hu : X.A.units + 65 < cLine) : OpD X (compareOp .In) gIn := by
  refine OpD.of (OpR.or (op_inD hu) (OpR.or op_in_seq op_in_str)) fun F H x y d e rs Q sf hx hy hg q => ?_
  unfold gIn at hg
  cases hi : inD d e with
  | none => rw [hi] at hg; cases hg
  | some b =>
    rw [hi] at hg
    cases hg
    unfold inD at hi
    split at hi
    · rename_i ds
      split at hi
      · rename_i hc
        cases hi
        refine .inl ⟨_, toPys ds, (hx.dr sf).dp (shp_lay hc.1), ?_, hc.1, hc.2, ?_⟩
        · have := (hy.dr sf).dp (shp_lay hc.2)
          simpa only [toPy] using this
        · rw [any_py]
          exact q _ _ (NR.val sf (.bl _))
      · cases hi
    · rename_i ds
      split at hi
      · rename_i hc
        cases hi
        cases hy with
        | tup hy ry =>
          have hx' : DR X.K X.mg F x d := by
            cases hx <;> first | exact .non | exact .bl _ | exact .int _ | exact .str _ | (cases hc.1; done)
          refine .inr (.inl ⟨_, _, rfl, .inr (Same.tp sf hy), flt_v hx' hc.1, flt_vs ry hc.2, ?_⟩)
          rw [inv_v hx' hc.1 ry hc.2]
          exact q _ _ (NR.val sf (.bl _))
      · cases hi
    · split at hi
      · cases hi
        cases hx
        cases hy
        exact .inr (.inr ⟨_, _, rfl, rfl, q _ _ (NR.val sf (.bl _))⟩)
      · cases hi
    · cases hi
theorem opd_notIn (hu : X.A.units + 65 < cLine) : OpD X (compareOp .NotIn) gNotIn := by
  refine OpD.of (OpR.or (op_notInD hu) (OpR.or op_notIn_seq op_notin_str)) fun F H x y d e rs Q sf hx hy hg q => ?_
  unfold gNotIn at hg
  cases hi : inD d e with
  | none => rw [hi] at hg; cases hg
  | some b =>
    rw [hi] at hg
    cases hg
    unfold inD at hi
    split at hi
    · rename_i ds
      split at hi
      · rename_i hc
        cases hi
        refine .inl ⟨_, toPys ds, (hx.dr sf).dp (shp_lay hc.1), ?_, hc.1, hc.2, ?_⟩
        · have := (hy.dr sf).dp (shp_lay hc.2)
          simpa only [toPy] using this
        · rw [any_py]
          exact q _ _ (NR.val sf (.bl _))
      · cases hi
    · rename_i ds
      split at hi
      · rename_i hc
        cases hi
        cases hy with
        | tup hy ry =>
          have hx' : DR X.K X.mg F x d := by
            cases hx <;> first | exact .non | exact .bl _ | exact .int _ | exact .str _ | (cases hc.1; done)
          refine .inr (.inl ⟨_, _, rfl, .inr (Same.tp sf hy), flt_v hx' hc.1, flt_vs ry hc.2, ?_⟩)
          rw [inv_v hx' hc.1 ry hc.2]
          exact q _ _ (NR.val sf (.bl _))
      · cases hi
    · split at hi
      · cases hi
        cases hx
        cases hy
        exact .inr (.inr ⟨_, _, rfl, rfl, q _ _ (NR.val sf (.bl _))⟩)
      · cases hi
    · cases hi
/-! ## is None -/
def isN : D → Bool
  | .non => true
  | _ => false
def gIsN (d e : D) : Option Rs := if isN e = true then some (.fz (.bl (isN d))) else none
def gNotN (d e : D) : Option Rs := if isN e = true then some (.fz (.bl (!isN d))) else none
theorem isN_v {K : PySem.W.Frag} {mg : Str → Option Value} {F H : Hp} {x : V} {d : D} (h : HR K mg F H x d) : decide (x = .non) = isN d := by cases h <;> rfl
theorem opd_isN : OpD X (compareOp .Is) gIsN := by
  refine OpD.of op_isN fun F H x y d e rs Q sf hx hy hg q => ?_
  unfold gIsN at hg
  split at hg
  · rename_i hc
    cases hg
    cases hy <;> first | (cases hc; done) | skip
    refine ⟨rfl, ?_⟩
    rw [isN_v hx]
    exact q _ _ (NR.val sf (.bl _))
  · cases hg
theorem opd_notN : OpD X (compareOp .IsNot) gNotN := by
  refine OpD.of op_notN fun F H x y d e rs Q sf hx hy hg q => ?_
  unfold gNotN at hg
  split at hg
  · rename_i hc
    cases hg
    cases hy <;> first | (cases hc; done) | skip
    refine ⟨rfl, ?_⟩
    rw [isN_v hx]
    exact q _ _ (NR.val sf (.bl _))
  · cases hg

/-! ## a op b op c -/
def mChain (g g' : D → D → Option Rs) (ma mb mc : M Pl) : M Rs := bnd ma fun p => bnd mb fun q => bnd (asB (fin2 g p q)) fun k => if k = true then bnd mc fun r => fin2 g' q r else ret (.fz (.bl false))
theorem asB_ok {W : WX} {G : GT} {F : Hp} {io : List Addr} {σ : L2.St} {α : Type} {γ : Type} {Rel : GT → Hp → List Addr → Hp → B.Env → L2.St → γ → α → Prop} {r : R Rs} {f : Bool → B.Env → R α} {Q : γ → Hp → Prop}
    (h : Post X.K X.mg W Rel G F io σ ((r.bnd fun r => match r with
      | .fz (.bl b) => ret b
      | _ => stk).bnd f) Q) (Q' : V → Hp → Prop)
    (k : ∀ b β H' F', FE G io F F' → BI X.K X.mg G F' io β σ H' → Post X.K X.mg W Rel G F io σ (f b β) Q → Q' (.bl b) H') : Post X.K X.mg W (relE X.K X.mg) G F io σ r Q' := by
  rw [R.bnd_assoc] at h
  refine h.bnd fun r β v H' F' fe I rr h2 => ?_
  cases r with
  | own d => exact h2.elim
  | fz d =>
    cases d with
    | bl b =>
      cases (show DR X.K X.mg F' v (.bl b) from rr)
      exact k b β H' F' fe I h2
    | _ => exact h2.elim
theorem be_chain {a b c : Expr} {pos : Pos} {op op' : CmpOp} {g g' : D → D → Option Rs} {ma mb mc : M Pl} (ho : OpD X (compareOp op) g) (ho' : OpD X (compareOp op') g') (ha : BP X a ma) (hb : BP X b mb) (hc : BP X c mc)
    (hm : lastMarks [op, op'] [b, c] = false := by first | rfl | exact nomark _) : BE X (.Compare a [op, op'] [b, c] pos) (mChain g g' ma mb mc) := by
  refine fun W tk => (pe_chain ho ho' (ha W tk) (hb W tk) (hc W tk) hm).imp fun σ H Q h => ?_
  obtain ⟨G, io, F, β, I, h⟩ := h
  refine ⟨G, io, F, β, I, h.bnd fun p β1 v H1 F1 fe1 I1 r1 h1 => ⟨G, io, F1, β1, I1, (h1.mono fe1).bnd fun q β2 w H2 F2 fe2 I2 r2 h2 => ?_⟩⟩
  have h2 := h2.mono fe2
  refine fin2_post (Q := fun z H3 => ∃ k, z = .bl k ∧ _) I2 (r1.mono fe2.same) r2 (asB_ok h2 _ fun k β3 H3 F3 fe3 I3 h3 => ?_)
  refine ⟨k, rfl, ?_⟩
  cases k with
  | true =>
    refine ⟨G, io, F3, β3, I3, (h3.mono fe3).bnd fun r β4 u H4 F4 fe4 I4 r4 h4 => ?_⟩
    exact fin2_post I4 ((r2.mono fe3.same).mono fe4.same) r4 (h4.mono fe4)
  | false => exact h3 _ H3 F3 fe3 I3 (.bl false)

/-! ## subscripts -/
def gIx : D → D → Option Rs
  | .nd .lst ds, .int i => (atI ds i).map .fz
  | .nd .scr ds, .int i => (atI ds i).map .fz
  | .nd .tup ds, .int i => (atI ds i).map .fz
  | .str z, .int i => if z.length ≤ sizeLine then (atI z.cps.toList i).map fun c => .fz (.str ⟨#[c]⟩) else none
  | _, _ => none
theorem DRs.atI {K : PySem.W.Frag} {mg : Str → Option Value} {F : Hp} {vs : List V} {ds : List D} {i : Int} {d : D} (h : DRs K mg F vs ds) (e : L2.atI ds i = some d) : ∃ v, L2.atI vs i = some v ∧ DR K mg F v d := by
  unfold L2.atI at e ⊢
  rw [h.length]
  cases e2 : ixN ds.length i with
  | none => rw [e2] at e; cases e
  | some j =>
    rw [e2] at e
    exact h.getD e
theorem ixD_seq : IxR X (rD X.K X.mg gIx) := fun value slice pins s σ H x y v u Q I rx ry h hs => by
    refine ix_seq value slice pins s σ H x y v u Q I rx ry ?_ hs
    obtain ⟨F, d, e, rs, sf, hx, hy, hg, q⟩ := h
    unfold gIx at hg
    split at hg
    · rename_i ds i
      cases hy
      cases hx with
      | lst hx rx =>
        cases e1 : L2.atI ds i with
        | none => rw [e1] at hg; cases hg
        | some d =>
          rw [e1] at hg
          cases hg
          obtain ⟨w, ew, rw'⟩ := rx.atI e1
          exact .inl ⟨_, _, _, _, rfl, rfl, .inl (.inl hx), ew, q _ _ (NR.val sf rw')⟩
    · rename_i ds i
      cases hy
      cases hx with
      | scr hx rx =>
        cases e1 : L2.atI ds i with
        | none => rw [e1] at hg; cases hg
        | some d =>
          rw [e1] at hg
          cases hg
          obtain ⟨w, ew, rw'⟩ := rx.atI e1
          exact .inl ⟨_, _, _, _, rfl, rfl, hx, ew, q _ _ (NR.val sf rw')⟩
    · rename_i ds i
      cases hy
      cases hx with
      | tup hx rx =>
        cases e1 : L2.atI ds i with
        | none => rw [e1] at hg; cases hg
        | some d =>
          rw [e1] at hg
          cases hg
          obtain ⟨w, ew, rw'⟩ := rx.atI e1
          exact .inr (.inl ⟨_, _, _, _, rfl, rfl, Same.tp sf hx, ew, q _ _ (NR.val sf rw')⟩)
    · split at hg
      · rename_i z i hz
        cases hy
        cases hx
        cases e1 : L2.atI z.cps.toList i with
        | none => rw [e1] at hg; cases hg
        | some d =>
          rw [e1] at hg
          cases hg
          exact .inr (.inr ⟨_, _, _, rfl, rfl, hz, e1, q _ _ (NR.val sf (.str _))⟩)
      · cases hg
    · cases hg
theorem be_ix {a b : Expr} {pos : Pos} {ma mb : M Pl} (ha : BP X a ma) (hb : BP X b mb) (hs : PlainIx b := by exact fun _ _ => rfl) : BE X (.Subscript a b pos) (mOp gIx ma mb) := by
  refine fun W tk => (pe_ix ixD_seq (ha W tk) (hb W tk) hs).imp fun σ H Q h => ?_
  obtain ⟨G, io, F, β, I, h⟩ := h
  refine ⟨G, io, F, β, I, h.bnd fun p β1 v H1 F1 fe1 I1 r1 h1 => ⟨G, io, F1, β1, I1, (h1.mono fe1).bnd fun q β2 w H2 F2 fe2 I2 r2 h2 => ?_⟩⟩
  exact fin2_post I2 (r1.mono fe2.same) r2 (h2.mono fe2)
/-! slices -/
/-- an optional int -/
def BO (X : Cx) (e : Option Expr) (m : M (Option Int)) : Prop := ∀ W, Takes X W → PO X e (gOf X.K X.mg W (fun _ _ _ _ _ _ v a => v = a) m)
theorem _root_.L2.PO.imp {e : Option Expr} {t t' : TO} (h : PO X e t) (k : ∀ σ H Q, t' σ H Q → t σ H Q) : PO X e t' := ⟨fun pins s σ H Q I q => h.run pins s σ H Q I (k σ H Q q)⟩
def mNoPart : M (Option Int) := ret none
def mPart (m : M Rs) : M (Option Int) := bnd m fun r => match r with
  | .fz (.int i) => ret (some i)
  | _ => stk
theorem bo_none : BO X none mNoPart := fun W tk => po_none.imp fun σ H Q ⟨_, _, F, _, I, h⟩ => h _ H F .refl I rfl
theorem bo_some {e : Expr} {m : M Rs} (h : BE X e m) : BO X (some e) (mPart m) := by
  refine fun W tk => (po_some (h W tk)).imp fun σ H Q h => ?_
  obtain ⟨G, io, F, β, I, h⟩ := h
  refine ⟨G, io, F, β, I, h.bnd fun r β1 v H1 F1 fe1 I1 r1 h1 => ?_⟩
  cases r with
  | own d => exact h1.elim
  | fz d =>
    cases d with
    | int i =>
      cases (show DR X.K X.mg F1 v (.int i) from r1)
      exact ⟨i, rfl, h1 _ H1 F1 fe1 I1 rfl⟩
    | _ => exact h1.elim
/-- the items of xs[lo:hi] -/
def cut {α : Type} (xs : List α) (lo hi : Option Int) : List α := (xs.drop (HT.sIx xs.length 0 lo)).take (HT.sIx xs.length xs.length hi - HT.sIx xs.length 0 lo)
def gSl (lo hi : Option Int) : D → Option Rs
  | .nd .lst ds => some (.own (.nd .lst (cut ds lo hi)))
  | .nd .scr ds => some (.own (.nd .lst (cut ds lo hi)))
  | .nd .tup ds => some (.fz (.nd .tup (cut ds lo hi)))
  | _ => none
def mSl (ma : M Pl) (ml mh : M (Option Int)) : M Rs := bnd ma fun p => bnd ml fun lo => bnd mh fun hi => fin1 (gSl lo hi) p
theorem DRs.cut {K : PySem.W.Frag} {mg : Str → Option Value} {F : Hp} {vs : List V} {ds : List D} (h : DRs K mg F vs ds) (lo hi : Option Int) : DRs K mg F (cutV vs lo hi) (B.cut ds lo hi) := by
  unfold cutV B.cut
  rw [h.length]
  exact (h.drop _).take _
theorem cut_all {vs : List V} {lo hi : Option Int} (h : HT.sIx vs.length 0 lo = 0 ∧ HT.sIx vs.length vs.length hi = vs.length) : cutV vs lo hi = vs := by
  unfold cutV
  rw [h.1, h.2, List.drop_zero, Nat.sub_zero, List.take_length]
theorem be_slice {e : Expr} {lo hi : Option Expr} {p2 pos : Pos} {ma : M Pl} {ml mh : M (Option Int)} (ha : BP X e ma) (hl : BO X lo ml) (hh : BO X hi mh) : BE X (.Subscript e (.Slice lo hi none p2) pos) (mSl ma ml mh) := by
  have key : L2.SlR X (fun x lo hi H Q => ∃ F d r, Same F H ∧ HR X.K X.mg F H x d ∧ gSl lo hi d = some r ∧ ∀ z H', NR X.K X.mg F H r z H' → Q z H') := fun pins s σ H x v vl vu lo hi sl Q I rx hs pl pu h => by
    refine L2.SlR.or sl_list sl_tupA pins s σ H x v vl vu lo hi sl Q I rx hs pl pu ?_
    obtain ⟨F, d, r, sf, hx, hg, q⟩ := h
    unfold gSl at hg
    split at hg
    · cases hg
      cases hx with
      | lst hx rx => exact .inl ⟨_, _, rfl, .inl (.inl hx), fun p hp => q _ _ (NR.lst hp (rx.cut lo hi))⟩
    · cases hg
      cases hx with
      | scr hx rx => exact .inl ⟨_, _, rfl, hx, fun p hp => q _ _ (NR.lst hp (rx.cut lo hi))⟩
    · cases hg
      cases hx with
      | tup hx rx =>
        refine .inr ⟨_, _, rfl, Same.tp sf hx, fun hw => ?_, fun _ p hp => q _ _ (NR.tup sf hp (rx.cut lo hi))⟩
        have c := rx.cut lo hi
        rw [cut_all hw] at c
        exact q _ _ (NR.val sf (.tup hx c))
    · cases hg
  refine fun W tk => (pe_slice key (ha W tk) (hl W tk) (hh W tk)).imp fun σ H Q h => ?_
  obtain ⟨G, io, F, β, I, h⟩ := h
  refine ⟨G, io, F, β, I, h.bnd fun p β1 v H1 F1 fe1 I1 r1 h1 => ⟨G, io, F1, β1, I1, (h1.mono fe1).bnd fun lo β2 w H2 F2 fe2 I2 r2 h2 => ?_⟩⟩
  cases (show w = lo from r2)
  refine ⟨G, io, F2, β2, I2, (h2.mono fe2).bnd fun hi β3 w H3 F3 fe3 I3 r3 h3 => ?_⟩
  cases (show w = hi from r3)
  exact fin1_post I3 ((r1.mono fe2.same).mono fe3.same) (h3.mono fe3)
def gRevL : D → Option Rs
  | .nd .lst ds => some (.own (.nd .lst ds.reverse))
  | _ => none
theorem be_revL {e : Expr} {ma : M Pl} {k : Nat} {p1 p2 p3 pos : Pos} (ha : BP X e ma) : BE X (.Subscript e (.Slice none none (some (.UnaryOp .USub (.Constant (.int 1) k p1) p2)) p3) pos) (mUn gRevL ma) := by
  refine fun W tk => (pe_revL (ha W tk)).imp fun σ H Q h => ?_
  obtain ⟨G, io, F, β, I, h⟩ := h
  refine ⟨G, io, F, β, I, h.bnd fun p β1 v H1 F1 fe1 I1 r1 h1 => ?_⟩
  obtain ⟨F, d, r, sf, hx, hg, q⟩ := fin1_post I1 r1 (h1.mono fe1)
  unfold gRevL at hg
  split at hg
  · cases hg
    cases hx with
    | lst hx rx => exact ⟨_, _, rfl, .inl (.inl hx), fun p hp => q _ _ (NR.lst hp rx.reverse)⟩
  · cases hg
/-! ## fields -/
def FldOk (X : Cx) (c f : Str) : Prop := ∀ C, X.mg c = some (.ref C) → Cls X.K C ∧ NoAttr X.K C f
def gFld (c f : Str) : D → Option Rs
  | .nd (.ins c' ns) ds => if c' = c then ((ns.zip ds).lookup f).map .fz else none
  | _ => none
theorem DRs.look {K : PySem.W.Frag} {mg : Str → Option Value} {F : Hp} {f : Str} {d : D} : ∀ {fs : List (Str × V)} {ds : List D}, DRs K mg F (fs.map (·.2)) ds → ((fs.map (·.1)).zip ds).lookup f = some d → ∃ v, fs.lookup f = some v ∧ DR K mg F v d
  | [], _, .nil, h => by cases h
  | (n, v) :: fs, _, .cons a b, h => by
    simp only [List.map_cons, List.zip_cons_cons, List.lookup_cons] at h ⊢
    cases e : f == n with
    | true =>
      rw [e] at h
      cases h
      exact ⟨_, rfl, a⟩
    | false =>
      rw [e] at h
      exact DRs.look b h
theorem be_fld (c : Str) {e : Expr} {f : Str} {pos : Pos} {ma : M Pl} (hf : FldOk X c f) (ha : BP X e ma) (hb : attributeBase e f X.env (eval e X.env) = eval e X.env := by rfl) : BE X (.Attribute e f pos) (mUn (gFld c f) ma) := by
  refine fun W tk => (pe_fld (ha W tk) hb).imp fun σ H Q h => ?_
  obtain ⟨G, io, F, β, I, h⟩ := h
  refine ⟨G, io, F, β, I, h.bnd fun p β1 v H1 F1 fe1 I1 r1 h1 => ?_⟩
  obtain ⟨F, d, r, sf, hx, hg, q⟩ := fin1_post I1 r1 (h1.mono fe1)
  unfold gFld at hg
  split at hg
  · split at hg
    · rename_i ec
      subst ec
      cases hx with
      | ins hx g rx =>
        rename_i C dx fs
        cases e1 : ((fs.map (·.1)).zip _).lookup f with
        | none => rw [e1] at hg; cases hg
        | some d =>
          rw [e1] at hg
          cases hg
          obtain ⟨w, ew, rw'⟩ := rx.look e1
          obtain ⟨k1, k2⟩ := hf _ g
          exact ⟨_, _, _, _, _, rfl, hx, k1, k2, ew, q _ _ (NR.val sf rw')⟩
    · cases hg
  · cases hg
end
/-! ## built-in functions -/
inductive HRs (K : PySem.W.Frag) (mg : Str → Option Value) (F H : Hp) : List V → List D → Prop
  | nil : HRs K mg F H [] []
  | cons {v : V} {vs : List V} {d : D} {ds : List D} : HR K mg F H v d → HRs K mg F H vs ds → HRs K mg F H (v :: vs) (d :: ds)
def looks (β : B.Env) : List Pl → Option (List D)
  | [] => some []
  | p :: ps => match look β p, looks β ps with
    | some d, some ds => some (d :: ds)
    | _, _ => none
theorem BI.looks {K : PySem.W.Frag} {mg : Str → Option Value} {G : GT} {F H : Hp} {io : List Addr} {β : B.Env} {σ : L2.St} (I : BI K mg G F io β σ H) : ∀ {vs : List V} {ps : List Pl} {ds : List D}, PRs K mg F σ vs ps → B.looks β ps = some ds → HRs K mg F H vs ds
  | _, _, ds, .nil, e => by
    cases e
    exact .nil
  | _, _, ds, .cons (p := p) (ps := ps) a b, e => by
    simp only [B.looks] at e
    cases e1 : B.look β p with
    | none => rw [e1] at e; cases e
    | some d =>
      cases e2 : B.looks β ps with
      | none => rw [e1, e2] at e; cases e
      | some es =>
        rw [e1, e2] at e
        cases e
        exact .cons (I.look a e1) (BI.looks I b e2)
def finA (g : List D → Option Rs) (ps : List Pl) : M Rs := fun β => match (looks β ps).bind g with
  | some r => .ok r β
  | none => .stuck
def mCall (g : List D → Option Rs) (m : M (List Pl)) : M Rs := bnd m (finA g)
/-- a call of a known value, by data -/
def rA (K : PySem.W.Frag) (mg : Str → Option Value) (g : List D → Option Rs) : List V → Hp → VK → Prop := fun xs H Q => ∃ F ds r, Same F H ∧ HRs K mg F H xs ds ∧ g ds = some r ∧ ∀ z H', NR K mg F H r z H' → Q z H'
def CallD (X : Cx) (f : Value) (g : List D → Option Rs) : Prop := CallR X f (rA X.K X.mg g)
theorem CallD.of {X : Cx} {f : Value} {r : List V → Hp → VK → Prop} {g : List D → Option Rs} (h : CallR X f r)
    (k : ∀ F H xs ds rs (Q : VK), Same F H → HRs X.K X.mg F H xs ds → g ds = some rs → (∀ z H', NR X.K X.mg F H rs z H' → Q z H') → r xs H Q) : CallD X f g :=
  fun pins s σ H xs us Q I r ⟨F, ds, rs, sf, hx, hg, q⟩ => h pins s σ H xs us Q I r (k F H xs ds rs Q sf hx hg q)
theorem finA_post {X : Cx} {W : WX} {G : GT} {F : Hp} {io : List Addr} {σ : L2.St} {g : List D → Option Rs} {ps : List Pl} {β : B.Env} {vs : List V} {H : Hp} {Q : VK} (I : BI X.K X.mg G F io β σ H) (rp : PRs X.K X.mg F σ vs ps)
    (h : Post X.K X.mg W (relE X.K X.mg) G F io σ (finA g ps β) Q) : rA X.K X.mg g vs H Q := by
  unfold finA at h
  cases e : (looks β ps).bind g with
  | none => rw [e] at h; exact h.elim
  | some r =>
    rw [e] at h
    obtain ⟨ds, e1, e2⟩ := Option.bind_eq_some_iff.mp e
    refine ⟨F, ds, r, I.sf, I.looks rp e1, e2, fun z H' n => ?_⟩
    obtain ⟨F', fe, I', rr⟩ := I.step n
    exact h z H' F' fe I' rr
section
variable {X : Cx} {x : Str} {p pos : Pos} {e : Expr} {es : List Expr} {idb T : String} {g : List D → Option Rs} {ma : M (List Pl)}
theorem be_callB (hc : CallD X (.builtin idb) g) (hg : Gl X x) (hm : X.mg x = none) (hv : bootBuiltins x = some (.builtin idb)) (ha : BA X (e :: es) ma) (hn : x ≠ "__name__" := by decide) (hdb : (x == ("__debug__" : Str)) = false := by decide)
    (he : starEach (e :: es) X.env = (false, eval e X.env) :: starEach es X.env := by rfl) (hpl : (backTo pos (starEach es X.env)).any (·.1) = false := by rfl) : BE X (.Call (.Name x p) (e :: es) [] pos) (mCall g ma) := by
  refine fun W tk => (pe_callB hc hg hm hv (ha W tk) hn hdb he hpl).imp fun σ H Q h => ?_
  obtain ⟨G, io, F, β, I, h⟩ := h
  exact ⟨G, io, F, β, I, h.bnd fun p β1 v H1 F1 fe1 I1 r1 h1 => finA_post I1 r1 (h1.mono fe1)⟩
theorem be_callTy (hc : CallD X (.type T) g) (hg : Gl X x) (hm : X.mg x = none) (hv : bootBuiltins x = some (.type T)) (ha : BA X (e :: es) ma) (hn : x ≠ "__name__" := by decide) (hdb : (x == ("__debug__" : Str)) = false := by decide)
    (he : starEach (e :: es) X.env = (false, eval e X.env) :: starEach es X.env := by rfl) (hpl : (backTo pos (starEach es X.env)).any (·.1) = false := by rfl) : BE X (.Call (.Name x p) (e :: es) [] pos) (mCall g ma) := by
  refine fun W tk => (pe_callTy hc hg hm hv (ha W tk) hn hdb he hpl).imp fun σ H Q h => ?_
  obtain ⟨G, io, F, β, I, h⟩ := h
  exact ⟨G, io, F, β, I, h.bnd fun p β1 v H1 F1 fe1 I1 r1 h1 => finA_post I1 r1 (h1.mono fe1)⟩
def gLen : List D → Option Rs
  | [.nd .lst ds] => some (.fz (.int ds.length))
  | [.nd .scr ds] => some (.fz (.int ds.length))
  | [.nd .tup ds] => some (.fz (.int ds.length))
  | [.str z] => if z.length ≤ sizeLine then some (.fz (.int z.length)) else none
  | _ => none
theorem cd_len : CallD X (.builtin "len") gLen := by
  refine CallD.of (CallR.or call_len_seq call_len_str) fun F H xs ds rs Q sf hx hg q => ?_
  unfold gLen at hg
  split at hg
  · cases hg
    cases hx with
    | cons h1 h2 =>
      cases h2
      cases h1 with
      | lst h r =>
        refine .inl ⟨_, _, rfl, .inl (.inl (.inl h)), ?_⟩
        rw [r.length]
        exact q _ _ (NR.val sf (.int _))
  · cases hg
    cases hx with
    | cons h1 h2 =>
      cases h2
      cases h1 with
      | scr h r =>
        refine .inl ⟨_, _, rfl, .inl h, ?_⟩
        rw [r.length]
        exact q _ _ (NR.val sf (.int _))
  · cases hg
    cases hx with
    | cons h1 h2 =>
      cases h2
      cases h1 with
      | tup h r =>
        refine .inl ⟨_, _, rfl, .inr (Same.tp sf h), ?_⟩
        rw [r.length]
        exact q _ _ (NR.val sf (.int _))
  · split at hg
    · rename_i hz
      cases hg
      cases hx with
      | cons h1 h2 =>
        cases h2
        cases h1
        exact .inr ⟨_, rfl, hz, q _ _ (NR.val sf (.int _))⟩
    · cases hg
  · cases hg
def gList : List D → Option Rs
  | [.nd .lst ds] => some (.own (.nd .lst ds))
  | [.nd .tup ds] => some (.own (.nd .lst ds))
  | _ => none
theorem cd_list : CallD X (.type "list") gList := by
  refine CallD.of call_list_of fun F H xs ds rs Q sf hx hg q => ?_
  unfold gList at hg
  split at hg
  · cases hg
    cases hx with
    | cons h1 h2 =>
      cases h2
      cases h1 with
      | lst h r => exact ⟨_, _, rfl, .inl (.inl (.inl h)), fun l hl => q _ _ (NR.lst hl r)⟩
  · cases hg
    cases hx with
    | cons h1 h2 =>
      cases h2
      cases h1 with
      | tup h r => exact ⟨_, _, rfl, .inr (Same.tp sf h), fun l hl => q _ _ (NR.lst hl r)⟩
  · cases hg
def gTuple : List D → Option Rs
  | [.nd .lst ds] => some (.fz (.nd .tup ds))
  | [.nd .tup ds] => some (.fz (.nd .tup ds))
  | _ => none
theorem cd_tuple : CallD X (.type "tuple") gTuple := by
  refine CallD.of call_tuple_of fun F H xs ds rs Q sf hx hg q => ?_
  unfold gTuple at hg
  split at hg
  · cases hg
    cases hx with
    | cons h1 h2 =>
      cases h2
      cases h1 with
      | lst h r => exact ⟨_, _, rfl, .inl ⟨.inl (.inl h), fun l hl => q _ _ (NR.tup sf hl r)⟩⟩
  · cases hg
    cases hx with
    | cons h1 h2 =>
      cases h2
      cases h1 with
      | tup h r => exact ⟨_, _, rfl, .inr ⟨Same.tp sf h, q _ _ (NR.val sf (.tup h r))⟩⟩
  · cases hg
def gInt : List D → Option Rs
  | [.int i] => some (.fz (.int i))
  | [.bl b] => some (.fz (.int (if b then 1 else 0)))
  | _ => none
theorem cd_int : CallD X (.type "int") gInt := by
  refine CallD.of call_int1 fun F H xs ds rs Q sf hx hg q => ?_
  unfold gInt at hg
  split at hg
  · cases hg
    cases hx with
    | cons h1 h2 =>
      cases h2
      cases h1
      exact .inl ⟨_, rfl, q _ _ (NR.val sf (.int _))⟩
  · cases hg
    cases hx with
    | cons h1 h2 =>
      cases h2
      cases h1
      exact .inr ⟨_, rfl, q _ _ (NR.val sf (.int _))⟩
  · cases hg
def gI2 (f : Int → Int → Int) : List D → Option Rs
  | [.int i, .int j] => some (.fz (.int (f i j)))
  | _ => none
theorem cd_I2 {id : String} {f : Int → Int → Int} (h : CallR X (.builtin id) (fun xs H Q => ∃ i j, xs = [.int i, .int j] ∧ Q (.int (f i j)) H)) : CallD X (.builtin id) (gI2 f) := by
  refine CallD.of h fun F H xs ds rs Q sf hx hg q => ?_
  unfold gI2 at hg
  split at hg
  · cases hg
    cases hx with
    | cons h1 h2 =>
      cases h2 with
      | cons h2 h3 =>
        cases h3
        cases h1
        cases h2
        exact ⟨_, _, rfl, q _ _ (NR.val sf (.int _))⟩
  · cases hg
theorem cd_max2 (hc : X.calm = true) : CallD X (.builtin "max") (gI2 fun i j => if j > i then j else i) := cd_I2 (call_max2 hc)
theorem cd_min2 (hc : X.calm = true) : CallD X (.builtin "min") (gI2 fun i j => if j < i then j else i) := cd_I2 (call_min2 hc)
/-- the ints, the truths of a list -/
def ints? : List D → Option (List Int)
  | [] => some []
  | .int i :: ds => (ints? ds).map (i :: ·)
  | _ => none
def bls? : List D → Option (List Bool)
  | [] => some []
  | .bl b :: ds => (bls? ds).map (b :: ·)
  | _ => none
theorem ints_of : ∀ {ds : List D} {ns : List Int}, ints? ds = some ns → ds = ns.map D.int
  | [], ns, h => by cases h; rfl
  | .int i :: ds, ns, h => by
    simp only [ints?] at h
    obtain ⟨ms, e, rfl⟩ := Option.map_eq_some_iff.mp h
    rw [ints_of e]
    rfl
  | .non :: _, _, h => by cases h
  | .bl _ :: _, _, h => by cases h
  | .str _ :: _, _, h => by cases h
  | .nd _ _ :: _, _, h => by cases h
theorem bls_of : ∀ {ds : List D} {ns : List Bool}, bls? ds = some ns → ds = ns.map D.bl
  | [], ns, h => by cases h; rfl
  | .bl i :: ds, ns, h => by
    simp only [bls?] at h
    obtain ⟨ms, e, rfl⟩ := Option.map_eq_some_iff.mp h
    rw [bls_of e]
    rfl
  | .non :: _, _, h => by cases h
  | .int _ :: _, _, h => by cases h
  | .str _ :: _, _, h => by cases h
  | .nd _ _ :: _, _, h => by cases h
theorem ints_map : ∀ ns : List Int, ints? (ns.map D.int) = some ns
  | [] => rfl
  | n :: ns => by
    rw [List.map_cons, ints?, ints_map ns]
    rfl
theorem bls_map : ∀ ns : List Bool, bls? (ns.map D.bl) = some ns
  | [] => rfl
  | n :: ns => by
    rw [List.map_cons, bls?, bls_map ns]
    rfl
def gLI (f : List Int → Option D) : List D → Option Rs
  | [.nd .lst ds] => (ints? ds).bind fun ns => (f ns).map .fz
  | _ => none
def gLB (f : List Bool → Bool) : List D → Option Rs
  | [.nd .lst ds] => (bls? ds).map fun ns => .fz (.bl (f ns))
  | _ => none
theorem cd_sum (hc : X.calm = true) : CallD X (.builtin "sum") (gLI fun ns => some (.int ns.sum)) := by
  refine CallD.of (cr_sum hc) fun F H xs ds rs Q sf hx hg q => ?_
  unfold gLI at hg
  split at hg
  · obtain ⟨ns, e1, e2⟩ := Option.bind_eq_some_iff.mp hg
    cases e2
    cases hx with
    | cons h1 h2 =>
      cases h2
      cases h1 with
      | lst h r =>
        rw [ints_of e1] at r
        have := r.int_of
        subst this
        exact ⟨_, _, rfl, .inl (.inl h), q _ _ (NR.val sf (.int _))⟩
  · cases hg
theorem cd_any (hc : X.calm = true) : CallD X (.builtin "any") (gLB fun bs => bs.any id) := by
  refine CallD.of (cr_any hc) fun F H xs ds rs Q sf hx hg q => ?_
  unfold gLB at hg
  split at hg
  · obtain ⟨ns, e1, e2⟩ := Option.map_eq_some_iff.mp hg
    cases e2
    cases hx with
    | cons h1 h2 =>
      cases h2
      cases h1 with
      | lst h r =>
        rw [bls_of e1] at r
        have := r.bl_of
        subst this
        exact ⟨_, _, rfl, .inl (.inl h), q _ _ (NR.val sf (.bl _))⟩
  · cases hg
theorem cd_all (hc : X.calm = true) : CallD X (.builtin "all") (gLB fun bs => bs.all id) := by
  refine CallD.of (cr_all hc) fun F H xs ds rs Q sf hx hg q => ?_
  unfold gLB at hg
  split at hg
  · obtain ⟨ns, e1, e2⟩ := Option.map_eq_some_iff.mp hg
    cases e2
    cases hx with
    | cons h1 h2 =>
      cases h2
      cases h1 with
      | lst h r =>
        rw [bls_of e1] at r
        have := r.bl_of
        subst this
        exact ⟨_, _, rfl, .inl (.inl h), q _ _ (NR.val sf (.bl _))⟩
  · cases hg
/-- the greatest, the least -/
def maxI : List Int → Option D
  | [] => none
  | n :: ns => some (.int (ns.foldl (fun a b => if b > a then b else a) n))
def minI : List Int → Option D
  | [] => none
  | n :: ns => some (.int (ns.foldl (fun a b => if b < a then b else a) n))
theorem foldl_max (n : Int) : ∀ (ns : List Int), (ns.foldl (fun a b => if b > a then b else a) n = n ∨ ns.foldl (fun a b => if b > a then b else a) n ∈ ns) ∧ n ≤ ns.foldl (fun a b => if b > a then b else a) n ∧ ∀ y ∈ ns, y ≤ ns.foldl (fun a b => if b > a then b else a) n := by
  intro ns
  induction ns generalizing n with
  | nil => exact ⟨.inl rfl, Int.le_refl _, fun y hy => nomatch hy⟩
  | cons b ns ih =>
    obtain ⟨h1, h2, h3⟩ := ih (if b > n then b else n)
    simp only [List.foldl_cons]
    have hm : n ≤ (if b > n then b else n) ∧ b ≤ (if b > n then b else n) := by split <;> omega
    refine ⟨?_, ?_, fun y hy => ?_⟩
    · rcases h1 with h1 | h1
      · rw [h1]
        split
        · exact .inr List.mem_cons_self
        · exact .inl rfl
      · exact .inr (List.mem_cons_of_mem _ h1)
    · exact Int.le_trans hm.1 h2
    · rcases List.mem_cons.mp hy with rfl | hy
      · exact Int.le_trans hm.2 h2
      · exact h3 y hy
theorem foldl_min (n : Int) : ∀ (ns : List Int), (ns.foldl (fun a b => if b < a then b else a) n = n ∨ ns.foldl (fun a b => if b < a then b else a) n ∈ ns) ∧ ns.foldl (fun a b => if b < a then b else a) n ≤ n ∧ ∀ y ∈ ns, ns.foldl (fun a b => if b < a then b else a) n ≤ y := by
  intro ns
  induction ns generalizing n with
  | nil => exact ⟨.inl rfl, Int.le_refl _, fun y hy => nomatch hy⟩
  | cons b ns ih =>
    obtain ⟨h1, h2, h3⟩ := ih (if b < n then b else n)
    simp only [List.foldl_cons]
    have hm : (if b < n then b else n) ≤ n ∧ (if b < n then b else n) ≤ b := by split <;> omega
    refine ⟨?_, ?_, fun y hy => ?_⟩
    · rcases h1 with h1 | h1
      · rw [h1]
        split
        · exact .inr List.mem_cons_self
        · exact .inl rfl
      · exact .inr (List.mem_cons_of_mem _ h1)
    · exact Int.le_trans h2 hm.1
    · rcases List.mem_cons.mp hy with rfl | hy
      · exact Int.le_trans h2 hm.2
      · exact h3 y hy
theorem cd_max (hc : X.calm = true) : CallD X (.builtin "max") (gLI maxI) := by
  refine CallD.of (cr_max hc) fun F H xs ds rs Q sf hx hg q => ?_
  unfold gLI at hg
  split at hg
  · obtain ⟨ns, e1, e2⟩ := Option.bind_eq_some_iff.mp hg
    cases hx with
    | cons h1 h2 =>
      cases h2
      cases h1 with
      | lst h r =>
        rw [ints_of e1] at r
        have := r.int_of
        subst this
        cases ns with
        | nil => cases e2
        | cons n ns =>
          cases e2
          obtain ⟨k1, k2, k3⟩ := foldl_max n ns
          refine ⟨_, _, rfl, .inl (.inl h), Nat.succ_pos _, fun m hm hle => ?_⟩
          have e : m = ns.foldl (fun a b => if b > a then b else a) n := by
            have a1 : ns.foldl (fun a b => if b > a then b else a) n ≤ m := by
              rcases k1 with k1 | k1
              · rw [k1]
                exact hle n List.mem_cons_self
              · exact hle _ (List.mem_cons_of_mem _ k1)
            have a2 : m ≤ ns.foldl (fun a b => if b > a then b else a) n := by
              rcases List.mem_cons.mp hm with rfl | hm
              · exact k2
              · exact k3 m hm
            omega
          rw [e]
          exact q _ _ (NR.val sf (.int _))
  · cases hg
theorem cd_min (hc : X.calm = true) : CallD X (.builtin "min") (gLI minI) := by
  refine CallD.of (cr_min hc) fun F H xs ds rs Q sf hx hg q => ?_
  unfold gLI at hg
  split at hg
  · obtain ⟨ns, e1, e2⟩ := Option.bind_eq_some_iff.mp hg
    cases hx with
    | cons h1 h2 =>
      cases h2
      cases h1 with
      | lst h r =>
        rw [ints_of e1] at r
        have := r.int_of
        subst this
        cases ns with
        | nil => cases e2
        | cons n ns =>
          cases e2
          obtain ⟨k1, k2, k3⟩ := foldl_min n ns
          refine ⟨_, _, rfl, .inl (.inl h), Nat.succ_pos _, fun m hm hle => ?_⟩
          have e : m = ns.foldl (fun a b => if b < a then b else a) n := by
            have a1 : m ≤ ns.foldl (fun a b => if b < a then b else a) n := by
              rcases k1 with k1 | k1
              · rw [k1]
                exact hle n List.mem_cons_self
              · exact hle _ (List.mem_cons_of_mem _ k1)
            have a2 : ns.foldl (fun a b => if b < a then b else a) n ≤ m := by
              rcases List.mem_cons.mp hm with rfl | hm
              · exact k2
              · exact k3 m hm
            omega
          rw [e]
          exact q _ _ (NR.val sf (.int _))
  · cases hg
/-! ## displays -/
def allD : List Pl → Option (List D)
  | [] => some []
  | .d d :: ps => (allD ps).map (d :: ·)
  | .sl _ :: _ => none
theorem PRs.all {K : PySem.W.Frag} {mg : Str → Option Value} {F : Hp} {σ : L2.St} : ∀ {vs : List V} {ps : List Pl} {ds : List D}, PRs K mg F σ vs ps → allD ps = some ds → DRs K mg F vs ds
  | _, _, _, .nil, e => by
    cases e
    exact .nil
  | _, _, _, .cons (p := .d d) a b, e => by
    simp only [allD] at e
    obtain ⟨es, e1, rfl⟩ := Option.map_eq_some_iff.mp e
    exact .cons a (PRs.all b e1)
  | _, _, _, .cons (p := .sl i) a b, e => by cases e
def mTup (m : M (List Pl)) : M Rs := bnd m fun ps => match allD ps with
  | some ds => if ds.length ≤ sizeLine then ret (.fz (.nd .tup ds)) else stk
  | none => stk
def mLst (m : M (List Pl)) : M Rs := bnd m fun ps => match allD ps with
  | some ds => if ds.length ≤ sizeLine then ret (.own (.nd .lst ds)) else stk
  | none => stk
theorem be_tup {x1 : Nat} (ha : BA X es ma) : BE X (.Tuple es x1 pos) (mTup ma) := by
  refine fun W tk => (pe_tup (ha W tk)).imp fun σ H Q h => ?_
  obtain ⟨G, io, F, β, I, h⟩ := h
  refine ⟨G, io, F, β, I, h.bnd fun ps β1 vs H1 F1 fe1 I1 r1 h1 => ?_⟩
  cases e : allD ps with
  | none => rw [e] at h1; exact h1.elim
  | some ds =>
    rw [e] at h1
    simp only at h1
    have r := PRs.all r1 e
    by_cases hz : ds.length ≤ sizeLine
    · rw [if_pos hz] at h1
      refine ⟨by rw [r.length]; exact hz, fun p hp => ?_⟩
      obtain ⟨F2, fe2, I2, rr⟩ := I1.step (NR.tup I1.sf hp r)
      exact h1 _ _ F2 (fe1.trans fe2) I2 rr
    · rw [if_neg hz] at h1
      exact h1.elim
theorem be_lst (ha : BA X es ma) : BE X (.List es pos) (mLst ma) := by
  refine fun W tk => (pe_lst (ha W tk)).imp fun σ H Q h => ?_
  obtain ⟨G, io, F, β, I, h⟩ := h
  refine ⟨G, io, F, β, I, h.bnd fun ps β1 vs H1 F1 fe1 I1 r1 h1 => ?_⟩
  cases e : allD ps with
  | none => rw [e] at h1; exact h1.elim
  | some ds =>
    rw [e] at h1
    simp only at h1
    have r := PRs.all r1 e
    by_cases hz : ds.length ≤ sizeLine
    · rw [if_pos hz] at h1
      refine ⟨by rw [r.length]; exact hz, fun p hp => ?_⟩
      obtain ⟨F2, fe2, I2, rr⟩ := I1.step (F := F1) (mg := X.mg) (NR.lst hp r)
      exact h1 _ _ F2 (fe1.trans fe2) I2 rr
    · rw [if_neg hz] at h1
      exact h1.elim
end
end B

set_option Elab.async false
set_option linter.all false
set_option maxRecDepth 100000
set_option maxHeartbeats 4000000
namespace B
open PySem PySem.Spec L2
/-! ## statements -/
def FlR (K : PySem.W.Frag) (mg : Str → Option Value) (G : GT) (F : Hp) (io : List Addr) (H : Hp) (β : B.Env) (σ : L2.St) (D : Ends) : Fl → Prop
  | .nx => D.nx σ H
  | .brk => D.bk σ H
  | .ct => D.ct σ H
  | .ret r => ∀ v, RR K mg G F io H β σ v r → D.rt v H
def SPost (K : PySem.W.Frag) (mg : Str → Option Value) (W : WX) (G : GT) (F : Hp) (io : List Addr) (r : R Fl) (D : Ends) : Prop :=
  match r with
  | .stuck => False
  | .ok f β => ∀ σ H' F', FE G io F F' → BI K mg G F' io β σ H' → FlR K mg G F' io H' β σ D f
  | .exc x β => ∀ σ cls d H' F', FE G io F F' → BI K mg G F' io β σ H' → XR K mg F' cls d x → W cls d σ H'
def sOf (K : PySem.W.Frag) (mg : Str → Option Value) (W : WX) (m : M Fl) : TS := fun D σ H => ∃ G io F β, BI K mg G F io β σ H ∧ SPost K mg W G F io (m β) D
/-- a statement, a block -/
def BS (X : Cx) (st : Stmt) (m : M Fl) : Prop := ∀ W, Takes X W → PS X st (sOf X.K X.mg W m)
def BSs (X : Cx) (st : List Stmt) (m : M Fl) : Prop := ∀ W, Takes X W → PSs X st (sOf X.K X.mg W m)
theorem _root_.L2.PS.imp {X : Cx} {e : Stmt} {t t' : TS} (h : PS X e t) (k : ∀ D σ H, t' D σ H → t D σ H) : PS X e t' := ⟨fun pins s σ H D I q => h.run pins s σ H D I (k D σ H q)⟩
theorem _root_.L2.PSs.imp {X : Cx} {e : List Stmt} {t t' : TS} (h : PSs X e t) (k : ∀ D σ H, t' D σ H → t D σ H) : PSs X e t' := ⟨fun pins s σ H D I q => h.run pins s σ H D I (k D σ H q)⟩
section
variable {K : PySem.W.Frag} {mg : Str → Option Value} {W : WX} {G : GT} {F F1 : Hp} {io : List Addr} {σ : L2.St} {D : Ends}
theorem SPost.mono {r : R Fl} (h : SPost K mg W G F io r D) (fe : FE G io F F1) : SPost K mg W G F1 io r D := by
  cases r with
  | stuck => exact h
  | ok a β => exact fun σ H' F' fe' => h σ H' F' (fe.trans fe')
  | exc x β => exact fun σ c d H' F' fe' => h σ c d H' F' (fe.trans fe')
/-- behind an expression -/
theorem SPost.of {α γ : Type} {Rel : GT → Hp → List Addr → Hp → B.Env → L2.St → γ → α → Prop} {r : R α} {f : α → B.Env → R Fl} {Q : γ → Hp → Prop} (h : SPost K mg W G F io (r.bnd f) D)
    (k : ∀ a β v H' F', FE G io F F' → BI K mg G F' io β σ H' → Rel G F' io H' β σ v a → SPost K mg W G F' io (f a β) D → Q v H') : Post K mg W Rel G F io σ r Q := by
  cases r with
  | stuck => exact h
  | ok a β => exact fun v H' F' fe I r => k a β v H' F' fe I r (SPost.mono h fe)
  | exc x β => exact fun cls d H' F' fe I xr => h σ cls d H' F' fe I xr
/-- behind a statement -/
def seqF (m n : M Fl) : M Fl := bnd m fun f => match f with
  | .nx => n
  | f => ret f
theorem SPost.seq {r : R Fl} {n : M Fl} (h : SPost K mg W G F io (r.bnd fun f => match f with
  | .nx => n
  | f => ret f) D) : SPost K mg W G F io r { D with nx := fun σ H => sOf K mg W n D σ H } := by
  cases r with
  | stuck => exact h
  | exc x β => exact h
  | ok f β =>
    cases f with
    | nx => exact fun σ H' F' fe I => ⟨G, io, F', β, I, SPost.mono h fe⟩
    | brk => exact h
    | ct => exact h
    | ret r => exact h
end
section
variable {X : Cx} {st : Stmt} {rest : List Stmt} {m n : M Fl} {e : Expr} {me : M Rs} {mt : M Bool} {pos : Pos}
theorem bs_nil : BSs X [] (ret .nx) := fun W tk => pss_nil.imp fun D σ H ⟨G, io, F, β, I, h⟩ => h σ H F .refl I
theorem bs_cons (h1 : BS X st m) (h2 : BSs X rest n) : BSs X (st :: rest) (seqF m n) := fun W tk => (pss_cons (h1 W tk) (h2 W tk)).imp fun D σ H ⟨G, io, F, β, I, h⟩ => ⟨G, io, F, β, I, SPost.seq h⟩
theorem bs_one (h1 : BS X st m) : BSs X [st] m := fun W tk => pss_one (h1 W tk)
theorem bs_pass : BS X (.Pass pos) (ret .nx) := fun W tk => ps_pass.imp fun D σ H ⟨G, io, F, β, I, h⟩ => h σ H F .refl I
theorem bs_break : BS X (.Break pos) (ret .brk) := fun W tk => ps_break.imp fun D σ H ⟨G, io, F, β, I, h⟩ => h σ H F .refl I
theorem bs_continue : BS X (.Continue pos) (ret .ct) := fun W tk => ps_continue.imp fun D σ H ⟨G, io, F, β, I, h⟩ => h σ H F .refl I
theorem bs_doc {x : Str} {j : Nat} {pos' : Pos} : BS X (.Expr (.Constant (.str x) j pos) pos') (ret .nx) := fun W tk => ps_doc.imp fun D σ H ⟨G, io, F, β, I, h⟩ => h σ H F .refl I
theorem bs_no : BS X st stk := fun W tk => ⟨fun _ _ _ _ _ _ ⟨_, _, _, _, _, h⟩ => h.elim⟩
theorem bss_no {sts : List Stmt} : BSs X sts stk := fun W tk => ⟨fun _ _ _ _ _ _ ⟨_, _, _, _, _, h⟩ => h.elim⟩
def mExpr (me : M Rs) : M Fl := bnd me fun _ => ret .nx
theorem bs_expr (h : BE X e me) (hs : swapsWith e none pos.line X.env = pure false := by rfl) : BS X (.Expr e pos) (mExpr me) :=
  fun W tk => (ps_expr (h W tk) hs).imp fun D σ H ⟨G, io, F, β, I, hq⟩ => ⟨G, io, F, β, I, hq.of fun r β1 v H1 F1 fe1 I1 r1 h1 => h1 σ H1 F1 .refl I1⟩
def mRet (me : M Rs) : M Fl := bnd me fun r => ret (.ret r)
theorem bs_ret (h : BE X e me) : BS X (.Return (some e) pos) (mRet me) :=
  fun W tk => (ps_ret (h W tk)).imp fun D σ H ⟨G, io, F, β, I, hq⟩ => ⟨G, io, F, β, I, hq.of fun r β1 v H1 F1 fe1 I1 r1 h1 => h1 σ H1 F1 .refl I1 v r1⟩
theorem bs_retN : BS X (.Return none pos) (ret (.ret (.fz .non))) := fun W tk => ps_retN.imp fun D σ H ⟨G, io, F, β, I, h⟩ => h σ H F .refl I .non .non
/-- return of a name: its object goes out as one's own -/
def mRetVar (i : Nat) : M Fl := fun β => match β[i]? with
  | some (.fz d) => .ok (.ret (.fz d)) β
  | some (.own none d) => .ok (.ret (.own d)) (β.set i .un)
  | _ => .stuck
theorem BI.unset {K : PySem.W.Frag} {mg : Str → Option Value} {G : GT} {F H : Hp} {io : List Addr} {β : B.Env} {σ : L2.St} (I : BI K mg G F io β σ H) (i : Nat) : BI K mg G F io (β.set i .un) σ H := by
  refine ⟨I.sg, I.sf, I.ioF, I.ioH, by rw [List.length_set]; exact I.len, fun j s ej => ?_, fun j k s t b ej ek hj hk => ?_⟩
  · by_cases hj : i = j
    · subst hj
      by_cases hi : i < β.length
      · rw [List.getElem?_set_self hi] at ej
        cases ej
        obtain ⟨o, eo, _⟩ := I.sl i _ (List.getElem?_eq_getElem hi)
        exact ⟨o, eo, trivial⟩
      · rw [List.getElem?_eq_none (by rw [List.length_set]; omega)] at ej
        cases ej
    · rw [List.getElem?_set_ne hj] at ej
      exact I.sl j s ej
  · have nh : ∀ {l : Nat} {u : Sl}, (β.set i .un)[l]? = some u → isOwn u = true → β[l]? = some u := fun {l u} e h => by
      by_cases hl : i = l
      · subst hl
        by_cases hi : i < β.length
        · rw [List.getElem?_set_self hi] at e
          cases e
          cases h
        · rw [List.getElem?_eq_none (by rw [List.length_set]; omega)] at e
          cases e
      · rwa [List.getElem?_set_ne hl] at e
    exact I.apart j k s t b (nh ej hj) (nh ek hk) hj hk
theorem BI.take {K : PySem.W.Frag} {mg : Str → Option Value} {G : GT} {F H : Hp} {io : List Addr} {β : B.Env} {σ : L2.St} {i : Nat} {d : D} (I : BI K mg G F io β σ H) (e : β[i]? = some (.own none d)) :
    ∃ v, σ[i]? = some (some v) ∧ RR K mg G F io H (β.set i .un) σ v (.own d) := by
  obtain ⟨o, eo, a, rfl, f, g, ni, _, r⟩ := I.sl i _ e
  have hi : i < β.length := (List.getElem?_eq_some_iff.mp e).1
  refine ⟨_, eo, a, rfl, f, g, ni rfl, r, fun j s ej hs z => ?_⟩
  by_cases hj : j = i
  · subst hj
    rw [List.getElem?_set_self hi] at ej
    cases ej
    cases hs
  · rw [List.getElem?_set_ne (Ne.symm hj)] at ej
    exact hj (I.apart j i s _ a ej e hs rfl z eo)
theorem bs_retVar {i : Nat} {x : Str} {p : Pos} (hN : X.N[i]? = some x := by rfl) (hv : Vis X.env.scope x := by first | exact Or.inl rfl | exact Or.inr (Or.inl rfl) | exact Or.inr (Or.inr rfl)) (hd : (x == ("__debug__" : Str)) = false := by decide)
    (hcd : (x == ("__classdict__" : Str)) = false := by decide) : BS X (.Return (some (.Name x p)) pos) (mRetVar i) := by
  refine fun W tk => (ps_ret (pe_var hN hv hd hcd)).imp fun D σ H ⟨G, io, F, β, I, h⟩ => ?_
  unfold mRetVar at h
  cases e : β[i]? with
  | none => rw [e] at h; exact h.elim
  | some s =>
    rw [e] at h
    cases s with
    | ex z0 => exact h.elim
    | gh _ => exact h.elim
    | un => exact h.elim
    | fz d =>
      obtain ⟨o, eo, v, rfl, r⟩ := I.sl i _ e
      exact ⟨v, eo, h σ H F .refl I v r⟩
    | own bo d =>
      cases bo with
      | some k => exact h.elim
      | none =>
        obtain ⟨v, eo, rr⟩ := I.take e
        exact ⟨v, eo, h σ H F .refl (I.unset i) v rr⟩
def mIfS (m : M Bool) (a b : M Fl) : M Fl := bnd m fun k => if k = true then a else b
theorem bs_if {c : Expr} {p q : List Stmt} (hc : BT X c mt) (hp : BSs X p m) (hq : BSs X q n) : BS X (.If c p q pos) (mIfS mt m n) := by
  refine fun W tk => (ps_if (hc W tk) (hp W tk) (hq W tk)).imp fun D σ H ⟨G, io, F, β, I, h⟩ => ⟨G, io, F, β, I, h.of fun k β1 v H1 F1 fe1 I1 r1 h1 => ?_⟩
  cases (show v = k from r1)
  cases k with
  | true => exact ⟨G, io, F1, β1, I1, h1⟩
  | false => exact ⟨G, io, F1, β1, I1, h1⟩

/-! ## stores -/
def slOf : Rs → Sl
  | .fz d => .fz d
  | .own d => .own none d
def setR (i : Nat) (r : Rs) : M Unit := fun β => .ok () (β.set i (slOf r))
theorem BI.set {K : PySem.W.Frag} {mg : Str → Option Value} {G : GT} {F H : Hp} {io : List Addr} {β : B.Env} {σ : L2.St} {v : V} {r : Rs} (I : BI K mg G F io β σ H) (h : RR K mg G F io H β σ v r) (i : Nat) :
    BI K mg G F io (β.set i (slOf r)) (σ.set i (some v)) H := by
  have hl := I.len
  refine ⟨I.sg, I.sf, I.ioF, I.ioH, by rw [List.length_set, List.length_set]; exact hl, fun j s ej => ?_, fun j k s t b ej ek hj hk zj zk => ?_⟩
  · by_cases hj : i = j
    · subst hj
      by_cases hi : i < β.length
      · rw [List.getElem?_set_self hi] at ej
        cases ej
        refine ⟨some v, List.getElem?_set_self (by omega), ?_⟩
        cases r with
        | fz d => exact ⟨v, rfl, h⟩
        | own d =>
          obtain ⟨a, rfl, f, g, ni, o, _⟩ := h
          exact ⟨a, rfl, f, g, fun _ => ni, fun _ => nofun, o⟩
      · rw [List.getElem?_eq_none (by rw [List.length_set]; omega)] at ej
        cases ej
    · rw [List.getElem?_set_ne hj] at ej
      rw [List.getElem?_set_ne hj]
      exact I.sl j s ej
  · -- two own slots at one address
    have old : ∀ {l : Nat} {u : Sl}, i ≠ l → (β.set i (slOf r))[l]? = some u → β[l]? = some u := fun {l u} hl e => by rwa [List.getElem?_set_ne hl] at e
    have oldσ : ∀ {l : Nat} {w : Option V}, i ≠ l → (σ.set i (some v))[l]? = some w → σ[l]? = some w := fun {l w} hl e => by rwa [List.getElem?_set_ne hl] at e
    have new : ∀ {l : Nat} {u : Sl}, i = l → (β.set i (slOf r))[l]? = some u → isOwn u = true → (σ.set i (some v))[l]? = some (some (V.ref b)) → v = .ref b ∧ ∃ d, r = .own d := fun {l u} hl e hu z => by
      subst hl
      have hi : i < β.length := by
        have := (List.getElem?_eq_some_iff.mp e).1
        rwa [List.length_set] at this
      rw [List.getElem?_set_self hi] at e
      rw [List.getElem?_set_self (by omega)] at z
      cases e
      cases z
      cases r with
      | fz d => cases hu
      | own d => exact ⟨rfl, d, rfl⟩
    by_cases h1 : i = j
    · by_cases h2 : i = k
      · exact h1.symm.trans h2
      · obtain ⟨rfl, d, rfl⟩ := new h1 ej hj zj
        obtain ⟨a, ea, _, _, _, _, ap⟩ := h
        cases ea
        exact absurd (oldσ h2 zk) (ap k t (old h2 ek) hk)
    · by_cases h2 : i = k
      · obtain ⟨rfl, d, rfl⟩ := new h2 ek hk zk
        obtain ⟨a, ea, _, _, _, _, ap⟩ := h
        cases ea
        exact absurd (oldσ h1 zj) (ap j s (old h1 ej) hj)
      · exact I.apart j k s t b (old h1 ej) (old h2 ek) hj hk (oldσ h1 zj) (oldσ h2 zk)
def mSet (i : Nat) (me : M Rs) : M Fl := bnd me fun r => bnd (setR i r) fun _ => ret .nx
theorem bs_set {i : Nat} {x : Str} {pos' : Pos} (hN : X.N.Nodup) (hi : X.N[i]? = some x) (hx : Loc X.env.scope x) (h : BE X e me) (hs : swapsWith e (some (.Name x pos')) pos.line X.env = pure false := by rfl)
    (hf : X.fn x = true ∨ X.env.scope.names.lookup x = some .local := by first | exact .inl rfl | exact .inr rfl | assumption) : BS X (.Assign [.Name x pos'] e pos) (mSet i me) :=
  fun W tk => (ps_set hN hi hx (h W tk) hs hf).imp fun D σ H ⟨G, io, F, β, I, hq⟩ => ⟨G, io, F, β, I, hq.of fun r β1 v H1 F1 fe1 I1 r1 h1 => h1 _ H1 F1 .refl (I1.set r1 i)⟩
/-! targets, of data that stays -/
/-- the slots outside vs are as they were -/
def But (vs : List Nat) (σ σ' : L2.St) : Prop := σ'.length = σ.length ∧ ∀ j, j ∉ vs → σ'[j]? = σ[j]?
theorem But.refl {vs : List Nat} {σ : L2.St} : But vs σ σ := ⟨rfl, fun _ _ => rfl⟩
theorem But.trans {vs ws : List Nat} {σ σ1 σ2 : L2.St} (a : But vs σ σ1) (b : But ws σ1 σ2) : But (vs ++ ws) σ σ2 := ⟨b.1.trans a.1, fun j h => (b.2 j fun z => h (List.mem_append_right _ z)).trans (a.2 j fun z => h (List.mem_append_left _ z))⟩
def gOfT (K : PySem.W.Frag) (mg : Str → Option Value) (vs : List Nat) (g : D → M Unit) : TG := fun v σ H Q => ∃ G io F β d, BI K mg G F io β σ H ∧ DR K mg F v d ∧ match g d β with
  | .ok _ β' => ∀ σ' H' F', But vs σ σ' → FE G io F F' → BI K mg G F' io β' σ' H' → Q σ' H'
  | _ => False
def BG (X : Cx) (vs : List Nat) (tg : Expr) (g : D → M Unit) : Prop := PG X tg (gOfT X.K X.mg vs g)
theorem _root_.L2.PG.imp {tg : Expr} {t t' : TG} (h : PG X tg t) (k : ∀ v σ H Q, t' v σ H Q → t v σ H Q) : PG X tg t' := ⟨fun pins s σ H v u Q I r q => h.run pins s σ H v u Q I r (k v σ H Q q)⟩
def gSet (i : Nat) : D → M Unit := fun d => setR i (.fz d)
theorem bg_name {i : Nat} {x : Str} (hN : X.N.Nodup) (hi : X.N[i]? = some x) (hx : Loc X.env.scope x) (hf : X.fn x = true ∨ X.env.scope.names.lookup x = some .local := by first | exact .inl rfl | exact .inr rfl | assumption) : BG X [i] (.Name x pos) (gSet i) :=
  (pg_name hN hi hx hf).imp fun v σ H Q ⟨G, io, F, β, d, I, r, h⟩ => h _ H F ⟨List.length_set .., fun j hj => List.getElem?_set_ne fun z => hj (by rw [z]; exact List.mem_singleton_self _)⟩ .refl (I.set (r := .fz d) r i)
def gOfTs (K : PySem.W.Frag) (mg : Str → Option Value) (ws : List Nat) (g : List D → M Unit) : TGs := fun vs σ H Q => ∃ G io F β ds, BI K mg G F io β σ H ∧ DRs K mg F vs ds ∧ match g ds β with
  | .ok _ β' => ∀ σ' H' F', But ws σ σ' → FE G io F F' → BI K mg G F' io β' σ' H' → Q σ' H'
  | _ => False
def BGs (X : Cx) (ws : List Nat) (ts : List Expr) (g : List D → M Unit) : Prop := PGs X ts (gOfTs X.K X.mg ws g)
theorem _root_.L2.PGs.imp {tg : List Expr} {t t' : TGs} (h : PGs X tg t) (k : ∀ v σ H Q, t' v σ H Q → t v σ H Q) : PGs X tg t' := ⟨fun pins s σ H vs us Q I r q => h.run pins s σ H vs us Q I r (k vs σ H Q q)⟩
def gsNil : List D → M Unit
  | [] => ret ()
  | _ => stk
def gsCons (g : D → M Unit) (h : List D → M Unit) : List D → M Unit
  | d :: ds => bnd (g d) fun _ => h ds
  | _ => stk
theorem bgs_nil : BGs X [] [] gsNil := pgs_nil.imp fun vs σ H Q ⟨G, io, F, β, ds, I, r, h⟩ => by
  cases r with
  | nil => exact ⟨rfl, h _ H F .refl .refl I⟩
  | cons a b => exact h.elim
theorem bgs_cons {e : Expr} {es : List Expr} {g : D → M Unit} {h : List D → M Unit} {vs ws : List Nat} (h1 : BG X vs e g) (h2 : BGs X ws es h) (hs : (assignEach (e :: es) X.env).map (·.2) = assign e X.env :: (assignEach es X.env).map (·.2) := by rfl) : BGs X (vs ++ ws) (e :: es) (gsCons g h) :=
  (pgs_cons h1 h2 hs).imp fun vs σ H Q ⟨G, io, F, β, ds, I, r, hq⟩ => by
    cases r with
    | nil => exact hq.elim
    | @cons v vs d ds a b =>
      refine ⟨v, vs, rfl, G, io, F, β, d, I, a, ?_⟩
      unfold gsCons bnd at hq
      simp only at hq
      cases e1 : g d β with
      | stuck => rw [e1] at hq; exact hq.elim
      | exc x β' => rw [e1] at hq; exact hq.elim
      | ok u β' =>
        rw [e1] at hq
        refine fun σ1 H1 F1 bu1 fe1 I1 => ⟨G, io, F1, β', ds, I1, b.mono fe1.same, ?_⟩
        have hq : (match h ds β' with
          | .ok _ β' => ∀ σ' H' F', But _ σ σ' → FE G io F F' → BI X.K X.mg G F' io β' σ' H' → Q σ' H'
          | _ => False) := hq
        cases e2 : h ds β' with
        | stuck => rw [e2] at hq; exact hq.elim
        | exc x β' => rw [e2] at hq; exact hq.elim
        | ok u β'' =>
          rw [e2] at hq
          exact fun σ2 H2 F2 bu2 fe2 I2 => hq σ2 H2 F2 (bu1.trans bu2) (fe1.trans fe2) I2
def gUnp (n : Nat) (g : List D → M Unit) : D → M Unit
  | .nd .tup ds => if ds.length = n then g ds else stk
  | _ => stk
theorem bg_tup {es : List Expr} {k : Nat} {g : List D → M Unit} {n : Nat} {vs : List Nat} (hc : X.calm = true) (h : BGs X vs es g) (hn : (assignEach es X.env).length = n := by rfl) (hst : (assignEach es X.env).findIdx? (·.1) = none := by rfl) : BG X vs (.Tuple es k pos) (gUnp n g) :=
  (pg_tup hc h hn hst).imp fun v σ H Q ⟨G, io, F, β, d, I, r, hq⟩ => by
    cases r with
    | @tup a vs ds hx rx =>
      simp only [gUnp] at hq
      by_cases hz : ds.length = n
      · rw [if_pos hz] at hq
        exact ⟨_, _, rfl, Same.tp I.sf hx, by rw [rx.length]; exact hz, G, io, F, β, ds, I, rx, hq⟩
      · rw [if_neg hz] at hq
        exact hq.elim
    | _ => exact hq.elim
/-- target = e, through data that stays -/
def mAsg (g : D → M Unit) (me : M Rs) : M Fl := bnd me fun r => fun β => match g r.d β with
  | .ok _ β' => .ok .nx β'
  | _ => .stuck
theorem bs_asg {tg e : Expr} {g : D → M Unit} {vs : List Nat} (h : BE X e me) (hg : BG X vs tg g) (hs : swapsWithSole [tg] e pos.line X.env = pure false := by rfl) (hw : swappedStores [tg] e X.env = pure none := by rfl)
    (h1 : (assignEach [tg] X.env).map (·.2) = [assign tg X.env] := by rfl) : BS X (.Assign [tg] e pos) (mAsg g me) :=
  fun W tk => (ps_asg (h W tk) hg hs hw h1).imp fun D σ H ⟨G, io, F, β, I, hq⟩ => ⟨G, io, F, β, I, hq.of fun r β1 v H1 F1 fe1 I1 r1 h1 => by
    obtain ⟨F2, fe2, I2, dr⟩ := I1.freezeR r1
    refine ⟨G, io, F2, β1, r.d, I2, dr, ?_⟩
    cases e1 : g r.d β1 with
    | stuck => rw [e1] at h1; exact h1.elim
    | exc x β => rw [e1] at h1; exact h1.elim
    | ok u β2 =>
      rw [e1] at h1
      exact fun σ3 H3 F3 bu3 fe3 I3 => h1 σ3 H3 F3 (fe2.trans fe3) I3⟩

/-! ## loops -/
def forL (g : D → M Unit) (b : M Fl) : List D → M Fl
  | [] => ret .nx
  | d :: ds => fun β => match g d β with
    | .ok _ β' => (match b β' with
      | .ok .nx β'' => forL g b ds β''
      | .ok .ct β'' => forL g b ds β''
      | .ok .brk β'' => .ok .nx β''
      | .ok (.ret r) β'' => .ok (.ret r) β''
      | .exc x β'' => .exc x β''
      | .stuck => .stuck)
    | _ => .stuck
/-- an iterator that gives ds, while F stays -/
def ItR (K : PySem.W.Frag) (mg : Str → Option Value) (F : Hp) (J : It) (ds : List D) : Prop :=
  ∀ (i : Nat) (H : Hp), Same F H → (∀ d, ds[i]? = some d → J.go i H ∧ ∀ F1, Same F F1 → Same F1 H → ∀ x H', J.yld i H x H' → NR K mg F1 H (.fz d) x H') ∧ (ds.length ≤ i → J.stop i H)
def iOf (K : PySem.W.Frag) (mg : Str → Option Value) (W : WX) (m : M (List D)) : TI := fun σ H R => ∃ G io F β, BI K mg G F io β σ H ∧ Post K mg W (fun _ F _ _ _ _ (J : It) ds => ItR K mg F J ds) G F io σ (m β) R
/-- what is walked: its items -/
def BIt (X : Cx) (tg iter : Expr) (m : M (List D)) : Prop := ∀ W, Takes X W → PI X tg iter (iOf X.K X.mg W m)
theorem _root_.L2.PI.imp {tg it : Expr} {t t' : TI} (h : PI X tg it t) (k : ∀ σ H Q, t' σ H Q → t σ H Q) : PI X tg it t' := ⟨fun pins s σ H R I q => h.run pins s σ H R I (k σ H R q)⟩
def mFor (mi : M (List D)) (g : D → M Unit) (b : M Fl) : M Fl := bnd mi fun ds => forL g b ds
theorem bs_for {tg iter : Expr} {body : List Stmt} {mi : M (List D)} {g : D → M Unit} {vs : List Nat} {mb : M Fl} (hp : PassesOwn (model X.prog X.w) X.A X.env X.xe) (hc : X.calm = true) (hi : BIt X tg iter mi) (hg : BG X vs tg g) (hb : BSs X body mb)
    (hs : ∀ x, foldedSetIterable iter X.env x = pure x := by intro _; rfl) : BS X (.For tg iter body [] pos) (mFor mi g mb) := by
  refine fun W tk => (ps_for hp hc (hi W tk) hg (hb W tk) hs).imp fun D σ H ⟨G, io, F, β, I, h⟩ => ⟨G, io, F, β, I, h.of fun ds β1 J H1 F1 fe1 I1 r1 h1 => ?_⟩
  refine ⟨fun i m σ H => i ≤ ds.length ∧ m = ds.length - i ∧ ∃ F' β', FE G io F1 F' ∧ BI X.K X.mg G F' io β' σ H ∧ SPost X.K X.mg W G F' io (forL g mb (ds.drop i) β') D, ⟨ds.length, Nat.zero_le _, rfl, F1, β1, .refl, I1, h1⟩, ?_⟩
  rintro i m σ2 H2 ⟨hi', rfl, F2, β2, fe2, I2, h2⟩
  by_cases hlt : i < ds.length
  · have ed : ds[i]? = some ds[i] := List.getElem?_eq_getElem hlt
    have edr : ds.drop i = ds[i] :: ds.drop (i + 1) := (List.getElem_cons_drop hlt).symm
    obtain ⟨go, yld⟩ := (r1 i H2 (fe2.same.trans I2.sf)).1 _ ed
    rw [edr] at h2
    simp only [forL] at h2
    refine .inr ⟨go, fun σ' H' => ∃ F' β', FE G io F1 F' ∧ BI X.K X.mg G F' io β' σ' H' ∧ SPost X.K X.mg W G F' io (forL g mb (ds.drop (i + 1)) β') D, fun σ' H' ⟨F', β', fe', I', h'⟩ => ⟨ds.length - (i + 1), by omega, hlt, rfl, F', β', fe', I', h'⟩, fun x H3 hy => ?_⟩
    obtain ⟨F3, fe3, I3, r3⟩ := I2.step (yld F2 fe2.same I2.sf x H3 hy)
    refine ⟨G, io, F3, β2, ds[i], I3, r3, ?_⟩
    cases e1 : g ds[i] β2 with
    | stuck => rw [e1] at h2; exact h2.elim
    | exc x β => rw [e1] at h2; exact h2.elim
    | ok u β4 =>
      rw [e1] at h2
      simp only at h2 ⊢
      refine fun σ4 H4 F4 bu4 fe4 I4 => ⟨G, io, F4, β4, I4, ?_⟩
      have fe24 := fe3.trans fe4
      have h2 := SPost.mono h2 fe24
      have fe14 := fe2.trans fe24
      cases e2 : mb β4 with
      | stuck => rw [e2] at h2; exact h2.elim
      | exc x β5 => rw [e2] at h2; exact h2
      | ok f β5 =>
        rw [e2] at h2
        cases f with
        | nx => exact fun σ5 H5 F5 fe5 I5 => ⟨F5, β5, fe14.trans fe5, I5, SPost.mono h2 fe5⟩
        | ct => exact fun σ5 H5 F5 fe5 I5 => ⟨F5, β5, fe14.trans fe5, I5, SPost.mono h2 fe5⟩
        | brk => exact fun σ5 H5 F5 fe5 I5 => h2 σ5 H5 F5 fe5 I5
        | ret r => exact fun σ5 H5 F5 fe5 I5 => h2 σ5 H5 F5 fe5 I5
  · have e : i = ds.length := by omega
    subst e
    rw [List.drop_length] at h2
    exact .inl ⟨(r1 _ H2 (fe2.same.trans I2.sf)).2 (Nat.le_refl _), h2 σ2 H2 F2 .refl I2⟩
/-- while: so many turns at most -/
def whileN (c : M Bool) (b : M Fl) : Nat → M Fl
  | 0 => stk
  | n + 1 => fun β => match c β with
    | .ok true β' => (match b β' with
      | .ok .nx β'' => whileN c b n β''
      | .ok .ct β'' => whileN c b n β''
      | .ok .brk β'' => .ok .nx β''
      | .ok (.ret r) β'' => .ok (.ret r) β''
      | .exc x β'' => .exc x β''
      | .stuck => .stuck)
    | .ok false β' => .ok .nx β'
    | .exc x β' => .exc x β'
    | .stuck => .stuck
open Classical in
/-- while: as many turns as it takes -/
noncomputable def mWhile (c : M Bool) (b : M Fl) : M Fl := fun β => if h : ∃ n, whileN c b n β ≠ .stuck then whileN c b h.choose β else .stuck
theorem bs_while {c : Expr} {body : List Stmt} {mb : M Fl} (hp : PassesOwn (model X.prog X.w) X.A X.env X.xe) (hc : BT X c mt) (hb : BSs X body mb) : BS X (.While c body [] pos) (mWhile mt mb) := by
  refine fun W tk => (ps_while hp (hc W tk) (hb W tk)).imp fun D σ H ⟨G, io, F, β, I, h⟩ => ?_
  unfold mWhile at h
  split at h
  · rename_i hx
    generalize hx.choose = n at h
    refine ⟨fun m σ H => ∃ F' β', FE G io F F' ∧ BI X.K X.mg G F' io β' σ H ∧ SPost X.K X.mg W G F' io (whileN mt mb m β') D, ⟨n, F, β, .refl, I, h⟩, ?_⟩
    rintro m σ2 H2 ⟨F2, β2, fe2, I2, h2⟩
    cases m with
    | zero => exact h2.elim
    | succ m =>
      simp only [whileN] at h2
      refine ⟨G, io, F2, β2, I2, ?_⟩
      cases e1 : mt β2 with
      | stuck => rw [e1] at h2; exact h2.elim
      | exc x β => rw [e1] at h2; exact fun cls d H' F' fe I xr => h2 σ2 cls d H' F' fe I xr
      | ok k β3 =>
        rw [e1] at h2
        intro v H3 F3 fe3 I3 r3
        cases (show v = k from r3)
        cases k with
        | false => exact h2 σ2 H3 F3 fe3 I3
        | true =>
          simp only at h2
          have h2 := SPost.mono h2 fe3
          have fe13 := fe2.trans fe3
          rw [if_pos rfl]
          refine ⟨fun σ' H' => ∃ F' β', FE G io F F' ∧ BI X.K X.mg G F' io β' σ' H' ∧ SPost X.K X.mg W G F' io (whileN mt mb m β') D, fun σ' H' q => ⟨m, Nat.lt_succ_self _, q⟩, G, io, F3, β3, I3, ?_⟩
          cases e2 : mb β3 with
          | stuck => rw [e2] at h2; exact h2.elim
          | exc x β5 => rw [e2] at h2; exact h2
          | ok f β5 =>
            rw [e2] at h2
            cases f with
            | nx => exact fun σ5 H5 F5 fe5 I5 => ⟨F5, β5, fe13.trans fe5, I5, SPost.mono h2 fe5⟩
            | ct => exact fun σ5 H5 F5 fe5 I5 => ⟨F5, β5, fe13.trans fe5, I5, SPost.mono h2 fe5⟩
            | brk => exact fun σ5 H5 F5 fe5 I5 => h2 σ5 H5 F5 fe5 I5
            | ret r => exact fun σ5 H5 F5 fe5 I5 => h2 σ5 H5 F5 fe5 I5
  · exact h.elim
/-! what is walked -/
/-- the items of data -/
def items : D → Option (List D)
  | .nd .lst ds => some ds
  | .nd .scr ds => some ds
  | .nd .wtp ds => some ds
  | .nd .tup ds => some ds
  | _ => none
def mIter (me : M Rs) : M (List D) := bnd me fun r => liftO (items r.d)
theorem itR_list {F : Hp} {a : Addr} {vs : List V} {ds : List D} (h : SqL X.K F a vs) (r : DRs X.K X.mg F vs ds) : ItR X.K X.mg F (Itl X.K a) ds := by
  intro i H sf
  have hq : SqL X.K H a vs := Same.sqL sf h
  refine ⟨fun d ed => ?_, fun hl => ⟨vs, hq, by rw [r.length]; exact hl⟩⟩
  obtain ⟨v, ev, rv⟩ := r.getD ed
  refine ⟨⟨vs, v, hq, ev⟩, fun F1 s1 s2 x H' hy => ?_⟩
  obtain ⟨rfl, hy⟩ := hy
  have e := hy vs hq
  rw [ev] at e
  cases e
  exact NR.val s2 (rv.mono s1)
theorem itR_tup {F : Hp} {a : Addr} {vs : List V} {ds : List D} (h : SqT X.K F a vs) (r : DRs X.K X.mg F vs ds) : ItR X.K X.mg F (Itt X.K a) ds := by
  intro i H sf
  have hq : SqT X.K H a vs := Same.sqT sf h
  refine ⟨fun d ed => ?_, fun hl => ⟨vs, hq, by rw [r.length]; exact hl⟩⟩
  obtain ⟨v, ev, rv⟩ := r.getD ed
  refine ⟨⟨vs, v, hq, ev⟩, fun F1 s1 s2 x H' hy => ?_⟩
  obtain ⟨rfl, hy⟩ := hy
  have e := hy vs hq
  rw [ev] at e
  cases e
  exact NR.val s2 (rv.mono s1)
/-- a list or a tuple, by the value that comes -/
theorem pi_seq {tg l : Expr} {tl : TE} (hl : PE X l tl) : PI X tg l (fun σ H R => tl σ H fun x H1 => (∃ a xs, x = .ref a ∧ SqL X.K H1 a xs ∧ R (Itl X.K a) H1) ∨ (∃ a xs, x = .ref a ∧ SqT X.K H1 a xs ∧ R (Itt X.K a) H1)) := by
  refine ⟨fun pins s σ H R I h => ?_⟩
  refine thn (hl.run pins s σ H _ I h) fun v s1 ⟨x, H1, I1, r1, q1⟩ => ?_
  rcases q1 with ⟨a, xs, e, hq, q⟩ | ⟨a, xs, e, hq, q⟩
  · subst e
    cases r1
    obtain ⟨its, rv, p, hz⟩ := I1.list hq
    refine wpAny_pyIter_list p.isList ?_
    refine ⟨s1.heap.objs.size, [s1.heap.objs.size], _, _, H1, rfl, I1.kept (t' := s1.toks) fun b o e => Heap.get?_push_of_some _ e, turn_list a _, ⟨_, Heap.get?_push_size _ rfl, rfl, rfl⟩, fun b hb => ?_, q⟩
    have e : b = s1.heap.objs.size := by simpa using hb
    subst e
    exact I1.fpOk (Nat.le_refl _) (I1.hok.fresh (Nat.le_refl _))
  · subst e
    cases r1
    obtain ⟨its, rv, p, hz⟩ := I1.tuple hq
    refine wpAny_pyIter_tuple (show s1.heap.IsTuple a its.toArray from p) ?_
    refine ⟨s1.heap.objs.size, [s1.heap.objs.size], _, _, H1, rfl, I1.kept (t' := s1.toks) fun b o e => Heap.get?_push_of_some _ e, turn_tuple a _, ⟨_, Heap.get?_push_size _ rfl, rfl, rfl⟩, fun b hb => ?_, q⟩
    have e : b = s1.heap.objs.size := by simpa using hb
    subst e
    exact I1.fpOk (Nat.le_refl _) (I1.hok.fresh (Nat.le_refl _))
theorem bi_seq {tg l : Expr} (h : BE X l me) : BIt X tg l (mIter me) := by
  refine fun W tk => (pi_seq (h W tk)).imp fun σ H R ⟨G, io, F, β, I, hq⟩ => ⟨G, io, F, β, I, hq.bnd fun r β1 v H1 F1 fe1 I1 r1 h1 => ?_⟩
  obtain ⟨F2, fe2, I2, dr⟩ := I1.freezeR r1
  generalize r.d = d at h1 dr
  cases dr with
  | @lst a vs ds hx rx => exact .inl ⟨a, vs, rfl, .inl (.inl (I2.sf _ _ hx)), h1 _ H1 F2 (fe1.trans fe2) I2 (itR_list (.inl (.inl hx)) rx)⟩
  | @scr a vs ds hx rx => exact .inl ⟨a, vs, rfl, Same.sqL I2.sf hx, h1 _ H1 F2 (fe1.trans fe2) I2 (itR_list hx rx)⟩
  | @tup a vs ds hx rx => exact .inr ⟨a, vs, rfl, Same.tp I2.sf hx, h1 _ H1 F2 (fe1.trans fe2) I2 (itR_tup (.inl (.inl hx)) rx)⟩
  | @wtp a vs ds hx rx => exact .inr ⟨a, vs, rfl, Same.sqT I2.sf hx, h1 _ H1 F2 (fe1.trans fe2) I2 (itR_tup hx rx)⟩
  | _ => exact h1.elim
theorem itR_range (lo : Int) (n : Nat) {F : Hp} : ItR X.K X.mg F (Itr lo n) ((List.range n).map fun (k : Nat) => D.int (lo + (k : Int))) := by
  intro i H sf
  refine ⟨fun d ed => ?_, fun hl => by rw [List.length_map, List.length_range] at hl; exact hl⟩
  rw [List.getElem?_map] at ed
  obtain ⟨k, ek, rfl⟩ := Option.map_eq_some_iff.mp ed
  obtain ⟨hk, rfl⟩ := List.getElem?_eq_some_iff.mp ek
  rw [List.length_range] at hk
  refine ⟨hk, fun F1 s1 s2 x H' hy => ?_⟩
  obtain ⟨rfl, rfl⟩ := hy
  rw [List.getElem_range]
  exact NR.val s2 (.int _)
def inR (i : Int) : Bool := decide (-(2 ^ 62) ≤ i ∧ i < 2 ^ 62)
def rng (lo hi : Int) : List D := (List.range (hi - lo).toNat).map fun (k : Nat) => D.int (lo + (k : Int))
def rngA (ps : List Pl) : M (List D) := fun β => match looks β ps with
  | some [.int j] => if inR j = true then .ok (rng 0 j) β else .stuck
  | _ => .stuck
def rngB (ps : List Pl) : M (List D) := fun β => match looks β ps with
  | some [.int i, .int j] => if inR i = true ∧ inR j = true then .ok (rng i j) β else .stuck
  | _ => .stuck
/-- lo, lo + c, .. : n of them -/
def stepN (i j c : Int) : Nat := if 0 < c then ((j - i + c - 1) / c).toNat else ((i - j + (-c) - 1) / (-c)).toNat
theorem bi_range1 {tg a : Expr} {ma : M (List Pl)} {p pos : Pos} (hm : X.mg "range" = none) (ha : BA X [a] ma) (hg : Gl X "range" := by rfl) (hs : starEach [a] X.env = [(false, eval a X.env)] := by rfl) : BIt X tg (.Call (.Name "range" p) [a] [] pos) (bnd ma rngA) := by
  refine fun W tk => (pi_range1 hg hm (ha W tk) hs).imp fun σ H R ⟨G, io, F, β, I, hq⟩ => ⟨G, io, F, β, I, hq.bnd fun ps β1 vs H1 F1 fe1 I1 r1 h1 => ?_⟩
  unfold rngA at h1
  cases e : looks β1 ps with
  | none => rw [e] at h1; exact h1.elim
  | some ds =>
    rw [e] at h1
    have r := I1.looks r1 e
    split at h1
    · split at h1
      · rename_i e1 hj
        cases e1
        cases r with
        | cons a b =>
          cases b
          cases a
          have hj : -(2 ^ 62) ≤ _ ∧ _ < (2 : Int) ^ 62 := of_decide_eq_true hj
          refine ⟨_, rfl, hj.1, hj.2, h1 _ H1 F1 fe1 I1 ?_⟩
          unfold rng
          rw [Int.sub_zero]
          exact itR_range 0 _
      · exact h1.elim
    · exact h1.elim
theorem bi_range2 {tg a b : Expr} {ma : M (List Pl)} {p pos : Pos} (hm : X.mg "range" = none) (ha : BA X [a, b] ma) (hg : Gl X "range" := by rfl) (hs : starEach [a, b] X.env = [(false, eval a X.env), (false, eval b X.env)] := by rfl) (hs2 : starEach [b] X.env = [(false, eval b X.env)] := by rfl) :
    BIt X tg (.Call (.Name "range" p) [a, b] [] pos) (bnd ma rngB) := by
  refine fun W tk => (pi_range2 hg hm (ha W tk) hs hs2).imp fun σ H R ⟨G, io, F, β, I, hq⟩ => ⟨G, io, F, β, I, hq.bnd fun ps β1 vs H1 F1 fe1 I1 r1 h1 => ?_⟩
  unfold rngB at h1
  cases e : looks β1 ps with
  | none => rw [e] at h1; exact h1.elim
  | some ds =>
    rw [e] at h1
    have r := I1.looks r1 e
    split at h1
    · split at h1
      · rename_i e1 hj
        cases e1
        cases r with
        | cons a b =>
          cases b with
          | cons b c =>
            cases c
            cases a
            cases b
            have h3 : -(2 ^ 62) ≤ _ ∧ _ < (2 : Int) ^ 62 := of_decide_eq_true hj.1
            have h4 : -(2 ^ 62) ≤ _ ∧ _ < (2 : Int) ^ 62 := of_decide_eq_true hj.2
            exact ⟨_, _, rfl, ⟨h3.1, h3.2, h4.1, h4.2⟩, h1 _ H1 F1 fe1 I1 (itR_range _ _)⟩
      · exact h1.elim
    · exact h1.elim
end
end B

set_option Elab.async false
set_option linter.all false
set_option maxRecDepth 100000
set_option maxHeartbeats 4000000
namespace B
open PySem PySem.Spec L2
/-! ## objects of one's own, changed -/
section
variable {K : PySem.W.Frag} {mg : Str → Option Value} {G : GT} {F H H' : Hp} {io : List Addr} {β : B.Env} {σ : L2.St} {i : Nat} {k : Option Nat} {a : Addr} {d d' : D} {o : HO}
/-- where an own slot's object is -/
theorem BI.ownAt (I : BI K mg G F io β σ H) (e : β[i]? = some (.own k d)) : ∃ a, σ[i]? = some (some (.ref a)) ∧ F a = none ∧ G a = none ∧ OwnR K mg F H a d := by
  obtain ⟨o, eo, a, rfl, f, g, _, _, r⟩ := I.sl i _ e
  exact ⟨a, eo, f, g, r⟩
theorem BI.mut (I : BI K mg G F io β σ H) (e : β[i]? = some (.own k d)) (ea : σ[i]? = some (some (.ref a))) (r : OwnR K mg F (upd H a o) a d') : BI K mg G F io (β.set i (.own k d')) σ (upd H a o) := by
  obtain ⟨w, ew, a', ea', f, g, i1, i2, r0⟩ := I.sl i _ e
  obtain rfl : a' = a := by
    rw [ea] at ew
    cases ew
    cases ea'
    rfl
  have hi : i < β.length := (List.getElem?_eq_some_iff.mp e).1
  refine ⟨I.sg.upd g r0.nc, fun b u h => ?_, I.ioF, fun b hb => ?_, by rw [List.length_set]; exact I.len, fun j s ej => ?_, fun j l s t b ej el hj hl => ?_⟩
  · rw [upd_ne (ne_of_none h f)]
    exact I.sf b u h
  · by_cases hba : b = a'
    · exact ⟨_, by rw [hba, upd_same]⟩
    · rw [upd_ne hba]
      exact I.ioH b hb
  · by_cases hj : i = j
    · subst hj
      rw [List.getElem?_set_self hi] at ej
      cases ej
      exact ⟨_, ea, a', rfl, f, g, i1, i2, r⟩
    · rw [List.getElem?_set_ne hj] at ej
      obtain ⟨w2, ew2, hs⟩ := I.sl j s ej
      refine ⟨w2, ew2, ?_⟩
      cases s with
      | ex z0 => exact hs
      | gh _ => exact hs
      | un => trivial
      | fz e' => exact hs
      | own b e' =>
        obtain ⟨x, q, f', g', j1, j2, r'⟩ := hs
        refine ⟨x, q, f', g', j1, j2, r'.mono (Same.refl _) (upd_ne fun z => hj ?_)⟩
        exact I.apart i j _ _ a' e ej rfl rfl ea (by rw [ew2, q, z])
  · have back : ∀ {m : Nat} {u : Sl}, (β.set i (.own k d'))[m]? = some u → isOwn u = true → ∃ u', β[m]? = some u' ∧ isOwn u' = true := fun {m u} em hm => by
      by_cases him : i = m
      · subst him
        exact ⟨_, e, rfl⟩
      · rw [List.getElem?_set_ne him] at em
        exact ⟨u, em, hm⟩
    obtain ⟨s', es, hs⟩ := back ej hj
    obtain ⟨t', et, ht⟩ := back el hl
    exact I.apart j l s' t' b es et hs ht
end
/-- a method that changes its object: what it hands back, the object behind it -/
def MutD (X : Cx) (T id : String) (g : D → List D → Option (D × D)) : Prop := ∃ r, MtR X id r ∧ ∀ (F H : Hp) (a : Addr) (d : D) (vs : List V) (ds : List D) (rd d' : D), Same F H → F a = none → OwnR X.K X.mg F H a d → DRs X.K X.mg F vs ds → g d ds = some (rd, d') →
  ∀ Q : VK, (∀ z o, OwnR X.K X.mg F (upd H a o) a d' → DR X.K X.mg F z rd → Q z (upd H a o)) → r (.ref a) vs H Q
/-- whether an own slot's object is of a type -/
def isTy : String → D → Bool
  | "list", .nd .lst _ => true
  | "dict", .nd .dct _ => true
  | _, _ => false
theorem isTy_v {K : PySem.W.Frag} {mg : Str → Option Value} {F H : Hp} {a : Addr} {T : String} {d : D} (h : OwnR K mg F H a d) (e : isTy T d = true) : tyV K T (.ref a) H := by
  unfold isTy at e
  split at e
  · cases h with
    | lst h r => exact .inl ⟨rfl, _, .inl (.inl h)⟩
  · cases h with
    | dK h r q => exact .inr (.inr (.inl ⟨rfl, .inl ⟨_, h⟩⟩))
    | dT h r q => exact .inr (.inr (.inl ⟨rfl, .inr ⟨_, h⟩⟩))
  · cases e
def ownTy (T : String) (i : Nat) : M Unit := fun β => match β[i]? with
  | some (.own _ d) => if isTy T d = true then .ok () β else .stuck
  | _ => .stuck
def finM (i : Nat) (g : D → List D → Option (D × D)) (ps : List Pl) : M Rs := fun β => match β[i]?, allD ps with
  | some (.own k d), some ds => (match g d ds with
    | some (rd, d') => .ok (.fz rd) (β.set i (.own k d'))
    | none => .stuck)
  | _, _ => .stuck
def mMut (T : String) (i : Nat) (g : D → List D → Option (D × D)) (ma : M (List Pl)) : M Rs := bnd (ownTy T i) fun _ => bnd ma fun ps => finM i g ps
section
variable {X : Cx} {i : Nat} {x : Str} {p pos apos cpos : Pos} {e : Expr} {es : List Expr} {ma : M (List Pl)} {T id' : String} {name : Str} {g : D → List D → Option (D × D)}
theorem finM_post {W : WX} {G : GT} {F H : Hp} {io : List Addr} {β : B.Env} {σ : L2.St} {ps : List Pl} {vs : List V} {v : V} {r : V → List V → Hp → VK → Prop} {Q : VK} (I : BI X.K X.mg G F io β σ H) (ev : σ[i]? = some (some v)) (rp : PRs X.K X.mg F σ vs ps)
    (k : ∀ (F H : Hp) (a : Addr) (d : D) (vs : List V) (ds : List D) (rd d' : D), Same F H → F a = none → OwnR X.K X.mg F H a d → DRs X.K X.mg F vs ds → g d ds = some (rd, d') →
      ∀ Q : VK, (∀ z o, OwnR X.K X.mg F (upd H a o) a d' → DR X.K X.mg F z rd → Q z (upd H a o)) → r (.ref a) vs H Q)
    (h : Post X.K X.mg W (relE X.K X.mg) G F io σ (finM i g ps β) Q) : r v vs H Q := by
  unfold finM at h
  cases e1 : β[i]? with
  | none => rw [e1] at h; exact h.elim
  | some s =>
    cases s with
    | ex z0 => rw [e1] at h; exact h.elim
    | gh _ => rw [e1] at h; exact h.elim
    | un => rw [e1] at h; exact h.elim
    | fz d => rw [e1] at h; exact h.elim
    | own b d =>
      cases e2 : allD ps with
      | none => rw [e1, e2] at h; exact h.elim
      | some ds =>
        rw [e1, e2] at h
        simp only at h
        cases e3 : g d ds with
        | none => rw [e3] at h; exact h.elim
        | some q =>
          obtain ⟨rd, d'⟩ := q
          rw [e3] at h
          obtain ⟨a, ea, f, gn, o⟩ := I.ownAt e1
          obtain rfl : v = .ref a := by
            rw [ea] at ev
            cases ev
            rfl
          exact k F H a d vs ds rd d' I.sf f o (rp.all e2) e3 Q fun z ho o' dr => h z _ F .refl (I.mut e1 ea o') dr
theorem be_mut (pa : PlainAttrs T) (slot : Slot T name id') (hty : typeOf (.builtin id') = pure (.type "method_descriptor")) (hm : MutD X T id' g) (hN : X.N[i]? = some x) (hv : Vis X.env.scope x) (ha : BA X (e :: es) ma) (hd : (x == ("__debug__" : Str)) = false := by decide)
    (hcd : (x == ("__classdict__" : Str)) = false := by decide) (hbase : attributeBase (.Name x p) name X.env (eval (.Name x p) X.env) = eval (.Name x p) X.env := by rfl)
    (hfew : ((backTo cpos (starEach (e :: es) X.env)).all (fun x => !x.1) && (backToKw cpos (keywordEach [] X.env)).all (fun x => x.1.isSome)
      && decide ((e :: es).length + ([] : List Keyword).length + (if ([] : List Keyword).isEmpty then 0 else 1) < 30)) = true := by rfl)
    (hline : (apos.endLine == cpos.line) = true := by rfl) (hs : starEach (e :: es) X.env = (false, eval e X.env) :: starEach es X.env := by rfl) (hplain : (backTo cpos (starEach es X.env)).any (·.1) = false := by rfl) :
    BE X (.Call (.Attribute (.Name x p) name apos) (e :: es) [] cpos) (mMut T i g ma) := by
  obtain ⟨r, hr, k⟩ := hm
  refine fun W tk => (pe_bm pa slot hty hr (pe_var hN hv hd hcd) (ha W tk) hbase hfew hline hs hplain).imp fun σ H Q ⟨G, io, F, β, I, h⟩ => ?_
  unfold mMut ownTy bnd at h
  simp only at h
  cases e1 : β[i]? with
  | none => rw [e1] at h; exact h.elim
  | some s =>
    rw [e1] at h
    cases s with
    | ex z0 => exact h.elim
    | gh _ => exact h.elim
    | un => exact h.elim
    | fz d => exact h.elim
    | own b d =>
      simp only at h
      by_cases ht : isTy T d = true
      · rw [if_pos ht] at h
        obtain ⟨a, ea, f, gn, o⟩ := I.ownAt e1
        refine ⟨_, ea, isTy_v o ht, G, io, F, β, I, Post.bnd (f := fun ps => finM i g ps) h fun ps β1 vs H1 F1 fe1 I1 r1 h1 => ?_⟩
        exact finM_post I1 ea r1 k (h1.mono fe1)
      · rw [if_neg ht] at h
        exact h.elim
theorem be_mut0 (pa : PlainAttrs T) (slot : Slot T name id') (hty : typeOf (.builtin id') = pure (.type "method_descriptor")) (hm : MutD X T id' g) (hN : X.N[i]? = some x) (hv : Vis X.env.scope x) (hd : (x == ("__debug__" : Str)) = false := by decide)
    (hcd : (x == ("__classdict__" : Str)) = false := by decide) (hbase : attributeBase (.Name x p) name X.env (eval (.Name x p) X.env) = eval (.Name x p) X.env := by rfl) (hline : (apos.endLine == cpos.line) = true := by rfl) :
    BE X (.Call (.Attribute (.Name x p) name apos) [] [] cpos) (mMut T i g mNil) := by
  obtain ⟨r, hr, k⟩ := hm
  refine fun W tk => (pe_bm0 pa slot hty hr (pe_var hN hv hd hcd) hbase hline).imp fun σ H Q ⟨G, io, F, β, I, h⟩ => ?_
  unfold mMut ownTy bnd at h
  simp only at h
  cases e1 : β[i]? with
  | none => rw [e1] at h; exact h.elim
  | some s =>
    rw [e1] at h
    cases s with
    | ex z0 => exact h.elim
    | gh _ => exact h.elim
    | un => exact h.elim
    | fz d => exact h.elim
    | own b d =>
      simp only at h
      by_cases ht : isTy T d = true
      · rw [if_pos ht] at h
        obtain ⟨a, ea, f, gn, o⟩ := I.ownAt e1
        refine ⟨_, ea, isTy_v o ht, ?_⟩
        exact finM_post (ps := []) I ea .nil k h
      · rw [if_neg ht] at h
        exact h.elim
def gAppend : D → List D → Option (D × D)
  | .nd .lst ds, [d] => if ds.length < sizeLine then some (.non, .nd .lst (ds ++ [d])) else none
  | _, _ => none
theorem mu_append : MutD X "list" "list.append" gAppend := by
  refine ⟨_, mt_append, fun F H a d vs ds rd d' sf fa o r hg Q q => ?_⟩
  unfold gAppend at hg
  split at hg
  · split at hg
    · rename_i hz
      cases hg
      cases o with
      | lst h rl =>
        cases r with
        | cons r1 r2 =>
          cases r2
          exact ⟨_, _, _, rfl, rfl, h, by rw [rl.length]; exact hz, q _ _ (.lst upd_same (rl.append (.cons r1 .nil))) .non⟩
    · cases hg
  · cases hg
def gExtend : D → List D → Option (D × D)
  | .nd .lst ds, [.nd .lst es] => if ds.length + es.length ≤ sizeLine then some (.non, .nd .lst (ds ++ es)) else none
  | _, _ => none
theorem mu_extend : MutD X "list" "list.extend" gExtend := by
  refine ⟨_, mt_extend, fun F H a d vs ds rd d' sf fa o r hg Q q => ?_⟩
  unfold gExtend at hg
  split at hg
  · split at hg
    · rename_i hz
      cases hg
      cases o with
      | lst h rl =>
        cases r with
        | cons r1 r2 =>
          cases r2
          cases r1 with
          | lst h1 rl1 => exact ⟨_, _, _, _, rfl, rfl, h, sf _ _ h1, by rw [rl.length, rl1.length]; exact hz, q _ _ (.lst upd_same (rl.append rl1)) .non⟩
    · cases hg
  · cases hg
theorem DRs.eraseIdx {K : PySem.W.Frag} {mg : Str → Option Value} {F : Hp} : ∀ {vs : List V} {ds : List D} (i : Nat), DRs K mg F vs ds → DRs K mg F (vs.eraseIdx i) (ds.eraseIdx i)
  | _, _, _, .nil => .nil
  | _, _, 0, .cons _ b => b
  | _, _, i + 1, .cons a b => .cons a (DRs.eraseIdx i b)
theorem DRs.dropLast {K : PySem.W.Frag} {mg : Str → Option Value} {F : Hp} : ∀ {vs : List V} {ds : List D}, DRs K mg F vs ds → DRs K mg F vs.dropLast ds.dropLast
  | _, _, .nil => .nil
  | _, _, .cons _ .nil => .nil
  | _, _, .cons a (.cons b c) => .cons a (DRs.dropLast (.cons b c))
def gPop : D → List D → Option (D × D)
  | .nd .lst ds, [] => (ds[ds.length - 1]?).map fun d => (d, .nd .lst ds.dropLast)
  | .nd .lst ds, [.int i] => if -(2 ^ 63) ≤ i ∧ i < 2 ^ 63 then (seqIndex? i ds.length).bind fun k => (ds[k]?).map fun d => (d, .nd .lst (ds.eraseIdx k)) else none
  | _, _ => none
theorem mu_pop : MutD X "list" "list.pop" gPop := by
  refine ⟨_, MtR.or mt_pop mt_popAt, fun F H a d vs ds rd d' sf fa o r hg Q q => ?_⟩
  unfold gPop at hg
  split at hg
  · obtain ⟨dl, e1, e2⟩ := Option.map_eq_some_iff.mp hg
    cases e2
    cases r
    cases o with
    | lst h rl =>
      obtain ⟨w, ew, rw'⟩ := rl.getD e1
      rw [← rl.length] at ew
      exact .inl ⟨_, _, _, rfl, rfl, h, ew, q _ _ (.lst upd_same rl.dropLast) rw'⟩
  · split at hg
    · rename_i hz
      obtain ⟨k, e1, e2⟩ := Option.bind_eq_some_iff.mp hg
      obtain ⟨dl, e3, e4⟩ := Option.map_eq_some_iff.mp e2
      cases e4
      cases r with
      | cons r1 r2 =>
        cases r2
        cases r1
        cases o with
        | lst h rl =>
          obtain ⟨w, ew, rw'⟩ := rl.getD e3
          exact .inr ⟨_, _, _, _, _, rfl, rfl, h, hz.1, hz.2, by rw [rl.length]; exact e1, ew, q _ _ (.lst upd_same (rl.eraseIdx _)) rw'⟩
    · cases hg
  · cases hg
def gReverse : D → List D → Option (D × D)
  | .nd .lst ds, [] => some (.non, .nd .lst ds.reverse)
  | _, _ => none
theorem mu_reverse : MutD X "list" "list.reverse" gReverse := by
  refine ⟨_, mt_reverse, fun F H a d vs ds rd d' sf fa o r hg Q q => ?_⟩
  unfold gReverse at hg
  split at hg
  · cases hg
    cases r
    cases o with
    | lst h rl => exact ⟨_, _, rfl, rfl, h, q _ _ (.lst upd_same rl.reverse) .non⟩
  · cases hg
/-! x[k] = e, x a name -/
def setIx (i : Nat) (v : Rs) (kd : D) : M Fl := fun β => match β[i]?, kd with
  | some (.own b (.nd .lst ds)), .int k => (match ixN ds.length k with
    | some j => .ok .nx (β.set i (.own b (.nd .lst (ds.set j v.d))))
    | none => .stuck)
  | _, _ => .stuck
/-- the value first, then the key -/
def mSetIx (i : Nat) (me mk : M Rs) : M Fl := bnd me fun r => bnd (mPl i) fun _ => bnd mk fun kr => setIx i r kr.d
theorem BI.freezeRun {K : PySem.W.Frag} {mg : Str → Option Value} {G : GT} {F H : Hp} {io : List Addr} {β : B.Env} {σ : L2.St} {v : V} {r : Rs} (I : BI K mg G F io β σ H) (h : RR K mg G F io H β σ v r) : ∃ F', FE G io F F' ∧ BI K mg G F' io β σ H ∧ DR K mg F' v r.d := I.freezeR h
theorem bs_setIx {k : Expr} {pos' : Pos} {me mk : M Rs} (hN : X.N[i]? = some x) (hv : Vis X.env.scope x) (he : BE X e me) (hk : BE X k mk) (hd : (x == ("__debug__" : Str)) = false := by decide) (hcd : (x == ("__classdict__" : Str)) = false := by decide)
    (hs : swapsWithSole [.Subscript (.Name x p) k pos'] e pos.line X.env = pure false := by rfl) (hw : swappedStores [.Subscript (.Name x p) k pos'] e X.env = pure none := by rfl)
    (h1 : (assignEach [.Subscript (.Name x p) k pos'] X.env).map (·.2) = [assign (.Subscript (.Name x p) k pos') X.env] := by rfl)
    (ha : ∀ v, assign (.Subscript (.Name x p) k pos') X.env v = (do
      let ov ← holding [v] (eval (.Name x p) X.env)
      let iv ← holding [v, ov] (eval k X.env)
      standAt pos'
      holding [v, ov, iv] (setItem ov iv v)
      release [v, ov, iv] []) := by intro _; rfl) : BS X (.Assign [.Subscript (.Name x p) k pos'] e pos) (mSetIx i me mk) := by
  refine fun W tk => (ps_asg (he W tk) (pg_sub (pe_var hN hv hd hcd) (hk W tk) set_list ha) hs hw h1).imp fun D σ H ⟨G, io, F, β, I, h⟩ => ⟨G, io, F, β, I, h.of fun r β1 v H1 F1 fe1 I1 r1 h1 => ?_⟩
  obtain ⟨F2, fe2, I2, dr⟩ := I1.freezeR r1
  have h7 : SPost X.K X.mg W G F2 io ((mPl i β1).bnd fun _ β => (mk β).bnd fun kr β => setIx i r kr.d β) D := SPost.mono h1 fe2
  clear h1
  cases e0 : mPl i β1 with
  | stuck => rw [e0] at h7; exact h7.elim
  | exc x β => unfold mPl at e0; split at e0 <;> cases e0
  | ok pl β2 =>
    rw [e0] at h7
    have hw : ∃ w, σ[i]? = some (some w) ∧ β2 = β1 := by
      unfold mPl at e0
      split at e0
      · rename_i d e1
        cases e0
        obtain ⟨o, eo, w, rfl, _⟩ := I2.sl i _ e1
        exact ⟨w, eo, rfl⟩
      · rename_i b d e1
        cases e0
        obtain ⟨o, eo, a, rfl, _⟩ := I2.sl i _ e1
        exact ⟨_, eo, rfl⟩
      · cases e0
    obtain ⟨w, ew, rfl⟩ := hw
    have h8 : SPost X.K X.mg W G F2 io ((mk β2).bnd fun kr β => setIx i r kr.d β) D := h7
    exact ⟨w, ew, G, io, F2, β2, I2, h8.of fun kr β3 kv H3 F3 fe3 I3 r3 h3 => by
      obtain ⟨F4, fe4, I4, dk⟩ := I3.freezeR r3
      have h3 := SPost.mono h3 fe4
      generalize hkd : kr.d = kd at h3 dk
      unfold setIx at h3
      split at h3
      · rename_i b ds kk e1
        split at h3
        · rename_i j ej
          obtain ⟨a, ea, f, gn, o⟩ := I4.ownAt e1
          cases dk
          cases o with
          | lst ho rl =>
            rw [ea] at ew
            cases ew
            refine ⟨_, _, _, j, rfl, rfl, ho, by rw [rl.length]; exact ej, ?_⟩
            have I5 := I4.mut (o := .lst _) e1 ea (OwnR.lst upd_same (DRs.set ((dr.mono fe3.same).mono fe4.same) j rl))
            exact h3 σ _ F4 .refl I5
        · exact h3.elim
      · exact h3.elim⟩
/-! x op= e -/
def mAug (i : Nat) (f : Int → Int → Int) (me : M Rs) : M Fl := fun β => match β[i]? with
  | some (.fz (.int a)) => bnd me (fun r => match r.d with
    | .int b => bnd (setR i (.fz (.int (f a b)))) fun _ => ret .nx
    | _ => stk) β
  | _ => .stuck
theorem bs_aug {op : Operator} {f : Int → Int → Int} {pos' : Pos} {me : M Rs} (ho : PIp X op (ipI f)) (hN : X.N.Nodup) (hi : X.N[i]? = some x) (hx : Loc X.env.scope x) (he : BE X e me)
    (hf : X.fn x = true ∨ X.env.scope.names.lookup x = some .local := by first | exact .inl rfl | exact .inr rfl | assumption) : BS X (.AugAssign (.Name x pos') op e pos) (mAug i f me) := by
  refine fun W tk => (ps_aug hN hi hx (he W tk) ho hf).imp fun D σ H ⟨G, io, F, β, I, h⟩ => ?_
  unfold mAug at h
  split at h
  · rename_i a e1
    obtain ⟨o, eo, w, rfl, r⟩ := I.sl i _ e1
    cases r
    refine ⟨_, eo, G, io, F, β, I, SPost.of h fun r β1 v H1 F1 fe1 I1 r1 h1 => ?_⟩
    obtain ⟨F2, fe2, I2, dr⟩ := I1.freezeR r1
    have h1 := SPost.mono h1 fe2
    generalize r.d = d at h1 dr
    cases dr with
    | int b => exact ⟨_, _, rfl, rfl, h1 _ H1 F2 .refl (I2.set (r := .fz (.int (f a b))) (.int _) i)⟩
    | _ => exact h1.elim
  · exact h.elim
/-! a, b = e1, e2: plain local names -/
def mPar (i j : Nat) (ma : M (List Pl)) : M Fl := bnd ma fun ps => fun β => match allD ps with
  | some [d, e] => .ok .nx ((β.set i (.fz d)).set j (.fz e))
  | _ => .stuck
theorem bs_par {j : Nat} {y : Str} {a b : Expr} {px py pt : Pos} {kt k2 : Nat} {pt2 : Pos} (hc : X.calm = true) (hN : X.N.Nodup) (hi : X.N[i]? = some x) (hj : X.N[j]? = some y) (hij : i ≠ j)
    (hx : X.env.scope.names.lookup x = some .local) (hy : X.env.scope.names.lookup y = some .local) (ha : BA X [a, b] ma)
    (hw : swappedStores [.Tuple [.Name x px, .Name y py] kt pt] (.Tuple [a, b] k2 pt2) X.env = pure (some [x, y]) := by rfl)
    (hs : swapsWithSole [.Tuple [.Name x px, .Name y py] kt pt] (.Tuple [a, b] k2 pt2) pos.line X.env = pure false := by rfl) :
    BS X (.Assign [.Tuple [.Name x px, .Name y py] kt pt] (.Tuple [a, b] k2 pt2) pos) (mPar i j ma) := by
  refine fun W tk => (ps_par hc hN hi hj hij hx hy (ha W tk) hw hs).imp fun D σ H ⟨G, io, F, β, I, h⟩ => ⟨G, io, F, β, I, h.of fun ps β1 vs H1 F1 fe1 I1 r1 h1 => ?_⟩
  split at h1
  · rename_i d e' e1
    have r := PRs.all r1 e1
    cases r with
    | cons ra rb =>
      cases rb with
      | cons rb rc =>
        cases rc
        refine ⟨_, _, rfl, h1 _ H1 F1 .refl ?_⟩
        have J := I1.set (r := .fz d) ra i
        exact J.set (r := .fz e') rb j
  · exact h1.elim
/-! o.f = e, o an object of one's own -/
def setF (f : Str) (d : D) : List Str → List D → List Str × List D
  | n :: ns, e :: es => if f = n then (n :: ns, d :: es) else let r := setF f d ns es; (n :: r.1, e :: r.2)
  | _, _ => ([f], [d])
end
end B

set_option Elab.async false
set_option linter.all false
set_option maxRecDepth 100000
set_option maxHeartbeats 4000000
namespace B
open PySem PySem.Spec L2
/-! ## defs where no repr is under way (so lists can be shown) -/
structure RoomG (k : Nat) (A : Around) : Prop where
  r : Room k A
  g : A.guards = some []
theorem RoomG.deeper {k : Nat} {A : Around} (r : RoomG (k + 1) A) (env : PySem.Env) : RoomG k (A.deeper env) := ⟨r.r.deeper env, r.g⟩
theorem RoomG.mono {j k : Nat} {A : Around} (r : RoomG k A) (h : j ≤ k) : RoomG j A := ⟨r.r.mono h, r.g⟩
theorem RoomG.make {k : Nat} {A : Around} (r : RoomG (k + 1) A) (C : Addr) (us : List Value) (kw : List (Str × Value)) : RoomG k (A.under (.builtin "type.__call__" ⟨.ref C :: us, kw⟩)) := by
  refine ⟨r.r.make C us kw, ?_⟩
  have e : (Code.builtin "type.__call__" ⟨.ref C :: us, kw⟩).guards = [] := by simp [Code.guards, Code.isGuard, guardIds]
  unfold Around.under
  rw [e, r.g]
  rfl
/-- a def's promise, wherever it is called from such a place -/
structure FnG (P : Program) (w : World) (K : PySem.W.Frag) (mg : Str → Option Value) (base : Heap) (k : Nat) (f : Addr) (fd : FuncData) (ps : List Str) (sp : Sp) : Prop where
  len : ∀ vs H Q E, sp vs H Q E → vs.length = ps.length
  run : ∀ {A : Around} {outer : List PySem.Env} {s : Shared} {H : Hp} {args : Args} {us : List Value} {vs : List V} {Q : VK} {E : XK}, RoomG k A → Env0 P w K mg base A outer s H → BindsTo s fd args (ps.zip us) → Vals vs us → sp vs H Q E →
    codeAny (model P w) A (.call (.ref f) args) (CR (L2.CX P w) outer P w H s Q E) s
section
variable {P : Program} {w : World} {K : PySem.W.Frag} {mg : Str → Option Value} {base : Heap} {k : Nat} {f : Addr} {N ps : List Str} {sp : Sp}
theorem FnG.mono {j : Nat} {fd : FuncData} (F : FnG P w K mg base j f fd ps sp) (h : j ≤ k) : FnG P w K mg base k f fd ps sp := ⟨F.len, fun hr => F.run (hr.mono h)⟩
theorem fnG_raw {name qual : Str} {params : Arguments} {body : List Stmt} {scope : Scope} {dV kV doc pm cdv ct oc : Value} {an od : Option Addr} {osl : Array (Option Value)} (lk : K.lookup f = some ⟨oc, od, .func (PySem.W.fnOf name qual params body scope dV kV doc pm an cdv ct), osl⟩)
    (hcd : PySem.W.codeIn K cdv qual = true) (S : FnScope N ps scope) (len : ∀ vs H Q E, sp vs H Q E → vs.length = ps.length)
    (hbody : ∀ (A : Around) (outer : List PySem.Env) (s : Shared) (H : Hp) (vs : List V) (Q : VK) (E : XK), RoomG k (A.deeper (PyProof.Rows.envOfC qual scope s.heap.objs.size f cdv)) → sp vs H Q E →
      ∃ t, PSs (cxOf (L2.CX P w) P w K mg base N qual scope f cdv A outer s H E) body t ∧ t { nx := fun _ H' => Q .non H', rt := Q } (L2.start N vs) H) :
    FnG P w K mg base (k + 1) f (PySem.W.fnOf name qual params body scope dV kV doc pm an cdv ct) ps sp where
  len := len
  run {A outer s H args us vs Q E} room e0 hb rel hsp := by
    have inHeap := e0.mod.kin.keeps fun b o z => (e0.bs b o z).1
    refine codeAny_call_function room.r.depth (inHeap _ _ lk) rfl S.co S.gen rfl (PySem.W.codeRec_of inHeap hcd) (hb _ _ _ _ ?_)
    refine wpAny_newFunctionEnv_cells S.kind (fun ⟨y, v⟩ hy => (S.par y (List.of_mem_zip hy).1).imp id fun c => ⟨c, PySem.W.cellsFrom_some _ _ _ (.inl c)⟩) fun env he s1 x => ?_
    cases he
    refine ⟨(e0.mod.nolimit.keeps fun b o z => (e0.bs b o z).1).keeps x.toInCall.keep, codeAny_func ?_⟩
    obtain ⟨t, run, start⟩ := hbody A outer s H vs Q E (room.deeper _) hsp
    refine wpAny_mono (run.run [] s1 (L2.start N vs) H _ (inv_start S room.r.hd e0 (len _ _ _ _ hsp) rel x) start) (fun fl s' hs => ?_) fun e s' hs => hs
    rcases fl with _ | _ | _ | u
    · obtain ⟨σ', H', J, q⟩ := hs
      exact ⟨V.non, H', J.os, J.bare, J.base, J.hok, rfl, q⟩
    · obtain ⟨_, _, _, q⟩ := hs
      exact q.elim
    · obtain ⟨_, _, _, q⟩ := hs
      exact q.elim
    · obtain ⟨v, σ', H', J, rv, q⟩ := hs
      exact ⟨v, H', J.os, J.bare, J.base, J.hok, rv, q⟩
theorem FunG {x qual : Str} {st : Stmt} {fd : FuncData} (F : Fun K x qual st f fd) (S : FnScope N ps (defScope st)) (len : ∀ vs H Q E, sp vs H Q E → vs.length = ps.length)
    (hbody : ∀ (cdv : Value) (A : Around) (outer : List PySem.Env) (s : Shared) (H : Hp) (vs : List V) (Q : VK) (E : XK), RoomG k (A.deeper (PyProof.Rows.envOfC qual (defScope st) s.heap.objs.size f cdv)) → sp vs H Q E →
      ∃ t, PSs (cxOf (L2.CX P w) P w K mg base N qual (defScope st) f cdv A outer s H E) (defBody st) t ∧ t { nx := fun _ H' => Q .non H', rt := Q } (L2.start N vs) H) : FnG P w K mg base (k + 1) f fd ps sp := by
  obtain ⟨oc, od, kV, doc, pm, an, cdv, ct, osl, rfl, lk, hcd⟩ := F.ex
  exact fnG_raw lk hcd S len fun A outer s H vs Q E => hbody cdv A outer s H vs Q E
theorem FunDG {x qual : Str} {params : Arguments} {body : List Stmt} {scope : Scope} {dvs : List V} {kws : List (Str × V)} {fd : FuncData} (F : FunD K x qual params body scope dvs kws f fd) (S : FnScope N ps scope) (len : ∀ vs H Q E, sp vs H Q E → vs.length = ps.length)
    (hbody : ∀ (cdv : Value) (A : Around) (outer : List PySem.Env) (s : Shared) (H : Hp) (vs : List V) (Q : VK) (E : XK), RoomG k (A.deeper (PyProof.Rows.envOfC qual scope s.heap.objs.size f cdv)) → sp vs H Q E →
      ∃ t, PSs (cxOf (L2.CX P w) P w K mg base N qual scope f cdv A outer s H E) body t ∧ t { nx := fun _ H' => Q .non H', rt := Q } (L2.start N vs) H) : FnG P w K mg base (k + 1) f fd ps sp := by
  obtain ⟨oc, od, dV, kV, doc, pm, an, cdv, ct, osl, rfl, lk, hcd, _, _⟩ := F.ex
  exact fnG_raw lk hcd S len fun A outer s H vs Q E => hbody cdv A outer s H vs Q E
end
section
variable {X : Cx} {k : Nat} {f : Addr} {fd : FuncData} {ps : List Str} {sp : Sp} {E : L2.St → XK} {x : Str} {p pos : Pos} {e : Expr} {es : List Expr} {t tk : TA} {dvs : List V} {ds : List Value} {kws : List Keyword} {ks : List Str} {n : Nat} {g : List Value → List Value → List Value} {gV : List V → List V → List V}
/-- behind the entry -/
theorem call_end {pins : List (Addr × Obj)} {σ : L2.St} {H : Hp} {s : Shared} {Q : VK} {args : Args} {us : List Value} {vs : List V} (F : FnG X.prog X.w X.K X.mg X.base k f fd ps sp) (hr : RoomG k X.A) (hx : PassesAt (L2.CX X.prog X.w) X σ (E σ)) (I : Inv X pins σ H s) (b : BindsTo s fd args (ps.zip us)) (r : Vals vs us)
    (h : sp vs H Q (E σ)) : codeAny (model X.prog X.w) X.A (.call (.ref f) args) (fun r s' => match r with
      | .ok (.ret u) => EP X pins σ Q u s'
      | .ok _ => False
      | .error e => X.xe e s') s :=
  codeAny_mono (F.run hr I.env0 b r h) fun r s' q => match r, q with
    | .error e, q => hx pins H s e s' I q
    | .ok (.ret _), q => I.after q
    | .ok .next, q => q.elim
    | .ok .brk, q => q.elim
    | .ok .cont, q => q.elim
/-- f(e, ..) -/
theorem pe_callG (F : FnG X.prog X.w X.K X.mg X.base k f fd ps sp) (hr : RoomG k X.A) (hg : Gl X x) (hm : X.mg x = some (.ref f)) (hk : PySem.W.keepIn X.K (.ref f) = true) (hb : Binds X.K fd ps ds) (hd : Vals dvs ds) (hx : ∀ σ, PassesAt (L2.CX X.prog X.w) X σ (E σ))
    (ha : PA X (e :: es) t) (hdb : (x == ("__debug__" : Str)) = false := by decide) (he : starEach (e :: es) X.env = (false, eval e X.env) :: starEach es X.env := by rfl) (hpl : (backTo pos (starEach es X.env)).any (·.1) = false := by rfl) :
    PE X (.Call (.Name x p) (e :: es) [] pos) (fun σ H Q => t σ H fun vs H1 => sp (vs ++ dvs) H1 Q (E σ)) where
  run pins s σ H Q I h := wpAny_Call_Name_kw (ld_glob I hg hm (PySem.W.callWith_K (h₀ := X.base) I.ok.mod.kin hk (thn (ha.run pos pins s σ H _ I h) fun us s1 ⟨vs, H1, I1, r, q⟩ => ⟨I1.kIn, by
      have rr : Vals (vs ++ dvs) (us ++ ds) := r.append hd
      exact wpAny_call (codeAny_mono (call_end F hr (hx σ) I1 (hb s1 us I1.kIn (rr.length.symm.trans (F.len _ _ _ _ q))) rr q) fun r s' z => match r, z with
        | .error _, z => z
        | .ok (.ret _), z => z)⟩) he hpl) hdb)
/-- f(e, .., y = k, ..) -/
theorem pe_callKG (F : FnG X.prog X.w X.K X.mg X.base k f fd ps sp) (hr : RoomG k X.A) (hg : Gl X x) (hm : X.mg x = some (.ref f)) (hk : PySem.W.keepIn X.K (.ref f) = true) (hb : KBn X.K fd ps n ks g gV) (hx : ∀ σ, PassesAt (L2.CX X.prog X.w) X σ (E σ))
    (ha : PA X (e :: es) t) (hkw : PK X kws tk) (hall : (backToKw pos (keywordEach kws X.env)).all (·.1.isSome) = true := by rfl) (hks : (backToKw pos (keywordEach kws X.env)).filterMap (·.1) = ks := by rfl)
    (hdb : (x == ("__debug__" : Str)) = false := by decide) (he : starEach (e :: es) X.env = (false, eval e X.env) :: starEach es X.env := by rfl)
    (hpl : ((backTo pos (starEach (e :: es) X.env)).any (·.1) || (backToKw pos (keywordEach kws X.env)).any (·.1.isNone)) = false := by rfl) :
    PE X (.Call (.Name x p) (e :: es) kws pos) (fun σ H Q => t σ H fun vs H1 => tk σ H1 fun zs H2 => vs.length = n ∧ zs.length = ks.length ∧ sp (gV vs zs) H2 Q (E σ)) where
  run pins s σ H Q I h := wpAny_Call_Name_kw (ld_glob I hg hm (PySem.W.callWith_KW (h₀ := X.base) I.ok.mod.kin hk hall (thn (ha.run pos pins s σ H _ I h) fun us s1 ⟨vs, H1, I1, r, q⟩ => thn (hkw.run pos pins s1 σ H1 _ I1 q) fun ws s2 ⟨zs, H2, I2, rz, l1, l2, q2⟩ => ⟨I2.kIn, by
      rw [hks]
      exact wpAny_call (codeAny_mono (call_end F hr (hx σ) I2 (hb.to s2 us ws I2.kIn (r.length.symm.trans l1) (rz.length.symm.trans l2)) (hb.rel r rz) q2) fun r s' z => match r, z with
        | .error _, z => z
        | .ok (.ret _), z => z)⟩) hpl he) hdb)
end
/-! ## the law's end -/
section
variable {P : Program} {w : World} {K : PySem.W.Frag} {mg mb : Str → Option Value} {k : Nat} {fa a : Addr} {fd : FuncData} {x : Str} {sp : Sp} {s₁ : Shared} {vs : List Value} {ns : List Int}
/-- what the script's place may be: one more object, or one of the written part -/
structure Scr (P : Program) (w : World) (K : PySem.W.Frag) (a : Addr) (ns : List Int) (s₁ : Shared) (H : Hp) : Prop where
  only : ∀ b u, H b = some u → b = a ∧ K.lookup a = none ∧ ∃ o xs, u = .frz o (.lst xs)
  sq : SqL K H a (ns.map V.int)
  ok : HOk P w H s₁.heap
theorem scr_of (KX : K.In s₁.heap) (ha : s₁.heap.get? a = some { cls := .type "list", data := .seq vs.toArray }) (hi : PyProof.Rows.IntsAre vs ns) (hl : ns.length ≤ sizeLine) : ∃ H, Scr P w K a ns s₁ H := by
  have rv := vals_ints hi
  have hlv : vs.length ≤ sizeLine := by rw [hi.length]; exact hl
  cases hk : K.lookup a with
  | some o =>
    have e := KX a o hk
    rw [ha] at e
    cases e
    exact ⟨fun _ => none, fun b u z => (nomatch z), .inr ⟨_, vs.toArray, _, hk, rfl, rfl, rfl, by rw [List.size_toArray]; exact hlv, by simpa using rv⟩, fun b u z => (nomatch z)⟩
  | none =>
    let o : Obj := { cls := .type "list", data := .seq vs.toArray }
    refine ⟨upd (fun _ => none) a (.frz o (.lst (ns.map V.int))), fun b u z => ?_, .inl (.inr ⟨o, upd_same⟩), fun b u z => ?_⟩
    · by_cases hb : b = a
      · subst hb
        rw [upd_same] at z
        cases z
        exact ⟨rfl, hk, _, _, rfl⟩
      · rw [upd_ne hb] at z
        cases z
    · by_cases hb : b = a
      · subst hb
        rw [upd_same] at z
        cases z
        exact ⟨ha, by rw [List.length_map]; exact hl, vs, _, rv, ha⟩
      · rw [upd_ne hb] at z
        cases z
theorem law_end {H : Hp} (S : Scr P w K a ns s₁ H) (KX : K.In s₁.heap) (hns : s₁.heap.Ns mainGlobals mg) (hb : s₁.heap.Ns builtinsNs mb) (hbb : ∀ x : Str, x ≠ "__name__" → mb x = bootBuiltins x) (hlim : s₁.heap.NoLimit) (hg : s₁.gens = #[])
    (ha : s₁.heap.get? a = some { cls := .type "list", data := .seq vs.toArray }) (hr : RoomG k callerA) (F : ∀ base : Heap, K.In base → base.Ns mainGlobals mg → FnG P w K mg base k fa fd [x] sp) (hbind : ∀ (s : Shared) (u : Value), BindsTo s fd ⟨[u], []⟩ [(x, u)])
    (hsp : sp [.ref a] H (fun v _ => v = .bl true) fun _ _ _ => False) (hCX : ∀ e s', L2.CX P w [] H s₁ (fun _ _ _ => False) e s' → False) :
    codeAny (model P w) callerA (.call (.ref fa) ⟨[.ref a], []⟩) (fun r s' => r = .ok (.ret (.bool true)) ∧ OldK s₁.heap s'.heap ∧ s'.os = s₁.os ∧ PyProof.Rows.AllBare s'.gens) s₁ := by
  -- a dict isn't the script
  have free : ∀ {b : Addr} {m : Str → Option Value}, s₁.heap.Ns b m → H b = none := fun {b m} ⟨o, es, ep, e, d, _⟩ => by
    cases q : H b with
    | none => rfl
    | some u =>
      obtain ⟨rfl, _⟩ := S.only b u q
      rw [ha] at e
      cases e
      cases d
  have ns : ∀ {b : Addr} {m : Str → Option Value}, s₁.heap.Ns b m → (hidT s₁.heap H).Ns b m := fun n => n.at fun o e => (hidT_get e (free n)).trans e.symm |>.symm ▸ (hidT_get e (free n))
  have inB : K.In (hidT s₁.heap H) := fun b o e => hidT_get (KX b o e) (by
    cases q : H b with
    | none => rfl
    | some u =>
      obtain ⟨rfl, n, _⟩ := S.only b u q
      rw [n] at e
      cases e)
  have base : Mod K mg (hidT s₁.heap H) := ⟨inB, ns hns, ⟨mb, ns hb, hbb⟩, hlim.elim fun mc h => ⟨mc, ns h.1, h.2⟩⟩
  have e0 : Env0 P w K mg (hidT s₁.heap H) callerA [] s₁ H := ⟨rfl, base, fun b o e => of_hidT e, Nat.le_of_eq (hidT_size _ _), trivial, fun b hb => (nomatch hb), S.ok, .of_eq hg⟩
  refine codeAny_mono ((F _ inB (ns hns)).run (us := [.ref a]) (vs := [.ref a]) hr e0 (hbind s₁ (.ref a)) (.cons rfl .nil) hsp) fun r s' h => ?_
  match r, h with
  | .error e, h => exact (hCX e s' h).elim
  | .ok (.ret u), ⟨v, H', os, bare, un, hok', r', q⟩ =>
    cases (show v = .bl true from q)
    cases (show u = Value.bool true from r')
    refine ⟨rfl, OldK.of_keep fun b o e => ?_, os, bare⟩
    cases q : H b with
    | none => exact un.keep b o e q (fun z => nomatch z) (fun z => nomatch z)
    | some u =>
      obtain ⟨_, _, ob, xs, rfl⟩ := S.only b u q
      have k1 := (S.ok b _ q).1
      have k2 := (hok' b _ (un.frzs b ob _ q)).1
      rw [e] at k1
      cases k1
      exact k2
end
/-- the goal that k_head leaves, from the law's promise -/
theorem walk_B {l : PySem.W.OpenLaw} {n k : Nat} {q : Program} {loose : List Str} {XP : (Str → Option Value) → Heap → Prop} {YP : World → Heap → Prop} {d : DefRec} {K : Params → PySem.W.Frag} {sp : World → (Str → Option Value) → Sp} {x : Str}
    (hn : l.most = some n) (hn2 : n ≤ sizeLine) (hdf : d.params.defaults = []) (hr : Room k callerA) (hY : ∀ (w : World) (h : Heap), YP w h → (K w.params).In h)
    (F : ∀ (w : World) (mg : Str → Option Value) (fa : Addr) (h : Heap), (K w.params).In h → h.Ns mainGlobals mg → mg d.name = some (.ref fa) →
      ∃ fd : FuncData, (∀ (s : Shared) (u : Value), BindsTo s fd ⟨[u], []⟩ [(x, u)]) ∧ ∀ base : Heap, (K w.params).In base → base.Ns mainGlobals mg → FnG l.prog w (K w.params) mg base k fa fd [x] (sp w mg))
    (hsp : ∀ (w : World) (mg : Str → Option Value) (H : Hp) (a : Addr) (ns : List Int), ns.length ≤ n → (∀ z ∈ ns, Builtin.Int.intBits z ≤ 1048576) → SqL (K w.params) H a (ns.map V.int) → sp w mg [.ref a] H (fun v _ => v = .bl true) fun _ _ _ => False) :
    PySem.W.WalkO q loose XP YP l.row.toRowW d [] (fun f vs => PySem.call f vs) := by
  refine Att.attach_callB hn hdf fun w s₀ s₁ mg mb fa o pm cd doc a vs ns G Y ho hd hcd hmg hobj hints hlen hbits hg => ?_
  have KX := hY w _ Y
  obtain ⟨fd, hb, hF⟩ := F w mg fa _ KX G.T.g hmg
  obtain ⟨H, S⟩ := scr_of (P := l.prog) (w := w) KX hobj hints (Nat.le_trans hlen hn2)
  exact law_end S KX G.T.g G.T.b G.T.builtins G.T.nolimit hg hobj ⟨hr, rfl⟩ hF hb (hsp w mg H a ns hlen hbits S.sq) fun e s' h => by
    obtain ⟨_, _, _, _, _, _, _, _, _, _, _, _, z⟩ := h
    exact z
end B

set_option Elab.async false
set_option linter.all false
set_option maxRecDepth 100000
set_option maxHeartbeats 4000000
namespace B
open PySem PySem.Spec L2
/-! ## defs -/
/-- a def's end: what comes back, what the objects handed in to be changed are then -/
inductive FR where
  | stuck | ok (r : Rs) (ios : List D) | exc (x : Exn) (ios : List D)
/-- the arguments: ks tells which are handed in to be changed, io their addresses -/
inductive AR (K : PySem.W.Frag) (mg : Str → Option Value) (F H : Hp) : List Bool → List Addr → List V → List D → Prop
  | nil : AR K mg F H [] [] [] []
  | fz {v : V} {d : D} {ks : List Bool} {io : List Addr} {vs : List V} {ds : List D} : DR K mg F v d → AR K mg F H ks io vs ds → AR K mg F H (false :: ks) io (v :: vs) (d :: ds)
  | io {a : Addr} {d : D} {ks : List Bool} {io : List Addr} {vs : List V} {ds : List D} : OwnR K mg F H a d → AR K mg F H ks io vs ds → AR K mg F H (true :: ks) (a :: io) (.ref a :: vs) (d :: ds)
inductive IoR (K : PySem.W.Frag) (mg : Str → Option Value) (F H : Hp) : List Addr → List D → Prop
  | nil : IoR K mg F H [] []
  | cons {a : Addr} {d : D} {io : List Addr} {ds : List D} : OwnR K mg F H a d → IoR K mg F H io ds → IoR K mg F H (a :: io) (d :: ds)
/-- how all stands behind a call -/
structure After (K : PySem.W.Frag) (mg : Str → Option Value) (T : Addr → Option Str) (F H : Hp) (io : List Addr) (ios : List D) (F' H' : Hp) : Prop where
  same : Same F F'
  new : ∀ a o, F' a = some o → F a = some o ∨ H a = none
  sf : Same F' H'
  ioF : ∀ a ∈ io, F' a = none
  keep : ∀ b o, H b = some o → b ∉ io → T b = none → H' b = some o
  tab : ∀ a q, T a = some q → F' a = none ∧ LamX.TabS H' a q
  ios : IoR K mg F' H' io ios
def spB (K : PySem.W.Frag) (mg : Str → Option Value) (ks : List Bool) (f : List D → FR) : Sp := fun vs H Q E => ∃ T F io ds, ((∀ a q, T a = some q → F a = none ∧ LamX.TabS H a q) ∧ ∀ a ∈ io, T a = none) ∧ Same F H ∧ (∀ a ∈ io, F a = none) ∧ io.Nodup ∧ AR K mg F H ks io vs ds ∧ match f ds with
  | .stuck => False
  | .ok r ios => ∀ v H' F', After K mg T F H io ios F' H' → (match r with
    | .fz d => DR K mg F' v d
    | .own d => ∃ a, v = .ref a ∧ H a = none ∧ F' a = none ∧ OwnR K mg F' H' a d) → Q v H'
  | .exc x ios => ∀ cls d H' F', After K mg T F H io ios F' H' → XR K mg F' cls d x → E cls d H'
theorem AR.len {K : PySem.W.Frag} {mg : Str → Option Value} {F H : Hp} : ∀ {ks : List Bool} {io : List Addr} {vs : List V} {ds : List D}, AR K mg F H ks io vs ds → vs.length = ks.length ∧ ds.length = ks.length
  | _, _, _, _, .nil => ⟨rfl, rfl⟩
  | _, _, _, _, .fz _ r => ⟨by rw [List.length_cons, List.length_cons, (AR.len r).1], by rw [List.length_cons, List.length_cons, (AR.len r).2]⟩
  | _, _, _, _, .io _ r => ⟨by rw [List.length_cons, List.length_cons, (AR.len r).1], by rw [List.length_cons, List.length_cons, (AR.len r).2]⟩
/-- the slots at the entry: the parameters (j: how many are handed in to be changed so far) -/
def par : List Bool → Nat → List D → B.Env
  | false :: ks, j, d :: ds => .fz d :: par ks j ds
  | true :: ks, j, d :: ds => .own (some j) d :: par ks (j + 1) ds
  | _, _, _ => []
def start0 (ks : List Bool) (n : Nat) (ds : List D) : B.Env := par ks 0 ds ++ List.replicate (n - ks.length) .un
/-- what was handed in to be changed, at the end -/
def endIo : List Bool → Nat → B.Env → Option (List D)
  | [], _, _ => some []
  | false :: ks, j, _ :: β => endIo ks j β
  | true :: ks, j, .own (some j') d :: β => if j' = j then (endIo ks (j + 1) β).map (d :: ·) else none
  | _, _, _ => none
def finF (ks : List Bool) : R Fl → FR
  | .ok (.ret r) β => match endIo ks 0 β with
    | some ios => .ok r ios
    | none => .stuck
  | .ok .nx β => match endIo ks 0 β with
    | some ios => .ok (.fz .non) ios
    | none => .stuck
  | .exc x β => match endIo ks 0 β with
    | some ios => .exc x ios
    | none => .stuck
  | _ => .stuck
def runB (ks : List Bool) (n : Nat) (m : M Fl) (ds : List D) : FR := finF ks (m (start0 ks n ds))
section
variable {K : PySem.W.Frag} {mg : Str → Option Value} {G : GT} {F F' H H' : Hp} {io : List Addr} {β : B.Env} {σ : L2.St}
theorem par_sl (G : GT) (io : List Addr) (gi : ∀ a ∈ io, G a = none) (fi : ∀ a ∈ io, F a = none) : ∀ {ks : List Bool} {l : List Addr} {vs : List V} {ds : List D} (pre : List Addr), AR K mg F H ks l vs ds → io = pre ++ l → ∀ (i : Nat) (s : Sl), (par ks pre.length ds)[i]? = some s → ∃ v, vs[i]? = some v ∧ SlR K mg G F io H (some v) s
  | _, _, _, _, pre, .nil, _, i, s, h => by simp [par] at h
  | _, _, _, _, pre, .fz r a, e, 0, s, h => by
    have h' := Option.some.inj h
    subst h'
    exact ⟨_, rfl, _, rfl, r⟩
  | _, _, _, _, pre, .fz r a, e, i + 1, s, h => par_sl G io gi fi pre a e i s h
  | _, _, _, _, pre, .io (a := a) r ar, e, 0, s, h => by
    have h' := Option.some.inj h
    subst h'
    have ha : a ∈ io := by rw [e]; simp
    refine ⟨_, rfl, a, rfl, fi a ha, gi a ha, fun q => (nomatch q), fun k q => ?_, r⟩
    cases q
    rw [e]
    simp
  | _, _, _, _, pre, .io (a := a) (io := l) (ks := ks') (ds := ds') r ar, e, i + 1, s, h => by
    have h' : (par ks' (pre ++ [a]).length ds')[i]? = some s := by
      rw [List.length_append, List.length_singleton]
      exact h
    exact par_sl G io gi fi (pre ++ [a]) ar (by rw [e]; simp) i s h'
theorem par_own : ∀ {ks : List Bool} {j i : Nat} {ds : List D} {b : Option Nat} {d : D}, (par ks j ds)[i]? = some (.own b d) → ∃ m, b = some m ∧ j ≤ m
  | [], _, _, _, _, _, h => by simp [par] at h
  | false :: ks, j, 0, d :: ds, _, _, h => by cases h
  | false :: ks, j, i + 1, d :: ds, _, _, h => par_own (ks := ks) (i := i) h
  | true :: ks, j, 0, d :: ds, _, _, h => by cases h; exact ⟨j, rfl, Nat.le_refl _⟩
  | true :: ks, j, i + 1, d :: ds, _, _, h => by
    obtain ⟨m, e, hm⟩ := par_own (ks := ks) (j := j + 1) (i := i) h
    exact ⟨m, e, Nat.le_of_succ_le hm⟩
  | false :: _, _, _, [], _, _, h => by simp [par] at h
  | true :: _, _, _, [], _, _, h => by simp [par] at h
theorem par_inj : ∀ {ks : List Bool} {j i i' : Nat} {ds : List D} {m : Nat} {d d' : D}, (par ks j ds)[i]? = some (.own (some m) d) → (par ks j ds)[i']? = some (.own (some m) d') → i = i'
  | [], _, _, _, _, _, _, _, h, _ => by simp [par] at h
  | false :: ks, j, 0, _, d :: ds, _, _, _, h, _ => by cases h
  | false :: ks, j, _ + 1, 0, d :: ds, _, _, _, _, h => by cases h
  | false :: ks, j, i + 1, i' + 1, d :: ds, _, _, _, h, h' => by rw [par_inj (ks := ks) (j := j) (ds := ds) h h']
  | true :: ks, j, 0, 0, d :: ds, _, _, _, _, _ => rfl
  | true :: ks, j, 0, i' + 1, d :: ds, m, _, _, h, h' => by
    cases h
    obtain ⟨m', e, hm⟩ := par_own (ks := ks) (j := j + 1) (i := i') h'
    cases e
    omega
  | true :: ks, j, i + 1, 0, d :: ds, m, _, _, h, h' => by
    cases h'
    obtain ⟨m', e, hm⟩ := par_own (ks := ks) (j := j + 1) (i := i) h
    cases e
    omega
  | true :: ks, j, i + 1, i' + 1, d :: ds, _, _, _, h, h' => by rw [par_inj (ks := ks) (j := j + 1) (ds := ds) h h']
  | false :: _, _, _, _, [], _, _, _, h, _ => by simp [par] at h
  | true :: _, _, _, _, [], _, _, _, h, _ => by simp [par] at h
theorem par_len : ∀ {ks : List Bool} {j : Nat} {ds : List D}, ds.length = ks.length → (par ks j ds).length = ks.length
  | [], _, [], _ => rfl
  | false :: ks, j, d :: ds, h => by
    show (par ks j ds).length + 1 = _
    rw [par_len (Nat.succ.inj h), List.length_cons]
  | true :: ks, j, d :: ds, h => by
    show (par ks (j + 1) ds).length + 1 = _
    rw [par_len (Nat.succ.inj h), List.length_cons]
/-- all but what is handed in to be changed -/
def butIo (T : Addr → Option Str) (H : Hp) (io : List Addr) : GT := ⟨fun a => if a ∈ io ∨ T a ≠ none then none else H a, T⟩
theorem butIo_io {T : Addr → Option Str} {H : Hp} {io : List Addr} {a : Addr} (h : a ∈ io) (t : T a = none) : butIo T H io a = none := GT.none_iff.mpr ⟨t, if_pos (.inl h)⟩
theorem butIo_none {T : Addr → Option Str} {H : Hp} {io : List Addr} {a : Addr} (h : butIo T H io a = none) (n : a ∉ io) : T a = none ∧ H a = none := by
  obtain ⟨t, g⟩ := GT.none_iff.mp h
  refine ⟨t, ?_⟩
  have g : (if a ∈ io ∨ T a ≠ none then none else H a) = none := g
  rwa [if_neg (fun z => z.elim n fun z => z t)] at g
theorem bi_start {ks : List Bool} {N : List Str} {vs : List V} {ds : List D} (sf : Same F H) {T : Addr → Option Str} (tt : (∀ a q, T a = some q → F a = none ∧ LamX.TabS H a q) ∧ ∀ a ∈ io, T a = none) (fi : ∀ a ∈ io, F a = none) (nd : io.Nodup) (ar : AR K mg F H ks io vs ds) (hn : ks.length ≤ N.length) : BI K mg (butIo T H io) F io (start0 ks N.length ds) (L2.start N vs) H := by
  obtain ⟨lv, ld⟩ := ar.len
  have gi : ∀ a ∈ io, butIo T H io a = none := fun a ha => butIo_io ha (tt.2 a ha)
  have io_there : ∀ {ks : List Bool} {l : List Addr} {vs : List V} {ds : List D}, AR K mg F H ks l vs ds → ∀ a ∈ l, ∃ o, H a = some o := by
    intro ks l vs ds h
    induction h with
    | nil => intro a ha; cases ha
    | fz _ _ ih => exact ih
    | io r _ ih =>
      intro b hb
      rcases List.mem_cons.mp hb with rfl | hb
      · obtain ⟨o, e, _⟩ := r.there
        exact ⟨o, e⟩
      · exact ih b hb
  have hpl := par_len (j := 0) ld
  have sl : ∀ (i : Nat) (s : Sl), (start0 ks N.length ds)[i]? = some s → ∃ o, (L2.start N vs)[i]? = some o ∧ SlR K mg (butIo T H io) F io H o s := fun i s e => by
    unfold start0 at e
    unfold L2.start
    by_cases hi : i < ks.length
    · rw [List.getElem?_append_left (by omega)] at e
      obtain ⟨v, ev, r⟩ := par_sl (butIo T H io) io gi fi [] ar rfl i s e
      refine ⟨some v, ?_, r⟩
      rw [List.getElem?_append_left (by rw [List.length_map]; omega), List.getElem?_map, ev]
      rfl
    · rw [List.getElem?_append_right (by omega), List.getElem?_replicate] at e
      split at e
      · cases e
        refine ⟨none, ?_, trivial⟩
        rw [List.getElem?_append_right (by rw [List.length_map]; omega), List.getElem?_replicate, List.length_map, if_pos (by omega)]
      · cases e
  refine ⟨⟨fun a o h => ?_, tt.1, fun a o h => ?_⟩, sf, fi, io_there ar, ?_, sl, fun i j s t a e1 e2 h1 h2 z1 z2 => ?_⟩
  · unfold butIo at h
    simp only at h
    split at h
    · cases h
    · exact h
  · unfold butIo at h ⊢
    simp only at h ⊢
    split at h
    · cases h
    · rename_i z
      cases q : T a with
      | none => rfl
      | some x => exact absurd (.inr (by rw [q]; simp)) z
  · unfold start0 L2.start
    rw [List.length_append, List.length_append, List.length_map, List.length_replicate, List.length_replicate]
    omega
  · -- two own slots are parameters
    have isp : ∀ {i : Nat} {b : Option Nat} {d : D}, (start0 ks N.length ds)[i]? = some (.own b d) → (par ks 0 ds)[i]? = some (.own b d) := fun {i b d} e => by
      unfold start0 at e
      by_cases hi : i < ks.length
      · rwa [List.getElem?_append_left (by omega)] at e
      · rw [List.getElem?_append_right (by omega), List.getElem?_replicate] at e
        split at e <;> cases e
    cases s with
    | ex z0 => cases h1
    | gh _ => cases h1
    | un => cases h1
    | fz _ => cases h1
    | own b d =>
      cases t with
      | ex z0 => cases h2
      | gh _ => cases h2
      | un => cases h2
      | fz _ => cases h2
      | own b' d' =>
        obtain ⟨m, rfl, _⟩ := par_own (isp e1)
        obtain ⟨m', rfl, _⟩ := par_own (isp e2)
        obtain ⟨o1, q1, a1, w1, _, _, _, k1, _⟩ := sl i _ e1
        obtain ⟨o2, q2, a2, w2, _, _, _, k2, _⟩ := sl j _ e2
        rw [z1] at q1
        rw [z2] at q2
        cases q1
        cases q2
        cases w1
        cases w2
        have y1 := k1 m rfl
        have y2 := k2 m' rfl
        have em : m = m' := nd_ix nd y1 y2
        subst em
        exact par_inj (isp e1) (isp e2)
/-- at the end -/
theorem endIo_ok (I : BI K mg G F io β σ H) : ∀ {ks : List Bool} {n j : Nat} {ios : List D}, endIo ks j (β.drop n) = some ios → io.length = j + (ks.filter id).length → IoR K mg F H (io.drop j) ios := by
  intro ks
  induction ks with
  | nil =>
    intro n j ios h hl
    cases h
    rw [List.drop_of_length_le (by simp at hl; omega)]
    exact .nil
  | cons k ks ih =>
    intro n j ios h hl
    cases e : β.drop n with
    | nil =>
      rw [e] at h
      cases k <;> simp [endIo] at h
    | cons s r =>
      have er : r = β.drop (n + 1) := by
        have := congrArg List.tail e
        rw [List.tail_drop] at this
        exact this.symm
      have es : β[n]? = some s := by
        have := congrArg List.head? e
        rw [List.head?_drop] at this
        exact this
      rw [e, er] at h
      cases k with
      | false =>
        have h' : endIo ks j (β.drop (n + 1)) = some ios := by
          cases s <;> exact h
        exact ih h' (by simpa using hl)
      | true =>
        cases s with
        | ex z0 => simp [endIo] at h
        | gh _ => simp [endIo] at h
        | un => simp [endIo] at h
        | fz d => simp [endIo] at h
        | own b d =>
          cases b with
          | none => simp [endIo] at h
          | some j' =>
            simp only [endIo] at h
            split at h
            · rename_i ej
              subst ej
              obtain ⟨l, el, rfl⟩ := Option.map_eq_some_iff.mp h
              obtain ⟨o, eo, a, rfl, _, _, _, k1, r1⟩ := I.sl n _ es
              have ha := k1 j' rfl
              have hlt := (List.getElem?_eq_some_iff.mp ha).1
              have ed : io.drop j' = a :: io.drop (j' + 1) := by
                rw [List.drop_eq_getElem_cons hlt]
                congr 1
                have := List.getElem?_eq_getElem hlt
                rw [ha] at this
                exact (Option.some.inj this).symm
              rw [ed]
              exact .cons r1 (ih el (by simp at hl; omega))
            · cases h
theorem AR.io_len : ∀ {ks : List Bool} {io : List Addr} {vs : List V} {ds : List D}, AR K mg F H ks io vs ds → io.length = (ks.filter id).length
  | _, _, _, _, .nil => rfl
  | _, _, _, _, .fz _ r => by simpa using AR.io_len r
  | _, _, _, _, .io _ r => by simpa using AR.io_len r
end
section
variable {P : Program} {w : World} {K : PySem.W.Frag} {mg : Str → Option Value} {base : Heap}
/-- THE RULE for a def -/
theorem fnB {x qual : Str} {st : Stmt} {f : Addr} {fd : FuncData} {N ps : List Str} {k : Nat} {m : M Fl} (ks : List Bool) (Fn : Fun K x qual st f fd) (S : FnScope N ps (defScope st)) (hk : ks.length = ps.length)
    (hb : ∀ (cdv : Value) (A : Around) (outer : List PySem.Env) (s : Shared) (H : Hp) (E : XK), RoomG k (A.deeper (PyProof.Rows.envOfC qual (defScope st) s.heap.objs.size f cdv)) → BSs (cxOf (L2.CX P w) P w K mg base N qual (defScope st) f cdv A outer s H E) (defBody st) m) :
    FnG P w K mg base (k + 1) f fd ps (spB K mg ks (runB ks N.length m)) := by
  refine FunG Fn S (fun vs H Q E ⟨T, F, io, ds, _, _, _, _, ar, _⟩ => by rw [ar.len.1, hk]) fun cdv A outer s H vs Q E hr h => ?_
  refine ⟨_, hb cdv A outer s H E hr (fun cls d _ H' => E cls d H') (takes_of rfl rfl rfl rfl), ?_⟩
  obtain ⟨T, F, io, ds, tt, sf, fi, nd, ar, h⟩ := h
  have hpl : ps.length ≤ N.length := by
    have := congrArg List.length S.pre
    rw [List.length_take] at this
    omega
  have I := bi_start (N := N) sf tt fi nd ar (by omega)
  refine ⟨_, io, F, _, I, ?_⟩
  unfold runB at h
  have aft : ∀ {β : B.Env} {σ' : L2.St} {H' F' : Hp} {ios : List D}, endIo ks 0 β = some ios → FE (butIo T H io) io F F' → BI K mg (butIo T H io) F' io β σ' H' → After K mg T F H io ios F' H' := fun {β σ' H' F' ios} e fe I' =>
    ⟨fe.same, fun a o q => (fe.new a o q).imp id fun ⟨q1, q2⟩ => (butIo_none q1 q2).2, I'.sf, I'.ioF, fun b o q nb tb => I'.sg.g b o (by unfold butIo; simp only; rw [if_neg (fun z => z.elim nb fun z => z tb)]; exact q), I'.sg.t, endIo_ok I' (n := 0) e (by rw [ar.io_len]; simp)⟩
  cases e : m (start0 ks N.length ds) with
  | stuck => rw [e] at h; exact h.elim
  | exc ex β =>
    rw [e] at h
    intro σ' cls d H' F' fe I' xr
    simp only [finF] at h
    cases e2 : endIo ks 0 β with
    | none => rw [e2] at h; exact h.elim
    | some ios =>
      rw [e2] at h
      exact h cls d H' F' (aft e2 fe I') xr
  | ok fl β =>
    rw [e] at h
    intro σ' H' F' fe I'
    cases fl with
    | brk => exact h.elim
    | ct => exact h.elim
    | nx =>
      simp only [finF] at h
      cases e2 : endIo ks 0 β with
      | none => rw [e2] at h; exact h.elim
      | some ios =>
        rw [e2] at h
        exact h .non H' F' (aft e2 fe I') .non
    | ret r =>
      intro v rr
      simp only [finF] at h
      cases e2 : endIo ks 0 β with
      | none => rw [e2] at h; exact h.elim
      | some ios =>
        rw [e2] at h
        refine h v H' F' (aft e2 fe I') ?_
        cases r with
        | fz d => exact rr
        | own d =>
          obtain ⟨a, ea, f1, g1, ni, o, _⟩ := rr
          refine ⟨a, ea, ?_, f1, o⟩
          exact (butIo_none g1 ni).2
end
end B

set_option Elab.async false
set_option linter.all false
set_option maxRecDepth 100000
set_option maxHeartbeats 4000000
namespace B
open PySem PySem.Spec L2
/-! ## calls of defs -/
def immK : D → Bool
  | .nd _ ds => imms ds
  | _ => true
def immR : Rs → Bool
  | .fz d => imm d
  | .own d => immK d
def immX (x : Exn) : Bool := imms (x.fs.map (·.2))
/-- the arguments' data, the slots handed in to be changed, the own slots that are lent -/
def resA (β : B.Env) : List Bool → List Pl → Option (List D × List Nat × List Nat)
  | [], [] => some ([], [], [])
  | false :: ks, .d d :: ps => (resA β ks ps).map fun r => (d :: r.1, r.2.1, r.2.2)
  | false :: ks, .sl i :: ps => match β[i]? with
    | some (.fz d) => (resA β ks ps).map fun r => (d :: r.1, r.2.1, r.2.2)
    | some (.own _ d) => (resA β ks ps).map fun r => (d :: r.1, r.2.1, i :: r.2.2)
    | _ => none
  | true :: ks, .sl i :: ps => match β[i]? with
    | some (.own _ d) => (resA β ks ps).map fun r => (d :: r.1, i :: r.2.1, r.2.2)
    | _ => none
  | _, _ => none
/-- the slots behind the call -/
def putIo (β : B.Env) : List Nat → List D → B.Env
  | i :: is, d :: ds => putIo (match β[i]? with
    | some (.own b _) => β.set i (.own b d)
    | _ => β) is ds
  | _, _ => β
def callF (ks : List Bool) (f : List D → FR) (ps : List Pl) : M Rs := fun β => match resA β ks ps with
  | some (ds, is, js) => if is.Nodup ∧ (∀ j ∈ js, j ∉ is) then (match f ds with
    | .ok r ios => if ios.length = is.length ∧ (js = [] ∨ (immR r = true ∧ ios.all immK = true)) then .ok r (putIo β is ios) else .stuck
    | .exc x ios => if ios.length = is.length ∧ (js = [] ∨ (immX x = true ∧ ios.all immK = true)) then .exc x (putIo β is ios) else .stuck
    | .stuck => .stuck) else .stuck
  | none => .stuck
section
variable {K : PySem.W.Frag} {mg : Str → Option Value} {G : GT} {F F' H H' : Hp} {io : List Addr} {β : B.Env} {σ : L2.St}
/-- the lent objects' addresses -/
def lent (σ : L2.St) (js : List Nat) (b : Addr) : Prop := ∃ j ∈ js, σ[j]? = some (some (V.ref b))
open Classical in
/-- F and what is lent -/
noncomputable def withL (F H : Hp) (σ : L2.St) (js : List Nat) : Hp := fun b => if lent σ js b then H b else F b
open Classical in
noncomputable def cutL (F : Hp) (σ : L2.St) (js : List Nat) : Hp := fun b => if lent σ js b then none else F b
/-- the slots handed in, their addresses -/
inductive IsA (β : B.Env) (σ : L2.St) : List Nat → List Addr → Prop
  | nil : IsA β σ [] []
  | cons {i : Nat} {a : Addr} {is : List Nat} {as : List Addr} {b : Option Nat} {d : D} : β[i]? = some (.own b d) → σ[i]? = some (some (.ref a)) → IsA β σ is as → IsA β σ (i :: is) (a :: as)
theorem IsA.mem {is : List Nat} {as : List Addr} (h : IsA β σ is as) : ∀ a ∈ as, ∃ i b d, i ∈ is ∧ β[i]? = some (.own b d) ∧ σ[i]? = some (some (V.ref a)) := by
  induction h with
  | nil => intro a ha; cases ha
  | cons h1 h2 _ ih =>
    intro a ha
    rcases List.mem_cons.mp ha with rfl | ha
    · exact ⟨_, _, _, List.mem_cons_self, h1, h2⟩
    · obtain ⟨i, b, d, hi, e1, e2⟩ := ih a ha
      exact ⟨i, b, d, List.mem_cons_of_mem _ hi, e1, e2⟩
theorem IsA.mem' {is : List Nat} {as : List Addr} (h : IsA β σ is as) : ∀ i ∈ is, ∃ a b d, a ∈ as ∧ β[i]? = some (.own b d) ∧ σ[i]? = some (some (V.ref a)) := by
  induction h with
  | nil => intro a ha; cases ha
  | cons h1 h2 _ ih =>
    intro a ha
    rcases List.mem_cons.mp ha with rfl | ha
    · exact ⟨_, _, _, List.mem_cons_self, h1, h2⟩
    · obtain ⟨i, b, d, hi, e1, e2⟩ := ih a ha
      exact ⟨i, b, d, List.mem_cons_of_mem _ hi, e1, e2⟩
theorem IsA.nodup (I : BI K mg G F io β σ H) {is : List Nat} {as : List Addr} (h : IsA β σ is as) (nd : is.Nodup) : as.Nodup := by
  induction h with
  | nil => exact .nil
  | @cons i a is as b d h1 h2 h3 ih =>
    obtain ⟨n1, n2⟩ := List.nodup_cons.mp nd
    refine List.nodup_cons.mpr ⟨fun ha => ?_, ih n2⟩
    obtain ⟨j, b', d', hj, e1, e2⟩ := h3.mem a ha
    exact n1 (I.apart i j _ _ a h1 e1 rfl rfl h2 e2 ▸ hj)
/-- the own slots that are lent: their objects -/
def OwnS (β : B.Env) (js : List Nat) : Prop := ∀ j ∈ js, ∃ b d, β[j]? = some (.own b d)
theorem lent_none (I : BI K mg G F io β σ H) {js : List Nat} (ow : OwnS β js) {b : Addr} (h : lent σ js b) : F b = none ∧ G b = none ∧ ∃ d, OwnR K mg F H b d := by
  obtain ⟨j, hj, e⟩ := h
  obtain ⟨k, d, ej⟩ := ow j hj
  obtain ⟨o, eo, a, rfl, f, g, _, _, r⟩ := I.sl j _ ej
  rw [e] at eo
  cases eo
  exact ⟨f, g, d, r⟩
theorem withL_same (I : BI K mg G F io β σ H) {js : List Nat} (ow : OwnS β js) : Same F (withL F H σ js) ∧ Same (withL F H σ js) H := by
  refine ⟨fun b o h => ?_, fun b o h => ?_⟩
  · unfold withL
    rw [if_neg fun z => by rw [(lent_none I ow z).1] at h; cases h]
    exact h
  · unfold withL at h
    split at h
    · exact h
    · exact I.sf b o h
theorem resA_ok (I : BI K mg G F io β σ H) {J : List Nat} (owJ : OwnS β J) : ∀ {ks : List Bool} {ps : List Pl} {vs : List V} {ds : List D} {is js : List Nat}, resA β ks ps = some (ds, is, js) → PRs K mg F σ vs ps → (∀ j ∈ js, j ∈ J) → (∀ i ∈ is, i ∉ J) →
    ∃ as, IsA β σ is as ∧ AR K mg (withL F H σ J) H ks as vs ds
  | [], [], _, _, _, _, e, .nil, _, _ => by
    cases e
    exact ⟨[], .nil, .nil⟩
  | false :: ks, .d d :: ps, _, _, _, _, e, .cons r rs, hj, hi => by
    obtain ⟨⟨ds, is, js⟩, e1, e2⟩ := Option.map_eq_some_iff.mp e
    cases e2
    obtain ⟨as, h1, h2⟩ := resA_ok I owJ e1 rs hj hi
    exact ⟨as, h1, .fz (DR.mono (withL_same I owJ).1 r) h2⟩
  | false :: ks, .sl i :: ps, v :: _, _, _, _, e, .cons r rs, hj, hi => by
    have er : σ[i]? = some (some v) := r
    simp only [resA] at e
    split at e
    · rename_i d es
      obtain ⟨⟨ds, is, js⟩, e1, e2⟩ := Option.map_eq_some_iff.mp e
      cases e2
      obtain ⟨as, h1, h2⟩ := resA_ok I owJ e1 rs hj hi
      obtain ⟨o, eo, w, rfl, rw'⟩ := I.sl i _ es
      rw [er] at eo
      cases eo
      exact ⟨as, h1, .fz (rw'.mono (withL_same I owJ).1) h2⟩
    · rename_i b d es
      obtain ⟨⟨ds, is, js⟩, e1, e2⟩ := Option.map_eq_some_iff.mp e
      cases e2
      obtain ⟨as, h1, h2⟩ := resA_ok I owJ e1 rs (fun j h => hj j (List.mem_cons_of_mem _ h)) hi
      obtain ⟨o, eo, a, rfl, _, _, _, _, ow⟩ := I.sl i _ es
      rw [er] at eo
      cases eo
      refine ⟨as, h1, .fz (ow.dr (withL_same I owJ).1 ?_) h2⟩
      unfold withL
      rw [if_pos ⟨i, hj i List.mem_cons_self, er⟩]
    · cases e
  | true :: ks, .sl i :: ps, v :: _, _, _, _, e, .cons r rs, hj, hi => by
    have er : σ[i]? = some (some v) := r
    simp only [resA] at e
    split at e
    · rename_i b d es
      obtain ⟨⟨ds, is, js⟩, e1, e2⟩ := Option.map_eq_some_iff.mp e
      cases e2
      obtain ⟨as, h1, h2⟩ := resA_ok I owJ e1 rs hj (fun j h => hi j (List.mem_cons_of_mem _ h))
      obtain ⟨o, eo, a, rfl, _, _, _, _, ow⟩ := I.sl i _ es
      rw [er] at eo
      cases eo
      exact ⟨a :: as, .cons es er h1, .io (ow.mono (withL_same I owJ).1 rfl) h2⟩
    · cases e
  | [], _ :: _, _, _, _, _, e, _, _, _ => by cases e
  | false :: _, [], _, _, _, _, e, _, _, _ => by cases e
  | true :: _, [], _, _, _, _, e, _, _, _ => by cases e
  | true :: _, .d _ :: _, _, _, _, _, e, _, _, _ => by cases e
theorem resA_own : ∀ {ks : List Bool} {ps : List Pl} {ds : List D} {is js : List Nat}, resA β ks ps = some (ds, is, js) → OwnS β js
  | [], [], _, _, _, e => by
    cases e
    exact fun j h => nomatch h
  | false :: ks, .d d :: ps, _, _, _, e => by
    obtain ⟨⟨ds, is, js⟩, e1, e2⟩ := Option.map_eq_some_iff.mp e
    cases e2
    exact resA_own e1
  | false :: ks, .sl i :: ps, _, _, _, e => by
    simp only [resA] at e
    split at e
    · obtain ⟨⟨ds, is, js⟩, e1, e2⟩ := Option.map_eq_some_iff.mp e
      cases e2
      exact resA_own e1
    · rename_i b d es
      obtain ⟨⟨ds, is, js⟩, e1, e2⟩ := Option.map_eq_some_iff.mp e
      cases e2
      intro j hj
      rcases List.mem_cons.mp hj with rfl | hj
      · exact ⟨_, _, es⟩
      · exact resA_own e1 j hj
    · cases e
  | true :: ks, .sl i :: ps, _, _, _, e => by
    simp only [resA] at e
    split at e
    · obtain ⟨⟨ds, is, js⟩, e1, e2⟩ := Option.map_eq_some_iff.mp e
      cases e2
      exact resA_own e1
    · cases e
  | [], _ :: _, _, _, _, e => by cases e
  | false :: _, [], _, _, _, e => by cases e
  | true :: _, [], _, _, _, e => by cases e
  | true :: _, .d _ :: _, _, _, _, e => by cases e
/-- a state behind a call: what was handed in holds ios at the addresses as -/
theorem putIo_len : ∀ (is : List Nat) (ios : List D) (β : B.Env), (putIo β is ios).length = β.length
  | [], _, _ => rfl
  | _ :: _, [], _ => rfl
  | i :: is, d :: ds, β => by
    unfold putIo
    rw [putIo_len is ds]
    split
    · exact List.length_set ..
    · rfl
theorem putIo_out {j : Nat} : ∀ (is : List Nat) (ios : List D) (β : B.Env), j ∉ is → (putIo β is ios)[j]? = β[j]?
  | [], _, _, _ => rfl
  | _ :: _, [], _, _ => rfl
  | i :: is, d :: ds, β, h => by
    unfold putIo
    rw [putIo_out is ds _ fun z => h (List.mem_cons_of_mem _ z)]
    have hne : i ≠ j := fun z => h (by rw [z]; exact List.mem_cons_self)
    split
    · rw [List.getElem?_set_ne hne]
    · rfl
theorem putIo_in {F' H' : Hp} : ∀ {is : List Nat} {as : List Addr} {ios : List D} {β : B.Env}, IsA β σ is as → is.Nodup → IoR K mg F' H' as ios → ∀ i ∈ is, ∃ a b d, (putIo β is ios)[i]? = some (.own b d) ∧ σ[i]? = some (some (V.ref a)) ∧ OwnR K mg F' H' a d ∧ (∃ d0, β[i]? = some (.own b d0)) ∧ d ∈ ios
  | _, _, _, _, .nil, _, _, i, hi => nomatch hi
  | _, _, _, β, .cons (i := i0) (a := a0) (is := is) (as := as) (b := b0) h1 h2 h3, nd, .cons (d := d0) (ds := ds) r rs, i, hi => by
    obtain ⟨n1, n2⟩ := List.nodup_cons.mp nd
    have hl : i0 < β.length := (List.getElem?_eq_some_iff.mp h1).1
    have ep : putIo β (i0 :: is) (d0 :: ds) = putIo (β.set i0 (.own b0 d0)) is ds := by
      show putIo (match β[i0]? with
        | some (.own b _) => β.set i0 (.own b d0)
        | _ => β) is ds = _
      rw [h1]
    rw [ep]
    rcases List.mem_cons.mp hi with rfl | hi
    · refine ⟨a0, b0, d0, ?_, h2, r, ⟨_, h1⟩, List.mem_cons_self⟩
      rw [putIo_out is ds _ n1, List.getElem?_set_self hl]
    · have h3' : IsA (β.set i0 (.own b0 d0)) σ is as := by
        have : ∀ {is : List Nat} {as : List Addr}, IsA β σ is as → i0 ∉ is → IsA (β.set i0 (.own b0 d0)) σ is as := by
          intro is as h
          induction h with
          | nil => exact fun _ => .nil
          | cons q1 q2 _ ih => exact fun hn => .cons (by rw [List.getElem?_set_ne (fun z => hn (by rw [z]; exact List.mem_cons_self))]; exact q1) q2 (ih fun z => hn (List.mem_cons_of_mem _ z))
        exact this h3 n1
      obtain ⟨a, b, d, e1, e2, e3, ⟨d1, e4⟩, e5⟩ := putIo_in h3' n2 rs i hi
      refine ⟨a, b, d, e1, e2, e3, ⟨d1, ?_⟩, List.mem_cons_of_mem _ e5⟩
      rwa [List.getElem?_set_ne (fun z => n1 (by rw [z]; exact hi))] at e4
/-- children that cannot change -/
theorem OwnR.immF {a : Addr} {d : D} (h : OwnR K mg F H a d) (t : Tups F F') (z : Frzs F F') (e : immK d = true) : OwnR K mg F' H a d := by
  cases h with
  | lst h r => exact .lst h (r.imm t z e)
  | dK h r q =>
    refine .dK h (r.imm t z ?_) q
    unfold immK at e
    rename_i kvs ds es
    have : ∀ {ks : List Key} {ds es : List D}, KDs ks ds es → imms es = true → imms ds = true := by
      intro ks ds es h
      induction h with
      | nil => exact fun _ => rfl
      | cons _ ih =>
        intro e
        simp only [imms, imm, Bool.and_eq_true] at e ⊢
        exact ⟨e.1.2.1, ih e.2⟩
    exact this q e
  | dg h k r q =>
    refine .dg h (fun x hx => t _ _ (k x hx)) (r.imm t z ?_) q
    unfold immK at e
    have key : ∀ {ks : List (List Int)} {ds es : List D}, GDs ks ds es → imms es = true → imms ds = true := by
      intro ks ds es h
      induction h with
      | nil => intro _; rfl
      | cons _ ih =>
        intro e
        simp only [imms, imm, Bool.and_eq_true] at e ⊢
        exact ⟨e.1.2.1, ih e.2⟩
    exact key q e
  | dT h r q =>
    refine .dT h (r.imm t z ?_) q
    unfold immK at e
    rename_i kvs ds es
    have : ∀ {ks : List (List Key)} {ds es : List D}, TDs ks ds es → imms es = true → imms ds = true := by
      intro ks ds es h
      induction h with
      | nil => exact fun _ => rfl
      | cons _ ih =>
        intro e
        simp only [imms, imm, Bool.and_eq_true] at e ⊢
        exact ⟨e.1.2.1, ih e.2⟩
    exact this q e
  | ins h g r => exact .ins h g (r.imm t z e)
/-- behind a call -/
theorem BI.call (I : BI K mg G F io β σ H) {is js : List Nat} {as : List Addr} {ios : List D} (ha : IsA β σ is as) (nd : is.Nodup) (ow : OwnS β js) (dj : ∀ j ∈ js, j ∉ is) (hl : ios.length = is.length) (A : After K mg G.t (withL F H σ js) H as ios F' H') (hi : js = [] ∨ ios.all immK = true) :
    FE G io F (cutL F' σ js) ∧ BI K mg G (cutL F' σ js) io (putIo β is ios) σ H' ∧ Tups F' (cutL F' σ js) ∧ Frzs F' (cutL F' σ js) ∧ (js = [] → cutL F' σ js = F') := by
  have nl : ∀ {b : Addr}, lent σ js b → b ∉ as := fun {b} ⟨j, hj, e⟩ hb => by
    obtain ⟨i, b', d', hi', e1, e2⟩ := ha.mem b hb
    obtain ⟨b2, d2, e3⟩ := ow j hj
    have : j = i := I.apart j i _ _ b e3 e1 rfl rfl e e2
    exact dj j hj (this ▸ hi')
  have sameF : Same F (cutL F' σ js) := fun b o h => by
    unfold cutL
    rw [if_neg fun z => by rw [(lent_none I ow z).1] at h; cases h]
    exact A.same b o ((withL_same I ow).1 b o h)
  have there : ∀ {b : Addr} {o : HO}, F' b = some o → ¬ lent σ js b → F b = some o ∨ H b = none := fun {b o} h nl => by
    have := A.new b o h
    unfold withL at this
    rwa [if_neg nl] at this
  have tp : Tups F' (cutL F' σ js) := fun b xs h => by
    unfold cutL
    rw [if_neg fun z => ?_]
    · exact h
    · obtain ⟨_, _, d, r⟩ := lent_none I ow z
      obtain ⟨o, ho, nt, _⟩ := r.there
      have := A.same b o (by unfold withL; rw [if_pos z]; exact ho)
      rw [h] at this
      cases this
      exact nt _ rfl
  have fz : Frzs F' (cutL F' σ js) := fun b ob u h => by
    unfold cutL
    rw [if_neg fun z => ?_]
    · exact h
    · obtain ⟨_, _, d, r⟩ := lent_none I ow z
      obtain ⟨o, ho, _, nt⟩ := r.there
      have := A.same b o (by unfold withL; rw [if_pos z]; exact ho)
      rw [h] at this
      cases this
      exact nt _ _ rfl
  have c0 : js = [] → cutL F' σ js = F' := fun e => by
    funext b
    unfold cutL
    rw [if_neg fun ⟨j, hj, _⟩ => by rw [e] at hj; cases hj]
  refine ⟨⟨sameF, fun b o h => ?_⟩, ⟨⟨fun b o h => ?_, fun b q h => ?_, I.sg.dj⟩, fun b o h => ?_, fun b hb => ?_, fun b hb => ?_, ?_, fun i s e => ?_, fun i j s t b e1 e2 h1 h2 z1 z2 => ?_⟩, tp, fz, c0⟩
  · unfold cutL at h
    split at h
    · cases h
    · rename_i nlb
      rcases there h nlb with q | q
      · exact .inl q
      · refine .inr ⟨I.sg.free q, fun z => ?_⟩
        obtain ⟨u, hu⟩ := I.ioH b z
        rw [hu] at q
        cases q
  · cases tq : G.t b with
    | none =>
      refine A.keep b o (I.sg.g b o h) (fun hb => ?_) tq
      obtain ⟨i, b', d', hi', e1, e2⟩ := ha.mem b hb
      obtain ⟨w, ew, a, ea, f, g, _⟩ := I.sl i _ e1
      rw [e2] at ew
      cases ew
      cases ea
      rw [GT.gn g] at h
      cases h
    | some q => exact absurd tq (by rw [I.sg.dj b o h]; simp)
  · obtain ⟨f1, t1⟩ := A.tab b q h
    refine ⟨?_, t1⟩
    unfold cutL
    split
    · rfl
    · exact f1
  · unfold cutL at h
    split at h
    · cases h
    · exact A.sf b o h
  · unfold cutL
    split
    · rfl
    · rename_i nlb
      cases q : F' b with
      | none => rfl
      | some o =>
        rcases there q nlb with h | h
        · rw [I.ioF b hb] at h
          cases h
        · obtain ⟨u, hu⟩ := I.ioH b hb
          rw [hu] at h
          cases h
  · by_cases hba : b ∈ as
    · obtain ⟨i, b', d', hi', e1, e2⟩ := ha.mem b hba
      obtain ⟨a, b2, d2, q1, q2, q3, _⟩ := putIo_in (σ := σ) ha nd A.ios i hi'
      rw [e2] at q2
      cases q2
      obtain ⟨o, ho, _⟩ := q3.there
      exact ⟨o, ho⟩
    · obtain ⟨u, hu⟩ := I.ioH b hb
      exact (by
        cases tq : G.t b with
        | none => exact ⟨u, A.keep b u hu hba tq⟩
        | some q =>
          obtain ⟨_, ps, h1, _⟩ := A.tab b q tq
          exact ⟨_, h1⟩)
  · rw [putIo_len]
    exact I.len
  · by_cases hi' : i ∈ is
    · obtain ⟨a, b, d, q1, q2, q3, ⟨d0, q4⟩, q5⟩ := putIo_in (σ := σ) ha nd A.ios i hi'
      rw [e] at q1
      cases q1
      obtain ⟨w, ew, a', ea, f, g, k1, k2, _⟩ := I.sl i _ q4
      rw [q2] at ew
      cases ew
      cases ea
      have haa : a ∈ as := by
        obtain ⟨a2, _, _, h1, _, h3⟩ := ha.mem' i hi'
        rw [q2] at h3
        cases h3
        exact h1
      refine ⟨_, q2, a, rfl, ?_, g, k1, k2, ?_⟩
      · unfold cutL
        split
        · rfl
        · exact A.ioF a haa
      · rcases hi with hi | hi
        · rw [c0 hi]
          exact q3
        · exact q3.immF tp fz (List.all_eq_true.mp hi d q5)
    · rw [putIo_out is ios β hi'] at e
      obtain ⟨w, ew, hs⟩ := I.sl i s e
      refine ⟨w, ew, ?_⟩
      cases s with
      | ex z0 => exact ⟨hs.1, hs.2.mono sameF⟩
      | gh _ => exact hs
      | un => trivial
      | fz d =>
        obtain ⟨v, q, r⟩ := hs
        exact ⟨v, q, r.mono sameF⟩
      | own b d =>
        obtain ⟨a, q, f, g, k1, k2, r⟩ := hs
        obtain ⟨u, hu, _⟩ := r.there
        have na : a ∉ as := fun z => by
          obtain ⟨i2, b', d', hi2, e1, e2⟩ := ha.mem a z
          have : i = i2 := I.apart i i2 _ _ a e e1 rfl rfl (by rw [ew, q]) e2
          exact hi' (this ▸ hi2)
        refine ⟨a, q, ?_, g, k1, k2, r.mono sameF (by rw [A.keep a u hu na (GT.tn g), hu])⟩
        unfold cutL
        split
        · rfl
        · rename_i nlb
          cases z : F' a with
          | none => rfl
          | some o =>
            rcases there z nlb with h | h
            · rw [f] at h
              cases h
            · rw [hu] at h
              cases h
  · have back : ∀ {m : Nat} {u : Sl}, (putIo β is ios)[m]? = some u → isOwn u = true → ∃ u', β[m]? = some u' ∧ isOwn u' = true := fun {m u} em hm => by
      by_cases him : m ∈ is
      · obtain ⟨_, b', d', _, e, _⟩ := ha.mem' m him
        exact ⟨_, e, rfl⟩
      · rw [putIo_out is ios β him] at em
        exact ⟨u, em, hm⟩
    obtain ⟨s', es, hs⟩ := back e1 h1
    obtain ⟨t', et, ht⟩ := back e2 h2
    exact I.apart i j s' t' b es et hs ht z1 z2
end
section
variable {X : Cx} {ks : List Bool} {f : List D → FR} {ma : M (List Pl)}
/-- what a call asks -/
theorem callF_post {W : WX} {G : GT} {F H : Hp} {io : List Addr} {β : B.Env} {σ : L2.St} {ps : List Pl} {vs : List V} {Q : VK} (I : BI X.K X.mg G F io β σ H) (rp : PRs X.K X.mg F σ vs ps)
    (h : Post X.K X.mg W (relE X.K X.mg) G F io σ (callF ks f ps β) Q) : spB X.K X.mg ks f vs H Q (WE W σ) := by
  unfold callF at h
  cases e : resA β ks ps with
  | none => rw [e] at h; exact h.elim
  | some t =>
    obtain ⟨ds, is, js⟩ := t
    rw [e] at h
    simp only at h
    split at h
    · rename_i hc
      obtain ⟨nd, dj⟩ := hc
      have ow := resA_own e
      obtain ⟨as, ha, ar⟩ := resA_ok I ow e rp (fun _ h => h) (fun i hi hj => dj i hj hi)
      have nl : ∀ a ∈ as, ¬ lent σ js a := fun a hb ⟨j, hj, e⟩ => by
        obtain ⟨i, b', d', hi', e1, e2⟩ := ha.mem a hb
        obtain ⟨b2, d2, e3⟩ := ow j hj
        have : j = i := I.apart j i _ _ a e3 e1 rfl rfl e e2
        exact dj j hj (this ▸ hi')
      refine ⟨G.t, withL F H σ js, as, ds, ⟨fun a q h => ?_, fun a hb => ?_⟩, (withL_same I ow).2, fun a hb => ?_, ha.nodup I nd, ar, ?_⟩
      · obtain ⟨f1, t1⟩ := I.sg.t a q h
        refine ⟨?_, t1⟩
        unfold withL
        rw [if_neg fun z => by rw [GT.tn (lent_none I ow z).2.1] at h; cases h]
        exact f1
      · obtain ⟨i, b', d', hi', e1, e2⟩ := ha.mem a hb
        obtain ⟨w, ew, a', ea, f', g', _⟩ := I.sl i _ e1
        rw [e2] at ew
        cases ew
        cases ea
        exact GT.tn g'
      · unfold withL
        rw [if_neg (nl a hb)]
        obtain ⟨i, b', d', hi', e1, e2⟩ := ha.mem a hb
        obtain ⟨w, ew, a', ea, f', _⟩ := I.sl i _ e1
        rw [e2] at ew
        cases ew
        cases ea
        exact f'
      · cases ef : f ds with
        | stuck => rw [ef] at h; exact h.elim
        | ok r ios =>
          rw [ef] at h
          simp only at h
          split at h
          · rename_i hl
            obtain ⟨hl, hi⟩ := hl
            intro v H' F' A rr
            obtain ⟨fe, I', tp, fz, c0⟩ := I.call ha nd ow dj hl A (hi.imp id (·.2))
            refine h v H' _ fe I' ?_
            cases r with
            | fz d =>
              rcases hi with hi | hi
              · rw [c0 hi]
                exact rr
              · exact DR.imm tp fz rr hi.1
            | own d =>
              obtain ⟨a, rfl, hn, fn, o⟩ := rr
              have hcut : cutL F' σ js a = none := by
                unfold cutL
                split
                · rfl
                · exact fn
              refine ⟨a, rfl, hcut, I.sg.free hn, fun z => ?_, ?_, fun i s es hs z => ?_⟩
              · obtain ⟨u, hu⟩ := I.ioH a z
                rw [hu] at hn
                cases hn
              · rcases hi with hi | hi
                · rw [c0 hi]
                  exact o
                · exact o.immF tp fz hi.1
              · have : ∃ s', β[i]? = some s' ∧ isOwn s' = true := by
                  by_cases him : i ∈ is
                  · obtain ⟨_, b', d', _, e, _⟩ := ha.mem' i him
                    exact ⟨_, e, rfl⟩
                  · rw [putIo_out is ios β him] at es
                    exact ⟨s, es, hs⟩
                obtain ⟨s', es', hs'⟩ := this
                obtain ⟨w, ew, hss⟩ := I.sl i s' es'
                cases s' with
                | ex _ => cases hs'
                | gh _ => cases hs'
                | un => cases hs'
                | fz _ => cases hs'
                | own b d' =>
                  obtain ⟨x, q, _, _, _, _, r⟩ := hss
                  obtain ⟨u, hu, _⟩ := r.there
                  rw [z, q] at ew
                  cases ew
                  rw [hu] at hn
                  cases hn
          · exact h.elim
        | exc x ios =>
          rw [ef] at h
          simp only at h
          split at h
          · rename_i hl
            obtain ⟨hl, hi⟩ := hl
            intro cls d H' F' A xr
            obtain ⟨fe, I', tp, fz, c0⟩ := I.call ha nd ow dj hl A (hi.imp id (·.2))
            refine h cls d H' _ fe I' ?_
            rcases hi with hi | hi
            · rw [c0 hi]
              exact xr
            · obtain ⟨hm, xr⟩ := xr
              have keepX : ∀ dd fs, F' dd = some (.xd fs) → cutL F' σ js dd = some (.xd fs) := by
                intro dd fs e
                unfold cutL
                split
                · rename_i hL
                  exfalso
                  obtain ⟨_, _, d0, o⟩ := lent_none I ow hL
                  have key : ∀ u, H dd = some u → u = .xd fs := fun u hu => by
                    have := A.same dd u (by unfold withL; rw [if_pos hL]; exact hu)
                    rw [e] at this
                    exact (Option.some.inj this).symm
                  cases o with
                  | lst h _ => cases key _ h
                  | dK h _ _ => cases key _ h
                  | dT h _ _ => cases key _ h
                  | dg h _ _ _ => cases key _ h
                  | ins h _ _ => cases key _ h
                · exact e
              refine ⟨hm, xr.imp id fun ⟨dd, fs, ds, e1, e2, e3, e4, e5⟩ => ⟨dd, fs, ds, e1, keepX _ _ e2, e3, e4.imm tp fz ?_, e5⟩⟩
              rw [e5]
              exact hi.1
          · exact h.elim
    · exact h.elim
def mCallF (ks : List Bool) (f : List D → FR) (ma : M (List Pl)) : M Rs := bnd ma (callF ks f)
/-- default values: data that needs no heap -/
def DDs (K : PySem.W.Frag) (mg : Str → Option Value) (vs : List V) (ds : List D) : Prop := ∀ F, DRs K mg F vs ds
theorem dds_nil {K : PySem.W.Frag} {mg : Str → Option Value} : DDs K mg [] [] := fun _ => .nil
theorem dds_int {K : PySem.W.Frag} {mg : Str → Option Value} {vs : List V} {ds : List D} (i : Int) (h : DDs K mg vs ds) : DDs K mg (.int i :: vs) (.int i :: ds) := fun F => .cons (.int i) (h F)
theorem dds_bl {K : PySem.W.Frag} {mg : Str → Option Value} {vs : List V} {ds : List D} (i : Bool) (h : DDs K mg vs ds) : DDs K mg (.bl i :: vs) (.bl i :: ds) := fun F => .cons (.bl i) (h F)
theorem PRs.append {K : PySem.W.Frag} {mg : Str → Option Value} {F : Hp} {σ : L2.St} : ∀ {vs ws : List V} {ps qs : List Pl}, PRs K mg F σ vs ps → PRs K mg F σ ws qs → PRs K mg F σ (vs ++ ws) (ps ++ qs)
  | _, _, _, _, .nil, h => h
  | _, _, _, _, .cons a b, h => .cons a (PRs.append b h)
theorem DRs.prs {K : PySem.W.Frag} {mg : Str → Option Value} {F : Hp} {σ : L2.St} : ∀ {vs : List V} {ds : List D}, DRs K mg F vs ds → PRs K mg F σ vs (ds.map Pl.d)
  | _, _, .nil => .nil
  | _, _, .cons a b => .cons a (DRs.prs b)
def mCallD (ks : List Bool) (f : List D → FR) (dd : List D) (ma : M (List Pl)) : M Rs := bnd ma fun ps => callF ks f (ps ++ dd.map Pl.d)
theorem be_callD {k : Nat} {fa : Addr} {fd : FuncData} {prm : List Str} {x : Str} {p pos : Pos} {e : Expr} {es : List Expr} {dvs : List V} {dv : List Value} {dd : List D} (Fn : FnG X.prog X.w X.K X.mg X.base k fa fd prm (spB X.K X.mg ks f)) (hr : RoomG k X.A) (hm : X.mg x = some (.ref fa))
    (hk : PySem.W.keepIn X.K (.ref fa) = true) (hb : Binds X.K fd prm dv) (hd : Vals dvs dv) (hdd : DDs X.K X.mg dvs dd) (ha : BA X (e :: es) ma) (hg : Gl X x := by rfl) (hdb : (x == ("__debug__" : Str)) = false := by decide) (he : starEach (e :: es) X.env = (false, eval e X.env) :: starEach es X.env := by rfl)
    (hpl : (backTo pos (starEach es X.env)).any (·.1) = false := by rfl) : BE X (.Call (.Name x p) (e :: es) [] pos) (mCallD ks f dd ma) := by
  refine fun W tk => (pe_callG Fn hr hg hm hk hb hd (fun σ => passAt tk σ) (ha W tk) hdb he hpl).imp fun σ H Q ⟨G, io, F, β, I, h⟩ => ⟨G, io, F, β, I, h.bnd fun ps β1 vs H1 F1 fe1 I1 r1 h1 => ?_⟩
  exact callF_post I1 (r1.append (hdd F1).prs) (h1.mono fe1)
theorem be_call {k : Nat} {fa : Addr} {fd : FuncData} {prm : List Str} {x : Str} {p pos : Pos} {e : Expr} {es : List Expr} (Fn : FnG X.prog X.w X.K X.mg X.base k fa fd prm (spB X.K X.mg ks f)) (hr : RoomG k X.A) (hm : X.mg x = some (.ref fa)) (hk : PySem.W.keepIn X.K (.ref fa) = true)
    (hb : Binds X.K fd prm []) (ha : BA X (e :: es) ma) (hg : Gl X x := by rfl) (hdb : (x == ("__debug__" : Str)) = false := by decide) (he : starEach (e :: es) X.env = (false, eval e X.env) :: starEach es X.env := by rfl)
    (hpl : (backTo pos (starEach es X.env)).any (·.1) = false := by rfl) : BE X (.Call (.Name x p) (e :: es) [] pos) (mCallF ks f ma) := by
  refine fun W tk => (pe_callG Fn hr hg hm hk hb .nil (fun σ => passAt tk σ) (ha W tk) hdb he hpl).imp fun σ H Q ⟨G, io, F, β, I, h⟩ => ⟨G, io, F, β, I, h.bnd fun ps β1 vs H1 F1 fe1 I1 r1 h1 => ?_⟩
  rw [List.append_nil]
  exact callF_post I1 r1 (h1.mono fe1)
/-! ### with keywords -/
def BKw (X : Cx) (kws : List Keyword) (m : M (List Pl)) : Prop := ∀ W, Takes X W → PK X kws (gOf X.K X.mg W (relA X.K X.mg) m)
theorem _root_.L2.PK.imp {X : Cx} {kws : List Keyword} {t t' : TA} (h : PK X kws t) (k : ∀ σ H Q, t' σ H Q → t σ H Q) : PK X kws t' := ⟨fun pos pins s σ H Q I q => h.run pos pins s σ H Q I (k σ H Q q)⟩
theorem bk_nil : BKw X [] mNil := fun W tk => pk_nil.imp fun σ H Q ⟨_, _, F, _, I, h⟩ => h _ H F .refl I .nil
theorem bk_cons {e : Expr} {kws : List Keyword} {nm : Option Str} {kpos : Pos} {mp : M Pl} {mr : M (List Pl)} (h : BP X e mp) (hr : BKw X kws mr) : BKw X (⟨nm, e, kpos⟩ :: kws) (mCons mp mr) := by
  refine fun W tk => (pk_cons (h W tk) (hr W tk)).imp fun σ H Q hq => ?_
  obtain ⟨G, io, F, β, I, hq⟩ := hq
  refine ⟨G, io, F, β, I, hq.bnd fun p β1 v H1 F1 fe1 I1 r1 h1 => ⟨G, io, F1, β1, I1, (h1.mono fe1).bnd fun ps β2 vs H2 F2 fe2 I2 r2 h2 => ?_⟩⟩
  exact (h2.mono fe2) _ H2 F2 .refl I2 (.cons (r1.mono fe2.same) r2)
/-- the keywords' order is the parameters' -/
structure KwOk (K : PySem.W.Frag) (mg : Str → Option Value) (fd : FuncData) (prm : List Str) (n : Nat) (ks : List Str) (gP : List Pl → List Pl → List Pl) : Prop where
  ex : ∃ (g : List Value → List Value → List Value) (gV : List V → List V → List V), KBn K fd prm n ks g gV ∧ ∀ F σ vs ws ps qs, PRs K mg F σ vs ps → PRs K mg F σ ws qs → PRs K mg F σ (gV vs ws) (gP ps qs)
def mCallK (ks : List Bool) (f : List D → FR) (n m : Nat) (gP : List Pl → List Pl → List Pl) (ma mk : M (List Pl)) : M Rs := bnd ma fun ps => bnd mk fun qs => if ps.length = n ∧ qs.length = m then callF ks f (gP ps qs) else stk
theorem PRs.len {K : PySem.W.Frag} {mg : Str → Option Value} {F : Hp} {σ : L2.St} : ∀ {vs : List V} {ps : List Pl}, PRs K mg F σ vs ps → vs.length = ps.length
  | _, _, .nil => rfl
  | _, _, .cons _ b => congrArg Nat.succ (PRs.len b)
theorem be_callK {k : Nat} {fa : Addr} {fd : FuncData} {prm : List Str} {x : Str} {p pos : Pos} {e : Expr} {es : List Expr} {kws : List Keyword} {n : Nat} {kn : List Str} {gP : List Pl → List Pl → List Pl} {mk : M (List Pl)} (Fn : FnG X.prog X.w X.K X.mg X.base k fa fd prm (spB X.K X.mg ks f)) (hr : RoomG k X.A)
    (hm : X.mg x = some (.ref fa)) (hk : PySem.W.keepIn X.K (.ref fa) = true) (hb : KwOk X.K X.mg fd prm n kn gP) (ha : BA X (e :: es) ma) (hkw : BKw X kws mk) (hg : Gl X x := by rfl)
    (hall : (backToKw pos (keywordEach kws X.env)).all (·.1.isSome) = true := by rfl) (hks : (backToKw pos (keywordEach kws X.env)).filterMap (·.1) = kn := by rfl) (hdb : (x == ("__debug__" : Str)) = false := by decide) (he : starEach (e :: es) X.env = (false, eval e X.env) :: starEach es X.env := by rfl)
    (hpl : ((backTo pos (starEach (e :: es) X.env)).any (·.1) || (backToKw pos (keywordEach kws X.env)).any (·.1.isNone)) = false := by rfl) : BE X (.Call (.Name x p) (e :: es) kws pos) (mCallK ks f n kn.length gP ma mk) := by
  obtain ⟨g, gV, kb, rel⟩ := hb.ex
  refine fun W tk => (pe_callKG Fn hr hg hm hk kb (fun σ => passAt tk σ) (ha W tk) (hkw W tk) hall hks hdb he hpl).imp fun σ H Q ⟨G, io, F, β, I, h⟩ => ⟨G, io, F, β, I, h.bnd fun ps β1 vs H1 F1 fe1 I1 r1 h1 => ⟨G, io, F1, β1, I1, (h1.mono fe1).bnd fun qs β2 ws H2 F2 fe2 I2 r2 h2 => ?_⟩⟩
  have h2 := h2.mono fe2
  split at h2
  · rename_i hl
    exact ⟨r1.len.trans hl.1, r2.len.trans hl.2, callF_post I2 (rel _ _ _ _ _ _ (r1.mono fe2.same) r2) h2⟩
  · exact h2.elim
end
end B

set_option Elab.async false
set_option linter.all false
set_option maxRecDepth 100000
set_option maxHeartbeats 4000000
namespace B
open PySem PySem.Spec L2
/-! ## list comprehensions -/
def wipeB (β : B.Env) : List Nat → B.Env
  | [] => β
  | v :: vs => (wipeB β vs).set v .un
/-- the slots at vs as they were in β0 -/
def backB (β0 β : B.Env) : List Nat → B.Env
  | [] => β
  | v :: vs => match β0[v]? with
    | some s => (backB β0 β vs).set v s
    | none => backB β0 β vs
def noOwn (β : B.Env) (vs : List Nat) : Bool := vs.all fun v => match β[v]? with
  | some (.own _ _) => false
  | _ => true
def compL (g : D → M Unit) (mt : M Bool) (me : M Rs) (vs : List Nat) : List D → List D → M (List D)
  | [], acc => ret acc
  | d :: ds, acc => fun β => match g d β with
    | .ok _ β1 => (match mt β1 with
      | .ok true β2 => (match me β2 with
        | .ok r β3 => if acc.length < sizeLine then compL g mt me vs ds (acc ++ [r.d]) (wipeB β3 vs) else .stuck
        | _ => .stuck)
      | .ok false β2 => compL g mt me vs ds acc (wipeB β2 vs)
      | _ => .stuck)
    | _ => .stuck
def compV (g : D → M Unit) (mt : M Bool) (me : M Rs) (vs : List Nat) (ds : List D) : M Rs := fun β1 => if noOwn β1 vs = true then (match compL g mt me vs ds [] (wipeB β1 vs) with
  | .ok acc β => .ok (.own (.nd .lst acc)) (backB β1 β vs)
  | _ => .stuck) else .stuck
def mComp (vs : List Nat) (mi : M (List D)) (g : D → M Unit) (mt : M Bool) (me : M Rs) : M Rs := bnd mi (compV g mt me vs)
/-- the tests -/
def BTs (X : Cx) (ifs : List Expr) (m : M Bool) : Prop := ∀ W, Takes X W → PTs X ifs (gOf X.K X.mg W relB m)
def mYes : M Bool := ret true
section
variable {X : Cx}
theorem _root_.L2.PTs.imp {es : List Expr} {t t' : TT} (h : PTs X es t) (k : ∀ σ H Q, t' σ H Q → t σ H Q) : PTs X es t' := ⟨fun pins s σ H Q I q => h.run pins s σ H Q I (k σ H Q q)⟩
theorem bts_nil : BTs X [] mYes := fun W tk => pts_nil.imp fun σ H Q ⟨_, _, F, _, I, h⟩ => h _ H F .refl I rfl
theorem bts_one {c : Expr} {m : M Bool} (h : BT X c m) : BTs X [c] m := fun W tk => pts_one (h W tk)
end
section
variable {K : PySem.W.Frag} {mg : Str → Option Value} {G : GT} {F F' H H' : Hp} {io : List Addr} {β β' : B.Env} {σ : L2.St}
theorem wipeB_len (β : B.Env) : ∀ vs, (wipeB β vs).length = β.length
  | [] => rfl
  | v :: vs => by unfold wipeB; rw [List.length_set, wipeB_len β vs]
theorem wipe_out {j : Nat} (σ : L2.St) : ∀ vs : List Nat, j ∉ vs → (wipe σ vs)[j]? = σ[j]?
  | [], _ => rfl
  | v :: vs, h => by
    unfold wipe
    rw [List.getElem?_set_ne fun z => h (by rw [z]; exact List.mem_cons_self), wipe_out σ vs fun z => h (List.mem_cons_of_mem _ z)]
theorem wipe_in {j : Nat} (σ : L2.St) (hj : j < σ.length) : ∀ vs : List Nat, j ∈ vs → (wipe σ vs)[j]? = some none
  | v :: vs, h => by
    unfold wipe
    by_cases e : v = j
    · subst e
      rw [List.getElem?_set_self (by rw [wipe_length]; exact hj)]
    · rw [List.getElem?_set_ne e]
      rcases List.mem_cons.mp h with rfl | h
      · exact absurd rfl e
      · exact wipe_in σ hj vs h
theorem wipeB_out {j : Nat} (β : B.Env) : ∀ vs : List Nat, j ∉ vs → (wipeB β vs)[j]? = β[j]?
  | [], _ => rfl
  | v :: vs, h => by
    unfold wipeB
    rw [List.getElem?_set_ne fun z => h (by rw [z]; exact List.mem_cons_self), wipeB_out β vs fun z => h (List.mem_cons_of_mem _ z)]
theorem wipeB_in {j : Nat} (β : B.Env) : ∀ (vs : List Nat) (s : Sl), j ∈ vs → (wipeB β vs)[j]? = some s → s = .un
  | v :: vs, s, h, e => by
    unfold wipeB at e
    by_cases ev : v = j
    · subst ev
      by_cases hl : v < (wipeB β vs).length
      · rw [List.getElem?_set_self hl] at e
        cases e
        rfl
      · rw [List.getElem?_eq_none (by rw [List.length_set]; omega)] at e
        cases e
    · rw [List.getElem?_set_ne ev] at e
      rcases List.mem_cons.mp h with rfl | h
      · exact absurd rfl ev
      · exact wipeB_in β vs s h e
theorem backB_len (β0 β : B.Env) : ∀ vs, (backB β0 β vs).length = β.length
  | [] => rfl
  | v :: vs => by
    unfold backB
    split
    · rw [List.length_set, backB_len β0 β vs]
    · exact backB_len β0 β vs
theorem backB_out {j : Nat} (β0 β : B.Env) : ∀ vs : List Nat, j ∉ vs → (backB β0 β vs)[j]? = β[j]?
  | [], _ => rfl
  | v :: vs, h => by
    unfold backB
    have h2 := backB_out (j := j) β0 β vs fun z => h (List.mem_cons_of_mem _ z)
    split
    · rw [List.getElem?_set_ne fun z => h (by rw [z]; exact List.mem_cons_self)]
      exact h2
    · exact h2
theorem backB_in {j : Nat} (β0 β : B.Env) (hl : β0.length = β.length) : ∀ (vs : List Nat) (s : Sl), j ∈ vs → (backB β0 β vs)[j]? = some s → β0[j]? = some s
  | v :: vs, s, h, e => by
    unfold backB at e
    by_cases ev : v = j
    · subst ev
      cases q : β0[v]? with
      | none =>
        rw [q] at e
        simp only at e
        have h1 := (List.getElem?_eq_some_iff.mp e).1
        rw [backB_len] at h1
        rw [List.getElem?_eq_none_iff] at q
        omega
      | some t =>
        rw [q] at e
        simp only at e
        have h1 := (List.getElem?_eq_some_iff.mp e).1
        rw [List.length_set] at h1
        rw [List.getElem?_set_self h1] at e
        exact e
    · have h' : j ∈ vs := by
        rcases List.mem_cons.mp h with rfl | h
        · exact absurd rfl ev
        · exact h
      cases q : β0[v]? with
      | none =>
        rw [q] at e
        exact backB_in β0 β hl vs s h' e
      | some t =>
        rw [q] at e
        simp only at e
        rw [List.getElem?_set_ne ev] at e
        exact backB_in β0 β hl vs s h' e
/-- the state of a turn's start -/
theorem BI.wipe (I : BI K mg G F io β σ H) (vs : List Nat) {σ' : L2.St} (e : wipe σ vs = wipe σ' vs) (hl : σ'.length = σ.length) : BI K mg G F io (wipeB β vs) (wipe σ' vs) H := by
  refine ⟨I.sg, I.sf, I.ioF, I.ioH, by rw [wipeB_len, wipe_length, I.len, hl], fun j s es => ?_, fun i j s t a e1 e2 h1 h2 z1 z2 => ?_⟩
  · by_cases hj : j ∈ vs
    · have := wipeB_in β vs s hj es
      subst this
      have hlt := (List.getElem?_eq_some_iff.mp es).1
      rw [wipeB_len, I.len] at hlt
      exact ⟨none, wipe_in σ' (by omega) vs hj, trivial⟩
    · rw [wipeB_out β vs hj] at es
      rw [← e, wipe_out σ vs hj]
      exact I.sl j s es
  · have nw : ∀ {i : Nat} {s : Sl}, (wipeB β vs)[i]? = some s → isOwn s = true → i ∉ vs := fun {i s} es hs hi => by
      have := wipeB_in β vs s hi es
      subst this
      cases hs
    have n1 := nw e1 h1
    have n2 := nw e2 h2
    rw [wipeB_out β vs n1] at e1
    rw [wipeB_out β vs n2] at e2
    rw [← e, wipe_out σ vs n1] at z1
    rw [← e, wipe_out σ vs n2] at z2
    exact I.apart i j s t a e1 e2 h1 h2 z1 z2
/-- one object more that must stay -/
theorem BI.guard (I : BI K mg G F io β σ H) {D : Addr} {o : HO} {us : List V} (eG : G.g D = some (.lst us)) (fD : F D = none) (nio : D ∉ io) : BI K mg (G.upd D o) F io β σ (upd H D o) := by
  refine ⟨I.sg.guard (I.sg.dj _ _ eG) (nc_lst (I.sg.g _ _ eG)), fun b u h => ?_, I.ioF, fun b hb => ?_, I.len, fun j s es => ?_, I.apart⟩
  · rw [upd_ne (ne_of_none h fD)]
    exact I.sf b u h
  · rw [upd_ne fun z => nio (by rw [← z]; exact hb)]
    exact I.ioH b hb
  · obtain ⟨w, ew, hs⟩ := I.sl j s es
    refine ⟨w, ew, ?_⟩
    cases s with
    | ex z0 => exact hs
    | gh _ => exact hs
    | un => trivial
    | fz d => exact hs
    | own b d =>
      obtain ⟨a, q, f, g, k1, k2, r⟩ := hs
      have na : a ≠ D := fun z => by
        rw [z] at g
        rw [GT.gn g] at eG
        cases eG
      exact ⟨a, q, f, by rw [GT.upd_ne na]; exact g, k1, k2, r.mono (Same.refl _) (upd_ne na)⟩
theorem BI.guard0 (I : BI K mg G F io β σ H) {D : Addr} {o : HO} (hD : H D = none) : BI K mg (G.upd D o) F io β σ (upd H D o) := by
  have fD := Same.free I.sf hD
  have gD := I.sg.free hD
  refine ⟨I.sg.guard (GT.tn gD) (nc_none hD), fun b u h => ?_, I.ioF, fun b hb => ?_, I.len, fun j s es => ?_, I.apart⟩
  · rw [upd_ne (ne_of_none h fD)]
    exact I.sf b u h
  · obtain ⟨u, hu⟩ := I.ioH b hb
    rw [upd_ne (ne_of_none hu hD)]
    exact ⟨u, hu⟩
  · obtain ⟨w, ew, hs⟩ := I.sl j s es
    refine ⟨w, ew, ?_⟩
    cases s with
    | ex z0 => exact hs
    | gh _ => exact hs
    | un => trivial
    | fz d => exact hs
    | own b d =>
      obtain ⟨a, q, f, g, k1, k2, r⟩ := hs
      obtain ⟨u, hu, _⟩ := r.there
      have na := ne_of_none hu hD
      exact ⟨a, q, f, by rw [GT.upd_ne na]; exact g, k1, k2, r.mono (Same.refl _) (upd_ne na)⟩
/-- the guard let go -/
theorem BI.unguard {D : Addr} {o : HO} (I : BI K mg (G.upd D o) F io β σ H) (gD : G D = none) : BI K mg G F io β σ H := by
  refine ⟨I.sg.unguard gD, I.sf, I.ioF, I.ioH, I.len, fun j s es => ?_, I.apart⟩
  obtain ⟨w, ew, hs⟩ := I.sl j s es
  refine ⟨w, ew, ?_⟩
  cases s with
  | ex z0 => exact hs
  | gh _ => exact hs
  | un => trivial
  | fz d => exact hs
  | own b d =>
    obtain ⟨a, q, f, g, k1, k2, r⟩ := hs
    refine ⟨a, q, f, ?_, k1, k2, r⟩
    by_cases ha : a = D
    · rw [ha]
      exact gD
    · rwa [GT.upd_ne ha] at g
theorem FE.unguard {D : Addr} {o : HO} (h : FE (G.upd D o) io F F') (gD : G D = none) : FE G io F F' := ⟨h.same, fun a u e => (h.new a u e).imp id fun ⟨g, n⟩ => ⟨by
  by_cases ha : a = D
  · exact absurd (ha ▸ g) (GT.upd_self gD)
  · rwa [GT.upd_ne ha] at g, n⟩⟩
theorem FE.keepN {D : Addr} {o : HO} (h : FE (G.upd D o) io F F') (gD : G D = none) (fD : F D = none) : F' D = none := by
  cases e : F' D with
  | none => rfl
  | some u =>
    rcases h.new D u e with q | ⟨q, _⟩
    · rw [fD] at q
      cases q
    · exact absurd q (GT.upd_self gD)
theorem But.wipe {vs : List Nat} {σ σ' : L2.St} (b : But vs σ σ') : L2.wipe σ' vs = L2.wipe σ vs := by
  refine List.ext_getElem? fun j => ?_
  by_cases hj : j ∈ vs
  · by_cases hl : j < σ.length
    · rw [wipe_in σ hl vs hj, wipe_in σ' (by rw [b.1]; exact hl) vs hj]
    · rw [List.getElem?_eq_none (by rw [wipe_length, b.1]; omega), List.getElem?_eq_none (by rw [wipe_length]; omega)]
  · rw [wipe_out σ' vs hj, wipe_out σ vs hj, b.2 j hj]
theorem wipe_wipe (σ : L2.St) (vs : List Nat) : L2.wipe (L2.wipe σ vs) vs = L2.wipe σ vs := by
  refine List.ext_getElem? fun j => ?_
  by_cases hj : j ∈ vs
  · by_cases hl : j < σ.length
    · rw [wipe_in σ hl vs hj, wipe_in _ (by rw [wipe_length]; exact hl) vs hj]
    · rw [List.getElem?_eq_none (by rw [wipe_length, wipe_length]; omega), List.getElem?_eq_none (by rw [wipe_length]; omega)]
  · rw [wipe_out _ vs hj]
end
section
variable {X : Cx}
/-- what stands between the turns -/
structure Mid (K : PySem.W.Frag) (mg : Str → Option Value) (G : GT) (F1 : Hp) (io : List Addr) (σ : L2.St) (vs : List Nat) (D : Addr) (F : Hp) (β : B.Env) (acc : List B.D) (us : List V) (H : Hp) : Prop where
  fe : FE G io F1 F
  fD : F D = none
  at_ : H D = some (.lst us)
  r : DRs K mg F us acc
  I : BI K mg (G.upd D (.lst us)) F io β (wipe σ vs) H
/-- behind the block -/
theorem BI.back {K : PySem.W.Frag} {mg : Str → Option Value} {G : GT} {F F1 H H1 : Hp} {io : List Addr} {β β1 : B.Env} {σ : L2.St} {vs : List Nat} (I : BI K mg G F io β (L2.wipe σ vs) H) (I1 : BI K mg G F1 io β1 σ H1) (sf : Same F1 F) (hno : noOwn β1 vs = true) : BI K mg G F io (backB β1 β vs) σ H := by
  have hl : β1.length = β.length := by rw [I1.len, I.len, wipe_length]
  have no : ∀ {j : Nat} {s : Sl}, (backB β1 β vs)[j]? = some s → isOwn s = true → j ∉ vs := fun {j s} e hs hj => by
    have e1 := backB_in β1 β hl vs s hj e
    have := List.all_eq_true.mp hno j hj
    rw [e1] at this
    cases s with
    | ex z0 => cases hs
    | gh _ => cases hs
    | own _ _ => cases this
    | un => cases hs
    | fz _ => cases hs
  refine ⟨I.sg, I.sf, I.ioF, I.ioH, by rw [backB_len, I.len, wipe_length], fun j s e => ?_, fun i j s t a e1 e2 h1 h2 z1 z2 => ?_⟩
  · by_cases hj : j ∈ vs
    · have e1 := backB_in β1 β hl vs s hj e
      obtain ⟨w, ew, hs⟩ := I1.sl j s e1
      refine ⟨w, ew, ?_⟩
      cases s with
      | ex z0 => exact ⟨hs.1, hs.2.mono sf⟩
      | gh _ => exact hs
      | un => trivial
      | fz d =>
        obtain ⟨v, q, r⟩ := hs
        exact ⟨v, q, r.mono sf⟩
      | own b d => exact absurd hj (no e rfl)
    · rw [backB_out β1 β vs hj] at e
      obtain ⟨w, ew, hs⟩ := I.sl j s e
      rw [wipe_out σ vs hj] at ew
      exact ⟨w, ew, hs⟩
  · have n1 := no e1 h1
    have n2 := no e2 h2
    rw [backB_out β1 β vs n1] at e1
    rw [backB_out β1 β vs n2] at e2
    exact I.apart i j s t a e1 e2 h1 h2 (by rw [wipe_out σ vs n1]; exact z1) (by rw [wipe_out σ vs n2]; exact z2)
theorem tLc_of {mi : M (List D)} {g : D → M Unit} {mt : M Bool} {me : M Rs} {vs : List Nat} {W : WX} {σ : L2.St} {H : Hp} {Q : VK}
    (h : gOf X.K X.mg W (relE X.K X.mg) (mComp vs mi g mt me) σ H Q) :
    tLc (iOf X.K X.mg W mi) (gOfT X.K X.mg vs g) (gOf X.K X.mg (fun _ _ _ _ => False) relB mt) (gOf X.K X.mg (fun _ _ _ _ => False) (relE X.K X.mg) me) vs σ H Q := by
  obtain ⟨G, io, F, β, I, h⟩ := h
  refine ⟨G, io, F, β, I, h.bnd fun ds β1 J H1 F1 fe1 I1 r1 h1 => ?_⟩
  intro Da hD
  unfold compV at h1
  split at h1
  case isFalse => exact h1.elim
  rename_i hno
  have gD : G Da = none := I1.sg.free hD
  have nio : Da ∉ io := fun z => by
    obtain ⟨u, hu⟩ := I1.ioH Da z
    rw [hu] at hD
    cases hD
  obtain ⟨fin, hfin, hok⟩ : ∃ fin : R (List D) → Prop, fin (compL g mt me vs ds [] (wipeB β1 vs)) ∧ ∀ r, fin r → ∃ acc β', r = .ok acc β' ∧ ∀ v H' F', FE G io F F' → BI X.K X.mg G F' io (backB β1 β' vs) σ H' → RR X.K X.mg G F' io H' (backB β1 β' vs) σ v (.own (.nd .lst acc)) → Q v H' := by
    refine ⟨fun r => ∃ acc β', r = .ok acc β' ∧ ∀ v H' F', FE G io F F' → BI X.K X.mg G F' io (backB β1 β' vs) σ H' → RR X.K X.mg G F' io H' (backB β1 β' vs) σ v (.own (.nd .lst acc)) → Q v H', ?_, fun r h => h⟩
    split at h1
    · rename_i acc β' e
      exact ⟨acc, β', e, h1⟩
    · exact h1.elim
  have st0 : Mid X.K X.mg G F1 io σ vs Da F1 (wipeB β1 vs) [] [] (upd H1 Da (.lst [])) :=
    ⟨.refl, Same.free I1.sf hD, upd_same, .nil, (I1.wipe vs rfl rfl).guard0 hD⟩
  refine ⟨fun i m H => i ≤ ds.length ∧ m = ds.length - i ∧ ∃ F' β' acc us, Mid X.K X.mg G F1 io σ vs Da F' β' acc us H ∧ fin (compL g mt me vs (ds.drop i) acc β'), ⟨ds.length, Nat.zero_le _, rfl, F1, _, [], [], st0, hfin⟩, ?_⟩
  rintro i m H2 ⟨hi, rfl, F2, β2, acc, us, M2, h2⟩
  by_cases hlt : i < ds.length
  · have ed : ds[i]? = some ds[i] := List.getElem?_eq_getElem hlt
    have edr : ds.drop i = ds[i] :: ds.drop (i + 1) := (List.getElem_cons_drop hlt).symm
    obtain ⟨go, yld⟩ := (r1 i H2 (M2.fe.same.trans M2.I.sf)).1 _ ed
    rw [edr] at h2
    obtain ⟨acc9, β9, e9, k9⟩ := hok _ h2
    simp only [compL] at h2 e9
    refine .inr ⟨go, fun H' => ∃ F' β' acc us, Mid X.K X.mg G F1 io σ vs Da F' β' acc us H' ∧ fin (compL g mt me vs (ds.drop (i + 1)) acc β'), fun H' ⟨F', β', acc, us, M', h'⟩ => ⟨ds.length - (i + 1), by omega, hlt, rfl, F', β', acc, us, M', h'⟩, fun x H3 hy => ?_⟩
    obtain ⟨F3, fe3, I3, r3⟩ := M2.I.step (yld F2 M2.fe.same M2.I.sf x H3 hy)
    refine ⟨G.upd Da (.lst us), io, F3, β2, ds[i], I3, r3, ?_⟩
    cases e1 : g ds[i] β2 with
    | stuck => rw [e1] at e9; cases e9
    | exc x β => rw [e1] at e9; cases e9
    | ok u β4 =>
      rw [e1] at h2 e9
      simp only at h2 e9 ⊢
      intro σ4 H4 F4 bu fe4 I4
      have ew : wipe σ4 vs = wipe σ vs := bu.wipe.trans (wipe_wipe σ vs)
      have hl4 : σ.length = σ4.length := by rw [bu.1, wipe_length]
      refine ⟨ew, G.upd Da (.lst us), io, F4, β4, I4, ?_⟩
      cases e2 : mt β4 with
      | stuck => rw [e2] at e9; cases e9
      | exc x β => rw [e2] at e9; cases e9
      | ok b β5 =>
        rw [e2] at h2 e9
        intro v H5 F5 fe5 I5 rv
        cases (show v = b from rv)
        have fe25 := (fe3.trans fe4).trans fe5
        cases b with
        | false =>
          simp only at h2 e9
          rw [if_neg Bool.false_ne_true]
          have r5 := M2.r.mono fe25.same
          refine ⟨F5, _, acc, us, ⟨M2.fe.trans (fe25.unguard gD), fe25.keepN gD M2.fD, I5.sg.g _ _ upd_same, r5, I5.wipe vs ew hl4⟩, h2⟩
        | true =>
          simp only at h2 e9
          rw [if_pos rfl]
          refine ⟨G.upd Da (.lst us), io, F5, β5, I5, ?_⟩
          cases e3 : me β5 with
          | stuck => rw [e3] at e9; cases e9
          | exc x β => rw [e3] at e9; cases e9
          | ok r β6 =>
            rw [e3] at h2 e9
            simp only at h2 e9
            intro y H6 F6 fe6 I6 rr
            obtain ⟨F7, fe7, I7, dr⟩ := I6.freezeR rr
            have fe27 := (fe25.trans fe6).trans fe7
            have r7 := M2.r.mono fe27.same
            by_cases hz : acc.length < sizeLine
            · rw [if_pos hz] at h2
              refine ⟨us, I7.sg.g _ _ upd_same, by rw [M2.r.length]; exact hz, F7, _, acc ++ [r.d], us ++ [y], ⟨M2.fe.trans (fe27.unguard gD), fe27.keepN gD M2.fD, upd_same, r7.append (.cons dr .nil), ?_⟩, h2⟩
              have J := (I7.wipe vs ew hl4).guard (o := .lst (us ++ [y])) upd_same (fe27.keepN gD M2.fD) nio
              rw [GT.upd_upd] at J
              exact J
            · rw [if_neg hz] at e9
              cases e9
  · have e : i = ds.length := by omega
    subst e
    rw [List.drop_length] at h2
    obtain ⟨acc9, β9, e9, k9⟩ := hok _ h2
    cases e9
    have Ib := (M2.I.unguard gD).back I1 M2.fe.same hno
    refine .inl ⟨(r1 _ H2 (M2.fe.same.trans M2.I.sf)).2 (Nat.le_refl _), k9 _ _ F2 (fe1.trans M2.fe) Ib ⟨Da, rfl, M2.fD, gD, nio, .lst M2.at_ M2.r, fun j s es hs z => ?_⟩⟩
    have hl : β1.length = β2.length := by rw [I1.len, M2.I.len, wipe_length]
    have hj : j ∉ vs := fun hj => by
      have e1 := backB_in β1 β2 hl vs s hj es
      have := List.all_eq_true.mp hno j hj
      rw [e1] at this
      cases s with
      | ex z0 => cases hs
      | gh _ => cases hs
      | own _ _ => cases this
      | un => cases hs
      | fz _ => cases hs
    rw [backB_out β1 β2 vs hj] at es
    obtain ⟨w, ew, hss⟩ := M2.I.sl j s es
    rw [wipe_out σ vs hj, z] at ew
    cases ew
    cases s with
    | ex z0 => cases hs
    | gh _ => cases hs
    | un => cases hs
    | fz _ => cases hs
    | own b d =>
      obtain ⟨a, q, _, g', _⟩ := hss
      cases q
      exact absurd g' (GT.upd_self gD)
theorem be_comp {elt tg iter : Expr} {ifs : List Expr} {scope : Scope} {own : List (Str × Nat)} {pos : Pos} {mi : M (List D)} {g : D → M Unit} {mt : M Bool} {me : M Rs} {vs : List Nat} (hc : X.calm = true) (hN : X.N.Nodup) (hi : BIt X tg iter mi) (hvs : own.map (·.2) = vs)
    (ok : BlkOk X.N X.env.scope scope own)
    (hg : ∀ (s : Shared) (H : Hp) (C : Addr) (cl : List (Str × Addr)) (fp : List Addr), BG (X.blk s H scope (PySem.compEnvC scope cl C X.env) fp) vs tg g) (ht : ∀ (s : Shared) (H : Hp) (C : Addr) (cl : List (Str × Addr)) (fp : List Addr), BTs (X.blk s H scope (PySem.compEnvC scope cl C X.env) fp) ifs mt)
    (he : ∀ (s : Shared) (H : Hp) (C : Addr) (cl : List (Str × Addr)) (fp : List Addr), BE (X.blk s H scope (PySem.compEnvC scope cl C X.env) fp) elt me) (hs : ∀ x, foldedSetIterable iter X.env x = pure x := by intro _; rfl) :
    BE X (.ListComp elt [⟨tg, iter, ifs, 0⟩] scope pos) (mComp vs mi g mt me) := by
  subst hvs
  refine fun W tk => (pe_lc (g := gOfT X.K X.mg (own.map fun (q : Str × Nat) => q.2) g) (tt := gOf X.K X.mg (fun _ _ _ _ => False) relB mt) (te := gOf X.K X.mg (fun _ _ _ _ => False) (relE X.K X.mg) me) hc hN (hi W tk) ok hg (fun s H C cl fp => ht s H C cl fp _ takes0) (fun s H C cl fp => he s H C cl fp _ takes0) hs).imp fun σ H Q h => tLc_of h
theorem bs_setComp {i : Nat} {y : Str} {py : Pos} {elt tg iter : Expr} {ifs : List Expr} {scope : Scope} {own : List (Str × Nat)} {pos spos : Pos} {mi : M (List D)} {g : D → M Unit} {mt : M Bool} {me : M Rs} {vs : List Nat} (hc : X.calm = true) (hN : X.N.Nodup) (hy : X.N[i]? = some y)
    (hyl : X.env.scope.names.lookup y = some .local) (hsw : swapsWith (.ListComp elt [⟨tg, iter, ifs, 0⟩] scope pos) (some (.Name y py)) spos.line X.env = pure true) (hi : BIt X tg iter mi) (hvs : own.map (·.2) = vs) (ok : BlkOk X.N X.env.scope scope own)
    (hg : ∀ (s : Shared) (H : Hp) (C : Addr) (cl : List (Str × Addr)) (fp : List Addr), BG (X.blk s H scope (PySem.compEnvC scope cl C X.env) fp) vs tg g) (ht : ∀ (s : Shared) (H : Hp) (C : Addr) (cl : List (Str × Addr)) (fp : List Addr), BTs (X.blk s H scope (PySem.compEnvC scope cl C X.env) fp) ifs mt)
    (he : ∀ (s : Shared) (H : Hp) (C : Addr) (cl : List (Str × Addr)) (fp : List Addr), BE (X.blk s H scope (PySem.compEnvC scope cl C X.env) fp) elt me) (hs : ∀ x, foldedSetIterable iter X.env x = pure x := by intro _; rfl) :
    BS X (.Assign [.Name y py] (.ListComp elt [⟨tg, iter, ifs, 0⟩] scope pos) spos) (mSet i (mComp vs mi g mt me)) := by
  subst hvs
  refine fun W tk => (ps_setLc (g := gOfT X.K X.mg (own.map fun (q : Str × Nat) => q.2) g) (tt := gOf X.K X.mg (fun _ _ _ _ => False) relB mt) (te := gOf X.K X.mg (fun _ _ _ _ => False) (relE X.K X.mg) me) hc hN hy hyl hsw (hi W tk) ok hg (fun s H C cl fp => ht s H C cl fp _ takes0) (fun s H C cl fp => he s H C cl fp _ takes0) hs).imp fun D σ H ⟨G, io, F, β, I, h⟩ => ?_
  exact tLc_of ⟨G, io, F, β, I, h.of fun r β1 v H1 F1 fe1 I1 r1 h1 => h1 _ H1 F1 .refl (I1.set r1 i)⟩
end
end B

set_option Elab.async false
set_option linter.all false
set_option maxRecDepth 100000
set_option maxHeartbeats 4000000
namespace B
open PySem PySem.Spec L2
/-! ## instances -/
def putFD (f : Str) (d : D) : List (Str × D) → List (Str × D)
  | [] => [(f, d)]
  | (g, x) :: r => if g = f then (g, d) :: r else (g, x) :: putFD f d r
/-- the instance of the class named c with these attributes -/
def insD (c : Str) (l : List (Str × D)) : D := .nd (.ins c (l.map (·.1))) (l.map (·.2))
theorem put_rel {K : PySem.W.Frag} {mg : Str → Option Value} {F : Hp} {f : Str} {y : V} {d : D} (h : DR K mg F y d) : ∀ {fs : List (Str × V)} {ds : List D}, DRs K mg F (fs.map (·.2)) ds →
    (putF f y fs).map (·.1) = (putFD f d ((fs.map (·.1)).zip ds)).map (·.1) ∧ DRs K mg F ((putF f y fs).map (·.2)) ((putFD f d ((fs.map (·.1)).zip ds)).map (·.2))
  | [], _, .nil => ⟨rfl, .cons h .nil⟩
  | (g, x) :: fs, _, .cons (ds := ds) a b => by
    obtain ⟨i1, i2⟩ := put_rel h b
    have ez : (List.map (·.1) fs |>.zip ds).map (·.1) = fs.map (·.1) := by
      have e := b.length
      rw [List.length_map] at e
      exact List.map_fst_zip (by rw [List.length_map]; omega)
    have ez2 : (List.map (·.1) fs |>.zip ds).map (·.2) = ds := by
      have e := b.length
      rw [List.length_map] at e
      exact List.map_snd_zip (by rw [List.length_map]; omega)
    simp only [List.map_cons, List.zip_cons_cons, putF, putFD]
    by_cases hg : g = f
    · rw [if_pos hg, if_pos hg]
      refine ⟨by rw [List.map_cons, List.map_cons, ez], ?_⟩
      rw [List.map_cons, List.map_cons, ez2]
      exact .cons h b
    · rw [if_neg hg, if_neg hg]
      refine ⟨by rw [List.map_cons, List.map_cons, i1], ?_⟩
      rw [List.map_cons, List.map_cons]
      exact .cons a i2
section
variable {X : Cx} {i : Nat} {x f : Str} {p pos pos' : Pos} {e : Expr} {me : M Rs}
/-- x.f = e, x a name that holds an instance of one's own (or handed in to be changed) -/
def mSetFld (c f : Str) (i : Nat) (me : M Rs) : M Fl := bnd me fun r => fun β => match β[i]? with
  | some (.own b (.nd (.ins c' ns) ds)) => if c' = c ∧ ns.length < 1000 then .ok .nx (β.set i (.own b (insD c' (putFD f r.d (ns.zip ds))))) else .stuck
  | _ => .stuck
theorem bs_fld (c : Str) (hf : FldOk X c f) (hN : X.N[i]? = some x) (hv : Vis X.env.scope x) (he : BE X e me) (hd : (x == ("__debug__" : Str)) = false := by decide) (hcd : (x == ("__classdict__" : Str)) = false := by decide)
    (hs : swapsWith e (some (.Attribute (.Name x p) f pos')) pos.line X.env = pure false := by rfl) : BS X (.Assign [.Attribute (.Name x p) f pos'] e pos) (mSetFld c f i me) := by
  refine fun W tk => (ps_fld (pe_var hN hv hd hcd) (he W tk) hs).imp fun D σ H ⟨G, io, F, β, I, h⟩ => ⟨G, io, F, β, I, h.of fun r β1 v H1 F1 fe1 I1 r1 h1 => ?_⟩
  obtain ⟨F2, fe2, I2, dr⟩ := I1.freezeR r1
  have h2 := SPost.mono h1 fe2
  split at h2
  · rename_i b c' ns ds e1
    split at h2
    · rename_i hc
      obtain ⟨rfl, hz⟩ := hc
      obtain ⟨a, ea, f0, g0, o⟩ := I2.ownAt e1
      cases o with
      | @ins C dx c fs ds ho hg r =>
        obtain ⟨k1, k2⟩ := hf C hg
        obtain ⟨q1, q2⟩ := put_rel (f := f) dr r
        refine ⟨_, ea, a, C, dx, fs, rfl, ho, k1, k2, by simpa using hz, h2 σ _ F2 .refl (I2.mut e1 ea ?_)⟩
        unfold insD
        rw [← q1]
        exact .ins upd_same hg q2
    · exact h2.elim
  · exact h2.elim
/-! ### C(..) -/
/-- a new instance, its __init__ run, where what is raised is wished for at the caller's slots -/
theorem run_makeS {C f : Addr} {fd : FuncData} {k : Nat} {ps : List Str} {sp : Sp} {E : L2.St → XK} {pins : List (Addr × Obj)} {σ : L2.St} {H : Hp} {s : Shared} {Q : VK} {us : List Value} {vs : List V} (M : Mk X.K C f) (Fn : FnG X.prog X.w X.K X.mg X.base k f fd ps sp)
    (hr : RoomG (k + 1) X.A) (hb : Binds X.K fd ps []) (hx : ∀ σ, PassesAt (L2.CX X.prog X.w) X σ (E σ)) (I : Inv X pins σ H s) (r : Vals vs us)
    (h : ∀ x dx, H x = none → H dx = none → dx ≠ x → sp (.ref x :: vs) (upd (upd H dx (.own x)) x (.ins C dx [])) (fun v H2 => v = .non ∧ Q (.ref x) H2) (E σ)) : wpAny (model X.prog X.w) X.A (call (.ref C) us) (EP X pins σ Q) X.xe s := by
  have big : ∀ n, s.heap.objs.size ≤ n → H n = none := fun n hn => I.hok.fresh hn
  have hq := h _ _ (big (s.heap.objs.size + 1) (Nat.le_succ _)) (big _ (Nat.le_refl _)) (Nat.ne_of_lt (Nat.lt_succ_self _))
  have J := Inv.made (C := C) I
  have rv : Vals (V.ref (s.heap.objs.size + 1) :: vs) (Value.ref (s.heap.objs.size + 1) :: us) := .cons rfl r
  have bd := hb _ (Value.ref (s.heap.objs.size + 1) :: us) J.kIn (by rw [List.append_nil, ← rv.length]; exact Fn.len _ _ _ _ hq)
  rw [List.append_nil] at bd
  refine wpAny_call (make_map (f := f) I.kIn M.makes M.init (beq_iff_eq.mp M.fn) (codeAny_mono (Fn.run (hr.make C us []) (J.env0.make C us []) bd rv hq) fun r s' z => ?_))
  match r, z with
  | .error e, z => exact hx σ pins _ _ e s' J z
  | .ok (.ret u), z =>
    obtain ⟨v, H', J', rv', ev, q3⟩ := J.after z
    subst ev
    exact ⟨rv', V.ref (s.heap.objs.size + 1), H', J', rfl, q3⟩
theorem pe_makeS {C f : Addr} {fd : FuncData} {k : Nat} {ps : List Str} {sp : Sp} {E : L2.St → XK} {es : List Expr} {t : TA} (M : Mk X.K C f) (Fn : FnG X.prog X.w X.K X.mg X.base k f fd ps sp) (hr : RoomG (k + 1) X.A) (hg : Gl X x) (hm : X.mg x = some (.ref C)) (hb : Binds X.K fd ps [])
    (hx : ∀ σ, PassesAt (L2.CX X.prog X.w) X σ (E σ)) (ha : PA X (e :: es) t) (hdb : (x == ("__debug__" : Str)) = false := by decide) (he : starEach (e :: es) X.env = (false, eval e X.env) :: starEach es X.env := by rfl) (hpl : (backTo pos (starEach es X.env)).any (·.1) = false := by rfl) :
    PE X (.Call (.Name x p) (e :: es) [] pos) (fun σ H Q => t σ H fun vs H1 => ∀ x dx, H1 x = none → H1 dx = none → dx ≠ x → sp (.ref x :: vs) (upd (upd H1 dx (.own x)) x (.ins C dx [])) (fun v H2 => v = .non ∧ Q (.ref x) H2) (E σ)) :=
  ⟨fun pins s σ H Q I h => wpAny_Call_Name_kw (ld_glob I hg hm (PySem.W.callWith_K (h₀ := X.base) I.ok.mod.kin M.kp (thn (ha.run pos pins s σ H _ I h) fun us s1 ⟨vs, H1, I1, r, q⟩ => ⟨I1.kIn, run_makeS M Fn hr hb hx I1 r q⟩) he hpl) hdb)⟩
/-- the object that __init__ leaves, let stay -/
def makeF (c : Str) (f : List D → FR) (ps : List Pl) : M Rs := fun β => match allD ps with
  | some ds => (match f (insD c [] :: ds) with
    | .ok (.fz .non) [d] => .ok (.fz d) β
    | .exc x _ => .exc x β
    | _ => .stuck)
  | none => .stuck
def mMake (c : Str) (f : List D → FR) (ma : M (List Pl)) : M Rs := bnd ma (makeF c f)
theorem AR.all {K : PySem.W.Frag} {mg : Str → Option Value} {F H : Hp} : ∀ {vs : List V} {ds : List D}, DRs K mg F vs ds → AR K mg F H (List.replicate ds.length false) [] vs ds
  | _, _, .nil => .nil
  | _, _, .cons a b => .fz a (AR.all b)
theorem be_make {C fa : Addr} {fd : FuncData} {k : Nat} {prm : List Str} {es : List Expr} {ma : M (List Pl)} {g : List D → FR} (n : Nat) (M : Mk X.K C fa) (Fn : FnG X.prog X.w X.K X.mg X.base k fa fd prm (spB X.K X.mg (true :: List.replicate n false) g)) (hr : RoomG (k + 1) X.A) (hm : X.mg x = some (.ref C))
    (hb : Binds X.K fd prm []) (hl : ∀ ps ds, allD ps = some ds → g (insD x [] :: ds) ≠ .stuck → ds.length = n) (ha : BA X (e :: es) ma) (hg : Gl X x := by rfl) (hdb : (x == ("__debug__" : Str)) = false := by decide) (he : starEach (e :: es) X.env = (false, eval e X.env) :: starEach es X.env := by rfl)
    (hpl : (backTo pos (starEach es X.env)).any (·.1) = false := by rfl) : BE X (.Call (.Name x p) (e :: es) [] pos) (mMake x g ma) := by
  refine fun W tk => (pe_makeS M Fn hr hg hm hb (fun σ => passAt tk σ) (ha W tk) hdb he hpl).imp fun σ H Q ⟨G, io, F, β, I, h⟩ => ⟨G, io, F, β, I, h.bnd fun ps β1 vs H1 F1 fe1 I1 r1 h1 => ?_⟩
  intro xa dx hx hdx hne
  unfold makeF at h1
  cases e1 : allD ps with
  | none => rw [e1] at h1; exact h1.elim
  | some ds =>
    rw [e1] at h1
    simp only at h1
    have rr := PRs.all r1 e1
    have fx : F1 xa = none := Same.free I1.sf hx
    have fdx : F1 dx = none := Same.free I1.sf hdx
    have sf : Same F1 (upd (upd H1 dx (.own xa)) xa (.ins C dx [])) := fun b o hb => by
      rw [upd_ne (ne_of_none hb fx), upd_ne (ne_of_none hb fdx)]
      exact I1.sf b o hb
    have hlen : ds.length = n := hl ps ds e1 fun z => by
      rw [z] at h1
      exact h1
    refine ⟨fun _ => none, F1, [xa], insD x [] :: ds, ⟨fun _ _ z => (nomatch z), fun _ _ => rfl⟩, sf, fun a ha => by
      rw [List.mem_singleton.mp ha]
      exact fx, List.nodup_cons.mpr ⟨fun z => (nomatch z), .nil⟩, .io (.ins upd_same hm .nil) (by rw [← hlen]; exact AR.all rr), ?_⟩
    -- what stood stays
    have stay : ∀ {ios : List D} {F' H' : Hp}, After X.K X.mg (fun _ => none) F1 (upd (upd H1 dx (.own xa)) xa (.ins C dx [])) [xa] ios F' H' → Same H1 H' ∧ ∀ a o, F' a = some o → F1 a = some o ∨ H1 a = none := fun {ios F' H'} A => by
      refine ⟨fun b o hb => A.keep b o ?_ (fun z => ?_) rfl, fun a o ha => (A.new a o ha).imp id fun z => ?_⟩
      · rw [upd_ne (ne_of_none hb hx), upd_ne (ne_of_none hb hdx)]
        exact hb
      · rw [List.mem_singleton.mp z, hx] at hb
        cases hb
      · by_cases ea : a = xa
        · rw [ea]
          exact hx
        · by_cases ed : a = dx
          · rw [ed]
            exact hdx
          · rwa [upd_ne ea, upd_ne ed] at z
    split at h1
    · rename_i d e2
      rw [e2]
      intro v H' F' A rv
      cases (show DR X.K X.mg F' v .non from rv)
      refine ⟨rfl, ?_⟩
      obtain ⟨sh, nw⟩ := stay A
      have o : OwnR X.K X.mg F' H' xa d := by
        cases A.ios with
        | cons r _ => exact r
      obtain ⟨u, hu, _⟩ := o.there
      have fxa : F' xa = none := A.ioF xa (List.mem_singleton_self _)
      have sm : Same F' (upd F' xa u) := fun b w hb => by
        rw [upd_ne (ne_of_none hb fxa)]
        exact hb
      have inh : Same (upd F' xa u) H' := fun b w hb => by
        by_cases eb : b = xa
        · subst eb
          rw [upd_same] at hb
          cases hb
          exact hu
        · rw [upd_ne eb] at hb
          exact A.sf b w hb
      obtain ⟨fe2, I2⟩ := I1.grow (F' := upd F' xa u) sh (A.same.trans sm) (fun a w ha => by
        by_cases ea : a = xa
        · rw [ea]
          exact .inr hx
        · rw [upd_ne ea] at ha
          exact nw a w ha) inh
      exact h1 _ H' _ (fe1.trans fe2) I2 (o.dr sm (by rw [upd_same, hu]))
    · rename_i x' ios e2
      rw [e2]
      intro cls d H' F' A xr
      obtain ⟨sh, nw⟩ := stay A
      obtain ⟨fe2, I2⟩ := I1.grow sh A.same nw A.sf
      exact h1 cls d H' _ (fe1.trans fe2) I2 xr
    · exact h1.elim
end
end B

set_option Elab.async false
set_option linter.all false
set_option maxRecDepth 100000
set_option maxHeartbeats 4000000
namespace B
open PySem PySem.Spec L2
/-! ## isinstance, by a built-in type -/
def tyD : D → Option String
  | .non => some "NoneType"
  | .bl _ => some "bool"
  | .int _ => some "int"
  | .str _ => some "str"
  | .nd .tup _ => some "tuple"
  | .nd .lst _ => some "list"
  | .nd .scr _ => some "list"
  | .nd .wtp _ => none
  | .nd .dcg _ => none
  | .nd .dct _ => some "dict"
  | .nd (.ins _ _) _ => none
def isiD (T : String) (d : D) : Option Bool := (tyD d).bind fun t => kitB t T
def gIsi (T : String) (d : D) : Option Rs := (isiD T d).map fun b => .fz (.bl b)
theorem HR.tyx {K : PySem.W.Frag} {mg : Str → Option Value} {F H : Hp} {v : V} {d : D} {t : String} (sf : Same F H) (h : HR K mg F H v d) (e : tyD d = some t) : TyX K H v (.type t) := by
  cases h with
  | non => cases e; exact .base .non
  | bl b => cases e; exact .base (.bl b)
  | int i => cases e; exact .base (.int i)
  | str x => cases e; exact .base (.str x)
  | tup h r =>
    cases e
    exact .base (.tup (sf _ _ h))
  | wtp h r => cases e
  | lst h r => cases e; exact .base (.lst h)
  | scr h r =>
    cases e
    rcases h with (h | ⟨o, h⟩) | ⟨o, its, n, h1, h2, _⟩
    · exact .base (.lst h)
    · exact .base (.frz h)
    · exact .kList h1 h2
  | dK h r q => cases e; exact .base (.dK h)
  | dT h r q => cases e; exact .base (.dT h)
  | dg h k r q => cases e
  | ins h g r => cases e
section
variable {X : Cx} {x y : Str} {p p2 pos : Pos} {a : Expr} {ma : M Pl}
theorem be_isi (T : String) (hg : Gl X "isinstance") (hm : X.mg "isinstance" = none) (hg2 : Gl X y) (hm2 : X.mg y = none) (hy : bootBuiltins y = some (.type T)) (ha : BP X a ma) (hn : y ≠ "__name__" := by decide) (hd : (y == ("__debug__" : Str)) = false := by decide)
    (h1 : starEach [a, .Name y p2] X.env = (false, eval a X.env) :: starEach [.Name y p2] X.env := by rfl) (h2 : starEach [.Name y p2] X.env = [(false, eval (.Name y p2) X.env)] := by rfl) (hpl : (backTo pos (starEach [Expr.Name y p2] X.env)).any (·.1) = false := by rfl) :
    BE X (.Call (.Name "isinstance" p) [a, .Name y p2] [] pos) (mUn (gIsi T) ma) := by
  refine fun W tk => (pe_callB call_isi hg hm PyProof.Rows.boot_isinstance (pa_cons (ha W tk) (pa_cons (pe_bltn (v := .ty T) hg2 hm2 hy rfl hn hd) pa_nil h2) h1) (by decide) (by decide) h1 hpl).imp fun σ H Q ⟨G, io, F, β, I, h⟩ => ⟨G, io, F, β, I, h.bnd fun q β1 v H1 F1 fe1 I1 r1 h1 => ?_⟩
  unfold fin1 at h1
  cases e1 : look β1 q with
  | none => rw [e1] at h1; exact h1.elim
  | some d =>
    rw [e1] at h1
    simp only [Option.bind_some] at h1
    cases e2 : tyD d with
    | none => unfold gIsi isiD at h1; rw [e2] at h1; exact h1.elim
    | some t =>
      cases e3 : kitB t T with
      | none => unfold gIsi isiD at h1; rw [e2] at h1; simp only [Option.bind_some] at h1; rw [e3] at h1; exact h1.elim
      | some b =>
        unfold gIsi isiD at h1
        rw [e2] at h1
        simp only [Option.bind_some] at h1
        rw [e3] at h1
        exact ⟨v, .ty T, _, _, b, rfl, .ty T, (I1.look r1 e1).tyx I1.sf e2, kit_ty e3, h1 _ H1 F1 fe1 I1 (.bl b)⟩
/-! ## len(set(..)) of unlike ints -/
def gLenSet : D → Option Rs
  | .nd .lst ds => (ints? ds).bind fun ns => if ns.Nodup ∧ ns.length ≤ 4000 then some (.fz (.int ns.length)) else none
  | _ => none
theorem lenSet_of {d : D} {r : Rs} (h : gLenSet d = some r) : ∃ ns : List Int, d = .nd .lst (ns.map D.int) ∧ ns.Nodup ∧ ns.length ≤ 4000 ∧ r = .fz (.int ns.length) := by
  unfold gLenSet at h
  split at h
  · obtain ⟨ns, e, h⟩ := Option.bind_eq_some_iff.mp h
    split at h
    · rename_i hh
      cases h
      exact ⟨ns, by rw [ints_of e], hh.1, hh.2, rfl⟩
    · cases h
  · cases h
theorem DRs.intsV {K : PySem.W.Frag} {mg : Str → Option Value} {F : Hp} : ∀ {ns : List Int} {vs : List V}, DRs K mg F vs (ns.map D.int) → vs = ns.map V.int
  | [], _, .nil => rfl
  | n :: ns, _, .cons h t => by
    cases h
    rw [DRs.intsV t]
    rfl
theorem be_lenSet {q : Pos} (hg : Gl X "len") (hm : X.mg "len" = none) (hg2 : Gl X "set") (hm2 : X.mg "set" = none) (hc : X.calm = true) (ha : BP X a ma) (na : starEach [a] X.env = (false, eval a X.env) :: starEach [] X.env := by rfl) :
    BE X (.Call (.Name "len" p) [.Call (.Name "set" p2) [a] [] q] [] pos) (mUn gLenSet ma) := by
  refine fun W tk => (RZ.pe_lenSetI hg hm hg2 hm2 (ha W tk) hc na).imp fun σ H Q ⟨G, io, F, β, I, h⟩ => ⟨G, io, F, β, I, h.bnd fun q β1 v H1 F1 fe1 I1 r1 h1 => ?_⟩
  unfold fin1 at h1
  cases e1 : look β1 q with
  | none => rw [e1] at h1; exact h1.elim
  | some d =>
    rw [e1] at h1
    simp only [Option.bind_some] at h1
    cases e2 : gLenSet d with
    | none => rw [e2] at h1; exact h1.elim
    | some r =>
      rw [e2] at h1
      obtain ⟨ns, rfl, nd, hl, rfl⟩ := lenSet_of e2
      have hr := I1.look r1 e1
      cases hr with
      | @lst l vs ds hl' r => exact ⟨l, ns, rfl, .inl (.inl (by rw [hl', DRs.intsV r])), nd, hl, h1 _ H1 F1 fe1 I1 (.int _)⟩
/-! ## zip, enumerate -/
def zipD (ds es : List D) : List D := List.zipWith (fun d e => .nd .tup [d, e]) ds es
theorem itR_pair {F : Hp} {J : It} {ds es : List D} {vs ws : List V} (rd : DRs X.K X.mg F vs ds) (re : DRs X.K X.mg F ws es)
    (hgo : ∀ i H x y, Same F H → vs[i]? = some x → ws[i]? = some y → J.go i H) (hy : ∀ i H v H' x y, Same F H → vs[i]? = some x → ws[i]? = some y → J.yld i H v H' → ∃ T, v = .ref T ∧ H T = none ∧ H' = upd H T (.tup [x, y]))
    (hst : ∀ i H, Same F H → vs.length ≤ i ∨ ws.length ≤ i → J.stop i H) : ItR X.K X.mg F J (zipD ds es) := by
  intro i H sf
  refine ⟨fun d ed => ?_, fun hl => hst i H sf ?_⟩
  · unfold zipD at ed
    rw [List.getElem?_zipWith] at ed
    cases e1 : ds[i]? with
    | none => rw [e1] at ed; cases ed
    | some d1 =>
      cases e2 : es[i]? with
      | none => rw [e1, e2] at ed; cases ed
      | some d2 =>
        rw [e1, e2] at ed
        cases ed
        obtain ⟨x, ex, rx⟩ := rd.getD e1
        obtain ⟨y, ey, ry⟩ := re.getD e2
        refine ⟨hgo i H x y sf ex ey, fun F1 s1 s2 v H' h => ?_⟩
        obtain ⟨T, rfl, hT, rfl⟩ := hy i H v H' x y sf ex ey h
        exact NR.tup s2 hT (.cons (rx.mono s1) (.cons (ry.mono s1) .nil))
  · unfold zipD at hl
    rw [List.length_zipWith, ← rd.length, ← re.length] at hl
    omega
def zipA (ps : List Pl) : M (List D) := fun β => match allD ps with
  | some [.nd .tup ds, .nd .tup es] => .ok (zipD ds es) β
  | some [.nd .lst ds, .nd .lst es] => .ok (zipD ds es) β
  | some [.nd .scr ds, .nd .lst es] => .ok (zipD ds es) β
  | _ => .stuck
theorem bi_zip {e e2 : Expr} {mm : M (List Pl)} {tpos : Pos} {elts : List Expr} {kk : Nat} (hg : Gl X "zip") (hm : X.mg "zip" = none) (ha : BA X [e, e2] mm) (hs : starEach [e, e2] X.env = (false, eval e X.env) :: starEach [e2] X.env := by rfl)
    (hpl : (backTo pos (starEach [e2] X.env)).any (·.1) = false := by rfl) : BIt X (.Tuple elts kk tpos) (.Call (.Name "zip" p) [e, e2] [] pos) (bnd mm zipA) := by
  refine fun W tk => (RZ.pi_zipA hg hm (ha W tk) hs hpl).imp fun σ H R ⟨G, io, F, β, I, hq⟩ => ⟨G, io, F, β, I, hq.bnd fun ps β1 vs H1 F1 fe1 I1 r1 h1 => ?_⟩
  have lst : ∀ {a b : Addr} {xs ys : List V} {ds es : List D}, SqL X.K F1 a xs → SqL X.K F1 b ys → DRs X.K X.mg F1 xs ds → DRs X.K X.mg F1 ys es → ItR X.K X.mg F1 (Itz X.K a b) (zipD ds es) := fun {a b xs ys ds es} ha hb ra rb =>
    itR_pair ra rb (fun i H x y sf ex ey => ⟨xs, ys, x, y, Same.sqL sf ha, Same.sqL sf hb, ex, ey⟩) (fun i H v H' x y sf ex ey ⟨T, x', y', e1, e2, e3, e4, e5⟩ => by
      have q1 := (e4 xs (Same.sqL sf ha)).symm.trans ex
      have q2 := (e5 ys (Same.sqL sf hb)).symm.trans ey
      cases q1
      cases q2
      exact ⟨T, e1, e2, e3⟩) fun i H sf hl => ⟨xs, ys, Same.sqL sf ha, Same.sqL sf hb, hl⟩
  unfold zipA at h1
  split at h1
  · rename_i ds es e1
    have rr := PRs.all r1 e1
    cases rr with
    | cons k1 rr =>
      cases rr with
      | cons k2 rr =>
        cases rr
        cases k1 with
        | @tup a xs ds ha ra =>
          cases k2 with
          | @tup b ys es hb rb =>
            refine ⟨a, b, xs, ys, rfl, .inr ⟨Same.tp I1.sf ha, Same.tp I1.sf hb, h1 _ H1 F1 fe1 I1 ?_⟩⟩
            exact itR_pair ra rb (fun i H x y sf ex ey => ⟨xs, ys, x, y, Same.tp sf ha, Same.tp sf hb, ex, ey⟩) (fun i H v H' x y sf ex ey ⟨T, x', y', e1, e2, e3, e4, e5⟩ => by
              have q1 := (e4 xs (Same.tp sf ha)).symm.trans ex
              have q2 := (e5 ys (Same.tp sf hb)).symm.trans ey
              cases q1
              cases q2
              exact ⟨T, e1, e2, e3⟩) fun i H sf hl => ⟨xs, ys, Same.tp sf ha, Same.tp sf hb, hl⟩
  · rename_i ds es e1
    have rr := PRs.all r1 e1
    cases rr with
    | cons k1 rr =>
      cases rr with
      | cons k2 rr =>
        cases rr
        cases k1 with
        | @lst a xs ds ha ra =>
          cases k2 with
          | @lst b ys es hb rb => exact ⟨a, b, xs, ys, rfl, .inl ⟨Same.sqL I1.sf (.inl (.inl ha)), Same.sqL I1.sf (.inl (.inl hb)), h1 _ H1 F1 fe1 I1 (lst (.inl (.inl ha)) (.inl (.inl hb)) ra rb)⟩⟩
  · rename_i ds es e1
    have rr := PRs.all r1 e1
    cases rr with
    | cons k1 rr =>
      cases rr with
      | cons k2 rr =>
        cases rr
        cases k1 with
        | @scr a xs ds ha ra =>
          cases k2 with
          | @lst b ys es hb rb => exact ⟨a, b, xs, ys, rfl, .inl ⟨Same.sqL I1.sf ha, Same.sqL I1.sf (.inl (.inl hb)), h1 _ H1 F1 fe1 I1 (lst ha (.inl (.inl hb)) ra rb)⟩⟩
  · exact h1.elim
/-! ## repr -/
def shwOk (d : D) : Bool := (toPy d).canLay0 && (toPy d).showable && decide ((toPy d).shown.length ≤ sizeLine) && decide ((toPy d).depth ≤ 50)
def isSq : D → Bool
  | .nd .lst _ => true
  | .nd .tup _ => true
  | _ => false
def gRepr (d : D) : Option Rs := if isSq d = true ∧ shwOk d = true then some (.fz (.str (toPy d).shown)) else none
theorem be_repr (hG : X.A.guards = some []) (hu : X.A.units + 64 < cLine) (hg : Gl X "repr") (hm : X.mg "repr" = none) (ha : BP X a ma) (hs : starEach [a] X.env = (false, eval a X.env) :: starEach [] X.env := by rfl)
    (hpl : (backTo pos (starEach [] X.env)).any (·.1) = false := by rfl) : BE X (.Call (.Name "repr" p) [a] [] pos) (mUn gRepr ma) := by
  have cr : CallR X (.builtin "repr") (fun xs H Q => ∃ (l : Addr) (d : PyData), xs = [.ref l] ∧ Dp X.K H (.ref l) d ∧ d.canLay0 = true ∧ d.showable = true ∧ d.shown.length ≤ sizeLine ∧ d.depth ≤ 50 ∧ Q (.str d.shown) H) := by
    intro pins s σ H xs us Q I r ⟨l, d, e, dp, c1, c2, c3, c4, q⟩
    subst e
    cases r with
    | cons r rr =>
      cases rr
      cases r
      obtain ⟨as, rd⟩ := Dp.reads I d _ _ dp rfl
      exact PySem.repr_of_reads' rd c2 (PyData.noDict_hsm (PyData.hasDict_of_canLay d c1)) hG (by omega) (fun _ _ e => e) (fun h' u tk hk => ⟨.str d.shown, H, I.kept (t' := tk) hk, ⟨u, rfl⟩, q⟩) c3
  refine fun W tk => (pe_callB cr hg hm PyProof.Rows.boot_repr (pa_cons (ha W tk) pa_nil hs) (by decide) (by decide) hs hpl).imp fun σ H Q ⟨G, io, F, β, I, h⟩ => ⟨G, io, F, β, I, h.bnd fun q β1 v H1 F1 fe1 I1 r1 h1 => ?_⟩
  unfold fin1 at h1
  cases e1 : look β1 q with
  | none => rw [e1] at h1; exact h1.elim
  | some d =>
    rw [e1] at h1
    simp only [Option.bind_some] at h1
    have hr := I1.look r1 e1
    have dr := hr.dr I1.sf
    unfold gRepr at h1
    by_cases hh : isSq d = true ∧ shwOk d = true
    · rw [if_pos hh] at h1
      obtain ⟨sq, ok⟩ := hh
      simp only [shwOk, Bool.and_eq_true, decide_eq_true_eq] at ok
      have dp := DR.dp dr ok.1.1.1
      cases dr with
      | lst h r => exact ⟨_, _, rfl, dp, ok.1.1.1, ok.1.1.2, ok.1.2, ok.2, h1 _ H1 F1 fe1 I1 (.str _)⟩
      | tup h r => exact ⟨_, _, rfl, dp, ok.1.1.1, ok.1.1.2, ok.1.2, ok.2, h1 _ H1 F1 fe1 I1 (.str _)⟩
      | _ => cases sq
    · rw [if_neg hh] at h1
      exact h1.elim
/-! ## the module's constants -/
theorem be_glI (i : Int) {t : Tok} (hm : X.mg x = some (.int i t)) (hg : Gl X x) (hd : (x == ("__debug__" : Str)) = false := by decide) : BE X (.Name x pos) (mC (.int i)) := fun W tk => (pe_glob (v := .int i) hg hm ⟨t, rfl⟩ hd).imp fun σ H Q ⟨_, _, F, _, I, h⟩ => h _ H F .refl I (.int i)
theorem be_glT {l : Addr} {vs : List V} {ds : List D} (hm : X.mg x = some (.ref l)) (hk : SqT X.K (fun _ => none) l vs) (hd : ∀ F, DRs X.K X.mg F vs ds) (hg : Gl X x) (hdb : (x == ("__debug__" : Str)) = false := by decide) : BE X (.Name x pos) (mC (.nd .wtp ds)) :=
  fun W tk => (pe_glob (v := .ref l) hg hm rfl hdb).imp fun σ H Q ⟨_, _, F, _, I, h⟩ => h _ H F .refl I (.wtp (Same.sqT (F := fun _ => none) (fun _ _ z => by cases z) hk) (hd F))
end
end B

set_option Elab.async false
set_option linter.all false
set_option maxRecDepth 100000
set_option maxHeartbeats 4000000
namespace B
open PySem PySem.Spec L2
/-! ## names for the rules' operations -/
def gSub := gI fun i j => i - j
def gFdiv := gIc cDiv fun i j => i / j
def gMod := gIc (fun _ j => decide (0 < j)) fun i j => i % j
def gPow := gIc cPow fun i j => i ^ j.toNat
def gShl := gIc cPow fun i j => i * 2 ^ j.toNat
def gBand := gI Builtin.bitAnd
def gBor := gI Builtin.bitOr
def gLt := gC fun i j => decide (i < j)
def gLe := gC fun i j => decide (i ≤ j)
def gGt := gC fun i j => decide (j < i)
def gGe := gC fun i j => decide (j ≤ i)
def gSum := gLI fun ns => some (.int ns.sum)
def gMax2 := gI2 fun i j => if j > i then j else i
def gMin2 := gI2 fun i j => if j < i then j else i
def gMax := gLI maxI
def gMin := gLI minI
def gAll := gLB fun bs => bs.all id
def gAny := gLB fun bs => bs.any id
section
variable {X : Cx} {k : Nat}
theorem od_sub : OpD X (binaryOp .Sub) gSub := opd_sub
theorem od_fdiv : OpD X (binaryOp .FloorDiv) gFdiv := opd_fdiv
theorem od_mod : OpD X (binaryOp .Mod) gMod := opd_mod
theorem od_pow : OpD X (binaryOp .Pow) gPow := opd_pow
theorem od_shl : OpD X (binaryOp .LShift) gShl := opd_shl
theorem od_band : OpD X (binaryOp .BitAnd) gBand := opd_band
theorem od_bor : OpD X (binaryOp .BitOr) gBor := opd_bor
theorem od_lt : OpD X (compareOp .Lt) gLt := opd_lt
theorem od_le : OpD X (compareOp .LtE) gLe := opd_le
theorem od_gt : OpD X (compareOp .Gt) gGt := opd_gt
theorem od_ge : OpD X (compareOp .GtE) gGe := opd_ge
theorem RoomG.u64 (r : RoomG k X.A) : X.A.units + 64 < cLine := by have := r.r.un; omega
theorem RoomG.u65 (r : RoomG k X.A) : X.A.units + 65 < cLine := by have := r.r.un; omega
theorem od_eq (r : RoomG k X.A) : OpD X (compareOp .Eq) gEq := opd_eq r.u64
theorem od_ne (r : RoomG k X.A) : OpD X (compareOp .NotEq) gNe := opd_ne r.u64
theorem od_in (r : RoomG k X.A) : OpD X (compareOp .In) gIn := opd_in r.u65
theorem od_notIn (r : RoomG k X.A) : OpD X (compareOp .NotIn) gNotIn := opd_notIn r.u65
end
theorem boot_len : bootBuiltins "len" = some (.builtin "len") := by decide +kernel
theorem boot_range : bootBuiltins "range" = some (.type "range") := by decide +kernel
theorem boot_isinstance : bootBuiltins "isinstance" = some (.builtin "isinstance") := by decide +kernel
theorem boot_int : bootBuiltins "int" = some (.type "int") := by decide +kernel
theorem boot_bool : bootBuiltins "bool" = some (.type "bool") := by decide +kernel
theorem boot_list : bootBuiltins "list" = some (.type "list") := by decide +kernel
theorem boot_tuple : bootBuiltins "tuple" = some (.type "tuple") := by decide +kernel
theorem boot_str : bootBuiltins "str" = some (.type "str") := by decide +kernel
theorem boot_dict : bootBuiltins "dict" = some (.type "dict") := by decide +kernel
theorem boot_set : bootBuiltins "set" = some (.type "set") := by decide +kernel
theorem boot_sorted : bootBuiltins "sorted" = some (.builtin "sorted") := by decide +kernel
theorem boot_repr : bootBuiltins "repr" = some (.builtin "repr") := by decide +kernel
theorem boot_min : bootBuiltins "min" = some (.builtin "min") := by decide +kernel
theorem boot_max : bootBuiltins "max" = some (.builtin "max") := by decide +kernel
theorem boot_sum : bootBuiltins "sum" = some (.builtin "sum") := by decide +kernel
theorem boot_all : bootBuiltins "all" = some (.builtin "all") := by decide +kernel
theorem boot_any : bootBuiltins "any" = some (.builtin "any") := by decide +kernel
theorem boot_abs : bootBuiltins "abs" = some (.builtin "abs") := by decide +kernel
/-! ## what the written part says -/
/-- built-in names that stay -/
structure Bl (mg : Str → Option Value) : Prop where
  len : mg "len" = none
  range : mg "range" = none
  isinstance : mg "isinstance" = none
  int : mg "int" = none
  bool : mg "bool" = none
  list : mg "list" = none
  tuple : mg "tuple" = none
  str : mg "str" = none
  dict : mg "dict" = none
  set : mg "set" = none
  sorted : mg "sorted" = none
  repr : mg "repr" = none
  min : mg "min" = none
  max : mg "max" = none
  sum : mg "sum" = none
  all : mg "all" = none
  any : mg "any" = none
  zip : mg "zip" = none
  enumerate : mg "enumerate" = none
  abs : mg "abs" = none
/-- a def of the top, all of its parameters handed in by place -/
structure Lk (K : PySem.W.Frag) (mg : Str → Option Value) (x : Str) (st : Stmt) (ps : List Str) : Prop where
  ex : ∃ f fd, L2.Fun K x x st f fd ∧ mg x = some (.ref f) ∧ Binds K fd ps []
def Ok (P : Program) (w : World) (K : PySem.W.Frag) (mg : Str → Option Value) (base : Heap) (k : Nat) (x : Str) (ps : List Str) (ks : List Bool) (r : List D → FR) : Prop :=
  ∃ f fd, FnG P w K mg base k f fd ps (spB K mg ks r) ∧ mg x = some (.ref f) ∧ PySem.W.keepIn K (.ref f) = true ∧ Binds K fd ps []
section
variable {P : Program} {w : World} {K : PySem.W.Frag} {mg : Str → Option Value} {base : Heap} {k : Nat} {x : Str} {st : Stmt} {N ps : List Str} {m : M Fl}
theorem ok_of (ks : List Bool) (L : Lk K mg x st ps) (S : FnScope N ps (defScope st)) (hk : ks.length = ps.length)
    (hb : ∀ (f : Addr) (cdv : Value) (A : Around) (outer : List PySem.Env) (s : Shared) (H : Hp) (E : XK), RoomG k (A.deeper (PyProof.Rows.envOfC x (defScope st) s.heap.objs.size f cdv)) → BSs (cxOf (L2.CX P w) P w K mg base N x (defScope st) f cdv A outer s H E) (defBody st) m) :
    Ok P w K mg base (k + 1) x ps ks (runB ks N.length m) := by
  obtain ⟨f, fd, F, hm, hbd⟩ := L.ex
  exact ⟨f, fd, fnB ks F S hk fun cdv A outer s H E hr => hb f cdv A outer s H E hr, hm, F.kp, hbd⟩
end
section
variable {X : Cx} {k j : Nat} {x : Str} {prm : List Str} {ks : List Bool} {f : List D → FR} {p pos : Pos} {e : Expr} {es : List Expr} {ma : M (List Pl)}
theorem be_c (O : Ok X.prog X.w X.K X.mg X.base j x prm ks f) (hr : RoomG k X.A) (hjk : j ≤ k) (ha : BA X (e :: es) ma) (hg : Gl X x := by rfl) (hdb : (x == ("__debug__" : Str)) = false := by decide)
    (he : starEach (e :: es) X.env = (false, eval e X.env) :: starEach es X.env := by rfl) (hpl : (backTo pos (starEach es X.env)).any (·.1) = false := by rfl) : BE X (.Call (.Name x p) (e :: es) [] pos) (mCallF ks f ma) := by
  obtain ⟨fa, fd, F, hm, hk, hb⟩ := O
  exact be_call F (hr.mono hjk) hm hk hb ha hg hdb he hpl
end
/-! ## defs with keyword-only parameters -/
/-- the items at these places -/
def pick {α : Type} (ix : List Nat) (l : List α) : List α := ix.filterMap fun i => l[i]?
theorem pick_rel {α β : Type} {R : α → β → Prop} {l : List α} {k : List β} (h : ∀ i : Nat, (l[i]? = none ∧ k[i]? = none) ∨ ∃ a b, l[i]? = some a ∧ k[i]? = some b ∧ R a b) (C : List α → List β → Prop) (nil : C [] []) (cons : ∀ a b x y, R a b → C x y → C (a :: x) (b :: y)) : ∀ ix : List Nat, C (pick ix l) (pick ix k)
  | [] => nil
  | i :: ix => by
    have ih := pick_rel h C nil cons ix
    unfold pick at ih ⊢
    rcases h i with ⟨e1, e2⟩ | ⟨a, b, e1, e2, r⟩
    · rw [List.filterMap_cons_none e1, List.filterMap_cons_none e2]
      exact ih
    · rw [List.filterMap_cons_some e1, List.filterMap_cons_some e2]
      exact cons _ _ _ _ r ih
theorem vals_at {vs : List V} {us : List Value} (r : Vals vs us) (i : Nat) : (vs[i]? = none ∧ us[i]? = none) ∨ ∃ a b, vs[i]? = some a ∧ us[i]? = some b ∧ RelV a b := by
  cases e : vs[i]? with
  | none => exact .inl ⟨rfl, by rw [List.getElem?_eq_none_iff, ← r.length]; exact List.getElem?_eq_none_iff.mp e⟩
  | some v => obtain ⟨u, e2, h⟩ := r.get e; exact .inr ⟨v, u, rfl, e2, h⟩
theorem PRs.at {K : PySem.W.Frag} {mg : Str → Option Value} {F : Hp} {σ : L2.St} : ∀ {vs : List V} {ps : List Pl} (_ : PRs K mg F σ vs ps) (i : Nat), (vs[i]? = none ∧ ps[i]? = none) ∨ ∃ a b, vs[i]? = some a ∧ ps[i]? = some b ∧ PR K mg F σ a b
  | _, _, .nil, i => .inl ⟨by simp, by simp⟩
  | _, _, .cons a b, 0 => .inr ⟨_, _, rfl, rfl, a⟩
  | _, _, .cons a b, i + 1 => by simpa using PRs.at b i
theorem vals_pick {vs : List V} {us : List Value} (r : Vals vs us) (ix : List Nat) : Vals (pick ix vs) (pick ix us) := pick_rel (R := RelV) (vals_at r) (fun a b => Vals a b) .nil (fun _ _ _ _ a b => .cons a b) ix
theorem PRs.pick {K : PySem.W.Frag} {mg : Str → Option Value} {F : Hp} {σ : L2.St} {vs : List V} {ps : List Pl} (r : PRs K mg F σ vs ps) (ix : List Nat) : PRs K mg F σ (B.pick ix vs) (B.pick ix ps) := pick_rel (R := PR K mg F σ) r.at (fun a b => PRs K mg F σ a b) .nil (fun _ _ _ _ a b => .cons a b) ix
def kp (ix : List Nat) (us ws : List Pl) : List Pl := pick ix (us ++ ws)
theorem kwOk_of {K : PySem.W.Frag} {mg : Str → Option Value} {fd : FuncData} {prm kn : List Str} {n : Nat} (ix : List Nat) (h : ∀ (s : Shared) (us ws : List Value), us.length = n → ws.length = kn.length → BindsTo s fd ⟨us, kn.zip ws⟩ (prm.zip (pick ix (us ++ ws)))) : KwOk K mg fd prm n kn (kp ix) :=
  ⟨⟨fun us ws => pick ix (us ++ ws), fun vs zs => pick ix (vs ++ zs), ⟨fun s us ws _ h1 h2 => h s us ws h1 h2, fun r1 r2 => vals_pick (r1.append r2) ix⟩, fun _ _ _ _ _ _ r1 r2 => (r1.append r2).pick ix⟩⟩
abbrev Pat := Nat × List Str × List Nat
def Pats (K : PySem.W.Frag) (mg : Str → Option Value) (fd : FuncData) (ps : List Str) (pats : List Pat) : Prop := ∀ q ∈ pats, KwOk K mg fd ps q.1 q.2.1 (kp q.2.2)
theorem pats_nil {K : PySem.W.Frag} {mg : Str → Option Value} {fd : FuncData} {ps : List Str} : Pats K mg fd ps [] := fun _ h => nomatch h
theorem pats_cons {K : PySem.W.Frag} {mg : Str → Option Value} {fd : FuncData} {ps : List Str} {q : Pat} {pats : List Pat} (h : KwOk K mg fd ps q.1 q.2.1 (kp q.2.2)) (t : Pats K mg fd ps pats) : Pats K mg fd ps (q :: pats) := fun p hp => by
  rcases List.mem_cons.mp hp with rfl | hp
  · exact h
  · exact t p hp
def Dfl (K : PySem.W.Frag) (mg : Str → Option Value) (fd : FuncData) (ps : List Str) (dd : List D) : Prop := ∃ dvs dv, Binds K fd ps dv ∧ Vals dvs dv ∧ DDs K mg dvs dd
structure LkD (K : PySem.W.Frag) (mg : Str → Option Value) (x : Str) (st : Stmt) (ps : List Str) (dd : List D) (pats : List Pat) : Prop where
  ex : ∃ f fd, L2.Fun K x x st f fd ∧ mg x = some (.ref f) ∧ Dfl K mg fd ps dd ∧ Pats K mg fd ps pats
def OkD (P : Program) (w : World) (K : PySem.W.Frag) (mg : Str → Option Value) (base : Heap) (k : Nat) (x : Str) (ps : List Str) (ks : List Bool) (r : List D → FR) (dd : List D) (pats : List Pat) : Prop :=
  ∃ f fd, FnG P w K mg base k f fd ps (spB K mg ks r) ∧ mg x = some (.ref f) ∧ PySem.W.keepIn K (.ref f) = true ∧ Dfl K mg fd ps dd ∧ Pats K mg fd ps pats
section
variable {P : Program} {w : World} {K : PySem.W.Frag} {mg : Str → Option Value} {base : Heap} {k : Nat} {x : Str} {st : Stmt} {N ps : List Str} {m : M Fl} {dd : List D} {pats : List Pat}
theorem okD_of (ks : List Bool) (L : LkD K mg x st ps dd pats) (S : FnScope N ps (defScope st)) (hk : ks.length = ps.length)
    (hb : ∀ (f : Addr) (cdv : Value) (A : Around) (outer : List PySem.Env) (s : Shared) (H : Hp) (E : XK), RoomG k (A.deeper (PyProof.Rows.envOfC x (defScope st) s.heap.objs.size f cdv)) → BSs (cxOf (L2.CX P w) P w K mg base N x (defScope st) f cdv A outer s H E) (defBody st) m) :
    OkD P w K mg base (k + 1) x ps ks (runB ks N.length m) dd pats := by
  obtain ⟨f, fd, F, hm, hd, hp⟩ := L.ex
  exact ⟨f, fd, fnB ks F S hk fun cdv A outer s H E hr => hb f cdv A outer s H E hr, hm, F.kp, hd, hp⟩
end
section
variable {X : Cx} {k j : Nat} {x : Str} {prm : List Str} {ks : List Bool} {f : List D → FR} {p pos : Pos} {e : Expr} {es : List Expr} {ma mk : M (List Pl)} {dd : List D} {pats : List Pat}
theorem be_d (O : OkD X.prog X.w X.K X.mg X.base j x prm ks f dd pats) (hr : RoomG k X.A) (hjk : j ≤ k) (ha : BA X (e :: es) ma) (hg : Gl X x := by rfl) (hdb : (x == ("__debug__" : Str)) = false := by decide)
    (he : starEach (e :: es) X.env = (false, eval e X.env) :: starEach es X.env := by rfl) (hpl : (backTo pos (starEach es X.env)).any (·.1) = false := by rfl) : BE X (.Call (.Name x p) (e :: es) [] pos) (mCallD ks f dd ma) := by
  obtain ⟨fa, fd, F, hm, hk, ⟨dvs, dv, hb, hd, hdd⟩, _⟩ := O
  exact be_callD F (hr.mono hjk) hm hk hb hd hdd ha hg hdb he hpl
theorem be_k {n : Nat} {kn : List Str} {ix : List Nat} {kws : List Keyword} (O : OkD X.prog X.w X.K X.mg X.base j x prm ks f dd pats) (hr : RoomG k X.A) (hjk : j ≤ k) (hq : (n, kn, ix) ∈ pats) (ha : BA X (e :: es) ma) (hkw : BKw X kws mk) (hg : Gl X x := by rfl)
    (hall : (backToKw pos (keywordEach kws X.env)).all (·.1.isSome) = true := by rfl) (hks : (backToKw pos (keywordEach kws X.env)).filterMap (·.1) = kn := by rfl) (hdb : (x == ("__debug__" : Str)) = false := by decide) (he : starEach (e :: es) X.env = (false, eval e X.env) :: starEach es X.env := by rfl)
    (hpl : ((backTo pos (starEach (e :: es) X.env)).any (·.1) || (backToKw pos (keywordEach kws X.env)).any (·.1.isNone)) = false := by rfl) : BE X (.Call (.Name x p) (e :: es) kws pos) (mCallK ks f n kn.length (kp ix) ma mk) := by
  obtain ⟨fa, fd, F, hm, hk, _, hp⟩ := O
  exact be_callK F (hr.mono hjk) hm hk (hp _ hq) ha hkw hg hall hks hdb he hpl
end
/-! ## the script -/
theorem sp_law {K : PySem.W.Frag} {mg : Str → Option Value} {r : List D → FR} {a : Addr} {ns : List Int} {H : Hp} (hS : SqL K H a (ns.map V.int)) (h : r [.nd .scr (ns.map D.int)] = .ok (.fz (.bl true)) []) : spB K mg [false] r [.ref a] H (fun v _ => v = .bl true) fun _ _ _ => False := by
  refine ⟨fun _ => none, H, [], _, ⟨fun _ _ z => (nomatch z), fun _ _ => rfl⟩, Same.refl _, fun _ z => (nomatch z), .nil, .fz (.scr hS (DRs.ints ns)) .nil, ?_⟩
  rw [h]
  intro v H' F' _ r
  cases (show DR K mg F' v (.bl true) from r)
  rfl
end B

set_option Elab.async false
set_option linter.all false
set_option maxRecDepth 100000
set_option maxHeartbeats 4000000
namespace B
open PySem PySem.Spec L2
/-! ## a name that isn't read again: its object as one's own -/
def mMv (i : Nat) : M Rs := fun β => match β[i]? with
  | some (.fz d) => .ok (.fz d) β
  | some (.own none d) => .ok (.own d) (β.set i .un)
  | _ => .stuck
theorem be_mv {X : Cx} {i : Nat} {x : Str} {pos : Pos} (hN : X.N[i]? = some x := by rfl) (hv : Vis X.env.scope x := by first | exact Or.inl rfl | exact Or.inr (Or.inl rfl) | exact Or.inr (Or.inr rfl)) (hd : (x == ("__debug__" : Str)) = false := by decide)
    (hcd : (x == ("__classdict__" : Str)) = false := by decide) : BE X (.Name x pos) (mMv i) := by
  refine fun W tk => (pe_var hN hv hd hcd).imp fun σ H Q h => ?_
  obtain ⟨G, io, F, β, I, h⟩ := h
  unfold mMv at h
  cases e : β[i]? with
  | none => rw [e] at h; exact h.elim
  | some s =>
    rw [e] at h
    cases s with
    | ex z0 => exact h.elim
    | gh _ => exact h.elim
    | un => exact h.elim
    | fz d =>
      obtain ⟨o, eo, v, rfl, r⟩ := I.sl i _ e
      exact ⟨v, eo, h v H F .refl I r⟩
    | own bo d =>
      cases bo with
      | some k => exact h.elim
      | none =>
        obtain ⟨v, eo, rr⟩ := I.take e
        exact ⟨v, eo, h v H F .refl (I.unset i) rr⟩
end B

set_option Elab.async false
set_option linter.all false
set_option maxRecDepth 100000
set_option maxHeartbeats 4000000
namespace B
open PySem PySem.Spec L2
/-! # what a run comes to: by what is wished for behind it -/
@[irreducible] def W {α : Type} (m : M α) (β : B.Env) (Q : α → B.Env → Prop) (E : Exn → B.Env → Prop) : Prop := match m β with
  | .ok a β' => Q a β'
  | .exc x β' => E x β'
  | .stuck => False
def optW {α : Type} (o : Option α) (Q : α → Prop) : Prop := match o with
  | some a => Q a
  | none => False
@[irreducible] def FW (x : FR) (Q : Rs → List D → Prop) (E : Exn → List D → Prop) : Prop := match x with
  | .ok r ios => Q r ios
  | .exc x ios => E x ios
  | .stuck => False
section
variable {α α' : Type} {m : M α} {β : B.Env} {Q : α → B.Env → Prop} {E : Exn → B.Env → Prop}
theorem W.mono {Q' : α → B.Env → Prop} {E' : Exn → B.Env → Prop} (h : W m β Q E) (hQ : ∀ a β, Q a β → Q' a β) (hE : ∀ x β, E x β → E' x β) : W m β Q' E' := by
  unfold W at h ⊢
  split at h
  · exact hQ _ _ h
  · exact hE _ _ h
  · exact h
theorem W.of_eq {a : α} {β' : B.Env} (e : m β = .ok a β') (h : Q a β') : W m β Q E := by
  unfold W
  rw [e]
  exact h
theorem W.eq (h : W m β Q E) (hE : ∀ x β, ¬ E x β) : ∃ a β', m β = .ok a β' ∧ Q a β' := by
  unfold W at h
  split at h
  · exact ⟨_, _, by assumption, h⟩
  · exact (hE _ _ h).elim
  · exact h.elim
theorem FW.mono {x : FR} {Q Q' : Rs → List D → Prop} {E E' : Exn → List D → Prop} (h : FW x Q E) (hQ : ∀ a b, Q a b → Q' a b) (hE : ∀ a b, E a b → E' a b) : FW x Q' E' := by
  unfold FW at h ⊢
  split at h
  · exact hQ _ _ h
  · exact hE _ _ h
  · exact h
theorem FW.of_eq {x : FR} {Q : Rs → List D → Prop} {E : Exn → List D → Prop} {r : Rs} {ios : List D} (e : x = .ok r ios) (h : Q r ios) : FW x Q E := by
  rw [e]
  with_unfolding_all exact h
theorem W_congr {Q' : α → B.Env → Prop} (h : ∀ a β1, Q a β1 ↔ Q' a β1) : W m β Q E ↔ W m β Q' E := by
  have e : Q = Q' := by
    funext a β1
    exact propext (h a β1)
  rw [e]
@[simp ↓] theorem optW_some {a : α} {P : α → Prop} : optW (some a) P ↔ P a := Iff.rfl
@[simp ↓] theorem optW_none {P : α → Prop} : optW none P ↔ False := Iff.rfl
theorem optW_ite {c : Prop} [Decidable c] {a : α} {P : α → Prop} : optW (if c then some a else none) P ↔ c ∧ P a := by
  by_cases h : c <;> simp [h, optW]
theorem optW_map {f : α → α'} {o : Option α} {P : α' → Prop} : optW (o.map f) P ↔ optW o fun a => P (f a) := by cases o <;> with_unfolding_all rfl
theorem optW_bind {f : α → Option α'} {o : Option α} {P : α' → Prop} : optW (o.bind f) P ↔ optW o fun a => optW (f a) P := by cases o <;> with_unfolding_all rfl
theorem optW_of {o : Option α} {P : α → Prop} {a : α} (e : o = some a) (h : P a) : optW o P := by rw [e]; exact h
@[simp ↓] theorem W_ret {a : α} : W (B.ret a) β Q E ↔ Q a β := by with_unfolding_all exact Iff.rfl
@[simp ↓] theorem W_stk : W (stk : M α) β Q E ↔ False := by with_unfolding_all exact Iff.rfl
@[simp ↓] theorem W_bnd {f : α → M α'} {Q : α' → B.Env → Prop} : W (bnd m f) β Q E ↔ W m β (fun a β1 => W (f a) β1 Q E) E := by
  unfold W bnd R.bnd
  cases m β <;> with_unfolding_all rfl
def nxW (f : Fl) (P P' : Prop) : Prop := match f with
  | .nx => P
  | _ => P'
@[simp ↓] theorem nxW_nx {P P' : Prop} : nxW .nx P P' ↔ P := Iff.rfl
@[simp ↓] theorem nxW_ret {r : Rs} {P P' : Prop} : nxW (.ret r) P P' ↔ P' := Iff.rfl
@[simp ↓] theorem nxW_brk {P P' : Prop} : nxW .brk P P' ↔ P' := Iff.rfl
@[simp ↓] theorem nxW_ct {P P' : Prop} : nxW .ct P P' ↔ P' := Iff.rfl
@[simp ↓] theorem W_seqF {m n : M Fl} {Q : Fl → B.Env → Prop} : W (seqF m n) β Q E ↔ W m β (fun f β1 => nxW f (W n β1 Q E) (Q f β1)) E := by
  unfold seqF
  exact W_bnd.trans (W_congr fun a β1 => by cases a <;> with_unfolding_all rfl)
@[simp ↓] theorem W_ifS {mt : M Bool} {a b : M Fl} {Q : Fl → B.Env → Prop} : W (mIfS mt a b) β Q E ↔ W mt β (fun k β1 => if k = true then W a β1 Q E else W b β1 Q E) E := by
  unfold mIfS
  refine W_bnd.trans (W_congr fun k β1 => ?_)
  cases k <;> with_unfolding_all rfl
@[simp ↓] theorem W_mIf {mt : M Bool} {a b : M Rs} {Q : Rs → B.Env → Prop} : W (mIf mt a b) β Q E ↔ W mt β (fun k β1 => if k = true then W a β1 Q E else W b β1 Q E) E := by
  unfold mIf
  refine W_bnd.trans (W_congr fun k β1 => ?_)
  cases k <;> with_unfolding_all rfl
def bW (r : Rs) (P : Bool → Prop) : Prop := match r with
  | .fz (.bl b) => P b
  | _ => False
@[simp ↓] theorem bW_bl {b : Bool} {P : Bool → Prop} : bW (.fz (.bl b)) P ↔ P b := Iff.rfl
@[simp ↓] theorem W_asB {me : M Rs} {Q : Bool → B.Env → Prop} : W (asB me) β Q E ↔ W me β (fun r β1 => bW r fun b => Q b β1) E := by
  unfold asB
  refine W_bnd.trans (W_congr fun r β1 => ?_)
  rcases r with d | d
  · cases d <;> with_unfolding_all rfl
  · with_unfolding_all rfl
@[simp ↓] theorem W_mTru {me : M Pl} {Q : Bool → B.Env → Prop} : W (mTru me) β Q E ↔ W me β (fun p β1 => optW (look β1 p) fun d => optW (truD d) fun b => Q b β1) E := by
  unfold mTru
  refine W_bnd.trans (W_congr fun p β1 => ?_)
  unfold W finT optW
  cases look β1 p with
  | none => with_unfolding_all rfl
  | some d => simp only [Option.bind_some]; cases truD d <;> with_unfolding_all rfl
@[simp ↓] theorem W_mAnd {m n : M Bool} {Q : Bool → B.Env → Prop} : W (mAnd m n) β Q E ↔ W m β (fun k β1 => if k = true then W n β1 Q E else Q false β1) E := by
  unfold mAnd
  refine W_bnd.trans (W_congr fun k β1 => ?_)
  cases k <;> with_unfolding_all rfl
@[simp ↓] theorem W_mOr {m n : M Bool} {Q : Bool → B.Env → Prop} : W (mOr m n) β Q E ↔ W m β (fun k β1 => if k = true then Q true β1 else W n β1 Q E) E := by
  unfold mOr
  refine W_bnd.trans (W_congr fun k β1 => ?_)
  cases k <;> with_unfolding_all rfl
@[simp ↓] theorem W_mNot {m : M Bool} {Q : Bool → B.Env → Prop} : W (mNot m) β Q E ↔ W m β (fun k β1 => Q (!k) β1) E := by
  unfold mNot
  rw [W_bnd]
  with_unfolding_all exact Iff.rfl
@[simp ↓] theorem W_mAndV {m n : M Rs} {Q : Rs → B.Env → Prop} : W (mAndV m n) β Q E ↔ W m β (fun r β1 => bW r fun k => if k = true then W n β1 Q E else Q (.fz (.bl false)) β1) E := by
  unfold mAndV
  refine W_bnd.trans (W_asB.trans (W_congr fun r β1 => ?_))
  rcases r with d | d
  · cases d with
    | bl k => cases k <;> with_unfolding_all rfl
    | _ => with_unfolding_all rfl
  · with_unfolding_all rfl
@[simp ↓] theorem W_mOrV {m n : M Rs} {Q : Rs → B.Env → Prop} : W (mOrV m n) β Q E ↔ W m β (fun r β1 => bW r fun k => if k = true then Q (.fz (.bl true)) β1 else W n β1 Q E) E := by
  unfold mOrV
  refine W_bnd.trans (W_asB.trans (W_congr fun r β1 => ?_))
  rcases r with d | d
  · cases d with
    | bl k => cases k <;> with_unfolding_all rfl
    | _ => with_unfolding_all rfl
  · with_unfolding_all rfl
@[simp ↓] theorem W_mNotV {m : M Rs} {Q : Rs → B.Env → Prop} : W (mNotV m) β Q E ↔ W m β (fun r β1 => bW r fun k => Q (.fz (.bl (!k))) β1) E := by
  unfold mNotV
  rw [W_bnd, W_asB]
  with_unfolding_all exact Iff.rfl
/-! names -/
def varW (s : Option Sl) (P : D → Prop) (P' : D → Prop) : Prop := match s with
  | some (.fz d) => P d
  | some (.own none d) => P' d
  | _ => False
@[simp ↓] theorem varW_fz {d : D} {P P' : D → Prop} : varW (some (.fz d)) P P' ↔ P d := Iff.rfl
@[simp ↓] theorem varW_own {d : D} {P P' : D → Prop} : varW (some (.own none d)) P P' ↔ P' d := Iff.rfl
@[simp ↓] theorem W_mVar {i : Nat} {Q : Rs → B.Env → Prop} : W (mVar i) β Q E ↔ varW β[i]? (fun d => Q (.fz d) β) (fun d => Q (.fz d) (β.set i (.fz d))) := by
  unfold W mVar varW
  rcases β[i]? with _ | _ | _ | _ | ⟨_ | _, _⟩ <;> with_unfolding_all rfl
@[simp ↓] theorem W_mMv {i : Nat} {Q : Rs → B.Env → Prop} : W (mMv i) β Q E ↔ varW β[i]? (fun d => Q (.fz d) β) (fun d => Q (.own d) (β.set i .un)) := by
  unfold W mMv varW
  rcases β[i]? with _ | _ | _ | _ | ⟨_ | _, _⟩ <;> with_unfolding_all rfl
@[simp ↓] theorem W_mRetVar {i : Nat} {Q : Fl → B.Env → Prop} : W (mRetVar i) β Q E ↔ varW β[i]? (fun d => Q (.ret (.fz d)) β) (fun d => Q (.ret (.own d)) (β.set i .un)) := by
  unfold W mRetVar varW
  rcases β[i]? with _ | _ | _ | _ | ⟨_ | _, _⟩ <;> with_unfolding_all rfl
def isSet : Option Sl → Prop
  | some (.fz _) => True
  | some (.own _ _) => True
  | _ => False
@[simp] theorem isSet_fz {d : D} : isSet (some (.fz d)) ↔ True := Iff.rfl
@[simp] theorem isSet_own {k : Option Nat} {d : D} : isSet (some (.own k d)) ↔ True := Iff.rfl
@[simp ↓] theorem W_mPl {i : Nat} {Q : Pl → B.Env → Prop} : W (mPl i) β Q E ↔ isSet β[i]? ∧ Q (.sl i) β := by
  unfold W mPl isSet
  rcases β[i]? with _ | _ | _ | _ | ⟨_, _⟩ <;> simp
@[simp ↓] theorem W_mC {d : D} {Q : Rs → B.Env → Prop} : W (mC d) β Q E ↔ Q (.fz d) β := by with_unfolding_all exact Iff.rfl
@[simp ↓] theorem W_mP {me : M Rs} {Q : Pl → B.Env → Prop} : W (mP me) β Q E ↔ W me β (fun r β1 => Q (.d r.d) β1) E := by
  unfold mP
  rw [W_bnd]
  with_unfolding_all exact Iff.rfl
@[simp] theorem Rs_d_fz {d : D} : (Rs.fz d).d = d := rfl
@[simp] theorem Rs_d_own {d : D} : (Rs.own d).d = d := rfl
@[simp] theorem look_d {d : D} : look β (.d d) = some d := rfl
def slD : Option Sl → Option D
  | some (.fz d) => some d
  | some (.own _ d) => some d
  | _ => none
@[simp] theorem slD_fz {d : D} : slD (some (.fz d)) = some d := rfl
@[simp] theorem slD_own {k : Option Nat} {d : D} : slD (some (.own k d)) = some d := rfl
@[simp] theorem look_sl {i : Nat} : look β (.sl i) = slD β[i]? := by
  show (match β[i]? with
    | some (.fz d) => some d
    | some (.own _ d) => some d
    | _ => none) = _
  generalize β[i]? = s
  rcases s with _ | _ | _ | _ | ⟨_, _⟩ <;> with_unfolding_all rfl
/-! operations -/
@[simp ↓] theorem W_fin2 {g : D → D → Option Rs} {p q : Pl} {Q : Rs → B.Env → Prop} : W (fin2 g p q) β Q E ↔ optW (look β p) fun d => optW (look β q) fun e => optW (g d e) fun r => Q r β := by
  unfold W fin2 optW
  cases look β p with
  | none => with_unfolding_all rfl
  | some d => cases look β q with
    | none => with_unfolding_all rfl
    | some e => simp only; cases g d e <;> with_unfolding_all rfl
@[simp ↓] theorem W_mOp {g : D → D → Option Rs} {ma mb : M Pl} {Q : Rs → B.Env → Prop} : W (mOp g ma mb) β Q E ↔ W ma β (fun p β1 => W mb β1 (fun q β2 => optW (look β2 p) fun d => optW (look β2 q) fun e => optW (g d e) fun r => Q r β2) E) E :=
  W_bnd.trans (W_congr fun p β1 => W_bnd.trans (W_congr fun q β2 => W_fin2))
@[simp ↓] theorem W_fin1 {g : D → Option Rs} {p : Pl} {Q : Rs → B.Env → Prop} : W (fin1 g p) β Q E ↔ optW (look β p) fun d => optW (g d) fun r => Q r β := by
  unfold W fin1 optW
  cases look β p with
  | none => with_unfolding_all rfl
  | some d => simp only [Option.bind_some]; cases g d <;> with_unfolding_all rfl
@[simp ↓] theorem W_mUn {g : D → Option Rs} {ma : M Pl} {Q : Rs → B.Env → Prop} : W (mUn g ma) β Q E ↔ W ma β (fun p β1 => W (fin1 g p) β1 Q E) E := by
  unfold mUn
  rw [W_bnd]
@[simp ↓] theorem W_mChain {g g' : D → D → Option Rs} {ma mb mc : M Pl} {Q : Rs → B.Env → Prop} : W (mChain g g' ma mb mc) β Q E ↔ W ma β (fun p β1 => W mb β1 (fun q β2 => W (fin2 g p q) β2 (fun r β3 => bW r fun k => if k = true then W mc β3 (fun r β4 => W (fin2 g' q r) β4 Q E) E else Q (.fz (.bl false)) β3) E) E) E := by
  unfold mChain
  refine W_bnd.trans (W_congr fun p β1 => ?_)
  refine W_bnd.trans (W_congr fun q β2 => ?_)
  refine W_bnd.trans (W_asB.trans (W_congr fun r β3 => ?_))
  rcases r with d | d
  · cases d with
    | bl k =>
      cases k
      · with_unfolding_all rfl
      · exact W_bnd
    | _ => with_unfolding_all rfl
  · with_unfolding_all rfl
@[simp ↓] theorem W_mCall {g : List D → Option Rs} {ma : M (List Pl)} {Q : Rs → B.Env → Prop} : W (mCall g ma) β Q E ↔ W ma β (fun ps β1 => optW (looks β1 ps) fun ds => optW (g ds) fun r => Q r β1) E := by
  unfold mCall
  refine W_bnd.trans (W_congr fun ps β1 => ?_)
  unfold W finA optW
  cases looks β1 ps with
  | none => with_unfolding_all rfl
  | some d => simp only [Option.bind_some]; cases g d <;> with_unfolding_all rfl
@[simp ↓] theorem W_mNil {Q : List Pl → B.Env → Prop} : W mNil β Q E ↔ Q [] β := by with_unfolding_all exact Iff.rfl
@[simp ↓] theorem W_mCons {ma : M Pl} {mr : M (List Pl)} {Q : List Pl → B.Env → Prop} : W (mCons ma mr) β Q E ↔ W ma β (fun p β1 => W mr β1 (fun ps β2 => Q (p :: ps) β2) E) E := by
  unfold mCons
  refine W_bnd.trans (W_congr fun p β1 => ?_)
  rw [W_bnd]
  with_unfolding_all rfl
@[simp] theorem looks_nil : looks β [] = some [] := rfl
@[simp] theorem looks_d {d : D} {ps : List Pl} : looks β (.d d :: ps) = (looks β ps).map (d :: ·) := by
  show (match look β (.d d), looks β ps with | some d, some ds => some (d :: ds) | _, _ => none) = _
  cases looks β ps <;> with_unfolding_all rfl
@[simp] theorem looks_sl {i : Nat} {ps : List Pl} : looks β (.sl i :: ps) = (slD β[i]?).bind fun d => (looks β ps).map (d :: ·) := by
  show (match look β (.sl i), looks β ps with | some d, some ds => some (d :: ds) | _, _ => none) = _
  rw [look_sl]
  cases slD β[i]? <;> cases looks β ps <;> with_unfolding_all rfl
@[simp] theorem allD_nil : allD [] = some [] := rfl
@[simp] theorem allD_d {d : D} {ps : List Pl} : allD (.d d :: ps) = (allD ps).map (d :: ·) := rfl
/-! statements -/
@[simp] theorem slOf_fz {d : D} : slOf (.fz d) = .fz d := rfl
@[simp] theorem slOf_own {d : D} : slOf (.own d) = .own none d := rfl
@[simp ↓] theorem W_mSet {i : Nat} {me : M Rs} {Q : Fl → B.Env → Prop} : W (mSet i me) β Q E ↔ W me β (fun r β1 => Q .nx (β1.set i (slOf r))) E := by
  unfold mSet
  rw [W_bnd]
  with_unfolding_all exact Iff.rfl
@[simp ↓] theorem W_mExpr {me : M Rs} {Q : Fl → B.Env → Prop} : W (mExpr me) β Q E ↔ W me β (fun r β1 => Q .nx β1) E := by
  unfold mExpr
  rw [W_bnd]
  with_unfolding_all exact Iff.rfl
@[simp ↓] theorem W_mRet {me : M Rs} {Q : Fl → B.Env → Prop} : W (mRet me) β Q E ↔ W me β (fun r β1 => Q (.ret r) β1) E := by
  unfold mRet
  rw [W_bnd]
  with_unfolding_all exact Iff.rfl
@[simp ↓] theorem W_mTup {ma : M (List Pl)} {Q : Rs → B.Env → Prop} : W (mTup ma) β Q E ↔ W ma β (fun ps β1 => optW (allD ps) fun ds => ds.length ≤ sizeLine ∧ Q (.fz (.nd .tup ds)) β1) E := by
  unfold mTup
  refine W_bnd.trans (W_congr fun ps β1 => ?_)
  cases allD ps with
  | none => with_unfolding_all rfl
  | some ds =>
    simp only [optW_some]
    by_cases h : ds.length ≤ sizeLine
    · rw [if_pos h]; simp [h]
    · rw [if_neg h]; simp [h]
@[simp ↓] theorem W_mLst {ma : M (List Pl)} {Q : Rs → B.Env → Prop} : W (mLst ma) β Q E ↔ W ma β (fun ps β1 => optW (allD ps) fun ds => ds.length ≤ sizeLine ∧ Q (.own (.nd .lst ds)) β1) E := by
  unfold mLst
  refine W_bnd.trans (W_congr fun ps β1 => ?_)
  cases allD ps with
  | none => with_unfolding_all rfl
  | some ds =>
    simp only [optW_some]
    by_cases h : ds.length ≤ sizeLine
    · rw [if_pos h]; simp [h]
    · rw [if_neg h]; simp [h]
@[simp ↓] theorem W_mNoPart {Q : Option Int → B.Env → Prop} : W mNoPart β Q E ↔ Q none β := by with_unfolding_all exact Iff.rfl
def iW (d : D) (P : Int → Prop) : Prop := match d with
  | .int i => P i
  | _ => False
@[simp ↓] theorem iW_int {i : Int} {P : Int → Prop} : iW (.int i) P ↔ P i := Iff.rfl
@[simp ↓] theorem W_mSl {ma : M Pl} {ml mh : M (Option Int)} {Q : Rs → B.Env → Prop} : W (mSl ma ml mh) β Q E ↔ W ma β (fun p β1 => W ml β1 (fun lo β2 => W mh β2 (fun hi β3 => W (fin1 (gSl lo hi) p) β3 Q E) E) E) E := by
  unfold mSl
  refine W_bnd.trans (W_congr fun p β1 => ?_)
  refine W_bnd.trans (W_congr fun q β2 => ?_)
  rw [W_bnd]
@[simp ↓] theorem W_mMut {T : String} {i : Nat} {g : D → List D → Option (D × D)} {ma : M (List Pl)} {Q : Rs → B.Env → Prop} : W (mMut T i g ma) β Q E ↔ W (ownTy T i) β (fun _ β1 => W ma β1 (fun ps β2 => W (finM i g ps) β2 Q E) E) E := by
  unfold mMut
  refine W_bnd.trans (W_congr fun p β1 => ?_)
  rw [W_bnd]
def ownW (s : Option Sl) (P : Option Nat → D → Prop) : Prop := match s with
  | some (.own k d) => P k d
  | _ => False
@[simp ↓] theorem ownW_own {k : Option Nat} {d : D} {P : Option Nat → D → Prop} : ownW (some (.own k d)) P ↔ P k d := Iff.rfl
@[simp ↓] theorem W_ownTy {T : String} {i : Nat} {Q : Unit → B.Env → Prop} : W (ownTy T i) β Q E ↔ ownW β[i]? fun _ d => isTy T d = true ∧ Q () β := by
  unfold W ownTy ownW
  rcases β[i]? with _ | _ | _ | _ | ⟨_, d⟩ | _
  · with_unfolding_all rfl
  · with_unfolding_all rfl
  · with_unfolding_all rfl
  · with_unfolding_all rfl
  · simp only
    by_cases h : isTy T d = true
    · rw [if_pos h]; simp [h]
    · rw [if_neg h]; simp [h]
  · with_unfolding_all rfl
@[simp ↓] theorem W_finM {i : Nat} {g : D → List D → Option (D × D)} {ps : List Pl} {Q : Rs → B.Env → Prop} : W (finM i g ps) β Q E ↔ ownW β[i]? fun k d => optW (allD ps) fun ds => optW (g d ds) fun q => Q (.fz q.1) (β.set i (.own k q.2)) := by
  unfold W finM ownW
  rcases β[i]? with _ | _ | _ | _ | ⟨k, d⟩ | _
  · with_unfolding_all rfl
  · with_unfolding_all rfl
  · with_unfolding_all rfl
  · with_unfolding_all rfl
  · simp only
    cases allD ps with
    | none => with_unfolding_all rfl
    | some ds =>
      simp only [optW_some]
      cases g d ds <;> with_unfolding_all rfl
  · with_unfolding_all rfl
@[simp] theorem isTy_lst {ds : List D} : isTy "list" (.nd .lst ds) = true := rfl
def ixW {ds : List D} (o : Option Nat) (P : Nat → Prop) : Prop := optW o P
@[simp ↓] theorem W_mSetIx {i : Nat} {me mk : M Rs} {Q : Fl → B.Env → Prop} : W (mSetIx i me mk) β Q E ↔ W me β (fun r β1 => isSet β1[i]? ∧ W mk β1 (fun kr β2 => W (setIx i r kr.d) β2 Q E) E) E := by
  unfold mSetIx
  refine W_bnd.trans (W_congr fun r β1 => ?_)
  rw [W_bnd, W_mPl, W_bnd]
def lstW (d : D) (P : List D → Prop) : Prop := match d with
  | .nd .lst ds => P ds
  | _ => False
@[simp ↓] theorem lstW_lst {ds : List D} {P : List D → Prop} : lstW (.nd .lst ds) P ↔ P ds := Iff.rfl
@[simp ↓] theorem W_setIx {i : Nat} {v : Rs} {kd : D} {Q : Fl → B.Env → Prop} : W (setIx i v kd) β Q E ↔ ownW β[i]? fun b d => lstW d fun ds => iW kd fun k => optW (ixN ds.length k) fun j => Q .nx (β.set i (.own b (.nd .lst (ds.set j v.d)))) := by
  unfold W setIx ownW
  rcases β[i]? with _ | _ | _ | _ | ⟨k, d⟩ | _
  · with_unfolding_all rfl
  · with_unfolding_all rfl
  · with_unfolding_all rfl
  · with_unfolding_all rfl
  · rcases d with _ | _ | _ | _ | ⟨_ | _ | _ | _ | _, ds⟩ <;> cases kd <;> try rfl
    simp only [lstW_lst, iW_int]
    cases ixN ds.length _ <;> with_unfolding_all rfl
  · with_unfolding_all rfl
@[simp ↓] theorem W_mAug {i : Nat} {f : Int → Int → Int} {me : M Rs} {Q : Fl → B.Env → Prop} : W (mAug i f me) β Q E ↔ varW β[i]? (fun d => iW d fun a => W me β (fun r β1 => iW r.d fun b => Q .nx (β1.set i (.fz (.int (f a b))))) E) (fun _ => False) := by
  have key : ∀ s : Option Sl, β[i]? = s → (W (mAug i f me) β Q E ↔ varW s (fun d => iW d fun a => W me β (fun r β1 => iW r.d fun b => Q .nx (β1.set i (.fz (.int (f a b))))) E) (fun _ => False)) := fun s e => by
    unfold W mAug
    rw [e]
    rcases s with _ | _ | d | _ | ⟨_ | _, d⟩ | _
    · with_unfolding_all exact Iff.rfl
    · with_unfolding_all exact Iff.rfl
    · cases d with
      | int a =>
        have q := (W_bnd (m := me) (β := β) (Q := Q) (E := E) (f := fun r => match r.d with | .int b => bnd (setR i (.fz (.int (f a b)))) fun _ => ret .nx | _ => stk)).trans (W_congr (Q' := fun r β1 => iW r.d fun b => Q .nx (β1.set i (.fz (.int (f a b))))) fun r β1 => by cases r.d <;> with_unfolding_all rfl)
        with_unfolding_all exact q
      | _ => with_unfolding_all exact Iff.rfl
    · with_unfolding_all exact Iff.rfl
    · with_unfolding_all exact Iff.rfl
    · with_unfolding_all exact Iff.rfl
    · with_unfolding_all exact Iff.rfl
  exact key _ rfl
@[simp ↓] theorem W_mAsg {g : D → M Unit} {me : M Rs} {Q : Fl → B.Env → Prop} : W (mAsg g me) β Q E ↔ W me β (fun r β1 => W (g r.d) β1 (fun _ β2 => Q .nx β2) (fun _ _ => False)) E := by
  unfold mAsg
  refine W_bnd.trans (W_congr fun r β1 => ?_)
  unfold W
  simp only []
  generalize g r.d β1 = x
  cases x <;> with_unfolding_all exact Iff.rfl
@[simp ↓] theorem W_gSet {i : Nat} {d : D} {Q : Unit → B.Env → Prop} : W (gSet i d) β Q E ↔ Q () (β.set i (.fz d)) := by with_unfolding_all exact Iff.rfl
@[simp ↓] theorem W_gsNil {Q : Unit → B.Env → Prop} : W (gsNil []) β Q E ↔ Q () β := by with_unfolding_all exact Iff.rfl
@[simp ↓] theorem W_gsCons {g : D → M Unit} {h : List D → M Unit} {d : D} {ds : List D} {Q : Unit → B.Env → Prop} : W (gsCons g h (d :: ds)) β Q E ↔ W (g d) β (fun _ β1 => W (h ds) β1 Q E) E := by
  show W (bnd (g d) fun _ => h ds) β Q E ↔ _
  rw [W_bnd]
@[simp ↓] theorem W_gUnp {n : Nat} {g : List D → M Unit} {ds : List D} {Q : Unit → B.Env → Prop} : W (gUnp n g (.nd .tup ds)) β Q E ↔ ds.length = n ∧ W (g ds) β Q E := by
  show W (if ds.length = n then g ds else stk) β Q E ↔ _
  by_cases h : ds.length = n
  · rw [if_pos h]; simp [h]
  · rw [if_neg h]; simp [h]
/-! calls -/
@[simp ↓] theorem W_mCallF {ks : List Bool} {f : List D → FR} {ma : M (List Pl)} {Q : Rs → B.Env → Prop} : W (mCallF ks f ma) β Q E ↔ W ma β (fun ps β1 => W (callF ks f ps) β1 Q E) E := by
  unfold mCallF
  rw [W_bnd]
@[simp ↓] theorem W_mCallD {ks : List Bool} {f : List D → FR} {dd : List D} {ma : M (List Pl)} {Q : Rs → B.Env → Prop} : W (mCallD ks f dd ma) β Q E ↔ W ma β (fun ps β1 => W (callF ks f (ps ++ dd.map Pl.d)) β1 Q E) E := by
  unfold mCallD
  rw [W_bnd]
@[simp ↓] theorem W_mCallK {ks : List Bool} {f : List D → FR} {n m : Nat} {gP : List Pl → List Pl → List Pl} {ma mk : M (List Pl)} {Q : Rs → B.Env → Prop} : W (mCallK ks f n m gP ma mk) β Q E ↔ W ma β (fun ps β1 => W mk β1 (fun qs β2 => (ps.length = n ∧ qs.length = m) ∧ W (callF ks f (gP ps qs)) β2 Q E) E) E := by
  unfold mCallK
  refine W_bnd.trans (W_congr fun ps β1 => ?_)
  refine W_bnd.trans (W_congr fun qs β2 => ?_)
  by_cases h : ps.length = n ∧ qs.length = m
  · rw [if_pos h]; simp [h]
  · rw [if_neg h]; simp [h]
@[simp ↓] theorem W_callF {ks : List Bool} {f : List D → FR} {ps : List Pl} {Q : Rs → B.Env → Prop} : W (callF ks f ps) β Q E ↔ optW (resA β ks ps) fun q => (q.2.1.Nodup ∧ ∀ j ∈ q.2.2, j ∉ q.2.1) ∧
    FW (f q.1) (fun r ios => (ios.length = q.2.1.length ∧ (q.2.2 = [] ∨ (immR r = true ∧ ios.all immK = true))) ∧ Q r (putIo β q.2.1 ios)) (fun x ios => (ios.length = q.2.1.length ∧ (q.2.2 = [] ∨ (immX x = true ∧ ios.all immK = true))) ∧ E x (putIo β q.2.1 ios)) := by
  unfold W callF
  cases resA β ks ps with
  | none => with_unfolding_all rfl
  | some q =>
    obtain ⟨ds, is, js⟩ := q
    simp only [optW_some]
    by_cases h : is.Nodup ∧ ∀ j ∈ js, j ∉ is
    · rw [if_pos h]
      cases f ds with
      | stuck => exact ⟨fun h => h.elim, fun h => by have h := h.2; unfold FW at h; exact h⟩
      | ok r ios =>
        unfold FW
        simp only
        by_cases h2 : ios.length = is.length ∧ (js = [] ∨ (immR r = true ∧ ios.all immK = true))
        · rw [if_pos h2]
          exact ⟨fun q => ⟨h, h2, q⟩, fun q => q.2.2⟩
        · rw [if_neg h2]
          exact ⟨fun q => q.elim, fun q => h2 q.2.1⟩
      | exc x ios =>
        unfold FW
        simp only
        by_cases h2 : ios.length = is.length ∧ (js = [] ∨ (immX x = true ∧ ios.all immK = true))
        · rw [if_pos h2]
          exact ⟨fun q => ⟨h, h2, q⟩, fun q => q.2.2⟩
        · rw [if_neg h2]
          exact ⟨fun q => q.elim, fun q => h2 q.2.1⟩
    · rw [if_neg h]
      exact ⟨fun h => h.elim, fun h' => h h'.1⟩
@[simp] theorem resA_nil : resA β [] [] = some ([], [], []) := rfl
@[simp] theorem resA_d {d : D} {ks : List Bool} {ps : List Pl} : resA β (false :: ks) (.d d :: ps) = (resA β ks ps).map (fun r : List D × List Nat × List Nat => (d :: r.1, r.2.1, r.2.2)) := rfl
def slRes (i : Nat) (s : Option Sl) : Option (D × List Nat) := match s with
  | some (.fz d) => some (d, [])
  | some (.own _ d) => some (d, [i])
  | _ => none
@[simp] theorem slRes_fz {i : Nat} {d : D} : slRes i (some (.fz d)) = some (d, []) := rfl
@[simp] theorem slRes_own {i : Nat} {k : Option Nat} {d : D} : slRes i (some (.own k d)) = some (d, [i]) := rfl
@[simp] theorem resA_sl {i : Nat} {ks : List Bool} {ps : List Pl} : resA β (false :: ks) (.sl i :: ps) = (slRes i β[i]?).bind fun q => (resA β ks ps).map (fun r : List D × List Nat × List Nat => (q.1 :: r.1, r.2.1, q.2 ++ r.2.2)) := by
  show (match β[i]? with
    | some (.fz d) => (resA β ks ps).map (fun r : List D × List Nat × List Nat => (d :: r.1, r.2.1, r.2.2))
    | some (.own _ d) => (resA β ks ps).map (fun r : List D × List Nat × List Nat => (d :: r.1, r.2.1, i :: r.2.2))
    | _ => none) = _
  rcases β[i]? with _ | _ | _ | _ | ⟨_, _⟩ <;> with_unfolding_all rfl
def slIo (s : Option Sl) : Option D := match s with
  | some (.own _ d) => some d
  | _ => none
@[simp] theorem slIo_own {k : Option Nat} {d : D} : slIo (some (.own k d)) = some d := rfl
@[simp] theorem resA_io {i : Nat} {ks : List Bool} {ps : List Pl} : resA β (true :: ks) (.sl i :: ps) = (slIo β[i]?).bind fun d => (resA β ks ps).map (fun r : List D × List Nat × List Nat => (d :: r.1, i :: r.2.1, r.2.2)) := by
  show (match β[i]? with
    | some (.own _ d) => (resA β ks ps).map (fun r : List D × List Nat × List Nat => (d :: r.1, i :: r.2.1, r.2.2))
    | _ => none) = _
  rcases β[i]? with _ | _ | _ | _ | ⟨_, _⟩ <;> with_unfolding_all rfl
@[simp] theorem putIo_nil {ds : List D} : putIo β [] ds = β := by cases ds <;> with_unfolding_all rfl
def slPut (β : B.Env) (i : Nat) (d : D) : Option Sl → B.Env
  | some (.own b _) => β.set i (.own b d)
  | _ => β
@[simp] theorem slPut_own {i : Nat} {d d' : D} {b : Option Nat} : slPut β i d (some (.own b d')) = β.set i (.own b d) := rfl
@[simp] theorem putIo_cons {i : Nat} {is : List Nat} {d : D} {ds : List D} : putIo β (i :: is) (d :: ds) = putIo (slPut β i d β[i]?) is ds := by
  show putIo (match β[i]? with
    | some (.own b _) => β.set i (.own b d)
    | _ => β) is ds = _
  rcases β[i]? with _ | _ | _ | _ | ⟨_, _⟩ <;> with_unfolding_all rfl
end
/-! defs -/
def retW (ks : List Bool) (Q : Rs → List D → Prop) (f : Fl) (β : B.Env) : Prop := match f with
  | .ret r => optW (endIo ks 0 β) (Q r)
  | .nx => optW (endIo ks 0 β) (Q (.fz .non))
  | _ => False
@[simp ↓] theorem retW_ret {ks : List Bool} {Q : Rs → List D → Prop} {r : Rs} {β : B.Env} : retW ks Q (.ret r) β ↔ optW (endIo ks 0 β) (Q r) := Iff.rfl
@[simp ↓] theorem retW_nx {ks : List Bool} {Q : Rs → List D → Prop} {β : B.Env} : retW ks Q .nx β ↔ optW (endIo ks 0 β) (Q (.fz .non)) := Iff.rfl
theorem FW_run {ks : List Bool} {n : Nat} {m : M Fl} {ds : List D} {Q : Rs → List D → Prop} {E : Exn → List D → Prop} : FW (runB ks n m ds) Q E ↔ W m (start0 ks n ds) (retW ks Q) (fun x β => optW (endIo ks 0 β) (E x)) := by
  unfold FW runB finF W retW
  cases m (start0 ks n ds) with
  | stuck => with_unfolding_all rfl
  | ok f β => cases f <;> first | with_unfolding_all rfl | (simp only; cases endIo ks 0 β <;> with_unfolding_all rfl)
  | exc x β => simp only; cases endIo ks 0 β <;> with_unfolding_all rfl
@[simp] theorem endIo_nil {j : Nat} {β : B.Env} : endIo [] j β = some [] := by cases β <;> with_unfolding_all rfl
@[simp] theorem endIo_f {ks : List Bool} {j : Nat} {s : Sl} {β : B.Env} : endIo (false :: ks) j (s :: β) = endIo ks j β := by cases s <;> with_unfolding_all rfl
@[simp] theorem endIo_t {ks : List Bool} {j : Nat} {d : D} {β : B.Env} : endIo (true :: ks) j (.own (some j) d :: β) = (endIo ks (j + 1) β).map (d :: ·) := by
  show (if j = j then _ else none) = _
  rw [if_pos rfl]
end B

set_option Elab.async false
set_option linter.all false
set_option maxRecDepth 100000
set_option maxHeartbeats 4000000
namespace B
open PySem PySem.Spec L2
/-! ## operations on data -/
def mulOk (i j : Int) : Prop := cMul i j = true ∨ cMulW i j = true
def divOk (j : Int) : Prop := cDiv 0 j = true
def powOk (i j : Int) : Prop := cPow i j = true
theorem small_of {i : Int} (h : -(2 ^ 64) < i) (h2 : i < 2 ^ 64) : smallI i = true := decide_eq_true ⟨h, h2⟩
theorem mulOk_l {i j : Int} (h : -(2 ^ 64) < i) (h2 : i < 2 ^ 64) : mulOk i j := .inl (by unfold cMul; rw [small_of h h2]; rfl)
theorem mulOk_r {i j : Int} (h : -(2 ^ 64) < j) (h2 : j < 2 ^ 64) : mulOk i j := .inl (by unfold cMul; rw [small_of h h2, Bool.or_true])
theorem log2_lt {n k : Nat} (h : n < 2 ^ k) (hk : 0 < k) : n.log2 < k := by
  by_cases hn : n = 0
  · subst hn; simpa using hk
  · exact (Nat.log2_lt hn).mpr h
theorem divOk_of {j : Int} (h : 0 < j) (h2 : j < 2 ^ 128) : divOk j := by
  unfold divOk cDiv
  rw [decide_eq_true_eq]
  refine ⟨h, ?_⟩
  have : j.natAbs < 2 ^ 128 := by omega
  have := log2_lt this (by decide)
  omega
theorem powOk_of {i j : Int} (h : 0 ≤ j) (h2 : j ≤ 1000000) (h3 : i.natAbs < 2 ^ 64) : powOk i j := decide_eq_true ⟨h, h2, h3⟩
section
variable {i j : Int} {P : Rs → Prop}
@[simp ↓] theorem w_add : optW (gAdd (.int i) (.int j)) P ↔ P (.fz (.int (i + j))) := Iff.rfl
@[simp ↓] theorem w_sub : optW (gSub (.int i) (.int j)) P ↔ P (.fz (.int (i - j))) := Iff.rfl
@[simp ↓] theorem w_mul : optW (gMul (.int i) (.int j)) P ↔ mulOk i j ∧ P (.fz (.int (i * j))) := by
  show optW (if cMul i j = true then some (.fz (.int (i * j))) else if cMulW i j = true then some (.fz (.int (i * j))) else none) P ↔ _
  unfold mulOk
  by_cases h : cMul i j = true
  · rw [if_pos h]; simp [h]
  · rw [if_neg h]
    by_cases h2 : cMulW i j = true
    · rw [if_pos h2]; simp [h2]
    · rw [if_neg h2]; simp [h, h2]
theorem w_gIc {C : Int → Int → Bool} {f : Int → Int → Int} : optW (gIc C f (.int i) (.int j)) P ↔ C i j = true ∧ P (.fz (.int (f i j))) := by
  show optW (if C i j = true then some (.fz (.int (f i j))) else none) P ↔ _
  exact optW_ite
@[simp ↓] theorem w_fdiv : optW (gFdiv (.int i) (.int j)) P ↔ divOk j ∧ P (.fz (.int (i / j))) := w_gIc
@[simp ↓] theorem w_mod : optW (gMod (.int i) (.int j)) P ↔ 0 < j ∧ P (.fz (.int (i % j))) := by
  unfold gMod
  rw [w_gIc, decide_eq_true_eq]
@[simp ↓] theorem w_pow : optW (gPow (.int i) (.int j)) P ↔ powOk i j ∧ P (.fz (.int (i ^ j.toNat))) := w_gIc
@[simp ↓] theorem w_shl : optW (gShl (.int i) (.int j)) P ↔ powOk i j ∧ P (.fz (.int (i * 2 ^ j.toNat))) := w_gIc
@[simp ↓] theorem w_lt : optW (gLt (.int i) (.int j)) P ↔ P (.fz (.bl (decide (i < j)))) := Iff.rfl
@[simp ↓] theorem w_le : optW (gLe (.int i) (.int j)) P ↔ P (.fz (.bl (decide (i ≤ j)))) := Iff.rfl
@[simp ↓] theorem w_gt : optW (gGt (.int i) (.int j)) P ↔ P (.fz (.bl (decide (j < i)))) := Iff.rfl
@[simp ↓] theorem w_ge : optW (gGe (.int i) (.int j)) P ↔ P (.fz (.bl (decide (j ≤ i)))) := Iff.rfl
theorem shp_int : shp (.int i) = true := rfl
theorem eqv_int : eqv (.int i) (.int j) = decide (i = j) := by
  show PyData.eqv (.int i) (.int j) = _
  unfold PyData.eqv
  by_cases h : i = j <;> simp [h]
@[simp ↓] theorem w_eq : optW (gEq (.int i) (.int j)) P ↔ P (.fz (.bl (decide (i = j)))) := by
  unfold gEq
  rw [if_pos ⟨shp_int, shp_int⟩, eqv_int]
  with_unfolding_all exact Iff.rfl
@[simp ↓] theorem w_ne : optW (gNe (.int i) (.int j)) P ↔ P (.fz (.bl (!decide (i = j)))) := by
  unfold gNe
  rw [if_pos ⟨shp_int, shp_int⟩, eqv_int]
  with_unfolding_all exact Iff.rfl
@[simp ↓] theorem w_neg : optW (gNeg (.int i)) P ↔ P (.fz (.int (-i))) := Iff.rfl
@[simp ↓] theorem w_int : optW (gInt [.int i]) P ↔ P (.fz (.int i)) := Iff.rfl
@[simp ↓] theorem w_intB {b : Bool} : optW (gInt [.bl b]) P ↔ P (.fz (.int (if b then 1 else 0))) := Iff.rfl
@[simp ↓] theorem w_max2 : optW (gMax2 [.int i, .int j]) P ↔ P (.fz (.int (if j > i then j else i))) := Iff.rfl
@[simp ↓] theorem w_min2 : optW (gMin2 [.int i, .int j]) P ↔ P (.fz (.int (if j < i then j else i))) := Iff.rfl
end
section
variable {ds es : List D} {P : Rs → Prop} {i : Int}
theorem ixN_of {n : Nat} (h : 0 ≤ i) (h2 : i < n) : ixN n i = some i.toNat := by unfold ixN; rw [if_pos h, if_pos h2]
theorem ixN_neg {n : Nat} (h : i < 0) (h2 : 0 ≤ i + n) : ixN n i = some (i + n).toNat := by
  unfold ixN
  rw [if_neg (by omega)]
  first
    | rw [if_pos (by omega)]
    | simp [h2]
theorem atI_of {α : Type} {l : List α} (h : 0 ≤ i) (h2 : i < l.length) : atI l i = l[i.toNat]? := by unfold atI; rw [ixN_of h h2]; rfl
theorem atI_neg {α : Type} {l : List α} (h : i < 0) (h2 : 0 ≤ i + l.length) : atI l i = l[(i + l.length).toNat]? := by unfold atI; rw [ixN_neg h h2]; rfl
theorem atI_nat' {α : Type} {l : List α} (k : Nat) : atI l (k : Int) = l[k]? := by
  by_cases h : k < l.length
  · rw [atI_of (by omega) (by omega)]; simp
  · unfold atI ixN
    rw [if_pos (by omega), if_neg (by omega), List.getElem?_eq_none (by omega)]
    with_unfolding_all rfl
@[simp] theorem atI_0 {α : Type} {l : List α} : atI l 0 = l[0]? := atI_nat' 0
@[simp] theorem atI_1 {α : Type} {l : List α} : atI l 1 = l[1]? := atI_nat' 1
@[simp] theorem atI_2 {α : Type} {l : List α} : atI l 2 = l[2]? := atI_nat' 2
@[simp ↓] theorem w_ixL : optW (gIx (.nd .lst ds) (.int i)) P ↔ optW (atI ds i) fun d => P (.fz d) := optW_map
@[simp ↓] theorem w_ixS : optW (gIx (.nd .scr ds) (.int i)) P ↔ optW (atI ds i) fun d => P (.fz d) := optW_map
@[simp ↓] theorem w_ixT : optW (gIx (.nd .tup ds) (.int i)) P ↔ optW (atI ds i) fun d => P (.fz d) := optW_map
@[simp ↓] theorem w_lenL : optW (gLen [.nd .lst ds]) P ↔ P (.fz (.int ds.length)) := Iff.rfl
@[simp ↓] theorem w_lenS : optW (gLen [.nd .scr ds]) P ↔ P (.fz (.int ds.length)) := Iff.rfl
@[simp ↓] theorem w_lenT : optW (gLen [.nd .tup ds]) P ↔ P (.fz (.int ds.length)) := Iff.rfl
@[simp ↓] theorem w_listL : optW (gList [.nd .lst ds]) P ↔ P (.own (.nd .lst ds)) := Iff.rfl
@[simp ↓] theorem w_listT : optW (gList [.nd .tup ds]) P ↔ P (.own (.nd .lst ds)) := Iff.rfl
@[simp ↓] theorem w_tupL : optW (gTuple [.nd .lst ds]) P ↔ P (.fz (.nd .tup ds)) := Iff.rfl
@[simp ↓] theorem w_cat : optW (gAdd (.nd .lst ds) (.nd .lst es)) P ↔ ds.length + es.length ≤ sizeLine ∧ P (.own (.nd .lst (ds ++ es))) := optW_ite
@[simp ↓] theorem w_catT : optW (gAdd (.nd .tup ds) (.nd .tup es)) P ↔ ds.length + es.length ≤ sizeLine ∧ P (.fz (.nd .tup (ds ++ es))) := optW_ite
@[simp ↓] theorem w_revL : optW (gRevL (.nd .lst ds)) P ↔ P (.own (.nd .lst ds.reverse)) := Iff.rfl
@[simp ↓] theorem w_slL {lo hi : Option Int} : optW (gSl lo hi (.nd .lst ds)) P ↔ P (.own (.nd .lst (cut ds lo hi))) := Iff.rfl
@[simp ↓] theorem w_slS {lo hi : Option Int} : optW (gSl lo hi (.nd .scr ds)) P ↔ P (.own (.nd .lst (cut ds lo hi))) := Iff.rfl
@[simp ↓] theorem w_slT {lo hi : Option Int} : optW (gSl lo hi (.nd .tup ds)) P ↔ P (.fz (.nd .tup (cut ds lo hi))) := Iff.rfl
@[simp ↓] theorem w_append {d : D} {P : D × D → Prop} : optW (gAppend (.nd .lst ds) [d]) P ↔ ds.length < sizeLine ∧ P (.non, .nd .lst (ds ++ [d])) := optW_ite
@[simp ↓] theorem w_extend {P : D × D → Prop} : optW (gExtend (.nd .lst ds) [.nd .lst es]) P ↔ ds.length + es.length ≤ sizeLine ∧ P (.non, .nd .lst (ds ++ es)) := optW_ite
@[simp ↓] theorem w_reverse {P : D × D → Prop} : optW (gReverse (.nd .lst ds) []) P ↔ P (.non, .nd .lst ds.reverse) := Iff.rfl
theorem w_isi {T : String} {d : D} {b : Bool} (h : isiD T d = some b) : optW (gIsi T d) P ↔ P (.fz (.bl b)) := by
  unfold gIsi
  rw [h]
  with_unfolding_all exact Iff.rfl
@[simp ↓] theorem w_truB {b : Bool} {P : Bool → Prop} : optW (truD (.bl b)) P ↔ P b := Iff.rfl
theorem mPart_of {α : Type} {me : M Rs} {β : B.Env} {Q : Option Int → B.Env → Prop} {E : Exn → B.Env → Prop} : W (mPart me) β Q E ↔ W me β (fun r β1 => match r with
    | .fz (.int i) => Q (some i) β1
    | _ => False) E := by
  unfold mPart
  refine W_bnd.trans (W_congr fun r β1 => ?_)
  rcases r with d | d
  · cases d <;> with_unfolding_all exact Iff.rfl
  · with_unfolding_all exact Iff.rfl
def fiW (r : Rs) (P : Int → Prop) : Prop := match r with
  | .fz (.int i) => P i
  | _ => False
@[simp ↓] theorem fiW_int {i : Int} {P : Int → Prop} : fiW (.fz (.int i)) P ↔ P i := Iff.rfl
@[simp ↓] theorem W_mPart {me : M Rs} {β : B.Env} {Q : Option Int → B.Env → Prop} {E : Exn → B.Env → Prop} : W (mPart me) β Q E ↔ W me β (fun r β1 => fiW r fun i => Q (some i) β1) E := by
  unfold mPart
  refine W_bnd.trans (W_congr fun r β1 => ?_)
  rcases r with d | d
  · cases d <;> with_unfolding_all exact Iff.rfl
  · with_unfolding_all exact Iff.rfl
end
/-! ## what is walked -/
section
variable {β : B.Env} {E : Exn → B.Env → Prop} {Q : List D → B.Env → Prop}
@[simp ↓] theorem W_mIter {me : M Rs} : W (mIter me) β Q E ↔ W me β (fun r β1 => optW (items r.d) fun ds => Q ds β1) E := by
  unfold mIter
  refine W_bnd.trans (W_congr fun r β1 => ?_)
  unfold liftO W
  cases items r.d <;> with_unfolding_all exact Iff.rfl
@[simp] theorem items_l {ds : List D} : items (.nd .lst ds) = some ds := rfl
@[simp] theorem items_s {ds : List D} : items (.nd .scr ds) = some ds := rfl
@[simp] theorem items_t {ds : List D} : items (.nd .tup ds) = some ds := rfl
def r1W (l : List D) (P : Int → Prop) : Prop := match l with
  | [.int j] => P j
  | _ => False
def r2W (l : List D) (P : Int → Int → Prop) : Prop := match l with
  | [.int i, .int j] => P i j
  | _ => False
@[simp ↓] theorem r1W_int {j : Int} {P : Int → Prop} : r1W [.int j] P ↔ P j := Iff.rfl
@[simp ↓] theorem r2W_int {i j : Int} {P : Int → Int → Prop} : r2W [.int i, .int j] P ↔ P i j := Iff.rfl
theorem inR_iff {i : Int} : inR i = true ↔ -(2 ^ 62) ≤ i ∧ i < 2 ^ 62 := by unfold inR; rw [decide_eq_true_eq]
@[simp ↓] theorem W_rngA {ps : List Pl} : W (rngA ps) β Q E ↔ optW (looks β ps) fun l => r1W l fun j => inR j = true ∧ Q (rng 0 j) β := by
  unfold W rngA
  cases looks β ps with
  | none => with_unfolding_all exact Iff.rfl
  | some l =>
    rcases l with _ | ⟨d, _ | ⟨d2, l⟩⟩
    · with_unfolding_all exact Iff.rfl
    · cases d with
      | int j =>
        simp only [optW_some, r1W_int]
        by_cases h : inR j = true
        · rw [if_pos h]; simp [h]
        · rw [if_neg h]; simp [h]
      | _ => with_unfolding_all exact Iff.rfl
    · cases d <;> with_unfolding_all exact Iff.rfl
@[simp ↓] theorem W_rngB {ps : List Pl} : W (rngB ps) β Q E ↔ optW (looks β ps) fun l => r2W l fun i j => (inR i = true ∧ inR j = true) ∧ Q (rng i j) β := by
  unfold W rngB
  cases looks β ps with
  | none => with_unfolding_all exact Iff.rfl
  | some l =>
    rcases l with _ | ⟨d, _ | ⟨d2, _ | ⟨d3, l⟩⟩⟩
    · with_unfolding_all exact Iff.rfl
    · cases d <;> with_unfolding_all exact Iff.rfl
    · cases d with
      | int i =>
        cases d2 with
        | int j =>
          simp only [optW_some, r2W_int]
          by_cases h : inR i = true ∧ inR j = true
          · rw [if_pos h]; simp [h]
          · rw [if_neg h]
            exact ⟨fun q => q.elim, fun q => h q.1⟩
        | _ => with_unfolding_all exact Iff.rfl
      | _ => with_unfolding_all exact Iff.rfl
    · cases d <;> cases d2 <;> with_unfolding_all exact Iff.rfl
@[simp ↓] theorem W_zipLL {ds es : List D} : W (zipA [.d (.nd .lst ds), .d (.nd .lst es)]) β Q E ↔ Q (zipD ds es) β := by with_unfolding_all exact Iff.rfl
@[simp ↓] theorem W_zipTT {ds es : List D} : W (zipA [.d (.nd .tup ds), .d (.nd .tup es)]) β Q E ↔ Q (zipD ds es) β := by with_unfolding_all exact Iff.rfl
end
/-! ## loops -/
section
variable {β : B.Env} {E : Exn → B.Env → Prop}
/-- how a turn ends -/
def flW (f : Fl) (N B : Prop) (R : Rs → Prop) : Prop := match f with
  | .nx => N
  | .ct => N
  | .brk => B
  | .ret r => R r
@[simp ↓] theorem flW_nx {N B : Prop} {R : Rs → Prop} : flW .nx N B R ↔ N := Iff.rfl
@[simp ↓] theorem flW_ct {N B : Prop} {R : Rs → Prop} : flW .ct N B R ↔ N := Iff.rfl
@[simp ↓] theorem flW_brk {N B : Prop} {R : Rs → Prop} : flW .brk N B R ↔ B := Iff.rfl
@[simp ↓] theorem flW_ret {N B : Prop} {R : Rs → Prop} {r : Rs} : flW (.ret r) N B R ↔ R r := Iff.rfl
@[simp ↓] theorem W_mFor {mi : M (List D)} {g : D → M Unit} {b : M Fl} {Q : Fl → B.Env → Prop} : W (mFor mi g b) β Q E ↔ W mi β (fun ds β1 => W (forL g b ds) β1 Q E) E := by
  unfold mFor
  exact W_bnd
theorem forL_nil {g : D → M Unit} {b : M Fl} {Q : Fl → B.Env → Prop} : W (forL g b []) β Q E ↔ Q .nx β := by with_unfolding_all exact Iff.rfl
theorem forL_cons {g : D → M Unit} {b : M Fl} {Q : Fl → B.Env → Prop} {d : D} {ds : List D} (h : W (g d) β (fun _ β1 => W b β1 (fun f β2 => flW f (W (forL g b ds) β2 Q E) (Q .nx β2) fun r => Q (.ret r) β2) E) fun _ _ => False) : W (forL g b (d :: ds)) β Q E := by
  unfold W at h ⊢
  simp only [forL]
  cases e : g d β with
  | stuck => rw [e] at h; exact h.elim
  | exc x β1 => rw [e] at h; exact h.elim
  | ok u β1 =>
    rw [e] at h
    simp only at h ⊢
    cases e2 : b β1 with
    | stuck => rw [e2] at h; exact h.elim
    | exc x β2 => rw [e2] at h; exact h
    | ok f β2 =>
      rw [e2] at h
      cases f <;> exact h
theorem W_forL {g : D → M Unit} {b : M Fl} {Q : Fl → B.Env → Prop} {ds : List D} (I : Nat → B.Env → Prop) (h0 : I 0 β)
    (step : ∀ i d β, ds[i]? = some d → I i β → W (g d) β (fun _ β1 => W b β1 (fun f β2 => flW f (I (i + 1) β2) (Q .nx β2) fun r => Q (.ret r) β2) E) fun _ _ => False) (fin : ∀ β, I ds.length β → Q .nx β) : W (forL g b ds) β Q E := by
  have key : ∀ (n i : Nat) (β : B.Env), i + n = ds.length → I i β → W (forL g b (ds.drop i)) β Q E := by
    intro n
    induction n with
    | zero =>
      intro i β hi h
      rw [List.drop_of_length_le (by omega)]
      have : i = ds.length := by omega
      subst this
      exact forL_nil.mpr (fin β h)
    | succ n ih =>
      intro i β hi h
      have hlt : i < ds.length := by omega
      rw [List.drop_eq_getElem_cons hlt]
      refine forL_cons ((step i _ β (List.getElem?_eq_getElem hlt) h).mono (fun _ β1 h1 => h1.mono (fun f β2 h2 => ?_) fun _ _ h => h) fun _ _ h => h)
      cases f with
      | nx => exact ih (i + 1) β2 (by omega) h2
      | ct => exact ih (i + 1) β2 (by omega) h2
      | brk => exact h2
      | ret r => exact h2
  have := key ds.length 0 β (by omega) h0
  rwa [List.drop_zero] at this
theorem whileN_more {c : M Bool} {b : M Fl} : ∀ {n m : Nat} {β : B.Env}, whileN c b n β ≠ .stuck → n ≤ m → whileN c b m β = whileN c b n β
  | 0, _, _, h, _ => absurd rfl h
  | n + 1, 0, _, _, hm => absurd hm (by omega)
  | n + 1, m + 1, β, h, hm => by
    simp only [whileN] at h ⊢
    cases e : c β with
    | stuck => with_unfolding_all rfl
    | exc x β1 => with_unfolding_all rfl
    | ok k β1 =>
      cases k with
      | false => with_unfolding_all rfl
      | true =>
        rw [e] at h
        simp only at h ⊢
        cases e2 : b β1 with
        | stuck => with_unfolding_all rfl
        | exc x β2 => with_unfolding_all rfl
        | ok f β2 =>
          rw [e2] at h
          cases f with
          | nx => exact whileN_more h (by omega)
          | ct => exact whileN_more h (by omega)
          | brk => with_unfolding_all rfl
          | ret r => with_unfolding_all rfl
theorem mWhile_eq {c : M Bool} {b : M Fl} {n : Nat} (h : whileN c b n β ≠ .stuck) : mWhile c b β = whileN c b n β := by
  unfold mWhile
  have hx : ∃ n, whileN c b n β ≠ .stuck := ⟨n, h⟩
  rw [dif_pos hx]
  rcases Nat.le_total n hx.choose with q | q
  · exact whileN_more h q
  · exact (whileN_more hx.choose_spec q).symm
theorem W_while {c : M Bool} {b : M Fl} {Q : Fl → B.Env → Prop} (I : Nat → B.Env → Prop)
    (step : ∀ n β, I n β → W c β (fun k β1 => if k = true then W b β1 (fun f β2 => flW f (∃ m, m < n ∧ I m β2) (Q .nx β2) fun r => Q (.ret r) β2) E else Q .nx β1) E) : ∀ {n : Nat} {β : B.Env}, I n β → W (mWhile c b) β Q E := by
  have key : ∀ (n : Nat) (β : B.Env), I n β → ∃ k, W (whileN c b k) β Q E := by
    intro n
    induction n using Nat.strongRecOn with
    | _ n ih =>
      intro β h
      have h := step n β h
      unfold W at h
      cases e : c β with
      | stuck => rw [e] at h; exact h.elim
      | exc x β1 =>
        rw [e] at h
        refine ⟨1, ?_⟩
        unfold W whileN
        rw [e]
        exact h
      | ok k β1 =>
        rw [e] at h
        cases k with
        | false =>
          refine ⟨1, ?_⟩
          unfold W whileN
          rw [e]
          simpa using h
        | true =>
          simp only [if_true] at h
          cases e2 : b β1 with
          | stuck => rw [e2] at h; exact h.elim
          | exc x β2 =>
            rw [e2] at h
            refine ⟨1, ?_⟩
            unfold W whileN
            rw [e]
            simp only
            rw [e2]
            exact h
          | ok f β2 =>
            rw [e2] at h
            cases f with
            | nx =>
              obtain ⟨m, hm, h⟩ := h
              obtain ⟨k, hk⟩ := ih m hm β2 h
              refine ⟨k + 1, ?_⟩
              unfold W whileN
              rw [e]
              simp only
              rw [e2]
              unfold W at hk
              exact hk
            | ct =>
              obtain ⟨m, hm, h⟩ := h
              obtain ⟨k, hk⟩ := ih m hm β2 h
              refine ⟨k + 1, ?_⟩
              unfold W whileN
              rw [e]
              simp only
              rw [e2]
              unfold W at hk
              exact hk
            | brk =>
              refine ⟨1, ?_⟩
              unfold W whileN
              rw [e]
              simp only
              rw [e2]
              exact h
            | ret r =>
              refine ⟨1, ?_⟩
              unfold W whileN
              rw [e]
              simp only
              rw [e2]
              exact h
  intro n β h
  obtain ⟨k, hk⟩ := key n β h
  have ns : whileN c b k β ≠ .stuck := fun z => by
    unfold W at hk
    rw [z] at hk
    exact hk
  unfold W at hk ⊢
  rw [mWhile_eq ns]
  exact hk
/-! comprehensions -/
abbrev noE : Exn → B.Env → Prop := fun _ _ => False
@[simp ↓] theorem W_mComp {vs : List Nat} {mi : M (List D)} {g : D → M Unit} {mt : M Bool} {me : M Rs} {Q : Rs → B.Env → Prop} : W (mComp vs mi g mt me) β Q E ↔ W mi β (fun ds β1 => W (compV g mt me vs ds) β1 Q E) E := by
  unfold mComp
  exact W_bnd
@[simp ↓] theorem W_mYes {Q : Bool → B.Env → Prop} : W mYes β Q E ↔ Q true β := by with_unfolding_all exact Iff.rfl
theorem compL_cons {g : D → M Unit} {mt : M Bool} {me : M Rs} {vs : List Nat} {d : D} {ds acc : List D} {Q : List D → B.Env → Prop}
    (h : W (g d) β (fun _ β1 => W mt β1 (fun k β2 => if k = true then W me β2 (fun r β3 => acc.length < sizeLine ∧ W (compL g mt me vs ds (acc ++ [r.d])) (wipeB β3 vs) Q noE) noE else W (compL g mt me vs ds acc) (wipeB β2 vs) Q noE) noE) noE) : W (compL g mt me vs (d :: ds) acc) β Q noE := by
  unfold W at h ⊢
  simp only [compL]
  cases e : g d β with
  | stuck => rw [e] at h; exact h.elim
  | exc x β1 => rw [e] at h; exact h.elim
  | ok u β1 =>
    rw [e] at h
    simp only at h ⊢
    cases e2 : mt β1 with
    | stuck => rw [e2] at h; exact h.elim
    | exc x β2 => rw [e2] at h; exact h.elim
    | ok k β2 =>
      rw [e2] at h
      cases k with
      | false => simpa using h
      | true =>
        simp only [if_true] at h ⊢
        cases e3 : me β2 with
        | stuck => rw [e3] at h; exact h.elim
        | exc x β3 => rw [e3] at h; exact h.elim
        | ok r β3 =>
          rw [e3] at h
          simp only at h ⊢
          rw [if_pos h.1]
          exact h.2
theorem W_compV {g : D → M Unit} {mt : M Bool} {me : M Rs} {vs : List Nat} {ds : List D} {Q : Rs → B.Env → Prop} (I : Nat → List D → B.Env → Prop) (hno : noOwn β vs = true) (h0 : I 0 [] (wipeB β vs))
    (step : ∀ i d acc β1, ds[i]? = some d → I i acc β1 → W (g d) β1 (fun _ β2 => W mt β2 (fun k β3 => if k = true then W me β3 (fun r β4 => acc.length < sizeLine ∧ I (i + 1) (acc ++ [r.d]) (wipeB β4 vs)) noE else I (i + 1) acc (wipeB β3 vs)) noE) noE)
    (fin : ∀ acc β1, I ds.length acc β1 → Q (.own (.nd .lst acc)) (backB β β1 vs)) : W (compV g mt me vs ds) β Q E := by
  have key : ∀ (n i : Nat) (acc : List D) (β1 : B.Env), i + n = ds.length → I i acc β1 → W (compL g mt me vs (ds.drop i) acc) β1 (fun acc β2 => I ds.length acc β2) noE := by
    intro n
    induction n with
    | zero =>
      intro i acc β1 hi h
      rw [List.drop_of_length_le (by omega)]
      have : i = ds.length := by omega
      subst this
      with_unfolding_all exact h
    | succ n ih =>
      intro i acc β1 hi h
      have hlt : i < ds.length := by omega
      rw [List.drop_eq_getElem_cons hlt]
      refine compL_cons ((step i _ acc β1 (List.getElem?_eq_getElem hlt) h).mono (fun _ β2 h2 => h2.mono (fun k β3 h3 => ?_) fun _ _ h => h) fun _ _ h => h)
      cases k with
      | false =>
        simp only [Bool.false_eq_true, if_false] at h3 ⊢
        exact ih (i + 1) acc _ (by omega) h3
      | true =>
        simp only [if_true] at h3 ⊢
        exact h3.mono (fun r β4 h4 => ⟨h4.1, ih (i + 1) _ _ (by omega) h4.2⟩) fun _ _ h => h
  have h := key ds.length 0 [] _ (by omega) h0
  rw [List.drop_zero] at h
  obtain ⟨acc, β1, e, hI⟩ := h.eq fun _ _ h => h
  unfold W compV
  rw [if_pos hno, e]
  exact fin acc β1 hI
/-- where all is told by functions and the slots stay -/
theorem W_compF {g : D → M Unit} {mt : M Bool} {me : M Rs} {vs : List Nat} {ds : List D} {Q : Rs → B.Env → Prop} (p : D → Bool) (f : D → D) (hno : noOwn β vs = true) (hlen : ds.length < sizeLine)
    (step : ∀ d, d ∈ ds → W (g d) (wipeB β vs) (fun _ β2 => W mt β2 (fun k β3 => k = p d ∧ if p d = true then W me β3 (fun r β4 => r.d = f d ∧ wipeB β4 vs = wipeB β vs) noE else wipeB β3 vs = wipeB β vs) noE) noE)
    (fin : Q (.own (.nd .lst ((ds.filter p).map f))) (backB β (wipeB β vs) vs)) : W (compV g mt me vs ds) β Q E := by
  refine W_compV (fun i acc β1 => acc = ((ds.take i).filter p).map f ∧ β1 = wipeB β vs) hno ⟨by simp, rfl⟩ (fun i d acc β1 hd ⟨ea, eb⟩ => ?_) fun acc β1 ⟨ea, eb⟩ => ?_
  · subst eb
    have hm : d ∈ ds := List.mem_of_getElem? hd
    have et : ds.take (i + 1) = ds.take i ++ [d] := by rw [List.take_add_one, hd]; rfl
    refine (step d hm).mono (fun _ β2 h2 => h2.mono (fun k β3 h3 => ?_) fun _ _ h => h) fun _ _ h => h
    obtain ⟨rfl, h3⟩ := h3
    by_cases hp : p d = true
    · rw [if_pos hp] at h3 ⊢
      refine h3.mono (fun r β4 h4 => ⟨?_, ?_, h4.2⟩) fun _ _ h => h
      · rw [ea, List.length_map]
        exact Nat.lt_of_le_of_lt (Nat.le_trans (List.length_filter_le _ _) (List.length_take_le' _ _)) hlen
      · rw [et, List.filter_append, List.map_append, ea, h4.1]
        simp [hp]
    · rw [if_neg hp] at h3 ⊢
      refine ⟨?_, h3⟩
      rw [et, List.filter_append, ea]
      simp [hp]
  · rw [List.take_length] at ea
    rw [ea, eb]
    exact fin
end
end B

set_option Elab.async false
set_option linter.all false
set_option maxRecDepth 100000
set_option maxHeartbeats 4000000
namespace B
open PySem PySem.Spec L2
/-! ## try with clauses of both kinds: with a name, without -/
abbrev Suite := Addr → Value → Option Addr → TS
/-- the name of a clause goes behind its suite -/
def endsBut (i : Option Nat) (D : Ends) : Ends := match i with
  | none => D
  | some i => { nx := fun σ' H' => D.nx (σ'.set i none) H', rt := D.rt, bk := fun σ' H' => D.bk (σ'.set i none) H', ct := fun σ' H' => D.ct (σ'.set i none) H' }
def nameIn (i : Option Nat) (a : Addr) (σ : L2.St) : L2.St := match i with
  | none => σ
  | some i => σ.set i (some (.ref a))
def wMix (K : PySem.W.Frag) (Wout : WX) (D : Ends) : List (Value × Option Nat × Suite) → WX
  | [] => Wout
  | (c, i, ts) :: r => fun cls d σ H => ∃ b, PySem.W.exmOne K cls c = some b ∧ (b = true → ∀ a, H a = none → ts a cls d (endsBut i D) (nameIn i a σ) H) ∧ (b = false → wMix K Wout D r cls d σ H)
inductive HdX (X : Cx) : List ExceptHandler → List (Value × Option Nat × Suite) → Prop
  | nil : HdX X [] []
  | cons {x : Str} {c : Value} {ts : Suite} {b₀ : Stmt} {suite : List Stmt} {np pos' : Pos} {hds : List ExceptHandler} {l : List (Value × Option Nat × Suite)} (hc : Names X x c)
      (hsu : ∀ (a : Addr) (oe : Obj) (cls : Value) (d : Option Addr) (pn : List (Addr × Obj)), Zc cls d oe → (∃ vs, oe.data = .fields vs) → PSs (X.suite a ((a, oe) :: pn)) (b₀ :: suite) (ts a cls d)) (r : HdX X hds l) :
      HdX X (.ExceptHandler (some (.Name x np)) none (b₀ :: suite) pos' :: hds) ((c, none, ts) :: l)
  | named {x n : Str} {i : Nat} {c : Value} {ts : Suite} {b₀ : Stmt} {suite : List Stmt} {np pos' : Pos} {hds : List ExceptHandler} {l : List (Value × Option Nat × Suite)} (hc : Names X x c) (hN : X.N.Nodup) (hi : X.N[i]? = some n) (hln : X.env.kindOf n = some .local)
      (hsu : ∀ (a : Addr) (oe : Obj) (cls : Value) (d : Option Addr) (pn : List (Addr × Obj)), Zc cls d oe → (∃ vs, oe.data = .fields vs) → PSs (X.suite a ((a, oe) :: pn)) (b₀ :: suite) (ts a cls d)) (r : HdX X hds l) :
      HdX X (.ExceptHandler (some (.Name x np)) (some n) (b₀ :: suite) pos' :: hds) ((c, some i, ts) :: l)
section
variable {X : Cx} {body : List Stmt} {h₀ : ExceptHandler} {hds : List ExceptHandler} {l : List (Value × Option Nat × Suite)} {pos : Pos} {tb : WX → TS} {Wout : WX}
/-- an exception on the ground of this frame -/
structure Fell (X : Cx) (pins : List (Addr × Obj)) (a : Addr) (B : Heap) (sI : Shared) (σ : L2.St) (H : Hp) (cls : Value) (d : Option Addr) (s' : Shared) : Prop where
  J : Inv X pins σ H sI
  nb : ∀ b o, sI.heap.get? b = some o → b ∉ frs X.stack → B.get? b = some o
  na : H a = none
  up : sI.heap.UpToSlots s'.heap
  os : s'.os = sI.os
  ag : PyProof.Rows.AllBare s'.gens
  fl : HandSPX.FlyingZ B (X.env :: X.outer) a (Zc cls d) s'.heap
theorem Fell.on {pins : List (Addr × Obj)} {a : Addr} {B : Heap} {sI s' : Shared} {σ : L2.St} {H : Hp} {cls : Value} {d : Option Addr} {h' : Heap} (f : Fell X pins a B sI σ H cls d s') (fl : HandSPX.FlyingZ B (X.env :: X.outer) a (Zc cls d) h') (up : s'.heap.UpToSlots h') :
    Fell X pins a B sI σ H cls d { s' with heap := h' } := ⟨f.J, f.nb, f.na, f.up.trans up, f.os, f.ag, fl⟩
/-- the suite's context -/
theorem Fell.suite {pins : List (Addr × Obj)} {a : Addr} {B : Heap} {sI s' : Shared} {σ : L2.St} {H : Hp} {cls : Value} {d : Option Addr} (f : Fell X pins a B sI σ H cls d s') (hf : X.env.frame = some X.env.locals) :
    Inv X pins σ H s' ∧ ∃ (oe : Obj) (vs : Array Value), s'.heap.get? a = some oe ∧ Zc cls d oe ∧ oe.data = .fields vs ∧ Inv (X.suite a ((a, oe) :: (X.pn ++ pins))) [] σ H s' := by
  have J := f.J.landed f.nb f.fl.1 f.up f.os f.ag
  obtain ⟨oe, vs, he, hz, hd⟩ := f.fl.there
  have out : a ∉ frs (X.env :: X.outer) := fun m => by
    obtain ⟨_, o, e, n⟩ := f.fl.2.2.1.mem m
    rw [he] at e
    cases e
    exact n _ hd
  refine ⟨J, oe, vs, he, hz, hd, J.suite he hd f.na (fun z => out (List.mem_filterMap.mpr ⟨X.env, List.mem_cons_self, by rw [hf, z]⟩)) fun m => ?_⟩
  obtain ⟨e, h1, h2⟩ := List.mem_filterMap.mp m
  exact out (List.mem_filterMap.mpr ⟨e, List.mem_cons_of_mem _ h1, h2⟩)
theorem handle_mix {pins : List (Addr × Obj)} {a : Addr} {B : Heap} {sI s' : Shared} {σ : L2.St} {H : Hp} {cls : Value} {d : Option Addr} {D : Ends} (hs : X.stack = X.env :: X.outer) (hf : X.env.frame = some X.env.locals) (ok : X.Ok) (tk : Takes X Wout) (f : Fell X pins a B sI σ H cls d s') (hh : HdX X hds l) :
    wMix X.K Wout D l cls d σ H → wpAny (model X.prog X.w) X.A (handleBy (.ref a) X.env hds) (SP X pins D) X.xe s' := by
  obtain ⟨J3, oe3, vs3, he3, hz3, hd3, S3⟩ := f.suite hf
  have tyL : PySem.W.Looks (model X.prog X.w) s'.heap (typeOf (.ref a)) cls := fun A Q E s k q => wpAny_typeOf_ref (k _ _ he3) (by rw [hz3.1]; exact q)
  have known : ∀ {x : Str} {c : Value} {np : Pos} {Q : Value → Shared → Prop} {E : Value → Shared → Prop}, Names X x c → Q c s' → wpAny (model X.prog X.w) (X.A.mark (some (.ref a))) (eval (.Name x np) X.env) Q E s' := by
    intro x c np Q E hc q
    obtain ⟨hg, hdb, hm | ⟨hm, hv, hn⟩⟩ := hc
    · exact ld_glob (X := X.suite a ((a, oe3) :: (X.pn ++ pins))) S3 hg hm q hdb
    · exact ld_blt (X := X.suite a ((a, oe3) :: (X.pn ++ pins))) S3 hg hm hv q hn hdb
  induction hh with
  | nil =>
    intro w
    refine wpAny_handleBy_nil ?_
    obtain ⟨_, _, _, oe, vs, T, _, _, he, _, hd, h1, _⟩ := id f.fl
    unfold PySem.passOn
    refine wpAny_bind (wpAny_field he hd h1 ?_)
    rw [if_neg (show ¬ ((Value.ref T == Value.none) = true) from by simp)]
    have up : wpAny (model X.prog X.w) X.A (setFlight (.ref a) X.env.frame) (fun _ s4 => wpAny (model X.prog X.w) X.A (throw (.ref a) : Sem Flow) (SP X pins D) X.xe s4) X.xe s' := by
      rw [hf]
      exact HandSPX.setFlight_upZ f.fl fun h4 hh4 up4 => wpAny_throw (tk _ _ ⟨a, B, sI, pins, σ, H, cls, d, rfl, f.J, f.nb, f.up.trans up4, .inr (.inr (by rw [hs]; exact hh4)), f.na, f.os, f.ag, w⟩)
    first
      | exact wpAny_bind (wpAny_pure (wpAny_bind up))
      | exact wpAny_bind up
  | @cons x c ts b₀ suite np pos' hds2 l2 hc hsu r ih =>
    intro ⟨b, hb, yes, no⟩
    refine wpAny_handleBy_cons (codeAny_handlers_test (known hc ((PySem.W.exm_one (M := model X.prog X.w) J3.kIn tyL hb).here ?_))) (by intro q; cases q)
    cases b with
    | false => exact ih (no rfl)
    | true =>
      refine codeAny_handlers_suite (HandSPX.lands_againZ f.fl fun h4 fl4 up4 => ?_)
      obtain ⟨_, oe4, vs4, _, hz4, hd4, S4⟩ := (f.on fl4 up4).suite hf
      refine wpAny_mono ((hsu a oe4 cls d (X.pn ++ pins) hz4 ⟨_, hd4⟩).run [] _ σ H _ S4 (yes rfl a f.na)) (fun fl s6 z => ?_) fun _ _ z => z.elim
      match fl, z with
      | .next, ⟨_, _, S6, q⟩ => exact ⟨_, _, S6.unsuite ok, q⟩
      | .brk, ⟨_, _, S6, q⟩ => exact ⟨_, _, S6.unsuite ok, q⟩
      | .cont, ⟨_, _, S6, q⟩ => exact ⟨_, _, S6.unsuite ok, q⟩
      | .ret _, ⟨_, _, _, S6, r6, q⟩ => exact ⟨_, _, _, S6.unsuite ok, r6, q⟩
  | @named x n i c ts b₀ suite np pos' hds2 l2 hc hN hi hln hsu r ih =>
    intro ⟨b, hb, yes, no⟩
    refine wpAny_handleBy_cons (codeAny_handlers_test (known hc ((PySem.W.exm_one (M := model X.prog X.w) J3.kIn tyL hb).here ?_))) (by intro q; cases q)
    cases b with
    | false => exact ih (no rfl)
    | true =>
      refine codeAny_handlers_suite_as (HandSPX.lands_againZ f.fl fun h4 fl4 up4 => ?_)
      obtain ⟨_, oe4, vs4, _, hz4, hd4, S4⟩ := (f.on fl4 up4).suite hf
      refine store_ok (X := X.suite a ((a, oe4) :: (X.pn ++ pins))) (v := .ref a) S4 hN hi (.inl hln) rfl (fun s5 S5 => ?_) (.inr hln)
      refine wpAny_mono ((hsu a oe4 cls d (X.pn ++ pins) hz4 ⟨_, hd4⟩).run [] s5 _ H _ S5 (yes rfl a f.na)) (fun fl s6 z => ?_) fun _ _ z => z.elim
      match fl, z with
      | .next, ⟨_, _, S6, q⟩ => exact gone_ok (S6.unsuite ok) hN hi hln fun s7 J7 => ⟨_, _, J7, q⟩
      | .brk, ⟨_, _, S6, q⟩ => exact gone_ok (S6.unsuite ok) hN hi hln fun s7 J7 => ⟨_, _, J7, q⟩
      | .cont, ⟨_, _, S6, q⟩ => exact gone_ok (S6.unsuite ok) hN hi hln fun s7 J7 => ⟨_, _, J7, q⟩
      | .ret _, ⟨_, _, _, S6, r6, q⟩ => exact gone_ok (S6.unsuite ok) hN hi hln fun s7 J7 => ⟨_, _, _, J7, r6, q⟩
theorem ps_try_mix (hs : X.stack = X.env :: X.outer) (hf : X.env.frame = some X.env.locals) (tk : Takes X Wout)
    (hb : ∀ (W : WX) (pn : List (Addr × Obj)) (xe : Value → Shared → Prop), Takes (X.tr pn xe) W → PassesOwn (model X.prog X.w) X.A X.env xe → PSs (X.tr pn xe) body (tb W)) (hh : HdX X (h₀ :: hds) l) : PS X (.Try body (h₀ :: hds) [] [] pos) (fun D σ H => tb (wMix X.K Wout D l) D σ H) := by
  refine ⟨fun pins s σ H D I h => ?_⟩
  have ok := I.ok
  have hfr : X.A.frames = some (X.env :: X.outer) := by rw [ok.frames, hs]
  refine wpAny_Try_except (wpAny_mono ((hb (wMix X.K Wout D l) (X.pn ++ pins) (fun e s₁ => wpAny (model X.prog X.w) X.A (noteFrame e X.env) (fun _ s₂ => wpAny (model X.prog X.w) X.A (setFlight e none) (fun _ s₃ =>
    wpAny (model X.prog X.w) X.A (handleBy e X.env (h₀ :: hds)) (SP X pins D) X.xe s₃) X.xe s₂) X.xe s₁) (fun u s' ⟨a, B, sI, pins', σ', H', cls, d, e, J', nb, up, sky, na, os, ag, w⟩ => ?_) PassesOwn.looking).run [] s σ H D (I.toTry _) h) (fun f s1 z => ?_) fun e s1 z => z)
  · subst e
    exact Sky.land (Z := Zc cls d) (a := a) (L := X.env.locals) Zc.steady hfr hf (by rw [← hs]; exact sky) fun h3 fl3 up3 => handle_mix hs hf ok tk ⟨J'.ofTry ok, nb, na, up.trans up3, os, ag, fl3⟩ hh w
  · match f, z with
    | .next, ⟨_, _, J', q⟩ => exact wpAny_execs_nil ⟨_, _, J'.ofTry ok, q⟩
    | .brk, ⟨_, _, J', q⟩ => exact ⟨_, _, J'.ofTry ok, q⟩
    | .cont, ⟨_, _, J', q⟩ => exact ⟨_, _, J'.ofTry ok, q⟩
    | .ret _, ⟨_, _, _, J', r, q⟩ => exact ⟨_, _, _, J'.ofTry ok, r, q⟩
end
end B

set_option Elab.async false
set_option linter.all false
set_option maxRecDepth 100000
set_option maxHeartbeats 4000000
namespace B
open PySem PySem.Spec L2
/-! ## raise -/
abbrev veTail : List Value := [.type "ValueError", .type "Exception", .type "BaseException", .type "object"]
/-- what the written part says of an exception's class without an __init__ of the program -/
structure XCls (K : PySem.W.Frag) (mg : Str → Option Value) (c : Str) : Prop where
  ex : ∃ C : Addr, mg c = some (.ref C) ∧ PySem.W.excIn K C veTail "ValueError.__new__" = true ∧ PySem.W.keepIn K (.ref C) = true ∧ PySem.W.subIn K (.ref C) (.type "BaseException") = some true ∧ PySem.W.typeIn K (.ref C) = some (.type "type")
def mRaise0 (c : Str) : M Fl := fun β => .exc ⟨c, []⟩ β
section
variable {X : Cx} {x : Str} {p p2 pos pos' : Pos}
theorem bs_raise0 {m : Str} {j : Nat} (Z : XCls X.K X.mg x) (hc : X.calm = true) (hg : Gl X x := by rfl) (hdb : (x == ("__debug__" : Str)) = false := by decide) :
    BS X (.Raise (some (.Call (.Name x p) [.Constant (.str m) j p2] [] pos)) none pos') (mRaise0 x) := by
  obtain ⟨C, gC, xC, kC, bC, tC⟩ := Z.ex
  exact fun W tk => (ps_raise hc tk (pmk_own PySem.F.excBase_ValueError xC gC kC (raises_own bC tC) hg hdb)).imp fun D σ H ⟨G, io, F, β, I, h⟩ => h σ (.ref C) none H F .refl I ⟨gC, .inl ⟨rfl, rfl⟩⟩
/-! with an __init__ that calls the base's and stores one field -/
/-- RuleError.__init__(self, ..): the base's, found through an own class -/
structure ReC (K : PySem.W.Frag) (mg : Str → Option Value) (c : Str) : Prop where
  ex : ∃ C : Addr, mg c = some (.ref C) ∧ PySem.W.readsIn K C (.type "type") = true ∧ PySem.W.specialIn K (.ref C) "__getattribute__" = some (some (.builtin "type.__getattribute__")) ∧ PySem.W.findCls K (.ref C) (.type "type") "__init__" = some (.val (.builtin "ValueError.__init__"))
theorem pe_reinit {e : Expr} {es : List Expr} {ta : TA} {p1 : Pos} (Z : ReC X.K X.mg x) (ha : PA X (e :: es) ta) (hg : Gl X x := by rfl) (hdb : (x == ("__debug__" : Str)) = false := by decide) {pl : Sem Bool}
    (hc : eval (.Call (.Attribute (.Name x p1) "__init__" p2) (e :: es) [] pos) X.env = (do
      let ov ← eval (.Name x p1) X.env
      standAt p2.atName
      let (f, first) ← holding [ov] (getMethod ov "__init__" pl)
      callWith pos f first (backTo pos (starEach (e :: es) X.env)) (backToKw pos (keywordEach [] X.env))) := by rfl)
    (he : starEach (e :: es) X.env = (false, eval e X.env) :: starEach es X.env := by rfl) (hpl : (backTo pos (starEach es X.env)).any (·.1) = false := by rfl) :
    PE X (.Call (.Attribute (.Name x p1) "__init__" p2) (e :: es) [] pos) (tVeI X.K ta) := by
  obtain ⟨C0, gC, rd, ga, vV⟩ := Z.ex
  refine ⟨fun pins s σ H Q I h => PySem.W.methodCall_KW (ld_glob I hg gC ?_ hdb) hc⟩
  refine PySem.W.method_cls I.kIn ga (PySem.W.cls_value I.kIn rd vV (by decide +kernel) ?_)
  show wpAny _ _ (callWith pos (Value.builtin "ValueError.__init__") [] (backTo pos (starEach (e :: es) X.env)) []) _ _ _
  refine PyProof.Rows.callWith_method1 (thn (ha.run pos pins _ σ H _ (I.tok _) h) fun us s1 ⟨vs, H1, I1, r1, a, C, ws, ev, hl, T, ea, q⟩ => ?_) he hpl
  subst ev
  cases r1 with
  | @cons _ u0 _ ur ra rw' =>
    cases (show u0 = Value.ref a from ra)
    exact oinit_ok T I1 ea (by rw [← Paired.length rw', sizeLine_eq]; omega) fun s' J => ⟨.non, H1, J, rfl, q⟩
/-- the promise of such an __init__, the field f -/
def spXI (K : PySem.W.Frag) (f : Str) : Sp := fun vs H Q E => ∃ a C y, vs = [.ref a, y] ∧ OexC K C ∧ H a = some (exo a C none) ∧ PySem.W.findIn K (.ref C) f = some none ∧
  ∀ dx, H dx = none → dx ≠ a → Q .non (upd (upd H dx (exd dx [(f, y)])) a (exo a C (some dx)))
/-- what the written part says of an exception's class with such an __init__ -/
structure XClsI (K : PySem.W.Frag) (mg : Str → Option Value) (c f : Str) (st : Stmt) (qual : Str) : Prop where
  ex : ∃ (C fI : Addr) (fd : FuncData), mg c = some (.ref C) ∧ OexC K C ∧ PySem.W.findIn K (.ref C) "__init__" = some (some (.ref fI)) ∧ PySem.W.typeIn K (.ref fI) = some (.type "function") ∧ L2.Fun K "__init__" qual st fI fd ∧ Binds K fd ["self", f] ([] : List Value) ∧ PySem.W.findIn K (.ref C) f = some none
def OkXI (P : Program) (w : World) (K : PySem.W.Frag) (mg : Str → Option Value) (base : Heap) (c f : Str) : Prop :=
  ∃ (C fI : Addr) (fd : FuncData), mg c = some (.ref C) ∧ OexC K C ∧ PySem.W.findIn K (.ref C) "__init__" = some (some (.ref fI)) ∧ PySem.W.typeIn K (.ref fI) = some (.type "function") ∧ Binds K fd ["self", f] ([] : List Value) ∧ PySem.W.findIn K (.ref C) f = some none ∧
    FnOk P w K mg base CX0 1 fI fd ["self", f] (spXI K f)
end
def tXI (K : PySem.W.Frag) (f tm : Str) : TS := fun D σ H => tVeI K (tCons (tVar 0) (tCons (tC (.str tm)) tNil)) σ H fun _ H1 => tOst K f (tVar 0) (tVar 1) D σ H1
theorem okXI_of {P : Program} {w : World} {K : PySem.W.Frag} {mg : Str → Option Value} {base : Heap} {c f qual tm : Str} {st : Stmt} (Z : XClsI K mg c f st qual) (S : FnScope ["self", f] ["self", f] (defScope st))
    (hb : ∀ (fI : Addr) (cdv : Value) (A : Around) (outer : List PySem.Env) (s : Shared) (H : Hp) (E : XK), PSs (cxOf CX0 P w K mg base ["self", f] qual (defScope st) fI cdv A outer s H E).nox (defBody st) (tXI K f tm)) : OkXI P w K mg base c f := by
  obtain ⟨C, fI, fd, gC, O, iC, tI, F, hbi, nf⟩ := Z.ex
  refine ⟨C, fI, fd, gC, O, iC, tI, hbi, nf, F.ok S (fun vs H Q E h => by obtain ⟨a, C, y, rfl, _⟩ := h; rfl) fun cdv A outer s H vs Q E hr hsp => ?_⟩
  obtain ⟨a, C', y, rfl, O', ea, nf', q⟩ := hsp
  refine ⟨_, hb fI cdv A outer s H E, ?_⟩
  refine ⟨_, rfl, a, C', [.str tm], rfl, by simp, O', ea, ?_⟩
  exact ⟨_, rfl, _, rfl, a, C', rfl, O', nf', .inl ⟨ea, fun dx h1 h2 => q dx h1 h2⟩⟩
section
variable {X : Cx} {x : Str} {p p2 pos pos' : Pos}
/-- raise C(e), C with such an __init__ -/
def mRaiseI (c f : Str) (ma : M Pl) : M Fl := bnd ma fun q => fun β => match q with
  | .d d => .exc ⟨c, [(f, d)]⟩ β
  | _ => .stuck
theorem bs_raiseI {e : Expr} {f : Str} {k : Nat} {ma : M Pl} (O : OkXI X.prog X.w X.K X.mg X.base x f) (hr : RoomG (k + 2) X.A) (hc : X.calm = true) (ha : BP X e ma) (hg : Gl X x := by rfl) (hdb : (x == ("__debug__" : Str)) = false := by decide)
    (he : starEach [e] X.env = (false, eval e X.env) :: starEach [] X.env := by rfl) (hpl : (backTo pos (starEach ([] : List Expr) X.env)).any (·.1) = false := by rfl) :
    BS X (.Raise (some (.Call (.Name x p) [e] [] pos)) none pos') (mRaiseI x f ma) := by
  obtain ⟨C, fI, fd, gC, O, iC, tI, hb, nf, Fn⟩ := O
  refine fun W tk => (ps_raise hc tk (pmk_oex (ds := []) (dvs := []) O iC tI Fn (hr.r.mono (by omega)) hb .nil pass0 hg gC (pa_cons (ha W tk) pa_nil he) hdb he hpl)).imp fun D σ H ⟨G, io, F, β, I, h⟩ => ?_
  refine ⟨G, io, F, β, I, h.of fun q β1 v H1 F1 fe1 I1 r1 h1 => ?_⟩
  refine ⟨by simp, fun a na => ⟨a, C, v, rfl, O, upd_same, nf, fun dx nd nda => ⟨rfl, dx, [(f, v)], upd_same, ?_, ?_, ?_⟩⟩⟩
  · rw [upd_ne nda, upd_same]
  · rwa [upd_ne nda] at nd
  · have eH : upd (del (upd (upd (upd H1 a (exo a C none)) dx (exd dx [(f, v)])) a (exo a C (some dx))) a) dx (.xd [(f, v)]) = upd H1 dx (.xd [(f, v)]) := by
      funext b
      by_cases h1 : b = dx
      · rw [h1, upd_same, upd_same]
      · rw [upd_ne h1, upd_ne h1]
        by_cases h2 : b = a
        · rw [h2, del_same, na]
        · rw [del_ne h2, upd_ne h2, upd_ne h1, upd_ne h2]
    rw [eH]
    have nd1 : H1 dx = none := by rwa [upd_ne nda] at nd
    cases q with
    | sl i => exact h1.elim
    | d d =>
      have sm : Same F1 (upd F1 dx (.xd [(f, v)])) := fun b u h => by
        rw [upd_ne (ne_of_none h (Same.free I1.sf nd1))]
        exact h
      obtain ⟨fe2, I2⟩ := I1.grow (H' := upd H1 dx (.xd [(f, v)])) (F' := upd F1 dx (.xd [(f, v)])) (fun b u h => by rw [upd_ne (ne_of_none h nd1)]; exact h) sm (fun b u h => by
        by_cases hb : b = dx
        · subst hb
          exact .inr nd1
        · rw [upd_ne hb] at h
          exact .inl h) (fun b u h => by
        by_cases hb : b = dx
        · subst hb
          rw [upd_same] at h ⊢
          exact h
        · rw [upd_ne hb] at h ⊢
          exact I1.sf _ _ h)
      exact h1 σ (.ref C) (some dx) _ _ fe2 I2 ⟨gC, .inr ⟨dx, [(f, v)], [d], rfl, upd_same, rfl, .cons (DR.mono sm r1) .nil, rfl⟩⟩
end
/-! ## try -/
def unSl (i : Option Nat) (β : B.Env) : B.Env := match i with
  | none => β
  | some i => β.set i .un
def exSl (i : Option Nat) (z : Ez) (β : B.Env) : B.Env := match i with
  | none => β
  | some i => β.set i (.ex z)
def suiteR (i : Option Nat) : R Fl → R Fl
  | .ok f β => .ok f (unSl i β)
  | _ => .stuck
abbrev Su := Addr → Value → Option Addr → M Fl
open Classical in
/-- a suite's run, the same wherever the exception is -/
noncomputable def exRun (f : Addr → Value → Option Addr → R Fl) : R Fl := if ∀ a c d, f a c d = f 0 .none none then f 0 .none none else .stuck
/-- a clause: which classes it takes, its name's slot, its suite -/
structure Hd where
  t : Str → Option Bool
  i : Option Nat
  m : Su
noncomputable def handleB : List Hd → Exn → M Fl
  | [], x => fun β => .exc x β
  | h :: r, x => fun β => match h.t x.cls with
    | some true => exRun fun a c d => suiteR h.i (h.m a c d (exSl h.i (ez a c d x) β))
    | some false => handleB r x β
    | none => .stuck
noncomputable def mTry (mb : M Fl) (hs : List Hd) : M Fl := fun β => match mb β with
  | .exc x β' => handleB hs x β'
  | r => r
theorem BI.setEx {K : PySem.W.Frag} {mg : Str → Option Value} {G : GT} {F H : Hp} {io : List Addr} {β : B.Env} {σ : L2.St} {z : Ez} (I : BI K mg G F io β σ H) (h : XZ K mg F z) (i : Nat) :
    BI K mg G F io (β.set i (.ex z)) (σ.set i (some (.ref z.a))) H := by
  have hl := I.len
  have nh : ∀ {l : Nat} {u : Sl}, (β.set i (.ex z))[l]? = some u → isOwn u = true → i ≠ l ∧ β[l]? = some u := fun {l u} e h => by
    by_cases hl : i = l
    · subst hl
      by_cases hi : i < β.length
      · rw [List.getElem?_set_self hi] at e
        cases e
        cases h
      · rw [List.getElem?_eq_none (by rw [List.length_set]; omega)] at e
        cases e
    · rw [List.getElem?_set_ne hl] at e
      exact ⟨hl, e⟩
  refine ⟨I.sg, I.sf, I.ioF, I.ioH, by rw [List.length_set, List.length_set]; exact hl, fun j s ej => ?_, fun j k s t b ej ek hj hk zj zk => ?_⟩
  · by_cases hj : i = j
    · subst hj
      by_cases hi : i < β.length
      · rw [List.getElem?_set_self hi] at ej
        cases ej
        exact ⟨_, List.getElem?_set_self (by omega), rfl, h⟩
      · rw [List.getElem?_eq_none (by rw [List.length_set]; omega)] at ej
        cases ej
    · rw [List.getElem?_set_ne hj] at ej
      rw [List.getElem?_set_ne hj]
      exact I.sl j s ej
  · obtain ⟨n1, e1⟩ := nh ej hj
    obtain ⟨n2, e2⟩ := nh ek hk
    rw [List.getElem?_set_ne n1] at zj
    rw [List.getElem?_set_ne n2] at zk
    exact I.apart j k s t b e1 e2 hj hk zj zk
/-- a slot let go, in the state too -/
theorem BI.gone {K : PySem.W.Frag} {mg : Str → Option Value} {G : GT} {F H : Hp} {io : List Addr} {β : B.Env} {σ : L2.St} (I : BI K mg G F io β σ H) (i : Nat) : BI K mg G F io (β.set i .un) (σ.set i none) H := by
  have J := I.unset i
  have nh : ∀ {l : Nat} {u : Sl}, (β.set i .un)[l]? = some u → isOwn u = true → i ≠ l := fun {l u} e h hl => by
    subst hl
    by_cases hi : i < β.length
    · rw [List.getElem?_set_self hi] at e
      cases e
      cases h
    · rw [List.getElem?_eq_none (by rw [List.length_set]; omega)] at e
      cases e
  refine ⟨J.sg, J.sf, J.ioF, J.ioH, by rw [List.length_set, List.length_set]; exact I.len, fun j s ej => ?_, fun j k s t b ej ek hj hk zj zk => ?_⟩
  · by_cases hj : i = j
    · subst hj
      obtain ⟨o, eo, _⟩ := J.sl i s ej
      have hi : i < β.length := by
        have := (List.getElem?_eq_some_iff.mp ej).1
        rwa [List.length_set] at this
      rw [List.getElem?_set_self hi] at ej
      cases ej
      exact ⟨none, List.getElem?_set_self (by rw [← I.len]; exact hi), trivial⟩
    · rw [List.getElem?_set_ne hj]
      exact J.sl j s ej
  · rw [List.getElem?_set_ne (nh ej hj)] at zj
    rw [List.getElem?_set_ne (nh ek hk)] at zk
    exact J.apart j k s t b ej ek hj hk zj zk
/-- the clauses -/
inductive HdB (X : Cx) : List ExceptHandler → List Hd → Prop
  | nil : HdB X [] []
  | cons {x : Str} {c : Value} {h : Hd} {b₀ : Stmt} {suite : List Stmt} {np pos' : Pos} {hds : List ExceptHandler} {l : List Hd} (hi : h.i = none) (hc : Names X x c) (ht : ∀ nm cls b, h.t nm = some b → X.mg nm = some cls → PySem.W.exmOne X.K cls c = some b)
      (hsu : ∀ (a : Addr) (oe : Obj) (cls : Value) (d : Option Addr) (pn : List (Addr × Obj)), Zc cls d oe → (∃ vs, oe.data = .fields vs) → BSs (X.suite a ((a, oe) :: pn)) (b₀ :: suite) (h.m a cls d)) (r : HdB X hds l) :
      HdB X (.ExceptHandler (some (.Name x np)) none (b₀ :: suite) pos' :: hds) (h :: l)
  | named {x n : Str} {i : Nat} {c : Value} {h : Hd} {b₀ : Stmt} {suite : List Stmt} {np pos' : Pos} {hds : List ExceptHandler} {l : List Hd} (hi : h.i = some i) (hc : Names X x c) (ht : ∀ nm cls b, h.t nm = some b → X.mg nm = some cls → PySem.W.exmOne X.K cls c = some b)
      (hN : X.N.Nodup) (hn : X.N[i]? = some n) (hln : X.env.kindOf n = some .local)
      (hsu : ∀ (a : Addr) (oe : Obj) (cls : Value) (d : Option Addr) (pn : List (Addr × Obj)), Zc cls d oe → (∃ vs, oe.data = .fields vs) → BSs (X.suite a ((a, oe) :: pn)) (b₀ :: suite) (h.m a cls d)) (r : HdB X hds l) :
      HdB X (.ExceptHandler (some (.Name x np)) (some n) (b₀ :: suite) pos' :: hds) (h :: l)
abbrev noW : WX := fun _ _ _ _ => False
theorem takes_no {X : Cx} {a : Addr} {pn : List (Addr × Obj)} : Takes (X.suite a pn) noW := fun u s' ⟨_, _, _, _, _, _, _, _, _, _, _, _, _, _, _, _, w⟩ => w
section
variable {X : Cx}
theorem suite_post {G : GT} {F1 H1 : Hp} {io : List Addr} {β : B.Env} {σ : L2.St} {a : Addr} {cls : Value} {d : Option Addr} {D : Ends} {x : Exn} {W : WX} {h : Hd} (I : BI X.K X.mg G F1 io β σ H1) (hx : XR X.K X.mg F1 cls d x)
    (hp : SPost X.K X.mg W G F1 io (exRun fun a c d => suiteR h.i (h.m a c d (exSl h.i (ez a c d x) β))) D) : sOf X.K X.mg noW (h.m a cls d) (endsBut h.i D) (nameIn h.i a σ) H1 := by
  unfold exRun at hp
  split at hp
  · rename_i al
    rw [← al a cls d] at hp
    have hp : SPost X.K X.mg W G F1 io (suiteR h.i (h.m a cls d (exSl h.i (ez a cls d x) β))) D := hp
    refine ⟨G, io, F1, exSl h.i (ez a cls d x) β, ?_, ?_⟩
    · cases h.i with
      | none => exact I
      | some i => exact I.setEx (z := ez a cls d x) (.ez hx) i
    · cases e : h.m a cls d (exSl h.i (ez a cls d x) β) with
      | stuck => rw [e] at hp; exact hp.elim
      | exc y β2 => rw [e] at hp; exact hp.elim
      | ok f β2 =>
        rw [e] at hp
        intro σ2 H2 F2 fe2 I2
        cases hi : h.i with
        | none =>
          have hp : SPost X.K X.mg W G F1 io (.ok f (unSl h.i β2)) D := hp
          rw [hi] at hp
          have := hp σ2 H2 F2 fe2 I2
          cases f <;> exact this
        | some i =>
          have hp : SPost X.K X.mg W G F1 io (.ok f (unSl h.i β2)) D := hp
          rw [hi] at hp
          cases f with
          | nx => exact hp (σ2.set i none) H2 F2 fe2 (I2.gone i)
          | brk => exact hp (σ2.set i none) H2 F2 fe2 (I2.gone i)
          | ct => exact hp (σ2.set i none) H2 F2 fe2 (I2.gone i)
          | ret r =>
            intro v rr
            refine hp σ2 H2 F2 fe2 (I2.unset i) v ?_
            cases r with
            | fz d => exact rr
            | own d =>
              obtain ⟨b, rfl, h1, h2, h3, h4, h5⟩ := rr
              refine ⟨b, rfl, h1, h2, h3, h4, fun j s ej hs => ?_⟩
              by_cases hj : i = j
              · subst hj
                have ej' : (β2.set i .un)[i]? = some s := ej
                have hlt := (List.getElem?_eq_some_iff.mp ej').1
                rw [List.length_set] at hlt
                rw [List.getElem?_set_self hlt] at ej'
                cases ej'
                cases hs
              · have ej' : (β2.set i .un)[j]? = some s := ej
                rw [List.getElem?_set_ne hj] at ej'
                exact h5 j s ej' hs
  · exact hp.elim
theorem handle_post {G : GT} {io : List Addr} {W : WX} {D : Ends} {hds : List ExceptHandler} {hs : List Hd} (hh : HdB X hds hs) : ∃ l, HdX X hds l ∧ ∀ (F1 H1 : Hp) (β : B.Env) (σ : L2.St) (cls : Value) (d : Option Addr) (x : Exn), BI X.K X.mg G F1 io β σ H1 → XR X.K X.mg F1 cls d x →
    SPost X.K X.mg W G F1 io (handleB hs x β) D → wMix X.K W D l cls d σ H1 := by
  induction hh with
  | nil => exact ⟨[], .nil, fun F1 H1 β σ cls d x I hx hp => hp σ cls d H1 F1 .refl I hx⟩
  | @cons x c h b₀ suite np pos' hds l hi hc ht hsu r ih =>
    obtain ⟨l', hl, k⟩ := ih
    refine ⟨(c, none, fun a cls d => sOf X.K X.mg noW (h.m a cls d)) :: l', .cons hc (fun a oe cls d pn z f => hsu a oe cls d pn z f noW takes_no) hl, fun F1 H1 β σ cls d y I hx hp => ?_⟩
    unfold handleB at hp
    cases e : h.t y.cls with
    | none => rw [e] at hp; exact hp.elim
    | some b =>
      rw [e] at hp
      refine ⟨b, ht _ _ _ e hx.1, fun eb a na => ?_, fun eb => ?_⟩
      · subst eb
        have := suite_post (a := a) (h := h) I hx hp
        rwa [hi] at this
      · subst eb
        exact k F1 H1 β σ cls d y I hx hp
  | @named x n i c h b₀ suite np pos' hds l hi hc ht hN hn hln hsu r ih =>
    obtain ⟨l', hl, k⟩ := ih
    refine ⟨(c, some i, fun a cls d => sOf X.K X.mg noW (h.m a cls d)) :: l', .named hc hN hn hln (fun a oe cls d pn z f => hsu a oe cls d pn z f noW takes_no) hl, fun F1 H1 β σ cls d y I hx hp => ?_⟩
    unfold handleB at hp
    cases e : h.t y.cls with
    | none => rw [e] at hp; exact hp.elim
    | some b =>
      rw [e] at hp
      refine ⟨b, ht _ _ _ e hx.1, fun eb a na => ?_, fun eb => ?_⟩
      · subst eb
        have := suite_post (a := a) (h := h) I hx hp
        rwa [hi] at this
      · subst eb
        exact k F1 H1 β σ cls d y I hx hp
variable {body : List Stmt} {h₀ : ExceptHandler} {hds : List ExceptHandler} {hs : List Hd} {pos : Pos} {mb : M Fl}
theorem bs_try (hs0 : X.stack = X.env :: X.outer) (hf : X.env.frame = some X.env.locals) (hb : ∀ (pn : List (Addr × Obj)) (xe : Value → Shared → Prop), PassesOwn (model X.prog X.w) X.A X.env xe → BSs (X.tr pn xe) body mb) (hh : HdB X (h₀ :: hds) hs) :
    BS X (.Try body (h₀ :: hds) [] [] pos) (mTry mb hs) := by
  refine fun W tk => ⟨fun pins s σ H D I ⟨G, io, F, β, J, h⟩ => ?_⟩
  obtain ⟨l, hl, k⟩ := handle_post (G := G) (io := io) (W := W) (D := D) hh
  refine (ps_try_mix (tb := fun W => sOf X.K X.mg W mb) hs0 hf tk (fun W pn xe tk p => hb pn xe p W tk) hl).run pins s σ H D I ⟨G, io, F, β, J, ?_⟩
  unfold mTry at h
  cases e : mb β with
  | stuck => rw [e] at h; exact h.elim
  | ok f β1 => rw [e] at h; exact h
  | exc x β1 =>
    rw [e] at h
    exact fun σ1 cls d H1 F1 fe I1 hx => k F1 H1 β1 σ1 cls d x I1 hx (h.mono fe)
end
/-! ## in a suite -/
/-- what the written part says of an exception's class, so that isinstance answers -/
structure XIs (K : PySem.W.Frag) (mg : Str → Option Value) (c : Str) : Prop where
  ex : ∃ C : Addr, mg c = some (.ref C) ∧ (PySem.W.clsIn K C).isSome = true ∧ PySem.W.findIn K (.ref C) "__getattribute__" = some (some (.builtin "BaseException.__getattribute__")) ∧ PySem.W.findIn K (.ref C) "__getattr__" = some none ∧
    PySem.W.subIn K (.ref C) (.type "BaseException") = some true ∧ PySem.W.findIn K (.ref C) "__class__" = some (some (.builtin "object.__class__")) ∧ PySem.W.hasDictIn K C = true ∧ PySem.W.mroIn K C (.type "object") = some true
structure XObj (K : PySem.W.Frag) : Prop where
  hn : PySem.W.specialIn K (.builtin "object.__class__") "__get__" = some (some (.builtin "getset_descriptor.__get__"))
  ht : PySem.W.takesIn K (.builtin "object.__class__") = some true
/-- isinstance(e, T), e the exception that the suite holds -/
def rIsX (K : PySem.W.Frag) (cls : Value) (d : Option Addr) (a : Addr) : List V → Hp → VK → Prop := fun xs H Q => ∃ (c : V) (cv : Value) (b : Bool), xs = [.ref a, c] ∧ (∀ u, RelV c u → u = cv) ∧ PySem.W.kitOne K cls cv = some b ∧ (∀ dd, d = some dd → ∃ fs, H dd = some (.xd fs)) ∧ Q (.bl b) H
def rIsXT (K : PySem.W.Frag) (cls : Value) (d : Option Addr) (a : Addr) : List V → Hp → VK → Prop := fun xs H Q => ∃ (tp : Addr) (cs : List V) (us : List Value) (b : Bool), xs = [.ref a, .ref tp] ∧ H tp = some (.tup cs) ∧ Paired ClsV cs us ∧ PySem.W.kitAny K cls us = some b ∧ (∀ dd, d = some dd → ∃ fs, H dd = some (.xd fs)) ∧ Q (.bl b) H
theorem findObj_dataX {K : PySem.W.Frag} {C : Addr} {name : Str} {a g : Value} {od : Option Obj} {ns : Option Addr} (hc : (PySem.W.clsIn K C).isSome = true) (ha : PySem.W.findIn K (.ref C) name = some (some a)) (hg : PySem.W.specialIn K a "__get__" = some (some g)) (ht : PySem.W.takesIn K a = some true) : PySem.W.findObj K C od name = some (.bind g a) := by
  cases od with
  | none => exact PySem.W.findObj_dataN hc ha hg ht
  | some o => exact PySem.W.findObj_data hc ha hg ht
section
variable {X : Cx} {a : Addr} {oe : Obj} {pn : List (Addr × Obj)} {cls : Value} {d : Option Addr} {c : Str}
theorem inst_suite {pins : List (Addr × Obj)} {σ : L2.St} {H : Hp} {s : Shared} {C : Addr} (hz : Zc (.ref C) d oe) (hf : ∃ vs, oe.data = .fields vs) (I : Inv (X.suite a ((a, oe) :: pn)) pins σ H s) (hd : ∀ dd, d = some dd → ∃ fs, H dd = some (.xd fs)) : ∃ od, PySem.W.InstAt s.heap a oe C od := by
  obtain ⟨hget, _⟩ := I.pin (a, oe) (List.mem_append.mpr (.inl List.mem_cons_self))
  obtain ⟨vs, hv⟩ := hf
  obtain ⟨oc, odd, oda, osl⟩ := oe
  obtain ⟨h1, h2⟩ := hz
  dsimp only at h1 h2 hv
  subst h1 h2 hv
  cases odd with
  | none => exact ⟨none, hget, rfl, rfl, trivial⟩
  | some dd =>
    obtain ⟨fs, e⟩ := hd dd rfl
    obtain ⟨mA, ⟨o, es, ep, ho, _⟩, _⟩ := (show ObjOk X.prog X.w H s.heap dd (.xd fs) from I.hok dd _ e)
    exact ⟨some o, hget, rfl, rfl, ho⟩
theorem call_isX (Z : XIs X.K X.mg c) (O : XObj X.K) (hm : X.mg c = some cls) (hz : Zc cls d oe) (hf : ∃ vs, oe.data = .fields vs) : CallR (X.suite a ((a, oe) :: pn)) (.builtin "isinstance") (rIsX X.K cls d a) := by
  intro pins s σ H xs us Q I r h
  obtain ⟨C, gC, cl, h1, h2, h3, h4, h5, h6⟩ := Z.ex
  cases gC.symm.trans hm
  obtain ⟨k, cv, b, rfl, hcv, e, hd, q⟩ := h
  obtain ⟨u1, u2, rfl, r1, r2⟩ := vals2 r
  cases (show u1 = Value.ref a from r1)
  cases hcv _ r2
  obtain ⟨od, J⟩ := inst_suite hz hf I hd
  exact PySem.W.kia_one (PySem.W.kitx_exc cl h1 h2 h3 h4 O.hn O.ht h6) I.kIn J e (fun z => nomatch z) fun tk => ⟨.bl b, H, I.tok tk, rfl, q⟩
theorem call_isXT (Z : XIs X.K X.mg c) (O : XObj X.K) (hm : X.mg c = some cls) (hz : Zc cls d oe) (hf : ∃ vs, oe.data = .fields vs) : CallR (X.suite a ((a, oe) :: pn)) (.builtin "isinstance") (rIsXT X.K cls d a) := by
  intro pins s σ H xs us Q I r h
  obtain ⟨C, gC, cl, h1, h2, h3, h4, h5, h6⟩ := Z.ex
  cases gC.symm.trans hm
  obtain ⟨tp, cs, ws, b, rfl, hT, k, e, hd, q⟩ := h
  obtain ⟨u1, u2, rfl, r1, r2⟩ := vals2 r
  cases (show u1 = Value.ref a from r1)
  cases (show u2 = Value.ref tp from r2)
  obtain ⟨od, J⟩ := inst_suite hz hf I hd
  obtain ⟨_, its, rv, o, h1', h2', n, h3'⟩ := (show ObjOk X.prog X.w H s.heap tp (.tup cs) from I.hok tp _ hT)
  cases ClsV.all k rv
  obtain ⟨oc, od', dt, sl⟩ := o
  simp only at h2' h3'
  subst h2' h3'
  exact PySem.W.kia_tup (PySem.W.kitx_exc cl h1 h2 h3 h4 O.hn O.ht h6) I.kIn J h1' e (fun z => nomatch z) fun tk => ⟨.bl b, H, I.tok tk, rfl, q⟩
open Classical in
/-- isinstance(e, T), in the suite: by a table -/
noncomputable def mIsE (i : Nat) (tab : Str → Option Bool) (a : Addr) (cls : Value) (d : Option Addr) : M Rs := fun β => match β[i]? with
  | some (.ex z) => if z.a = a ∧ z.cls = cls ∧ z.dd = d then (match tab z.x.cls with
    | some b => .ok (.fz (.bl b)) β
    | none => .stuck) else .stuck
  | _ => .stuck
open Classical in
/-- e.f -/
noncomputable def mXf (i : Nat) (f : Str) (ok : Str → Bool) (a : Addr) (cls : Value) (d : Option Addr) : M Rs := fun β => match β[i]? with
  | some (.ex z) => if (z.a = a ∧ z.cls = cls ∧ z.dd = d) ∧ ok z.x.cls = true then (match z.x.fs.lookup f with
    | some v => .ok (.fz v) β
    | none => .stuck) else .stuck
  | _ => .stuck
/-- a class, by its name -/
inductive ClsNm (X : Cx) (y : Str) : V → Value → Prop
  | own (C : Addr) (hg : Gl X y) (hm : X.mg y = some (.ref C)) (hd : (y == ("__debug__" : Str)) = false) : ClsNm X y (.ref C) (.ref C)
  | ty (n : String) (hg : Gl X y) (hm : X.mg y = none) (hb : bootBuiltins y = some (.type n)) (hn : y ≠ "__name__") (hd : (y == ("__debug__" : Str)) = false) : ClsNm X y (.ty n) (.type n)
theorem ClsNm.clsV {y : Str} {v : V} {cv : Value} (h : ClsNm X y v cv) : ClsV v cv := by
  cases h with
  | own C => exact .own C
  | ty n => exact .ty n
theorem ClsNm.suite {y : Str} {v : V} {cv : Value} (h : ClsNm X y v cv) : ClsNm (X.suite a pn) y v cv := by
  cases h with
  | own C hg hm hd => exact .own C hg hm hd
  | ty n hg hm hb hn hd => exact .ty n hg hm hb hn hd
theorem pe_clsnm {y : Str} {v : V} {cv : Value} {pos : Pos} (h : ClsNm X y v cv) : PE X (.Name y pos) (tC v) := by
  cases h with
  | own C hg hm hd => exact pe_glob hg hm rfl hd
  | ty n hg hm hb hn hd => exact pe_bltn (v := .ty n) hg hm hb rfl hn hd
theorem XR.xd {K : PySem.W.Frag} {mg : Str → Option Value} {F H : Hp} {x : Exn} (h : XR K mg F cls d x) (sf : Same F H) : ∀ dd, d = some dd → ∃ fs, H dd = some (.xd fs) := fun dd e => by
  obtain ⟨_, ⟨_, h⟩ | ⟨dd', fs, ds, h, h2, _⟩⟩ := h
  · rw [h] at e
    cases e
  · rw [h] at e
    cases e
    exact ⟨fs, sf _ _ h2⟩
section
variable {x y : Str} {i : Nat} {p px py pos : Pos} {tab : Str → Option Bool} {v : V} {cv : Value}
/-- what a table says, rightly -/
def TabIs (X : Cx) (tab : Str → Option Bool) (cv : Value) : Prop := ∀ k b, tab k = some b → XIs X.K X.mg k ∧ ∀ cls, X.mg k = some cls → PySem.W.kitOne X.K cls cv = some b
theorem be_isE (hz : Zc cls d oe) (hf : ∃ vs, oe.data = .fields vs) (O : XObj X.K) (cn : ClsNm X y v cv) (ht : TabIs X tab cv) (hm : X.mg "isinstance" = none) (hN : X.N[i]? = some x) (hv : Vis X.env.scope x) (hg : Gl X "isinstance" := by rfl)
    (hd : (x == ("__debug__" : Str)) = false := by decide) (hcd : (x == ("__classdict__" : Str)) = false := by decide) (he : starEach [.Name x px, .Name y py] (X.suite a ((a, oe) :: pn)).env = (false, eval (.Name x px) (X.suite a ((a, oe) :: pn)).env) :: starEach [.Name y py] (X.suite a ((a, oe) :: pn)).env := by rfl) :
    BE (X.suite a ((a, oe) :: pn)) (.Call (.Name "isinstance" p) [.Name x px, .Name y py] [] pos) (mIsE i tab a cls d) := by
  refine fun W tk => ⟨fun pins s σ H Q I ⟨G, io, F, β, J, h⟩ => ?_⟩
  unfold mIsE at h
  cases e : β[i]? with
  | none => rw [e] at h; exact h.elim
  | some sl =>
    cases sl with
    | un => rw [e] at h; exact h.elim
    | fz _ => rw [e] at h; exact h.elim
    | own _ _ => rw [e] at h; exact h.elim
    | gh _ => rw [e] at h; exact h.elim
    | ex z =>
      rw [e] at h
      simp only at h
      split at h
      · rename_i hc
        obtain ⟨c1, c2, c3⟩ := hc
        subst c1 c2 c3
        cases et : tab z.x.cls with
        | none => rw [et] at h; exact h.elim
        | some b =>
          rw [et] at h
          obtain ⟨o, eo, rfl, xz⟩ := J.sl i _ e
          have xr := xz.r
          obtain ⟨Z, hk⟩ := ht _ _ et
          exact (pe_callB (call_isX Z O xr.1 hz hf) hg hm boot_isinstance (pa_cons (pe_var hN hv hd hcd) (pa_cons (pe_clsnm cn.suite) pa_nil)) (by decide) (by decide) he).run pins s σ H Q I
            ⟨_, eo, v, cv, b, rfl, fun u r => cn.clsV.eq r, hk _ xr.1, xr.xd J.sf, h _ H F .refl J (.bl b)⟩
      · exact h.elim
/-- the items' classes -/
inductive ClsNms (X : Cx) : List Str → List V → List Value → Prop
  | nil : ClsNms X [] [] []
  | cons {y : Str} {ys : List Str} {v : V} {vs : List V} {c : Value} {cs : List Value} : ClsNm X y v c → ClsNms X ys vs cs → ClsNms X (y :: ys) (v :: vs) (c :: cs)
theorem ClsNms.paired {ys : List Str} {vs : List V} {cs : List Value} (h : ClsNms X ys vs cs) : Paired ClsV vs cs := by
  induction h with
  | nil => exact .nil
  | cons a _ ih => exact .cons a.clsV ih
def tCs : List V → TA
  | [] => tNil
  | v :: vs => tCons (tC v) (tCs vs)
theorem tCs_run : ∀ {vs : List V} {σ : L2.St} {H : Hp} {Q : List V → Hp → Prop}, Q vs H → tCs vs σ H Q
  | [], _, _, _, h => h
  | v :: vs, _, _, _, h => tCs_run (vs := vs) h
def TabIsT (X : Cx) (tab : Str → Option Bool) (cs : List Value) : Prop := ∀ k b, tab k = some b → XIs X.K X.mg k ∧ ∀ cls, X.mg k = some cls → PySem.W.kitAny X.K cls cs = some b
theorem be_isET {ys : List Str} {vs : List V} {cs : List Value} {es : List Expr} {x1 : Nat} {tpos : Pos} (hz : Zc cls d oe) (hf : ∃ vs, oe.data = .fields vs) (O : XObj X.K) (cn : ClsNms X ys vs cs) (hes : PA (X.suite a ((a, oe) :: pn)) es (tCs vs)) (ht : TabIsT X tab cs) (hm : X.mg "isinstance" = none) (hN : X.N[i]? = some x) (hv : Vis X.env.scope x) (hg : Gl X "isinstance" := by rfl)
    (hl : vs.length ≤ 100 := by decide) (hd : (x == ("__debug__" : Str)) = false := by decide) (hcd : (x == ("__classdict__" : Str)) = false := by decide)
    (he : starEach [.Name x px, .Tuple es x1 tpos] (X.suite a ((a, oe) :: pn)).env = (false, eval (.Name x px) (X.suite a ((a, oe) :: pn)).env) :: starEach [.Tuple es x1 tpos] (X.suite a ((a, oe) :: pn)).env := by rfl) :
    BE (X.suite a ((a, oe) :: pn)) (.Call (.Name "isinstance" p) [.Name x px, .Tuple es x1 tpos] [] pos) (mIsE i tab a cls d) := by
  refine fun W tk => ⟨fun pins s σ H Q I ⟨G, io, F, β, J, h⟩ => ?_⟩
  unfold mIsE at h
  cases e : β[i]? with
  | none => rw [e] at h; exact h.elim
  | some sl =>
    cases sl with
    | un => rw [e] at h; exact h.elim
    | fz _ => rw [e] at h; exact h.elim
    | own _ _ => rw [e] at h; exact h.elim
    | gh _ => rw [e] at h; exact h.elim
    | ex z =>
      rw [e] at h
      simp only at h
      split at h
      · rename_i hc
        obtain ⟨c1, c2, c3⟩ := hc
        subst c1 c2 c3
        cases et : tab z.x.cls with
        | none => rw [et] at h; exact h.elim
        | some b =>
          rw [et] at h
          obtain ⟨o, eo, rfl, xz⟩ := J.sl i _ e
          have xr := xz.r
          obtain ⟨Z, hk⟩ := ht _ _ et
          refine (pe_callB (call_isXT Z O xr.1 hz hf) hg hm boot_isinstance (pa_cons (pe_var hN hv hd hcd) (pa_cons (pe_tup hes) pa_nil)) (by decide) (by decide) he).run pins s σ H Q I ?_
          refine ⟨_, eo, tCs_run ⟨by rw [sizeLine_eq]; omega, fun tp htp => ?_⟩⟩
          have sh : Same H (upd H tp (.tup vs)) := fun b u hb => by
            rw [upd_ne (ne_of_none hb htp)]
            exact hb
          obtain ⟨fe, J'⟩ := J.grow sh (Same.refl F) (fun _ _ h => .inl h) (J.sf.trans sh)
          exact ⟨tp, vs, cs, b, rfl, upd_same, cn.paired, hk _ xr.1, xr.xd J'.sf, h _ _ F fe J' (.bl b)⟩
      · exact h.elim
/-- an exception's field may be read -/
structure XFld (K : PySem.W.Frag) (mg : Str → Option Value) (c f : Str) : Prop where
  ex : ∃ C : Addr, mg c = some (.ref C) ∧ XfC K C ∧ PySem.W.findIn K (.ref C) f = some none
theorem be_xf {f : Str} {ok : Str → Bool} (hz : Zc cls d oe) (hf : ∃ vs, oe.data = .fields vs) (ht : ∀ k, ok k = true → XFld X.K X.mg k f) (hN : X.N[i]? = some x) (hv : Vis X.env.scope x) (hd : (x == ("__debug__" : Str)) = false := by decide) (hcd : (x == ("__classdict__" : Str)) = false := by decide)
    (hb : attributeBase (.Name x px) f (X.suite a ((a, oe) :: pn)).env (eval (.Name x px) (X.suite a ((a, oe) :: pn)).env) = eval (.Name x px) (X.suite a ((a, oe) :: pn)).env := by rfl) : BE (X.suite a ((a, oe) :: pn)) (.Attribute (.Name x px) f pos) (mXf i f ok a cls d) := by
  refine fun W tk => ⟨fun pins s σ H Q I ⟨G, io, F, β, J, h⟩ => ?_⟩
  unfold mXf at h
  cases e : β[i]? with
  | none => rw [e] at h; exact h.elim
  | some sl =>
    cases sl with
    | un => rw [e] at h; exact h.elim
    | fz _ => rw [e] at h; exact h.elim
    | own _ _ => rw [e] at h; exact h.elim
    | gh _ => rw [e] at h; exact h.elim
    | ex z =>
      rw [e] at h
      simp only at h
      split at h
      · rename_i hc
        obtain ⟨⟨c1, c2, c3⟩, hok⟩ := hc
        subst c1 c2 c3
        cases el : z.x.fs.lookup f with
        | none => rw [el] at h; exact h.elim
        | some w =>
          rw [el] at h
          obtain ⟨o, eo, rfl, xz⟩ := J.sl i _ e
          obtain ⟨hm, xr⟩ := xz.r
          obtain ⟨C, gC, T, nf⟩ := (ht _ hok).ex
          have ec : z.cls = .ref C := Option.some.inj (hm.symm.trans gC)
          rcases xr with ⟨ef, _⟩ | ⟨dd, fs, ds, e1, e2, e3, e4, e5⟩
          · rw [ef] at el
            cases el
          · have key : ((fs.map (·.1)).zip ds).lookup f = some w := by
              rw [e3, e5]
              have : (z.x.fs.map (·.1)).zip (z.x.fs.map (·.2)) = z.x.fs := by
                generalize z.x.fs = l
                induction l with
                | nil => rfl
                | cons q l ih => rw [List.map_cons, List.map_cons, List.zip_cons_cons, ih]
              rw [this]
              exact el
            obtain ⟨v', ev, dr⟩ := DRs.look e4 key
            refine (pe_xf T nf (ec ▸ hz) hf (pe_var hN hv hd hcd) hb).run pins s σ H Q I ?_
            exact ⟨_, eo, rfl, rfl, dd, fs, v', e1, J.sf _ _ e2, ev, h _ H F .refl J dr⟩
      · exact h.elim
/-! operations there -/
theorem os_eq {k : Nat} (r : RoomG k X.A) : OpD (X.suite a pn) (compareOp .Eq) gEq := opd_eq (X := X.suite a pn) r.u64
theorem os_ne {k : Nat} (r : RoomG k X.A) : OpD (X.suite a pn) (compareOp .NotEq) gNe := opd_ne (X := X.suite a pn) r.u64
theorem os_in {k : Nat} (r : RoomG k X.A) : OpD (X.suite a pn) (compareOp .In) gIn := opd_in (X := X.suite a pn) r.u65
end
end
/-! ## by what is wished for -/
section
variable {β : B.Env} {Q : Fl → B.Env → Prop} {E : Exn → B.Env → Prop}
@[simp ↓] theorem W_raise0 {c : Str} : W (mRaise0 c) β Q E ↔ E ⟨c, []⟩ β := by with_unfolding_all exact Iff.rfl
def plD (q : Pl) (P : D → Prop) : Prop := match q with
  | .d d => P d
  | _ => False
@[simp ↓] theorem plD_d {d : D} {P : D → Prop} : plD (.d d) P ↔ P d := Iff.rfl
@[simp ↓] theorem W_raiseI {c f : Str} {ma : M Pl} : W (mRaiseI c f ma) β Q E ↔ W ma β (fun q β1 => plD q fun d => E ⟨c, [(f, d)]⟩ β1) E := by
  unfold mRaiseI
  refine W_bnd.trans (W_congr fun q β1 => ?_)
  cases q <;> with_unfolding_all exact Iff.rfl
theorem W_try {mb : M Fl} {hs : List Hd} (h : W mb β Q fun x β1 => W (handleB hs x) β1 Q E) : W (mTry mb hs) β Q E := by
  unfold W mTry at *
  cases e : mb β with
  | stuck => rw [e] at h; exact h
  | ok f β1 => rw [e] at h; exact h
  | exc x β1 => rw [e] at h; exact h
theorem W_hnil {x : Exn} (h : E x β) : W (handleB [] x) β Q E := by
  unfold W handleB
  exact h
theorem W_hno {h : Hd} {r : List Hd} {x : Exn} (e : h.t x.cls = some false) (k : W (handleB r x) β Q E) : W (handleB (h :: r) x) β Q E := by
  have : handleB (h :: r) x = handleB r x := by
    funext b
    show (match h.t x.cls with
      | some true => _
      | some false => handleB r x b
      | none => .stuck) = _
    rw [e]
  rw [this]
  exact k
theorem W_hyes {h : Hd} {r : List Hd} {x : Exn} (f0 : Fl) (β0 : B.Env) (e : h.t x.cls = some true) (k : ∀ a c d, W (h.m a c d) (exSl h.i (ez a c d x) β) (fun f β1 => f = f0 ∧ unSl h.i β1 = β0) fun _ _ => False) (q : Q f0 β0) : W (handleB (h :: r) x) β Q E := by
  have al : ∀ a c d, suiteR h.i (h.m a c d (exSl h.i (ez a c d x) β)) = .ok f0 β0 := fun a c d => by
    have := k a c d
    unfold W at this
    cases e : h.m a c d (exSl h.i (ez a c d x) β) with
    | stuck => rw [e] at this; exact this.elim
    | exc y β1 => rw [e] at this; exact this.elim
    | ok f β1 =>
      rw [e] at this
      obtain ⟨rfl, rfl⟩ := this
      rfl
  have ex : handleB (h :: r) x β = .ok f0 β0 := by
    show (match h.t x.cls with
      | some true => exRun fun a c d => suiteR h.i (h.m a c d (exSl h.i (ez a c d x) β))
      | some false => handleB r x β
      | none => .stuck) = _
    rw [e]
    show exRun _ = _
    unfold exRun
    rw [if_pos fun a c d => (al a c d).trans (al 0 .none none).symm]
    exact al _ _ _
  exact W.of_eq ex q
def exW (s : Option Sl) (P : Ez → Prop) : Prop := match s with
  | some (.ex z) => P z
  | _ => False
@[simp ↓] theorem exW_ex {z : Ez} {P : Ez → Prop} : exW (some (.ex z)) P ↔ P z := Iff.rfl
@[simp ↓] theorem W_mIsE {i : Nat} {tab : Str → Option Bool} {a : Addr} {cls : Value} {d : Option Addr} {Q : Rs → B.Env → Prop} : W (mIsE i tab a cls d) β Q E ↔ exW β[i]? fun z => (z.a = a ∧ z.cls = cls ∧ z.dd = d) ∧ optW (tab z.x.cls) fun b => Q (.fz (.bl b)) β := by
  unfold W mIsE exW
  rcases β[i]? with _ | _ | _ | z | ⟨_, _⟩ | _
  · with_unfolding_all rfl
  · with_unfolding_all rfl
  · with_unfolding_all rfl
  · simp only
    by_cases h : z.a = a ∧ z.cls = cls ∧ z.dd = d
    · rw [if_pos h]
      cases tab z.x.cls with
      | none => simp [h]
      | some b => simp [h]
    · rw [if_neg h]
      simp [h]
  · with_unfolding_all rfl
  · with_unfolding_all rfl
@[simp ↓] theorem W_mXf {i : Nat} {f : Str} {ok : Str → Bool} {a : Addr} {cls : Value} {d : Option Addr} {Q : Rs → B.Env → Prop} : W (mXf i f ok a cls d) β Q E ↔ exW β[i]? fun z => ((z.a = a ∧ z.cls = cls ∧ z.dd = d) ∧ ok z.x.cls = true) ∧ optW (z.x.fs.lookup f) fun w => Q (.fz w) β := by
  unfold W mXf exW
  rcases β[i]? with _ | _ | _ | z | ⟨_, _⟩ | _
  · with_unfolding_all rfl
  · with_unfolding_all rfl
  · with_unfolding_all rfl
  · simp only
    by_cases h : (z.a = a ∧ z.cls = cls ∧ z.dd = d) ∧ ok z.x.cls = true
    · rw [if_pos h]
      cases z.x.fs.lookup f with
      | none => simp [h]
      | some b => simp [h]
    · rw [if_neg h]
      simp [h]
  · with_unfolding_all rfl
  · with_unfolding_all rfl
end
end B

set_option Elab.async false
set_option linter.all false
set_option maxRecDepth 100000
set_option maxHeartbeats 4000000
namespace B
open PySem PySem.Spec L2
open PySem.W (dataLt alike dataLe AllAlike Sortable)
/-! ## order of data -/
def cmpOk (d e : D) : Bool := ((toPy d).canLay0 && (toPy e).canLay0) && (alike (toPy d) (toPy e) && !isN d) && decide ((toPy d).depth ≤ 64)
def gLtX : D → D → Option Rs
  | .int i, .int j => some (.fz (.bl (decide (i < j))))
  | d, e => if cmpOk d e = true then some (.fz (.bl (dataLt (toPy d) (toPy e)))) else none
def gGtX : D → D → Option Rs
  | .int i, .int j => some (.fz (.bl (decide (j < i))))
  | d, e => if cmpOk d e = true then some (.fz (.bl (dataLt (toPy e) (toPy d)))) else none
def gLtD (d e : D) : Option Rs := if cmpOk d e = true then some (.fz (.bl (dataLt (toPy d) (toPy e)))) else none
def gGtD (d e : D) : Option Rs := if cmpOk d e = true then some (.fz (.bl (dataLt (toPy e) (toPy d)))) else none
theorem isN_py {d : D} (h : isN d = false) : toPy d ≠ .none := by
  cases d with
  | nd t ds => rcases t with _ | _ | _ | _ | _ <;> (intro q; cases q)
  | non => cases h
  | bl b => intro q; cases q
  | int b => intro q; cases q
  | str b => intro q; cases q
section
variable {X : Cx}
theorem opd_ltD (hu : X.A.units + 64 < cLine) : OpD X (compareOp .Lt) gLtD := by
  intro pins s σ H x y v u Q I rx ry ⟨F, d, e, rs, sf, hx, hy, hg, q⟩
  unfold gLtD at hg
  split at hg
  · rename_i hc
    cases hg
    unfold cmpOk at hc
    simp only [Bool.and_eq_true, decide_eq_true_eq, Bool.not_eq_true'] at hc
    obtain ⟨⟨⟨h1, h2⟩, h3, h4⟩, h5⟩ := hc
    obtain ⟨as, ra⟩ := Dp.reads I _ _ _ ((hx.dr sf).dp h1) rx
    obtain ⟨bs, rb⟩ := Dp.reads I _ _ _ ((hy.dr sf).dp h2) ry
    exact PySem.W.lt_data ra rb h3 (isN_py h4) (by omega) ⟨.bl _, H, I, rfl, q _ _ (NR.val sf (.bl _))⟩
  · cases hg
theorem opd_gtD (hu : X.A.units + 64 < cLine) : OpD X (compareOp .Gt) gGtD := by
  intro pins s σ H x y v u Q I rx ry ⟨F, d, e, rs, sf, hx, hy, hg, q⟩
  unfold gGtD at hg
  split at hg
  · rename_i hc
    cases hg
    unfold cmpOk at hc
    simp only [Bool.and_eq_true, decide_eq_true_eq, Bool.not_eq_true'] at hc
    obtain ⟨⟨⟨h1, h2⟩, h3, h4⟩, h5⟩ := hc
    obtain ⟨as, ra⟩ := Dp.reads I _ _ _ ((hx.dr sf).dp h1) rx
    obtain ⟨bs, rb⟩ := Dp.reads I _ _ _ ((hy.dr sf).dp h2) ry
    exact PySem.W.gt_data ra rb h3 (isN_py h4) (by omega) ⟨.bl _, H, I, rfl, q _ _ (NR.val sf (.bl _))⟩
  · cases hg
theorem od_ltX {k : Nat} (r : RoomG k X.A) : OpD X (compareOp .Lt) gLtX := by
  refine ((od_lt).alt (opd_ltD r.u64)).congr fun d e rs h => ?_
  unfold gLtX at h
  split at h
  · exact h
  · rename_i hn
    have e0 : gLt d e = none := by
      unfold gLt gC
      split
      · exact (hn _ _ rfl rfl).elim
      · rfl
    rw [e0]
    exact h
theorem od_gtX {k : Nat} (r : RoomG k X.A) : OpD X (compareOp .Gt) gGtX := by
  refine ((od_gt).alt (opd_gtD r.u64)).congr fun d e rs h => ?_
  unfold gGtX at h
  split at h
  · exact h
  · rename_i hn
    have e0 : gGt d e = none := by
      unfold gGt gC
      split
      · exact (hn _ _ rfl rfl).elim
      · rfl
    rw [e0]
    exact h
end
@[simp ↓] theorem w_ltX {i j : Int} {P : Rs → Prop} : optW (gLtX (.int i) (.int j)) P ↔ P (.fz (.bl (decide (i < j)))) := Iff.rfl
@[simp ↓] theorem w_gtX {i j : Int} {P : Rs → Prop} : optW (gGtX (.int i) (.int j)) P ↔ P (.fz (.bl (decide (j < i)))) := Iff.rfl
/-! ## sorted -/
def leD (a b : D) : Bool := dataLe false toPy a b
def sortD (ds : List D) : List D := ds.mergeSort leD
/-- what sorted asks of the items -/
def sortOk (ds : List D) : Prop := (∀ d ∈ ds, (toPy d).canLay0 = true ∧ (toPy d).depth ≤ 50) ∧ AllAlike (ds.map toPy) ∧ Sortable (ds.map toPy)
open Classical in
noncomputable def gSorted : List D → Option Rs
  | [.nd .lst ds] => if sortOk ds then some (.own (.nd .lst (sortD ds))) else none
  | [.nd .tup ds] => none
  | _ => none
theorem DRs.zip {K : PySem.W.Frag} {mg : Str → Option Value} {F : Hp} : ∀ {vs : List V} {ds : List D}, DRs K mg F vs ds → ∀ p ∈ vs.zip ds, DR K mg F p.1 p.2
  | _, _, .nil, p, h => by cases h
  | _, _, .cons a b, p, h => by
    rw [List.zip_cons_cons] at h
    rcases List.mem_cons.mp h with rfl | h
    · exact a
    · exact DRs.zip b p h
theorem DRs.of_zip {K : PySem.W.Frag} {mg : Str → Option Value} {F : Hp} : ∀ {ps : List (V × D)}, (∀ p ∈ ps, DR K mg F p.1 p.2) → DRs K mg F (ps.map (·.1)) (ps.map (·.2))
  | [], _ => .nil
  | p :: ps, h => .cons (h p List.mem_cons_self) (DRs.of_zip fun q hq => h q (List.mem_cons_of_mem _ hq))
theorem zip_fst {α β : Type} : ∀ {as : List α} {bs : List β}, as.length = bs.length → (as.zip bs).map (·.1) = as
  | [], [], _ => rfl
  | a :: as, b :: bs, h => by rw [List.zip_cons_cons, List.map_cons, zip_fst (Nat.succ.inj h)]
theorem zip_snd {α β : Type} : ∀ {as : List α} {bs : List β}, as.length = bs.length → (as.zip bs).map (·.2) = bs
  | [], [], _ => rfl
  | a :: as, b :: bs, h => by rw [List.zip_cons_cons, List.map_cons, zip_snd (Nat.succ.inj h)]
theorem each_vals : ∀ {vs : List V} {us : List Value} {ds : List D}, Vals vs us → vs.length = ds.length → PySem.W.EachIs (fun u (p : V × D) => RelV p.1 u) us (vs.zip ds)
  | _, _, [], .nil, _ => .nil
  | _, _, d :: ds, .cons r t, h => .cons r (each_vals t (Nat.succ.inj h))
theorem vals_each : ∀ {us : List Value} {ps : List (V × D)}, PySem.W.EachIs (fun u (p : V × D) => RelV p.1 u) us ps → Vals (ps.map (·.1)) us
  | _, _, .nil => .nil
  | _, _, .cons r t => .cons r (vals_each t)
section
variable {X : Cx}
theorem cd_sorted (hu : X.A.units + 64 < cLine) : CallD X (.builtin "sorted") gSorted := by
  intro pins s σ H xs us Q I r ⟨F, ds, rs, sf, hx, hg, q⟩
  unfold gSorted at hg
  split at hg
  · rename_i ds
    split at hg
    · rename_i hc
      cases hg
      obtain ⟨c1, c2, c3⟩ := hc
      cases hx with
      | cons h1 h2 =>
        cases h2
        cases h1 with
        | @lst a vs _ ha rd =>
          rw [Vals.ref1 r]
          obtain ⟨its, rv, hl, hz⟩ := I.list (xs := vs) (.inl (.inl ha))
          have el := rd.length
          have rdH := rd.mono sf
          have e0 := each_vals rv el
          have er : PySem.W.EachIs (fun v (p : V × D) => ∃ as, PySem.Reads s.heap v (toPy p.2) as) its (vs.zip ds) := by
            have key : ∀ {vs : List V} {us : List Value} {ds : List D}, Vals vs us → DRs X.K X.mg H vs ds → (∀ d ∈ ds, (toPy d).canLay0 = true) → PySem.W.EachIs (fun v (p : V × D) => ∃ as, PySem.Reads s.heap v (toPy p.2) as) us (vs.zip ds) := by
              intro vs us ds r1 r2
              induction r1 generalizing ds with
              | nil => intro _; exact .nil
              | cons a b ih =>
                intro h
                cases r2 with
                | cons c d => exact .cons (Dp.reads I _ _ _ (c.dp (h _ List.mem_cons_self)) a) (ih d fun x hx => h x (List.mem_cons_of_mem _ hx))
            exact key rv rdH fun d hd => (c1 d hd).1
          have em : (vs.zip ds).map (fun p => toPy p.2) = ds.map toPy := by
            rw [show (fun p : V × D => toPy p.2) = toPy ∘ (fun p : V × D => p.2) from rfl, ← List.map_map, zip_snd el]
          refine PySem.W.sorted_data (enc := fun p : V × D => toPy p.2) hl.isList e0 er (by rw [em]; exact c2) (by rw [em]; exact c3) (by rw [List.length_zip, ← el, Nat.min_self]; exact hz) (fun p hp => ?_) fun out ho eo => ?_
          · have := (c1 p.2 (List.of_mem_zip hp).2).2
            omega
          · obtain ⟨ep, he'⟩ := PyProof.Rows.sortedAll_at s.heap its out.toArray
            have n2 : H (s.heap.objs.size + 1) = none := I.hok.fresh (Nat.le_succ _)
            have rz := vals_each eo
            have hlen : (((vs.zip ds).mergeSort (dataLe false fun p : V × D => toPy p.2)).map (·.1)).length ≤ sizeLine := by
              rw [List.length_map, List.length_mergeSort, List.length_zip, ← el, Nat.min_self]
              exact hz
            refine ⟨.ref _, upd H (s.heap.objs.size + 1) (.lst (((vs.zip ds).mergeSort (dataLe false fun p : V × D => toPy p.2)).map (·.1))), I.laid (t' := s.toks) (fun _ _ => PyProof.Rows.sortedAll_old) (Nat.le_succ _) ⟨hlen, out, ep, rz, he'⟩, rfl, q _ _ ?_⟩
            have ed : ((vs.zip ds).mergeSort (dataLe false fun p : V × D => toPy p.2)).map (·.2) = sortD ds := by
              have e1 := List.map_mergeSort (r := dataLe false fun p : V × D => toPy p.2) (s := leD) (f := fun p : V × D => p.2) (l := vs.zip ds) (fun a _ b _ => rfl)
              rw [zip_snd el] at e1
              exact e1
            rw [← ed]
            exact NR.lst n2 (DRs.of_zip fun p hp => rd.zip p (List.mem_mergeSort.mp hp))
    · cases hg
  · cases hg
  · cases hg
end
/-! ## methods that read -/
def isTyP : String → D → Bool
  | "list", .nd .lst _ => true
  | "dict", .nd .dct _ => true
  | "str", .str _ => true
  | "list", .nd .scr _ => true
  | _, _ => false
def MetD (X : Cx) (T id : String) (g : D → List D → Option Rs) : Prop := ∃ r, MtR X id r ∧ ∀ (F H : Hp) (x : V) (d : D) (xs : List V) (ds : List D) (rs : Rs) (Q : VK), Same F H → HR X.K X.mg F H x d → HRs X.K X.mg F H xs ds → isTyP T d = true → g d ds = some rs → (∀ z H', NR X.K X.mg F H rs z H' → Q z H') → r x xs H Q
theorem isTyP_v {K : PySem.W.Frag} {mg : Str → Option Value} {F H : Hp} {x : V} {T : String} {d : D} (h : HR K mg F H x d) (e : isTyP T d = true) : tyV K T x H := by
  unfold isTyP at e
  split at e
  · cases h with
    | lst h r => exact .inl ⟨rfl, _, .inl (.inl h)⟩
  · cases h with
    | dK h r q => exact .inr (.inr (.inl ⟨rfl, .inl ⟨_, h⟩⟩))
    | dT h r q => exact .inr (.inr (.inl ⟨rfl, .inr ⟨_, h⟩⟩))
  · cases h
    rfl
  · cases h with
    | scr h r => exact .inl ⟨rfl, _, h⟩
  · cases e
def tyP (T : String) (p : Pl) : M Unit := fun β => match look β p with
  | some d => if isTyP T d = true then .ok () β else .stuck
  | none => .stuck
def finMet (T : String) (g : D → List D → Option Rs) (p : Pl) (ps : List Pl) : M Rs := fun β => match look β p, looks β ps with
  | some d, some ds => if isTyP T d = true then (match g d ds with
    | some r => .ok r β
    | none => .stuck) else .stuck
  | _, _ => .stuck
def mMet (T : String) (g : D → List D → Option Rs) (mo : M Pl) (ma : M (List Pl)) : M Rs := bnd mo fun p => bnd (tyP T p) fun _ => bnd ma fun ps => finMet T g p ps
section
variable {X : Cx} {apos cpos : Pos} {o e : Expr} {es : List Expr} {mo : M Pl} {ma : M (List Pl)} {T id' : String} {name : Str} {g : D → List D → Option Rs}
theorem finMet_post {W : WX} {G : GT} {F H : Hp} {io : List Addr} {β : B.Env} {σ : L2.St} {p : Pl} {ps : List Pl} {v : V} {vs : List V} {r : V → List V → Hp → VK → Prop} {Q : VK} (I : BI X.K X.mg G F io β σ H) (rv : PR X.K X.mg F σ v p) (rp : PRs X.K X.mg F σ vs ps)
    (k : ∀ (F H : Hp) (x : V) (d : D) (xs : List V) (ds : List D) (rs : Rs) (Q : VK), Same F H → HR X.K X.mg F H x d → HRs X.K X.mg F H xs ds → isTyP T d = true → g d ds = some rs → (∀ z H', NR X.K X.mg F H rs z H' → Q z H') → r x xs H Q)
    (h : Post X.K X.mg W (relE X.K X.mg) G F io σ (finMet T g p ps β) Q) : r v vs H Q := by
  unfold finMet at h
  cases e1 : look β p with
  | none => rw [e1] at h; exact h.elim
  | some d =>
    cases e2 : looks β ps with
    | none => rw [e1, e2] at h; exact h.elim
    | some ds =>
      rw [e1, e2] at h
      simp only at h
      split at h
      · rename_i ht
        cases e3 : g d ds with
        | none => rw [e3] at h; exact h.elim
        | some rs =>
          rw [e3] at h
          refine k F H v d vs ds rs Q I.sf (I.look rv e1) (I.looks rp e2) ht e3 fun z H' n => ?_
          obtain ⟨F', fe, I', rr⟩ := I.step n
          exact h z H' F' fe I' rr
      · exact h.elim
theorem be_met (pa : PlainAttrs T) (slot : Slot T name id') (hty : typeOf (.builtin id') = pure (.type "method_descriptor")) (hm : MetD X T id' g) (ho : BP X o mo) (ha : BA X (e :: es) ma)
    (hbase : attributeBase o name X.env (eval o X.env) = eval o X.env := by rfl)
    (hfew : ((backTo cpos (starEach (e :: es) X.env)).all (fun x => !x.1) && (backToKw cpos (keywordEach [] X.env)).all (fun x => x.1.isSome)
      && decide ((e :: es).length + ([] : List Keyword).length + (if ([] : List Keyword).isEmpty then 0 else 1) < 30)) = true := by rfl)
    (hline : (apos.endLine == cpos.line) = true := by rfl) (hs : starEach (e :: es) X.env = (false, eval e X.env) :: starEach es X.env := by rfl) (hplain : (backTo cpos (starEach es X.env)).any (·.1) = false := by rfl) :
    BE X (.Call (.Attribute o name apos) (e :: es) [] cpos) (mMet T g mo ma) := by
  obtain ⟨r, hr, k⟩ := hm
  refine fun W tk => (pe_bm pa slot hty hr (ho W tk) (ha W tk) hbase hfew hline hs hplain).imp fun σ H Q ⟨G, io, F, β, I, h⟩ => ⟨G, io, F, β, I, h.bnd fun p β1 v H1 F1 fe1 I1 r1 h1 => ?_⟩
  unfold bnd tyP at h1
  cases e1 : look β1 p with
  | none => rw [e1] at h1; exact h1.elim
  | some d =>
    rw [e1] at h1
    simp only at h1
    by_cases ht : isTyP T d = true
    · rw [if_pos ht] at h1
      refine ⟨isTyP_v (I1.look r1 e1) ht, G, io, F1, β1, I1, Post.bnd (f := fun ps => finMet T g p ps) (h1.mono fe1) fun ps β2 vs H2 F2 fe2 I2 r2 h2 => ?_⟩
      exact finMet_post I2 (r1.mono fe2.same) r2 k (h2.mono fe2)
    · rw [if_neg ht] at h1
      exact h1.elim
/-! list.count, list.index -/
def gCount : D → List D → Option Rs
  | .nd .lst ds, [d] => if shp d = true ∧ shp (.nd .lst ds) = true ∧ PyData.plainAll (toPys ds) = true ∧ (toPy d).plain = true then some (.fz (.int (ds.countP fun z => eqv z d : Nat))) else none
  | _, _ => none
theorem count_py (d : D) : ∀ ds : List D, ((toPys ds).countP fun z => PyData.eqv z (toPy d)) = ds.countP fun z => eqv z d
  | [] => rfl
  | e :: ds => by
    rw [toPys, List.countP_cons, List.countP_cons, count_py d ds]
    rfl
def rCountD (K : PySem.W.Frag) : V → List V → Hp → VK → Prop := fun x xs H Q => ∃ (a : Addr) (y : V) (d : PyData) (ds : List PyData), x = V.ref a ∧ xs = [y] ∧ Dp K H (V.ref a) (.list ds) ∧ Dp K H y d ∧ PyData.plainAll ds = true ∧ d.plain = true ∧ min (PyData.depthAll ds) d.depth ≤ 64 ∧ Q (.int (ds.countP fun z => PyData.eqv z d : Nat)) H
theorem mt_countD (hu : X.A.units + 65 < cLine) : MtR X "list.count" (rCountD X.K) := by
  intro pins s σ H x xs v us Q I rx rxs h
  obtain ⟨a, y, d, ds, rfl, rfl, hl, hy, p1, p2, p3, q⟩ := h
  cases rx
  obtain ⟨u, rfl, ru⟩ := rxs.one
  obtain ⟨bs, rb⟩ := Dp.reads I _ _ _ hy ru
  cases hl with
  | lst hs ha =>
    obtain ⟨its, rv, hp, _⟩ := I.list hs
    obtain ⟨as, ra⟩ := Dp.readsAll I _ _ _ ha rv
    exact SeqAt.count_list_data hp.isList (by simpa using ra) rb p1 p2 (by omega) ⟨.int _, H, I.tok _, ⟨s.toks, rfl⟩, q⟩
theorem md_count {k : Nat} (r : RoomG k X.A) : MetD X "list" "list.count" gCount := by
  refine ⟨_, mt_countD r.u65, fun F H x d xs ds rs Q sf hx hxs ht hg q => ?_⟩
  unfold gCount at hg
  split at hg
  · split at hg
    · rename_i l e hc
      obtain ⟨h1, h2, h3, h4⟩ := hc
      cases hg
      cases hxs with
      | cons he hn =>
        cases hn
        have hl := (hx.dr sf).dp (shp_lay h2)
        cases hx with
        | lst hx rx =>
          refine ⟨_, _, toPy e, toPys l, rfl, rfl, hl, (he.dr sf).dp (shp_lay h1), h3, h4, ?_, ?_⟩
          · unfold shp SeqAt.shaped at h1
            rw [Bool.and_eq_true, decide_eq_true_eq] at h1
            omega
          · rw [count_py]
            exact q _ _ (NR.val sf (.int _))
    · cases hg
  · cases hg
theorem any_find {ds : List D} {d : D} (h : (ds.findIdx? fun z => eqv z d) = some j) : True := trivial
def gIndex : D → List D → Option Rs
  | .nd .lst ds, [d] => if shp d = true ∧ shp (.nd .lst ds) = true then (ds.findIdx? fun z => eqv z d).map fun j => .fz (.int (j : Nat)) else none
  | _, _ => none
theorem toPys_get : ∀ {ds : List D} {i : Nat}, (toPys ds)[i]? = (ds[i]?).map toPy
  | [], i => rfl
  | d :: ds, 0 => rfl
  | d :: ds, i + 1 => by
    rw [toPys, List.getElem?_cons_succ, List.getElem?_cons_succ, toPys_get]
theorem md_index {k : Nat} (r : RoomG k X.A) : MetD X "list" "list.index" gIndex := by
  refine ⟨_, mt_indexD r.u65, fun F H x d xs ds rs Q sf hx hxs ht hg q => ?_⟩
  unfold gIndex at hg
  split at hg
  · split at hg
    · rename_i l e hc
      obtain ⟨h1, h2⟩ := hc
      obtain ⟨j, hj, e2⟩ := Option.map_eq_some_iff.mp hg
      cases e2
      obtain ⟨hlt, hp, hb⟩ := List.findIdx?_eq_some_iff_getElem.mp hj
      cases hxs with
      | cons he hn =>
        cases hn
        have hl := (hx.dr sf).dp (shp_lay h2)
        cases hx with
        | lst hx rx =>
          refine ⟨_, _, toPy e, toPys l, j, toPy l[j], rfl, rfl, hl, (he.dr sf).dp (shp_lay h1), h2, h1, ?_, hp, fun m z' hm hz => ?_, q _ _ (NR.val sf (.int _))⟩
          · rw [toPys_get, List.getElem?_eq_getElem hlt]
            rfl
          · rw [toPys_get, List.getElem?_eq_getElem (by omega)] at hz
            cases hz
            have := hb m hm
            simpa [eqv] using this
    · cases hg
  · cases hg
/-! ## clear, insert -/
def gClear : D → List D → Option (D × D)
  | .nd .lst ds, [] => some (.non, .nd .lst [])
  | _, _ => none
theorem mu_clear : MutD X "list" "list.clear" gClear := by
  refine ⟨_, mt_clear, fun F H a d vs ds rd d' sf fa o r hg Q q => ?_⟩
  unfold gClear at hg
  split at hg
  · cases hg
    cases r
    cases o with
    | lst h rl => exact ⟨_, _, rfl, rfl, h, q _ _ (.lst upd_same .nil) .non⟩
  · cases hg
def gInsert : D → List D → Option (D × D)
  | .nd .lst ds, [.int i, d] => if ds.length < sizeLine ∧ 0 ≤ i ∧ i < 2 ^ 63 then some (.non, .nd .lst (ds.take i.toNat ++ [d] ++ ds.drop i.toNat)) else none
  | _, _ => none
theorem mu_insert : MutD X "list" "list.insert" gInsert := by
  refine ⟨_, mt_insert, fun F H a d vs ds rd d' sf fa o r hg Q q => ?_⟩
  unfold gInsert at hg
  split at hg
  · split at hg
    · rename_i hc
      cases hg
      cases o with
      | lst h rl =>
        cases r with
        | cons r1 r2 =>
          cases r2 with
          | cons r3 r4 =>
            cases r4
            cases r1
            exact ⟨_, _, _, _, rfl, rfl, h, by rw [rl.length]; exact hc.1, hc.2.1, hc.2.2, q _ _ (.lst upd_same (((rl.take _).append (.cons r3 .nil)).append (rl.drop _))) .non⟩
    · cases hg
  · cases hg
end
/-! ## sorted(set(..)) of tuples of ints -/
def tupI? : D → Option (List Int)
  | .nd .tup ds => ints? ds
  | _ => none
def tups? : List D → Option (List (List Int))
  | [] => some []
  | d :: ds => match tupI? d, tups? ds with
    | some k, some ks => some (k :: ks)
    | _, _ => none
def tupD (ns : List Int) : D := .nd .tup (ns.map D.int)
theorem tups_of : ∀ {ds : List D} {ks : List (List Int)}, tups? ds = some ks → ds = ks.map tupD
  | [], ks, h => by cases h; rfl
  | d :: ds, ks, h => by
    unfold tups? at h
    cases e1 : tupI? d with
    | none => rw [e1] at h; cases h
    | some k =>
      cases e2 : tups? ds with
      | none => rw [e1, e2] at h; cases h
      | some l =>
        rw [e1, e2] at h
        cases h
        unfold tupI? at e1
        split at e1
        · rw [ints_of e1, tups_of e2]
          rfl
        · cases e1
theorem tups_map : ∀ ks : List (List Int), tups? (ks.map tupD) = some ks
  | [] => rfl
  | k :: ks => by
    show (match ints? (k.map D.int), tups? (ks.map tupD) with
      | some k, some ks => some (k :: ks)
      | _, _ => none) = _
    rw [ints_map, tups_map ks]
/-- put in its place, once -/
def tins (x : List Int) : List (List Int) → List (List Int)
  | [] => [x]
  | y :: ys => if x = y then y :: ys else if x < y then x :: y :: ys else y :: tins x ys
def tset (ks : List (List Int)) : List (List Int) := ks.foldr tins []
theorem mem_tins {x z : List Int} : ∀ {ys : List (List Int)}, z ∈ tins x ys ↔ z = x ∨ z ∈ ys
  | [] => by simp [tins]
  | y :: ys => by
    unfold tins
    split
    · rename_i h
      subst h
      simp
    · split
      · simp
      · rw [List.mem_cons, mem_tins, List.mem_cons]
        constructor
        · rintro (h | h | h)
          · exact .inr (.inl h)
          · exact .inl h
          · exact .inr (.inr h)
        · rintro (h | h | h)
          · exact .inr (.inl h)
          · exact .inl h
          · exact .inr (.inr h)
theorem mem_tset {z : List Int} : ∀ {ks : List (List Int)}, z ∈ tset ks ↔ z ∈ ks
  | [] => by simp [tset]
  | k :: ks => by
    show z ∈ tins k (tset ks) ↔ _
    rw [mem_tins, mem_tset, List.mem_cons]
theorem lt_asymm' {a b : List Int} (h : a < b) : ¬ b < a := fun q => List.lt_irrefl a (List.lt_trans h q)
theorem tins_sorted {x : List Int} : ∀ {ys : List (List Int)}, ys.Pairwise (· < ·) → (tins x ys).Pairwise (· < ·)
  | [], _ => by simp [tins]
  | y :: ys, h => by
    obtain ⟨h1, h2⟩ := List.pairwise_cons.mp h
    unfold tins
    split
    · exact h
    · rename_i hne
      split
      · rename_i hlt
        exact List.pairwise_cons.mpr ⟨fun z hz => (List.mem_cons.mp hz).elim (fun e => e ▸ hlt) fun hz => List.lt_trans hlt (h1 z hz), h⟩
      · rename_i hnlt
        have hyx : y < x := by
          rcases List.le_iff_lt_or_eq.mp (List.not_lt.mp hnlt) with h | h
          · exact h
          · exact absurd h.symm hne
        refine List.pairwise_cons.mpr ⟨fun z hz => ?_, tins_sorted h2⟩
        rcases mem_tins.mp hz with e | hz
        · exact e ▸ hyx
        · exact h1 z hz
theorem tset_sorted : ∀ ks : List (List Int), (tset ks).Pairwise (· < ·)
  | [] => .nil
  | k :: ks => tins_sorted (tset_sorted ks)
/-- two strictly rising lists with the same members -/
theorem rising_eq : ∀ {a b : List (List Int)}, a.Pairwise (· < ·) → b.Pairwise (· < ·) → (∀ z, z ∈ a ↔ z ∈ b) → a = b
  | [], [], _, _, _ => rfl
  | [], y :: b, _, _, h => absurd ((h y).mpr List.mem_cons_self) (by simp)
  | x :: a, [], _, _, h => absurd ((h x).mp List.mem_cons_self) (by simp)
  | x :: a, y :: b, ha, hb, h => by
    obtain ⟨a1, a2⟩ := List.pairwise_cons.mp ha
    obtain ⟨b1, b2⟩ := List.pairwise_cons.mp hb
    have e : x = y := by
      rcases List.mem_cons.mp ((h x).mp List.mem_cons_self) with e | m
      · exact e
      · rcases List.mem_cons.mp ((h y).mpr List.mem_cons_self) with e | m'
        · exact e.symm
        · exact absurd (a1 y m') (lt_asymm' (b1 x m))
    subst e
    rw [rising_eq a2 b2 fun z => ?_]
    constructor
    · intro hz
      rcases List.mem_cons.mp ((h z).mp (List.mem_cons_of_mem _ hz)) with e | m
      · exact absurd (e ▸ a1 z hz) (List.lt_irrefl x)
      · exact m
    · intro hz
      rcases List.mem_cons.mp ((h z).mpr (List.mem_cons_of_mem _ hz)) with e | m
      · exact absurd (e ▸ b1 z hz) (List.lt_irrefl x)
      · exact m
theorem code_lt_of {B : Int} : ∀ {a b : List Int}, a.length = b.length → TS.Bd B a → TS.Bd B b → (TS.code B a < TS.code B b ↔ a < b)
  | [], [], _, _, _ => by simp [TS.code]
  | x :: a, y :: b, hl, h1, h2 => by
    have hl' : a.length = b.length := Nat.succ.inj hl
    rw [List.cons_lt_cons_iff]
    rcases Int.lt_trichotomy x y with h | h | h
    · exact ⟨fun _ => .inl h, fun _ => TS.code_lt hl' h1.tail h2.tail h⟩
    · subst h
      rw [TS.code_same hl', code_lt_of hl' h1.tail h2.tail]
      constructor
      · exact fun h => .inr ⟨rfl, h⟩
      · rintro (h | ⟨_, h⟩)
        · omega
        · exact h
    · constructor
      · intro q
        have := TS.code_lt hl'.symm h2.tail h1.tail h
        omega
      · rintro (h | ⟨h, _⟩) <;> omega
def maxOf (ks : List (List Int)) : Int := (ks.flatten.foldr max 0) + 1
theorem foldr_max : ∀ {l : List Int} {x : Int}, x ∈ l → x ≤ l.foldr max 0
  | y :: l, x, h => by
    rw [List.foldr_cons]
    rcases List.mem_cons.mp h with e | h
    · omega
    · have := foldr_max h
      omega
theorem bd_maxOf {ks : List (List Int)} {k : List Int} (hk : k ∈ ks) (h0 : ∀ x ∈ k, 0 ≤ x) : TS.Bd (maxOf ks) k := fun x hx => by
  have := foldr_max (l := ks.flatten) (List.mem_flatten.mpr ⟨k, hk, hx⟩)
  have := h0 x hx
  unfold maxOf
  omega
/-- the tuples, all of one length, of no negative number -/
def setOk (ks : List (List Int)) : Prop := ks.length < 64 ∧ (∀ k ∈ ks, ∀ l ∈ ks, k.length = l.length) ∧ (∀ k ∈ ks, k ≠ []) ∧ ∀ k ∈ ks, ∀ x ∈ k, 0 ≤ x
open Classical in
noncomputable def gSortSet : D → Option Rs
  | .nd .lst ds => (tups? ds).bind fun ks => if setOk ks then some (.own (.nd .lst ((tset ks).map tupD))) else none
  | _ => none
end B

set_option Elab.async false
set_option linter.all false
set_option maxRecDepth 100000
set_option maxHeartbeats 4000000
namespace B
open PySem PySem.Spec L2
theorem DRs.tups {K : PySem.W.Frag} {mg : Str → Option Value} {F : Hp} : ∀ {ks : List (List Int)} {vs : List V}, DRs K mg F vs (ks.map tupD) → ∃ ps : List (Addr × List Int), vs = ps.map (fun p => V.ref p.1) ∧ ps.map (·.2) = ks ∧ ∀ p ∈ ps, F p.1 = some (.tup (p.2.map V.int)) ∧ DR K mg F (.ref p.1) (tupD p.2)
  | [], _, .nil => ⟨[], rfl, rfl, fun _ h => nomatch h⟩
  | k :: ks, _, .cons (v := v) a b => by
    obtain ⟨ps, e1, e2, e3⟩ := DRs.tups b
    have ha := a
    cases a with
    | @tup t ws _ h r =>
      have := r.int_of
      subst this
      exact ⟨(t, k) :: ps, by rw [e1]; rfl, by rw [List.map_cons, e2], fun p hp => by
        rcases List.mem_cons.mp hp with e | hp
        · subst e
          exact ⟨h, ha⟩
        · exact e3 p hp⟩
theorem nodup_snd {α β : Type} : ∀ {l : List (α × β)}, (l.map (·.2)).Nodup → ∀ p ∈ l, ∀ q ∈ l, p.2 = q.2 → p = q
  | [], _, p, hp, _, _, _ => nomatch hp
  | x :: l, h, p, hp, q, hq, e => by
    rw [List.map_cons] at h
    obtain ⟨h1, h2⟩ := List.nodup_cons.mp h
    rcases List.mem_cons.mp hp with e1 | hp <;> rcases List.mem_cons.mp hq with e2 | hq
    · rw [e1, e2]
    · exact absurd (List.mem_map.mpr ⟨q, hq, by rw [← e, e1]⟩) h1
    · exact absurd (List.mem_map.mpr ⟨p, hp, by rw [e, e2]⟩) h1
    · exact nodup_snd h2 p hp q hq e
theorem rising_of {B : Int} : ∀ {l : List (List Int)}, l.Pairwise (fun a b => TS.code B a ≤ TS.code B b) → l.Nodup → (∀ a ∈ l, ∀ b ∈ l, a.length = b.length) → (∀ a ∈ l, TS.Bd B a) → l.Pairwise (· < ·)
  | [], _, _, _, _ => .nil
  | a :: l, h, nd, hl, hb => by
    obtain ⟨h1, h2⟩ := List.pairwise_cons.mp h
    obtain ⟨n1, n2⟩ := List.nodup_cons.mp nd
    refine List.pairwise_cons.mpr ⟨fun b mb => ?_, rising_of h2 n2 (fun a ma b mb => hl a (List.mem_cons_of_mem _ ma) b (List.mem_cons_of_mem _ mb)) fun a ma => hb a (List.mem_cons_of_mem _ ma)⟩
    have e := hl a List.mem_cons_self b (List.mem_cons_of_mem _ mb)
    have b1 := hb a List.mem_cons_self
    have b2 := hb b (List.mem_cons_of_mem _ mb)
    have hle := h1 b mb
    have hnl : ¬ b < a := fun q => by
      have := (code_lt_of e.symm b2 b1).mpr q
      omega
    rcases List.le_iff_lt_or_eq.mp (List.not_lt.mp hnl) with q | q
    · exact q
    · exact absurd (q ▸ mb) n1
section
variable {X : Cx} {a : Expr} {ma : M Pl} {p p2 q pos : Pos}
theorem be_sortSet (hg : Gl X "sorted") (hm : X.mg "sorted" = none) (hg2 : Gl X "set") (hm2 : X.mg "set" = none) (hc : X.calm = true) (hu : X.A.units + 64 < cLine) (ha : BP X a ma) (na : starEach [a] X.env = (false, eval a X.env) :: starEach [] X.env := by rfl)
    (nb : starEach [.Call (.Name "set" p2) [a] [] q] X.env = (false, eval (.Call (.Name "set" p2) [a] [] q) X.env) :: starEach [] X.env := by rfl) :
    BE X (.Call (.Name "sorted" p) [.Call (.Name "set" p2) [a] [] q] [] pos) (mUn gSortSet ma) := by
  refine fun W tk => (pe_callB (cr_sortedT hc) hg hm boot_sorted (pa_cons (pe_callTy (cr_setOfT hc hu) hg2 hm2 boot_set (pa_cons (ha W tk) pa_nil na) (by decide) (by decide) na) pa_nil nb) (by decide) (by decide) nb).imp fun σ H Q ⟨G, io, F, β, I, h⟩ => ?_
  refine ⟨G, io, F, β, I, h.bnd fun pl β1 v H1 F1 fe1 I1 r1 h1 => ?_⟩
  obtain ⟨F, d, r, sf, hx, hgr, q⟩ := fin1_post I1 r1 (h1.mono fe1)
  unfold gSortSet at hgr
  split at hgr
  · rename_i ds
    obtain ⟨ks, e1, e2⟩ := Option.bind_eq_some_iff.mp hgr
    split at e2
    · rename_i ok
      cases e2
      obtain ⟨k1, k2, k3, k4⟩ := ok
      have e3 := tups_of e1
      subst e3
      cases hx with
      | @lst l vs _ hl rd =>
        obtain ⟨ps, rfl, hks, hps⟩ := rd.tups
        have bd : ∀ p ∈ ps, p.2 ∈ ks := fun p hp => hks ▸ List.mem_map.mpr ⟨p, hp, rfl⟩
        refine ⟨l, ps, rfl, .inl (.inl hl), fun p hp => Same.tp sf (hps p hp).1, by rw [← hks, List.length_map] at k1; exact k1, fun s L hs sub all => ?_⟩
        have sub2 : ∀ p ∈ L, p.2 ∈ ks := fun p hp => bd p (sub p hp)
        have sh : Same H1 (upd H1 s (SetTO X.prog X.w s L)) := fun b u hb => by
          rw [upd_ne (ne_of_none hb hs)]
          exact hb
        obtain ⟨dd, hd1, hd2⟩ : ∃ dd, 1 ≤ dd ∧ ∀ p ∈ L, p.2.length = dd := by
          cases L with
          | nil => exact ⟨1, Nat.le_refl _, fun _ h => nomatch h⟩
          | cons p0 L =>
            refine ⟨p0.2.length, List.length_pos_iff.mpr (k3 _ (sub2 p0 List.mem_cons_self)), fun p hp => k2 _ (sub2 p hp) _ (sub2 p0 List.mem_cons_self)⟩
        refine ⟨s, L, dd, maxOf ks, rfl, upd_same, fun p hp => Same.tp sh (sf _ _ (hps p (sub p hp)).1), hd1, fun p hp => ⟨hd2 p hp, bd_maxOf (sub2 p hp) (k4 _ (sub2 p hp))⟩, fun L' z pm nd len pw hz => ?_⟩
        have hz1 : H1 z = none := by
          by_cases e : z = s
          · subst e
            rw [upd_same] at hz
            cases hz
          · rwa [upd_ne e] at hz
        have mL : ∀ p, p ∈ L' ↔ p ∈ L := fun p => pm.mem_iff
        have eL : L'.map (·.2) = tset ks := by
          refine rising_eq (rising_of (B := maxOf ks) (List.pairwise_map.mpr pw) nd (fun a ha b hb => ?_) fun a ha => ?_) (tset_sorted ks) fun k => ?_
          · obtain ⟨p, hp, rfl⟩ := List.mem_map.mp ha
            obtain ⟨q, hq, rfl⟩ := List.mem_map.mp hb
            exact k2 _ (sub2 p ((mL p).mp hp)) _ (sub2 q ((mL q).mp hq))
          · obtain ⟨p, hp, rfl⟩ := List.mem_map.mp ha
            exact bd_maxOf (sub2 p ((mL p).mp hp)) (k4 _ (sub2 p ((mL p).mp hp)))
          · rw [mem_tset]
            constructor
            · intro h
              obtain ⟨p, hp, rfl⟩ := List.mem_map.mp h
              exact sub2 p ((mL p).mp hp)
            · intro h
              rw [← hks] at h
              obtain ⟨p, hp, rfl⟩ := List.mem_map.mp h
              obtain ⟨q, hq, e⟩ := List.mem_map.mp (all p hp)
              exact List.mem_map.mpr ⟨q, (mL q).mpr hq, e⟩
        have dr : DRs X.K X.mg F (L'.map fun q => V.ref q.1) ((tset ks).map tupD) := by
          rw [← eL, List.map_map]
          have key : ∀ l : List (Addr × List Int), (∀ p ∈ l, DR X.K X.mg F (.ref p.1) (tupD p.2)) → DRs X.K X.mg F (l.map fun q => V.ref q.1) (l.map (tupD ∘ fun x => x.2)) := by
            intro l
            induction l with
            | nil => intro _; exact .nil
            | cons p l ih => intro h; exact .cons (h p List.mem_cons_self) (ih fun q hq => h q (List.mem_cons_of_mem _ hq))
          exact key L' fun p hp => (hps p (sub p ((mL p).mp hp))).2
        refine q _ _ ⟨fun b u hb => ?_, z, rfl, hz1, .lst upd_same dr⟩
        rw [upd_ne (ne_of_none (sh b u hb) hz)]
        exact sh b u hb
    · cases e2
  · cases hgr
end
end B

set_option Elab.async false
set_option linter.all false
set_option maxRecDepth 100000
set_option maxHeartbeats 4000000
namespace B
open PySem PySem.Spec L2
/-! ## own classes -/
/-- what the written part says of a class with an __init__ (st: its def) -/
structure ICls (K : PySem.W.Frag) (mg : Str → Option Value) (c : Str) (flds : List Str) (st : Stmt) (qual : Str) (ps : List Str) : Prop where
  ex : ∃ (C fi : Addr) (fd : FuncData), mg c = some (.ref C) ∧ Cls K C ∧ (∀ f ∈ flds, NoAttr K C f) ∧ Mk K C fi ∧ L2.Fun K "__init__" qual st fi fd ∧ Binds K fd ps []
theorem ICls.fld {X : Cx} {c : Str} {flds : List Str} {st : Stmt} {qual : Str} {ps : List Str} (Z : ICls X.K X.mg c flds st qual ps) {f : Str} (hf : f ∈ flds) : FldOk X c f := fun C e => by
  obtain ⟨C', fi, fd, g, cl, na, _⟩ := Z.ex
  cases g.symm.trans e
  exact ⟨cl, na f hf⟩
/-- a method: __eq__ -/
structure MCls (K : PySem.W.Frag) (mg : Str → Option Value) (c m : Str) (st : Stmt) (qual : Str) (ps : List Str) : Prop where
  ex : ∃ (C fi : Addr) (fd : FuncData), mg c = some (.ref C) ∧ PySem.W.findIn K (.ref C) m = some (some (.ref fi)) ∧ PySem.W.isFn K (.ref fi) = true ∧ L2.Fun K m qual st fi fd ∧ Binds K fd ps []
/-- a def's promise, wherever it is found -/
def OkM (P : Program) (w : World) (K : PySem.W.Frag) (mg : Str → Option Value) (base : Heap) (k : Nat) (c m : Str) (ps : List Str) (ks : List Bool) (r : List D → FR) : Prop :=
  ∃ (C fi : Addr) (fd : FuncData), mg c = some (.ref C) ∧ PySem.W.findIn K (.ref C) m = some (some (.ref fi)) ∧ PySem.W.isFn K (.ref fi) = true ∧ PySem.W.keepIn K (.ref fi) = true ∧ FnG P w K mg base k fi fd ps (spB K mg ks r) ∧ Binds K fd ps []
def OkI (P : Program) (w : World) (K : PySem.W.Frag) (mg : Str → Option Value) (base : Heap) (k : Nat) (c : Str) (ps : List Str) (ks : List Bool) (r : List D → FR) : Prop :=
  ∃ (C fi : Addr) (fd : FuncData), mg c = some (.ref C) ∧ Mk K C fi ∧ FnG P w K mg base k fi fd ps (spB K mg ks r) ∧ Binds K fd ps []
section
variable {P : Program} {w : World} {K : PySem.W.Frag} {mg : Str → Option Value} {base : Heap} {k : Nat} {c m qual : Str} {st : Stmt} {N ps flds : List Str} {mf : M Fl}
theorem okM_of (ks : List Bool) (L : MCls K mg c m st qual ps) (S : FnScope N ps (defScope st)) (hk : ks.length = ps.length)
    (hb : ∀ (f : Addr) (cdv : Value) (A : Around) (outer : List PySem.Env) (s : Shared) (H : Hp) (E : XK), RoomG k (A.deeper (PyProof.Rows.envOfC qual (defScope st) s.heap.objs.size f cdv)) → BSs (cxOf (L2.CX P w) P w K mg base N qual (defScope st) f cdv A outer s H E) (defBody st) mf) :
    OkM P w K mg base (k + 1) c m ps ks (runB ks N.length mf) := by
  obtain ⟨C, fi, fd, g, h1, h2, F, b⟩ := L.ex
  exact ⟨C, fi, fd, g, h1, h2, F.kp, fnB ks F S hk fun cdv A outer s H E => hb fi cdv A outer s H E, b⟩
theorem okI_of (ks : List Bool) (L : ICls K mg c flds st qual ps) (S : FnScope N ps (defScope st)) (hk : ks.length = ps.length)
    (hb : ∀ (f : Addr) (cdv : Value) (A : Around) (outer : List PySem.Env) (s : Shared) (H : Hp) (E : XK), RoomG k (A.deeper (PyProof.Rows.envOfC qual (defScope st) s.heap.objs.size f cdv)) → BSs (cxOf (L2.CX P w) P w K mg base N qual (defScope st) f cdv A outer s H E) (defBody st) mf) :
    OkI P w K mg base (k + 1) c ps ks (runB ks N.length mf) := by
  obtain ⟨C, fi, fd, g, _, _, M, F, b⟩ := L.ex
  exact ⟨C, fi, fd, g, M, fnB ks F S hk fun cdv A outer s H E => hb fi cdv A outer s H E, b⟩
end
theorem FnG.imp {P : Program} {w : World} {K : PySem.W.Frag} {mg : Str → Option Value} {base : Heap} {k : Nat} {f : Addr} {fd : FuncData} {ps : List Str} {sp sp' : Sp} (F : FnG P w K mg base k f fd ps sp) (h : ∀ vs H Q E, sp' vs H Q E → sp vs H Q E) : FnG P w K mg base k f fd ps sp' :=
  ⟨fun vs H Q E q => F.len vs H Q E (h _ _ _ _ q), fun hr e0 b r q => F.run hr e0 b r (h _ _ _ _ q)⟩
def lenN (n : Nat) (f : List D → FR) (ds : List D) : FR := if ds.length = n then f ds else .stuck
theorem spB_lenN {K : PySem.W.Frag} {mg : Str → Option Value} {ks : List Bool} {n : Nat} {f : List D → FR} {vs : List V} {H : Hp} {Q : VK} {E : XK} (h : spB K mg ks (lenN n f) vs H Q E) : spB K mg ks f vs H Q E := by
  obtain ⟨T, F, io, ds, h0, h1, h2, h3, h4, h5⟩ := h
  refine ⟨T, F, io, ds, h0, h1, h2, h3, h4, ?_⟩
  unfold lenN at h5
  by_cases hl : ds.length = n
  · rwa [if_pos hl] at h5
  · rw [if_neg hl] at h5
    exact h5.elim
def mMk (c : Str) (n : Nat) (f : List D → FR) (ma : M (List Pl)) : M Rs := mMake c (lenN (n + 1) f) ma
section
variable {X : Cx} {k j : Nat} {x c : Str} {p pos : Pos} {e : Expr} {es : List Expr} {ma : M (List Pl)} {prm : List Str} {g : List D → FR}
theorem be_mk (n : Nat) (O : OkI X.prog X.w X.K X.mg X.base j x prm (true :: List.replicate n false) g) (hr : RoomG k X.A) (hjk : j + 1 ≤ k) (ha : BA X (e :: es) ma) (hg : Gl X x := by rfl) (hdb : (x == ("__debug__" : Str)) = false := by decide)
    (he : starEach (e :: es) X.env = (false, eval e X.env) :: starEach es X.env := by rfl) (hpl : (backTo pos (starEach es X.env)).any (·.1) = false := by rfl) :
    BE X (.Call (.Name x p) (e :: es) [] pos) (mMk x n g ma) := by
  obtain ⟨C, fi, fd, gC, M, F, b⟩ := O
  refine be_make n M (F.imp fun _ _ _ _ => spB_lenN (n := n + 1)) (hr.mono hjk) gC b (fun ps ds _ h => Decidable.byContradiction fun q => h ?_) ha hg hdb he hpl
  unfold lenN
  rw [if_neg]
  rw [List.length_cons]
  omega
/-! ### == and != by the class's own __eq__ -/
def eqRun (c : Str) (g : List D → FR) : D → D → Option Bool
  | .nd (.ins c1 n1) d1, .nd (.ins c2 n2) d2 => if c1 = c ∧ c2 = c then (match g [.nd (.ins c1 n1) d1, .nd (.ins c2 n2) d2] with
    | .ok (.fz (.bl b)) [] => some b
    | _ => none) else none
  | _, _ => none
def gOwnEq (c : Str) (g : List D → FR) (d e : D) : Option Rs := (eqRun c g d e).map fun b => .fz (.bl b)
def gOwnNe (c : Str) (g : List D → FR) (d e : D) : Option Rs := (eqRun c g d e).map fun b => .fz (.bl (!b))
theorem eqRun_some {c : Str} {g : List D → FR} {d e : D} {b : Bool} (h : eqRun c g d e = some b) : ∃ n1 d1 n2 d2, d = .nd (.ins c n1) d1 ∧ e = .nd (.ins c n2) d2 ∧ g [d, e] = .ok (.fz (.bl b)) [] := by
  unfold eqRun at h
  split at h
  · split at h
    · rename_i hc
      obtain ⟨h1, h2⟩ := hc
      subst h1 h2
      split at h
      · rename_i hb
        cases h
        exact ⟨_, _, _, _, rfl, rfl, hb⟩
      · cases h
    · cases h
  · cases h
/-- the run of the class's own __eq__ -/
theorem eq_code {pins : List (Addr × Obj)} {σ : L2.St} {s : Shared} {H : Hp} {f a b : Addr} {fd : FuncData} {ps : List Str} {g : List D → FR} {d e : D} {r : Bool} {A : PySem.Around} (Fn : FnG X.prog X.w X.K X.mg X.base j f fd ps (spB X.K X.mg [false, false] g)) (hr : RoomG j A) (hA : A.frames = X.A.frames) (hb : Binds X.K fd ps [])
    (I : Inv X pins σ H s) (hx : DR X.K X.mg H (.ref a) d) (hy : DR X.K X.mg H (.ref b) e) (hg : g [d, e] = .ok (.fz (.bl r)) []) :
    codeAny (model X.prog X.w) A (.call (.ref f) ⟨[.ref a, .ref b], []⟩) (fun q s' => q = .ok (.ret (.bool r)) ∧ ∃ H', Inv X pins σ H' s' ∧ Same H H') s := by
  have hsp : spB X.K X.mg [false, false] g [.ref a, .ref b] H (fun v H' => v = .bl r ∧ Same H H') (fun _ _ _ => False) := by
    refine ⟨fun _ => none, H, [], [d, e], ⟨fun _ _ z => (nomatch z), fun _ _ => rfl⟩, Same.refl _, (fun _ h => nomatch h), .nil, .fz hx (.fz hy .nil), ?_⟩
    rw [hg]
    intro v H' F' A' rr
    cases (show DR X.K X.mg F' v (.bl r) from rr)
    exact ⟨rfl, fun b o h => A'.keep b o h (by simp) rfl⟩
  have r2 : Vals [V.ref a, V.ref b] [Value.ref a, Value.ref b] := .cons rfl (.cons rfl .nil)
  have hl := Fn.len _ _ _ _ hsp
  have e0 : Env0 X.prog X.w X.K X.mg X.base A X.stack s H := by
    have e := I.env0
    exact ⟨by rw [hA]; exact e.frames, e.mod, e.bs, e.bsz, e.funs, e.frf, e.hok, e.bare⟩
  refine codeAny_mono (Fn.run hr e0 (us := [.ref a, .ref b]) (by
    have := hb s [.ref a, .ref b] I.kIn (by simpa using hl)
    simpa using this) r2 hsp) fun q s' hq => ?_
  cases q with
  | error er =>
    obtain ⟨_, _, _, _, _, _, _, _, _, _, _, _, q⟩ := hq
    exact q.elim
  | ok fl =>
    cases fl with
    | ret w =>
      obtain ⟨z, H', I', rz, ez, ex⟩ := I.after hq
      subst ez
      cases rz
      exact ⟨rfl, H', I', ex⟩
    | next => exact False.elim hq
    | brk => exact False.elim hq
    | cont => exact False.elim hq
theorem opd_ownEq (O : OkM X.prog X.w X.K X.mg X.base j c "__eq__" prm [false, false] g) (hr : RoomG k X.A) (hjk : j ≤ k) : OpD X (compareOp .Eq) (gOwnEq c g) := by
  obtain ⟨C, f, fd, gC, hs, hf, kp, Fn, hb⟩ := O
  intro pins s σ H x y v u Q I rx ry ⟨F, d, e, rs, sf, hx, hy, hg, q⟩
  obtain ⟨b, eb, hrs⟩ := Option.map_eq_some_iff.mp hg
  subst hrs
  obtain ⟨n1, d1, n2, d2, ed, ee, hrun⟩ := eqRun_some eb
  have dx := hx.dr sf
  have dy := hy.dr sf
  subst ed ee
  cases hx with
  | @ins a C1 dxa _ fs _ ha g1 r1 =>
    cases hy with
    | @ins b' C2 dxb _ fs2 _ hb' g2 r2 =>
      cases g1.symm.trans gC
      cases g2.symm.trans gC
      cases rx
      cases ry
      obtain ⟨mA, J, _⟩ := ins_get I.hok ha
      obtain ⟨mB, J', _⟩ := ins_get I.hok hb'
      obtain ⟨od, J, _⟩ := J.look
      obtain ⟨od', J', _⟩ := J'.look
      obtain ⟨m, hF⟩ := I.fr
      refine PySem.W.cmp_K (op := .Eq) (tb := .ref C) hr.r.units0 hF I.ok.mod.kin J J'.type (by simp [PySem.W.notFirst]) hs hf ?_
      refine wpAny_call (codeAny_mono (eq_code Fn (hr.mono hjk) rfl hb I dx dy hrun) fun q1 s1 ⟨e1, H1, I1, sh⟩ => ?_)
      subst e1
      exact ⟨.bl b, H1, I1, rfl, q _ _ ⟨sh, F, Same.refl _, fun _ _ h => .inl h, sf.trans sh, .bl b⟩⟩
/-- what the written part says for != by == -/
structure NeCls (K : PySem.W.Frag) (C f : Addr) : Prop where
  ex : ∃ nm q N bs hdct sn sub ab col dd k0 k1 k2 k3 k5 newId, K.lookup C = some (excClassObj nm q C N bs [.type "object"] hdct sn sub ab col dd k0 k1 k2 k3 k5 newId) ∧ PySem.W.nsOkIn K N = true ∧ PySem.W.nsIn K N "__eq__" = some (some (.ref f)) ∧ PySem.W.nsIn K N "__ne__" = some none
theorem ns_at {K : PySem.W.Frag} {h : Heap} {N : Addr} {m1 : Str → Option Value} {nm : Str} {v : Value} (KX : K.In h) (Gn : h.Ns N m1) (q : PySem.W.nsIn K N nm = some (some v)) : m1 nm = some v := by
  obtain ⟨ob, ens, epx, gt, dt, _, fd⟩ := Gn
  unfold PySem.W.nsIn at q
  split at q
  · rename_i c1 d1 e1 n1 s1 lk
    have z := KX _ _ lk
    rw [gt] at z
    cases z
    cases dt
    split at q
    · rename_i en hen
      cases q
      rw [← fd]
      unfold nsFind findBy
      rw [← Array.find?_toList, hen]
      rfl
    · split at q <;> cases q
  · cases q
theorem NeCls.own {K : PySem.W.Frag} {C f a : Addr} {h : Heap} {ox : Obj} (Z : NeCls K C f) (KX : K.In h) (hf : PySem.W.isFn K (.ref f) = true) (hx : h.get? a = some ox) (hc : ox.cls = .ref C) : h.OwnEqNoNe a C f "object" [.type "object"] := by
  obtain ⟨nm, q, N, bs, hdct, sn, sub, ab, col, dd, k0, k1, k2, k3, k5, newId, l1, l2, l3, l4⟩ := Z.ex
  have ns := Heap.Ns.of_isNs (PySem.W.isNs_of_in KX l2)
  have tf := beq_iff_eq.mp hf
  obtain ⟨of, ef, ec⟩ : ∃ of, h.get? f = some of ∧ of.cls = .type "function" := by
    have tf : Option.map (fun x : Obj => x.cls) (List.lookup f K) = some (.type "function") := tf
    cases e : List.lookup f K with
    | none => rw [e] at tf; cases tf
    | some o =>
      rw [e] at tf
      exact ⟨o, KX _ _ e, Option.some.inj tf⟩
  exact ⟨ox, of, nm, q, N, bs, hdct, sn, sub, ab, col, dd, k0, k1, k2, k3, k5, newId, _, _, hx, hc, KX _ _ l1, ns, ns_at KX ns l3, ef, ec, PySem.F.cmp_object.mro, PySem.F.cmp_object.eq.lookup, PySem.W.nsMap_none_of_in KX l2 l4⟩
theorem opd_ownNe (O : OkM X.prog X.w X.K X.mg X.base j c "__eq__" prm [false, false] g) (Z : ∀ C f, X.mg c = some (.ref C) → PySem.W.findIn X.K (.ref C) "__eq__" = some (some (.ref f)) → NeCls X.K C f) (hr : RoomG k X.A) (hjk : j + 1 ≤ k) : OpD X (compareOp .NotEq) (gOwnNe c g) := by
  obtain ⟨C, f, fd, gC, hs, hf, kp, Fn, hb⟩ := O
  intro pins s σ H x y v u Q I rx ry ⟨F, d, e, rs, sf, hx, hy, hg, q⟩
  obtain ⟨b, eb, hrs⟩ := Option.map_eq_some_iff.mp hg
  subst hrs
  obtain ⟨n1, d1, n2, d2, ed, ee, hrun⟩ := eqRun_some eb
  have dx := hx.dr sf
  have dy := hy.dr sf
  subst ed ee
  cases hx with
  | @ins a C1 dxa _ fs _ ha g1 r1 =>
    cases hy with
    | @ins b' C2 dxb _ fs2 _ hb' g2 r2 =>
      cases g1.symm.trans gC
      cases g2.symm.trans gC
      cases rx
      cases ry
      obtain ⟨mA, J, _⟩ := ins_get I.hok ha
      obtain ⟨mB, J', _⟩ := ins_get I.hok hb'
      obtain ⟨od, J, _⟩ := J.look
      obtain ⟨od', J', _⟩ := J'.look
      have OW := (Z C f gC hs).own I.kIn hf J.at_ J.cls
      have hu := hr.r.un
      obtain ⟨hp, gg, dd, tt, os⟩ := s
      refine compareOp_ne_ownEq PySem.F.cmp_object OW J'.at_ J'.cls (by omega) ?_
      have hr1 : RoomG j X.A.in1 := ⟨(hr.r.mono hjk).in1, hr.g⟩
      refine wpAny_call (codeAny_mono (eq_code Fn hr1 rfl hb I dx dy hrun) fun q1 s1 ⟨e1, H1, I1, sh⟩ => ?_)
      subst e1
      exact ⟨b, rfl, .bl (!b), H1, I1, rfl, q _ _ ⟨sh, F, Same.refl _, fun _ _ h => .inl h, sf.trans sh, .bl _⟩⟩
/-! ### isinstance(x, C) -/
structure IsiC (K : PySem.W.Frag) (mg : Str → Option Value) (c : Str) : Prop where
  ex : ∃ C : Addr, mg c = some (.ref C) ∧ Cls K C ∧ PySem.W.findIn K (.ref C) "__class__" = some (some (.builtin "object.__class__")) ∧ PySem.W.specialIn K (.builtin "object.__class__") "__get__" = some (some (.builtin "getset_descriptor.__get__")) ∧
    PySem.W.takesIn K (.builtin "object.__class__") = some true ∧ PySem.W.mroIn K C (.type "object") = some true ∧ PySem.W.kitOne K (.ref C) (.ref C) = some true ∧ ∀ t ∈ ["NoneType", "bool", "int", "str", "tuple", "list", "dict"], PySem.W.kitOne K (.type t) (.ref C) = some false
def gIsiC (c : Str) : D → Option Rs
  | .nd (.ins c' ns) ds => if c' = c then some (.fz (.bl true)) else none
  | d => (tyD d).map fun _ => .fz (.bl false)
theorem tyD_mem {d : D} {t : String} (h : tyD d = some t) : t ∈ ["NoneType", "bool", "int", "str", "tuple", "list", "dict"] := by
  cases d with
  | nd tg ds => cases tg <;> cases h <;> decide
  | non => cases h; decide
  | bl b => cases h; decide
  | int b => cases h; decide
  | str b => cases h; decide
theorem be_isiC {y : Str} {a : Expr} {ma : M Pl} {p2 : Pos} (Z : IsiC X.K X.mg y) (hm : X.mg "isinstance" = none) (ha : BP X a ma) (hg : Gl X "isinstance" := by rfl) (hg2 : Gl X y := by rfl) (hd : (y == ("__debug__" : Str)) = false := by decide)
    (hs : starEach [a, .Name y p2] X.env = (false, eval a X.env) :: starEach [.Name y p2] X.env := by rfl) : BE X (.Call (.Name "isinstance" p) [a, .Name y p2] [] pos) (mUn (gIsiC y) ma) := by
  obtain ⟨C, gC, cl, h1, h2, h3, h4, h5, h6⟩ := Z.ex
  refine fun W tk => (pe_callB call_isi hg hm boot_isinstance (pa_cons (ha W tk) (pa_cons (pe_glob (v := .ref C) hg2 gC rfl hd) pa_nil) hs) (by decide) (by decide) hs).imp fun σ H Q ⟨G, io, F, β, I, h⟩ => ?_
  refine ⟨G, io, F, β, I, h.bnd fun pl β1 v H1 F1 fe1 I1 r1 hh => ?_⟩
  obtain ⟨F, d, r, sf, hx, hgr, q⟩ := fin1_post I1 r1 (hh.mono fe1)
  unfold gIsiC at hgr
  split at hgr
  · split at hgr
    · rename_i ec
      cases hgr
      subst ec
      cases hx with
      | ins e g1 rr =>
        cases g1.symm.trans gC
        exact ⟨_, _, _, _, true, rfl, .own C, .base (.ins e cl h1 h2 h3 h4), h5, q _ _ (NR.val sf (.bl true))⟩
    · cases hgr
  · obtain ⟨t, et, er⟩ := Option.map_eq_some_iff.mp hgr
    cases er
    exact ⟨_, _, _, _, false, rfl, .own C, hx.tyx sf et, h6 t (tyD_mem et), q _ _ (NR.val sf (.bl false))⟩
end
/-! ## by what is wished for -/
section
variable {β : B.Env} {E : Exn → B.Env → Prop}
def mkW (r : Rs) (ios : List D) (P : D → Prop) : Prop := match r, ios with
  | .fz .non, [d] => P d
  | _, _ => False
@[simp ↓] theorem mkW_mk {d : D} {P : D → Prop} : mkW (.fz .non) [d] P ↔ P d := Iff.rfl
@[simp ↓] theorem W_mMk {c : Str} {n : Nat} {f : List D → FR} {ma : M (List Pl)} {Q : Rs → B.Env → Prop} : W (mMk c n f ma) β Q E ↔ W ma β (fun ps β1 => optW (allD ps) fun ds => ds.length = n ∧ FW (f (insD c [] :: ds)) (fun r ios => mkW r ios fun d => Q (.fz d) β1) (fun x _ => E x β1)) E := by
  unfold mMk mMake
  refine W_bnd.trans (W_congr fun ps β1 => ?_)
  unfold W makeF
  cases allD ps with
  | none => with_unfolding_all rfl
  | some ds =>
    simp only [optW_some]
    unfold lenN
    rw [List.length_cons]
    by_cases h : ds.length = n
    · rw [if_pos (by omega)]
      unfold FW
      cases f (insD c [] :: ds) with
      | stuck => simp [h]
      | exc x ios => simp [h]
      | ok r ios =>
        simp only [h, true_and]
        unfold mkW
        rcases r with d | d
        · cases d with
          | non =>
            rcases ios with _ | ⟨d, _ | ⟨d2, l⟩⟩ <;> with_unfolding_all exact Iff.rfl
          | _ => with_unfolding_all exact Iff.rfl
        · with_unfolding_all exact Iff.rfl
    · rw [if_neg (by omega)]
      simp [h]
end
end B

set_option Elab.async false
set_option linter.all false
set_option maxRecDepth 100000
set_option maxHeartbeats 4000000
namespace B
open PySem PySem.Spec L2
/-! ## tables of exceptions' classes -/
theorem lookup_mem {l : List (Str × Bool)} {k : Str} {b : Bool} (h : l.lookup k = some b) : (k, b) ∈ l := by
  induction l with
  | nil => cases h
  | cons p l ih =>
    obtain ⟨x, y⟩ := p
    rw [List.lookup_cons] at h
    cases e : k == x with
    | true =>
      rw [e] at h
      cases h
      rw [eq_of_beq e]
      exact List.mem_cons_self
    | false =>
      rw [e] at h
      exact List.mem_cons_of_mem _ (ih h)
def tabF (l : List (Str × Bool)) : Str → Option Bool := fun c => l.lookup c
/-- a clause's class -/
structure XExm (K : PySem.W.Frag) (mg : Str → Option Value) (x : Str) (l : List (Str × Bool)) : Prop where
  ex : ∃ C : Addr, mg x = some (.ref C) ∧ ∀ p ∈ l, ∀ cls, mg p.1 = some cls → PySem.W.exmOne K cls (.ref C) = some p.2
structure XKit (K : PySem.W.Frag) (mg : Str → Option Value) (y : Str) (l : List (Str × Bool)) : Prop where
  ex : ∃ C : Addr, mg y = some (.ref C) ∧ ∀ p ∈ l, XIs K mg p.1 ∧ ∀ cls, mg p.1 = some cls → PySem.W.kitOne K cls (.ref C) = some p.2
structure XKitB (K : PySem.W.Frag) (mg : Str → Option Value) (y : Str) (n : String) (l : List (Str × Bool)) : Prop where
  ex : mg y = none ∧ bootBuiltins y = some (.type n) ∧ ∀ p ∈ l, XIs K mg p.1 ∧ ∀ cls, mg p.1 = some cls → PySem.W.kitOne K cls (.type n) = some p.2
inductive NmAt (mg : Str → Option Value) : List Str → List Addr → Prop
  | nil : NmAt mg [] []
  | cons {y : Str} {C : Addr} {ys : List Str} {cs : List Addr} : mg y = some (.ref C) → NmAt mg ys cs → NmAt mg (y :: ys) (C :: cs)
structure XKitT (K : PySem.W.Frag) (mg : Str → Option Value) (ys : List Str) (l : List (Str × Bool)) : Prop where
  ex : ∃ cs : List Addr, NmAt mg ys cs ∧ ∀ p ∈ l, XIs K mg p.1 ∧ ∀ cls, mg p.1 = some cls → PySem.W.kitAny K cls (cs.map Value.ref) = some p.2
section
variable {X : Cx} {x n : Str} {i : Nat} {m : Su} {b₀ : Stmt} {suite : List Stmt} {np pos' : Pos} {hds : List ExceptHandler} {hs : List Hd} {l : List (Str × Bool)}
theorem hd_as (Z : XExm X.K X.mg x l) (hN : X.N.Nodup) (hsu : ∀ (a : Addr) (oe : Obj) (cls : Value) (d : Option Addr) (pn : List (Addr × Obj)), Zc cls d oe → (∃ vs, oe.data = .fields vs) → BSs (X.suite a ((a, oe) :: pn)) (b₀ :: suite) (m a cls d)) (r : HdB X hds hs)
    (hg : Gl X x := by rfl) (hd : (x == ("__debug__" : Str)) = false := by decide) (hn : X.N[i]? = some n := by rfl) (hln : X.env.kindOf n = some .local := by rfl) : HdB X (.ExceptHandler (some (.Name x np)) (some n) (b₀ :: suite) pos' :: hds) (⟨tabF l, some i, m⟩ :: hs) := by
  obtain ⟨C, gC, k⟩ := Z.ex
  exact .named rfl ⟨hg, hd, .inl gC⟩ (fun nm cls b e => k _ (lookup_mem e) cls) hN hn hln hsu r
theorem hd_no (Z : XExm X.K X.mg x l) (hsu : ∀ (a : Addr) (oe : Obj) (cls : Value) (d : Option Addr) (pn : List (Addr × Obj)), Zc cls d oe → (∃ vs, oe.data = .fields vs) → BSs (X.suite a ((a, oe) :: pn)) (b₀ :: suite) (m a cls d)) (r : HdB X hds hs)
    (hg : Gl X x := by rfl) (hd : (x == ("__debug__" : Str)) = false := by decide) : HdB X (.ExceptHandler (some (.Name x np)) none (b₀ :: suite) pos' :: hds) (⟨tabF l, none, m⟩ :: hs) := by
  obtain ⟨C, gC, k⟩ := Z.ex
  exact .cons rfl ⟨hg, hd, .inl gC⟩ (fun nm cls b e => k _ (lookup_mem e) cls) hsu r
end
section
variable {X : Cx} {a : Addr} {oe : Obj} {pn : List (Addr × Obj)} {cls : Value} {d : Option Addr} {x y : Str} {i : Nat} {p px py pos : Pos} {l : List (Str × Bool)}
theorem be_isX (hz : Zc cls d oe) (hf : ∃ vs, oe.data = .fields vs) (O : XObj X.K) (Z : XKit X.K X.mg y l) (hm : X.mg "isinstance" = none) (hN : X.N[i]? = some x := by rfl) (hv : Vis X.env.scope x := by first | exact Or.inl rfl | exact Or.inr (Or.inl rfl) | exact Or.inr (Or.inr rfl)) (hg : Gl X "isinstance" := by rfl) (hg2 : Gl X y := by rfl)
    (hd : (x == ("__debug__" : Str)) = false := by decide) (hcd : (x == ("__classdict__" : Str)) = false := by decide) (hd2 : (y == ("__debug__" : Str)) = false := by decide) (he : starEach [.Name x px, .Name y py] (X.suite a ((a, oe) :: pn)).env = (false, eval (.Name x px) (X.suite a ((a, oe) :: pn)).env) :: starEach [.Name y py] (X.suite a ((a, oe) :: pn)).env := by rfl) :
    BE (X.suite a ((a, oe) :: pn)) (.Call (.Name "isinstance" p) [.Name x px, .Name y py] [] pos) (mIsE i (tabF l) a cls d) := by
  obtain ⟨C, gC, k⟩ := Z.ex
  exact be_isE hz hf O (.own C hg2 gC hd2) (fun c b e => k _ (lookup_mem e)) hm hN hv hg hd hcd he
theorem be_isXB {n : String} (hz : Zc cls d oe) (hf : ∃ vs, oe.data = .fields vs) (O : XObj X.K) (Z : XKitB X.K X.mg y n l) (hm : X.mg "isinstance" = none) (hN : X.N[i]? = some x := by rfl) (hv : Vis X.env.scope x := by first | exact Or.inl rfl | exact Or.inr (Or.inl rfl) | exact Or.inr (Or.inr rfl)) (hg : Gl X "isinstance" := by rfl) (hg2 : Gl X y := by rfl)
    (hd : (x == ("__debug__" : Str)) = false := by decide) (hcd : (x == ("__classdict__" : Str)) = false := by decide) (hd2 : (y == ("__debug__" : Str)) = false := by decide) (hn2 : y ≠ "__name__" := by decide) (he : starEach [.Name x px, .Name y py] (X.suite a ((a, oe) :: pn)).env = (false, eval (.Name x px) (X.suite a ((a, oe) :: pn)).env) :: starEach [.Name y py] (X.suite a ((a, oe) :: pn)).env := by rfl) :
    BE (X.suite a ((a, oe) :: pn)) (.Call (.Name "isinstance" p) [.Name x px, .Name y py] [] pos) (mIsE i (tabF l) a cls d) := by
  obtain ⟨hm2, hb, k⟩ := Z.ex
  exact be_isE hz hf O (.ty n hg2 hm2 hb hn2 hd2) (fun c b e => k _ (lookup_mem e)) hm hN hv hg hd hcd he
/-- the names of a tuple of classes -/
inductive NmsE (X : Cx) : List Str → List Expr → Prop
  | nil : NmsE X [] []
  | cons {y : Str} {py : Pos} {ys : List Str} {es : List Expr} (hg : Gl X y) (hd : (y == ("__debug__" : Str)) = false) (hs : starEach (.Name y py :: es) X.env = (false, eval (.Name y py) X.env) :: starEach es X.env) : NmsE X ys es → NmsE X (y :: ys) (.Name y py :: es)
theorem NmsE.all {ys : List Str} {es : List Expr} {cs : List Addr} (h : NmsE X ys es) (hc : NmAt X.mg ys cs) : ClsNms X ys (cs.map V.ref) (cs.map Value.ref) ∧ PA (X.suite a ((a, oe) :: pn)) es (tCs (cs.map V.ref)) := by
  induction h generalizing cs with
  | nil =>
    cases hc
    exact ⟨.nil, pa_nil⟩
  | cons hg hd hs _ ih =>
    cases hc with
    | cons g r =>
      obtain ⟨h1, h2⟩ := ih r
      exact ⟨.cons (.own _ hg g hd) h1, pa_cons (pe_clsnm (.own _ hg g hd)) h2 hs⟩
theorem be_isXT {ys : List Str} {es : List Expr} {x1 : Nat} {tpos : Pos} (hz : Zc cls d oe) (hf : ∃ vs, oe.data = .fields vs) (O : XObj X.K) (Z : XKitT X.K X.mg ys l) (ne : NmsE X ys es) (hm : X.mg "isinstance" = none) (hN : X.N[i]? = some x := by rfl) (hv : Vis X.env.scope x := by first | exact Or.inl rfl | exact Or.inr (Or.inl rfl) | exact Or.inr (Or.inr rfl)) (hg : Gl X "isinstance" := by rfl)
    (hl : ys.length ≤ 100 := by decide) (hd : (x == ("__debug__" : Str)) = false := by decide) (hcd : (x == ("__classdict__" : Str)) = false := by decide)
    (he : starEach [.Name x px, .Tuple es x1 tpos] (X.suite a ((a, oe) :: pn)).env = (false, eval (.Name x px) (X.suite a ((a, oe) :: pn)).env) :: starEach [.Tuple es x1 tpos] (X.suite a ((a, oe) :: pn)).env := by rfl) :
    BE (X.suite a ((a, oe) :: pn)) (.Call (.Name "isinstance" p) [.Name x px, .Tuple es x1 tpos] [] pos) (mIsE i (tabF l) a cls d) := by
  obtain ⟨cs, hc, k⟩ := Z.ex
  obtain ⟨h1, h2⟩ := ne.all hc
  have len : ∀ {ys : List Str} {cs : List Addr}, NmAt X.mg ys cs → cs.length = ys.length := by
    intro ys cs h
    induction h with
    | nil => rfl
    | cons _ _ ih => rw [List.length_cons, List.length_cons, ih]
  exact be_isET hz hf O h1 h2 (fun c b e => k _ (lookup_mem e)) hm hN hv hg (by rw [List.length_map, len hc]; exact hl) hd hcd he
end
/-! ## how these are told from the written part -/
theorem XIs.of {K : PySem.W.Frag} {mg : Str → Option Value} {c : Str} {C : Addr} (g : mg c = some (.ref C)) (h1 : PySem.W.findIn K (.ref C) "__getattribute__" = some (some (.builtin "BaseException.__getattribute__"))) (h2 : PySem.W.findIn K (.ref C) "__getattr__" = some none) (h3 : PySem.W.subIn K (.ref C) (.type "BaseException") = some true)
    (h4 : PySem.W.findIn K (.ref C) "__class__" = some (some (.builtin "object.__class__"))) (h5 : PySem.W.hasDictIn K C = true) (h6 : PySem.W.mroIn K C (.type "object") = some true) : XIs K mg c := by
  obtain ⟨cd, hc, _⟩ := PySem.W.any_some h5
  exact ⟨C, g, by rw [hc]; rfl, h1, h2, h3, h4, h5, h6⟩
theorem at_pair {mg : Str → Option Value} {c : Str} {C : Addr} {P : Value → Prop} (g : mg c = some (.ref C)) (h : P (.ref C)) : ∀ cls, mg c = some cls → P cls := fun cls e => by
  cases g.symm.trans e
  exact h
theorem all_nil {P : Str × Bool → Prop} : ∀ p ∈ ([] : List (Str × Bool)), P p := fun _ h => nomatch h
theorem all_cons {P : Str × Bool → Prop} {q : Str × Bool} {l : List (Str × Bool)} (h : P q) (r : ∀ p ∈ l, P p) : ∀ p ∈ q :: l, P p := fun p hp => by
  rcases List.mem_cons.mp hp with e | hp
  · exact e ▸ h
  · exact r p hp
theorem mem_nil {α : Type} {P : α → Prop} : ∀ p ∈ ([] : List α), P p := fun _ h => nomatch h
theorem mem_cons {α : Type} {P : α → Prop} {q : α} {l : List α} (h : P q) (r : ∀ p ∈ l, P p) : ∀ p ∈ q :: l, P p := fun p hp => by
  rcases List.mem_cons.mp hp with e | hp
  · exact e ▸ h
  · exact r p hp
def xfOk (l : List Str) (c : Str) : Bool := decide (c ∈ l)
theorem xfOk_all {K : PySem.W.Frag} {mg : Str → Option Value} {f : Str} {l : List Str} (h : ∀ c ∈ l, XFld K mg c f) : ∀ k, xfOk l k = true → XFld K mg k f := fun k e => h k (of_decide_eq_true e)
/-! methods in a suite -/
theorem ms_index {X : Cx} {a : Addr} {pn : List (Addr × Obj)} {k : Nat} (r : RoomG k X.A) : MetD (X.suite a pn) "list" "list.index" gIndex := by
  refine ⟨_, mt_indexD (X := X.suite a pn) r.u65, fun F H x d xs ds rs Q sf hx hxs ht hg q => ?_⟩
  unfold gIndex at hg
  split at hg
  · split at hg
    · rename_i l e hc
      obtain ⟨h1, h2⟩ := hc
      obtain ⟨j, hj, e2⟩ := Option.map_eq_some_iff.mp hg
      cases e2
      obtain ⟨hlt, hp, hb⟩ := List.findIdx?_eq_some_iff_getElem.mp hj
      cases hxs with
      | cons he hn =>
        cases hn
        have hl := (hx.dr sf).dp (shp_lay h2)
        cases hx with
        | lst hx rx =>
          refine ⟨_, _, toPy e, toPys l, j, toPy l[j], rfl, rfl, hl, (he.dr sf).dp (shp_lay h1), h2, h1, ?_, hp, fun m z' hm hz => ?_, q _ _ (NR.val sf (.int _))⟩
          · rw [toPys_get, List.getElem?_eq_getElem hlt]
            rfl
          · rw [toPys_get, List.getElem?_eq_getElem (by omega)] at hz
            cases hz
            have := hb m hm
            simpa [eqv] using this
    · cases hg
  · cases hg
theorem ms_count {X : Cx} {a : Addr} {pn : List (Addr × Obj)} {k : Nat} (r : RoomG k X.A) : MetD (X.suite a pn) "list" "list.count" gCount := by
  refine ⟨_, mt_countD (X := X.suite a pn) r.u65, fun F H x d xs ds rs Q sf hx hxs ht hg q => ?_⟩
  unfold gCount at hg
  split at hg
  · split at hg
    · rename_i l e hc
      obtain ⟨h1, h2, h3, h4⟩ := hc
      cases hg
      cases hxs with
      | cons he hn =>
        cases hn
        have hl := (hx.dr sf).dp (shp_lay h2)
        cases hx with
        | lst hx rx =>
          refine ⟨_, _, toPy e, toPys l, rfl, rfl, hl, (he.dr sf).dp (shp_lay h1), h3, h4, ?_, ?_⟩
          · unfold shp SeqAt.shaped at h1
            rw [Bool.and_eq_true, decide_eq_true_eq] at h1
            omega
          · rw [count_py]
            exact q _ _ (NR.val sf (.int _))
    · cases hg
  · cases hg
end B

set_option Elab.async false
set_option linter.all false
set_option maxRecDepth 100000
set_option maxHeartbeats 4000000
namespace B
open PySem PySem.Spec L2
/-! ## list(range(n)) -/
section
variable {X : Cx}
theorem cr_range1 : CallR X (.type "range") (fun vs H Q => ∃ j, vs = [V.int j] ∧ ∀ p, H p = none → Q (.ref p) (upd H p (.rng 0 j))) := by
  intro pins s σ H vs us Q I r h
  obtain ⟨j, rfl, q⟩ := h
  obtain ⟨u1, rfl, rj⟩ := r.one
  obtain ⟨t, rfl⟩ := rj
  refine call_range_1 ⟨.ref s.heap.objs.size, upd H s.heap.objs.size (.rng 0 j), I.laid (t' := s.toks + 1 + 1) (fun b o e => Heap.get?_push_of_some _ e) (Nat.le_refl _) ⟨s.toks, t, s.toks + 1, Heap.get?_push_size _ rfl⟩, rfl, q _ (I.hok.fresh (Nat.le_refl _))⟩
theorem cr_listRng (hc : X.calm = true) : CallR X (.type "list") (fun vs H Q => ∃ (r : Addr) (n : Nat), vs = [V.ref r] ∧ H r = some (.rng 0 (n : Int)) ∧ n ≤ 1000000 ∧ ∀ p, H p = none → Q (.ref p) (upd H p (.lst ((List.range n).map fun i : Nat => V.int (i : Int))))) := by
  intro pins s σ H vs us Q I r h
  obtain ⟨a, n, rfl, ha, hn, q⟩ := h
  obtain ⟨u1, rfl, rj⟩ := r.one
  cases rj
  obtain ⟨t, u, v, e⟩ := (show ObjOk X.prog X.w H s.heap a (.rng 0 (n : Int)) from I.hok a _ ha)
  have sz : Builtin.Range.rangeSize 0 (n : Int) 1 = n := by
    rw [rangeSize_one]
    split <;> omega
  have sm : Builtin.Range.small 0 (n : Int) 1 = true := small_one (by decide) (by decide) (by omega) (by omega)
  refine call_list_range (I.ok.hd hc) e sm sz (by omega) fun h' tk acc' c' k he hi => ?_
  refine ⟨.ref s.heap.objs.size, upd H s.heap.objs.size (.lst ((List.range n).map fun i : Nat => V.int (i : Int))), I.laid (t' := tk) k (Nat.le_refl _) ⟨?_, acc'.toList, c', ?_, ?_⟩, rfl, q _ (I.hok.fresh (Nat.le_refl _))⟩
  · rw [List.length_map, List.length_range, sizeLine_eq]
    omega
  · refine vals_of_at (by rw [List.length_map, List.length_range, Array.length_toList, hi.1]) fun j x w h1 h2 => ?_
    obtain ⟨tk', e2⟩ := hi.2 j w (by rw [← Array.getElem?_toList]; exact h2)
    rw [List.getElem?_map] at h1
    have hj : j < n := by
      rw [Array.getElem?_toList] at h2
      have := (Array.getElem?_eq_some_iff.mp h2).1
      rw [hi.1] at this
      exact this
    rw [List.getElem?_range hj] at h1
    cases h1
    exact ⟨tk', by rw [e2, Int.mul_one, Int.zero_add]⟩
  · rw [Array.toArray_toList]
    exact he
def gListRng : D → Option Rs
  | .int n => if 0 ≤ n ∧ n ≤ 1000000 then some (.own (.nd .lst ((List.range n.toNat).map fun i : Nat => D.int (i : Int)))) else none
  | _ => none
theorem DRs.rng {K : PySem.W.Frag} {mg : Str → Option Value} {F : Hp} (l : List Nat) : DRs K mg F (l.map fun i : Nat => V.int (i : Int)) (l.map fun i : Nat => D.int (i : Int)) := by
  induction l with
  | nil => exact .nil
  | cons a l ih => exact .cons (.int _) ih
theorem be_listRng {a : Expr} {ma : M Pl} {p p2 q pos : Pos} (hm : X.mg "list" = none) (hm2 : X.mg "range" = none) (hc : X.calm = true) (ha : BP X a ma) (hg : Gl X "list" := by rfl) (hg2 : Gl X "range" := by rfl) (na : starEach [a] X.env = (false, eval a X.env) :: starEach [] X.env := by rfl)
    (nb : starEach [.Call (.Name "range" p2) [a] [] q] X.env = (false, eval (.Call (.Name "range" p2) [a] [] q) X.env) :: starEach [] X.env := by rfl) :
    BE X (.Call (.Name "list" p) [.Call (.Name "range" p2) [a] [] q] [] pos) (mUn gListRng ma) := by
  refine fun W tk => (pe_callTy (cr_listRng hc) hg hm boot_list (pa_cons (pe_callTy cr_range1 hg2 hm2 boot_range (pa_cons (ha W tk) pa_nil na) (by decide) (by decide) na) pa_nil nb) (by decide) (by decide) nb).imp fun σ H Q ⟨G, io, F, β, I, h⟩ => ?_
  refine ⟨G, io, F, β, I, h.bnd fun pl β1 v H1 F1 fe1 I1 r1 h1 => ?_⟩
  obtain ⟨F, d, r, sf, hx, hgr, q⟩ := fin1_post I1 r1 (h1.mono fe1)
  unfold gListRng at hgr
  split at hgr
  · rename_i n
    split at hgr
    · rename_i hn
      cases hgr
      cases hx
      refine ⟨n, rfl, fun s hs => ?_⟩
      have sh : Same H1 (upd H1 s (.rng 0 n)) := fun b u hb => by
        rw [upd_ne (ne_of_none hb hs)]
        exact hb
      refine ⟨s, n.toNat, rfl, by rw [upd_same]; congr 2; omega, by omega, fun z hz => ?_⟩
      have hz1 : H1 z = none := by
        by_cases e : z = s
        · subst e
          rw [upd_same] at hz
          cases hz
        · rwa [upd_ne e] at hz
      refine q _ _ ⟨fun b u hb => ?_, z, rfl, hz1, .lst upd_same (DRs.rng _)⟩
      rw [upd_ne (ne_of_none (sh b u hb) hz)]
      exact sh b u hb
    · cases hgr
  · cases hgr
end
/-! ## a op b op c, as a test -/
theorem bt_chain {X : Cx} {a b c : Expr} {pos : Pos} {op op' : CmpOp} {g g' : D → D → Option Rs} {ma mb mc : M Pl} (ho : OpD X (compareOp op) g) (ho' : OpD X (compareOp op') g') (ha : BP X a ma) (hb : BP X b mb) (hc : BP X c mc)
    (hm : lastMarks [op, op'] [b, c] = false := by first | rfl | exact nomark _) : BT X (.Compare a [op, op'] [b, c] pos) (asB (mChain g g' ma mb mc)) := by
  refine fun W tk => (pt_chain ho ho' (ha W tk) (hb W tk) (hc W tk) hm).imp fun σ H Q h => ?_
  obtain ⟨G, io, F, β, I, h⟩ := h
  have h := asB_post h
  refine ⟨G, io, F, β, I, h.bnd fun p β1 v H1 F1 fe1 I1 r1 h1 => ⟨G, io, F1, β1, I1, (h1.mono fe1).bnd fun q β2 w H2 F2 fe2 I2 r2 h2 => ?_⟩⟩
  have h2 := h2.mono fe2
  refine fin2_post (Q := fun z H3 => ∃ k, z = .bl k ∧ _) I2 (r1.mono fe2.same) r2 (asB_ok h2 _ fun k β3 H3 F3 fe3 I3 h3 => ?_)
  refine ⟨k, rfl, ?_⟩
  cases k with
  | true =>
    refine ⟨G, io, F3, β3, I3, (h3.mono fe3).bnd fun r β4 u H4 F4 fe4 I4 r4 h4 => ?_⟩
    exact fin2_post I4 ((r2.mono fe3.same).mono fe4.same) r4 (h4.mono fe4)
  | false => exact h3 _ H3 F3 fe3 I3 (.bl false)
@[simp ↓] theorem W_mPar {i j : Nat} {ma : M (List Pl)} {β : B.Env} {Q : Fl → B.Env → Prop} {E : Exn → B.Env → Prop} : W (mPar i j ma) β Q E ↔ W ma β (fun ps β1 => optW (allD ps) fun ds => match ds with
  | [d, e] => Q .nx ((β1.set i (.fz d)).set j (.fz e))
  | _ => False) E := by
  unfold mPar
  refine W_bnd.trans (W_congr fun ps β1 => ?_)
  unfold W
  cases allD ps with
  | none => with_unfolding_all rfl
  | some ds =>
    rcases ds with _ | ⟨d, _ | ⟨e, _ | ⟨f, l⟩⟩⟩ <;> with_unfolding_all exact Iff.rfl
end B

set_option Elab.async false
set_option linter.all false
set_option maxRecDepth 100000
set_option maxHeartbeats 4000000
namespace B
open PySem PySem.Spec L2
/-! ## repr, of a number too -/
def gRepr2 : D → Option Rs
  | .int i => if i.natAbs.log2 < 1920 then some (.fz (.str (toString i))) else none
  | d => gRepr d
section
variable {X : Cx} {p pos : Pos} {a : Expr} {ma : M Pl}
theorem be_repr2 (hG : X.A.guards = some []) (hu : X.A.units + 64 < cLine) (hg : Gl X "repr") (hm : X.mg "repr" = none) (ha : BP X a ma) (hs : starEach [a] X.env = (false, eval a X.env) :: starEach [] X.env := by rfl)
    (hpl : (backTo pos (starEach [] X.env)).any (·.1) = false := by rfl) : BE X (.Call (.Name "repr" p) [a] [] pos) (mUn gRepr2 ma) := by
  have cr : CallR X (.builtin "repr") (fun xs H Q => (∃ i, xs = [.int i] ∧ i.natAbs.log2 < 1920 ∧ Q (.str (toString i)) H) ∨ ∃ (l : Addr) (d : PyData), xs = [.ref l] ∧ Dp X.K H (.ref l) d ∧ d.canLay0 = true ∧ d.showable = true ∧ d.shown.length ≤ sizeLine ∧ d.depth ≤ 50 ∧ Q (.str d.shown) H) := by
    intro pins s σ H xs us Q I r h
    rcases h with h | ⟨l, d, e, dp, c1, c2, c3, c4, q⟩
    · exact SkE.call_repr_int pins s σ H xs us Q I r h
    · subst e
      cases r with
      | cons r rr =>
        cases rr
        cases r
        obtain ⟨as, rd⟩ := Dp.reads I d _ _ dp rfl
        exact PySem.repr_of_reads' rd c2 (PyData.noDict_hsm (PyData.hasDict_of_canLay d c1)) hG (by omega) (fun _ _ e => e) (fun h' u tk hk => ⟨.str d.shown, H, I.kept (t' := tk) hk, ⟨u, rfl⟩, q⟩) c3
  refine fun W tk => (pe_callB cr hg hm PyProof.Rows.boot_repr (pa_cons (ha W tk) pa_nil hs) (by decide) (by decide) hs hpl).imp fun σ H Q ⟨G, io, F, β, I, h⟩ => ⟨G, io, F, β, I, h.bnd fun q β1 v H1 F1 fe1 I1 r1 h1 => ?_⟩
  obtain ⟨F, d, r, sf, hx, hgr, q⟩ := fin1_post I1 r1 (h1.mono fe1)
  unfold gRepr2 at hgr
  split at hgr
  · split at hgr
    · rename_i hl
      cases hgr
      cases hx
      exact .inl ⟨_, rfl, hl, q _ _ (NR.val sf (.str _))⟩
    · cases hgr
  · unfold gRepr at hgr
    split at hgr
    · rename_i hh
      cases hgr
      obtain ⟨sq, ok⟩ := hh
      simp only [shwOk, Bool.and_eq_true, decide_eq_true_eq] at ok
      have dp := DR.dp (hx.dr sf) ok.1.1.1
      cases hx with
      | lst h r => exact .inr ⟨_, _, rfl, dp, ok.1.1.1, ok.1.1.2, ok.1.2, ok.2, q _ _ (NR.val sf (.str _))⟩
      | tup h r => exact .inr ⟨_, _, rfl, dp, ok.1.1.1, ok.1.1.2, ok.1.2, ok.2, q _ _ (NR.val sf (.str _))⟩
      | _ => cases sq
    · cases hgr
end
/-! ## by what is wished for -/
section
variable {P : Rs → Prop} {ds : List D}
theorem w_sorted (ok : sortOk ds) : optW (gSorted [.nd .lst ds]) P ↔ P (.own (.nd .lst (sortD ds))) := by
  have e : gSorted [.nd .lst ds] = some (.own (.nd .lst (sortD ds))) := by
    unfold gSorted
    exact if_pos ok
  rw [e]
  exact Iff.rfl
theorem w_sortSet {ks : List (List Int)} (ok : setOk ks) : optW (gSortSet (.nd .lst (ks.map tupD))) P ↔ P (.own (.nd .lst ((tset ks).map tupD))) := by
  have e : gSortSet (.nd .lst (ks.map tupD)) = some (.own (.nd .lst ((tset ks).map tupD))) := by
    unfold gSortSet
    show (tups? (ks.map tupD)).bind _ = _
    rw [tups_map]
    exact if_pos ok
  rw [e]
  exact Iff.rfl
@[simp ↓] theorem w_listRng {n : Nat} : optW (gListRng (.int (n : Int))) P ↔ n ≤ 1000000 ∧ P (.own (.nd .lst ((List.range n).map fun i : Nat => D.int (i : Int)))) := by
  show optW (if 0 ≤ (n : Int) ∧ (n : Int) ≤ 1000000 then some (Rs.own (.nd .lst ((List.range (n : Int).toNat).map fun i : Nat => D.int (i : Int)))) else none) P ↔ _
  rw [optW_ite, Int.toNat_natCast]
  constructor
  · rintro ⟨⟨_, h⟩, q⟩
    exact ⟨by omega, q⟩
  · rintro ⟨h, q⟩
    exact ⟨⟨by omega, by omega⟩, q⟩
@[simp ↓] theorem w_clear {P : D × D → Prop} : optW (gClear (.nd .lst ds) []) P ↔ P (.non, .nd .lst []) := Iff.rfl
theorem w_insert {i : Int} {d : D} {P : D × D → Prop} : optW (gInsert (.nd .lst ds) [.int i, d]) P ↔ (ds.length < sizeLine ∧ 0 ≤ i ∧ i < 2 ^ 63) ∧ P (.non, .nd .lst (ds.take i.toNat ++ [d] ++ ds.drop i.toNat)) := optW_ite
theorem w_reprI {i : Int} (h : i.natAbs.log2 < 1920) : optW (gRepr2 (.int i)) P ↔ P (.fz (.str (toString i))) := by
  show optW (if i.natAbs.log2 < 1920 then _ else _) P ↔ _
  rw [if_pos h]
  exact Iff.rfl
end
/-- sorted ints -/
theorem sortOk_ints (ns : List Int) : sortOk (ns.map D.int) := by
  refine ⟨fun d hd => ?_, fun a ha b hb => ?_, .inr fun d hd => ?_⟩
  · obtain ⟨z, _, rfl⟩ := List.mem_map.mp hd
    exact ⟨by simp [toPy, PyData.canLay0], by simp [toPy, PyData.depth]⟩
  · rw [List.map_map] at ha hb
    obtain ⟨z, _, rfl⟩ := List.mem_map.mp ha
    obtain ⟨y, _, rfl⟩ := List.mem_map.mp hb
    simp [toPy, PySem.W.alike]
  · rw [List.map_map] at hd
    obtain ⟨z, _, rfl⟩ := List.mem_map.mp hd
    exact ⟨fun h => (nomatch h), fun xs h => (nomatch h)⟩
theorem sortD_ints {ns ms : List Int} (hp : ns.Perm ms) (hs : ms.Pairwise (· ≤ ·)) : sortD (ns.map D.int) = ms.map D.int := by
  have hm := List.map_mergeSort (r := fun a b : Int => decide (a ≤ b)) (s := leD) (f := D.int) (l := ns) (fun a _ b _ => (congrFun (congrFun (PySem.W.dataLe_int (fun z : Int => z)) a) b).symm)
  unfold sortD
  rw [← hm]
  congr 1
  refine PySem.W.lks_uniq ((List.mergeSort_perm _ _).trans hp) ?_ hs
  have := List.pairwise_mergeSort (le := fun a b : Int => decide (a ≤ b)) (fun a b c h1 h2 => by simp at *; omega) (fun a b => by simp; omega) ns
  exact this.imp fun h => by simpa using h
theorem sort_ints {ns ms : List Int} (hp : ns.Perm ms) (hs : ms.Pairwise (· ≤ ·)) {P : Rs → Prop} : optW (gSorted [.nd .lst (ns.map D.int)]) P ↔ P (.own (.nd .lst (ms.map D.int))) := by
  rw [w_sorted (sortOk_ints ns), sortD_ints hp hs]
theorem imms_ints : ∀ ns : List Int, imms (ns.map D.int) = true
  | [] => rfl
  | n :: ns => by
    show (imm (.int n) && imms (ns.map D.int)) = true
    rw [imms_ints ns]
    rfl
theorem imms_co (l : List Nat) : imms (l.map (D.int ∘ fun k : Nat => (k : Int))) = true := by
  have := imms_ints (l.map fun k : Nat => (k : Int))
  rw [List.map_map] at this
  exact this
end B

set_option Elab.async false
set_option linter.all false
set_option maxRecDepth 100000
set_option maxHeartbeats 4000000
namespace B
open PySem PySem.Spec L2
/-! ## lambdas handed to a def -/
/-- a code object more, if it is new -/
def Grown (H : Hp) (P c : Addr) (q : Str) (H1 : Hp) : Prop := H1 = H ∨ ∃ ps, H c = none ∧ c ≠ P ∧ LamX.TabS H1 P q ∧ H1 = upd (upd H P (.tbl ps)) c (LamX.CodeO c q)
section
variable {X : Cx} {pins : List (Addr × Obj)} {σ : L2.St} {H : Hp} {s : Shared}
theorem lam_new {c P : Addr} {prm : Arguments} {body : Expr} {sc : Scope} {pos : Pos} {E Q : Value → Shared → Prop} (I : Inv X pins σ H s) (TB : LamX.TabB X.base X.mg c P) (hc : X.env.code = .ref c) (tab : LamX.TabS H P (X.env.qual ++ "<lambda>"))
    (nod : defaultsOf prm X.env = ([], [])) (fr : ∀ y ∈ sc.names, y.2 = .free → ∃ c, X.env.cells.lookup y.1 = some c)
    (go : ∀ (f c' : Addr) (pm tv : Value) (H1 : Hp) (s' : Shared), Inv X pins σ H1 s' → Grown H P c' (X.env.qual ++ "<lambda>") H1 → s'.heap.get? f = some (PySem.W.kla_obj "<lambda>" (X.env.qual ++ "<lambda>") prm body sc (cloFrom X.env.cells sc.names []) pm c' tv) →
      H1 f = none → f ∉ frs X.stack → H1 c' = some (LamX.CodeO c' (X.env.qual ++ "<lambda>")) → Q (.ref f) s') :
    wpAny (model X.prog X.w) X.A (eval (.Lambda prm body sc pos) X.env) Q E s := by
  obtain ⟨ps, hP, trip, names⟩ := tab
  have real := I.hok P _ hP
  have gl := I.mod.glob.keeps I.bk
  have bu := TB.bm.keeps I.bk
  have hd := TB.code.keeps I.bk
  have cl := closure_ok fr
  have outside : ∀ f, s.heap.objs.size ≤ f → f ∉ frs X.stack := fun f big z => (List.mem_cons.mp (I.stkSub _ z)).elim (fun e => by
    have lt := I.lt
    rw [← e] at lt
    exact Nat.lt_irrefl _ (Nat.lt_of_lt_of_le lt big)) fun e => I.nofs big e
  refine PySem.W.kla_eval nod ?_
  cases found : codeAmong pos ps.toList with
  | some cv =>
    obtain ⟨c', rfl, known⟩ := names pos cv found
    refine PySem.W.kla_makeFunctionHit cl I.ok.glob gl hc hd real trip found bu fun tv h' tk keep big => ?_
    have J := I.kept (h' := h'.push (PySem.W.kla_obj "<lambda>" (X.env.qual ++ "<lambda>") prm body sc (cloFrom X.env.cells sc.names []) ((X.mg "__name__").getD .none) c' tv)) (t' := tk) fun b o e => Heap.get?_push_of_some _ (keep b o e)
    exact go _ c' _ tv H _ J (.inl rfl) (Heap.get?_push_size _ rfl) (I.hok.fresh big) (outside _ big) known
  | none =>
    refine PySem.W.kla_makeFunction (c := c) cl I.ok.glob gl hc hd real trip found TB.gP bu fun cn tv h' tk hx big small rec_ row => ?_
    obtain ⟨c', oc, vs, t, e, at_, dat, nm⟩ := rec_
    cases e
    have fresh : H cn = none := I.hok.fresh big
    have cP : cn ≠ P := fun z => by rw [z, hP] at fresh; cases fresh
    have sizes : s.heap.objs.size ≤ h'.objs.size := by omega
    have J := LamX.inv_table (t' := tk) (more := #[rawInt pos.line, rawInt pos.col, .ref cn]) (h' := h'.push (PySem.W.kla_obj "<lambda>" (X.env.qual ++ "<lambda>") prm body sc (cloFrom X.env.cells sc.names []) ((X.mg "__name__").getD .none) cn tv)) (q := X.env.qual ++ "<lambda>") I hP
      (fun b o hb e => Heap.get?_push_of_some _ (hx b o hb e)) (Heap.get?_push_of_some _ row) big ⟨oc, vs, t, Heap.get?_push_of_some _ at_, dat, nm⟩
    have eq : (ps ++ #[rawInt pos.line, rawInt pos.col, .ref cn]).toList = ps.toList ++ [rawInt pos.line, rawInt pos.col, .ref cn] := by simp
    refine go _ cn _ tv _ _ J (.inr ⟨_, fresh, cP, ⟨_, by rw [upd_ne cP.symm, upd_same], by rw [eq]; exact PySem.TriplesOk_snoc _ _ _ _ trip, fun p2 cv hcv => ?_⟩, rfl⟩) (Heap.get?_push_size _ rfl) ?_ (outside _ sizes) upd_same
    · rw [eq] at hcv
      rcases LamX.among_app _ trip hcv with z | z
      · obtain ⟨d, e1, e2⟩ := names p2 cv z
        have ne1 : d ≠ cn := fun w => by rw [w, fresh] at e2; cases e2
        have ne2 : d ≠ P := fun w => by
          rw [w, hP] at e2
          exact LamX.codeO_ne ps (Option.some.inj e2).symm
        exact ⟨d, e1, by rw [upd_ne ne1, upd_ne ne2]; exact e2⟩
      · exact ⟨cn, z, upd_same⟩
    · have n1 : h'.objs.size ≠ cn := by omega
      have n2 : h'.objs.size ≠ P := fun z => by
        have lt := Heap.lt_size real
        rw [← z] at lt
        exact Nat.lt_irrefl _ (Nat.lt_of_lt_of_le lt sizes)
      rw [upd_ne n1, upd_ne n2]
      exact I.hok.fresh sizes
/-- what was handed in is called -/
theorem ask_pe {CXg : CXT} {Eg : XK} {Ng : List Str} {qg : Str} {sg : Scope} {g f c' : Addr} {cdg pm tv : Value} {prm : Arguments} {body : Expr} {sc : Scope} {k i : Nat} {a : Str} {pn : List (Addr × Obj)} {xe : Value → Shared → Prop} {E : L2.St → XK} {t : XK → TE} {p1 p2 : Pos}
    (I : Inv X pins σ H s) (L : LamX.LamS X.env.scope sc) (lam : s.heap.get? f = some (PySem.W.kla_obj "<lambda>" (X.env.qual ++ "<lambda>") prm body sc (cloFrom X.env.cells sc.names []) pm c' tv)) (new : H f = none) (noframe : f ∉ frs X.stack)
    (none_ : bindArgs (PySem.W.kla_fn "<lambda>" (X.env.qual ++ "<lambda>") prm body sc (cloFrom X.env.cells sc.names []) pm (.ref c') tv) ⟨[], []⟩ = pure [])
    (out : ∀ σ, PassesAt (L2.CX X.prog X.w) ((cxOf CXg X.prog X.w X.K X.mg X.base Ng qg sg g cdg X.A X.stack s H Eg).tr pn xe) σ (E σ)) (room : RoomG (k + 1) (X.A.deeper (PyProof.Rows.envOfC qg sg s.heap.objs.size g cdg)))
    (hbody : ∀ (s1 : Shared) (H1 : Hp) (E1 : XK), PE (LamX.lamCx X (X.A.deeper (PyProof.Rows.envOfC qg sg s.heap.objs.size g cdg)) (PyProof.Rows.envOfC qg sg s.heap.objs.size g cdg :: X.stack) s1 H1 E1 sc f c') body (t E1))
    (hN : Ng[i]? = some a) (hv : Vis sg a) (hd : (a == ("__debug__" : Str)) = false) (hcd : (a == ("__classdict__" : Str)) = false) :
    PE ((cxOf CXg X.prog X.w X.K X.mg X.base Ng qg sg g cdg X.A X.stack s H Eg).tr pn xe) (.Call (.Name a p1) [] [] p2) (fun τ HZ Q => τ[i]? = some (some (.ref f)) ∧ HZ c' = some (LamX.CodeO c' (X.env.qual ++ "<lambda>")) ∧ t (E τ) σ HZ Q) where
  run ps sZ τ HZ Q IZ := by
    rintro ⟨slot, code, pre⟩
    have name := (pe_var (X := (cxOf CXg X.prog X.w X.K X.mg X.base Ng qg sg g cdg X.A X.stack s H Eg).tr pn xe) (pos := p1) (i := i) hN hv hd hcd).run ps sZ τ HZ (fun v H1 => v = .ref f ∧ H1 = HZ) IZ ⟨_, slot, rfl, rfl⟩
    refine wpAny_Call_Name_kw (thn name fun u s1 hu => ?_)
    obtain ⟨v, H1, J, rel, rfl, rfl⟩ := hu
    cases (show u = Value.ref f from rel)
    have stays := J.base.keep f _ lam new noframe (fun z => nomatch z)
    have run : codeAny (model X.prog X.w) (X.A.deeper (PyProof.Rows.envOfC qg sg s.heap.objs.size g cdg)) (.call (.ref f) ⟨[], []⟩) (CR (L2.CX X.prog X.w) (PyProof.Rows.envOfC qg sg s.heap.objs.size g cdg :: X.stack) X.prog X.w H1 s1 Q (E τ)) s1 := by
      obtain ⟨⟨oc, vs, tk, oat, odat, onm⟩, _, _⟩ := J.hok c' _ code
      refine PySem.W.kla_callFunE room.r.depth stays rfl L.co L.gen rfl ⟨c', oc, vs, tk, rfl, oat, odat, onm⟩ ?_
      rw [none_]
      refine wpAny_pure (wpAny_newFunctionEnv (fun y hy => (L.own y hy).2) (fun y hy => nomatch hy) (fun h1 names more => ⟨J.nolimit.fresh _ more, PySem.W.kla_codeExpr ?_⟩) L.kind)
      have all : ∀ b o, s1.heap.get? b = some o → h1.get? b = some o := fun b o e => more.extBut b o (Nat.ne_of_lt (Heap.lt_size e)) (Heap.get?_push_of_some _ e)
      have start := LamX.lam_start2 (tk := s1.toks + ([] : List (Str × Value)).length) (E := E τ) (c' := c') (f := f) I L J.env0 room.r.hd J.base names all
      refine wpAny_mono ((hbody s1 H1 (E τ)).run [] _ σ H1 Q start pre) (fun v s' z => ?_) fun e s' z => z
      obtain ⟨w', H', J', rv, q⟩ := z
      exact ⟨w', H', J'.os, J'.bare, J'.base, J'.hok, rv, q⟩
    exact PySem.W.callWith_F0 ⟨_, _, _, _, stays⟩ (wpAny_call (codeAny_mono run fun r s' q => match r, q with
      | .error e, q => out τ ps H1 s1 e s' J q
      | .ok (.ret u), q => J.after q
      | .ok .next, q => q.elim
      | .ok .brk, q => q.elim
      | .ok .cont, q => q.elim))
end
end B

set_option Elab.async false
set_option linter.all false
set_option maxRecDepth 100000
set_option maxHeartbeats 4000000
namespace B
open PySem PySem.Spec L2
/-! ## lambdas: what they mean -/
/-- while a lambda runs, all of its maker's names are data that stays -/
def lendS : Sl → Sl
  | .own _ d => .fz d
  | .fz d => .fz d
  | _ => .un
def lendB (β : B.Env) : B.Env := β.map lendS
/-- the outcome o of what was handed in, that the slot i tells of -/
noncomputable def mAsk (i : Nat) (z : Ez) (o : R Rs) : M Rs := open Classical in fun β => match β[i]? with
  | some (.ex z') => if z' = z then (match o with
    | .ok r _ => .ok r β
    | .exc x _ => .exc x β
    | .stuck => .stuck) else .stuck
  | _ => .stuck
def envIs (o : R Rs) (β : B.Env) : Prop := match o with
  | .ok _ β1 => β1 = β
  | .exc _ β1 => β1 = β
  | .stuck => False
def z0 : Ez := ez 0 .none none ⟨"", []⟩
def lamAt (n : Nat) (m : Ez → R Rs → M Fl) (o : R Rs) (z : Ez) : FR := finF [false] (m z o (.ex z :: List.replicate (n - 1) .un))
noncomputable def lamRun (n : Nat) (m : Ez → R Rs → M Fl) (o : R Rs) : FR := open Classical in if ∀ z, lamAt n m o z = lamAt n m o z0 then lamAt n m o z0 else .stuck
noncomputable def mLam (gi : Nat) (ts : List (Addr × Str)) (n : Nat) (m : Ez → R Rs → M Fl) (me : M Rs) : M Rs := open Classical in fun β =>
  if β[gi]? = some (.gh ts) ∧ envIs (me (lendB β)) (lendB β) then (match lamRun n m (me (lendB β)) with
    | .ok r [] => if immR r = true then .ok r β else .stuck
    | _ => .stuck) else .stuck
def ownIx (β : B.Env) : List Nat := (List.range β.length).filter fun i => match β[i]? with
  | some (.own _ _) => true
  | _ => false
section
variable {K : PySem.W.Frag} {mg : Str → Option Value} {G : GT} {F F' H H' : Hp} {io : List Addr} {β : B.Env} {σ : L2.St}
theorem own_ix : OwnS β (ownIx β) := fun j hj => by
  have := (List.mem_filter.mp hj).2
  cases e : β[j]? with
  | none => rw [e] at this; cases this
  | some s =>
    rw [e] at this
    cases s with
    | own b d => exact ⟨b, d, rfl⟩
    | un => cases this
    | fz _ => cases this
    | ex _ => cases this
    | gh _ => cases this
theorem ix_own {i : Nat} {b : Option Nat} {d : D} (e : β[i]? = some (.own b d)) : i ∈ ownIx β := List.mem_filter.mpr ⟨List.mem_range.mpr (List.getElem?_eq_some_iff.mp e).1, by rw [e]⟩
/-- what the names hold, as data -/
theorem BI.lent (I : BI K mg G F io β σ H) : ∃ vs ds, DRs K mg (withL F H σ (ownIx β)) vs ds ∧ ∀ (i : Nat) (d : D), (lendB β)[i]? = some (Sl.fz d) → ∃ (j : Nat) (v : V), σ[i]? = some (some v) ∧ vs[j]? = some v ∧ ds[j]? = some d := by
  have one : ∀ (i : Nat) (d : D), (lendB β)[i]? = some (Sl.fz d) → ∃ v, σ[i]? = some (some v) ∧ DR K mg (withL F H σ (ownIx β)) v d := fun i d e => by
    unfold lendB at e
    rw [List.getElem?_map] at e
    obtain ⟨s, es, e2⟩ := Option.map_eq_some_iff.mp e
    obtain ⟨o, eo, r⟩ := I.sl i s es
    cases s with
    | un => cases e2
    | ex _ => cases e2
    | gh _ => cases e2
    | fz d' =>
      cases e2
      obtain ⟨v, ev, dr⟩ := r
      exact ⟨v, by rw [eo, ev], dr.mono (withL_same I own_ix).1⟩
    | own b d' =>
      cases e2
      obtain ⟨a, ea, _, _, _, _, ow⟩ := r
      refine ⟨.ref a, by rw [eo, ea], ow.dr (withL_same I own_ix).1 ?_⟩
      unfold withL
      rw [if_pos ⟨i, ix_own es, by rw [eo, ea]⟩]
  have all : ∀ n : Nat, ∃ vs ds, DRs K mg (withL F H σ (ownIx β)) vs ds ∧ ∀ (i : Nat) (d : D), i < n → (lendB β)[i]? = some (Sl.fz d) → ∃ (j : Nat) (v : V), σ[i]? = some (some v) ∧ vs[j]? = some v ∧ ds[j]? = some d := fun n => by
    induction n with
    | zero => exact ⟨[], [], .nil, fun i d h => by omega⟩
    | succ n ih =>
      obtain ⟨vs, ds, r, k⟩ := ih
      by_cases h : ∃ d, (lendB β)[n]? = some (Sl.fz d)
      · obtain ⟨d, e⟩ := h
        obtain ⟨v, ev, dr⟩ := one n d e
        refine ⟨vs ++ [v], ds ++ [d], r.append (.cons dr .nil), fun i d2 hi e2 => ?_⟩
        by_cases hn : i = n
        · subst hn
          rw [e] at e2
          cases e2
          exact ⟨vs.length, v, ev, by simp, by rw [r.length]; simp⟩
        · obtain ⟨j, v2, q1, q2, q3⟩ := k i d2 (by omega) e2
          have l1 := (List.getElem?_eq_some_iff.mp q2).1
          have l2 := (List.getElem?_eq_some_iff.mp q3).1
          exact ⟨j, v2, q1, by rw [List.getElem?_append_left l1]; exact q2, by rw [List.getElem?_append_left l2]; exact q3⟩
      · refine ⟨vs, ds, r, fun i d2 hi e2 => ?_⟩
        by_cases hn : i = n
        · subst hn
          exact absurd ⟨d2, e2⟩ h
        · exact k i d2 (by omega) e2
  obtain ⟨vs, ds, r, k⟩ := all β.length
  refine ⟨vs, ds, r, fun i d e => k i d ?_ e⟩
  have := (List.getElem?_eq_some_iff.mp e).1
  unfold lendB at this
  simpa using this
/-- the maker's view while the lambda runs -/
theorem BI.view {Gi : GT} {Fi HZ : Hp} {ioi : List Addr} {βi : B.Env} {τ : L2.St} {i : Nat} {z : Ez} (J : BI K mg Gi Fi ioi βi τ HZ) (e : βi[i]? = some (.ex z)) (hl : β.length = σ.length)
    (cov : ∀ (i : Nat) (d : D), (lendB β)[i]? = some (Sl.fz d) → ∃ (j : Nat) (v : V), σ[i]? = some (some v) ∧ z.vs[j]? = some v ∧ z.ds[j]? = some d) : BI K mg (butIo Gi.t HZ []) Fi [] (lendB β) σ HZ := by
  obtain ⟨o, eo, _, xz⟩ := J.sl i _ e
  have no : ∀ {j : Nat} {s : Sl}, (lendB β)[j]? = some s → isOwn s = true → False := fun {j s} e h => by
    unfold lendB at e
    rw [List.getElem?_map] at e
    obtain ⟨s', _, rfl⟩ := Option.map_eq_some_iff.mp e
    cases s' <;> cases h
  refine ⟨⟨fun a o h => ?_, J.sg.t, fun a o h => ?_⟩, J.sf, fun _ h => (nomatch h), fun _ h => (nomatch h), by unfold lendB; rw [List.length_map]; exact hl, fun j s es => ?_, fun j l s t a e1 _ h1 => (no e1 h1).elim⟩
  · unfold butIo at h
    simp only at h
    split at h
    · cases h
    · exact h
  · unfold butIo at h ⊢
    simp only at h ⊢
    split at h
    · cases h
    · rename_i q
      cases z : Gi.t a with
      | none => rfl
      | some x => exact absurd (.inr (by rw [z]; simp)) q
  · have es' := es
    unfold lendB at es
    rw [List.getElem?_map] at es
    obtain ⟨s', e', rfl⟩ := Option.map_eq_some_iff.mp es
    have hj : j < σ.length := by
      rw [← hl]
      exact (List.getElem?_eq_some_iff.mp e').1
    have un : ∃ o, σ[j]? = some o ∧ SlR K mg (butIo Gi.t HZ []) Fi [] HZ o .un := ⟨_, List.getElem?_eq_getElem hj, trivial⟩
    have fz : ∀ d, lendS s' = .fz d → ∃ o, σ[j]? = some o ∧ SlR K mg (butIo Gi.t HZ []) Fi [] HZ o (.fz d) := fun d h => by
      obtain ⟨l, v, q1, q2, q3⟩ := cov j d (by rw [es', h])
      obtain ⟨d2, q4, dr⟩ := xz.vs.get q2
      rw [q3] at q4
      cases q4
      exact ⟨_, q1, v, rfl, dr⟩
    cases s' with
    | un => exact un
    | ex _ => exact un
    | gh _ => exact un
    | fz d => exact fz d rfl
    | own b d => exact fz d rfl
end
section
variable {X : Cx}
/-- the outcome of what was handed in -/
theorem be_ask {pins : List (Addr × Obj)} {σ : L2.St} {H : Hp} {s : Shared} {CXg : CXT} {Eg : XK} {Ng : List Str} {qg : Str} {sg : Scope} {g f c' : Addr} {cdg pm tv : Value} {prm : Arguments} {body : Expr} {sc : Scope} {k i : Nat} {a : Str} {pn : List (Addr × Obj)} {xe : Value → Shared → Prop} {p1 p2 : Pos}
    {β : B.Env} {me : M Rs} {z : Ez} (I : Inv X pins σ H s) (L : LamX.LamS X.env.scope sc) (lam : s.heap.get? f = some (PySem.W.kla_obj "<lambda>" (X.env.qual ++ "<lambda>") prm body sc (cloFrom X.env.cells sc.names []) pm c' tv)) (new : H f = none) (noframe : f ∉ frs X.stack)
    (none_ : bindArgs (PySem.W.kla_fn "<lambda>" (X.env.qual ++ "<lambda>") prm body sc (cloFrom X.env.cells sc.names []) pm (.ref c') tv) ⟨[], []⟩ = pure [])
    (room : RoomG (k + 1) (X.A.deeper (PyProof.Rows.envOfC qg sg s.heap.objs.size g cdg)))
    (hme : ∀ (s1 : Shared) (H1 : Hp) (E1 : XK), BE (LamX.lamCx X (X.A.deeper (PyProof.Rows.envOfC qg sg s.heap.objs.size g cdg)) (PyProof.Rows.envOfC qg sg s.heap.objs.size g cdg :: X.stack) s1 H1 E1 sc f c') body me)
    (hz : z.a = f ∧ (c', LamX.CodeO c' (X.env.qual ++ "<lambda>")) ∈ z.cs) (hl : β.length = σ.length) (cov : ∀ (i : Nat) (d : D), (lendB β)[i]? = some (Sl.fz d) → ∃ (j : Nat) (v : V), σ[i]? = some (some v) ∧ z.vs[j]? = some v ∧ z.ds[j]? = some d) (ei : envIs (me (lendB β)) (lendB β))
    (hN : Ng[i]? = some a) (hv : Vis sg a) (hd : (a == ("__debug__" : Str)) = false) (hcd : (a == ("__classdict__" : Str)) = false) :
    BE ((cxOf CXg X.prog X.w X.K X.mg X.base Ng qg sg g cdg X.A X.stack s H Eg).tr pn xe) (.Call (.Name a p1) [] [] p2) (mAsk i z (me (lendB β))) := by
  intro W tk
  refine (ask_pe (t := fun E1 => gOf X.K X.mg (fun cls d _ H => E1 cls d H) (relE X.K X.mg) me) I L lam new noframe none_ (fun τ => passAt tk τ) room (fun s1 H1 E1 => hme s1 H1 E1 (fun cls d _ H => E1 cls d H) (takes_of rfl rfl rfl rfl)) hN hv hd hcd).imp fun τ HZ Q h => ?_
  obtain ⟨Gi, ioi, Fi, βi, J, h⟩ := h
  unfold mAsk at h
  cases es : βi[i]? with
  | none => rw [es] at h; exact h.elim
  | some sl =>
    rw [es] at h
    cases sl with
    | un => exact h.elim
    | fz _ => exact h.elim
    | own _ _ => exact h.elim
    | gh _ => exact h.elim
    | ex z' =>
      simp only at h
      split at h
      case isFalse => exact h.elim
      rename_i ez
      subst ez
      obtain ⟨o, eo, eo2, xz⟩ := J.sl i _ es
      refine ⟨by rw [eo, eo2, hz.1], J.sf _ _ (xz.cs _ hz.2), butIo Gi.t HZ [], [], Fi, lendB β, J.view es hl cov, ?_⟩
      have aft : ∀ {F' H' : Hp}, FE (butIo Gi.t HZ []) [] Fi F' → BI X.K X.mg (butIo Gi.t HZ []) F' [] (lendB β) σ H' → FE Gi ioi Fi F' ∧ BI X.K X.mg Gi F' ioi βi τ H' := fun {F' H'} fe Vw => by
        have ow : OwnS βi [] := fun j hj => nomatch hj
        have wl : withL Fi HZ τ [] = Fi := by
          funext b
          unfold withL
          rw [if_neg fun ⟨j, hj, _⟩ => (nomatch hj)]
        have A : After X.K X.mg Gi.t (withL Fi HZ τ []) HZ [] [] F' H' := by
          rw [wl]
          exact ⟨fe.same, fun a o q => (fe.new a o q).imp id fun q => (butIo_none q.1 q.2).2, Vw.sf, fun _ h => (nomatch h), fun b o q _ tb => Vw.sg.g b o (by unfold butIo; simp only; rw [if_neg (fun z => z.elim (fun z => nomatch z) fun z => z tb)]; exact q), Vw.sg.t, .nil⟩
        obtain ⟨fe2, J2, _, _, c0⟩ := J.call .nil .nil ow (fun _ h => (nomatch h)) rfl A (.inl rfl)
        rw [c0 rfl] at fe2 J2
        exact ⟨fe2, J2⟩
      unfold envIs at ei
      cases eo3 : me (lendB β) with
      | stuck => rw [eo3] at h; exact h.elim
      | ok r β1 =>
        rw [eo3] at h ei
        cases (show β1 = lendB β from ei)
        intro v H' F' fe Vw rr
        obtain ⟨fe2, J2⟩ := aft fe Vw
        refine h v H' F' fe2 J2 ?_
        cases r with
        | fz d => exact rr
        | own d =>
          obtain ⟨x, rfl, f1, g1, _, ow, _⟩ := rr
          have hx : HZ x = none := (butIo_none g1 (fun z => nomatch z)).2
          refine ⟨x, rfl, f1, J.sg.free hx, fun z => ?_, ow, fun j t e1 e2 e3 => ?_⟩
          · obtain ⟨u, hu⟩ := J.ioH x z
            rw [hu] at hx
            cases hx
          · cases t with
            | un => cases e2
            | fz _ => cases e2
            | ex _ => cases e2
            | gh _ => cases e2
            | own b d2 =>
              obtain ⟨w, ew, x2, q, _, _, _, _, r2⟩ := J.sl j _ e1
              obtain ⟨u, hu, _⟩ := r2.there
              rw [e3, q] at ew
              have := V.ref.inj (Option.some.inj (Option.some.inj ew))
              rw [this, hu] at hx
              cases hx
      | exc x β1 =>
        rw [eo3] at h ei
        cases (show β1 = lendB β from ei)
        intro cls d H' F' fe Vw xr
        obtain ⟨fe2, J2⟩ := aft fe Vw
        exact h cls d H' F' fe2 J2 xr
end
end B

set_option Elab.async false
set_option linter.all false
set_option maxRecDepth 100000
set_option maxHeartbeats 4000000
namespace B
open PySem PySem.Spec L2
/-! ## a lambda handed to a def -/
/-- a def of one parameter that calls it -/
structure LamFn (P : Program) (w : World) (K : PySem.W.Frag) (mg : Str → Option Value) (base : Heap) (k : Nat) (x a : Str) (n : Nat) (m : Ez → R Rs → M Fl) : Prop where
  ex : ∃ (fa : Addr) (fd : FuncData) (st : Stmt) (N : List Str), Fun K x x st fa fd ∧ FnScope N [a] (defScope st) ∧ N.length = n ∧ N[0]? = some a ∧ Vis (defScope st) a ∧ mg x = some (.ref fa) ∧ PySem.W.keepIn K (.ref fa) = true ∧ Binds K fd [a] [] ∧
    ∀ (cdv : Value) (A : Around) (outer : List PySem.Env) (s : Shared) (H : Hp) (E : XK) (z : Ez) (o : R Rs), RoomG k (A.deeper (PyProof.Rows.envOfC x (defScope st) s.heap.objs.size fa cdv)) →
      (∀ (pn : List (Addr × Obj)) (xe : Value → Shared → Prop) (p1 p2 : Pos), BE ((cxOf (L2.CX P w) P w K mg base N x (defScope st) fa cdv A outer s H E).tr pn xe) (.Call (.Name a p1) [] [] p2) (mAsk 0 z o)) →
      BSs (cxOf (L2.CX P w) P w K mg base N x (defScope st) fa cdv A outer s H E) (defBody st) (m z o)
section
variable {K : PySem.W.Frag} {mg : Str → Option Value} {G : GT} {F F' H H' : Hp} {io : List Addr} {β : B.Env} {σ : L2.St}
/-- the state in which the def starts -/
theorem lam_start {N : List Str} {a : Str} {z : Ez} {T : Addr → Option Str} (hn : N[0]? = some a) (tt : ∀ a q, T a = some q → F a = none ∧ LamX.TabS H a q) (sf : Same F H) (xz : XZ K mg F z) : BI K mg (butIo T H []) F [] (.ex z :: List.replicate (N.length - 1) .un) (L2.start N [.ref z.a]) H := by
  have hl : 0 < N.length := (List.getElem?_eq_some_iff.mp hn).1
  have no : ∀ {i : Nat} {s : Sl}, (Sl.ex z :: List.replicate (N.length - 1) Sl.un)[i]? = some s → isOwn s = true → False := fun {i s} e h => by
    cases i with
    | zero => cases e; cases h
    | succ i =>
      rw [List.getElem?_cons_succ, List.getElem?_replicate] at e
      split at e
      · cases e; cases h
      · cases e
  refine ⟨⟨fun a o h => ?_, tt, fun a o h => ?_⟩, sf, fun _ h => (nomatch h), fun _ h => (nomatch h), ?_, fun i s e => ?_, fun i j s t a e1 _ h1 => (no e1 h1).elim⟩
  · unfold butIo at h
    simp only at h
    split at h
    · cases h
    · exact h
  · unfold butIo at h ⊢
    simp only at h ⊢
    split at h
    · cases h
    · rename_i q
      cases z : T a with
      | none => rfl
      | some x => exact absurd (.inr (by rw [z]; simp)) q
  · unfold L2.start
    rw [List.length_cons, List.length_replicate, List.length_append, List.length_map, List.length_replicate]
    simp
    omega
  · unfold L2.start
    cases i with
    | zero =>
      cases e
      exact ⟨_, rfl, rfl, xz⟩
    | succ i =>
      rw [List.getElem?_cons_succ, List.getElem?_replicate] at e
      split at e
      · rename_i hi
        cases e
        refine ⟨none, ?_, trivial⟩
        simp only [List.map_cons, List.map_nil, List.cons_append, List.nil_append, List.getElem?_cons_succ, List.length_singleton]
        rw [List.getElem?_replicate, if_pos hi]
      · cases e
open Classical in
/-- F without the new code object -/
noncomputable def noCode (F Fl : Hp) (c : Addr) : Hp := fun b => if b = c ∧ Fl c = none then none else F b
theorem lamRun_all {n : Nat} {m : Ez → R Rs → M Fl} {o : R Rs} {r : Rs} (h : lamRun n m o = .ok r []) (z : Ez) : lamAt n m o z = .ok r [] := by
  unfold lamRun at h
  split at h
  · rename_i q
    rw [q z, h]
  · cases h
/-- behind the lambda -/
theorem BI.behind {c P : Addr} {q : Str} {H1 : Hp} (I : BI K mg G F io β σ H) (hP : G.t P = some q) (gr : Grown H P c q H1) (hc : H1 c = some (LamX.CodeO c q)) (fe : FE (butIo G.t H1 []) [] (upd (withL F H σ (ownIx β)) c (LamX.CodeO c q)) F') {β' : B.Env} {σ' : L2.St} (J : BI K mg (butIo G.t H1 []) F' [] β' σ' H') :
    ∃ F2, FE G io F F2 ∧ BI K mg G F2 io β σ H' ∧ Tups F' F2 ∧ Frzs F' F2 ∧ ∀ a, (F' a = none → F2 a = none) ∧ (H1 a = none → H a = none) := by
  have tabP := (I.sg.t P q hP).2
  have grow : ∀ b o, H b = some o → b ≠ P → H1 b = some o := fun b o h n => by
    rcases gr with rfl | ⟨ps, hc0, _, _, rfl⟩
    · exact h
    · rw [upd_ne (ne_of_none h hc0), upd_ne n]
      exact h
  have back : ∀ a, H1 a = none → H a = none := fun a h => by
    cases e : H a with
    | none => rfl
    | some o =>
      by_cases hb : a = P
      · obtain ⟨ps, h1, _⟩ := tabP
        rcases gr with rfl | ⟨ps2, hc2, ne, _, rfl⟩
        · rw [h] at e; cases e
        · rw [hb, upd_ne ne.symm, upd_same] at h
          cases h
      · rw [grow a o e hb] at h
        cases h
  have ow := own_ix (β := β)
  have wl := withL_same I ow
  have wc : ∀ o, withL F H σ (ownIx β) c = some o → o = LamX.CodeO c q := fun o e => by
    have h := wl.2 c o e
    have cP : c ≠ P := fun z => by
      obtain ⟨ps, h1, _⟩ := tabP
      rcases gr with rfl | ⟨_, hc2, ne, _, _⟩
      · rw [z, h1] at hc
        exact LamX.codeO_ne ps (Option.some.inj hc).symm
      · exact ne z
    have := grow c o h cP
    rw [hc] at this
    exact (Option.some.inj this).symm
  have A : After K mg G.t (withL F H σ (ownIx β)) H [] [] (noCode F' (withL F H σ (ownIx β)) c) H' := by
    refine ⟨fun b o e => ?_, fun b o e => ?_, fun b o e => ?_, fun _ h => (nomatch h), fun b o e _ tb => ?_, fun b q2 e => ?_, .nil⟩
    · unfold noCode
      rw [if_neg fun z => by rw [z.1, z.2] at e; cases e]
      refine fe.same b o ?_
      by_cases hb : b = c
      · subst hb
        rw [upd_same, wc o e]
      · rw [upd_ne hb]
        exact e
    · unfold noCode at e
      split at e
      · cases e
      · rename_i n
        rcases fe.new b o e with h | ⟨h, _⟩
        · by_cases hb : b = c
          · subst hb
            cases z : withL F H σ (ownIx β) b with
            | none => exact absurd ⟨rfl, z⟩ n
            | some u =>
              rw [upd_same] at h
              rw [← Option.some.inj h, wc u z]
              exact .inl rfl
          · rw [upd_ne hb] at h
            exact .inl h
        · exact .inr (back b (butIo_none h (fun z => nomatch z)).2)
    · unfold noCode at e
      split at e
      · cases e
      · exact J.sf b o e
    · refine J.sg.g b o ?_
      unfold butIo
      simp only
      rw [if_neg fun z => z.elim (fun z => nomatch z) fun z => z tb]
      exact grow b o e fun z => by rw [z, hP] at tb; cases tb
    · obtain ⟨f1, t1⟩ := J.sg.t b q2 e
      refine ⟨?_, t1⟩
      unfold noCode
      split
      · rfl
      · exact f1
  obtain ⟨fe2, J2, tp, fz, _⟩ := I.call .nil .nil ow (fun _ _ h => nomatch h) rfl A (.inr rfl)
  refine ⟨_, fe2, J2, fun a xs e => tp a xs ?_, fun a ob u e => fz a ob u ?_, fun a => ⟨fun e => ?_, back a⟩⟩
  · unfold noCode
    rw [if_neg fun z => ?_]
    · exact e
    · have := fe.same c _ upd_same
      rw [← z.1, e] at this
      unfold LamX.CodeO at this
      cases this
  · unfold noCode
    rw [if_neg fun z => ?_]
    · exact e
    · have := fe.same c _ upd_same
      rw [← z.1, e] at this
      unfold LamX.CodeO at this
      cases this
  · unfold cutL noCode
    split
    · rfl
    · split
      · rfl
      · exact e
end
section
variable {X : Cx}
theorem be_lam {x a : Str} {n j k gi : Nat} {ts : List (Addr × Str)} {m : Ez → R Rs → M Fl} {me : M Rs} {c P : Addr} {prm : Arguments} {body : Expr} {sc : Scope} {p lpos pos : Pos} (O : LamFn X.prog X.w X.K X.mg X.base j x a n m) (hr : RoomG k X.A) (hjk : j + 2 ≤ k)
    (TB : LamX.TabB X.base X.mg c P) (hcode : X.env.code = .ref c) (L : LamX.LamS X.env.scope sc) (nod : defaultsOf prm X.env = ([], []))
    (hbind : ∀ (q : Str) (cl : List (Str × Addr)) (pm cv ctv : Value), bindArgs (PySem.W.kla_fn "<lambda>" q prm body sc cl pm cv ctv) ⟨[], []⟩ = pure [])
    (hme : ∀ (A : Around) (outer : List PySem.Env) (s : Shared) (H : Hp) (E : XK) (f c' : Addr), RoomG j (A.deeper (LamX.lamEnv X sc s.heap.objs.size f c')) → BE (LamX.lamCx X A outer s H E sc f c') body me)
    (hT : (P, X.env.qual ++ "<lambda>") ∈ ts)
    (hg : Gl X x := by rfl) (hdb : (x == ("__debug__" : Str)) = false := by decide) (hd : (a == ("__debug__" : Str)) = false := by decide) (hcd : (a == ("__classdict__" : Str)) = false := by decide) :
    BE X (.Call (.Name x p) [.Lambda prm body sc lpos] [] pos) (mLam gi ts n m me) := by
  refine fun W tk => ⟨fun pins s σ H Q I h => ?_⟩
  obtain ⟨G, io, F, β, J, h⟩ := h
  unfold mLam at h
  split at h
  case isFalse => exact h.elim
  rename_i hyp
  obtain ⟨eg, ei⟩ := hyp
  obtain ⟨o, _, gh⟩ := J.sl gi _ eg
  have hP := gh _ hT
  split at h
  case h_2 => exact h.elim
  rename_i r er
  split at h
  case isFalse => exact h.elim
  rename_i hi
  obtain ⟨fa, fd, st, N, Fn, S, hn, hN, hv, hm, hk, hb, hbody⟩ := O.ex
  obtain ⟨oc, od, kV, doc, pmm, an, cdv, ct, osl, rfl, lk, hcd2⟩ := Fn.ex
  refine wpAny_Call_Name_kw (ld_glob I hg hm (PySem.W.callWith_K (h₀ := X.base) I.ok.mod.kin hk (Calls.spliced_cons (lam_new I TB hcode (J.sg.t P _ hP).2 nod (L.has I.ok) fun f c' pm tv H1 s' I1 gr lam new nofr hco => Calls.spliced_nil ⟨I1.kIn, ?_⟩)) (by rfl) (by rfl)) hdb)
  obtain ⟨vs, ds, dr, cov⟩ := J.lent
  have room2 : RoomG (j + 1) X.A := hr.mono (by omega)
  have tt : ∀ b q, G.t b = some q → upd (withL F H σ (ownIx β)) c' (LamX.CodeO c' (X.env.qual ++ "<lambda>")) b = none ∧ LamX.TabS H1 b q := fun b q e => by
    obtain ⟨f1, t1⟩ := J.sg.t b q e
    have nl : withL F H σ (ownIx β) b = none := by
      unfold withL
      rw [if_neg fun z => by rw [GT.tn (lent_none J own_ix z).2.1] at e; cases e]
      exact f1
    have bc : b ≠ c' := fun z => by
      obtain ⟨ps, h1, _⟩ := t1
      rcases gr with rfl | ⟨_, hc2, _, _, _⟩
      · rw [z, hco] at h1
        exact LamX.codeO_ne ps (Option.some.inj h1)
      · rw [z, hc2] at h1
        cases h1
    refine ⟨by rw [upd_ne bc]; exact nl, ?_⟩
    rcases gr with rfl | ⟨ps, hc2, ne, tP, e1⟩
    · exact t1
    · by_cases hb : b = P
      · subst hb
        rw [hP] at e
        cases e
        exact tP
      · rw [e1]
        refine tab_upd (tab_upd t1 hb fun c q z => ?_) bc (nc_none (by rw [upd_ne ne]; exact hc2))
        obtain ⟨ps, h1, _⟩ := (J.sg.t P _ hP).2
        rw [h1] at z
        exact LamX.codeO_ne ps (Option.some.inj z).symm
  have sub : ∀ b o, H b = some o → b ≠ P → H1 b = some o := fun b o e n => by
    rcases gr with rfl | ⟨ps, hc2, _, _, rfl⟩
    · exact e
    · rw [upd_ne (ne_of_none e hc2), upd_ne n]
      exact e
  have wl := withL_same J own_ix
  have wP : ∀ b o, withL F H σ (ownIx β) b = some o → b ≠ P := fun b o e z => by
    have := (tt P _ hP).1
    by_cases hb : P = c'
    · rw [hb, upd_same] at this
      cases this
    · rw [upd_ne hb, ← z, e] at this
      cases this
  have sfs : Same (upd (withL F H σ (ownIx β)) c' (LamX.CodeO c' (X.env.qual ++ "<lambda>"))) H1 := fun b o e => by
    by_cases hb : b = c'
    · subst hb
      rw [upd_same] at e
      rw [← e]
      exact hco
    · rw [upd_ne hb] at e
      exact sub b o (wl.2 b o e) (wP b o e)
  have sms : Same (withL F H σ (ownIx β)) (upd (withL F H σ (ownIx β)) c' (LamX.CodeO c' (X.env.qual ++ "<lambda>"))) := fun b o e => by
    by_cases hb : b = c'
    · subst hb
      have := sub b o (wl.2 b o e) (wP b o e)
      rw [hco] at this
      rw [upd_same]
      exact this
    · rw [upd_ne hb]
      exact e
  let z : Ez := ⟨f, .ref fa, none, ⟨x, []⟩, vs, ds, [(c', LamX.CodeO c' (X.env.qual ++ "<lambda>"))]⟩
  have xz : XZ X.K X.mg (upd (withL F H σ (ownIx β)) c' (LamX.CodeO c' (X.env.qual ++ "<lambda>"))) z := ⟨⟨hm, .inl ⟨rfl, rfl⟩⟩, dr.mono sms, fun q hq => by
    rw [List.mem_singleton.mp hq]
    exact upd_same⟩
  have at_ := lamRun_all er z
  have rc : codeAny (model X.prog X.w) X.A (.call (.ref fa) ⟨[.ref f], []⟩) (CR (L2.CX X.prog X.w) X.stack X.prog X.w H1 s' Q fun _ _ _ => False) s' := by
    refine LamX.run_ofS (N := N) (ps := [a]) (us := [.ref f]) (vs := [.ref f]) lk hcd2 S room2.r I1.env0 (hb s' [.ref f] I1.kIn rfl) (.cons rfl .nil) rfl fun _ => ?_
    have rg : RoomG j (X.A.deeper (PyProof.Rows.envOfC x (defScope st) s'.heap.objs.size fa cdv)) := room2.deeper _
    have rg1 : RoomG (j + 1) (X.A.deeper (PyProof.Rows.envOfC x (defScope st) s'.heap.objs.size fa cdv)) := (hr.mono hjk).deeper _
    refine ⟨_, hbody cdv X.A X.stack s' H1 (fun _ _ _ => False) z (me (lendB β)) rg (fun pn xe p1 p2 => be_ask (k := j) I1 L lam new nofr (hbind _ _ _ _ _) rg1 (fun s1 H2 E1 => hme _ _ s1 H2 E1 f c' (rg1.deeper _)) ⟨rfl, List.mem_singleton_self _⟩ J.len cov ei hN hv hd hcd) (fun cls d _ H => False) (takes_of rfl rfl rfl rfl), ?_⟩
    refine ⟨_, [], _, _, lam_start (z := z) hN tt sfs xz, ?_⟩
    unfold lamAt at at_
    rw [hn] at *
    cases em : m z (me (lendB β)) (.ex z :: List.replicate (n - 1) .un) with
    | stuck => rw [em] at at_; cases at_
    | exc y β1 =>
      rw [em] at at_
      simp only [finF] at at_
      split at at_ <;> cases at_
    | ok fl β1 =>
      rw [em] at at_
      intro σ' H' F' fe J'
      obtain ⟨F2, fe2, J2, tp, fz, nn⟩ := J.behind hP gr hco fe J'
      cases fl with
      | brk => cases at_
      | ct => cases at_
      | nx =>
        simp only [finF] at at_
        split at at_
        · cases at_
          exact h .non H' F2 fe2 J2 .non
        · cases at_
      | ret r' =>
        simp only [finF] at at_
        split at at_
        · cases at_
          intro v rr
          refine h v H' F2 fe2 J2 ?_
          cases r with
          | fz d => exact DR.imm tp fz rr hi
          | own d =>
            obtain ⟨b, rfl, f1, g1, _, ow, _⟩ := rr
            have hx := (nn b).2 (butIo_none g1 (fun z => nomatch z)).2
            refine ⟨b, rfl, (nn b).1 f1, J.sg.free hx, fun z => ?_, ow.immF tp fz hi, fun i t e1 e2 e3 => ?_⟩
            · obtain ⟨u, hu⟩ := J.ioH b z
              rw [hu] at hx
              cases hx
            · cases t with
              | un => cases e2
              | fz _ => cases e2
              | gh _ => cases e2
              | ex _ => cases e2
              | own b2 d2 =>
                obtain ⟨w, ew, x2, q, _, _, _, _, r2⟩ := J.sl i _ e1
                obtain ⟨u, hu, _⟩ := r2.there
                rw [e3, q] at ew
                have := V.ref.inj (Option.some.inj (Option.some.inj ew))
                rw [this, hu] at hx
                cases hx
        · cases at_
  refine wpAny_call (codeAny_mono rc fun q s2 hq => ?_)
  match q, hq with
  | .error e, hq =>
    obtain ⟨_, _, _, _, _, _, _, _, _, _, _, _, q⟩ := hq
    exact q.elim
  | .ok (.ret u), hq => exact I1.after hq
  | .ok .next, hq => exact hq.elim
  | .ok .brk, hq => exact hq.elim
  | .ok .cont, hq => exact hq.elim
end
end B

set_option Elab.async false
set_option linter.all false
set_option maxRecDepth 100000
set_option maxHeartbeats 4000000
namespace B
open PySem PySem.Spec L2
/-! ## defs that make lambdas: a slot more tells of the tables of code objects -/
noncomputable def runT (ks : List Bool) (n gi : Nat) (m : List (Addr × Str) → M Fl) (ds : List D) : FR := open Classical in
  if ∀ ts, finF ks (m ts ((start0 ks n ds).set gi (.gh ts))) = finF ks (m [] ((start0 ks n ds).set gi (.gh []))) then finF ks (m [] ((start0 ks n ds).set gi (.gh []))) else .stuck
theorem runT_all {ks : List Bool} {n gi : Nat} {m : List (Addr × Str) → M Fl} {ds : List D} {x : FR} (h : runT ks n gi m ds = x) (hx : x ≠ .stuck) (ts : List (Addr × Str)) : finF ks (m ts ((start0 ks n ds).set gi (.gh ts))) = x := by
  unfold runT at h
  split at h
  · rename_i q
    rw [q ts, h]
  · exact absurd h.symm hx
/-- a def's promise where the tables ts are known -/
def spBT (K : PySem.W.Frag) (mg : Str → Option Value) (ts : List (Addr × Str)) (ks : List Bool) (f : List D → FR) : Sp := fun vs H Q E => ∃ T F io ds, (∀ p ∈ ts, T p.1 = some p.2) ∧ ((∀ a q, T a = some q → F a = none ∧ LamX.TabS H a q) ∧ ∀ a ∈ io, T a = none) ∧ Same F H ∧ (∀ a ∈ io, F a = none) ∧ io.Nodup ∧ AR K mg F H ks io vs ds ∧ match f ds with
  | .stuck => False
  | .ok r ios => ∀ v H' F', After K mg T F H io ios F' H' → (match r with
    | .fz d => DR K mg F' v d
    | .own d => ∃ a, v = .ref a ∧ H a = none ∧ F' a = none ∧ OwnR K mg F' H' a d) → Q v H'
  | .exc x ios => ∀ cls d H' F', After K mg T F H io ios F' H' → XR K mg F' cls d x → E cls d H'
/-- a def whose code object is known -/
structure FunC (K : PySem.W.Frag) (x : Str) (st : Stmt) (f c : Addr) (fd : FuncData) : Prop where
  ex : ∃ (oc : Value) (od : Option Addr) (kV doc pm : Value) (an : Option Addr) (ct : Value) (osl : Array (Option Value)),
    fd = PySem.W.fnOf x x (defArgs st) (defBody st) (defScope st) .none kV doc pm an (.ref c) ct ∧ K.lookup f = some ⟨oc, od, .func fd, osl⟩ ∧ PySem.W.codeIn K (.ref c) x = true
section
variable {K : PySem.W.Frag} {mg : Str → Option Value} {G : GT} {F F' H H' : Hp} {io : List Addr} {β : B.Env} {σ : L2.St}
theorem BI.ghost (I : BI K mg G F io β σ H) {i : Nat} {ts : List (Addr × Str)} (e : β[i]? = some .un) (h : ∀ p ∈ ts, G.t p.1 = some p.2) : BI K mg G F io (β.set i (.gh ts)) σ H := by
  have hi := (List.getElem?_eq_some_iff.mp e).1
  have old : ∀ {j : Nat} {s : Sl}, (β.set i (.gh ts))[j]? = some s → isOwn s = true → β[j]? = some s := fun {j s} ej hs => by
    by_cases hj : i = j
    · subst hj
      rw [List.getElem?_set_self hi] at ej
      cases ej
      cases hs
    · rwa [List.getElem?_set_ne hj] at ej
  refine ⟨I.sg, I.sf, I.ioF, I.ioH, by rw [List.length_set]; exact I.len, fun j s ej => ?_, fun j k s t b ej ek hj hk => I.apart j k s t b (old ej hj) (old ek hk) hj hk⟩
  by_cases hj : i = j
  · subst hj
    rw [List.getElem?_set_self hi] at ej
    cases ej
    obtain ⟨o, eo, _⟩ := I.sl i _ e
    exact ⟨o, eo, h⟩
  · rw [List.getElem?_set_ne hj] at ej
    exact I.sl j s ej
end
section
variable {P : Program} {w : World} {K : PySem.W.Frag} {mg : Str → Option Value} {base : Heap}
/-- the rule for such a def -/
theorem fnBT {x : Str} {st : Stmt} {f c : Addr} {fd : FuncData} {N ps : List Str} {k gi : Nat} {m : List (Addr × Str) → M Fl} (ts : List (Addr × Str)) (ks : List Bool) (Fn : FunC K x st f c fd) (S : FnScope N ps (defScope st)) (hk : ks.length = ps.length) (hg1 : ks.length ≤ gi) (hg2 : gi < N.length)
    (hb : ∀ (A : Around) (outer : List PySem.Env) (s : Shared) (H : Hp) (E : XK), RoomG k (A.deeper (PyProof.Rows.envOfC x (defScope st) s.heap.objs.size f (.ref c))) → BSs (cxOf (L2.CX P w) P w K mg base N x (defScope st) f (.ref c) A outer s H E) (defBody st) (m ts)) :
    FnG P w K mg base (k + 1) f fd ps (spBT K mg ts ks (runT ks N.length gi m)) := by
  obtain ⟨oc, od, kV, doc, pm, an, ct, osl, rfl, lk, hcd⟩ := Fn.ex
  refine fnG_raw lk hcd S (fun vs H Q E ⟨T, F, io, ds, _, _, _, _, _, ar, _⟩ => by rw [ar.len.1, hk]) fun A outer s H vs Q E hr h => ?_
  refine ⟨_, hb A outer s H E hr (fun cls d _ H' => E cls d H') (takes_of rfl rfl rfl rfl), ?_⟩
  obtain ⟨T, F, io, ds, tq, tt, sf, fi, nd, ar, h⟩ := h
  have hpl : ps.length ≤ N.length := by
    have := congrArg List.length S.pre
    rw [List.length_take] at this
    omega
  have I0 := bi_start (N := N) sf tt fi nd ar (by omega)
  have eun : (start0 ks N.length ds)[gi]? = some .un := by
    unfold start0
    have := par_len (j := 0) ar.len.2
    rw [List.getElem?_append_right (by omega), List.getElem?_replicate, if_pos (by omega)]
  have I := I0.ghost eun (ts := ts) fun p hp => tq p hp
  refine ⟨_, io, F, _, I, ?_⟩
  have aft : ∀ {β : B.Env} {σ' : L2.St} {H' F' : Hp} {ios : List D}, endIo ks 0 β = some ios → FE (butIo T H io) io F F' → BI K mg (butIo T H io) F' io β σ' H' → After K mg T F H io ios F' H' := fun {β σ' H' F' ios} e fe I' =>
    ⟨fe.same, fun a o q => (fe.new a o q).imp id fun ⟨q1, q2⟩ => (butIo_none q1 q2).2, I'.sf, I'.ioF, fun b o q nb tb => I'.sg.g b o (by unfold butIo; simp only; rw [if_neg (fun z => z.elim nb fun z => z tb)]; exact q), I'.sg.t, endIo_ok I' (n := 0) e (by rw [ar.io_len]; simp)⟩
  cases er : runT ks N.length gi m ds with
  | stuck => rw [er] at h; exact h.elim
  | ok r ios =>
    rw [er] at h
    have e0 := runT_all er (by simp) ts
    cases e : m ts ((start0 ks N.length ds).set gi (.gh ts)) with
    | stuck => rw [e] at e0; cases e0
    | exc y β =>
      rw [e] at e0
      simp only [finF] at e0
      split at e0 <;> cases e0
    | ok fl β =>
      rw [e] at e0
      intro σ' H' F' fe I'
      cases fl with
      | brk => cases e0
      | ct => cases e0
      | nx =>
        simp only [finF] at e0
        split at e0
        · rename_i e2
          cases e0
          exact h .non H' F' (aft e2 fe I') .non
        · cases e0
      | ret r' =>
        intro v rr
        simp only [finF] at e0
        split at e0
        · rename_i e2
          cases e0
          refine h v H' F' (aft e2 fe I') ?_
          cases r with
          | fz d => exact rr
          | own d =>
            obtain ⟨a, ea, f1, g1, ni, o, _⟩ := rr
            exact ⟨a, ea, (butIo_none g1 ni).2, f1, o⟩
        · cases e0
  | exc y ios =>
    rw [er] at h
    have e0 := runT_all er (by simp) ts
    cases e : m ts ((start0 ks N.length ds).set gi (.gh ts)) with
    | stuck => rw [e] at e0; cases e0
    | ok fl β =>
      rw [e] at e0
      cases fl <;> simp only [finF] at e0 <;> first | cases e0 | (split at e0 <;> cases e0)
    | exc y' β =>
      rw [e] at e0
      intro σ' cls d H' F' fe I' xr
      simp only [finF] at e0
      split at e0
      · rename_i e2
        cases e0
        exact h cls d H' F' (aft e2 fe I') xr
      · cases e0
end
end B

set_option Elab.async false
set_option linter.all false
set_option maxRecDepth 100000
set_option maxHeartbeats 4000000
namespace B
open PySem PySem.Spec L2
/-! ## the law's end, with tables -/
section
variable {P : Program} {w : World} {K : PySem.W.Frag} {mg mb : Str → Option Value} {k : Nat} {fa a : Addr} {fd : FuncData} {x : Str} {sp : Sp} {s₁ : Shared} {vs : List Value} {ns : List Int}
open Classical in
/-- the script's place and the empty tables -/
noncomputable def withTabs (H : Hp) (cs : List (Addr × Addr)) : Hp := fun b => if b ∈ cs.map (·.2) then some (.tbl #[]) else H b
theorem law_endT {H : Hp} {cs : List (Addr × Addr)} (S : Scr P w K a ns s₁ H) (KX : K.In s₁.heap) (hns : s₁.heap.Ns mainGlobals mg) (hb : s₁.heap.Ns builtinsNs mb) (hbb : ∀ x : Str, x ≠ "__name__" → mb x = bootBuiltins x) (hlim : s₁.heap.NoLimit) (hg : s₁.gens = #[])
    (bmain : ∃ (bm : Addr) (ob : Obj), mg "__builtins__" = some (.ref bm) ∧ bm ≠ builtinsNs ∧ s₁.heap.get? bm = some ob ∧ ob.cls = .type "module" ∧ ob.dict = some builtinsNs ∧ ob.data = .plain)
    (hcs : ∀ p ∈ cs, PySem.W.CodeHd s₁.heap p.1 p.2 ∧ s₁.heap.get? p.2 = some (PySem.W.tabObj #[])) (nK : ∀ p ∈ cs, K.lookup p.2 = none)
    (ha : s₁.heap.get? a = some { cls := .type "list", data := .seq vs.toArray }) (hr : RoomG k callerA) (F : ∀ base : Heap, K.In base → base.Ns mainGlobals mg → (∀ p ∈ cs, LamX.TabB base mg p.1 p.2) → FnG P w K mg base k fa fd [x] sp) (hbind : ∀ (s : Shared) (u : Value), BindsTo s fd ⟨[u], []⟩ [(x, u)])
    (hsp : sp [.ref a] (withTabs H cs) (fun v _ => v = .bl true) fun _ _ _ => False) (hCX : ∀ e s', L2.CX P w [] (withTabs H cs) s₁ (fun _ _ _ => False) e s' → False) :
    codeAny (model P w) callerA (.call (.ref fa) ⟨[.ref a], []⟩) (fun r s' => r = .ok (.ret (.bool true)) ∧ OldK s₁.heap s'.heap ∧ s'.os = s₁.os ∧ PyProof.Rows.AllBare s'.gens) s₁ := by
  have isTab : ∀ {b : Addr}, b ∈ cs.map (·.2) → s₁.heap.get? b = some (PySem.W.tabObj #[]) := fun {b} hb => by
    obtain ⟨p, hp, rfl⟩ := List.mem_map.mp hb
    exact (hcs p hp).2
  have tab : ∀ {b : Addr}, b ∈ cs.map (·.2) → withTabs H cs b = some (.tbl #[]) := fun {b} hb => by unfold withTabs; rw [if_pos hb]
  have rest : ∀ {b : Addr}, b ∉ cs.map (·.2) → withTabs H cs b = H b := fun {b} hb => by unfold withTabs; rw [if_neg hb]
  -- what is neither a table nor a row is hidden by nothing
  have free : ∀ {b : Addr} {o : Obj}, s₁.heap.get? b = some o → o.data ≠ .fields #[] → (∀ its n, o.data ≠ .seq its n) → withTabs H cs b = none := fun {b o} e h1 h2 => by
    have nb : b ∉ cs.map (·.2) := fun z => by
      rw [isTab z] at e
      cases e
      exact h1 rfl
    rw [rest nb]
    cases q : H b with
    | none => rfl
    | some u =>
      obtain ⟨rfl, _⟩ := S.only b u q
      rw [ha] at e
      cases e
      exact (h2 _ _ rfl).elim
  have kept : ∀ {b : Addr} {o : Obj}, s₁.heap.get? b = some o → o.data ≠ .fields #[] → (∀ its n, o.data ≠ .seq its n) → (hidT s₁.heap (withTabs H cs)).get? b = some o := fun e h1 h2 => hidT_get e (free e h1 h2)
  have nsK : ∀ {b : Addr} {m : Str → Option Value}, s₁.heap.Ns b m → (hidT s₁.heap (withTabs H cs)).Ns b m := fun ⟨o, es, ep, e, d, r⟩ => ⟨o, es, ep, kept e (by rw [d]; nofun) (by rw [d]; nofun), d, r⟩
  have inB : K.In (hidT s₁.heap (withTabs H cs)) := fun b o e => hidT_get (KX b o e) (by
    have nb : b ∉ cs.map (·.2) := fun z => by
      obtain ⟨p, hp, rfl⟩ := List.mem_map.mp z
      rw [nK p hp] at e
      cases e
    rw [rest nb]
    cases q : H b with
    | none => rfl
    | some u =>
      obtain ⟨rfl, n, _⟩ := S.only b u q
      rw [n] at e
      cases e)
  have ok : HOk P w (withTabs H cs) s₁.heap := fun b u e => by
    by_cases hb : b ∈ cs.map (·.2)
    · rw [tab hb] at e
      cases e
      exact isTab hb
    · rw [rest hb] at e
      obtain ⟨_, _, ob, xs, rfl⟩ := S.only b u e
      exact S.ok b _ e
  have base : Mod K mg (hidT s₁.heap (withTabs H cs)) := ⟨inB, nsK hns, ⟨mb, nsK hb, hbb⟩, hlim.elim fun mc h => ⟨mc, nsK h.1, h.2⟩⟩
  have TB : ∀ p ∈ cs, LamX.TabB (hidT s₁.heap (withTabs H cs)) mg p.1 p.2 := fun p hp => by
    obtain ⟨hd, hP⟩ := hcs p hp
    refine ⟨?_, ?_, fun z => ?_⟩
    · obtain ⟨o, us, file, tf, flags, tg, inF, text, tt, e1, r1, r2, r3, r⟩ := hd
      exact ⟨o, us, file, tf, flags, tg, inF, text, tt, kept e1 (fun z => by rw [r2] at z; cases z; simp at r3) (fun _ _ z => by rw [r2] at z; cases z), r1, r2, r3, r⟩
    · obtain ⟨bm, ob, b1, b2, b3, b4, b5, b6⟩ := bmain
      have n1 : bm ≠ mainGlobals := fun q => by
        obtain ⟨o, es, ep, e, hd, _⟩ := hns
        rw [q, e] at b3
        cases b3
        rw [hd] at b6
        cases b6
      have n2 : bm ≠ p.2 := fun q => by
        rw [q, hP] at b3
        cases b3
        cases b6
      exact ⟨bm, ob, b1, b2, n1, n2, kept b3 (by rw [b6]; nofun) (by rw [b6]; nofun), b4, b5, b6⟩
    · obtain ⟨o, es, ep, e, hd, _⟩ := hns
      rw [z, hP] at e
      cases e
      cases hd
  have e0 : Env0 P w K mg (hidT s₁.heap (withTabs H cs)) callerA [] s₁ (withTabs H cs) := ⟨rfl, base, fun b o e => of_hidT e, Nat.le_of_eq (hidT_size _ _), trivial, fun b hb => (nomatch hb), ok, .of_eq hg⟩
  refine codeAny_mono ((F _ inB (nsK hns) TB).run (us := [.ref a]) (vs := [.ref a]) hr e0 (hbind s₁ (.ref a)) (.cons rfl .nil) hsp) fun r s' h => ?_
  match r, h with
  | .error e, h => exact (hCX e s' h).elim
  | .ok (.ret u), ⟨v, H', os, bare, un, hok', r', q⟩ =>
    cases (show v = .bl true from q)
    cases (show u = Value.bool true from r')
    have more : ∀ b ∈ cs.map (·.2), ∃ ps : Array Value, s'.heap.get? b = some (PySem.W.tabObj ps) := fun b hb => by
      obtain ⟨ps, z⟩ := un.tbls b #[] (tab hb)
      exact ⟨_, hok' b _ z⟩
    have same : ∀ b o, b ∉ cs.map (·.2) → s₁.heap.get? b = some o → s'.heap.get? b = some o := fun b o nb e => by
      cases q : H b with
      | none => exact un.keep b o e (by rw [rest nb]; exact q) (fun z => nomatch z) (fun z => nomatch z)
      | some u =>
        obtain ⟨_, _, ob, xs, rfl⟩ := S.only b u q
        have k1 := (S.ok b _ q).1
        have k2 := (hok' b _ (un.frzs b ob _ (by rw [rest nb]; exact q))).1
        rw [e] at k1
        cases k1
        exact k2
    refine ⟨rfl, ⟨fun b o e => ?_, fun b o e => ?_⟩, os, bare⟩
    · by_cases hb : b ∈ cs.map (·.2)
      · obtain ⟨ps, hm⟩ := more b hb
        obtain ⟨p, hp, rfl⟩ := List.mem_map.mp hb
        rw [(hcs p hp).2] at e
        cases e
        exact .inr (.inl ⟨((hcs p hp).1.tab (hcs p hp).2).isCodeTable, rfl, #[], ps, rfl, by rw [Array.empty_append]; exact hm⟩)
      · exact .inl (same b o hb e)
    · by_cases hb : b ∈ cs.map (·.2)
      · obtain ⟨ps, hm⟩ := more b hb
        exact ⟨_, hm⟩
      · exact ⟨o, same b o hb e⟩
end
theorem walk_BT {l : PySem.W.OpenLaw} {n k : Nat} {q : Program} {loose : List Str} {XP : (Str → Option Value) → Heap → Prop} {YP : World → Heap → Prop} {d : DefRec} {K : Params → PySem.W.Frag} {x : Str}
    (hn : l.most = some n) (hn2 : n ≤ sizeLine) (hdf : d.params.defaults = []) (hr : Room k callerA) (hY : ∀ (w : World) (h : Heap), YP w h → (K w.params).In h)
    (F : ∀ (w : World) (mg : Str → Option Value) (fa : Addr) (h : Heap), (K w.params).In h → h.Ns mainGlobals mg → (∀ (d' : DefRec) (y : Str) (c P : Addr), (PyProof.Rows.recsOf q).find? (fun e => e.name == y) = some d' → PySem.W.tabIn (K w.params) y = some (c, P) → PySem.W.CodeHd h c P ∧ h.get? P = some (PySem.W.tabObj #[])) → mg d.name = some (.ref fa) →
      ∃ (fd : FuncData) (cs : List (Addr × Addr)) (sp : Sp), (∀ p ∈ cs, PySem.W.CodeHd h p.1 p.2 ∧ h.get? p.2 = some (PySem.W.tabObj #[])) ∧ (∀ p ∈ cs, (K w.params).lookup p.2 = none) ∧ (∀ (s : Shared) (u : Value), BindsTo s fd ⟨[u], []⟩ [(x, u)]) ∧
        (∀ (H : Hp) (a : Addr) (ns : List Int), ns.length ≤ n → (∀ z ∈ ns, Builtin.Int.intBits z ≤ 1048576) → SqL (K w.params) H a (ns.map V.int) → (∀ p ∈ cs, H p.2 = some (.tbl #[])) → sp [.ref a] H (fun v _ => v = .bl true) fun _ _ _ => False) ∧
        ∀ base : Heap, (K w.params).In base → base.Ns mainGlobals mg → (∀ p ∈ cs, LamX.TabB base mg p.1 p.2) → FnG l.prog w (K w.params) mg base k fa fd [x] sp) :
    PySem.W.WalkO q loose XP YP l.row.toRowW d [] (fun f vs => PySem.call f vs) := by
  refine Att.attach_callB hn hdf fun w s₀ s₁ mg mb fa o pm cd doc a vs ns G Y ho hd hcd hmg hobj hints hlen hbits hg => ?_
  have KX := hY w _ Y
  obtain ⟨fd, cs, sp, hcs, nK, hb, hsp, hF⟩ := F w mg fa _ KX G.T.g (fun d' y c P e1 e2 => PySem.W.tab_of G.T KX e1 e2) hmg
  obtain ⟨H, S⟩ := scr_of (P := l.prog) (w := w) KX hobj hints (Nat.le_trans hlen hn2)
  have na : a ∉ cs.map (·.2) := fun z => by
    obtain ⟨p, hp, e⟩ := List.mem_map.mp z
    have := (hcs p hp).2
    rw [e, hobj] at this
    cases this
  have sq : SqL (K w.params) (withTabs H cs) a (ns.map V.int) := by
    rcases S.sq with h | h
    · rcases h with h | ⟨o, h⟩
      · exact .inl (.inl (by unfold withTabs; rw [if_neg na]; exact h))
      · exact .inl (.inr ⟨o, by unfold withTabs; rw [if_neg na]; exact h⟩)
    · exact .inr h
  exact law_endT S KX G.T.g G.T.b G.T.builtins G.T.nolimit hg G.T.bmain hcs nK hobj ⟨hr, rfl⟩ hF hb (hsp _ a ns hlen hbits sq fun p hp => by unfold withTabs; rw [if_pos (List.mem_map.mpr ⟨p, hp, rfl⟩)]) fun e s' h => by
    obtain ⟨_, _, _, _, _, _, _, _, _, _, _, _, z⟩ := h
    exact z
/-- the script where tables are known -/
theorem sp_lawT {K : PySem.W.Frag} {mg : Str → Option Value} {r : List D → FR} {a : Addr} {ns : List Int} {H : Hp} {ts : List (Addr × Str)} (hS : SqL K H a (ns.map V.int)) (nd : (ts.map (·.1)).Nodup) (ht : ∀ p ∈ ts, H p.1 = some (.tbl #[])) (h : r [.nd .scr (ns.map D.int)] = .ok (.fz (.bl true)) []) : spBT K mg ts [false] r [.ref a] H (fun v _ => v = .bl true) fun _ _ _ => False := by
  have look : ∀ p ∈ ts, ts.lookup p.1 = some p.2 := by
    clear ht h hS
    induction ts with
    | nil => exact fun _ h => nomatch h
    | cons q ts ih =>
      intro p hp
      obtain ⟨n1, n2⟩ := List.nodup_cons.mp nd
      rw [List.lookup_cons]
      rcases List.mem_cons.mp hp with rfl | hp
      · simp
      · have : (p.1 == q.1) = false := beq_eq_false_iff_ne.mpr fun z => n1 (List.mem_map.mpr ⟨p, hp, z⟩)
        rw [this]
        exact ih n2 p hp
  have mem : ∀ {b : Addr} {q : Str}, ts.lookup b = some q → (b, q) ∈ ts := fun {b q} e => by
    clear ht h hS look nd
    induction ts with
    | nil => cases e
    | cons p ts ih =>
      rw [List.lookup_cons] at e
      split at e
      · rename_i z
        cases e
        rw [eq_of_beq z]
        exact List.mem_cons_self
      · exact List.mem_cons_of_mem _ (ih e)
  open Classical in
  refine ⟨fun b => ts.lookup b, fun b => if b ∈ ts.map (·.1) then none else H b, [], _, look, ⟨fun b q e => ?_, fun _ z => (nomatch z)⟩, fun b o e => ?_, fun _ z => (nomatch z), .nil, .fz (.scr ?_ (DRs.ints ns)) .nil, ?_⟩
  · have m := mem e
    have hb : b ∈ ts.map (·.1) := List.mem_map.mpr ⟨_, m, rfl⟩
    exact ⟨if_pos hb, LamX.TabS.nil (ht _ m)⟩
  · simp only at e
    split at e
    · cases e
    · exact e
  · rcases hS with q | q
    · have na : a ∉ ts.map (·.1) := fun z => by
        obtain ⟨p, hp, e⟩ := List.mem_map.mp z
        have := ht p hp
        rw [e] at this
        rcases q with q | ⟨o, q⟩ <;> rw [this] at q <;> cases q
      rcases q with q | ⟨o, q⟩
      · exact .inl (.inl (by simp only; rw [if_neg na]; exact q))
      · exact .inl (.inr ⟨o, by simp only; rw [if_neg na]; exact q⟩)
    · exact .inr q
  · rw [h]
    intro v H' F' _ r
    cases (show DR K mg F' v (.bl true) from r)
    rfl
end B

set_option Elab.async false
set_option linter.all false
set_option maxRecDepth 100000
set_option maxHeartbeats 4000000
namespace B
open PySem PySem.Spec L2
/-! ## len(set(..)) of ints, doubles among them -/
def unlikeN (ns : List Int) : Nat := (PyProof.Rows.firstMet (fun i => ns.getD i 0) ns.length).length
def gLenSetD : D → Option Rs
  | .nd .lst ds => (ints? ds).bind fun ns => if ns.length ≤ 4000 then some (.fz (.int (unlikeN ns))) else none
  | _ => none
section
variable {X : Cx} {a : Expr} {p p2 q pos : Pos}
theorem pe_lenSetG {ta : TE} (hg : Gl X "len") (hm : X.mg "len" = none) (hg2 : Gl X "set") (hm2 : X.mg "set" = none) (arg : PE X a ta) (hc : X.calm = true) (one : starEach [a] X.env = (false, eval a X.env) :: starEach [] X.env) :
    PE X (.Call (.Name "len" p) [.Call (.Name "set" p2) [a] [] q] [] pos) fun σ H Q => ta σ H fun x H1 => ∃ (l : Addr) (ns : List Int), x = .ref l ∧ SqL X.K H1 l (ns.map V.int) ∧ ns.length ≤ 4000 ∧ Q (.int (unlikeN ns)) H1 where
  run pins s σ H Q I h := PyProof.Rows.Call_ (ld_blt I hg hm PySem.boot_len (PyProof.Rows.callWith_builtin1 (PyProof.Rows.args_cons (PyProof.Rows.Call_ (ld_blt I hg2 hm2 PyProof.Rows.boot_set (PyProof.Rows.callWith_type1 (PyProof.Rows.args_cons (thn (arg.run pins s σ H _ I h) fun v s1 hv => by
    obtain ⟨x, H1, J, rel, l, ns, rfl, sq, few, q1⟩ := hv
    cases rel
    obtain ⟨its, r, pl, hz⟩ := J.list sq
    have size : its.toArray.size = ns.length := by rw [List.size_toArray, ← r.length, List.length_map]
    refine PyProof.Rows.args_nil (PySem.call_set_list (J.ok.hd hc) pl.isList (by simpa using RZ.intsAre_vals r) (by rw [size]; unfold PySem.scanBound; omega) fun h' tk hS hk => PyProof.Rows.args_nil ?_)
    rw [size] at hS
    obtain ⟨o, es, ep, t, ho, hex, hd, _, _, _, hf, hn⟩ := hS
    have le := PyProof.Rows.firstMet_length_le (fun i => ns.getD i 0) ns.length
    have J2 := J.kept (h' := h') (t' := tk) fun b o e => hk b o (Heap.lt_size e) e
    exact PySem.call_len_set ho hex hd hf (by rw [hn]; omega) ⟨.int (unlikeN ns), H1, J2.tok _, ⟨_, by rw [hn]; rfl⟩, q1⟩) one) one rfl))) rfl) rfl rfl))
theorem be_lenSetD {ma : M Pl} (hg : Gl X "len") (hm : X.mg "len" = none) (hg2 : Gl X "set") (hm2 : X.mg "set" = none) (hc : X.calm = true) (ha : BP X a ma) (na : starEach [a] X.env = (false, eval a X.env) :: starEach [] X.env := by rfl) :
    BE X (.Call (.Name "len" p) [.Call (.Name "set" p2) [a] [] q] [] pos) (mUn gLenSetD ma) := by
  refine fun W tk => (pe_lenSetG hg hm hg2 hm2 (ha W tk) hc na).imp fun σ H Q ⟨G, io, F, β, I, h⟩ => ⟨G, io, F, β, I, h.bnd fun q β1 v H1 F1 fe1 I1 r1 h1 => ?_⟩
  unfold fin1 at h1
  cases e1 : look β1 q with
  | none => rw [e1] at h1; exact h1.elim
  | some d =>
    rw [e1] at h1
    simp only [Option.bind_some] at h1
    cases e2 : gLenSetD d with
    | none => rw [e2] at h1; exact h1.elim
    | some r =>
      rw [e2] at h1
      unfold gLenSetD at e2
      split at e2
      · obtain ⟨ns, e, e2⟩ := Option.bind_eq_some_iff.mp e2
        split at e2
        · rename_i hl
          cases e2
          have e := ints_of e
          subst e
          have hr := I1.look r1 e1
          cases hr with
          | @lst l vs ds hl' r => exact ⟨l, ns, rfl, .inl (.inl (by rw [hl', DRs.intsV r])), hl, h1 _ H1 F1 fe1 I1 (.int _)⟩
        · cases e2
      · cases e2
/-! ## {} -/
def mDict0 : M Rs := ret (.own (.nd .dct []))
theorem be_dict0 : BE X (.Dict [] [] pos) mDict0 := fun W tk => pe_dnewK.imp fun σ H Q ⟨G, io, F, β, I, h⟩ p hp => by
  obtain ⟨F', fe, I', r⟩ := I.step (r := .own (.nd .dct [])) (H' := upd H p (.dK [])) (v := .ref p) ⟨fun b o e => by rw [upd_ne (ne_of_none e hp)]; exact e, p, rfl, hp, .dK upd_same .nil .nil⟩
  exact h _ _ F' fe I' r
/-! ## a def that takes a lambda -/
theorem lam_of {P : Program} {w : World} {K : PySem.W.Frag} {mg : Str → Option Value} {base : Heap} {k : Nat} {x a : Str} {st : Stmt} {N : List Str} {m : Ez → R Rs → M Fl} (L : Lk K mg x st [a]) (S : FnScope N [a] (defScope st)) (h0 : N[0]? = some a) (hv : Vis (defScope st) a)
    (hb : ∀ (f : Addr) (cdv : Value) (A : Around) (outer : List PySem.Env) (s : Shared) (H : Hp) (E : XK) (z : Ez) (o : R Rs), RoomG k (A.deeper (PyProof.Rows.envOfC x (defScope st) s.heap.objs.size f cdv)) →
      (∀ (pn : List (Addr × Obj)) (xe : Value → Shared → Prop) (p1 p2 : Pos), BE ((cxOf (L2.CX P w) P w K mg base N x (defScope st) f cdv A outer s H E).tr pn xe) (.Call (.Name a p1) [] [] p2) (mAsk 0 z o)) →
      BSs (cxOf (L2.CX P w) P w K mg base N x (defScope st) f cdv A outer s H E) (defBody st) (m z o)) : LamFn P w K mg base k x a N.length m := by
  obtain ⟨f, fd, F, hm, hbd⟩ := L.ex
  exact ⟨f, fd, st, N, F, S, rfl, h0, hv, hm, F.kp, hbd, fun cdv A outer s H E z o => hb f cdv A outer s H E z o⟩
end
end B

set_option Elab.async false
set_option linter.all false
set_option maxRecDepth 100000
set_option maxHeartbeats 4000000
namespace B
open PySem PySem.Spec L2
/-! ## what is wished for behind lambdas -/
theorem FW_fin {ks : List Bool} {m : M Fl} {β : B.Env} {Q : Rs → List D → Prop} {E : Exn → List D → Prop} : FW (finF ks (m β)) Q E ↔ W m β (retW ks Q) (fun x β => optW (endIo ks 0 β) (E x)) := by
  unfold FW finF W retW
  cases m β with
  | stuck => with_unfolding_all rfl
  | ok f β => cases f <;> first | with_unfolding_all rfl | (simp only; cases endIo ks 0 β <;> with_unfolding_all rfl)
  | exc x β => simp only; cases endIo ks 0 β <;> with_unfolding_all rfl
theorem FW_is {x : FR} {r : Rs} {ios : List D} (h : FW x (fun r' ios' => r' = r ∧ ios' = ios) fun _ _ => False) : x = .ok r ios := by
  unfold FW at h
  cases x with
  | stuck => exact h.elim
  | exc _ _ => exact h.elim
  | ok r' ios' => rw [h.1, h.2]
theorem FW_ok {r : Rs} {ios : List D} {Q : Rs → List D → Prop} {E : Exn → List D → Prop} (h : Q r ios) : FW (.ok r ios) Q E := by
  unfold FW
  exact h
/-- a def that makes lambdas, whatever the tables are -/
theorem FW_runT {ks : List Bool} {n gi : Nat} {m : List (Addr × Str) → M Fl} {ds : List D} {Q : Rs → List D → Prop} {E : Exn → List D → Prop} (r : Rs) (ios : List D)
    (h : ∀ ts, W (m ts) ((start0 ks n ds).set gi (.gh ts)) (retW ks fun r' ios' => r' = r ∧ ios' = ios) fun _ _ => False) (q : Q r ios) : FW (runT ks n gi m ds) Q E := by
  have one : ∀ ts, finF ks (m ts ((start0 ks n ds).set gi (.gh ts))) = .ok r ios := fun ts => FW_is (FW_fin.mpr ((h ts).mono (fun _ _ h => h) fun _ _ h => h.elim))
  unfold runT
  rw [if_pos fun ts => by rw [one ts, one []], one []]
  exact FW_ok q
/-- a def called with a lambda of the outcome o: it tells w -/
theorem lamRun_of {n : Nat} {m : Ez → R Rs → M Fl} {o : R Rs} {w : Rs} (h : ∀ z, W (m z o) (.ex z :: List.replicate (n - 1) .un) (retW [false] fun r' ios' => r' = w ∧ ios' = []) fun _ _ => False) : lamRun n m o = .ok w [] := by
  have one : ∀ z, lamAt n m o z = .ok w [] := fun z => FW_is (FW_fin.mpr ((h z).mono (fun _ _ h => h) fun _ _ h => h.elim))
  unfold lamRun
  rw [if_pos fun z => by rw [one z, one z0], one z0]
section
variable {β : B.Env} {E : Exn → B.Env → Prop} {Q : Rs → B.Env → Prop}
theorem W_mLam {gi : Nat} {ts : List (Addr × Str)} {n : Nat} {m : Ez → R Rs → M Fl} {me : M Rs} (hg : β[gi]? = some (.gh ts))
    (h : W me (lendB β) (fun r β1 => β1 = lendB β ∧ ∃ w, lamRun n m (.ok r (lendB β)) = .ok w [] ∧ immR w = true ∧ Q w β) fun x β1 => β1 = lendB β ∧ ∃ w, lamRun n m (.exc x (lendB β)) = .ok w [] ∧ immR w = true ∧ Q w β) : W (mLam gi ts n m me) β Q E := by
  unfold W at h ⊢
  unfold mLam
  cases e : me (lendB β) with
  | stuck => rw [e] at h; exact h.elim
  | ok r β1 =>
    rw [e] at h
    obtain ⟨h1, w, h2, h3, h4⟩ := h
    subst h1
    rw [if_pos ⟨hg, rfl⟩, h2]
    simp only
    rw [if_pos h3]
    exact h4
  | exc x β1 =>
    rw [e] at h
    obtain ⟨h1, w, h2, h3, h4⟩ := h
    subst h1
    rw [if_pos ⟨hg, rfl⟩, h2]
    simp only
    rw [if_pos h3]
    exact h4
theorem W_mAsk_ok {i : Nat} {z : Ez} {r : Rs} {β' : B.Env} (h : β[i]? = some (.ex z)) (q : Q r β) : W (mAsk i z (.ok r β')) β Q E := by
  unfold W mAsk
  rw [h]
  simp only [if_true]
  exact q
theorem W_mAsk_exc {i : Nat} {z : Ez} {x : Exn} {β' : B.Env} (h : β[i]? = some (.ex z)) (q : E x β) : W (mAsk i z (.exc x β')) β Q E := by
  unfold W mAsk
  rw [h]
  simp only [if_true]
  exact q
/-! len(set(..)) -/
theorem unlike_nodup {ns : List Int} (h : ns.Nodup) : unlikeN ns = ns.length := by
  unfold unlikeN
  rw [RZ.firstMet_nodup h _ (Nat.le_refl _), List.take_length]
theorem w_lenSetD {ns : List Int} (hl : ns.length ≤ 4000) {P : Rs → Prop} : optW (gLenSetD (.nd .lst (ns.map D.int))) P ↔ P (.fz (.int (unlikeN ns))) := by
  unfold gLenSetD
  simp only
  have e : ints? (ns.map D.int) = some ns := ints_map ns
  rw [e]
  simp only [Option.bind_some]
  rw [if_pos hl]
  exact Iff.rfl
@[simp ↓] theorem W_mDict0 : W mDict0 β Q E ↔ Q (.own (.nd .dct [])) β := by with_unfolding_all exact Iff.rfl
@[simp ↓] theorem W_tyP {T : String} {p : Pl} {Q : Unit → B.Env → Prop} : W (tyP T p) β Q E ↔ optW (look β p) fun d => isTyP T d = true ∧ Q () β := by
  unfold W tyP optW
  cases look β p with
  | none => with_unfolding_all rfl
  | some d =>
    simp only
    by_cases h : isTyP T d = true
    · rw [if_pos h]; simp [h]
    · rw [if_neg h]; simp [h]
@[simp ↓] theorem W_mMet {T : String} {g : D → List D → Option Rs} {mo : M Pl} {ma : M (List Pl)} : W (mMet T g mo ma) β Q E ↔ W mo β (fun p β1 => W (tyP T p) β1 (fun _ β2 => W ma β2 (fun ps β3 => optW (look β3 p) fun d => optW (looks β3 ps) fun ds => isTyP T d = true ∧ optW (g d ds) fun r => Q r β3) E) E) E := by
  unfold mMet
  refine W_bnd.trans (W_congr fun p β1 => W_bnd.trans (W_congr fun _ β2 => W_bnd.trans (W_congr fun ps β3 => ?_)))
  unfold W finMet optW
  cases look β3 p with
  | none => with_unfolding_all rfl
  | some d =>
    cases looks β3 ps with
    | none => with_unfolding_all rfl
    | some ds =>
      simp only
      by_cases h : isTyP T d = true
      · rw [if_pos h]
        cases g d ds <;> simp [h]
      · rw [if_neg h]; simp [h]
@[simp] theorem isTyP_lst {ds : List D} : isTyP "list" (.nd .lst ds) = true := rfl
/-! rows of truths -/
theorem toPys_bls : ∀ bs : List Bool, toPys (bs.map D.bl) = bs.map PyData.bool
  | [] => rfl
  | b :: bs => by
    show PyData.bool b :: toPys (bs.map D.bl) = _
    rw [toPys_bls bs]
    rfl
theorem lay_bls : ∀ bs : List Bool, PyData.canLayAll0 (bs.map PyData.bool) = true
  | [] => by simp [PyData.canLayAll0]
  | b :: bs => by simp [PyData.canLayAll0, PyData.canLay0, lay_bls bs]
theorem depth_bls : ∀ bs : List Bool, PyData.depthAll (bs.map PyData.bool) = 0
  | [] => by simp [PyData.depthAll]
  | b :: bs => by simp [PyData.depthAll, PyData.depth, depth_bls bs]
theorem plain_bls : ∀ bs : List Bool, PyData.plainAll (bs.map PyData.bool) = true
  | [] => by simp [PyData.plainAll]
  | b :: bs => by simp [PyData.plainAll, PyData.plain, plain_bls bs]
theorem shp_bls (bs : List Bool) : shp (.nd .lst (bs.map D.bl)) = true := by
  unfold shp SeqAt.shaped
  show (PyData.canLay0 (.list (toPys (bs.map D.bl))) && decide (PyData.depth (.list (toPys (bs.map D.bl))) ≤ 64)) = true
  rw [toPys_bls]
  simp [PyData.canLay0, PyData.depth, lay_bls, depth_bls]
theorem shp_bl (b : Bool) : shp (.bl b) = true := by
  unfold shp SeqAt.shaped
  show (PyData.canLay0 (.bool b) && decide (PyData.depth (.bool b) ≤ 64)) = true
  simp [PyData.canLay0, PyData.depth]
theorem eqv_bl (a b : Bool) : eqv (.bl a) (.bl b) = (a == b) := by
  show PyData.eqv (.bool a) (.bool b) = _
  cases a <;> cases b <;> simp [PyData.eqv]
theorem w_countB {bs : List Bool} {b : Bool} {P : Rs → Prop} : optW (gCount (.nd .lst (bs.map D.bl)) [.bl b]) P ↔ P (.fz (.int (bs.count b : Nat))) := by
  unfold gCount
  simp only
  rw [if_pos ⟨shp_bl b, shp_bls bs, by rw [toPys_bls]; exact plain_bls bs, by show PyData.plain (.bool b) = true; simp [PyData.plain]⟩]
  have : (bs.map D.bl).countP (fun z => eqv z (.bl b)) = bs.count b := by
    rw [List.countP_map]
    unfold List.count
    congr 1
  rw [this]
  exact Iff.rfl
theorem w_indexB {bs : List Bool} {b : Bool} {i : Nat} (h : bs.findIdx? (· == b) = some i) {P : Rs → Prop} : optW (gIndex (.nd .lst (bs.map D.bl)) [.bl b]) P ↔ P (.fz (.int (i : Nat))) := by
  unfold gIndex
  simp only
  rw [if_pos ⟨shp_bl b, shp_bls bs⟩]
  have : (bs.map D.bl).findIdx? (fun z => eqv z (.bl b)) = some i := by
    rw [List.findIdx?_map]
    rw [← h]
    congr 1
  rw [this]
  exact Iff.rfl
end
end B

set_option Elab.async false
set_option linter.all false
set_option maxRecDepth 100000
set_option maxHeartbeats 4000000
namespace B
open PySem PySem.Spec L2
/-! ## repr of a tuple that may hold empty dicts -/
def dct0 : D → Bool
  | .nd .dct [] => true
  | _ => false
def okIt (d : D) : Bool := ((toPy d).canLay0 || dct0 d) && (toPy d).showable
def shwOk3 (ds : List D) : Bool := ds.all okIt && decide ((toPy (.nd .tup ds)).shown.length ≤ sizeLine) && decide ((toPy (.nd .tup ds)).depth ≤ 50)
def gRepr3 : D → Option Rs
  | .nd .tup ds => if shwOk3 ds = true then some (.fz (.str (toPy (.nd .tup ds)).shown)) else none
  | _ => none
section
variable {X : Cx} {pins : List (Addr × Obj)} {σ : L2.St} {H : Hp} {s : Shared}
theorem rd_item (I : Inv X pins σ H s) {v : V} {u : Value} {d : D} (h : DR X.K X.mg H v d) (r : RelV v u) (ok : okIt d = true) : ∃ as, Reads s.heap u (toPy d) as ∧ ((toPy d).hasDict = true → sysModules ∉ as) := by
  unfold okIt at ok
  rw [Bool.and_eq_true, Bool.or_eq_true] at ok
  rcases ok.1 with lay | dc
  · obtain ⟨as, rd⟩ := Dp.reads I _ _ _ (DR.dp h lay) r
    exact ⟨as, rd, PyData.noDict_hsm (PyData.hasDict_of_canLay _ lay)⟩
  · unfold dct0 at dc
    split at dc
    case h_2 => cases dc
    have key : ∀ {a : Addr} {o : Obj} {n : Nat}, s.heap.get? a = some o → o.cls = .type "dict" → o.data = .dict #[] n → (a == sysModules) = false → ∃ as, Reads s.heap (.ref a) (toPy (.nd .dct [])) as ∧ ((toPy (.nd .dct [])).hasDict = true → sysModules ∉ as) := fun {a o n} e1 e2 e3 e4 =>
      ⟨_, .dict (kvs := []) e1 e2 e3 .nil .nil, fun _ z => by
        simp at z
        rw [← z] at e4
        simp at e4⟩
    generalize hes : ([] : List D) = es at h
    cases h with
    | dK hH rs q =>
      subst hes
      rename_i a kvs ds0
      cases r
      have e0 : kvs = [] := by
        generalize hk : kvs.map (·.1) = ks at q
        cases q
        exact List.map_eq_nil_iff.mp hk
      subst e0
      obtain ⟨_, hs, vs, kv, dd⟩ := dk_of I.hok hH
      cases kv
      obtain ⟨o, es, ep, ho, hex, hd, _, pr, _⟩ := dd
      have : es = #[] := by
        generalize hl : es.toList = l at pr
        cases pr
        exact Array.toList_eq_nil_iff.mp hl
      subst this
      exact key ho hex.1 hd hs
    | dT hH rs q =>
      subst hes
      rename_i a kvs ds0
      cases r
      have e0 : kvs = [] := by
        generalize hk : kvs.map (·.1) = ks at q
        cases q
        exact List.map_eq_nil_iff.mp hk
      subst e0
      obtain ⟨_, hs, xs, pr, o, es, ep, ho, hex, hd, hes, _⟩ := dt_of I.hok hH
      cases pr
      have : es = #[] := Array.toList_eq_nil_iff.mp hes
      subst this
      exact key ho hex.1 hd hs
theorem rd_all (I : Inv X pins σ H s) : ∀ {vs : List V} {us : List Value} {ds : List D}, DRs X.K X.mg H vs ds → Vals vs us → ds.all okIt = true → (∀ t ∈ PyData.shownAll (toPys ds), t.length ≤ sizeLine) →
    ∃ as bs, ReadsAll s.heap us (toPys ds) as ∧ ReadAtMost s.heap (PyData.depthAll (toPys ds)) bs ∧ ReprAllK X.prog X.w bs s.heap (PyData.depthAll (toPys ds)) us (PyData.shownAll (toPys ds))
  | _, _, _, .nil, .nil, _, _ => ⟨[], [], .nil, (fun _ h => nomatch h), by simp only [toPys, PyData.shownAll]; exact .nil⟩
  | _, _, _, .cons (d := d) (ds := ds) h t, .cons r rr, ok, hz => by
    rw [List.all_cons, Bool.and_eq_true] at ok
    simp only [toPys, PyData.shownAll, PyData.depthAll] at hz ⊢
    have sh : (toPy d).showable = true := by
      have := ok.1
      unfold okIt at this
      exact (Bool.and_eq_true .. ▸ this).2
    obtain ⟨as, rd, sm⟩ := rd_item I h r ok.1
    obtain ⟨bs, b1, k1⟩ := ReprK.of_reads (prog := X.prog) (w := X.w) rd sh sm (hz _ List.mem_cons_self)
    obtain ⟨as2, bs2, rd2, b2, k2⟩ := rd_all I t rr ok.2 fun x hx => hz x (List.mem_cons_of_mem _ hx)
    exact ⟨as ++ as2, bs ++ bs2, .cons rd rd2, (b1.mono (Nat.le_max_left _ _)).append (b2.mono (Nat.le_max_right _ _)), .cons ((k1.more fun b hb => List.mem_append_left _ hb).level_le (Nat.le_max_left _ _)) (k2.more_le (fun b hb => List.mem_append_right _ hb) (Nat.le_max_right _ _))⟩
end
section
variable {X : Cx} {p pos : Pos} {a : Expr} {ma : M Pl}
theorem be_repr3 (hG : X.A.guards = some []) (hu : X.A.units + 64 < cLine) (hg : Gl X "repr") (hm : X.mg "repr" = none) (ha : BP X a ma) (hs : starEach [a] X.env = (false, eval a X.env) :: starEach [] X.env := by rfl)
    (hpl : (backTo pos (starEach [] X.env)).any (·.1) = false := by rfl) : BE X (.Call (.Name "repr" p) [a] [] pos) (mUn gRepr3 ma) := by
  have cr : CallR X (.builtin "repr") (fun xs H Q => ∃ (l : Addr) (vs : List V) (ds : List D), xs = [.ref l] ∧ SqT X.K H l vs ∧ DRs X.K X.mg H vs ds ∧ shwOk3 ds = true ∧ Q (.str (toPy (.nd .tup ds)).shown) H) := by
    intro pins s σ H xs us Q I r ⟨l, vs, ds, e, sq, dr, ok, q⟩
    subst e
    cases r with
    | cons r rr =>
      cases rr
      cases r
      simp only [shwOk3, Bool.and_eq_true, decide_eq_true_eq] at ok
      obtain ⟨its, rv, ⟨o, ho, hc, n, hd⟩, _⟩ := I.tuple sq
      have eT : (toPy (.nd .tup ds)).shown = tupleText (PyData.shownAll (toPys ds)) := by
        show PyData.shown (.tuple (toPys ds)) = _
        simp only [PyData.shown]
      have eD : (toPy (.nd .tup ds)).depth = PyData.depthAll (toPys ds) + 1 := by
        show PyData.depth (.tuple (toPys ds)) = _
        simp only [PyData.depth]
      rw [eT] at ok q
      rw [eD] at ok
      obtain ⟨as, bs, rd, b1, k1⟩ := rd_all I dr rv ok.1.1 fun t ht => Nat.le_trans (tupleText_mem_le ht) ok.1.2
      have rt : Reads s.heap (.ref l) (.tuple (toPys ds)) as := .tuple ho hc hd rd
      have hna : l ∉ bs := not_mem_of_deeper rt (by simp only [PyData.depth]; omega) b1
      exact call_repr_slot (by omega) ⟨o, ho, hc⟩ F.slot_tuple_repr (call_tuple_reprK ho hc hd hna k1 hG (fun b _ => Clear.nil b) (by show X.A.units + 1 + _ < cLine; omega) (fun _ _ e => e) (fun h' u tk hk => ⟨_, _, rfl, .str _, H, I.kept (t' := tk) hk, ⟨u, rfl⟩, q⟩) ok.1.2)
  refine fun W tk => (pe_callB cr hg hm PyProof.Rows.boot_repr (pa_cons (ha W tk) pa_nil hs) (by decide) (by decide) hs hpl).imp fun σ H Q ⟨G, io, F, β, I, h⟩ => ⟨G, io, F, β, I, h.bnd fun q β1 v H1 F1 fe1 I1 r1 h1 => ?_⟩
  unfold fin1 at h1
  cases e1 : look β1 q with
  | none => rw [e1] at h1; exact h1.elim
  | some d =>
    rw [e1] at h1
    simp only [Option.bind_some] at h1
    cases e2 : gRepr3 d with
    | none => rw [e2] at h1; exact h1.elim
    | some r =>
      rw [e2] at h1
      unfold gRepr3 at e2
      split at e2
      · rename_i ds
        split at e2
        · rename_i ok
          cases e2
          have dr := (I1.look r1 e1).dr I1.sf
          cases dr with
          | tup h r => exact ⟨_, _, _, rfl, .inl (.inl h), r, ok, h1 _ H1 F1 fe1 I1 (.str _)⟩
        · cases e2
      · cases e2
end
end B

set_option Elab.async false
set_option linter.all false
set_option maxRecDepth 100000
set_option maxHeartbeats 4000000
namespace B
open PySem PySem.Spec L2 PyProof.Rows
/-! # sets of tuples of ints, of any table: the probing -/
/-- the masks: 2^k - 1 -/
def Mk (m : Nat) : Prop := ∃ k, 3 ≤ k ∧ k ≤ 11 ∧ m + 1 = 2 ^ k
theorem Mk.seven : Mk 7 := ⟨3, by decide, by decide, by decide⟩
theorem Mk.odd {m : Nat} (h : Mk m) : m % 2 = 1 := by
  obtain ⟨k, h1, _, e⟩ := h
  obtain ⟨j, rfl⟩ : ∃ j, k = j + 1 := ⟨k - 1, by omega⟩
  rw [Nat.pow_succ] at e
  omega
theorem Mk.le {m : Nat} (h : Mk m) : 7 ≤ m ∧ m ≤ 2047 := by
  obtain ⟨k, h1, h2, e⟩ := h
  have a : 2 ^ 3 ≤ 2 ^ k := Nat.pow_le_pow_right (by decide) h1
  have b : 2 ^ k ≤ 2 ^ 11 := Nat.pow_le_pow_right (by decide) h2
  have c : (2 : Nat) ^ 3 = 8 := by decide
  have d : (2 : Nat) ^ 11 = 2048 := by decide
  omega
/-- (5^n - 1) / 4 -/
def s5 : Nat → Nat
  | 0 => 0
  | n + 1 => 5 * s5 n + 1
theorem s5_add (a : Nat) : ∀ b, s5 (a + b) = 5 ^ b * s5 a + s5 b
  | 0 => by simp [s5]
  | b + 1 => by
    show 5 * s5 (a + b) + 1 = 5 ^ (b + 1) * s5 a + (5 * s5 b + 1)
    rw [s5_add a b, Nat.pow_succ, Nat.mul_add, Nat.mul_comm (5 ^ b) 5, Nat.mul_assoc]
    omega
theorem s5_par : ∀ n, s5 n % 2 = n % 2
  | 0 => rfl
  | n + 1 => by
    have := s5_par n
    show (5 * s5 n + 1) % 2 = _
    omega
theorem p5_mod : ∀ n, 5 ^ n % 4 = 1
  | 0 => rfl
  | n + 1 => by
    have := p5_mod n
    rw [Nat.pow_succ]
    omega
theorem p5_s5 : ∀ n, 5 ^ n = 4 * s5 n + 1
  | 0 => rfl
  | n + 1 => by
    have := p5_s5 n
    rw [Nat.pow_succ]
    show _ = 4 * (5 * s5 n + 1) + 1
    omega
theorem two_odd {k c : Nat} {x : Nat} (h : 2 ^ k ∣ x * (2 * c + 1)) : 2 ^ k ∣ x := by
  have co : Nat.Coprime (2 ^ k) (2 * c + 1) := by
    refine Nat.Coprime.pow_left k ?_
    show Nat.gcd 2 (2 * c + 1) = 1
    rw [Nat.gcd_rec]
    have : (2 * c + 1) % 2 = 1 := by omega
    rw [this]
    rfl
  exact co.dvd_of_dvd_mul_right h
theorem s5_dvd : ∀ k n, 2 ^ k ∣ s5 n → 2 ^ k ∣ n
  | 0, n, _ => by simp
  | k + 1, n, h => by
    have h2 : 2 ∣ s5 n := Nat.dvd_trans ⟨2 ^ k, by rw [Nat.pow_succ, Nat.mul_comm]⟩ h
    have hp := s5_par n
    obtain ⟨e, rfl⟩ : ∃ e, n = e + e := ⟨n / 2, by omega⟩
    rw [s5_add] at h
    have e1 : 5 ^ e * s5 e + s5 e = 2 * (s5 e * (2 * s5 e + 1)) := by
      rw [p5_s5]
      have : (4 * s5 e + 1) * s5 e = 4 * (s5 e * s5 e) + s5 e := by rw [Nat.add_mul, Nat.mul_assoc, Nat.one_mul]
      rw [this, Nat.mul_add, Nat.mul_one, Nat.mul_left_comm (s5 e) 2]
      omega
    rw [e1, Nat.pow_succ, Nat.mul_comm (2 ^ k) 2] at h
    have h3 : 2 ^ k ∣ s5 e * (2 * s5 e + 1) := Nat.dvd_of_mul_dvd_mul_left (by decide) h
    obtain ⟨q, hq⟩ := s5_dvd k e (two_odd h3)
    exact ⟨q, by rw [Nat.pow_succ, Nat.mul_assoc, Nat.mul_left_comm, ← hq]; omega⟩
theorem mod5 {n a b : Nat} (h : a % n = b % n) : (a * 5 + 1) % n = (b * 5 + 1) % n := by
  rw [Nat.add_mod, Nat.mul_mod, h, ← Nat.mul_mod, ← Nat.add_mod]
theorem lcg_val (m i : Nat) : ∀ n, lcgI m i n % (m + 1) = (5 ^ n * i + s5 n) % (m + 1)
  | 0 => by simp [lcgI, s5]
  | n + 1 => by
    show (lcgI m i n * 5 + 1) % (m + 1) % (m + 1) = (5 ^ (n + 1) * i + (5 * s5 n + 1)) % (m + 1)
    rw [Nat.mod_mod, mod5 (lcg_val m i n)]
    congr 1
    rw [Nat.pow_succ, Nat.add_mul, Nat.mul_right_comm]
    omega
theorem lcg_lt {m i : Nat} (hi : i ≤ m) : ∀ n, lcgI m i n ≤ m
  | 0 => hi
  | n + 1 => Nat.le_of_lt_succ (Nat.mod_lt _ (Nat.succ_pos _))
theorem lcg_inj {m k i a d : Nat} (e : m + 1 = 2 ^ k) (h : lcgI m i a % (m + 1) = lcgI m i (a + d) % (m + 1)) : 2 ^ k ∣ d := by
  rw [lcg_val, lcg_val, e] at h
  have h1 := Nat.sub_mod_eq_zero_of_mod_eq h.symm
  have ed : 5 ^ (a + d) * i + s5 (a + d) = 5 ^ a * i + s5 a + 5 ^ a * s5 d * (2 * (2 * i) + 1) := by
    rw [Nat.add_comm a d, s5_add, Nat.pow_add, p5_s5 d]
    have q1 : (4 * s5 d + 1) * 5 ^ a * i = 4 * (5 ^ a * s5 d * i) + 5 ^ a * i := by
      rw [Nat.add_mul, Nat.add_mul, Nat.one_mul, Nat.mul_assoc 4, Nat.mul_comm (s5 d), Nat.mul_assoc 4]
    have q2 : 5 ^ a * s5 d * (2 * (2 * i) + 1) = 4 * (5 ^ a * s5 d * i) + 5 ^ a * s5 d := by
      rw [Nat.mul_add, Nat.mul_one, ← Nat.mul_assoc 2 2, Nat.mul_left_comm _ (2 * 2)]
    rw [q1, q2]
    omega
  rw [ed, Nat.add_sub_cancel_left] at h1
  have h2 := two_odd (Nat.dvd_of_mod_eq_zero h1)
  rw [p5_s5 a, Nat.mul_comm, show 4 * s5 a + 1 = 2 * (2 * s5 a) + 1 by omega] at h2
  exact s5_dvd k d (two_odd h2)
/-- each slot comes within a round -/
theorem lcg_onto {m i j : Nat} (hm : Mk m) (hi : i ≤ m) (hj : j ≤ m) : ∃ n, n ≤ m ∧ lcgI m i n = j := by
  obtain ⟨k, _, _, e⟩ := hm
  have nd : ((List.range (m + 1)).map (lcgI m i)).Nodup := by
    refine List.pairwise_map.mpr (List.Pairwise.imp_of_mem (fun {a b} ha hb hlt q => ?_) List.pairwise_lt_range)
    have hb' := List.mem_range.mp hb
    have h1 : 2 ^ k ∣ b - a := lcg_inj (i := i) (a := a) e (by rw [show a + (b - a) = b by omega, q])
    have h2 := Nat.le_of_dvd (by omega) h1
    omega
  rcases Classical.em (∃ n, n ≤ m ∧ lcgI m i n = j) with c | c
  · exact c
  · have hl := nat_nodup_len _ ((List.range (m + 1)).erase j) nd fun x hx => by
      obtain ⟨n, hn, rfl⟩ := List.mem_map.mp hx
      have hn' := Nat.le_of_lt_succ (List.mem_range.mp hn)
      refine (List.mem_erase_of_ne fun q => c ⟨n, hn', q⟩).mpr (List.mem_range.mpr (Nat.lt_succ_of_le (lcg_lt hi n)))
    rw [List.length_map, List.length_range, List.length_erase_of_mem (List.mem_range.mpr (Nat.lt_succ_of_le hj)), List.length_range] at hl
    omega
/-- a search's run begins at each slot, early enough -/
theorem run_all {m : Nat} (hm : Mk m) (h : Int) {j : Nat} (hj : j ≤ m) : ∃ n, n ≤ m + 12 ∧ runI m (SetTable.bits h) n = j := by
  obtain ⟨n, hn, e⟩ := lcg_onto hm (runI_le m (SetTable.bits h) 12) hj
  exact ⟨12 + n, by omega, (runI_tail (bits_lt h) n).trans e⟩
theorem way_all {m : Nat} (hm : Mk m) (h : Int) {j : Nat} (hj : j ≤ m) : ∃ n, n < 10 * SetTable.turns m ∧ way m h n = j := by
  obtain ⟨n, hn, e⟩ := run_all hm h hj
  obtain ⟨q, hq, e2⟩ := run_nth m (SetTable.bits h) n
  refine ⟨q, by unfold SetTable.turns; omega, ?_⟩
  show (nth m _ q).j = j
  rw [e2, ← e]
  rfl
theorem way_in {m : Nat} {h : Int} {n : Nat} : way m h n ≤ m := by
  have h0 : SetTable.bits h % (m + 1) ≤ m := Nat.le_of_lt_succ (Nat.mod_lt _ (Nat.succ_pos _))
  have h1 := runEnd_bd h0
  have h2 : (runAt m (SetTable.bits h % (m + 1)) (SetTable.bits h)).j + (runAt m (SetTable.bits h % (m + 1)) (SetTable.bits h)).more ≤ m := by
    unfold runAt
    simp only
    omega
  exact Nat.le_trans (Nat.le_add_right _ _) (nth_in n _ h2)
/-! ## tables -/
/-- each entry is met on its hash's way, ahead of any empty slot -/
structure TbG (t : SetTable) (hs : List Int) : Prop where
  ris : Ris t.place.toList
  dm : t.dummies = #[]
  sz : t.place.size = hs.length
  mko : Mk t.mask
  bd : ∀ x ∈ t.place.toList, x ≤ t.mask
  met : ∀ (i : Nat) (h : Int) (j : Nat), hs[i]? = some h → t.place.toList[i]? = some j → ∃ n, way t.mask h n = j ∧ ∀ c, c < n → way t.mask h c ∈ t.place.toList
section
variable {t : SetTable} {hs : List Int}
theorem TbG.empty (T : TbG t hs) (hl : hs.length ≤ t.mask) (h : Int) : ∃ n, n < 10 * SetTable.turns t.mask ∧ way t.mask h n ∉ t.place.toList ∧ ∀ c, c < n → way t.mask h c ∈ t.place.toList := by
  obtain ⟨j, hj, hn⟩ := st_missing t.place.toList (t.mask + 1) (by rw [Array.length_toList, T.sz]; omega)
  obtain ⟨k, hk, rfl⟩ := way_all T.mko h (Nat.le_of_lt_succ hj)
  obtain ⟨n, h1, h2, h3⟩ := st_least (p := fun c => way t.mask h c ∉ t.place.toList) k hn
  exact ⟨n, by omega, h2, fun c hc => Classical.byContradiction (h3 c hc)⟩
theorem TbG.ahead (T : TbG t hs) {h : Int} {n i j : Nat} (hn : way t.mask h n ∉ t.place.toList) (hi : hs[i]? = some h) (hj : t.place.toList[i]? = some j) : ∃ c, c < n ∧ way t.mask h c = j := by
  obtain ⟨c, e, hc⟩ := T.met i h j hi hj
  refine ⟨c, Nat.lt_of_not_le fun q => ?_, e⟩
  rcases Nat.lt_or_eq_of_le q with q | q
  · exact hn (hc n q)
  · rw [q, e] at hn
    exact hn (List.mem_of_getElem? hj)
/-- one put in at the first empty slot of its way -/
theorem TbG.put (T : TbG t hs) {h : Int} {n : Nat} (hn : way t.mask h n ∉ t.place.toList) (hb : ∀ c, c < n → way t.mask h c ∈ t.place.toList) :
    SetTable.below t.place (way t.mask h n) ≤ hs.length ∧ TbG (t.put (way t.mask h n)).1 (hs.take (SetTable.below t.place (way t.mask h n)) ++ h :: hs.drop (SetTable.below t.place (way t.mask h n))) := by
  generalize hj : way t.mask h n = j at hn ⊢
  have ps := put_place t j
  have cut := (below_cut T.ris j).1
  generalize hp : SetTable.below t.place j = p at ps cut ⊢
  have lp : p ≤ t.place.toList.length := by rw [Array.length_toList]; exact cut
  have lh : p ≤ hs.length := by rw [← T.sz]; exact cut
  have grow : ∀ x, x ∈ t.place.toList → x ∈ (t.put j).1.place.toList := fun x hx => by rw [ps]; exact mem_ins.mpr (.inr hx)
  have mem : j ∈ (t.put j).1.place.toList := by rw [ps]; exact mem_ins.mpr (.inl rfl)
  refine ⟨lh, ?_, put_dm T.dm j, ?_, T.mko, fun x hx => ?_, fun i h' j' e1 e2 => ?_⟩
  · refine ris_insert T.ris fun q => hn ?_
    rw [← Array.getElem?_toList] at q
    exact List.mem_of_getElem? q
  · rw [len_ins _ lh, ← T.sz, ← Array.length_toList, ps, len_ins _ lp, Array.length_toList]
  · rw [ps] at hx
    rcases mem_ins.mp hx with rfl | hx
    · rw [← hj]
      exact way_in
    · exact T.bd x hx
  · show ∃ c, way t.mask h' c = j' ∧ ∀ d, d < c → way t.mask h' d ∈ (t.put j).1.place.toList
    rw [tins_get hs lh] at e1
    rw [ps, tins_get _ lp] at e2
    have old : ∀ i, hs[i]? = some h' → t.place.toList[i]? = some j' → ∃ c, way t.mask h' c = j' ∧ ∀ d, d < c → way t.mask h' d ∈ (t.put j).1.place.toList := fun i a b => by
      obtain ⟨c, e, hc⟩ := T.met i h' j' a b
      exact ⟨c, e, fun d hd => grow _ (hc d hd)⟩
    split at e1
    · rename_i c
      rw [if_pos c] at e2
      exact old i e1 e2
    · rename_i c
      rw [if_neg c] at e2
      split at e1
      · rename_i c2
        rw [if_pos c2] at e2
        cases e1
        cases e2
        exact ⟨n, hj, fun d hd => grow _ (hb d hd)⟩
      · rename_i c2
        rw [if_neg c2] at e2
        exact old (i - 1) e1 e2
end
/-! ## all laid anew -/
theorem free_some {m : Nat} (hm : Mk m) (owner : Array (Option Nat)) (h : Int) {j : Nat} (hj : j ≤ m) (hf : oAt owner j = none) :
    ∃ n, SetTable.layClean.free m owner (SetTable.turns m) (SetTable.bits h % (m + 1)) (SetTable.bits h) = some (way m h n) ∧ oAt owner (way m h n) = none ∧ ∀ c, c < n → oAt owner (way m h c) ≠ none := by
  obtain ⟨q, hq, e⟩ := run_all hm h hj
  generalize ho : off m (SetTable.bits h % (m + 1)) (SetTable.bits h) q = o
  have hw : way m h o = j := by
    rw [← ho]
    show (nth m _ _).j = j
    rw [nth_off, itL_run, ← e]
    rfl
  obtain ⟨n, n1, n2, n3⟩ := st_least (p := fun c => oAt owner (way m h c) = none) o (by show oAt owner (way m h o) = none; rw [hw, hf])
  refine ⟨n, free_spec m owner _ q _ _ n (by unfold SetTable.turns; omega) (by rw [ho]; exact n1) (fun c hc => ?_) ?_, n2, n3⟩
  · cases z : oAt owner (nth m (runAt m (SetTable.bits h % (m + 1)) (SetTable.bits h)) c).j with
    | none => exact absurd z (n3 c hc)
    | some _ => rfl
  · have n2' : oAt owner (nth m (runAt m (SetTable.bits h % (m + 1)) (SetTable.bits h)) n).j = none := n2
    rw [n2']
    rfl
theorem own_next {m : Nat} (hm : Mk m) {done : List Int} {owner : Array (Option Nat)} (W : Own m done owner) (hl : done.length ≤ m) (h : Int) :
    ∃ j, SetTable.layClean.free m owner (SetTable.turns m) (SetTable.bits h % (m + 1)) (SetTable.bits h) = some j ∧ Own m (done ++ [h]) (owner.setIfInBounds j (some done.length)) := by
  obtain ⟨ps, pl, pin⟩ := W.ps
  obtain ⟨j0, l0, n0⟩ := st_missing ps (m + 1) (by omega)
  have e0 : oAt owner j0 = none := Classical.byContradiction fun q => n0 (pin j0 (Nat.le_of_lt_succ l0) q)
  obtain ⟨n, e1, e2, e3⟩ := free_some hm owner h (Nat.le_of_lt_succ l0) e0
  have jm : way m h n ≤ m := way_in
  have js : way m h n < owner.size := by rw [W.sz]; exact Nat.lt_succ_of_le jm
  generalize hj : way m h n = j at e1 e2 jm js
  have here := oAt_set_self (some done.length) js
  have stay : ∀ i, oAt owner i ≠ none → oAt (owner.setIfInBounds j (some done.length)) i ≠ none := fun i hi => by
    by_cases c : i = j
    · rw [c, here]
      exact fun q => nomatch q
    · rw [oAt_set_ne _ c]
      exact hi
  refine ⟨j, e1, by rw [Array.size_setIfInBounds]; exact W.sz, fun i k hi e => ?_, fun k hk => ?_, j :: ps, by simp [pl], fun i hi e => ?_⟩
  · by_cases c : i = j
    · rw [c, here] at e
      cases e
      exact ⟨h, n, by simp, by rw [c]; exact hj, fun d hd => stay _ (e3 d hd)⟩
    · rw [oAt_set_ne _ c] at e
      obtain ⟨h', q, a1, a2, a3⟩ := W.at_ i k hi e
      exact ⟨h', q, by rw [List.getElem?_append_left (List.getElem?_eq_some_iff.mp a1).1]; exact a1, a2, fun d hd => stay _ (a3 d hd)⟩
  · rcases Nat.lt_or_eq_of_le (Nat.le_of_lt_succ (show k < done.length + 1 by simpa using hk)) with c | c
    · obtain ⟨i, hi, e⟩ := W.all k c
      exact ⟨i, hi, by rw [oAt_set_ne _ fun q => by rw [q, e2] at e; cases e]; exact e⟩
    · rw [c]
      exact ⟨j, jm, here⟩
  · by_cases c : i = j
    · rw [c]
      exact List.mem_cons_self
    · rw [oAt_set_ne _ c] at e
      exact List.mem_cons_of_mem _ (pin i hi e)
theorem owns {m : Nat} (hm : Mk m) : ∀ (rest done : List Int) (owner : Array (Option Nat)), Own m done owner → done.length + rest.length ≤ m →
    ∃ owner', rest.foldl (stepF m) (some (owner, done.length)) = some (owner', done.length + rest.length) ∧ Own m (done ++ rest) owner'
  | [], done, owner, W, _ => ⟨owner, rfl, by rw [List.append_nil]; exact W⟩
  | h :: rest, done, owner, W, hl => by
    rw [List.length_cons] at hl
    obtain ⟨j, e, W1⟩ := own_next hm W (by omega) h
    obtain ⟨o2, f, W2⟩ := owns hm rest (done ++ [h]) _ W1 (by rw [List.length_append]; simp only [List.length_singleton]; omega)
    rw [List.append_assoc] at W2
    refine ⟨o2, ?_, W2⟩
    rw [List.foldl_cons, stepF_some e, List.length_cons]
    rw [List.length_append, List.length_singleton] at f
    rw [f, Nat.add_assoc, Nat.add_comm 1]
theorem lay_some {m : Nat} (hm : Mk m) {hs : Array Int} (hn : hs.size ≤ m) : ∃ owner, SetTable.layClean m hs = some owner ∧ Own m hs.toList owner := by
  obtain ⟨owner, f, W⟩ := owns hm hs.toList [] _ (Own.init m) (by simpa using hn)
  refine ⟨owner, ?_, W⟩
  rw [layClean_eq]
  exact congrArg (Option.map (·.1)) f
/-- a table laid anew -/
theorem laid_some {m : Nat} (hm : Mk m) (finger mv : Nat) (led pl : Bool) {hs : Array Int} (hn : hs.size ≤ m) :
    ∃ t' order, SetTable.laid m finger mv led pl hs = some (t', order) ∧ order.toList.Perm (List.range hs.size) ∧ TbG t' (order.toList.map fun i => hs.getD i 0) ∧ t'.mask = m ∧ t'.led = led ∧ t'.plain = pl := by
  obtain ⟨owner, e, W⟩ := lay_some hm hn
  have live := ris_live (fun j => owner.getD j none) (List.range (m + 1)) List.pairwise_lt_range
  refine ⟨{ mask := m, place := ((liveOf m owner).map (·.1)).toArray, dummies := #[], finger := finger, led := led, moves := mv, plain := pl }, ((liveOf m owner).map (·.2)).toArray, ?_, ?_, ?_, rfl, rfl, rfl⟩
  · unfold SetTable.laid
    rw [e]
    rfl
  · have ml : ∀ q, q ∈ liveOf m owner ↔ q.1 ≤ m ∧ oAt owner q.1 = some q.2 := fun ⟨_, _⟩ => mem_live W.sz
    obtain ⟨ps, p1, p2⟩ := W.ps
    have l1 := nat_nodup_len _ ps (List.Pairwise.imp Nat.ne_of_lt live.1) fun x hx => by
      obtain ⟨q, hq, rfl⟩ := List.mem_map.mp hx
      obtain ⟨b1, b2⟩ := (ml q).mp hq
      exact p2 _ b1 (by rw [b2]; exact fun z => nomatch z)
    have all : ∀ k, k < hs.size → k ∈ (liveOf m owner).map (·.2) := fun k hk => by
      obtain ⟨j, b1, b2⟩ := W.all k (by rw [Array.length_toList]; exact hk)
      exact List.mem_map.mpr ⟨(j, k), (ml _).mpr ⟨b1, b2⟩, rfl⟩
    have l2 := nat_nodup_len (List.range hs.size) _ List.nodup_range fun k hk => all k (List.mem_range.mp hk)
    refine perm_range hs.size _ ?_ all
    show ((liveOf m owner).map (·.2)).length = _
    have l1 : ((liveOf m owner).map (·.1)).length ≤ ps.length := l1
    have l3 : (liveOf m owner).length ≤ hs.size := by
      rw [← Array.length_toList, ← p1, ← List.length_map (f := (·.1))]
      exact l1
    rw [List.length_map, List.length_range] at l2
    rw [List.length_map]
    omega
  · refine ⟨live.1, rfl, by simp, hm, fun x hx => Nat.le_of_lt_succ (List.mem_range.mp (live.2 x hx)), fun i h j h1 h2 => ?_⟩
    have h1 : (((liveOf m owner).map (·.2)).map fun i => hs.getD i 0)[i]? = some h := h1
    have h2 : ((liveOf m owner).map (·.1))[i]? = some j := h2
    rw [List.getElem?_map, List.getElem?_map] at h1
    rw [List.getElem?_map] at h2
    cases hq : (liveOf m owner)[i]? with
    | none => rw [hq] at h2; cases h2
    | some q =>
      obtain ⟨y, k⟩ := q
      rw [hq] at h1 h2
      obtain rfl : y = j := Option.some.inj h2
      obtain rfl : hs.getD k 0 = h := Option.some.inj h1
      obtain ⟨b1, b2⟩ := (mem_live W.sz).mp (List.mem_of_getElem? hq)
      obtain ⟨h0, n, a1, a2, a3⟩ := W.at_ y k b1 b2
      have e0 : hs.getD k 0 = h0 := by
        rw [Array.getD_eq_getD_getElem?, ← Array.getElem?_toList, a1]
        rfl
      rw [e0]
      refine ⟨n, a2, fun c hc => ?_⟩
      show way m h0 c ∈ (liveOf m owner).map (·.1)
      cases z : oAt owner (way m h0 c) with
      | none => exact absurd z (a3 c hc)
      | some k2 => exact List.mem_map.mpr ⟨(way m h0 c, k2), (mem_live W.sz).mpr ⟨way_in, z⟩, rfl⟩
/-! ## sizes -/
theorem size_go : ∀ (f k n : Nat), n < 2 ^ (k + f) → ∃ j, k ≤ j ∧ SetTable.sizeAbove.go n f (2 ^ k) = 2 ^ j ∧ n < 2 ^ j ∧ (j = k ∨ 2 ^ j ≤ 2 * n)
  | 0, k, n, h => ⟨k, Nat.le_refl _, rfl, h, .inl rfl⟩
  | f + 1, k, n, h => by
    unfold SetTable.sizeAbove.go
    by_cases c : 2 ^ k ≤ n
    · rw [if_pos c, ← Nat.pow_succ]
      obtain ⟨j, h1, h2, h3, h4⟩ := size_go f (k + 1) n (by rw [show k + 1 + f = k + (f + 1) by omega]; exact h)
      refine ⟨j, by omega, h2, h3, .inr ?_⟩
      rcases h4 with rfl | h4
      · rw [Nat.pow_succ]
        omega
      · exact h4
    · rw [if_neg c]
      exact ⟨k, Nat.le_refl _, rfl, by omega, .inl rfl⟩
theorem size_mk {n : Nat} (h : n < 2048) : Mk (SetTable.sizeAbove n - 1) ∧ n < SetTable.sizeAbove n ∧ SetTable.sizeAbove n ≤ 4096 := by
  have e0 : (2048 : Nat) = 2 ^ 11 := by decide
  obtain ⟨j, h1, h2, h3, h4⟩ := size_go 64 3 n (Nat.lt_of_lt_of_le h (by decide))
  have e1 : SetTable.sizeAbove n = 2 ^ j := h2
  rw [e1]
  have hj : j ≤ 11 := by
    rcases h4 with rfl | h4
    · decide
    · refine Nat.le_of_not_lt fun q => ?_
      have := Nat.pow_le_pow_right (n := 2) (by decide) (show 12 ≤ j from q)
      have e2 : (2 : Nat) ^ 12 = 4096 := by decide
      omega
  have hp := Nat.pow_le_pow_right (n := 2) (by decide) hj
  exact ⟨⟨j, h1, hj, by omega⟩, h3, by omega⟩
end B

set_option Elab.async false
set_option linter.all false
set_option maxRecDepth 100000
set_option maxHeartbeats 4000000
namespace B
open PySem PySem.Spec L2 PyProof.Rows
/-! # sets of tuples of ints in the heap -/
/-- at a stands the set of the tuples L (where they stand, their ints) -/
structure SG (P : Program) (w : World) (h : Heap) (a : Addr) (L : List (Addr × List Int)) (es : Array (Int × Value)) (ep : Nat) (t : SetTable) : Prop where
  ob : ∃ o, h.get? a = some o ∧ o.ExactSet ∧ o.data = .set es ep t
  rows : es.toList = rowsOf P w L
  tab : TbG t (L.map fun p => thash P w p.2)
  nd : (L.map (·.2)).Nodup
  tup : ∀ p ∈ L, IsT P w h p.2 p.1
  plain : t.plain = true
  led : w.params.followText "set-order" = true ∨ t.led = true
  room : L.length * 5 < t.mask * 3
section
variable {P : Program} {w : World} {A : Around} {E : Value → Shared → Prop} {s : Shared} {h h' : Heap} {a : Addr} {L : List (Addr × List Int)} {es : Array (Int × Value)} {ep : Nat} {t : SetTable}
theorem rows_size (e : es.toList = rowsOf P w L) : es.size = L.length := by
  rw [← Array.length_toList, e]
  unfold rowsOf
  rw [List.length_map]
theorem SG.size (R : SG P w h a L es ep t) : es.size = L.length := rows_size R.rows
theorem TbG.fits {hs : List Int} (T : TbG t hs) (e : es.size = hs.length) (r : hs.length * 5 < t.mask * 3) : t.fits es.size = true := by
  unfold SetTable.fits SetTable.fill
  have := T.sz
  simp only [T.dm, Bool.and_eq_true, beq_iff_eq, decide_eq_true_eq]
  refine ⟨by omega, ?_⟩
  show t.place.size + 0 ≤ t.mask
  omega
theorem SG.fits (R : SG P w h a L es ep t) : t.fits es.size = true := R.tab.fits (by rw [List.length_map]; exact R.size) (by rw [List.length_map]; exact R.room)
theorem SG.at_ (R : SG P w h a L es ep t) {i : Nat} {p : Addr × List Int} (e : L[i]? = some p) : es[i]? = some (thash P w p.2, Value.ref p.1) := by
  rw [← Array.getElem?_toList, R.rows]
  unfold rowsOf
  simp [e]
theorem SG.stay (R : SG P w h a L es ep t) (ha : ∀ o, h.get? a = some o → h'.get? a = some o) (ht : ∀ p ∈ L, IsT P w h' p.2 p.1) : SG P w h' a L es ep t := by
  obtain ⟨o, ho, q⟩ := R.ob
  exact ⟨⟨o, ha o ho, q⟩, R.rows, R.tab, R.nd, ht, R.plain, R.led, R.room⟩
theorem nth_quiet (m : Nat) : ∀ (n : Nat) (p : SetTable.Probe), p.dummy = none → (nth m p n).dummy = none
  | 0, _, e => e
  | n + 1, p, e => nth_quiet m n _ (by unfold adv; split <;> exact e)
/-- THE SEARCH, gone on with from the c-th step of the way -/
theorem sg_search (R : SG P w s.heap a L es ep t) {x : Addr} {k : List Int} (hx : IsT P w s.heap k x) (hu : A.units < cLine) {n : Nat} (hn : n < 10 * SetTable.turns t.mask)
    (em : way t.mask (thash P w k) n ∉ t.place.toList) (oc : ∀ c, c < n → way t.mask (thash P w k) c ∈ t.place.toList) {Q : SetFound → Shared → Prop}
    (yes : k ∈ L.map (·.2) → Q (.there none) s) (no : k ∉ L.map (·.2) → Q (.free (way t.mask (thash P w k) n) false) s) :
    ∀ (f c : Nat) (st : Option SetTable.Probe), st.getD (t.probeStart (thash P w k)) = nth t.mask (t.probeStart (thash P w k)) c → c ≤ n → n - c < f →
      (∀ (i : Nat) p, L[i]? = some p → p.2 = k → ∃ d, c ≤ d ∧ d < n ∧ t.place.toList[i]? = some (way t.mask (thash P w k) d)) →
      wpAny (model P w) A (setSearchFrom a (.ref x) (thash P w k) true f st) Q E s
  | 0, _, _, _, _, z, _ => by omega
  | f + 1, c, st, hst, hc, hf, left => by
    obtain ⟨o, o1, _, o2⟩ := R.ob
    have fit := R.fits
    generalize hH : thash P w k = hk at *
    have shift : ∀ q, nth t.mask (nth t.mask (t.probeStart hk) c) q = nth t.mask (t.probeStart hk) (c + q) := fun q => (nth_add t.mask c _ q).symm
    have slotAt : ∀ q, (nth t.mask (nth t.mask (t.probeStart hk) c) q).j = way t.mask hk (c + q) := fun q => by rw [shift]; rfl
    have quiet : (nth t.mask (t.probeStart hk) c).dummy = none := nth_quiet t.mask c _ rfl
    have spec := go_spec t R.tab.ris R.tab.dm (fun i => (es[i]?.map (·.1)).getD 0) hk (10 * SetTable.turns t.mask) (n - c) (nth t.mask (t.probeStart hk) c) quiet (by omega)
      (fun q hq => by rw [slotAt]; exact oc _ (by omega)) (by rw [slotAt, Nat.add_sub_cancel' hc]; exact em)
    have hash : ∀ {i : Nat} {p : Addr × List Int}, L[i]? = some p → ((es[i]?).map (fun z : Int × Value => z.1)).getD 0 = thash P w p.2 := fun {i p} e => by rw [R.at_ e]; rfl
    rw [setSearchFrom_succ]
    refine wpAny_bind (wpAny_setState_of o1 o2 fit ?_)
    dsimp only
    refine wp_if_neg (by unfold SetTable.gaveWay; rw [R.tab.mko.odd]; decide) ?_
    try refine wpAny_bind (wpAny_pure ?_)
    unfold SetTable.probe
    rw [hst]
    rcases spec with ⟨q, i, hq, hi, hh, nx, pr⟩ | ⟨nx, pr⟩
    · rw [pr]
      dsimp only
      rw [slotAt] at hi ⊢
      have il : i < L.length := by
        have h1 := (List.getElem?_eq_some_iff.mp hi).1
        have h2 := R.tab.sz
        simp only [List.length_map, Array.length_toList] at h1 h2
        omega
      obtain ⟨p, hp⟩ : ∃ p, L[i]? = some p := ⟨_, List.getElem?_eq_getElem il⟩
      have pL := List.mem_of_getElem? hp
      have go : wpAny (model P w) A (searchRest a (.ref x) hk true f es t (way t.mask hk (c + q)) i (nth t.mask (nth t.mask (t.probeStart hk) c) (q + 1))) Q E s := by
        unfold searchRest
        rw [R.at_ hp]
        dsimp only
        refine wpAny_bind (wpAny_holding (wpAny_eqBool_tuple hu (R.tup p pL) hx ?_))
        refine wpAny_bind (wpAny_setState_of o1 o2 fit ?_)
        dsimp only
        by_cases ek : p.2 = k
        · refine wp_if_pos (by simp [ek]) (wpAny_pure (yes (List.mem_map.mpr ⟨p, pL, ek⟩)))
        · refine wp_if_neg (by simp [ek]) ?_
          try refine wpAny_bind (wpAny_pure ?_)
          rw [sameMem]
          have live := slot_live R.tab.ris hi
          simp only [if_true, live, R.at_ hp]
          refine wpAny_bind (wpAny_isSame_ref_self (wpAny_bind (wpAny_pure ?_)))
          simp only [if_true]
          refine wp_if_neg (by simp [ek]) ?_
          subst hH
          refine sg_search R hx hu hn em oc yes no f (c + (q + 1)) (some _) (shift (q + 1)) (by omega) (by omega) fun i0 p0 e0 k0 => ?_
          obtain ⟨d, d1, d2, d3⟩ := left i0 p0 e0 k0
          refine ⟨d, ?_, d2, d3⟩
          have a1 : ¬ d < c + q := fun z => nx (d - c) i0 (by omega) (by rw [slotAt, Nat.add_sub_cancel' d1]; exact d3) (by rw [hash e0, k0])
          have a2 : d ≠ c + q := fun z => by
            rw [z] at d3
            have l0 := slot_live R.tab.ris d3
            rw [live] at l0
            cases l0
            rw [hp] at e0
            cases e0
            exact ek k0
          omega
      by_cases hl : t.led = true
      · refine wp_if_neg (by simp [hl]) ?_
        try refine wpAny_bind (wpAny_pure ?_)
        exact go
      · refine wp_if_pos (by simp [hl]) ?_
        refine wpAny_bind (seen_tup hx (fun y hy => ?_) ?_)
        · obtain ⟨e, he, rfl⟩ := List.mem_map.mp hy
          have me : e ∈ es.toList := by
            have := (Array.mem_filter.mp (Array.mem_toList_iff.mp he)).1
            exact Array.mem_toList_iff.mpr this
          rw [R.rows] at me
          obtain ⟨p2, m2, rfl⟩ := List.mem_map.mp me
          exact ⟨p2.2, p2.1, rfl, R.tup p2 m2⟩
        · refine wp_if_neg (by decide) ?_
          try refine wpAny_bind (wpAny_pure ?_)
          exact go
    · rw [pr, slotAt, Nat.add_sub_cancel' hc]
      dsimp only
      refine wpAny_pure (no fun hm => ?_)
      obtain ⟨p0, m0, k0⟩ := List.mem_map.mp hm
      obtain ⟨i0, l0, e0⟩ := List.getElem_of_mem m0
      have e1 : L[i0]? = some p0 := by rw [List.getElem?_eq_getElem l0, e0]
      obtain ⟨d, d1, d2, d3⟩ := left i0 p0 e1 k0
      exact nx (d - c) i0 (by omega) (by rw [slotAt, Nat.add_sub_cancel' d1]; exact d3) (by rw [hash e1, k0, hH])
theorem sg_look (R : SG P w s.heap a L es ep t) {x : Addr} {k : List Int} (hx : IsT P w s.heap k x) (hu : A.units < cLine) {Q : SetFound → Shared → Prop}
    (yes : k ∈ L.map (·.2) → Q (.there none) s)
    (no : ∀ n, k ∉ L.map (·.2) → way t.mask (thash P w k) n ∉ t.place.toList → (∀ c, c < n → way t.mask (thash P w k) c ∈ t.place.toList) → Q (.free (way t.mask (thash P w k) n) false) s) :
    wpAny (model P w) A (setSearch a (.ref x) (thash P w k) true) Q E s := by
  have rm := R.room
  obtain ⟨n, n1, n2, n3⟩ := R.tab.empty (by rw [List.length_map]; omega) (thash P w k)
  have big : n < 100000 := by
    have := R.tab.mko.le
    unfold SetTable.turns at n1
    omega
  unfold setSearch
  refine sg_search R hx hu n1 n2 n3 yes (fun q => no n q n2 n3) 100000 0 none rfl (Nat.zero_le _) (by omega) fun i p e ek => ?_
  have e2 : (L.map fun p => thash P w p.2)[i]? = some (thash P w k) := by rw [List.getElem?_map, e, ← ek]; rfl
  have il : i < t.place.toList.length := by
    have h1 := (List.getElem?_eq_some_iff.mp e).1
    have h2 := R.tab.sz
    simp only [List.length_map, Array.length_toList] at h2 ⊢
    omega
  obtain ⟨c, c1, c2⟩ := R.tab.ahead n2 e2 (List.getElem?_eq_getElem il)
  exact ⟨c, Nat.zero_le _, c1, by rw [List.getElem?_eq_getElem il, c2]⟩
end
end B

set_option Elab.async false
set_option linter.all false
set_option maxRecDepth 100000
set_option maxHeartbeats 4000000
namespace B
open PySem PySem.Spec L2 PyProof.Rows
/-- the same, its table perhaps too full -/
structure SW (P : Program) (w : World) (h : Heap) (a : Addr) (L : List (Addr × List Int)) (es : Array (Int × Value)) (ep : Nat) (t : SetTable) : Prop where
  ob : ∃ o, h.get? a = some o ∧ o.ExactSet ∧ o.data = .set es ep t
  rows : es.toList = rowsOf P w L
  tab : TbG t (L.map fun p => thash P w p.2)
  nd : (L.map (·.2)).Nodup
  tup : ∀ p ∈ L, IsT P w h p.2 p.1
  plain : t.plain = true
  led : w.params.followText "set-order" = true ∨ t.led = true
  fit : L.length ≤ t.mask
section
variable {P : Program} {w : World} {A : Around} {E : Value → Shared → Prop} {s : Shared} {h h' : Heap} {a : Addr} {L : List (Addr × List Int)} {es : Array (Int × Value)} {ep : Nat} {t : SetTable}
theorem SW.sg (R : SW P w h a L es ep t) (r : L.length * 5 < t.mask * 3) : SG P w h a L es ep t := ⟨R.ob, R.rows, R.tab, R.nd, R.tup, R.plain, R.led, r⟩
theorem SG.sw (R : SG P w h a L es ep t) : SW P w h a L es ep t := ⟨R.ob, R.rows, R.tab, R.nd, R.tup, R.plain, R.led, by have := R.room; omega⟩
theorem SW.fits (R : SW P w h a L es ep t) : t.fits es.size = true := by
  unfold SetTable.fits SetTable.fill
  have h1 := R.tab.sz
  have h2 := rows_size R.rows
  have h3 := R.fit
  rw [List.length_map] at h1
  simp only [R.tab.dm, Bool.and_eq_true, beq_iff_eq, decide_eq_true_eq]
  refine ⟨by omega, ?_⟩
  show t.place.size + 0 ≤ t.mask
  omega
theorem set_apart {o : Obj} {b : Addr} {k : List Int} (hb : IsT P w h k b) (ho : h.get? a = some o) (hd : o.data = .set es ep t) : b ≠ a := by
  rintro rfl
  obtain ⟨o', items, n, h1, _, h2, _⟩ := hb
  rw [ho] at h1
  cases h1
  rw [hd] at h2
  cases h2
/-- a set stored where one stood -/
theorem sg_put {o : Obj} (ho : s.heap.get? a = some o) (hx : o.ExactSet) (hd : o.data = .set es ep t) {es' : Array (Int × Value)} {t' : SetTable} {L' : List (Addr × List Int)} (rows : es'.toList = rowsOf P w L') (tab : TbG t' (L'.map fun p => thash P w p.2))
    (nd : (L'.map (·.2)).Nodup) (tup : ∀ p ∈ L', IsT P w s.heap p.2 p.1) (plain : t'.plain = true) (led : w.params.followText "set-order" = true ∨ t'.led = true) (fit : L'.length ≤ t'.mask) :
    SW P w (s.heap.update a (Obj.putSet es' t')) a L' es' (ep + 1) t' :=
  ⟨⟨_, store_at ho hd, ⟨hx.1, hx.2.1, hx.2.2⟩, rfl⟩, rows, tab, nd, fun p hp => isT_same (tup p hp) ho hd (Heap.SameBut.update ..), plain, led, fit⟩
/-- the table laid anew -/
theorem sw_relay (R : SW P w s.heap a L es ep t) {wanted : Nat} (hw : wanted < 2048) (hr : L.length * 5 < (SetTable.sizeAbove wanted - 1) * 3) {Q : Unit → Shared → Prop}
    (hQ : ∀ h' L' es' ep' t', Heap.SameBut a s.heap h' → SG P w h' a L' es' ep' t' → L'.Perm L → t'.mask = SetTable.sizeAbove wanted - 1 → Q () { s with heap := h' }) : wpAny (model P w) A (setRelay a wanted) Q E s := by
  obtain ⟨o, ho, hx, hd⟩ := R.ob
  have sz := rows_size R.rows
  obtain ⟨m1, m2, m3⟩ := size_mk hw
  obtain ⟨t', order, e, pm, T, em, el, epl⟩ := laid_some m1 t.finger (t.movedTo (SetTable.sizeAbove wanted - 1)) t.led t.plain (hs := es.map (·.1)) (by rw [Array.size_map, sz]; omega)
  rw [Array.size_map, sz] at pm
  obtain ⟨L2, r1, r2, r3⟩ := order_rows L es order R.rows pm
  rw [← r3] at T
  have sz2 : (order.filterMap (es[·]?)).size = es.size := by rw [rows_size r1, r2.length_eq, sz]
  rw [setRelay_eq]
  refine wpAny_bind (wpAny_setState_of ho hd R.fits ?_)
  dsimp only
  refine wp_if_neg (by rw [sizeLine_eq]; omega) ?_
  try refine wpAny_bind (wpAny_pure ?_)
  unfold SetTable.relaid
  rw [e]
  dsimp only
  refine wpAny_bind ?_
  refine wp_if_neg (by simp [sz2]) ?_
  try refine wpAny_bind (wpAny_pure ?_)
  refine wpAny_pure ?_
  dsimp only
  have lb : L2.length * 5 < t'.mask * 3 := by rw [r2.length_eq, em]; exact hr
  refine wpAny_storeSet_of ho hd ?_ (by rw [sz2, sz, sizeLine_eq]; omega)
  exact hQ _ L2 _ _ t' (Heap.SameBut.update ..) ((sg_put ho hx hd r1 T ((r2.map (·.2)).nodup_iff.mpr R.nd) (fun p hp => R.tup p (r2.mem_iff.mp hp)) (epl.trans R.plain) (by rw [el]; exact R.led) (by omega)).sg lb) r2 em
/-- ADDING one -/
theorem sg_add (R : SG P w s.heap a L es ep t) {x : Addr} {k : List Int} (hx : IsT P w s.heap k x) (hu : A.units < cLine) (few : L.length < 500) {Q : Bool → Shared → Prop}
    (hQ : ∀ b h' L' es' ep' t', Heap.SameBut a s.heap h' → SG P w h' a L' es' ep' t' → (k ∈ L.map (·.2) → L' = L) → (k ∉ L.map (·.2) → L'.Perm ((x, k) :: L)) → (L.length * 5 + 5 < t.mask * 3 → t'.mask = t.mask) → Q b { s with heap := h' }) :
    wpAny (model P w) A (setAddHashed a (.ref x) (thash P w k)) Q E s := by
  obtain ⟨o, ho, ox, hd⟩ := R.ob
  have sz := R.size
  have rm := R.room
  unfold setAddHashed
  refine wpAny_holding ?_
  rw [show (100000 : Nat) = 99999 + 1 from rfl, setAddHashedIn_succ]
  refine wpAny_bind (wpAny_setState_of ho hd (SG.fits R) ?_)
  dsimp only
  refine wp_if_neg (by simp [byScan, Value.scannable]) ?_
  try refine wpAny_bind (wpAny_pure ?_)
  refine wpAny_bind (sg_look R hx hu (fun hm => ?_) fun n nm n1 n2 => ?_)
  · dsimp only
    exact wpAny_pure (hQ false s.heap L es ep t (Heap.SameBut.refl a s.heap) R (fun _ => rfl) (fun z => absurd hm z) fun _ => rfl)
  · dsimp only
    refine wpAny_bind (wpAny_setState_of ho hd (SG.fits R) ?_)
    dsimp only
    obtain ⟨pl, T⟩ := R.tab.put n1 n2
    rw [List.length_map] at pl
    have pp := put_place t (way t.mask (thash P w k) n)
    generalize way t.mask (thash P w k) n = j at *
    generalize ept : t.put j = pt at T pp ⊢
    obtain ⟨t1, p⟩ := pt
    have ep2 : SetTable.below t.place j = p := congrArg Prod.snd ept
    have et1 : (t.put j).1 = t1 := congrArg Prod.fst ept
    have em : t1.mask = t.mask := by rw [← et1]; rfl
    have el : t1.led = t.led := by rw [← et1]; rfl
    have epl : t1.plain = true := by rw [← et1]; exact R.plain
    rw [ep2] at T pl
    dsimp only at T ⊢
    first
      | (refine wpAny_bind ?_; refine wp_if_pos epl ?_; refine hashBy_tup hx ?_)
      | refine wp_if_pos epl (wpAny_bind (hashBy_tup hx ?_))
    simp only [if_true]
    have rows : (SetTable.insertAt es p (thash P w k, Value.ref x)).toList = rowsOf P w (L.take p ++ (x, k) :: L.drop p) := by rw [SetTable.toList_insertAt, rows_put, R.rows]
    have pm := put_perm L p (x, k)
    rw [← List.map_take, ← List.map_drop] at T
    have T : TbG t1 ((L.take p ++ (x, k) :: L.drop p).map fun p => thash P w p.2) := by
      rw [List.map_append, List.map_cons]
      exact T
    generalize L.take p ++ (x, k) :: L.drop p = L1 at rows pm T
    generalize SetTable.insertAt es p (thash P w k, Value.ref x) = es1 at rows ⊢
    have len : L1.length = L.length + 1 := pm.length_eq
    have sz1 : es1.size = L.length + 1 := (rows_size rows).trans len
    have nd1 : (L1.map (·.2)).Nodup := (pm.map (·.2)).nodup_iff.mpr (List.nodup_cons.mpr ⟨nm, R.nd⟩)
    have tup1 : ∀ q ∈ L1, IsT P w s.heap q.2 q.1 := fun q hq => by
      rcases List.mem_cons.mp (pm.mem_iff.mp hq) with rfl | hq
      · exact hx
      · exact R.tup q hq
    refine wpAny_bind (wpAny_storeSet_of ho hd ?_ (by rw [sz1, sizeLine_eq]; omega))
    have W := sg_put ho ox hd rows T nd1 tup1 epl (by rw [el]; exact R.led) (by rw [len, em]; omega)
    have sb : Heap.SameBut a s.heap (s.heap.update a (Obj.putSet es1 t1)) := Heap.SameBut.update ..
    generalize s.heap.update a (Obj.putSet es1 t1) = h1 at W sb ⊢
    have fill : t1.fill = L.length + 1 := by
      have := T.sz
      rw [List.length_map, len] at this
      unfold SetTable.fill
      rw [T.dm, this]
      rfl
    by_cases hf : t1.tooFull = true
    · first
        | (refine wpAny_bind ?_; refine wp_if_pos (by simp [hf]) ?_)
        | (refine wp_if_pos (by simp [hf]) ?_; refine wpAny_bind ?_)
      have full : t.mask * 3 ≤ (L.length + 1) * 5 := by
        unfold SetTable.tooFull at hf
        rw [decide_eq_true_eq, fill, em] at hf
        exact hf
      rw [sz]
      have gr : SetTable.grown (L.length + 1) = (L.length + 1) * 4 := by
        unfold SetTable.grown
        rw [if_neg (by omega)]
      rw [gr]
      obtain ⟨_, m2, _⟩ := size_mk (n := (L.length + 1) * 4) (by omega)
      refine sw_relay (s := { s with heap := h1 }) W (by omega) (by omega) fun h2 L2 es2 ep3 t2 sb2 R2 pm2 _ => ?_
      exact wpAny_pure (hQ true h2 L2 es2 ep3 t2 (sb.trans sb2) R2 (fun z => absurd z nm) (fun _ => pm2.trans pm) fun z => by omega)
    · have hn : (L.length + 1) * 5 < t1.mask * 3 := by
        unfold SetTable.tooFull at hf
        rw [decide_eq_true_eq, fill] at hf
        omega
      first
        | refine wp_if_neg (by simp [hf]) ?_
        | (refine wpAny_bind ?_; refine wp_if_neg (by simp [hf]) ?_; refine wpAny_pure ?_)
      exact wpAny_pure (hQ true h1 L1 es1 _ t1 sb (W.sg (by rw [len]; exact hn)) (fun z => absurd z nm) (fun _ => pm) fun _ => em)
end
end B

set_option Elab.async false
set_option linter.all false
set_option maxRecDepth 100000
set_option maxHeartbeats 4000000
namespace B
open PySem PySem.Spec L2 PyProof.Rows
section
variable {P : Program} {w : World} {A : Around} {E : Value → Shared → Prop} {s : Shared} {h h' : Heap} {a : Addr} {L : List (Addr × List Int)} {es : Array (Int × Value)} {ep : Nat} {t : SetTable}
/-- all members, in some order -/
theorem sg_walk (R : SG P w s.heap a L es ep t) {others : List Addr} {fd : Option Addr} {Q : Array (Int × Value) → Shared → Prop} (hQ : ∀ out : Array (Int × Value), out.toList.Perm es.toList → Q out s) :
    wpAny (model P w) A (setWalkUnseen a others fd) Q E s := by
  obtain ⟨o, ho, _, hd⟩ := R.ob
  have fit := R.fits
  have key : wpAny (model P w) A (setWalk a) Q E s := by
    unfold setWalk
    refine wpAny_bind (wpAny_setState_of ho hd fit ?_)
    dsimp only
    refine wpAny_bind (wpAny_byText ?_)
    by_cases hb : w.params.followText "set-order" = true
    · refine wp_if_pos hb ?_
      exact wpAny_bind (wpAny_askSetting (wpAny_pure (hQ _ (pick_perm _ _))))
    · refine wp_if_neg hb ?_
      try refine wpAny_bind (wpAny_pure ?_)
      have hl : t.led = true := R.led.resolve_left hb
      refine wp_if_neg (by show ¬ ((!t.plain && decide (es.size > 1)) = true); rw [R.plain]; simp) ?_
      try refine wpAny_bind (wpAny_pure ?_)
      refine wpAny_bind (wpAny_of_eq (a := ()) ?_ (wpAny_pure (hQ _ (.refl _))))
      show (if (!t.led && decide (es.size > 1)) = true then unsupported "set:maker-not-led" else pure ()) = pure ()
      rw [hl]
      rfl
  unfold setWalkUnseen
  refine wpAny_bind (wpAny_setState_of ho hd fit ?_)
  dsimp only
  refine wpAny_bind (wpAny_byText ?_)
  have c : (w.params.followText "set-order" || t.led && t.plain || decide (es.size ≤ 1)) = true := by
    rw [R.plain]
    rcases R.led with e | e <;> simp [e]
  refine wp_if_pos c ?_
  first
    | exact key
    | exact wpAny_bind (wpAny_mono key (fun _ _ z => wpAny_pure z) fun _ _ z => z)
/-- what a set holds: of L1 and L2 -/
structure Both (L1 L2 L' : List (Addr × List Int)) : Prop where
  sub : ∀ p ∈ L', p ∈ L1 ∨ p ∈ L2
  all : ∀ p, p ∈ L1 ∨ p ∈ L2 → p.2 ∈ L'.map (·.2)
theorem nodup_len {L L2 : List (Addr × List Int)} (nd : (L.map (·.2)).Nodup) (h : ∀ p ∈ L, p ∈ L2) : L.length ≤ L2.length := by
  have nL : L.Nodup := List.Pairwise.of_map _ (fun a b ne e => ne (by rw [e])) nd
  clear nd
  induction L generalizing L2 with
  | nil => simp
  | cons x L ih =>
    obtain ⟨n1, n2⟩ := List.nodup_cons.mp nL
    have hx := h x List.mem_cons_self
    have := ih (L2 := L2.erase x) (fun p hp => (List.mem_erase_of_ne fun q => n1 (by rw [← q]; exact hp)).mpr (h p (List.mem_cons_of_mem _ hp))) n2
    rw [List.length_erase_of_mem hx] at this
    have := List.length_pos_of_mem hx
    rw [List.length_cons]
    omega
theorem isT_but {b : Addr} {k : List Int} {L : List (Addr × List Int)} (R : SG P w h a L es ep t) (hb : IsT P w h k b) (sb : Heap.SameBut a h h') : IsT P w h' k b := by
  obtain ⟨o, ho, _, hd⟩ := R.ob
  exact isT_same hb ho hd sb
theorem perm_pre {α β : Type} {f : α → β} {l l2 : List β} (h : l.Perm l2) : ∀ L2 : List α, l2 = L2.map f → ∃ L3 : List α, L3.Perm L2 ∧ l = L3.map f := by
  induction h with
  | nil =>
    intro L2 e
    cases L2 with
    | nil => exact ⟨[], .refl _, rfl⟩
    | cons _ _ => cases e
  | cons x _ ih =>
    intro L2 e
    cases L2 with
    | nil => cases e
    | cons y L2 =>
      obtain ⟨L3, p, q⟩ := ih L2 (List.cons.inj e).2
      exact ⟨y :: L3, p.cons y, by rw [(List.cons.inj e).1, q]; rfl⟩
  | swap x y l =>
    intro L2 e
    match L2, e with
    | a :: b :: c, e =>
      obtain ⟨e1, e2⟩ := List.cons.inj e
      obtain ⟨e2, e3⟩ := List.cons.inj e2
      exact ⟨b :: a :: c, .swap _ _ _, by rw [e1, e2, e3]; rfl⟩
    | [_], e => cases (List.cons.inj e).2
    | [], e => cases e
  | trans _ _ ih1 ih2 =>
    intro L2 e
    obtain ⟨L3, p, q⟩ := ih2 L2 e
    obtain ⟨L4, p2, q2⟩ := ih1 L3 q
    exact ⟨L4, p2.trans p, q2⟩
/-- the members one by one -/
theorem sg_each {S o : Addr} {L1 L2 : List (Addr × List Int)} {es2 : Array (Int × Value)} {ep2 : Nat} {t2 : SetTable} (ne : o ≠ S) (few : L1.length + L2.length < 500) (hu : A.units < cLine) {each : Sem Unit} {s0 : Shared}
    (he : ∀ (s' : Shared) (Q' : Unit → Shared → Prop), s'.heap.get? o = s0.heap.get? o → Q' () s' → wpAny (model P w) A each Q' E s')
    {f : Int × Value → PUnit → Sem (ForInStep PUnit)} (hf : ∀ (hx : Int) (x : Value) (u : PUnit) (Q' : ForInStep PUnit → Shared → Prop) (s' : Shared),
      wpAny (model P w) A (holding [x] (setAddHashed S x hx)) (fun _ s1 => wpAny (model P w) A each (fun _ s2 => ∃ ob, s2.heap.get? o = some ob ∧ ob.data = .set es2 ep2 t2 ∧ Q' (.yield ⟨⟩) s2) E s1) E s' → wpAny (model P w) A (f (hx, x) u) Q' E s')
    (RO : SG P w s0.heap o L2 es2 ep2 t2) (apart : ∀ p ∈ L2, p.1 ≠ S) {Q : PUnit → Shared → Prop} :
    ∀ (out : List (Int × Value)) (s : Shared) (L : List (Addr × List Int)) (es : Array (Int × Value)) (ep : Nat) (t : SetTable), (∃ hp, s = { s0 with heap := hp } ∧ Heap.SameBut S s0.heap hp) → (∃ L3, out = rowsOf P w L3 ∧ (∀ p ∈ L3, p ∈ L2) ∧ ∀ p, p ∈ L1 ∨ p ∈ L2 → p.2 ∈ L.map (·.2) ∨ p ∈ L3) →
      SG P w s.heap S L es ep t → (∀ p ∈ L, p ∈ L1 ∨ p ∈ L2) →
      (∀ h' L' es' ep' t', Heap.SameBut S s0.heap h' → SG P w h' S L' es' ep' t' → Both L1 L2 L' → Q ⟨⟩ { s0 with heap := h' }) →
      wpAny (model P w) A (forIn out PUnit.unit f) Q E s
  | [], s, L, es, ep, t, ⟨hp, e, sb⟩, ⟨L3, eo, _, al⟩, R, sub, hQ => by
    subst e
    have : L3 = [] := by
      cases L3 with
      | nil => rfl
      | cons _ _ => cases eo
    subst this
    exact wpAny_pure (hQ hp L es ep t sb R ⟨sub, fun p hp => (al p hp).resolve_right (fun z => nomatch z)⟩)
  | (hx, x) :: out, s, L, es, ep, t, ⟨hp, e, sb⟩, ⟨L3, eo, s3, al⟩, R, sub, hQ => by
    subst e
    cases L3 with
    | nil => cases eo
    | cons p L3 =>
      have e1 : hx = thash P w p.2 ∧ x = .ref p.1 := by
        have := (List.cons.inj eo).1
        exact ⟨congrArg Prod.fst this, congrArg Prod.snd this⟩
      obtain ⟨rfl, rfl⟩ := e1
      have eo2 : out = rowsOf P w L3 := (List.cons.inj eo).2
      have p2 := s3 p List.mem_cons_self
      have tp : IsT P w hp p.2 p.1 := by
        obtain ⟨o', items, n, h1, h2, h3⟩ := RO.tup p p2
        exact ⟨o', items, n, (sb.2 p.1 (apart p p2)).trans h1, h2, h3⟩
      rw [List.forIn_cons]
      refine wpAny_bind (hf _ _ _ _ _ (wpAny_holding ?_))
      have len : L.length ≤ (L1 ++ L2).length := nodup_len R.nd fun q hq => by
        rcases sub q hq with z | z
        · exact List.mem_append_left _ z
        · exact List.mem_append_right _ z
      rw [List.length_append] at len
      refine sg_add (s := { s0 with heap := hp }) R tp hu (by omega) fun b h2 L4 es4 ep4 t4 sb2 R4 c1 c2 _ => ?_
      have sb3 := sb.trans sb2
      refine he _ _ (sb3.2 o ne) ?_
      obtain ⟨ob, o1, o2, o3⟩ := RO.ob
      refine ⟨ob, (sb3.2 o ne).trans o1, o3, ?_⟩
      have mem : ∀ q, q ∈ L4 → q ∈ L1 ∨ q ∈ L2 := fun q hq => by
        rcases Classical.em (p.2 ∈ L.map (·.2)) with c | c
        · rw [c1 c] at hq
          exact sub q hq
        · rcases List.mem_cons.mp ((c2 c).mem_iff.mp hq) with rfl | z
          · exact .inr p2
          · exact sub q z
      have keep : ∀ k, k ∈ L.map (·.2) ∨ k = p.2 → k ∈ L4.map (·.2) := fun k hk => by
        rcases Classical.em (p.2 ∈ L.map (·.2)) with c | c
        · rw [c1 c]
          rcases hk with hk | rfl
          · exact hk
          · exact c
        · rw [((c2 c).map (·.2)).mem_iff, List.map_cons, List.mem_cons]
          exact hk.symm
      refine sg_each ne few hu he hf RO apart out _ L4 es4 ep4 t4 ⟨h2, rfl, sb3⟩ ⟨L3, eo2, fun q hq => s3 q (List.mem_cons_of_mem _ hq), fun q hq => ?_⟩ R4 mem hQ
      rcases al q hq with z | z
      · exact .inl (keep _ (.inl z))
      · rcases List.mem_cons.mp z with rfl | z
        · exact .inl (keep _ (.inr rfl))
        · exact .inr z
theorem sg_room (R : SG P w s.heap a L es ep t) {more : Nat} (few : L.length + more < 500) {Q : Unit → Shared → Prop}
    (hQ : ∀ h' L' es' ep' t', Heap.SameBut a s.heap h' → SG P w h' a L' es' ep' t' → L'.Perm L → (L'.length + more) * 5 < t'.mask * 3 → Q () { s with heap := h' }) : wpAny (model P w) A (setRoomFor a more) Q E s := by
  obtain ⟨o, ho, _, hd⟩ := R.ob
  have rm := R.room
  have sz : t.place.size = L.length := by
    have := R.tab.sz
    rwa [List.length_map] at this
  have fill : t.fill = L.length := by
    unfold SetTable.fill
    rw [R.tab.dm, sz]
    rfl
  unfold setRoomFor
  refine wpAny_bind (wpAny_setState_of ho hd R.fits ?_)
  dsimp only
  unfold SetTable.roomFor
  rw [fill, sz]
  by_cases c : (L.length + more) * 5 ≥ t.mask * 3
  · rw [if_pos c]
    dsimp only
    obtain ⟨_, m2, _⟩ := size_mk (n := (L.length + more) * 2) (by omega)
    exact sw_relay R.sw (by omega) (by omega) fun h' L' es' ep' t' sb R' pm em => hQ h' L' es' ep' t' sb R' pm (by rw [pm.length_eq, em]; omega)
  · rw [if_neg c]
    exact wpAny_pure (hQ s.heap L es ep t (Heap.SameBut.refl _ _) R (.refl _) (by omega))
/-- one set's members put into another one -/
theorem sg_merge {S o : Addr} {L1 L2 : List (Addr × List Int)} {es1 es2 : Array (Int × Value)} {ep1 ep2 : Nat} {t1 t2 : SetTable} (RS : SG P w s.heap S L1 es1 ep1 t1) (RO : SG P w s.heap o L2 es2 ep2 t2) (ne : o ≠ S) (few : L1.length + L2.length < 500) (hu : A.units < cLine)
    {each : Sem Unit} (he : ∀ (s' : Shared) (Q' : Unit → Shared → Prop), s'.heap.get? o = s.heap.get? o → Q' () s' → wpAny (model P w) A each Q' E s') {Q : Unit → Shared → Prop}
    (hQ : ∀ h' L' es' ep' t', Heap.SameBut S s.heap h' → SG P w h' S L' es' ep' t' → Both L1 L2 L' → Q () { s with heap := h' }) : wpAny (model P w) A (setMerge S o each) Q E s := by
  obtain ⟨oo, o1, _, o2⟩ := RO.ob
  have sz2 := RO.size
  unfold setMerge
  refine wp_if_neg (by simpa using Ne.symm ne) ?_
  try refine wpAny_bind (wpAny_pure ?_)
  refine wpAny_bind (wpAny_setState_of o1 o2 RO.fits ?_)
  dsimp only
  by_cases hz : es2.isEmpty = true
  · refine wp_if_pos hz ?_
    have : L2 = [] := by
      rw [Array.isEmpty_iff_size_eq_zero, sz2] at hz
      exact List.eq_nil_of_length_eq_zero hz
    subst this
    exact wpAny_pure (hQ s.heap L1 es1 ep1 t1 (Heap.SameBut.refl _ _) RS ⟨fun p hp => .inl hp, fun p hp => List.mem_map.mpr ⟨p, hp.resolve_right (fun z => nomatch z), rfl⟩⟩)
  refine wp_if_neg hz ?_
  try refine wpAny_bind (wpAny_pure ?_)
  have pos : 0 < L2.length := by
    rw [Array.isEmpty_iff_size_eq_zero, sz2] at hz
    omega
  have apart : ∀ p ∈ L2, p.1 ≠ S := fun p hp => by
    obtain ⟨oS, s1, _, s2⟩ := RS.ob
    exact set_apart (RO.tup p hp) s1 s2
  refine wpAny_bind (sg_room RS (more := es2.size) (by omega) fun hp L es ep t sb R pm rm => ?_)
  obtain ⟨oS, s1, sx, s2⟩ := R.ob
  have RO' : SG P w hp o L2 es2 ep2 t2 := RO.stay (fun u e => (sb.2 o ne).trans e) fun p hp' => isT_but RS (RO.tup p hp') sb
  rw [sz2] at rm
  have len := pm.length_eq
  refine wpAny_bind (wpAny_setState_of s1 s2 R.fits ?_)
  dsimp only
  have szS := R.size
  by_cases hL : L.length = 0
  · -- an empty one
    have e0 : L1 = [] := by
      rw [hL] at len
      exact List.eq_nil_of_length_eq_zero len.symm
    subst e0
    have fill : t.fill = 0 := by
      have := R.tab.sz
      rw [List.length_map, hL] at this
      unfold SetTable.fill
      rw [R.tab.dm, this]
      rfl
    have led : w.params.followText "set-order" = true ∨ (t.led && t2.led) = true := by
      rcases R.led with e | e
      · exact .inl e
      · rcases RO.led with f | f
        · exact .inl f
        · exact .inr (by rw [e, f]; rfl)
    have done : ∀ (es' : Array (Int × Value)) (t' : SetTable) (L' : List (Addr × List Int)), es'.toList = rowsOf P w L' → L'.Perm L2 → TbG t' (L'.map fun p => thash P w p.2) → t'.plain = (t.plain && t2.plain) → t'.led = (t.led && t2.led) → L2.length * 5 < t'.mask * 3 →
        wpAny (model P w) A (storeSet S es' t') Q E { s with heap := hp } := fun es' t' L' r pm' T p1 p2 rm' => by
      have l' := pm'.length_eq
      refine wpAny_storeSet_of s1 s2 ?_ (by rw [rows_size r, l', sizeLine_eq]; omega)
      have W := sg_put (s := { s with heap := hp }) s1 sx s2 r T ((pm'.map (·.2)).nodup_iff.mpr RO.nd) (fun p hp' => RO'.tup p (pm'.mem_iff.mp hp')) (by rw [p1, R.plain, RO.plain]; rfl) (by rw [p2]; exact led) (by omega)
      exact hQ _ L' _ _ _ (sb.trans (Heap.SameBut.update ..)) (W.sg (by omega)) ⟨fun p hp' => .inr (pm'.mem_iff.mp hp'), fun p hp' => List.mem_map.mpr ⟨p, pm'.mem_iff.mpr (hp'.resolve_left (fun z => nomatch z)), rfl⟩⟩
    unfold SetTable.road
    rw [fill, if_neg (by decide), RO.tab.dm]
    by_cases c : t.mask = t2.mask
    · rw [if_pos (by rw [c]; simp)]
      dsimp only
      exact done es2 _ L2 RO.rows (.refl _) ⟨RO.tab.ris, rfl, RO.tab.sz, RO.tab.mko, RO.tab.bd, RO.tab.met⟩ rfl rfl RO.room
    · rw [if_neg (by simp [c])]
      dsimp only
      obtain ⟨t', order, e, pm', T, em, el, epl⟩ := laid_some R.tab.mko t.finger t.moves (t.led && t2.led) (t.plain && t2.plain) (hs := es2.map (·.1)) (by rw [Array.size_map, sz2]; omega)
      rw [Array.size_map, sz2] at pm'
      obtain ⟨L3, r1, r2, r3⟩ := order_rows L2 es2 order RO.rows pm'
      rw [← r3] at T
      have sz3 : (order.filterMap (es2[·]?)).size = es2.size := by rw [rows_size r1, r2.length_eq, sz2]
      refine wpAny_bind (wpAny_of_eq (a := (order.filterMap (es2[·]?), t')) ?_ ?_)
      · show (do
          let some (t, order) := (SetTable.laid t.mask t.finger t.moves (led := t.led && t2.led) (plain := t.plain && t2.plain) (es2.map (·.1))) | unsupported "internal:set-table-without-room"
          let es' := order.filterMap (es2[·]?)
          if es'.size != es2.size then unsupported "internal:set-table-lost-an-element"
          pure (es', t) : Sem (Array (Int × Value) × SetTable)) = _
        rw [e]
        simp [sz3]
      · exact done _ t' L3 r1 r2 T epl el (by rw [em]; omega)
  · have road : t.road t2 = .oneByOne := by
      unfold SetTable.road SetTable.fill
      have := R.tab.sz
      rw [List.length_map] at this
      rw [if_pos (by rw [R.tab.dm, this]; simpa using hL)]
    rw [road]
    dsimp only
    obtain ⟨q1, q2, q3⟩ := RO'.ob
    refine wpAny_bind (sg_walk (s := { s with heap := hp }) RO' fun out po => ?_)
    rw [← Array.forIn_toList]
    have rows : ∃ L3, out.toList = rowsOf P w L3 ∧ L3.Perm L2 := by
      rw [RO'.rows] at po
      obtain ⟨L3, p3, e3⟩ := perm_pre po L2 rfl
      exact ⟨L3, e3, p3⟩
    obtain ⟨L3, eo, p3⟩ := rows
    have hnd := R.nd
    refine wpAny_bind (sg_each (s0 := { s with heap := hp }) (L1 := L) (L2 := L2) (o := o) ne (by omega) hu (fun s' Q' e q => he s' Q' (e.trans (sb.2 o ne)) q) (fun hx x u Q' s' q => ?_) RO' apart out.toList _ L es ep t ⟨hp, rfl, Heap.SameBut.refl _ _⟩
      ⟨L3, eo, fun p hp' => p3.mem_iff.mp hp', fun p hp' => hp'.imp (fun z => List.mem_map.mpr ⟨p, z, rfl⟩) fun z => p3.mem_iff.mpr z⟩ R (fun p hp' => .inl hp') fun h' L' es' ep' t' sb' R' B' => ?_)
    · refine wpAny_bind (wpAny_mono q (fun _ s3 q3 => wpAny_bind (wpAny_mono q3 (fun _ s4 q4 => ?_) fun _ _ z => z)) fun _ _ z => z)
      obtain ⟨ob, b1, b2, b3⟩ := q4
      refine wpAny_bind (wpAny_setState_of b1 b2 RO.fits ?_)
      dsimp only
      refine wp_if_neg (by simp) ?_
      try refine wpAny_bind (wpAny_pure ?_)
      exact wpAny_pure b3
    · exact wpAny_pure <| hQ h' L' es' ep' t' (sb.trans sb') R' ⟨fun p hp' => (B'.sub p hp').imp (fun z => pm.mem_iff.mp z) id, fun p hp' => B'.all p (hp'.imp (fun z => pm.mem_iff.mpr z) id)⟩
end
end B

set_option Elab.async false
set_option linter.all false
set_option maxRecDepth 100000
set_option maxHeartbeats 4000000
namespace B
open PySem PySem.Spec L2 PyProof.Rows
section
variable {P : Program} {w : World} {A : Around} {E : Value → Shared → Prop} {s : Shared} {h h' : Heap} {a b : Addr} {L L1 L2 : List (Addr × List Int)} {es es1 es2 : Array (Int × Value)} {ep ep1 ep2 : Nat} {t t1 t2 : SetTable}
theorem entry_set_or : entryFor table "set.__or__" = some Builtin.«frozenset.__or__» :=
  entryFor_alias (id' := "frozenset.__or__") (by kernel_rfl) rfl (by decide +kernel) (by kernel_rfl)
theorem SG.ty (R : SG P w s.heap a L es ep t) : s.TypeIs (.ref a) "set" := by
  obtain ⟨o, ho, hx, _⟩ := R.ob
  exact ⟨o, ho, hx.1⟩
/-- a new set -/
theorem sg_new {o : Obj} (ho : h.get? a = some o) (e : o = { cls := .type "set", dict := none, data := .set #[] 0 (.fresh 0 0 (!w.params.followText "set-order")) }) : SG P w h a [] #[] 0 (.fresh 0 0 (!w.params.followText "set-order")) := by
  subst e
  refine ⟨⟨_, ho, ⟨rfl, rfl, rfl⟩, rfl⟩, rfl, ⟨List.Pairwise.nil, rfl, rfl, Mk.seven, fun x hx => (nomatch hx), fun i h j hi => ?_⟩, List.nodup_nil, fun p hp => (nomatch hp), rfl, ?_, (show 0 * 5 < 7 * 3 by decide)⟩
  · simp at hi
  · show _ ∨ (!w.params.followText "set-order") = true
    cases w.params.followText "set-order"
    · exact .inr rfl
    · exact .inl rfl
theorem any_set (hT : s.TypeIs (.ref a) "set") {Q : Bool → Shared → Prop} (h : Q true s) : wpAny (model P w) A (Builtin.Frozenset.isAnySet (.ref a)) Q E s := by
  unfold Builtin.Frozenset.isAnySet
  refine wpAny_bind (wpAny_isInstance (b := true) hT sub_set_self ?_)
  exact wpAny_pure h
theorem new_set {Q : Value → Shared → Prop} (h : Q (.ref s.heap.objs.size) { s with heap := s.heap.push { cls := .type "set", dict := none, data := .set #[] 0 (.fresh 0 0 (!w.params.followText "set-order")) } }) : wpAny (model P w) A (newSet (.type "set")) Q E s := by
  unfold newSet
  refine wpAny_bind (wpAny_byText ?_)
  exact wpAny_newObj_type h
/-- a | b -/
theorem sg_or (RA : SG P w s.heap a L1 es1 ep1 t1) (RB : SG P w s.heap b L2 es2 ep2 t2) (ne : b ≠ a) (few : L1.length + L2.length < 500) (hu : A.units + 8 < cLine) {Q : Value → Shared → Prop}
    (hQ : ∀ h' L' es' ep' t', (∀ c o, s.heap.get? c = some o → h'.get? c = some o) → SG P w h' s.heap.objs.size L' es' ep' t' → Both L1 L2 L' → Q (.ref s.heap.objs.size) { s with heap := h' }) : wpAny (model P w) A (binaryOp .BitOr (.ref a) (.ref b)) Q E s := by
  refine wpAny_binaryOp_same RA.ty RB.ty F.fills_set_or F.slot_set_or (wpAny_call_entry F.slot_set_or RA.ty entry_set_or ?_ (F.args_set_or_2 _ _))
  unfold Builtin.«frozenset.__or__»
  show wpAny _ A.in1 (Builtin.Frozenset.slot1 "__or__" _ >>= _) _ _ s
  refine wpAny_bind (wpAny_of_eq (a := (.ref a, .ref b)) (by rfl) ?_)
  dsimp only
  refine wpAny_bind (wpAny_bind (any_set RA.ty ?_))
  refine any_set RB.ty ?_
  simp only [Bool.not_true, Bool.false_eq_true, if_false]
  refine wpAny_bind (wpAny_of_eq (a := a) (by rfl) ?_)
  refine wpAny_bind ?_
  show wpAny _ A.in1 (Builtin.Frozenset.copyOf a >>= _) _ _ s
  unfold Builtin.Frozenset.copyOf
  have hS : (s.heap.push { cls := .type "set", dict := none, data := .set #[] 0 (.fresh 0 0 (!w.params.followText "set-order")) }).get? s.heap.objs.size = some { cls := .type "set", dict := none, data := .set #[] 0 (.fresh 0 0 (!w.params.followText "set-order")) } := Heap.get?_push_size _ rfl
  have old : ∀ c o, s.heap.get? c = some o → (s.heap.push { cls := .type "set", dict := none, data := .set #[] 0 (.fresh 0 0 (!w.params.followText "set-order")) }).get? c = some o := fun c o e => Heap.get?_push_of_some _ e
  have lt : ∀ c o, s.heap.get? c = some o → c ≠ s.heap.objs.size := fun c o e => Nat.ne_of_lt (Heap.lt_size e)
  have R0 := sg_new (P := P) (w := w) hS rfl
  refine wpAny_bind (wpAny_bind ?_)
  unfold Builtin.Frozenset.baseOf
  refine wpAny_bind (wpAny_isInstance (b := true) RA.ty sub_set_self ?_)
  refine wpAny_pure ?_
  simp only [if_true]
  refine wpAny_bind (new_set ?_)
  generalize hr : s.heap.objs.size = r at *
  generalize hh : s.heap.push { cls := .type "set", dict := none, data := .set #[] 0 (.fresh 0 0 (!w.params.followText "set-order")) } = h1 at *
  refine wpAny_bind (wpAny_of_eq (a := r) (by rfl) ?_)
  obtain ⟨oa, a1, a2, a3⟩ := RA.ob
  obtain ⟨ob, b1, b2, b3⟩ := RB.ob
  have u1 : A.in1.units < cLine := Nat.lt_of_le_of_lt (by show A.units + 1 ≤ A.units + 8; omega) hu
  have isT_old : ∀ {c : Addr} {k : List Int}, IsT P w s.heap k c → IsT P w h1 k c := fun {c k} x => by
    obtain ⟨o', items, n, e, q⟩ := x
    exact ⟨o', items, n, old _ _ e, q⟩
  have RA1 : SG P w h1 a L1 es1 ep1 t1 := RA.stay (fun o e => old _ _ e) fun p hp => isT_old (RA.tup p hp)
  have RB1 : SG P w h1 b L2 es2 ep2 t2 := RB.stay (fun o e => old _ _ e) fun p hp => isT_old (RB.tup p hp)
  refine wpAny_bind (sg_merge (s := { s with heap := h1 }) R0 RA1 (lt _ _ a1) (by simp; omega) u1 (fun s' Q' _ q => wpAny_pure q) fun h2 L3 es3 ep3 t3 sb R3 B3 => ?_)
  refine wpAny_pure ?_
  dsimp only
  refine wp_if_pos (by simpa using ne) ?_
  refine wpAny_bind (wpAny_of_eq (a := r) (by rfl) ?_)
  refine wpAny_bind (wpAny_holding ?_)
  unfold Builtin.Frozenset.updateFrom
  have RB2 : SG P w h2 b L2 es2 ep2 t2 := RB1.stay (fun o e => (sb.2 b (lt _ _ b1)).trans e) fun p hp => isT_but R0 (RB1.tup p hp) sb
  refine wpAny_bind (any_set (s := { s with heap := h2 }) RB2.ty ?_)
  simp only [if_true]
  refine wpAny_bind (wpAny_of_eq (a := b) (by rfl) ?_)
  unfold Builtin.Frozenset.merge
  have gb : h2.get? b = some ob := (sb.2 b (lt _ _ b1)).trans (old _ _ b1)
  refine wpAny_bind (wpAny_setEpoch_of gb b3 RB2.fits ?_)
  have len3 : L3.length ≤ L1.length := nodup_len R3.nd fun p hp => (B3.sub p hp).resolve_left (fun z => nomatch z)
  refine sg_merge (s := { s with heap := h2 }) R3 RB2 (lt _ _ b1) (by omega) u1 (fun s' Q' e q => ?_) fun h3 L4 es4 ep4 t4 sb4 R4 B4 => ?_
  · unfold Builtin.Frozenset.unchanged
    refine wpAny_bind (wpAny_setEpoch_of (e.trans gb) b3 RB2.fits ?_)
    refine wp_if_neg (by simp) ?_
    try refine wpAny_bind (wpAny_pure ?_)
    exact wpAny_pure q
  · refine wpAny_pure ?_
    refine wpAny_pure ⟨_, rfl, (fun z => nomatch z), hQ h3 L4 es4 ep4 t4 (fun c o e => ?_) R4 ⟨fun p hp => ?_, fun p hp => ?_⟩⟩
    · exact ((sb4.2 c (lt _ _ e)).trans (sb.2 c (lt _ _ e))).trans (old _ _ e)
    · exact (B4.sub p hp).imp (fun z => (B3.sub p z).resolve_left (fun y => nomatch y)) id
    · rcases hp with hp | hp
      · obtain ⟨q, q1, q2⟩ := List.mem_map.mp (B3.all p (.inr hp))
        have := B4.all q (.inl q1)
        rwa [q2] at this
      · exact B4.all p (.inr hp)
end
end B

set_option Elab.async false
set_option linter.all false
set_option maxRecDepth 100000
set_option maxHeartbeats 4000000
namespace B
open PySem PySem.Spec L2 PyProof.Rows
/-! # comprehensions of one clause, whatever they make -/
/-- the turn's last part: from the environment and the new object, what is wished for -/
abbrev EndP := Around → PySem.Env → Addr → (Shared → Prop) → (Value → Shared → Prop) → Shared → Prop
/-- a turn, from the iterator on -/
def turnP (P : Program) (w : World) (tg : Expr) (ifs : List Expr) (en : EndP) (A : Around) (env : PySem.Env) (it : Value) (D : Addr) (stop nxt : Shared → Prop) (E : Value → Shared → Prop) (s : Shared) : Prop :=
  wpAny (model P w) A (pyNext it) (fun r s1 => match r with
    | none => stop s1
    | some v => wpAny (model P w) A (letOwnedTupleGo tg it v) (fun _ s2 => wpAny (model P w) A (assign tg env v) (fun _ s3 =>
        wpAny (model P w) A (forIn ifs true fun c r => if r = true then do let ok ← isTrue c env (eval c env); pure (ForInStep.yield ok) else pure (ForInStep.yield r)) (fun ok s4 =>
          if ok = true then en A env D nxt E s4 else nxt s4) E s3) E s2) E s1) E s
/-- a comprehension by its words: the new object ob, the turn's last part en -/
structure CompK (P : Program) (w : World) (e : Expr) (tg iter : Expr) (ifs : List Expr) (newAcc : Sem Value) (ob : Obj) (en : EndP) : Prop where
  clauses : clausesOf e = [⟨tg, iter, ifs, 0⟩]
  new : ∀ {A : Around} {E : Value → Shared → Prop} {s : Shared} {Q : Value → Shared → Prop}, Q (.ref s.heap.objs.size) { s with heap := s.heap.push ob } → wpAny (model P w) A newAcc Q E s
  loop : ∀ {A : Around} {R : Result → Shared → Prop} {s : Shared} {it : Value} {D : Addr} {env : PySem.Env} (I : Nat → Shared → Prop),
    (∀ n s, I n s → turnP P w tg ifs en A env it D (fun s' => R (.ok .next) s') (fun s' => ∃ m, m < n ∧ I m s') (notedBy (model P w) A env fun x s' => R (.error x) s') s) → ∀ n, I n s → codeAny (model P w) A (.compLoop e 0 it (.ref D) env) R s
  start : ∀ {A : Around} {R : Result → Shared → Prop} {s : Shared} {it : Value} {D : Addr} {env : PySem.Env}, codeAny (model P w) A (.compLoop e 0 it (.ref D) env) R s →
    wpAny (model P w) A (pyIter it) (fun it' s' => codeAny (model P w) A (.compLoop e 0 it' (.ref D) env) R s') (notedBy (model P w) A env fun x s' => R (.error x) s') s → codeAny (model P w) A (.compStart e 0 it (.ref D) env) R s
/-- what the last part does, over the heap: te tells it -/
def EndR (X : Cx) (en : EndP) (te : Addr → L2.St → Hp → (Hp → Prop) → Prop) : Prop :=
  ∀ (pins : List (Addr × Obj)) (s : Shared) (σ : L2.St) (H : Hp) (D : Addr) (Nx : Hp → Prop) (S : Shared → Prop) (E : Value → Shared → Prop), Inv X pins σ H s → te D σ H Nx → (∀ s' H', Inv X pins σ H' s' → Nx H' → S s') → en X.A X.env D S E s
/-- D the new object, o0 what it is at first -/
def tCc (wi : TI) (g : TG) (tt : TT) (te : Addr → L2.St → Hp → (Hp → Prop) → Prop) (o0 : Addr → HO) (vs : List Nat) : TE := fun σ H Q => wi σ H fun J H1 => ∀ D, H1 D = none → ∃ V : Nat → Nat → Hp → Prop, (∃ m, V 0 m (upd H1 D (o0 D))) ∧ ∀ i m H, V i m H →
  (J.stop i H ∧ Q (.ref D) H) ∨ (J.go i H ∧ ∃ Nx : Hp → Prop, (∀ H', Nx H' → ∃ m', m' < m ∧ V (i + 1) m' H') ∧
    ∀ x H', J.yld i H x H' → g x (wipe σ vs) H' fun σ2 H2 => wipe σ2 vs = wipe σ vs ∧ tt σ2 H2 fun b H3 => if b = true then te D σ2 H3 Nx else Nx H3)
section
variable {X : Cx}
theorem cc_core {e : Expr} {pins : List (Addr × Obj)} {s : Shared} {σ : L2.St} {H : Hp} {Q : VK} {tg iter : Expr} {ifs : List Expr} {newAcc : Sem Value} {ob : Obj} {en : EndP} {scope : Scope} {own : List (Str × Nat)} {pos' : Pos} {wi : TI} {g : TG} {tt : TT} {te : Addr → L2.St → Hp → (Hp → Prop) → Prop} {o0 : Addr → HO}
    {use : Option (Value → Sem Unit)} {Qf : Value → Shared → Prop} (CK : CompK X.prog X.w e tg iter ifs newAcc ob en) (hc : X.calm = true) (hN : X.N.Nodup) (I : Inv X pins σ H s) (hi : PI X tg iter wi) (ok : BlkOk X.N X.env.scope scope own)
    (ho : ∀ (h : Heap) (H : Hp) , sysModules < h.objs.size → ObjOk X.prog X.w H (h.push ob) h.objs.size (o0 h.objs.size))
    (hg : ∀ (s : Shared) (H : Hp) (C : Addr) (cl : List (Str × Addr)) (fp : List Addr), PG (X.blk s H scope (PySem.compEnvC scope cl C X.env) fp) tg g)
    (ht : ∀ (s : Shared) (H : Hp) (C : Addr) (cl : List (Str × Addr)) (fp : List Addr), PTs (X.blk s H scope (PySem.compEnvC scope cl C X.env) fp) ifs tt)
    (he : ∀ (s : Shared) (H : Hp) (C : Addr) (cl : List (Str × Addr)) (fp : List Addr), EndR (X.blk s H scope (PySem.compEnvC scope cl C X.env) fp) en te) (hs : ∀ x, foldedSetIterable iter X.env x = pure x)
    (h : tCc wi g tt te o0 (own.map (·.2)) σ H Q)
    (fin : ∀ D C s' m H', Inv X pins σ H' s' → Q (.ref D) H' → s'.heap.Ns C m → FpOk X pins H' C → compPost (model X.prog X.w) X.A X.xe use Qf (.ref D) C (.ok .next) s') :
    wpAny (model X.prog X.w) X.A (comprehension e scope X.env pos' newAcc false (eval iter X.env) use) Qf X.xe s := by
  have cells : ∀ y ∈ scope.names, y.2 = .free → ∃ c, X.env.cells.lookup y.1 = some c := fun y hy e => (ok.free y hy e).elim (fun k => I.ok.has _ (.inl k)) fun k => I.ok.has _ (.inr k)
  refine wpAny_comprehension_free (use := use) CK.clauses hs (closure_ok cells) ok.kind (fun y hy e => by rw [ok.uniq y hy, e]) (thn (hi.run pins s σ H _ I h) fun xv s1 hx => thn hx fun itv s2 h2 => ?_)
  obtain ⟨it, fp, tn, J, H2, rfl, I2, T, st2, f2, q⟩ := h2
  refine CK.new (newEnv_comp ?_)
  have hob : ObjOk X.prog X.w (upd H2 s2.heap.objs.size (o0 s2.heap.objs.size)) (s2.heap.push ob) s2.heap.objs.size (o0 s2.heap.objs.size) := ho s2.heap _ I2.big
  have bd : ∀ b ∈ fp, b < s2.heap.objs.size := fun b hb => by
    obtain ⟨o, e, _⟩ := T.obj _ _ st2 b hb
    exact Heap.lt_size e
  generalize hD : s2.heap.objs.size = D at hob bd ⊢
  obtain ⟨V, ⟨m0, v0⟩, turn⟩ := q D (I2.hok.fresh (Nat.le_of_eq hD))
  generalize hs3 : ({ s2 with heap := s2.heap.push ob } : Shared) = s3
  have e3 : s3.heap = s2.heap.push ob := by rw [← hs3]
  have z3 : s3.heap.objs.size = D + 1 := by rw [e3, Heap.size_push, hD]
  have I3 : Inv X pins σ (upd H2 D (o0 D)) s3 := by
    rw [← hs3]
    exact I2.laid (t' := s2.toks) (fun b o e => Heap.get?_push_of_some _ e) (Nat.le_of_eq hD) hob
  have fp3 : ∀ b ∈ fp, FpOk X pins (upd H2 D (o0 D)) b ∧ b < s3.heap.objs.size := fun b hb => by
    obtain ⟨f0, f1⟩ := f2 b hb
    exact ⟨⟨by rw [upd_ne (Nat.ne_of_lt (bd b hb))]; exact f0, f1⟩, by rw [z3]; exact Nat.lt_succ_of_lt (bd b hb)⟩
  have t3 : tn 0 s3.heap := T.keep _ _ _ st2 fun b _ o e => by rw [e3]; exact Heap.get?_push_of_some _ e
  have I4 := block_start I3 ok hN fp3
  have nfp : ∀ b ∈ fp, upd H2 D (o0 D) b = none := fun b hb => (fp3 b hb).1.1
  generalize hcl : cellsFrom (s3.heap.objs.size + 1) scope.names (cloFrom X.env.cells scope.names []) = cl at I4 ⊢
  have pg := hg s3 (upd H2 D (o0 D)) s3.heap.objs.size cl fp
  have pt := ht s3 (upd H2 D (o0 D)) s3.heap.objs.size cl fp
  have pe := he s3 (upd H2 D (o0 D)) s3.heap.objs.size cl fp
  have goal : codeAny (model X.prog X.w) X.A (.compStart e 0 (.ref it) (.ref D) (PySem.compEnvC scope cl s3.heap.objs.size X.env)) (compPost (model X.prog X.w) X.A X.xe use Qf (.ref D) s3.heap.objs.size)
      { s3 with heap := pushCells (s3.heap.push { cls := .type "dict", data := .dict #[] }) scope.names } := by
    have cL : (PySem.compEnvC scope cl s3.heap.objs.size X.env).locals = s3.heap.objs.size := rfl
    generalize PySem.compEnvC scope cl s3.heap.objs.size X.env = ce at I4 pg pt pe cL ⊢
    generalize upd H2 D (o0 D) = H3 at I3 I4 pg pt pe v0 nfp fp3
    generalize hs4 : ({ s3 with heap := pushCells (s3.heap.push { cls := .type "dict", data := .dict #[] }) scope.names } : Shared) = s4 at I4 ⊢
    have t4 : tn 0 s4.heap := T.keep _ _ _ t3 fun b _ o e => by rw [← hs4]; exact pushCells_keeps _ _ _ _ (Heap.get?_push_of_some _ e)
    have own' : ∀ {σ' : L2.St} {H' : Hp} {s' : Shared}, Inv (X.blk s3 H3 scope ce fp) [] σ' H' s' → (∀ b ∈ fp, H' b = none) → ∀ b ∈ fp, FpOk (X.blk s3 H3 scope ce fp) [] H' b := fun {σ' H' s'} I' hn b hb =>
      ⟨hn b hb, (I'.ok.exf b hb).1, I'.ok.exfs b hb, .inl hb, fun x c e => (I'.ok.exf b hb).2 x c e, fun p hp => by simp [Cx.blk] at hp⟩
    have lp : codeAny (model X.prog X.w) X.A (.compLoop e 0 (.ref it) (.ref D) ce) (compPost (model X.prog X.w) X.A X.xe use Qf (.ref D) s3.heap.objs.size) s4 := by
      refine CK.loop (fun n s' => ∃ i H', Inv (X.blk s3 H3 scope ce fp) [] (wipe σ (own.map (·.2))) H' s' ∧ tn i s'.heap ∧ (∀ b ∈ fp, H' b = none) ∧ V i n H') ?_ m0 ⟨0, H3, I4, t4, nfp, v0⟩
      rintro n s5 ⟨i, H5, I5, t5, n5, v5⟩
      unfold turnP
      rcases turn i n H5 v5 with ⟨stop, qq⟩ | ⟨go, Nx, hNx, step⟩
      · refine thnF (T.done (X.blk s3 H3 scope ce fp) rfl rfl rfl hc i [] s5 _ H5 (fun _ _ => False) I5 (own' I5 n5) t5 stop) fun r s6 ⟨hr, I6⟩ => ?_
        subst hr
        have I7 : Inv X pins σ H5 s6 := I3.call' (ch := fp) I6.os I6.base I6.hok I6.bare fun b hb => ⟨(fp3 b hb).1.2.2.2.1, (fp3 b hb).1.2.1, (fp3 b hb).1.2.2.2.2.1, (fp3 b hb).1.2.2.2.2.2⟩
        have nC : H5 s3.heap.objs.size = none := by
          rw [← cL]
          exact I6.free
        obtain ⟨m, hn, _⟩ := I6.loc
        have hn : s6.heap.Ns ce.locals m := hn
        rw [cL] at hn
        exact fin D s3.heap.objs.size s6 m H5 I7 qq hn (I3.fpOk (Nat.le_refl _) nC)
      · refine thnF (T.item (X.blk s3 H3 scope ce fp) rfl rfl rfl hc i [] s5 _ H5 (fun _ _ => False) I5 (own' I5 n5) t5 go) fun r s6 ⟨u, hr, h6⟩ => ?_
        subst hr
        refine thnF h6 fun _ s7 ⟨x, H7, I7, r7, y7, t7, n7⟩ => ?_
        refine thnF (pg.run _ s7 _ H7 x u _ (I7.pinned (own' I7 n7) (T.obj _ _ t7)) r7 (step x H7 y7)) fun _ s8 ⟨σ8, H8, I8, w8, q8⟩ => ?_
        refine thnF (pt.run _ s8 σ8 H8 _ I8 q8) fun b s9 ⟨H9, I9, q9⟩ => ?_
        have next : ∀ (s' : Shared) (H' : Hp), Inv (X.blk s3 H3 scope ce fp) ([] ++ pinsAt fp s7.heap) σ8 H' s' → Nx H' → ∃ m, m < n ∧ ∃ i H', Inv (X.blk s3 H3 scope ce fp) [] (wipe σ (own.map (·.2))) H' s' ∧ tn i s'.heap ∧ (∀ b ∈ fp, H' b = none) ∧ V i m H' := fun s' H' I' nx => by
          obtain ⟨m', hm, v'⟩ := hNx H' nx
          have pin : ∀ b ∈ fp, ∀ o, s7.heap.get? b = some o → s'.heap.get? b = some o ∧ H' b = none := fun b hb o e => by
            have z := I'.pin (b, o) (List.mem_append_right _ (List.mem_append_right _ (mem_pinsAt hb e)))
            exact ⟨z.1, z.2.1⟩
          refine ⟨m', hm, i + 1, H', (I'.unpinned (pins := [])).weak (by rw [← w8, wipe_length]) (fun j v e => ?_), T.keep _ _ _ t7 fun b hb o e => (pin b hb o e).1, fun b hb => ?_, v'⟩
          · rw [← w8] at e
            exact (wipe_some e).1
          · obtain ⟨o, e, _⟩ := T.obj _ _ t7 b hb
            exact (pin b hb o e).2
        cases b with
        | false =>
          simp only [Bool.false_eq_true, if_false] at q9 ⊢
          exact next _ _ I9 q9
        | true =>
          simp only [if_true] at q9 ⊢
          exact pe _ s9 σ8 H9 D Nx _ _ I9 q9 next
    exact CK.start lp (T.self X.A 0 _ _ _ t4 lp)
  exact goal
/-- as a value -/
theorem pe_cc {e : Expr} {tg iter : Expr} {ifs : List Expr} {newAcc : Sem Value} {ob : Obj} {en : EndP} {scope : Scope} {own : List (Str × Nat)} {pos' : Pos} {wi : TI} {g : TG} {tt : TT} {te : Addr → L2.St → Hp → (Hp → Prop) → Prop} {o0 : Addr → HO}
    (CK : CompK X.prog X.w e tg iter ifs newAcc ob en) (ev : eval e X.env = comprehension e scope X.env pos' newAcc false (eval iter X.env)) (hc : X.calm = true) (hN : X.N.Nodup) (hi : PI X tg iter wi) (ok : BlkOk X.N X.env.scope scope own)
    (ho : ∀ (h : Heap) (H : Hp) , sysModules < h.objs.size → ObjOk X.prog X.w H (h.push ob) h.objs.size (o0 h.objs.size))
    (hg : ∀ (s : Shared) (H : Hp) (C : Addr) (cl : List (Str × Addr)) (fp : List Addr), PG (X.blk s H scope (PySem.compEnvC scope cl C X.env) fp) tg g)
    (ht : ∀ (s : Shared) (H : Hp) (C : Addr) (cl : List (Str × Addr)) (fp : List Addr), PTs (X.blk s H scope (PySem.compEnvC scope cl C X.env) fp) ifs tt)
    (he : ∀ (s : Shared) (H : Hp) (C : Addr) (cl : List (Str × Addr)) (fp : List Addr), EndR (X.blk s H scope (PySem.compEnvC scope cl C X.env) fp) en te) (hs : ∀ x, foldedSetIterable iter X.env x = pure x := by intro _; rfl) :
    PE X e (tCc wi g tt te o0 (own.map (·.2))) := by
  refine ⟨fun pins s σ H Q I h => ?_⟩
  rw [ev]
  refine cc_core CK hc hN I hi ok ho hg ht he hs h fun D C s' m H' I' q hn f => ⟨m, hn, fun h'' sb => ?_⟩
  obtain ⟨f0, f1, f2, f3, f4, f5⟩ := f
  exact ⟨.ref D, H', I'.turned (t' := s'.toks) (fun b o hb e => (sb.2 b hb).trans e) f0 f1 f3 f4 f5, rfl, q⟩
end
end B

set_option Elab.async false
set_option linter.all false
set_option maxRecDepth 100000
set_option maxHeartbeats 4000000
namespace B
open PySem PySem.Spec L2 PyProof.Rows
/-! # sets as tracked things -/
def SG0 (P : Program) (w : World) (h : Heap) (a : Addr) (L : List (Addr × List Int)) : Prop := ∃ (es : Array (Int × Value)) (ep : Nat) (t : SetTable), (∃ o, h.get? a = some o ∧ o.ExactSet ∧ o.data = .set es ep t) ∧ es.toList = rowsOf P w L ∧ TbG t (L.map fun p => thash P w p.2) ∧
  (L.map (·.2)).Nodup ∧ t.plain = true ∧ (w.params.followText "set-order" = true ∨ t.led = true) ∧ L.length * 5 < t.mask * 3
/-- the set at a: its tuples, where they stand -/
def SetG (P : Program) (w : World) (a : Addr) (L : List (Addr × List Int)) : HO := .ext fun h => SG0 P w h a L
section
variable {P : Program} {w : World} {h : Heap} {a : Addr} {L : List (Addr × List Int)}
theorem SG.s0 {es : Array (Int × Value)} {ep : Nat} {t : SetTable} (R : SG P w h a L es ep t) : SG0 P w h a L := ⟨es, ep, t, R.ob, R.rows, R.tab, R.nd, R.plain, R.led, R.room⟩
theorem SG0.full (R : SG0 P w h a L) (ht : ∀ p ∈ L, IsT P w h p.2 p.1) : ∃ es ep t, SG P w h a L es ep t := by
  obtain ⟨es, ep, t, h1, h2, h3, h4, h5, h6, h7⟩ := R
  exact ⟨es, ep, t, h1, h2, h3, h4, ht, h5, h6, h7⟩
theorem setG_ok {H : Hp} (R : SG0 P w h a L) : ObjOk P w H h a (SetG P w a L) := by
  refine ⟨R, ?_, fun h1 h2 p k => ?_⟩
  · obtain ⟨_, _, _, ⟨o, ho, _⟩, _⟩ := R
    exact ⟨o, ho⟩
  · obtain ⟨es, ep, t, ⟨o, ho, r⟩, q⟩ := p
    exact ⟨es, ep, t, ⟨o, k o ho, r⟩, q⟩
theorem setG_nc (c : Addr) (q : Str) : SetG P w a L ≠ LamX.CodeO c q := fun e => by
  have e2 := HO.ext.inj e
  have e3 := congrFun e2 { objs := Array.replicate (c + 1) { cls := .none, data := .fields #[.none, .str q 0] } }
  have hc : (fun h : Heap => ∃ (oc : Obj) (vs : Array Value) (t : Tok), h.get? c = some oc ∧ oc.data = .fields vs ∧ vs[1]? = some (.str q t)) { objs := Array.replicate (c + 1) { cls := .none, data := .fields #[.none, .str q 0] } } := by
    refine ⟨{ cls := .none, data := .fields #[.none, .str q 0] }, _, 0, ?_, rfl, rfl⟩
    simp [Heap.get?]
  have hs : SG0 P w { objs := Array.replicate (c + 1) { cls := .none, data := .fields #[.none, .str q 0] } } a L := by
    rw [show SG0 P w _ a L = _ from e3]
    exact hc
  obtain ⟨es, ep, t, ⟨o, ho, _, hd⟩, _⟩ := hs
  simp only [Heap.get?] at ho
  by_cases ha : a < c + 1
  · rw [Array.getElem?_replicate, if_pos ha] at ho
    cases ho
    cases hd
  · rw [Array.getElem?_replicate, if_neg ha] at ho
    cases ho
end
section
variable {K : PySem.W.Frag} {mg : Str → Option Value} {G : GT} {F H : Hp} {io : List Addr} {β : B.Env} {σ : L2.St}
/-- an object that must stay is another one from here on -/
theorem BI.guardG (I : BI K mg G F io β σ H) {D : Addr} {o o0 : HO} (eG : G.g D = some o0) (nc : ∀ c q, o0 ≠ LamX.CodeO c q) (fD : F D = none) (nio : D ∉ io) : BI K mg (G.upd D o) F io β σ (upd H D o) := by
  have hD := I.sg.g _ _ eG
  refine ⟨I.sg.guard (I.sg.dj _ _ eG) fun c q z => nc c q (Option.some.inj (hD.symm.trans z)), fun b u h => ?_, I.ioF, fun b hb => ?_, I.len, fun j s es => ?_, I.apart⟩
  · have hb : b ≠ D := ne_of_none h fD
    rw [upd_ne hb]
    exact I.sf b u h
  · have hb' : b ≠ D := fun z => nio (by rw [← z]; exact hb)
    rw [upd_ne hb']
    exact I.ioH b hb
  · obtain ⟨w, ew, hs⟩ := I.sl j s es
    refine ⟨w, ew, ?_⟩
    cases s with
    | own b d =>
      obtain ⟨a, q, f, g, k1, k2, r⟩ := hs
      have na : a ≠ D := fun z => by
        have := GT.gn g
        rw [z, eG] at this
        cases this
      exact ⟨a, q, f, by rw [GT.upd_ne na]; exact g, k1, k2, r.mono (Same.refl _) (upd_ne na)⟩
    | ex z0 => exact hs
    | gh _ => exact hs
    | un => trivial
    | fz d => exact hs
end
/-! ## comprehensions of any kind, by data -/
def compG {γ : Type} (g : D → M Unit) (mt : M Bool) (st : γ → M γ) (vs : List Nat) : List D → γ → M γ
  | [], acc => ret acc
  | d :: ds, acc => fun β => match g d β with
    | .ok _ β1 => (match mt β1 with
      | .ok true β2 => (match st acc β2 with
        | .ok acc' β3 => compG g mt st vs ds acc' (wipeB β3 vs)
        | _ => .stuck)
      | .ok false β2 => compG g mt st vs ds acc (wipeB β2 vs)
      | _ => .stuck)
    | _ => .stuck
def compGV {γ : Type} (g : D → M Unit) (mt : M Bool) (st : γ → M γ) (vs : List Nat) (a0 : γ) (ds : List D) : M γ := fun β1 => if noOwn β1 vs = true then (match compG g mt st vs ds a0 (wipeB β1 vs) with
  | .ok acc β => .ok acc (backB β1 β vs)
  | _ => .stuck) else .stuck
def mCompG {γ : Type} (vs : List Nat) (mi : M (List D)) (g : D → M Unit) (mt : M Bool) (st : γ → M γ) (a0 : γ) : M γ := bnd mi (compGV g mt st vs a0)
/-- how an accumulator stands to the object that it tells -/
structure AccR where
  γ : Type
  rel : Hp → Addr → HO → γ → Prop
  mono : ∀ {F F' : Hp} {D : Addr} {o : HO} {acc : γ}, Same F F' → rel F D o acc → rel F' D o acc
  nc : ∀ {F : Hp} {D : Addr} {o : HO} {acc : γ}, rel F D o acc → ∀ c q, o ≠ LamX.CodeO c q
/-- a new object that nobody else holds, of any kind -/
def relC (R : AccR) : GT → Hp → List Addr → Hp → B.Env → L2.St → V → R.γ → Prop := fun G F io H β σ v acc => ∃ (a : Addr) (o : HO), v = .ref a ∧ F a = none ∧ G a = none ∧ a ∉ io ∧ H a = some o ∧ R.rel F a o acc ∧ ∀ (i : Nat) (s : Sl), β[i]? = some s → isOwn s = true → σ[i]? ≠ some (some (V.ref a))
/-- what a turn's last part must bring -/
def EndOk (K : PySem.W.Frag) (mg : Str → Option Value) (R : AccR) (te : Addr → L2.St → Hp → (Hp → Prop) → Prop) (st : R.γ → M R.γ) : Prop :=
  ∀ (G : GT) (io : List Addr) (F : Hp) (β : B.Env) (σ : L2.St) (H : Hp) (D : Addr) (o : HO) (acc : R.γ) (Nx : Hp → Prop), BI K mg (G.upd D o) F io β σ H → F D = none → D ∉ io → R.rel F D o acc →
    (match st acc β with
      | .ok acc' β' => ∀ F' H' o', FE (G.upd D o) io F F' → F' D = none → BI K mg (G.upd D o') F' io β' σ H' → R.rel F' D o' acc' → Nx H'
      | _ => False) → te D σ H Nx
section
variable {X : Cx}
theorem tCc_of {R : AccR} {te : Addr → L2.St → Hp → (Hp → Prop) → Prop} {o0 : Addr → HO} {mi : M (List D)} {g : D → M Unit} {mt : M Bool} {st : R.γ → M R.γ} {a0 : R.γ} {vs : List Nat} {W : WX} {σ : L2.St} {H : Hp} {Q : VK}
    (r0 : ∀ F D, R.rel F D (o0 D) a0) (he : EndOk X.K X.mg R te st) (h : gOf X.K X.mg W (relC R) (mCompG vs mi g mt st a0) σ H Q) :
    tCc (iOf X.K X.mg W mi) (gOfT X.K X.mg vs g) (gOf X.K X.mg (fun _ _ _ _ => False) relB mt) te o0 vs σ H Q := by
  obtain ⟨G, io, F, β, I, h⟩ := h
  refine ⟨G, io, F, β, I, h.bnd fun ds β1 J H1 F1 fe1 I1 r1 h1 => ?_⟩
  intro Da hD
  have gD : G Da = none := I1.sg.free hD
  have fD : F1 Da = none := Same.free I1.sf hD
  have nio : Da ∉ io := fun z => by
    obtain ⟨u, hu⟩ := I1.ioH Da z
    rw [hD] at hu
    cases hu
  unfold compGV at h1
  by_cases hno : noOwn β1 vs = true
  case neg =>
    rw [if_neg hno] at h1
    exact h1.elim
  rw [if_pos hno] at h1
  -- what the whole walk gives
  obtain ⟨fin, fin0, fin1⟩ : ∃ fin : B.R R.γ → Prop, fin (compG g mt st vs ds a0 (wipeB β1 vs)) ∧ ∀ r, fin r → ∃ acc β', r = .ok acc β' ∧
      ∀ v H' F', FE G io F F' → BI X.K X.mg G F' io (backB β1 β' vs) σ H' → relC R G F' io H' (backB β1 β' vs) σ v acc → Q v H' := by
    refine ⟨fun r => ∃ acc β', r = .ok acc β' ∧ ∀ v H' F', FE G io F F' → BI X.K X.mg G F' io (backB β1 β' vs) σ H' → relC R G F' io H' (backB β1 β' vs) σ v acc → Q v H', ?_, fun r h => h⟩
    cases e : compG g mt st vs ds a0 (wipeB β1 vs) with
    | ok acc β' => rw [e] at h1; exact ⟨acc, β', rfl, h1⟩
    | stuck => rw [e] at h1; exact h1.elim
    | exc x β' => rw [e] at h1; exact h1.elim
  refine ⟨fun i m H => i ≤ ds.length ∧ m = ds.length - i ∧ ∃ F' β' acc o, FE G io F1 F' ∧ F' Da = none ∧ R.rel F' Da o acc ∧ BI X.K X.mg (G.upd Da o) F' io β' (wipe σ vs) H ∧ fin (compG g mt st vs (ds.drop i) acc β'),
    ⟨ds.length, Nat.zero_le _, rfl, F1, _, a0, _, .refl, fD, r0 _ _, (I1.wipe vs rfl rfl).guard0 hD, fin0⟩, ?_⟩
  rintro i m H2 ⟨hi, rfl, F2, β2, acc, o, fe2, fD2, ra2, I2, h2⟩
  have nc2 := R.nc ra2
  by_cases hlt : i < ds.length
  · have ed : ds[i]? = some ds[i] := List.getElem?_eq_getElem hlt
    rw [(List.getElem_cons_drop hlt).symm] at h2
    obtain ⟨go, yld⟩ := (r1 i H2 (fe2.same.trans I2.sf)).1 _ ed
    refine .inr ⟨go, fun H' => ∃ F' β' acc o, FE G io F1 F' ∧ F' Da = none ∧ R.rel F' Da o acc ∧ BI X.K X.mg (G.upd Da o) F' io β' (wipe σ vs) H' ∧ fin (compG g mt st vs (ds.drop (i + 1)) acc β'),
      fun H' ⟨F', β', acc', o', z⟩ => ⟨ds.length - (i + 1), by omega, hlt, rfl, F', β', acc', o', z⟩, fun x H3 hy => ?_⟩
    obtain ⟨F3, fe3, I3, r3⟩ := I2.step (yld F2 fe2.same I2.sf x H3 hy)
    refine ⟨G.upd Da o, io, F3, β2, ds[i], I3, r3, ?_⟩
    obtain ⟨acc9, β9, e9, _⟩ := fin1 _ h2
    simp only [compG] at h2 e9
    cases e1 : g ds[i] β2 with
    | stuck => rw [e1] at e9; cases e9
    | exc x β => rw [e1] at e9; cases e9
    | ok u β4 =>
      rw [e1] at h2 e9
      simp only at h2 e9 ⊢
      intro σ4 H4 F4 bu fe4 I4
      have ew : wipe σ4 vs = wipe σ vs := bu.wipe.trans (wipe_wipe σ vs)
      have hl4 : σ.length = σ4.length := by rw [bu.1, wipe_length]
      refine ⟨ew, G.upd Da o, io, F4, β4, I4, ?_⟩
      cases e2 : mt β4 with
      | stuck => rw [e2] at e9; cases e9
      | exc x β => rw [e2] at e9; cases e9
      | ok b β5 =>
        rw [e2] at h2 e9
        intro v H5 F5 fe5 I5 rv
        cases (show v = b from rv)
        have fe25 := (fe3.trans fe4).trans fe5
        have fD5 : F5 Da = none := fe25.keepN gD fD2
        cases b with
        | false =>
          simp only at h2
          rw [if_neg Bool.false_ne_true]
          exact ⟨F5, _, acc, o, fe2.trans (fe25.unguard gD), fD5, R.mono fe25.same ra2, I5.wipe vs ew hl4, h2⟩
        | true =>
          simp only at h2 e9
          rw [if_pos rfl]
          refine he G io F5 β5 σ4 H5 Da o acc _ I5 fD5 nio (R.mono fe25.same ra2) ?_
          cases e3 : st acc β5 with
          | stuck => rw [e3] at e9; cases e9
          | exc x β => rw [e3] at e9; cases e9
          | ok acc' β6 =>
            rw [e3] at h2
            simp only at h2 ⊢
            intro F6 H6 o6 fe6 fD6 I6 ra6
            exact ⟨F6, _, acc', o6, fe2.trans ((fe25.trans fe6).unguard gD), fD6, ra6, I6.wipe vs ew hl4, h2⟩
  · obtain rfl : i = ds.length := by omega
    rw [List.drop_length] at h2
    obtain ⟨acc9, β9, e9, k9⟩ := fin1 _ h2
    cases e9
    have Ib := (I2.unguard gD).back I1 fe2.same hno
    refine .inl ⟨(r1 _ H2 (fe2.same.trans I2.sf)).2 (Nat.le_refl _), k9 _ _ F2 (fe1.trans fe2) Ib ⟨Da, o, rfl, fD2, gD, nio, ?_, ra2, fun j s es hs z => ?_⟩⟩
    · refine I2.sg.g _ _ ?_
      unfold GT.upd
      simp only [upd_same]
    · cases s with
      | own b d =>
        have hl : β1.length = β2.length := by rw [I1.len, I2.len, wipe_length]
        have hj : j ∉ vs := fun hj => by
          have e1 := backB_in β1 β2 hl vs _ hj es
          have e2 := List.all_eq_true.mp hno j hj
          rw [e1] at e2
          cases e2
        rw [backB_out β1 β2 vs hj] at es
        obtain ⟨w, ew, a, q, f', g', _⟩ := I2.sl j _ es
        rw [wipe_out σ vs hj, z] at ew
        cases ew
        cases q
        exact absurd g' (GT.upd_self gD)
      | ex z0 => cases hs
      | gh _ => cases hs
      | un => cases hs
      | fz _ => cases hs
end
end B

set_option Elab.async false
set_option linter.all false
set_option maxRecDepth 100000
set_option maxHeartbeats 4000000
namespace B
open PySem PySem.Spec L2 PyProof.Rows
open PySem.W (dataLt alike dataLe AllAlike Sortable)
/-! # sorted of a set of tuples of ints -/
abbrev encT (p : Addr × List Int) : PyData := .tuple (p.2.map .int)
theorem le_encT : dataLe false encT = fun p q => decide (p.2 ≤ q.2) := by
  funext p q
  show (!dataLt (.tuple (q.2.map .int)) (.tuple (p.2.map .int))) = _
  rw [PySem.W.dataLt_tuple]
  have e : lexLt itemOrd (PySem.W.keyToksAll (q.2.map PyData.int)) (PySem.W.keyToksAll (p.2.map PyData.int)) = decide (q.2 < p.2) := PySem.W.dataLt_ints q.2 p.2
  rw [e]
  by_cases h : q.2 < p.2
  · have h' : ¬ p.2 ≤ q.2 := fun r => List.not_lt.mpr r h
    simp [h, h']
  · have h' : p.2 ≤ q.2 := List.not_lt.mp h
    simp [h, h']
/-- the keys, rising -/
def sortK (L : List (Addr × List Int)) : List (Addr × List Int) := L.mergeSort (dataLe false encT)
theorem sortK_perm (L : List (Addr × List Int)) : (sortK L).Perm L := List.mergeSort_perm _ _
theorem sortK_rise {L : List (Addr × List Int)} (nd : (L.map (·.2)).Nodup) : ((sortK L).map (·.2)).Pairwise (· < ·) := by
  have h1 : (sortK L).Pairwise (fun p q => p.2 ≤ q.2) := by
    unfold sortK
    rw [le_encT]
    have := List.pairwise_mergeSort (le := fun p q : Addr × List Int => decide (p.2 ≤ q.2)) (fun a b c h1 h2 => by simpa using List.le_trans (by simpa using h1) (by simpa using h2)) (fun a b => by
      simp only [Bool.or_eq_true, decide_eq_true_eq]
      exact List.le_total _ _) L
    exact this.imp fun h => by simpa using h
  have h2 : ((sortK L).map (·.2)).Nodup := ((sortK_perm L).map (·.2)).nodup_iff.mpr nd
  have h3 := List.pairwise_map.mp h2
  refine List.pairwise_map.mpr (h1.imp₂ (fun a b h n => ?_) h3)
  rcases List.le_iff_lt_or_eq.mp h with q | q
  · exact q
  · exact absurd q n
section
variable {P : Program} {w : World} {A : Around} {E : Value → Shared → Prop} {s : Shared} {h h' : Heap} {a : Addr} {L : List (Addr × List Int)} {es : Array (Int × Value)} {ep : Nat} {t : SetTable}
theorem reads_tup {k : List Int} {b : Addr} (x : IsT P w h k b) : Reads h (.ref b) (.tuple (k.map .int)) [] := by
  obtain ⟨o, items, n, ho, hc, hd, hi⟩ := x
  refine .tuple ho hc hd ?_
  clear hd ho
  replace hi : ItemsAre (intKind P w) k items.toList := hi
  generalize items.toList = vs at hi
  induction hi with
  | nil => exact .nil
  | @cons k0 v ks vs h1 _ ih =>
    obtain ⟨t, rfl⟩ := Value.isInt_shape h1
    exact .cons (as := []) (.int k0 t) ih
/-- sorted(s) -/
theorem sg_sorted (R : SG P w s.heap a L es ep t) (hh : A.handled = none) (ne : ∀ p ∈ L, p.2 ≠ []) (hu : A.units + 8 < cLine) (few : L.length < 4000) {Q : Value → Shared → Prop}
    (hQ : ∀ s' p (out : Array Value) (c : Nat), (∀ b o, s.heap.get? b = some o → s'.heap.get? b = some o) → s'.gens = s.gens → s'.os = s.os → s.heap.objs.size ≤ p → s'.heap.get? p = some (seqObj "list" out c) →
      (∃ L', L'.Perm L ∧ out.toList = (sortK L').map (fun q => Value.ref q.1)) → Q (.ref p) s') :
    wpAny (model P w) A (call (.builtin "sorted") [.ref a]) Q E s := by
  obtain ⟨o, ho, hx, hd⟩ := R.ob
  have sz := R.size
  refine Calls.call_function_entry kind_sorted plain_sorted entry_sorted (args_sorted1 _) ?_
  unfold Builtin.«sorted»
  refine wpAny_bind (m := checkCount "sorted" 1 1 _) (wpAny_pure ?_)
  refine wpAny_bind (collect_set (A := A.in1) hh ⟨o, ho, hx.1, hd⟩ R.fits (by unfold scanBound; omega) R.tab.ris R.led fun s1 vs k1 z1 g1 o1 pm => ?_)
  rw [R.rows] at pm
  have e1 : (rowsOf P w L).map (·.2) = L.map fun q => Value.ref q.1 := by
    unfold rowsOf
    rw [List.map_map]
    rfl
  rw [e1] at pm
  obtain ⟨L1, p1, rfl⟩ := perm_pre pm L rfl
  have l1 := p1.length_eq
  refine wpAny_bind (wpAny_newList ?_ (by rw [List.length_map, sizeLine_eq]; omega))
  have at1 : (s1.heap.push (seqObj "list" (L1.map fun q => Value.ref q.1).toArray 0)).get? s1.heap.objs.size = some (seqObj "list" (L1.map fun q => Value.ref q.1).toArray 0) := Heap.get?_push_size _ rfl
  have keep : ∀ b u, s.heap.get? b = some u → (s1.heap.push (seqObj "list" (L1.map fun q => Value.ref q.1).toArray 0)).get? b = some u := fun b u e => Heap.get?_push_of_some _ (k1 b u e)
  have isT : ∀ q ∈ L1, IsT P w (s1.heap.push (seqObj "list" (L1.map fun q => Value.ref q.1).toArray 0)) q.2 q.1 := fun q hq => by
    obtain ⟨o', items, n, e, r⟩ := R.tup q (p1.mem_iff.mp hq)
    exact ⟨o', items, n, keep _ _ e, r⟩
  have each : ∀ (M : List (Addr × List Int)), PySem.W.EachIs (fun v (q : Addr × List Int) => v = Value.ref q.1) (M.map fun q => Value.ref q.1) M := fun M => by
    induction M with
    | nil => exact .nil
    | cons q M ih => exact .cons rfl ih
  have er : PySem.W.EachIs (fun v (q : Addr × List Int) => ∃ as, Reads (s1.heap.push (seqObj "list" (L1.map fun q => Value.ref q.1).toArray 0)) v (encT q) as ∧ s1.heap.objs.size ∉ as) (L1.map fun q => Value.ref q.1) L1 := by
    have key : ∀ M : List (Addr × List Int), (∀ q ∈ M, q ∈ L1) → PySem.W.EachIs (fun v (q : Addr × List Int) => ∃ as, Reads (s1.heap.push (seqObj "list" (L1.map fun q => Value.ref q.1).toArray 0)) v (encT q) as ∧ s1.heap.objs.size ∉ as) (M.map fun q => Value.ref q.1) M := fun M => by
      induction M with
      | nil => intro _; exact .nil
      | cons q M ih => intro hm; exact .cons ⟨[], reads_tup (isT q (hm q List.mem_cons_self)), fun z => nomatch z⟩ (ih fun r hr => hm r (List.mem_cons_of_mem _ hr))
    exact key L1 fun _ h => h
  refine wpAny_bind (wpAny_holding (PySem.W.list_sort_data (s := { s1 with heap := s1.heap.push (seqObj "list" (L1.map fun q => Value.ref q.1).toArray 0) }) (enc := encT) at1 (each L1) er (PySem.W.AllAlike.of fun b b' => ?_) (.inl fun d hd => ?_) (by rw [sizeLine_eq]; omega) (fun q hq => ?_) fun out lo eo => ?_))
  · exact PySem.W.alike_ints b.2 b'.2
  · obtain ⟨q, hq, rfl⟩ := List.mem_map.mp hd
    cases e : q.2 with
    | nil => exact absurd e (ne q (p1.mem_iff.mp hq))
    | cons x r => exact ⟨.int x, r.map .int, by simp [encT, e]⟩
  · have : (encT q).depth = 1 := by
      show PyData.depthAll (q.2.map .int) + 1 = 1
      rw [PySem.W.depth_ints]
    rw [this]
    show A.units + 1 + 1 + 1 < cLine
    omega
  · obtain ⟨c, hc⟩ := sortedHeap_at (vs := L1.map fun q => Value.ref q.1) (out := out.toArray) at1
    have eo' : out = (sortK L1).map fun q => Value.ref q.1 := by
      have key : ∀ {us : List Value} {M : List (Addr × List Int)}, PySem.W.EachIs (fun v (q : Addr × List Int) => v = Value.ref q.1) us M → us = M.map fun q => Value.ref q.1 := fun {us M} e => by
        induction e with
        | nil => rfl
        | cons a _ ih => rw [a, ih]; rfl
      exact key eo
    refine wpAny_pure ⟨_, rfl, hQ _ s1.heap.objs.size out.toArray c (fun b u e => ?_) g1 o1 z1 hc ⟨L1, p1, by simpa using eo'⟩⟩
    have lt := Heap.lt_size (k1 b u e)
    show (sortedHeap _ s1.heap.objs.size _ _).get? b = some u
    rw [sortedHeap_old (Nat.ne_of_lt lt) (by rw [size_push']; exact Nat.lt_succ_of_lt lt)]
    exact keep b u e
end
end B

set_option Elab.async false
set_option linter.all false
set_option maxRecDepth 100000
set_option maxHeartbeats 4000000
namespace B
open PySem PySem.Spec L2 PyProof.Rows
/-! # sets: the rules -/
abbrev TupAt (H : Hp) (p : Addr × List Int) : Prop := H p.1 = some (.tup (p.2.map V.int))
section
variable {X : Cx}
theorem isT_of {pins : List (Addr × Obj)} {σ : L2.St} {H : Hp} {s : Shared} {p : Addr × List Int} (I : Inv X pins σ H s) (h : TupAt H p) : IsT X.prog X.w s.heap p.2 p.1 := I.isT (.inl (.inl h))
theorem set_full {pins : List (Addr × Obj)} {σ : L2.St} {H : Hp} {s : Shared} {a : Addr} {L : List (Addr × List Int)} (I : Inv X pins σ H s) (ha : H a = some (SetG X.prog X.w a L)) (ht : ∀ p ∈ L, TupAt H p) : ∃ es ep t, SG X.prog X.w s.heap a L es ep t :=
  SG0.full (I.hok a _ ha).1 fun p hp => isT_of I (ht p hp)
/-- a | b -/
def rOrG (P : Program) (w : World) : R2 := fun x y H Q => ∃ a b L1 L2, x = .ref a ∧ y = .ref b ∧ b ≠ a ∧ H a = some (SetG P w a L1) ∧ H b = some (SetG P w b L2) ∧ (∀ p, p ∈ L1 ∨ p ∈ L2 → TupAt H p) ∧ L1.length + L2.length < 500 ∧
  ∀ r L', H r = none → Both L1 L2 L' → (L'.map (·.2)).Nodup → Q (.ref r) (upd H r (SetG P w r L'))
theorem op_orG (hu : X.A.units + 64 < cLine) : OpR X (binaryOp .BitOr) (rOrG X.prog X.w) := by
  intro pins s σ H x y v u Q I rx ry ⟨a, b, L1, L2, ex, ey, ne, ha, hb, ht, few, q⟩
  subst ex
  subst ey
  obtain rfl : v = Value.ref a := rx
  obtain rfl : u = Value.ref b := ry
  obtain ⟨es1, ep1, t1, R1⟩ := set_full I ha fun p hp => ht p (.inl hp)
  obtain ⟨es2, ep2, t2, R2⟩ := set_full I hb fun p hp => ht p (.inr hp)
  refine sg_or R1 R2 ne few (by omega) fun h' L' es' ep' t' k R' B' => ?_
  exact ⟨.ref s.heap.objs.size, upd H s.heap.objs.size (SetG X.prog X.w s.heap.objs.size L'), I.laid (t' := s.toks) k (Nat.le_refl _) (setG_ok R'.s0), rfl, q _ L' (I.hok.fresh (Nat.le_refl _)) B' R'.nd⟩
/-- sorted(a) -/
def rSortG (P : Program) (w : World) : List V → Hp → VK → Prop := fun vs H Q => ∃ a L, vs = [V.ref a] ∧ H a = some (SetG P w a L) ∧ (∀ p ∈ L, TupAt H p) ∧ (∀ p ∈ L, p.2 ≠ []) ∧ L.length < 4000 ∧
  ∀ L' p, L'.Perm L → H p = none → Q (.ref p) (upd H p (.lst ((sortK L').map fun q => V.ref q.1)))
theorem cr_sortG (hc : X.calm = true) (hu : X.A.units + 64 < cLine) : CallR X (.builtin "sorted") (rSortG X.prog X.w) := by
  intro pins s σ H vs us Q I r ⟨a, L, e, ha, ht, ne, few, q⟩
  subst e
  obtain ⟨es, ep, t, R⟩ := set_full I ha ht
  rw [Vals.ref1 r]
  refine sg_sorted R (I.ok.hd hc) ne (by omega) few fun s' p out c k g o hp hg ⟨L', pm, eo⟩ => ?_
  have len : ((sortK L').map fun q => V.ref q.1).length ≤ sizeLine := by
    rw [List.length_map, (sortK_perm L').length_eq, pm.length_eq, sizeLine_eq]
    omega
  have hv : Vals ((sortK L').map fun q => V.ref q.1) out.toList := by rw [eo]; exact vals_of_refs _
  have hn : H p = none := I.hok.fresh hp
  have J : Inv X pins σ (upd H p (.lst ((sortK L').map fun q => V.ref q.1))) { s with heap := s'.heap, gens := s'.gens, drawn := s'.drawn, toks := s'.toks } :=
    I.call (ch := []) (Un.laid k hp hn) (I.hok.laid k hp ⟨len, out.toList, c, hv, hg⟩) (by rw [g]; exact I.bare) fun _ z => nomatch z
  have e : s' = { s with heap := s'.heap, gens := s'.gens, drawn := s'.drawn, toks := s'.toks } := by
    cases s'
    simp only at o
    rw [o]
  rw [e]
  exact ⟨.ref p, _, J, rfl, q L' p pm hn⟩
/-- set.add -/
theorem add_okG {pins : List (Addr × Obj)} {σ : L2.St} {H : Hp} {s : Shared} {E : Value → Shared → Prop} {D T : Addr} {k : List Int} {L : List (Addr × List Int)} {Q : Value → Shared → Prop} (I : Inv X pins σ H s) (hu : X.A.units + 64 < cLine) (hD : H D = some (SetG X.prog X.w D L)) (ht : ∀ p ∈ L, TupAt H p) (hT : TupAt H (T, k)) (few : L.length < 500)
    (h : ∀ s' L', Inv X pins σ (upd H D (SetG X.prog X.w D L')) s' → (k ∈ L.map (·.2) → L' = L) → (k ∉ L.map (·.2) → L'.Perm ((T, k) :: L)) → Q .none s') : wpAny (model X.prog X.w) X.A (call (.builtin "set.add") [.ref D, .ref T]) Q E s := by
  obtain ⟨es, ep, t, R⟩ := set_full I hD ht
  have xT := isT_of I hT
  refine wpAny_call_entry F.slot_set_add R.ty F.entry_set_add ?_ (F.args_set_add_2 _ _)
  unfold Builtin.«set.add» Builtin.Frozenset.oneOther
  simp only [List.isEmpty_nil, bind_assoc]
  unfold Builtin.Frozenset.addrOf setAdd
  refine wpAny_bind (wpAny_pure ?_)
  try dsimp only
  refine wpAny_bind (wpAny_pure ?_)
  try dsimp only
  have u1 : X.A.in1.units < cLine := Nat.lt_of_le_of_lt (by show X.A.units + 1 ≤ X.A.units + 64; omega) hu
  refine wpAny_bind (wpAny_holding (wpAny_bind (wpAny_pyHash_tuple u1 xT ?_)))
  refine sg_add (s := { s with toks := s.toks + (k.length + 1) }) R xT u1 few fun b h' L' es' ep' t' sb R' c1 c2 _ => ?_
  show wpAny _ _ (PySem.ret Value.none) _ _ _
  refine wpAny_pure ⟨_, rfl, h _ L' (I.write (e := D) (t' := s.toks + (k.length + 1)) (by rw [hD]; trivial) (.inl rfl) (fun b u hb e => (sb.2 b hb).trans e) ?_ (setG_ok R'.s0)) c1 c2⟩
  obtain ⟨o, ho, _⟩ := R'.ob
  exact ⟨o, ho⟩
/-! ## {elt for target in iter if ..} -/
def enS (P : Program) (w : World) (elt : Expr) : EndP := fun A env D S E s => wpAny (model P w) A (eval elt env) (fun x s4 => wpAny (model P w) A (call (.builtin "set.add") [.ref D, x]) (fun _ s5 => S s5) E s4) E s
theorem ckS (P : Program) (w : World) (elt tg iter : Expr) (ifs : List Expr) (scope : Scope) (pos : Pos) : CompK P w (.SetComp elt [⟨tg, iter, ifs, 0⟩] scope pos) tg iter ifs (newSet (.type "set")) { cls := .type "set", dict := none, data := .set #[] 0 (.fresh 0 0 (!w.params.followText "set-order")) } (enS P w elt) where
  clauses := rfl
  new := fun h => PpSet.newSet_ok h
  loop := fun I turn n h => PpSet.compLoopS_any I turn n h
  start := fun h0 h => PpSet.codeAny_compStart_set h0 h
/-- what the turn's last part asks -/
def teS (P : Program) (w : World) (te : TE) : Addr → L2.St → Hp → (Hp → Prop) → Prop := fun D σ H Nx => te σ H fun y H4 => ∃ T k L, y = .ref T ∧ TupAt H4 (T, k) ∧ H4 D = some (SetG P w D L) ∧ (∀ p ∈ L, TupAt H4 p) ∧ L.length < 500 ∧
  ∀ L', (k ∈ L.map (·.2) → L' = L) → (k ∉ L.map (·.2) → L'.Perm ((T, k) :: L)) → Nx (upd H4 D (SetG P w D L'))
theorem endS {s0 : Shared} {H0 : Hp} {sc : Scope} {env : PySem.Env} {fp : List Addr} {elt : Expr} {te : TE} (hu : X.A.units + 64 < cLine) (h : PE (X.blk s0 H0 sc env fp) elt te) : EndR (X.blk s0 H0 sc env fp) (enS X.prog X.w elt) (teS X.prog X.w te) := by
  intro pins s σ H D Nx S E I q fin
  refine thnF (h.run pins s σ H _ I q) fun y s4 ⟨v, H4, I4, r4, T, k, L, ev, hT, hD, ht, few, nx⟩ => ?_
  subst ev
  obtain rfl : y = Value.ref T := r4
  exact add_okG (X := X.blk s0 H0 sc env fp) I4 hu hD ht hT few fun s5 L' I5 c1 c2 => fin s5 _ I5 (nx L' c1 c2)
/-! ## by data -/
/-- the set of these, in whatever order -/
def relS (P : Program) (w : World) (F : Hp) (a : Addr) (o : HO) (ks : List (List Int)) : Prop := ∃ L : List (Addr × List Int), o = SetG P w a L ∧ (∀ p ∈ L, TupAt F p) ∧ (∀ p ∈ L, p.2 ∈ ks) ∧ (∀ k ∈ ks, k ∈ L.map (·.2)) ∧ L.length ≤ ks.length ∧ ks.length ≤ 249
def accS (P : Program) (w : World) : AccR where
  γ := List (List Int)
  rel := relS P w
  mono := fun e ⟨L, h1, h2, h3⟩ => ⟨L, h1, fun p hp => e _ _ (h2 p hp), h3⟩
  nc := fun ⟨L, h1, _⟩ c q => by rw [h1]; exact setG_nc c q
def stS (me : M Rs) : List (List Int) → M (List (List Int)) := fun ks β => match me β with
  | .ok r β' => (match tupI? r.d with
    | some k => if ks.length < 249 then .ok (ks ++ [k]) β' else .stuck
    | none => .stuck)
  | _ => .stuck
theorem dr_tupI {K : PySem.W.Frag} {mg : Str → Option Value} {F : Hp} {v : V} {d : D} {k : List Int} (h : DR K mg F v d) (e : tupI? d = some k) : ∃ T, v = .ref T ∧ TupAt F (T, k) := by
  unfold tupI? at e
  split at e
  · have := ints_of e
    subst this
    cases h with
    | tup h r => exact ⟨_, rfl, by rw [r.int_of] at h; exact h⟩
  · cases e
theorem endokS {me : M Rs} : EndOk X.K X.mg (accS X.prog X.w) (teS X.prog X.w (gOf X.K X.mg (fun _ _ _ _ => False) (relE X.K X.mg) me)) (stS me) := by
  intro G io F β σ H D o (ks : List (List Int)) Nx I fD nio ⟨L, eo, ht, h1, h2, h3, h4⟩ hm
  subst eo
  refine ⟨G.upd D (SetG X.prog X.w D L), io, F, β, I, ?_⟩
  unfold stS at hm
  cases em : me β with
  | stuck => rw [em] at hm; exact hm.elim
  | exc x β' => rw [em] at hm; exact hm.elim
  | ok r β' =>
    rw [em] at hm
    intro y H4 F4 fe4 I4 rr
    obtain ⟨F5, fe5, I5, dr⟩ := I4.freezeR rr
    cases ek : tupI? r.d with
    | none => simp only [ek] at hm
    | some k =>
      simp only [ek] at hm
      by_cases hl : ks.length < 249
      · rw [if_pos hl] at hm
        obtain ⟨T, ey, hT⟩ := dr_tupI dr ek
        have fe := fe4.trans fe5
        have fD5 : F5 D = none := by
          cases q : F5 D with
          | none => rfl
          | some o =>
            rcases fe.new D o q with z | ⟨z, _⟩
            · rw [fD] at z; cases z
            · have := GT.gn z
              unfold GT.upd at this
              simp only [upd_same] at this
              cases this
        have gD : (G.upd D (SetG X.prog X.w D L)).g D = some (SetG X.prog X.w D L) := by
          unfold GT.upd
          simp only [upd_same]
        refine ⟨T, k, L, ey, I5.sf _ _ hT, I5.sg.g _ _ gD, fun p hp => I5.sf _ _ (fe.same _ _ (ht p hp)), by omega, fun L' c1 c2 => ?_⟩
        have J := I5.guardG (o := SetG X.prog X.w D L') gD (fun c q => setG_nc c q) fD5 nio
        rw [GT.upd_upd] at J
        refine hm F5 _ (SetG X.prog X.w D L') fe fD5 J ⟨L', rfl, fun p hp => ?_, fun p hp => ?_, fun x hx => ?_, ?_, by show (ks ++ [k]).length ≤ 249; simp; omega⟩
        · rcases Classical.em (k ∈ L.map (·.2)) with c | c
          · rw [c1 c] at hp
            exact fe.same _ _ (ht p hp)
          · rcases List.mem_cons.mp ((c2 c).mem_iff.mp hp) with rfl | hp
            · exact hT
            · exact fe.same _ _ (ht p hp)
        · rcases Classical.em (k ∈ L.map (·.2)) with c | c
          · rw [c1 c] at hp
            exact List.mem_append_left _ (h1 p hp)
          · rcases List.mem_cons.mp ((c2 c).mem_iff.mp hp) with rfl | hp
            · exact List.mem_append_right _ (List.mem_singleton_self _)
            · exact List.mem_append_left _ (h1 p hp)
        · rcases List.mem_append.mp hx with hx | hx
          · rcases Classical.em (k ∈ L.map (·.2)) with c | c
            · rw [c1 c]
              exact h2 x hx
            · rw [((c2 c).map (·.2)).mem_iff]
              exact List.mem_cons_of_mem _ (h2 x hx)
          · rw [List.mem_singleton.mp hx]
            rcases Classical.em (k ∈ L.map (·.2)) with c | c
            · rw [c1 c]
              exact c
            · rw [((c2 c).map (·.2)).mem_iff]
              exact List.mem_cons_self
        · have el : (ks ++ [k]).length = ks.length + 1 := by simp
          show L'.length ≤ (ks ++ [k]).length
          rw [el]
          rcases Classical.em (k ∈ L.map (·.2)) with c | c
          · rw [c1 c]
            omega
          · rw [(c2 c).length_eq, List.length_cons]
            omega
      · rw [if_neg hl] at hm
        exact hm.elim
/-- an object that is there is let stay, as it is -/
theorem BI.pin {K : PySem.W.Frag} {mg : Str → Option Value} {G : GT} {F H : Hp} {io : List Addr} {β : B.Env} {σ : L2.St} {a : Addr} {o : HO} (I : BI K mg G F io β σ H) (ha : H a = some o) (gA : G a = none)
    (ns : ∀ (i : Nat) (s : Sl), β[i]? = some s → isOwn s = true → σ[i]? ≠ some (some (V.ref a))) : BI K mg (G.upd a o) F io β σ H := by
  refine ⟨⟨fun b u e => ?_, I.sg.t, fun b u e => ?_⟩, I.sf, I.ioF, I.ioH, I.len, fun i s e => ?_, I.apart⟩
  · by_cases hb : b = a
    · subst hb
      unfold GT.upd at e
      simp only [upd_same] at e
      cases e
      exact ha
    · unfold GT.upd at e
      simp only [upd_ne hb] at e
      exact I.sg.g b u e
  · by_cases hb : b = a
    · subst hb
      exact show G.t b = none from GT.tn gA
    · unfold GT.upd at e
      simp only [upd_ne hb] at e
      exact I.sg.dj b u e
  · obtain ⟨v, ev, hs⟩ := I.sl i s e
    refine ⟨v, ev, ?_⟩
    cases s with
    | own b d =>
      obtain ⟨x, q, f, g, k1, k2, r⟩ := hs
      exact ⟨x, q, f, by rw [GT.upd_ne fun z => ns i _ e rfl (by rw [ev, q, z])]; exact g, k1, k2, r⟩
    | ex z0 => exact hs
    | gh _ => exact hs
    | un => trivial
    | fz d => exact hs
end
end B

set_option Elab.async false
set_option linter.all false
set_option maxRecDepth 100000
set_option maxHeartbeats 4000000
namespace B
open PySem PySem.Spec L2 PyProof.Rows
/-! # sorted({..} | {..}) -/
section
variable {X : Cx}
/-- a set of tuples of ints, by the keys put in -/
def BSet (X : Cx) (e : Expr) (m : M (List (List Int))) : Prop := ∀ W, Takes X W → PE X e (gOf X.K X.mg W (relC (accS X.prog X.w)) m)
def mSetC (vs : List Nat) (mi : M (List D)) (g : D → M Unit) (mt : M Bool) (me : M Rs) : M (List (List Int)) := mCompG vs mi g mt (stS me) []
theorem setG_fresh (P : Program) (w : World) (h : Heap) (H : Hp) : ObjOk P w H (h.push { cls := .type "set", dict := none, data := .set #[] 0 (.fresh 0 0 (!w.params.followText "set-order")) }) h.objs.size (SetG P w h.objs.size []) :=
  setG_ok (sg_new (P := P) (w := w) (Heap.get?_push_size _ rfl) rfl).s0
theorem relS_nil (P : Program) (w : World) (F : Hp) (D : Addr) : relS P w F D (SetG P w D []) [] := by
  refine ⟨[], rfl, ?_, ?_, ?_, Nat.le_refl _, Nat.zero_le _⟩ <;> (intro p hp; cases hp)
theorem bset_comp {elt tg iter : Expr} {ifs : List Expr} {scope : Scope} {own : List (Str × Nat)} {pos : Pos} {mi : M (List D)} {g : D → M Unit} {mt : M Bool} {me : M Rs} {vs : List Nat} (hc : X.calm = true) (hN : X.N.Nodup) (hu : X.A.units + 64 < cLine) (hi : BIt X tg iter mi) (hvs : own.map (·.2) = vs)
    (ok : BlkOk X.N X.env.scope scope own)
    (hg : ∀ (s : Shared) (H : Hp) (C : Addr) (cl : List (Str × Addr)) (fp : List Addr), BG (X.blk s H scope (PySem.compEnvC scope cl C X.env) fp) vs tg g) (ht : ∀ (s : Shared) (H : Hp) (C : Addr) (cl : List (Str × Addr)) (fp : List Addr), BTs (X.blk s H scope (PySem.compEnvC scope cl C X.env) fp) ifs mt)
    (he : ∀ (s : Shared) (H : Hp) (C : Addr) (cl : List (Str × Addr)) (fp : List Addr), BE (X.blk s H scope (PySem.compEnvC scope cl C X.env) fp) elt me) (hs : ∀ x, foldedSetIterable iter X.env x = pure x := by intro _; rfl) :
    BSet X (.SetComp elt [⟨tg, iter, ifs, 0⟩] scope pos) (mSetC vs mi g mt me) := by
  subst hvs
  have hE : ∀ (s : Shared) (H : Hp) (C : Addr) (cl : List (Str × Addr)) (fp : List Addr), EndR (X.blk s H scope (PySem.compEnvC scope cl C X.env) fp) (enS X.prog X.w elt) (teS X.prog X.w (gOf X.K X.mg (fun _ _ _ _ => False) (relE X.K X.mg) me)) := by
    intro s H C cl fp
    have := he s H C cl fp (fun _ _ _ _ => False) takes0
    exact endS hu this
  intro W tk
  have pe := pe_cc (ckS X.prog X.w elt tg iter ifs scope pos) (PpSet.eval_SetComp elt _ scope pos) hc hN (hi W tk) ok (g := gOfT X.K X.mg (own.map fun (q : Str × Nat) => q.2) g) (tt := gOf X.K X.mg (fun _ _ _ _ => False) relB mt) (te := teS X.prog X.w (gOf X.K X.mg (fun _ _ _ _ => False) (relE X.K X.mg) me)) (o0 := fun D => SetG X.prog X.w D []) (fun h H _ => setG_fresh X.prog X.w h H) hg (fun s H C cl fp => ht s H C cl fp _ takes0) hE hs
  exact pe.imp fun σ H Q h => tCc_of (R := accS X.prog X.w) (fun F D => relS_nil X.prog X.w F D) endokS h
def mPts (c1 c2 : M (List (List Int))) : M Rs := bnd c1 fun k1 => bnd c2 fun k2 => if (k1 ++ k2).all (fun k => !k.isEmpty) = true then ret (.own (.nd .lst ((tset (k1 ++ k2)).map tupD))) else stk
theorem be_pts {e1 e2 : Expr} {p q pos : Pos} {c1 c2 : M (List (List Int))} (hg : Gl X "sorted") (hm : X.mg "sorted" = none) (hc : X.calm = true) (hu : X.A.units + 64 < cLine) (h1 : BSet X e1 c1) (h2 : BSet X e2 c2)
    (nb : starEach [.BinOp e1 .BitOr e2 q] X.env = (false, eval (.BinOp e1 .BitOr e2 q) X.env) :: starEach [] X.env := by rfl) :
    BE X (.Call (.Name "sorted" p) [.BinOp e1 .BitOr e2 q] [] pos) (mPts c1 c2) := by
  refine fun W tk => (pe_callB (cr_sortG hc hu) hg hm boot_sorted (pa_cons (pe_op (op_orG hu) (h1 W tk) (h2 W tk)) pa_nil nb) (by decide) (by decide) nb).imp fun σ H Q ⟨G, io, F, β, I, h⟩ => ?_
  refine ⟨G, io, F, β, I, h.bnd fun k1 β1 x H1 F1 fe1 I1 r1 h1 => ?_⟩
  obtain ⟨a, o, rfl, fa, ga, nia, ha, ⟨L1, rfl, t1, s1, m1, l1, z1⟩, ns⟩ := r1
  refine ⟨G.upd a (SetG X.prog X.w a L1), io, F1, β1, I1.pin ha ga ns, ?_⟩
  have h1 := Post.mono h1 fe1
  unfold bnd R.bnd at h1
  cases e : c2 β1 with
  | stuck => rw [e] at h1; exact h1.elim
  | exc y β2 => rw [e] at h1; exact fun cls d H' F' fe I' xr => h1 cls d H' F' (fe.unguard ga) (I'.unguard ga) xr
  | ok k2 β2 =>
    rw [e] at h1
    simp only at h1
    intro y H2 F2 fe2 I2 ⟨b, ob, ey, fb, gb, nib, hb, ⟨L2, eo, t2, s2, m2, l2, z2⟩, ns2⟩
    subst ey
    subst eo
    split at h1
    case isFalse => exact h1.elim
    rename_i hne
    have ne : ∀ k, k ∈ k1 ∨ k ∈ k2 → k ≠ [] := fun k hk q => by
      have := List.all_eq_true.mp hne k (List.mem_append.mpr hk)
      rw [q] at this
      cases this
    have ba : b ≠ a := fun z => by
      rw [z] at gb
      exact GT.upd_self ga gb
    have ha2 : H2 a = some (SetG X.prog X.w a L1) := I2.sg.g _ _ (by unfold GT.upd; simp only [upd_same])
    have tF2 : ∀ p, p ∈ L1 ∨ p ∈ L2 → TupAt F2 p := fun p hp => hp.elim (fun z => fe2.same _ _ (t1 p z)) (t2 p)
    have mem : ∀ p, p ∈ L1 ∨ p ∈ L2 → p.2 ∈ k1 ∨ p.2 ∈ k2 := fun p hp => hp.imp (s1 p) (s2 p)
    refine ⟨a, b, L1, L2, rfl, rfl, ba, ha2, hb, fun p hp => I2.sf _ _ (tF2 p hp), (by omega), fun r L' hr bo nd => ?_⟩
    have sh : Same H2 (upd H2 r (SetG X.prog X.w r L')) := fun b u e => by rw [upd_ne (ne_of_none e hr)]; exact e
    have few : L'.length < 4000 := by
      have := nodup_len (L2 := L1 ++ L2) nd fun p hp => List.mem_append.mpr (bo.sub p hp)
      rw [List.length_append] at this
      omega
    have pl : ∀ p ∈ L', TupAt F2 p := fun p hp => tF2 p (bo.sub p hp)
    refine ⟨r, L', rfl, upd_same, fun p hp => sh _ _ (I2.sf _ _ (pl p hp)), fun p hp => ne _ (mem p (bo.sub p hp)), few, fun L'' z pm hz => ?_⟩
    have I3 : BI X.K X.mg G F2 io β2 σ H2 := I2.unguard ga
    obtain ⟨_, I4⟩ := I3.grow sh (Same.refl F2) (fun _ _ h => .inl h) (I3.sf.trans sh)
    have eK : (sortK L'').map (·.2) = tset (k1 ++ k2) := by
      refine rising_eq (sortK_rise ((pm.map (·.2)).nodup_iff.mpr nd)) (tset_sorted _) fun k => ?_
      rw [mem_tset, List.mem_append, ((sortK_perm L'').map (·.2)).mem_iff, (pm.map (·.2)).mem_iff]
      constructor
      · intro hk
        obtain ⟨p, hp, rfl⟩ := List.mem_map.mp hk
        exact mem p (bo.sub p hp)
      · intro hk
        rcases hk with hk | hk
        · obtain ⟨p, hp, rfl⟩ := List.mem_map.mp (m1 k hk)
          exact bo.all p (.inl hp)
        · obtain ⟨p, hp, rfl⟩ := List.mem_map.mp (m2 k hk)
          exact bo.all p (.inr hp)
    have dr : DRs X.K X.mg F2 ((sortK L'').map fun q => V.ref q.1) ((tset (k1 ++ k2)).map tupD) := by
      rw [← eK, List.map_map]
      have key : ∀ l : List (Addr × List Int), (∀ p ∈ l, TupAt F2 p) → DRs X.K X.mg F2 (l.map fun q => V.ref q.1) (l.map (tupD ∘ fun x => x.2)) := by
        intro l
        induction l with
        | nil => intro _; exact .nil
        | cons p l ih => intro h; exact .cons (.tup (h p List.mem_cons_self) (.ints p.2)) (ih fun q hq => h q (List.mem_cons_of_mem _ hq))
      exact key _ fun p hp => pl p (pm.mem_iff.mp ((sortK_perm L'').mem_iff.mp hp))
    obtain ⟨F5, fe5, I5, rr⟩ := I4.step (NR.lst (F := F2) hz dr)
    exact h1 _ _ F5 ((fe2.unguard ga).trans fe5) I5 rr
end
end B

set_option Elab.async false
set_option linter.all false
set_option maxRecDepth 100000
set_option maxHeartbeats 4000000
namespace B
open PySem PySem.Spec L2 PyProof.Rows
/-! # dicts whose keys are tuples of ints -/
abbrev Ent := List Int × Addr × V
abbrev KeyAt (H : Hp) (x : Ent) : Prop := H x.2.1 = some (.tup (x.1.map V.int))
abbrev EntR (p : Ent) (q : List Int × Addr × Value) : Prop := p.1 = q.1 ∧ p.2.1 = q.2.1 ∧ RelV p.2.2 q.2.2
/-- the value at a key; a value put at a key (the first key stays) -/
def getE (xs : List Ent) (k : List Int) : Option V := (xs.find? fun x => decide (x.1 = k)).map (·.2.2)
def putE (xs : List Ent) (k : List Int) (T : Addr) (v : V) : List Ent := if k ∈ xs.map (·.1) then xs.map (fun x => if x.1 = k then (x.1, x.2.1, v) else x) else xs ++ [(k, T, v)]
theorem ent_get {xs : List Ent} {ys : List (List Int × Addr × Value)} (h : Paired EntR xs ys) (k : List Int) : match atKey ys k with
    | some p => ∃ v, getE xs k = some v ∧ RelV v p.2
    | none => k ∉ xs.map (·.1) := by
  induction h with
  | nil => simp [atKey]
  | @cons x y xs ys r t ih =>
    unfold atKey at ih ⊢
    rw [List.find?_cons]
    by_cases e : y.1 = k
    · simp only [e, decide_true, Option.map_some]
      refine ⟨x.2.2, ?_, r.2.2⟩
      unfold getE
      rw [List.find?_cons, r.1, e]
      simp
    · simp only [e, decide_false]
      have ex : x.1 ≠ k := by rw [r.1]; exact e
      generalize (ys.find? fun x => decide (x.1 = k)).map (·.2) = z at ih ⊢
      cases z with
      | none => simp only [List.map_cons, List.mem_cons, not_or] at ih ⊢; exact ⟨fun z => ex z.symm, ih⟩
      | some p =>
        obtain ⟨v, e1, e2⟩ := ih
        refine ⟨v, ?_, e2⟩
        unfold getE at e1 ⊢
        rw [List.find?_cons]
        simp only [ex, decide_false]
        exact e1
theorem ent_keys {xs : List Ent} {ys : List (List Int × Addr × Value)} (h : Paired EntR xs ys) : xs.map (·.1) = ys.map (·.1) := by
  induction h with
  | nil => rfl
  | cons r _ ih => rw [List.map_cons, List.map_cons, r.1, ih]
theorem ent_back {xs : List Ent} {ys : List (List Int × Addr × Value)} (h : Paired EntR xs ys) : ∀ y ∈ ys, ∃ x ∈ xs, x.1 = y.1 ∧ x.2.1 = y.2.1 := by
  induction h with
  | nil => exact fun y hy => nomatch hy
  | @cons x y' xs ys q t ih =>
    intro y hy
    rcases List.mem_cons.mp hy with rfl | hy
    · exact ⟨x, List.mem_cons_self, q.1, q.2.1⟩
    · obtain ⟨x', h1, h2⟩ := ih y hy
      exact ⟨x', List.mem_cons_of_mem _ h1, h2⟩
theorem at_some {ys : List (List Int × Addr × Value)} {k : List Int} : (atKey ys k).isSome = decide (k ∈ ys.map (·.1)) := by
  unfold atKey
  rw [Option.isSome_map]
  by_cases h : k ∈ ys.map (·.1)
  · obtain ⟨y, hy, e⟩ := List.mem_map.mp h
    rw [decide_eq_true h, List.find?_isSome]
    exact ⟨y, hy, by simp [e]⟩
  · rw [decide_eq_false h, ← Bool.not_eq_true, List.find?_isSome]
    rintro ⟨y, hy, e⟩
    exact h (List.mem_map.mpr ⟨y, hy, by simpa using e⟩)
theorem ent_put {xs : List Ent} {ys : List (List Int × Addr × Value)} (h : Paired EntR xs ys) (k : List Int) (T : Addr) {v : V} {u : Value} (r : RelV v u) : Paired EntR (putE xs k T v) (storedH ys k T u) := by
  unfold putE storedH
  rw [at_some, ent_keys h]
  by_cases c : k ∈ ys.map (·.1)
  · rw [if_pos c, decide_eq_true c, if_pos rfl]
    clear c
    induction h with
    | nil => exact .nil
    | @cons x y xs ys q t ih =>
      refine .cons ?_ ih
      show EntR (if x.1 = k then (x.1, x.2.1, v) else x) (if y.1 = k then (y.1, y.2.1, u) else y)
      by_cases e : y.1 = k
      · rw [if_pos e, if_pos (q.1.trans e)]
        exact ⟨q.1, q.2.1, r⟩
      · rw [if_neg e, if_neg (show ¬ x.1 = k by rw [q.1]; exact e)]
        exact q
  · rw [if_neg c, decide_eq_false c, if_neg Bool.false_ne_true]
    exact h.snoc ⟨rfl, rfl, r⟩
section
variable {X : Cx} {pins : List (Addr × Obj)} {σ : L2.St} {H : Hp} {s : Shared} {a : Addr} {xs : List Ent} {ep : Nat}
/-- the object itself -/
theorem dic_full (I : Inv X pins σ H s) (ha : H a = some (DicG a xs ep)) (hk : ∀ x ∈ xs, KeyAt H x) : xs.length ≤ sizeLine ∧ (a == sysModules) = false ∧ ∃ ys, Paired EntR xs ys ∧ s.heap.DictOfH (TK X.prog X.w) a ys ∧
    ∃ o es, s.heap.get? a = some o ∧ o.ExactDict ∧ o.data = .dict es ep ∧ es.toList = ys.map (entryOfKey (TK X.prog X.w)) := by
  obtain ⟨⟨z, hs, ys, pr, o, es, ho, hx, hd, he, nd⟩, _⟩ := I.hok a _ ha
  refine ⟨z, hs, ys, pr, ⟨o, es, ep, ho, hx, hd, he, fun y hy => ?_, nd⟩, o, es, ho, hx, hd, he⟩
  have := ent_back pr y hy
  obtain ⟨x, hx', e1, e2⟩ := this
  have := isT_of (p := (x.2.1, x.1)) I (hk x hx')
  rw [← e1, ← e2]
  exact this
/-- the object after a change of it -/
theorem dic_new {H' : Hp} {h' : Heap} {ys : List (List Int × Addr × Value)} (z : xs.length ≤ sizeLine) (hs : (a == sysModules) = false) (pr : Paired EntR xs ys) (m : h'.DictOfH (TK X.prog X.w) a ys) : ∃ ep, ObjOk X.prog X.w H' h' a (DicG a xs ep) ∧ ∃ o, h'.get? a = some o := by
  obtain ⟨o, es, ep, ho, hx, hd, he, _, nd⟩ := m
  refine ⟨ep, ⟨⟨z, hs, ys, pr, o, es, ho, hx, hd, he, nd⟩, ⟨o, ho⟩, fun h1 h2 p k => ?_⟩, o, ho⟩
  obtain ⟨z, hs, ys, pr, o, es, ho, r⟩ := p
  exact ⟨z, hs, ys, pr, o, es, k o ho, r⟩
theorem dic_empty (P : Program) (w : World) (h : Heap) (H : Hp) (hb : sysModules < h.objs.size) : ObjOk P w H (h.push { cls := .type "dict", data := .dict #[] }) h.objs.size (DicG h.objs.size [] 0) := by
  have ho : (h.push { cls := .type "dict", data := .dict #[] }).get? h.objs.size = some { cls := .type "dict", data := .dict #[] } := Heap.get?_push_size _ rfl
  refine ⟨⟨Nat.zero_le _, ?_, [], .nil, _, #[], ho, ⟨rfl, rfl, rfl⟩, rfl, rfl, List.nodup_nil⟩, ⟨_, ho⟩, fun h1 h2 p k => ?_⟩
  · exact beq_eq_false_iff_ne.mpr (Nat.ne_of_gt hb)
  · obtain ⟨z, hs, ys, pr, o, es, ho, r⟩ := p
    exact ⟨z, hs, ys, pr, o, es, k o ho, r⟩
theorem put_len (k : List Int) (T : Addr) (v : V) : (putE xs k T v).length ≤ xs.length + 1 := by
  unfold putE
  split
  · rw [List.length_map]; omega
  · simp
/-- k in d -/
def rInG : R2 := fun x y H Q => ∃ T k a xs ep, x = .ref T ∧ y = .ref a ∧ TupAt H (T, k) ∧ H a = some (DicG a xs ep) ∧ (∀ x ∈ xs, KeyAt H x) ∧ Q (.bl (decide (k ∈ xs.map (·.1)))) H
theorem op_inG (hu : X.A.units + 64 < cLine) : OpR X (compareOp .In) rInG := by
  intro pins s σ H x y v u Q I rx ry ⟨T, k, a, xs, ep, ex, ey, hT, ha, hk, q⟩
  subst ex
  subst ey
  obtain rfl : v = Value.ref T := rx
  obtain rfl : u = Value.ref a := ry
  obtain ⟨z, hs, ys, pr, m, _⟩ := dic_full I ha hk
  refine wpAny_in_heap (knd := TK X.prog X.w) (k := k) (by show X.A.units + 1 < cLine; omega) (isT_of I hT) hs m ?_
  rw [at_some, ← ent_keys pr]
  exact ⟨.bl _, H, I.tok _, rfl, q⟩
theorem not_in_dict {P : Program} {w : World} {A : Around} {E : Value → Shared → Prop} {s : Shared} {d T : Addr} {k : List Int} {ys : List (List Int × Addr × Value)} {Q : Value → Shared → Prop} (hu : A.units + 1 < cLine) (hk : IsT P w s.heap k T) (hd : (d == sysModules) = false) (m : s.heap.DictOfH (TK P w) d ys)
    (h : Q (.bool (!(atKey ys k).isSome)) { s with toks := s.toks + (TK P w).draws k }) : wpAny (model P w) A (compareOp .NotIn (.ref T) (.ref d)) Q E s := by
  show wpAny _ _ (do return .bool (!(← contains (.ref d) (.ref T)))) Q E s
  refine wpAny_bind ?_
  unfold contains
  try with_reducible refine wpAny_holding ?_
  have lk := F.slot_dict_contains.lookup
  refine wpAny_bind (wpAny_specialOf m.typeIs lk ?_)
  show wpAny _ _ (if (some (Value.builtin "dict.__contains__") == some Value.none) = true then _ else _) _ E s
  have nb : ¬ ((some (Value.builtin "dict.__contains__") == some Value.none) = true) := by rw [beq_builtin_none]; exact Bool.false_ne_true
  rw [if_neg nb]
  have body : wpAny (model P w) A.in1 (Builtin.«dict.__contains__» ⟨[.ref d, .ref T], []⟩) (fun fin s' => ∃ v, fin = .done (.ret v) ∧ wpAny (model P w) A (truthy v) (fun b s2 => Q (.bool (!b)) s2) E s') E s := by
    show wpAny _ _ (dictGet d (.ref T) >>= _) _ _ s
    refine wpAny_bind (wpAny_dictGet_heap (knd := TK P w) (k := k) hu hk m ?_)
    cases hf : atKey ys k with
    | some p =>
      rw [hf] at h
      show wpAny _ _ (PySem.ret (.bool true)) _ _ _
      exact wpAny_pure ⟨_, rfl, wpAny_truthy_bool h⟩
    | none =>
      rw [hf] at h
      show wpAny _ _ (Builtin.Dict.pendingKey? d (.ref T) >>= _) _ _ _
      exact wpAny_bind (wpAny_pendingKey_other hd (wpAny_pure ⟨_, rfl, wpAny_truthy_bool h⟩))
  refine wpAny_bind (wpAny_callSpecialUnlessNone?_slot (name := Str.ofString "__contains__") m.typeIs F.slot_dict_contains (wpAny_call_entry F.slot_dict_contains m.typeIs F.entry_dict_contains ?_ (PySem.args_dict_contains _ _)))
  exact wpAny_mono body (fun fin s' ⟨v, e, z⟩ => ⟨v, e, wpAny_mono z (fun b s2 q => wpAny_pure q) fun _ _ x => x⟩) fun _ _ x => x
def rNotInG : R2 := fun x y H Q => ∃ T k a xs ep, x = .ref T ∧ y = .ref a ∧ TupAt H (T, k) ∧ H a = some (DicG a xs ep) ∧ (∀ x ∈ xs, KeyAt H x) ∧ Q (.bl (!decide (k ∈ xs.map (·.1)))) H
theorem op_notInG (hu : X.A.units + 64 < cLine) : OpR X (compareOp .NotIn) rNotInG := by
  intro pins s σ H x y v u Q I rx ry ⟨T, k, a, xs, ep, ex, ey, hT, ha, hk, q⟩
  subst ex
  subst ey
  obtain rfl : v = Value.ref T := rx
  obtain rfl : u = Value.ref a := ry
  obtain ⟨z, hs, ys, pr, m, _⟩ := dic_full I ha hk
  refine not_in_dict (k := k) (by omega) (isT_of I hT) hs m ?_
  rw [at_some, ← ent_keys pr]
  exact ⟨.bl _, H, I.tok _, rfl, q⟩
/-- d[k] -/
def rIxG : R2 := fun x y H Q => ∃ T k a xs ep v, x = .ref a ∧ y = .ref T ∧ TupAt H (T, k) ∧ H a = some (DicG a xs ep) ∧ (∀ x ∈ xs, KeyAt H x) ∧ getE xs k = some v ∧ Q v H
theorem ix_G (hu : X.A.units + 64 < cLine) : IxR X rIxG := by
  intro value slice pins s σ H x y v u Q I rx ry ⟨T, k, a, xs, ep, w, ex, ey, hT, ha, hk, e, q⟩ hs
  subst ex
  subst ey
  obtain rfl : v = Value.ref a := rx
  obtain rfl : u = Value.ref T := ry
  obtain ⟨z, hs', ys, pr, m, _⟩ := dic_full I ha hk
  have g := ent_get pr k
  cases ea : atKey ys k with
  | none =>
    rw [ea] at g
    exfalso
    unfold getE at e
    obtain ⟨x, hx, _⟩ := Option.map_eq_some_iff.mp e
    have h1 := List.find?_some hx
    have h2 := List.mem_of_find?_eq_some hx
    exact g (List.mem_map.mpr ⟨x, h2, by simpa using h1⟩)
  | some p =>
    rw [ea] at g
    obtain ⟨w', e1, e2⟩ := g
    rw [e] at e1
    cases e1
    have lk := F.slot_dict_getitem.lookup
    exact subscriptTail_builtinR (x := p.2) m.typeIs lk (wpAny_getItem_heap (knd := TK X.prog X.w) (k := k) (Q := fun r s' => r = p.2 ∧ EP X pins σ Q r s') (by show X.A.units + 1 < cLine; omega) (isT_of I hT) m ea ⟨rfl, w, H, I.tok _, e2, q⟩) hs
/-- d[k] = v -/
def rSetG : V → V → V → Hp → (Hp → Prop) → Prop := fun o i v H Q => ∃ T k a xs ep, o = .ref a ∧ i = .ref T ∧ TupAt H (T, k) ∧ H a = some (DicG a xs ep) ∧ (∀ x ∈ xs, KeyAt H x) ∧ xs.length < sizeLine ∧ ∀ ep', Q (upd H a (DicG a (putE xs k T v) ep'))
theorem set_G (hu : X.A.units + 64 < cLine) : PSet X rSetG := by
  intro pins s σ H o i v ov iv u Q I ro ri rv ⟨T, k, a, xs, ep, eo, ei, hT, ha, hk, hl, q⟩
  subst eo
  subst ei
  obtain rfl : ov = Value.ref a := ro
  obtain rfl : iv = Value.ref T := ri
  obtain ⟨z, hs, ys, pr, m, _⟩ := dic_full I ha hk
  have lz : ys.length ≤ sizeLine := by rw [← Paired.length pr]; exact z
  refine wpAny_setItem_heap (knd := TK X.prog X.w) (k := k) (by show X.A.units + 1 < cLine; omega) (isT_of I hT) m (fun h' m' sb => ?_) lz
  obtain ⟨ep', ok, he⟩ := dic_new (X := X) (H' := upd H a (DicG a (putE xs k T v) 0)) (xs := putE xs k T v) (by have := put_len (xs := xs) k T v; omega) hs (ent_put pr k T rv) m'
  exact ⟨_, I.write (x := a) (e := a) (o := DicG a (putE xs k T v) ep') (t' := s.toks + (TK X.prog X.w).draws k) (by rw [ha]; trivial) (.inl rfl) (fun b u hb e => (sb.2 b hb).trans e) he ok, q ep'⟩
/-- the keys, in their order -/
def ItG (d : Addr) (xs : List Ent) (ep : Nat) : It :=
  ⟨fun i H => H d = some (DicG d xs ep) ∧ (∀ x ∈ xs, KeyAt H x) ∧ i < xs.length, fun i H x H' => H' = H ∧ ∃ e, xs[i]? = some e ∧ x = .ref e.2.1, fun i H => H d = some (DicG d xs ep) ∧ (∀ x ∈ xs, KeyAt H x) ∧ xs.length ≤ i⟩
theorem turn_G {P : Program} {w : World} {K : PySem.W.Frag} {tg : Expr} {d : Addr} (it : Addr) : Turn P w K tg (ItG d xs ep) [it] it (fun i h => h.IsKeyIter it d i xs.length ep) where
  mem := List.mem_singleton_self _
  obj := fun i h st b hb => by
    rw [List.mem_singleton.mp hb]
    obtain ⟨oi, e, c, dd⟩ := st
    exact ⟨oi, e, fun v z => by rw [dd] at z; cases z⟩
  keep := fun i h h' st k => st.at fun oi e => k it (List.mem_singleton_self _) oi e
  item := by
    intro X hP hw hK hc i pins s σ H E I hf st ⟨hd, hk, hi⟩
    subst hP
    subst hw
    subst hK
    obtain ⟨f0, f1, f2, f3, f4, f5⟩ := hf it (List.mem_singleton_self _)
    obtain ⟨z, hs, ys, pr, m, o, es, ho, hx, hdat, he⟩ := dic_full I hd hk
    have hl := Paired.length pr
    obtain ⟨e, ee⟩ : ∃ e, xs[i]? = some e := ⟨_, List.getElem?_eq_getElem hi⟩
    obtain ⟨y, ey, r1, r2, r3⟩ := paired_get pr ee
    have en := entry_at he i
    rw [ey] at en
    have sz := size_of_entries he
    refine next_key_item st ho hdat (by omega) en fun h' st' sb => ?_
    have I1 : Inv X pins σ H { s with heap := h' } := I.turned (t' := s.toks) (fun b ob hb q => (sb.2 b hb).trans q) f0 f1 f3 f4 f5
    obtain ⟨oi, q1, q2, q3⟩ := id st'
    refine ⟨_, rfl, go_of (s := { s with heap := h' }) q1 q2 q3 (by decide) ⟨.ref e.2.1, H, I1, ?_, ⟨rfl, e, ee, rfl⟩, st', fun b hb => (hf b hb).1⟩⟩
    show Value.ref y.2.1 = Value.ref e.2.1
    rw [r2]
  done := by
    intro X hP hw hK hc i pins s σ H E I hf st ⟨hd, hk, hi⟩
    subst hP
    subst hw
    subst hK
    obtain ⟨f0, f1, f2, f3, f4, f5⟩ := hf it (List.mem_singleton_self _)
    obtain ⟨z, hs, ys, pr, m, o, es, ho, hx, hdat, he⟩ := dic_full I hd hk
    have hl := Paired.length pr
    have sz := size_of_entries he
    exact next_key_end (I.ok.hd hc) st ho hdat (by omega) hi fun h' eb => ⟨rfl, I.turned (t' := s.toks) (fun b ob hb q => eb b ob hb q) f0 f1 f3 f4 f5⟩
  self := fun A i s Q E st h => by
    refine wpAny_pyIter_slot st.typeIs F.slot_dict_keyiterator_iter (wpAny_call_entry F.slot_dict_keyiterator_iter st.typeIs F.entry_dict_keyiterator_iter ?_ (F.args_dict_keyiterator_iter_1 _))
    show wpAny _ _ (PySem.ret (.ref it)) _ _ s
    exact wpAny_pure ⟨_, rfl, "dict_keyiterator", _, st.typeIs, F.slot_dict_keyiterator_next.lookup, h⟩
def iKeysG (td : TE) : TI := fun σ H R => td σ H fun x H1 => ∃ d xs ep, x = .ref d ∧ H1 d = some (DicG d xs ep) ∧ (∀ x ∈ xs, KeyAt H1 x) ∧ R (ItG d xs ep) H1
theorem pi_keysG {tg e : Expr} {td : TE} (he : PE X e td) : PI X tg e (iKeysG td) := by
  refine ⟨fun pins s σ H R I h => ?_⟩
  refine thn (he.run pins s σ H _ I h) fun u s1 ⟨x, H1, I1, rx, d, xs, ep, ex, hd, hk, q⟩ => ?_
  subst ex
  obtain rfl : u = Value.ref d := rx
  obtain ⟨z, hs, ys, pr, m, o, es, ho, hx, hdat, ent⟩ := dic_full I1 hd hk
  have hl := Paired.length pr
  have sz := size_of_entries ent
  refine iter_keys hs ho hx hdat (pi_one (tk := s1.toks) I1 _ (turn_G _) ⟨_, Heap.get?_push_size _ rfl, rfl, ?_⟩ q)
  rw [sz, ← hl]
  rfl
end
end B

set_option Elab.async false
set_option linter.all false
set_option maxRecDepth 100000
set_option maxHeartbeats 4000000
namespace B
open PySem PySem.Spec L2 PyProof.Rows
/-! # dicts by data -/
abbrev Dct := List (List Int × D)
def entD (p : List Int × D) : D := .nd .tup [tupD p.1, p.2]
def dcgD (l : Dct) : D := .nd .dcg (l.map entD)
def getL (l : Dct) (k : List Int) : Option D := (l.find? fun x => decide (x.1 = k)).map (·.2)
def putL (l : Dct) (k : List Int) (d : D) : Dct := if k ∈ l.map (·.1) then l.map (fun x => if x.1 = k then (x.1, d) else x) else l ++ [(k, d)]
def entOf : D → Option (List Int × D)
  | .nd .tup [kd, d] => (tupI? kd).map fun k => (k, d)
  | _ => none
/-- the entries of a dict's data -/
def entsOf : List D → Option Dct
  | [] => some []
  | e :: es => match entOf e, entsOf es with
    | some p, some l => some (p :: l)
    | _, _ => none
theorem tupI_tupD (k : List Int) : tupI? (tupD k) = some k := ints_map k
theorem entOf_entD (p : List Int × D) : entOf (entD p) = some p := by
  show (tupI? (tupD p.1)).map _ = _
  rw [tupI_tupD]
  rfl
theorem entsOf_map : ∀ l : Dct, entsOf (l.map entD) = some l
  | [] => rfl
  | p :: l => by
    show (match entOf (entD p), entsOf (l.map entD) with
      | some p, some l => some (p :: l)
      | _, _ => none) = _
    rw [entOf_entD, entsOf_map l]
section
variable {K : PySem.W.Frag} {mg : Str → Option Value} {F H : Hp}
theorem gds_ents : ∀ {ks : List (List Int)} {ds es : List D} {l : Dct}, GDs ks ds es → entsOf es = some l → ks = l.map (·.1) ∧ ds = l.map (·.2)
  | _, _, _, l, .nil, e => by
    cases e
    exact ⟨rfl, rfl⟩
  | _, _, _, l, .cons (k := k) (ks := ks) (d := d) (ds := ds) (es := es) g, e => by
    unfold entsOf at e
    have e1 : entOf (.nd .tup [.nd .tup (k.map D.int), d]) = some (k, d) := entOf_entD (k, d)
    rw [e1] at e
    cases e2 : entsOf es with
    | none => rw [e2] at e; cases e
    | some l' =>
      rw [e2] at e
      cases e
      obtain ⟨h1, h2⟩ := gds_ents g e2
      rw [h1, h2]
      exact ⟨rfl, rfl⟩
theorem gds_map : ∀ l : Dct, GDs (l.map (·.1)) (l.map (·.2)) (l.map entD)
  | [] => .nil
  | p :: l => .cons (gds_map l)
/-- entries by data -/
def EntD (K : PySem.W.Frag) (mg : Str → Option Value) (F : Hp) (xs : List Ent) (l : Dct) : Prop := Paired (fun (x : Ent) (p : List Int × D) => x.1 = p.1 ∧ F x.2.1 = some (.tup (x.1.map V.int)) ∧ DR K mg F x.2.2 p.2) xs l
theorem entD_of : ∀ {xs : List Ent} {l : Dct}, (∀ x ∈ xs, F x.2.1 = some (.tup (x.1.map V.int))) → DRs K mg F (xs.map (·.2.2)) (l.map (·.2)) → xs.map (·.1) = l.map (·.1) → EntD K mg F xs l
  | [], [], _, _, _ => .nil
  | [], _ :: _, _, h, _ => by cases h
  | _ :: _, [], _, h, _ => by cases h
  | x :: xs, p :: l, hk, h, e => by
    rw [List.map_cons, List.map_cons] at h e
    cases h with
    | cons h1 h2 =>
      obtain ⟨e1, e2⟩ := List.cons.inj e
      exact .cons ⟨e1, hk x List.mem_cons_self, h1⟩ (entD_of (fun y hy => hk y (List.mem_cons_of_mem _ hy)) h2 e2)
theorem EntD.parts {xs : List Ent} {l : Dct} (h : EntD K mg F xs l) : (∀ x ∈ xs, F x.2.1 = some (.tup (x.1.map V.int))) ∧ DRs K mg F (xs.map (·.2.2)) (l.map (·.2)) ∧ xs.map (·.1) = l.map (·.1) := by
  induction h with
  | nil => exact ⟨fun x hx => (nomatch hx), .nil, rfl⟩
  | @cons x p xs l r _ ih =>
    refine ⟨fun y hy => ?_, .cons r.2.2 ih.2.1, by rw [List.map_cons, List.map_cons, r.1, ih.2.2]⟩
    rcases List.mem_cons.mp hy with rfl | hy
    · exact r.2.1
    · exact ih.1 y hy
theorem EntD.mono {F' : Hp} {xs : List Ent} {l : Dct} (h : EntD K mg F xs l) (e : Same F F') : EntD K mg F' xs l := Paired.mapP h fun x p ⟨h1, h2, h3⟩ => ⟨h1, e _ _ h2, h3.mono e⟩
theorem EntD.get {xs : List Ent} {l : Dct} (h : EntD K mg F xs l) {k : List Int} {d : D} (e : getL l k = some d) : ∃ v, getE xs k = some v ∧ DR K mg F v d := by
  unfold getL at e
  unfold getE
  induction h with
  | nil => cases e
  | @cons x p xs l r _ ih =>
    rw [List.find?_cons] at e ⊢
    rw [r.1]
    by_cases c : p.1 = k
    · simp only [c, decide_true, Option.map_some] at e ⊢
      cases e
      exact ⟨_, rfl, r.2.2⟩
    · simp only [c, decide_false] at e ⊢
      exact ih e
theorem EntD.put {xs : List Ent} {l : Dct} (h : EntD K mg F xs l) {k : List Int} {T : Addr} {v : V} {d : D} (hT : F T = some (.tup (k.map V.int))) (r : DR K mg F v d) : EntD K mg F (putE xs k T v) (putL l k d) := by
  unfold putE putL
  rw [h.parts.2.2]
  by_cases c : k ∈ l.map (·.1)
  · rw [if_pos c, if_pos c]
    clear c
    unfold EntD at h ⊢
    induction h with
    | nil => exact .nil
    | @cons x p xs l q t ih =>
      refine .cons ?_ ih
      show (if x.1 = k then (x.1, x.2.1, v) else x).1 = (if p.1 = k then (p.1, d) else p).1 ∧ F (if x.1 = k then (x.1, x.2.1, v) else x).2.1 = some (.tup ((if x.1 = k then (x.1, x.2.1, v) else x).1.map V.int)) ∧ DR K mg F (if x.1 = k then (x.1, x.2.1, v) else x).2.2 (if p.1 = k then (p.1, d) else p).2
      by_cases e : p.1 = k
      · rw [if_pos e, if_pos (q.1.trans e)]
        exact ⟨q.1, q.2.1, r⟩
      · rw [if_neg e, if_neg (show ¬ x.1 = k by rw [q.1]; exact e)]
        exact q
  · rw [if_neg c, if_neg c]
    exact Paired.snoc h ⟨rfl, hT, r⟩
theorem EntD.len {xs : List Ent} {l : Dct} (h : EntD K mg F xs l) : xs.length = l.length := Paired.length h
/-- a dict read now -/
theorem hr_dg {v : V} {es : List D} {l : Dct} (h : HR K mg F H v (.nd .dcg es)) (e : entsOf es = some l) : ∃ a xs ep, v = .ref a ∧ H a = some (DicG a xs ep) ∧ EntD K mg F xs l := by
  cases h with
  | dg h k r g =>
    obtain ⟨h1, h2⟩ := gds_ents g e
    subst h2
    exact ⟨_, _, _, rfl, h, entD_of k r h1⟩
theorem own_dg {a : Addr} {xs : List Ent} {ep : Nat} {l : Dct} (h : H a = some (DicG a xs ep)) (e : EntD K mg F xs l) : OwnR K mg F H a (dcgD l) := by
  obtain ⟨p1, p2, p3⟩ := e.parts
  exact .dg h p1 p2 (by rw [p3]; exact gds_map l)
end
section
variable {X : Cx}
/-! ## d[k], k in d -/
def gIxG : D → D → Option Rs
  | .nd .dcg es, k => (entsOf es).bind fun l => (tupI? k).bind fun k => (getL l k).map .fz
  | _, _ => none
def gIxA (d e : D) : Option Rs := (gIx d e).orElse fun _ => gIxG d e
theorem be_ixA {a b : Expr} {pos : Pos} {ma mb : M Pl} (hu : X.A.units + 64 < cLine) (ha : BP X a ma) (hb : BP X b mb) (hs : PlainIx b := by exact fun _ _ => rfl) : BE X (.Subscript a b pos) (mOp gIxA ma mb) := by
  have key : IxR X (rD X.K X.mg gIxG) := fun value slice pins s σ H x y v u Q I rx ry h hs => by
    refine ix_G hu value slice pins s σ H x y v u Q I rx ry ?_ hs
    obtain ⟨F, d, e, rs, sf, hx, hy, hg, q⟩ := h
    unfold gIxG at hg
    split at hg
    · rename_i es k
      obtain ⟨l, e1, hg⟩ := Option.bind_eq_some_iff.mp hg
      obtain ⟨k', e2, hg⟩ := Option.bind_eq_some_iff.mp hg
      obtain ⟨d, e3, e4⟩ := Option.map_eq_some_iff.mp hg
      subst e4
      obtain ⟨a, xs, ep, ex, h1, h2⟩ := hr_dg hx e1
      subst ex
      have dk : ∃ T, y = .ref T ∧ TupAt F (T, k') := by
        unfold tupI? at e2
        split at e2
        · have := ints_of e2
          subst this
          cases hy with
          | tup h r => exact ⟨_, rfl, by rw [r.int_of] at h; exact h⟩
        · cases e2
      obtain ⟨T, ey, hT⟩ := dk
      subst ey
      obtain ⟨w, ew, rw'⟩ := h2.get e3
      exact ⟨T, k', a, xs, ep, w, rfl, rfl, sf _ _ hT, h1, fun x hx => sf _ _ (h2.parts.1 x hx), ew, q _ _ (NR.val sf rw')⟩
    · cases hg
  have both : IxR X (rD X.K X.mg gIxA) := fun value slice pins s σ H x y v u Q I rx ry h hs => by
    refine IxR.or ixD_seq key value slice pins s σ H x y v u Q I rx ry ?_ hs
    obtain ⟨F, d, e, rs, sf, hx, hy, hg, q⟩ := h
    unfold gIxA at hg
    cases e1 : gIx d e with
    | some r =>
      rw [e1] at hg
      cases hg
      exact .inl ⟨F, d, e, _, sf, hx, hy, e1, q⟩
    | none =>
      rw [e1] at hg
      exact .inr ⟨F, d, e, _, sf, hx, hy, hg, q⟩
  refine fun W tk => (pe_ix both (ha W tk) (hb W tk) hs).imp fun σ H Q h => ?_
  obtain ⟨G, io, F, β, I, h⟩ := h
  refine ⟨G, io, F, β, I, h.bnd fun p β1 v H1 F1 fe1 I1 r1 h1 => ⟨G, io, F1, β1, I1, (h1.mono fe1).bnd fun q β2 w H2 F2 fe2 I2 r2 h2 => ?_⟩⟩
  exact fin2_post I2 (r1.mono fe2.same) r2 (h2.mono fe2)
theorem hr_tupI {F H : Hp} {y : V} {d : D} {k : List Int} (h : HR X.K X.mg F H y d) (e : tupI? d = some k) : ∃ T, y = .ref T ∧ TupAt F (T, k) := by
  unfold tupI? at e
  split at e
  · have := ints_of e
    subst this
    cases h with
    | tup h r => exact ⟨_, rfl, by rw [r.int_of] at h; exact h⟩
  · cases e
def inDG (d e : D) : Option Bool := match e with
  | .nd .dcg es => (entsOf es).bind fun l => (tupI? d).map fun k => decide (k ∈ l.map (·.1))
  | _ => none
def gInG (d e : D) : Option Rs := (inDG d e).map fun b => .fz (.bl b)
def gNotInG (d e : D) : Option Rs := (inDG d e).map fun b => .fz (.bl (!b))
theorem inDG_of {F H : Hp} {x y : V} {d e : D} {b : Bool} (sf : Same F H) (hx : HR X.K X.mg F H x d) (hy : HR X.K X.mg F H y e) (h : inDG d e = some b) : ∃ T k a xs ep, x = .ref T ∧ y = .ref a ∧ TupAt H (T, k) ∧ H a = some (DicG a xs ep) ∧ (∀ x ∈ xs, KeyAt H x) ∧ decide (k ∈ xs.map (·.1)) = b := by
  unfold inDG at h
  split at h
  · rename_i es
    obtain ⟨l, e1, h⟩ := Option.bind_eq_some_iff.mp h
    obtain ⟨k, e2, e3⟩ := Option.map_eq_some_iff.mp h
    obtain ⟨a, xs, ep, ey, h1, h2⟩ := hr_dg hy e1
    subst ey
    obtain ⟨T, ex, hT⟩ := hr_tupI hx e2
    subst ex
    exact ⟨T, k, a, xs, ep, rfl, rfl, sf _ _ hT, h1, fun x hx => sf _ _ (h2.parts.1 x hx), by rw [h2.parts.2.2]; exact e3⟩
  · cases h
theorem opd_inG (hu : X.A.units + 64 < cLine) : OpD X (compareOp .In) gInG := by
  refine OpD.of (op_inG hu) fun F H x y d e rs Q sf hx hy hg q => ?_
  obtain ⟨b, e1, e2⟩ := Option.map_eq_some_iff.mp hg
  subst e2
  obtain ⟨T, k, a, xs, ep, ex, ey, h1, h2, h3, h4⟩ := inDG_of sf hx hy e1
  exact ⟨T, k, a, xs, ep, ex, ey, h1, h2, h3, by rw [h4]; exact q _ _ (NR.val sf (.bl _))⟩
theorem opd_notInG (hu : X.A.units + 64 < cLine) : OpD X (compareOp .NotIn) gNotInG := by
  refine OpD.of (op_notInG hu) fun F H x y d e rs Q sf hx hy hg q => ?_
  obtain ⟨b, e1, e2⟩ := Option.map_eq_some_iff.mp hg
  subst e2
  obtain ⟨T, k, a, xs, ep, ex, ey, h1, h2, h3, h4⟩ := inDG_of sf hx hy e1
  exact ⟨T, k, a, xs, ep, ex, ey, h1, h2, h3, by rw [h4]; exact q _ _ (NR.val sf (.bl _))⟩
/-- in lists, tuples, texts, dicts -/
def gInA (d e : D) : Option Rs := (gIn d e).orElse fun _ => gInG d e
def gNotInA (d e : D) : Option Rs := (gNotIn d e).orElse fun _ => gNotInG d e
theorem od_inA {k : Nat} (r : RoomG k X.A) : OpD X (compareOp .In) gInA := (od_in r).alt (opd_inG r.u64)
theorem od_notInA {k : Nat} (r : RoomG k X.A) : OpD X (compareOp .NotIn) gNotInA := (od_notIn r).alt (opd_notInG r.u64)
/-! ## walks -/
def keysOf (l : Dct) : List D := l.map fun p => tupD p.1
def mIterK (m : M Rs) : M (List D) := bnd m fun r => match r.d with
  | .nd .dcg es => liftO ((entsOf es).map keysOf)
  | _ => stk
theorem itR_G {F : Hp} {a : Addr} {xs : List Ent} {ep : Nat} {l : Dct} (h : F a = some (DicG a xs ep)) (e : EntD X.K X.mg F xs l) : ItR X.K X.mg F (ItG a xs ep) (keysOf l) := by
  intro i H sf
  have hl := e.len
  have hk : ∀ x ∈ xs, KeyAt H x := fun x hx => sf _ _ (e.parts.1 x hx)
  refine ⟨fun d ed => ?_, fun hz => ⟨sf _ _ h, hk, by unfold keysOf at hz; rw [List.length_map] at hz; omega⟩⟩
  unfold keysOf at ed
  rw [List.getElem?_map] at ed
  obtain ⟨p, ep', e2⟩ := Option.map_eq_some_iff.mp ed
  subst e2
  have il : i < xs.length := by
    have := (List.getElem?_eq_some_iff.mp ep').1
    omega
  obtain ⟨q, eq, r1, r2, r3⟩ := paired_get e (List.getElem?_eq_getElem il)
  rw [ep'] at eq
  cases eq
  refine ⟨⟨sf _ _ h, hk, il⟩, fun F1 s1 s2 x H' hy => ?_⟩
  obtain ⟨rfl, x', ex, rfl⟩ := hy
  rw [List.getElem?_eq_getElem il] at ex
  cases ex
  refine NR.val s2 ?_
  rw [← r1]
  exact .tup (s1 _ _ r2) (.ints _)
theorem bi_keys {tg e : Expr} {me : M Rs} (h : BE X e me) : BIt X tg e (mIterK me) := by
  refine fun W tk => (pi_keysG (h W tk)).imp fun σ H R ⟨G, io, F, β, I, hq⟩ => ⟨G, io, F, β, I, hq.bnd fun r β1 v H1 F1 fe1 I1 r1 h1 => ?_⟩
  obtain ⟨F2, fe2, I2, dr⟩ := I1.freezeR r1
  generalize r.d = d at h1 dr
  split at h1
  · rename_i es
    cases e1 : entsOf es with
    | none => rw [e1] at h1; exact h1.elim
    | some l =>
      rw [e1] at h1
      cases dr with
      | @dg a xs ep ds _ hd hk rd g =>
        obtain ⟨g1, g2⟩ := gds_ents g e1
        subst g2
        have ed := entD_of hk rd g1
        exact ⟨a, xs, ep, rfl, I2.sf _ _ hd, fun x hx => I2.sf _ _ (hk x hx), h1 _ H1 F2 (fe1.trans fe2) I2 (itR_G hd ed)⟩
  · exact h1.elim
end
end B

set_option Elab.async false
set_option linter.all false
set_option maxRecDepth 100000
set_option maxHeartbeats 4000000
namespace B
open PySem PySem.Spec L2 PyProof.Rows
/-! # {k: v for target in iter if ..}, the keys tuples of ints -/
def enD (P : Program) (w : World) (kx vx : Expr) : EndP := fun A env D S E s => wpAny (model P w) A (eval kx env) (fun kv s4 => wpAny (model P w) A (eval vx env) (fun vv s5 => wpAny (model P w) A (dictSet D kv vv) (fun _ s6 => S s6) E s5) E s4) E s
theorem ckD (P : Program) (w : World) (kx vx tg iter : Expr) (ifs : List Expr) (scope : Scope) (pos : Pos) : CompK P w (.DictComp kx vx [⟨tg, iter, ifs, 0⟩] scope pos) tg iter ifs newDict { cls := .type "dict", data := .dict #[] } (enD P w kx vx) where
  clauses := rfl
  new := fun h => wpAny_newObj_type h
  loop := fun I turn n h => compLoop_anyD I turn n h
  start := fun h0 h => codeAny_compStart_dict h0 h
section
variable {X : Cx}
def teD (tk tv : TE) : Addr → L2.St → Hp → (Hp → Prop) → Prop := fun D σ H Nx => tk σ H fun y H4 => tv σ H4 fun z H5 => ∃ T k xs ep, y = .ref T ∧ TupAt H5 (T, k) ∧ H5 D = some (DicG D xs ep) ∧ (∀ x ∈ xs, KeyAt H5 x) ∧ xs.length < sizeLine ∧ ∀ ep', Nx (upd H5 D (DicG D (putE xs k T z) ep'))
theorem dset_ok {pins : List (Addr × Obj)} {σ : L2.St} {H : Hp} {s : Shared} {E : Value → Shared → Prop} {D T : Addr} {k : List Int} {xs : List Ent} {ep : Nat} {v : V} {u : Value} {Q : Unit → Shared → Prop} (I : Inv X pins σ H s) (hu : X.A.units + 64 < cLine) (hD : H D = some (DicG D xs ep)) (hk : ∀ x ∈ xs, KeyAt H x) (hT : TupAt H (T, k))
    (hl : xs.length < sizeLine) (rv : RelV v u) (h : ∀ s' ep', Inv X pins σ (upd H D (DicG D (putE xs k T v) ep')) s' → Q () s') : wpAny (model X.prog X.w) X.A (dictSet D (.ref T) u) Q E s := by
  obtain ⟨z, hs, ys, pr, m, _⟩ := dic_full I hD hk
  have lz : ys.length ≤ sizeLine := by rw [← Paired.length pr]; exact z
  refine wpAny_dictSet_heap (knd := TK X.prog X.w) (k := k) (by show X.A.units < cLine; omega) (isT_of I hT) m (fun h' m' sb => ?_) lz
  obtain ⟨ep', ok, he⟩ := dic_new (X := X) (H' := upd H D (DicG D (putE xs k T v) 0)) (xs := putE xs k T v) (by have := put_len (xs := xs) k T v; omega) hs (ent_put pr k T rv) m'
  exact h _ ep' (I.write (x := D) (e := D) (o := DicG D (putE xs k T v) ep') (t' := s.toks + (TK X.prog X.w).draws k) (by rw [hD]; trivial) (.inl rfl) (fun b u hb e => (sb.2 b hb).trans e) he ok)
theorem endD {s0 : Shared} {H0 : Hp} {sc : Scope} {env : PySem.Env} {fp : List Addr} {kx vx : Expr} {tk tv : TE} (hu : X.A.units + 64 < cLine) (h1 : PE (X.blk s0 H0 sc env fp) kx tk) (h2 : PE (X.blk s0 H0 sc env fp) vx tv) : EndR (X.blk s0 H0 sc env fp) (enD X.prog X.w kx vx) (teD tk tv) := by
  intro pins s σ H D Nx S E I q fin
  refine thnF (h1.run pins s σ H _ I q) fun y s4 ⟨v, H4, I4, r4, q4⟩ => ?_
  refine thnF (h2.run pins s4 σ H4 _ I4 q4) fun u s5 ⟨z, H5, I5, r5, T, k, xs, ep, ev, hT, hD, hk, hl, nx⟩ => ?_
  subst ev
  obtain rfl : y = Value.ref T := r4
  exact dset_ok (X := X.blk s0 H0 sc env fp) I5 hu hD hk hT hl r5 fun s6 ep' I6 => fin s6 _ I6 (nx ep')
def relD (K : PySem.W.Frag) (mg : Str → Option Value) (F : Hp) (a : Addr) (o : HO) (l : Dct) : Prop := ∃ xs ep, o = DicG a xs ep ∧ EntD K mg F xs l
def accD (K : PySem.W.Frag) (mg : Str → Option Value) : AccR where
  γ := Dct
  rel := relD K mg
  mono := fun e ⟨xs, ep, h1, h2⟩ => ⟨xs, ep, h1, h2.mono e⟩
  nc := fun ⟨xs, ep, h1, _⟩ c q => by rw [h1]; exact dicG_nc c q
def stD (mk mv : M Rs) : Dct → M Dct := fun l => bnd mk fun rk => bnd mv fun rv => match tupI? rk.d with
  | some k => if l.length < sizeLine then ret (putL l k rv.d) else stk
  | none => stk
theorem fe_up {G : GT} {io : List Addr} {F F' : Hp} {D : Addr} {o : HO} (fe : FE (G.upd D o) io F F') (fD : F D = none) : F' D = none := by
  cases q : F' D with
  | none => rfl
  | some u =>
    rcases fe.new D u q with z | ⟨z, _⟩
    · rw [fD] at z; cases z
    · have := GT.gn z
      unfold GT.upd at this
      simp only [upd_same] at this
      cases this
theorem up_at {G : GT} {D : Addr} {o : HO} : (G.upd D o).g D = some o := by
  unfold GT.upd
  simp only [upd_same]
theorem endokD {mk mv : M Rs} : EndOk X.K X.mg (accD X.K X.mg) (teD (gOf X.K X.mg (fun _ _ _ _ => False) (relE X.K X.mg) mk) (gOf X.K X.mg (fun _ _ _ _ => False) (relE X.K X.mg) mv)) (stD mk mv) := by
  intro G io F β σ H D o (l : Dct) Nx I fD nio ⟨xs, ep, eo, hx⟩ hm
  subst eo
  refine ⟨G.upd D (DicG D xs ep), io, F, β, I, ?_⟩
  unfold stD bnd R.bnd at hm
  cases em : mk β with
  | stuck => rw [em] at hm; exact hm.elim
  | exc x β' => rw [em] at hm; exact hm.elim
  | ok rk β4 =>
    rw [em] at hm
    intro y H4 F4 fe4 I4 rr
    obtain ⟨F5, fe5, I5, dk⟩ := I4.freezeR rr
    refine ⟨G.upd D (DicG D xs ep), io, F5, β4, I5, ?_⟩
    simp only at hm
    cases ev : mv β4 with
    | stuck => rw [ev] at hm; exact hm.elim
    | exc x β' => rw [ev] at hm; exact hm.elim
    | ok rv β6 =>
      rw [ev] at hm
      intro z H6 F6 fe6 I6 rz
      obtain ⟨F7, fe7, I7, dv⟩ := I6.freezeR rz
      simp only at hm
      cases ek : tupI? rk.d with
      | none => rw [ek] at hm; exact hm.elim
      | some k =>
        rw [ek] at hm
        simp only at hm
        by_cases hl : l.length < sizeLine
        · rw [if_pos hl] at hm
          obtain ⟨T, ey, hT⟩ := dr_tupI dk ek
          have fe := ((fe4.trans fe5).trans fe6).trans fe7
          have hT7 : TupAt F7 (T, k) := (fe6.trans fe7).same _ _ hT
          have hx7 := hx.mono fe.same
          refine ⟨T, k, xs, ep, ey, I7.sf _ _ hT7, I7.sg.g _ _ up_at, fun x hx' => I7.sf _ _ (hx7.parts.1 x hx'), by rw [hx7.len]; exact hl, fun ep' => ?_⟩
          have J := I7.guardG (o := DicG D (putE xs k T z) ep') up_at (fun c q => dicG_nc c q) (fe_up fe fD) nio
          rw [GT.upd_upd] at J
          exact hm F7 _ _ fe (fe_up fe fD) J ⟨_, ep', rfl, hx7.put hT7 dv⟩
        · rw [if_neg hl] at hm
          exact hm.elim
def mDictC (vs : List Nat) (mi : M (List D)) (g : D → M Unit) (mt : M Bool) (mk mv : M Rs) : M Rs := bnd (mCompG vs mi g mt (stD mk mv) []) fun l => ret (.own (dcgD l))
theorem be_dcomp {kx vx tg iter : Expr} {ifs : List Expr} {scope : Scope} {own : List (Str × Nat)} {pos : Pos} {mi : M (List D)} {g : D → M Unit} {mt : M Bool} {mk mv : M Rs} {vs : List Nat} (hc : X.calm = true) (hN : X.N.Nodup) (hu : X.A.units + 64 < cLine) (hi : BIt X tg iter mi) (hvs : own.map (·.2) = vs)
    (ok : BlkOk X.N X.env.scope scope own)
    (hg : ∀ (s : Shared) (H : Hp) (C : Addr) (cl : List (Str × Addr)) (fp : List Addr), BG (X.blk s H scope (PySem.compEnvC scope cl C X.env) fp) vs tg g) (ht : ∀ (s : Shared) (H : Hp) (C : Addr) (cl : List (Str × Addr)) (fp : List Addr), BTs (X.blk s H scope (PySem.compEnvC scope cl C X.env) fp) ifs mt)
    (hk : ∀ (s : Shared) (H : Hp) (C : Addr) (cl : List (Str × Addr)) (fp : List Addr), BE (X.blk s H scope (PySem.compEnvC scope cl C X.env) fp) kx mk)
    (he : ∀ (s : Shared) (H : Hp) (C : Addr) (cl : List (Str × Addr)) (fp : List Addr), BE (X.blk s H scope (PySem.compEnvC scope cl C X.env) fp) vx mv) (hs : ∀ x, foldedSetIterable iter X.env x = pure x := by intro _; rfl) :
    BE X (.DictComp kx vx [⟨tg, iter, ifs, 0⟩] scope pos) (mDictC vs mi g mt mk mv) := by
  subst hvs
  have hE : ∀ (s : Shared) (H : Hp) (C : Addr) (cl : List (Str × Addr)) (fp : List Addr), EndR (X.blk s H scope (PySem.compEnvC scope cl C X.env) fp) (enD X.prog X.w kx vx) (teD (gOf X.K X.mg (fun _ _ _ _ => False) (relE X.K X.mg) mk) (gOf X.K X.mg (fun _ _ _ _ => False) (relE X.K X.mg) mv)) := by
    intro s H C cl fp
    have h1 := hk s H C cl fp (fun _ _ _ _ => False) takes0
    have h2 := he s H C cl fp (fun _ _ _ _ => False) takes0
    exact endD hu h1 h2
  intro W tk
  have pe := pe_cc (ckD X.prog X.w kx vx tg iter ifs scope pos) (arm_eval_DictComp kx vx _ scope pos X.env) hc hN (hi W tk) ok (g := gOfT X.K X.mg (own.map fun (q : Str × Nat) => q.2) g) (tt := gOf X.K X.mg (fun _ _ _ _ => False) relB mt)
    (te := teD (gOf X.K X.mg (fun _ _ _ _ => False) (relE X.K X.mg) mk) (gOf X.K X.mg (fun _ _ _ _ => False) (relE X.K X.mg) mv)) (o0 := fun D => DicG D [] 0) (fun h H hb => dic_empty X.prog X.w h H hb) hg (fun s H C cl fp => ht s H C cl fp _ takes0) hE hs
  refine pe.imp fun σ H Q h => tCc_of (R := accD X.K X.mg) (fun F D => ⟨[], 0, rfl, .nil⟩) endokD ?_
  obtain ⟨G, io, F, β, I, h⟩ := h
  refine ⟨G, io, F, β, I, ?_⟩
  have h' : Post X.K X.mg W (relE X.K X.mg) G F io σ ((mCompG (own.map fun (q : Str × Nat) => q.2) mi g mt (stD mk mv) [] β).bnd fun (l : Dct) => ret (Rs.own (dcgD l))) Q := h
  refine Post.bnd h' fun l β1 v H1 F1 fe1 I1 ⟨a, o, ev, fa, ga, nia, ha, ⟨xs, ep, eo, hx⟩, ns⟩ h1 => ?_
  subst ev
  subst eo
  exact h1 _ H1 F1 fe1 I1 ⟨a, rfl, fa, ga, nia, own_dg ha hx, ns⟩
/-- {} for tuple keys -/
def mDictG0 : M Rs := ret (.own (dcgD []))
theorem be_dictG0 {pos : Pos} : BE X (.Dict [] [] pos) mDictG0 := by
  refine fun W tk => ⟨fun pins s σ H Q I h => ?_⟩
  obtain ⟨G, io, F, β, J, h⟩ := h
  have hn : H s.heap.objs.size = none := I.hok.fresh (Nat.le_refl _)
  refine wpAny_Dict_empty ⟨.ref s.heap.objs.size, upd H s.heap.objs.size (DicG s.heap.objs.size [] 0), I.laid (t' := s.toks) (fun _ _ q => Heap.get?_push_of_some _ q) (Nat.le_refl _) (dic_empty X.prog X.w s.heap _ I.big), rfl, ?_⟩
  have n : NR X.K X.mg F H (.own (dcgD [])) (.ref s.heap.objs.size) (upd H s.heap.objs.size (DicG s.heap.objs.size [] 0)) :=
    ⟨fun b o e => by rw [upd_ne (ne_of_none e hn)]; exact e, _, rfl, hn, own_dg upd_same .nil⟩
  obtain ⟨F', fe, J', rr⟩ := J.step n
  exact h _ _ F' fe J' rr
/-! ## x[k] = e, x a name that holds a dict of one's own -/
def setIxG (i : Nat) (v : Rs) (kd : D) : M Fl := fun β => match β[i]?, tupI? kd with
  | some (.own b (.nd .dcg es)), some k => (match entsOf es with
    | some l => if l.length < sizeLine then .ok .nx (β.set i (.own b (dcgD (putL l k v.d)))) else .stuck
    | none => .stuck)
  | _, _ => .stuck
def mSetIxG (i : Nat) (me mk : M Rs) : M Fl := bnd me fun r => bnd (mPl i) fun _ => bnd mk fun kr => setIxG i r kr.d
theorem bs_setIxG {i : Nat} {x : Str} {e k : Expr} {p pos pos' : Pos} {me mk : M Rs} (hu : X.A.units + 64 < cLine) (hN : X.N[i]? = some x) (hv : Vis X.env.scope x) (he : BE X e me) (hk : BE X k mk) (hd : (x == ("__debug__" : Str)) = false := by decide) (hcd : (x == ("__classdict__" : Str)) = false := by decide)
    (hs : swapsWithSole [.Subscript (.Name x p) k pos'] e pos.line X.env = pure false := by rfl) (hw : swappedStores [.Subscript (.Name x p) k pos'] e X.env = pure none := by rfl)
    (h1 : (assignEach [.Subscript (.Name x p) k pos'] X.env).map (·.2) = [assign (.Subscript (.Name x p) k pos') X.env] := by rfl)
    (ha : ∀ v, assign (.Subscript (.Name x p) k pos') X.env v = (do
      let ov ← holding [v] (eval (.Name x p) X.env)
      let iv ← holding [v, ov] (eval k X.env)
      standAt pos'
      holding [v, ov, iv] (setItem ov iv v)
      release [v, ov, iv] []) := by intro _; rfl) : BS X (.Assign [.Subscript (.Name x p) k pos'] e pos) (mSetIxG i me mk) := by
  refine fun W tk => (ps_asg (he W tk) (pg_sub (pe_var hN hv hd hcd) (hk W tk) (set_G hu) ha) hs hw h1).imp fun D σ H ⟨G, io, F, β, I, h⟩ => ⟨G, io, F, β, I, h.of fun r β1 v H1 F1 fe1 I1 r1 h1 => ?_⟩
  obtain ⟨F2, fe2, I2, dr⟩ := I1.freezeR r1
  have h7 : SPost X.K X.mg W G F2 io ((mPl i β1).bnd fun _ β => (mk β).bnd fun kr β => setIxG i r kr.d β) D := SPost.mono h1 fe2
  clear h1
  cases e0 : mPl i β1 with
  | stuck => rw [e0] at h7; exact h7.elim
  | exc x β => unfold mPl at e0; split at e0 <;> cases e0
  | ok pl β2 =>
    rw [e0] at h7
    have hw : ∃ w, σ[i]? = some (some w) ∧ β2 = β1 := by
      unfold mPl at e0
      split at e0
      · rename_i d e1
        cases e0
        obtain ⟨o, eo, w, rfl, _⟩ := I2.sl i _ e1
        exact ⟨w, eo, rfl⟩
      · rename_i b d e1
        cases e0
        obtain ⟨o, eo, a, rfl, _⟩ := I2.sl i _ e1
        exact ⟨_, eo, rfl⟩
      · cases e0
    obtain ⟨w, ew, rfl⟩ := hw
    have h8 : SPost X.K X.mg W G F2 io ((mk β2).bnd fun kr β => setIxG i r kr.d β) D := h7
    refine ⟨w, ew, G, io, F2, β2, I2, h8.of fun kr β3 kv H3 F3 fe3 I3 r3 h3 => ?_⟩
    obtain ⟨F4, fe4, I4, dk⟩ := I3.freezeR r3
    have h3 := SPost.mono h3 fe4
    unfold setIxG at h3
    split at h3
    · rename_i b es k' e1 ek
      cases el : entsOf es with
      | none => rw [el] at h3; exact h3.elim
      | some l =>
        rw [el] at h3
        simp only at h3
        by_cases hl : l.length < sizeLine
        · rw [if_pos hl] at h3
          obtain ⟨a, ea, f, gn, o⟩ := I4.ownAt e1
          obtain ⟨T, eT, hT⟩ := dr_tupI dk ek
          obtain ⟨a', xs, ep, ea', h1', h2'⟩ := hr_dg o.hr el
          cases ea'
          rw [ea] at ew
          cases ew
          refine ⟨T, k', a, xs, ep, rfl, eT, I4.sf _ _ hT, h1', fun x hx => I4.sf _ _ (h2'.parts.1 x hx), by rw [h2'.len]; exact hl, fun ep' => ?_⟩
          have I5 := I4.mut (o := DicG a (putE xs k' T v) ep') e1 ea (own_dg upd_same (h2'.put hT ((dr.mono fe3.same).mono fe4.same)))
          exact h3 σ _ F4 .refl I5
        · rw [if_neg hl] at h3
          exact h3.elim
    · exact h3.elim
end
end B

set_option Elab.async false
set_option linter.all false
set_option maxRecDepth 100000
set_option maxHeartbeats 4000000
namespace B
open PySem PySem.Spec L2 PyProof.Rows
/-! # a dict of lists of one's own, its lists changed where they stand -/
def orH (P F : Hp) : Hp := fun b => match P b with
  | some o => some o
  | none => F b
/-- private objects, on top of what must stay -/
def GT.many (G : GT) (P : Hp) : GT := ⟨orH P G.g, G.t⟩
/-- what is private is nobody else's -/
def Off (G : GT) (F : Hp) (io : List Addr) (P : Hp) : Prop := ∀ b o, P b = some o → F b = none ∧ G b = none ∧ b ∉ io
section
variable {K : PySem.W.Frag} {mg : Str → Option Value} {G : GT} {F F' H P : Hp} {io : List Addr} {β : B.Env} {σ : L2.St} {a Da : Addr} {o : HO}
theorem orH_some (h : P a = some o) : orH P F a = some o := by unfold orH; rw [h]
theorem orH_none (h : P a = none) : orH P F a = F a := by unfold orH; rw [h]
theorem GT.many_upd : G.many (L2.upd P Da o) = (G.many P).upd Da o := by
  unfold GT.many GT.upd
  congr 1
  funext b
  by_cases hb : b = Da
  · subst hb
    rw [upd_same, orH_some upd_same]
  · rw [L2.upd_ne hb]
    unfold orH
    rw [L2.upd_ne hb]
theorem GT.many_none (h : (G.many P) a = none) : P a = none ∧ G a = none := by
  obtain ⟨h1, h2⟩ := GT.none_iff.mp h
  have h2 : orH P G.g a = none := h2
  cases e : P a with
  | some o => rw [orH_some e] at h2; cases h2
  | none =>
    rw [orH_none e] at h2
    exact ⟨rfl, GT.none_iff.mpr ⟨h1, h2⟩⟩
theorem GT.many_of (h1 : P a = none) (h2 : G a = none) : (G.many P) a = none := GT.none_iff.mpr ⟨GT.tn (G := G) h2, by show orH P G.g a = none; rw [orH_none h1]; exact GT.gn h2⟩
theorem FE.one (fe : FE (G.many P) io F F') : FE G io F F' := ⟨fe.same, fun a o h => (fe.new a o h).imp id fun ⟨g, n⟩ => ⟨(GT.many_none g).2, n⟩⟩
theorem Off.fe (h : Off G F io P) (fe : FE (G.many P) io F F') : Off G F' io P := fun b o e => by
  obtain ⟨h1, h2, h3⟩ := h b o e
  refine ⟨?_, h2, h3⟩
  cases q : F' b with
  | none => rfl
  | some u =>
    rcases fe.new b u q with z | ⟨z, _⟩
    · rw [h1] at z; cases z
    · rw [(GT.many_none z).1] at e; cases e
theorem BI.many (I : BI K mg G F io β σ H) (of : Off G F io P) (sp : Same P H) (ap : ∀ (i : Nat) (s : Sl) (b : Addr), β[i]? = some s → isOwn s = true → σ[i]? = some (some (V.ref b)) → P b = none) : BI K mg (G.many P) F io β σ H := by
  refine ⟨⟨fun b u h => ?_, I.sg.t, fun b u h => ?_⟩, I.sf, I.ioF, I.ioH, I.len, fun j s es => ?_, I.apart⟩
  · have h : orH P G.g b = some u := h
    cases e : P b with
    | some q => rw [orH_some e] at h; cases h; exact sp _ _ e
    | none => rw [orH_none e] at h; exact I.sg.g _ _ h
  · have h : orH P G.g b = some u := h
    show G.t b = none
    cases e : P b with
    | some q => exact GT.tn (of b q e).2.1
    | none => rw [orH_none e] at h; exact I.sg.dj _ _ h
  · obtain ⟨w, ew, hs⟩ := I.sl j s es
    refine ⟨w, ew, ?_⟩
    cases s with
    | own b d =>
      obtain ⟨x, q, f, g, k1, k2, r⟩ := hs
      subst q
      exact ⟨x, rfl, f, GT.many_of (ap j _ x es rfl ew) g, k1, k2, r⟩
    | ex z0 => exact hs
    | gh _ => exact hs
    | un => trivial
    | fz d => exact hs
theorem BI.unmany (I : BI K mg (G.many P) F io β σ H) (of : Off G F io P) : BI K mg G F io β σ H := by
  refine ⟨⟨fun b u h => I.sg.g b u ?_, I.sg.t, fun b u h => I.sg.dj b u ?_⟩, I.sf, I.ioF, I.ioH, I.len, fun j s es => ?_, I.apart⟩
  · show orH P G.g b = some u
    cases e : P b with
    | some q =>
      have := GT.gn (of b q e).2.1
      rw [this] at h
      cases h
    | none => rw [orH_none e]; exact h
  · show orH P G.g b = some u
    cases e : P b with
    | some q =>
      have := GT.gn (of b q e).2.1
      rw [this] at h
      cases h
    | none => rw [orH_none e]; exact h
  · obtain ⟨w, ew, hs⟩ := I.sl j s es
    refine ⟨w, ew, ?_⟩
    cases s with
    | own b d =>
      obtain ⟨x, q, f, g, k1, k2, r⟩ := hs
      exact ⟨x, q, f, (GT.many_none g).2, k1, k2, r⟩
    | ex z0 => exact hs
    | gh _ => exact hs
    | un => trivial
    | fz d => exact hs
/-- what was private is data that stays, from here on -/
theorem BI.letgo (I : BI K mg (G.many P) F io β σ H) (of : Off G F io P) : FE G io F (orH P F) ∧ BI K mg G (orH P F) io β σ H := by
  have sm : Same F (orH P F) := fun b u h => by
    cases e : P b with
    | some q => rw [(of b q e).1] at h; cases h
    | none => rw [orH_none e]; exact h
  have J := I.unmany of
  refine ⟨⟨sm, fun b u h => ?_⟩, ⟨⟨J.sg.g, fun b q h => ?_, J.sg.dj⟩, fun b u h => ?_, fun b hb => ?_, J.ioH, J.len, fun j s es => ?_, J.apart⟩⟩
  · cases e : P b with
    | some q => exact .inr (of b q e).2
    | none => rw [orH_none e] at h; exact .inl h
  · obtain ⟨h1, h2⟩ := J.sg.t b q h
    refine ⟨?_, h2⟩
    cases e : P b with
    | some q => rw [GT.tn (of b q e).2.1] at h; cases h
    | none => rw [orH_none e]; exact h1
  · cases e : P b with
    | some q =>
      rw [orH_some e] at h
      cases h
      exact I.sg.g b _ (orH_some e)
    | none => rw [orH_none e] at h; exact J.sf b u h
  · cases e : P b with
    | some q => exact absurd hb (of b q e).2.2
    | none => rw [orH_none e]; exact J.ioF b hb
  · obtain ⟨w, ew, hs⟩ := I.sl j s es
    refine ⟨w, ew, ?_⟩
    cases s with
    | own b d =>
      obtain ⟨x, q, f, g, k1, k2, r⟩ := hs
      exact ⟨x, q, by rw [orH_none (GT.many_none g).1]; exact f, (GT.many_none g).2, k1, k2, r.mono sm rfl⟩
    | ex z0 => exact ⟨hs.1, hs.2.mono sm⟩
    | gh _ => exact hs
    | un => trivial
    | fz d =>
      obtain ⟨v, q, r⟩ := hs
      exact ⟨v, q, r.mono sm⟩
/-- a slot let go, whatever the state has there -/
theorem BI.setUn (I : BI K mg G F io β σ H) (i : Nat) (o : Option V) : BI K mg G F io (β.set i .un) (σ.set i o) H := by
  have J := I.unset i
  have nh : ∀ {l : Nat} {u : Sl}, (β.set i .un)[l]? = some u → isOwn u = true → i ≠ l := fun {l u} e h hl => by
    subst hl
    by_cases hi : i < β.length
    · rw [List.getElem?_set_self hi] at e
      cases e
      cases h
    · rw [List.getElem?_eq_none (by rw [List.length_set]; omega)] at e
      cases e
  refine ⟨J.sg, J.sf, J.ioF, J.ioH, by rw [List.length_set, List.length_set]; exact I.len, fun j s ej => ?_, fun j k s t b ej ek hj hk zj zk => ?_⟩
  · by_cases hj : i = j
    · subst hj
      obtain ⟨w, eo, _⟩ := J.sl i s ej
      have hi : i < β.length := by
        have := (List.getElem?_eq_some_iff.mp ej).1
        rwa [List.length_set] at this
      rw [List.getElem?_set_self hi] at ej
      cases ej
      exact ⟨o, List.getElem?_set_self (by rw [← I.len]; exact hi), trivial⟩
    · rw [List.getElem?_set_ne hj]
      exact J.sl j s ej
  · rw [List.getElem?_set_ne (nh ej hj)] at zj
    rw [List.getElem?_set_ne (nh ek hk)] at zk
    exact J.apart j k s t b ej ek hj hk zj zk
end
/-! ## the dict's entries -/
abbrev KL := List (List Int × List D)
def KAt (K : PySem.W.Frag) (mg : Str → Option Value) (F P : Hp) (x : Ent) (p : List Int × List D) : Prop := x.1 = p.1 ∧ F x.2.1 = some (.tup (x.1.map V.int)) ∧ ∃ c vs, x.2.2 = .ref c ∧ P c = some (.lst vs) ∧ DRs K mg F vs p.2
structure KEnt (K : PySem.W.Frag) (mg : Str → Option Value) (F P : Hp) (xs : List Ent) (l : KL) : Prop where
  len : xs.length = l.length
  at_ : ∀ (i : Nat) (x : Ent) (p : List Int × List D), xs[i]? = some x → l[i]? = some p → KAt K mg F P x p
  keys : ∀ (i j : Nat) (x y : Ent), xs[i]? = some x → xs[j]? = some y → x.1 = y.1 → i = j
  refs : ∀ (i j : Nat) (x y : Ent), xs[i]? = some x → xs[j]? = some y → x.2.2 = y.2.2 → i = j
def KDp (K : PySem.W.Frag) (mg : Str → Option Value) (F P : Hp) (a : Addr) (l : KL) : Prop := ∃ xs ep, P a = some (DicG a xs ep) ∧ KEnt K mg F P xs l
section
variable {K : PySem.W.Frag} {mg : Str → Option Value} {G : GT} {F F' H P P' : Hp} {io : List Addr} {β : B.Env} {σ : L2.St} {a Da : Addr} {o : HO} {xs : List Ent} {l : KL}
theorem KAt.mono {x : Ent} {p : List Int × List D} (h : KAt K mg F P x p) (e : Same F F') : KAt K mg F' P x p := by
  obtain ⟨h1, h2, c, vs, h3, h4, h5⟩ := h
  exact ⟨h1, e _ _ h2, c, vs, h3, h4, h5.mono e⟩
theorem KEnt.mono (h : KEnt K mg F P xs l) (e : Same F F') : KEnt K mg F' P xs l := ⟨h.len, fun i x p h1 h2 => (h.at_ i x p h1 h2).mono e, h.keys, h.refs⟩
theorem KDp.mono (h : KDp K mg F P a l) (e : Same F F') : KDp K mg F' P a l := by
  obtain ⟨xs, ep, h1, h2⟩ := h
  exact ⟨xs, ep, h1, h2.mono e⟩
theorem KEnt.key (h : KEnt K mg F P xs l) : ∀ x ∈ xs, F x.2.1 = some (.tup (x.1.map V.int)) := fun x hx => by
  obtain ⟨i, hi⟩ := List.mem_iff_getElem?.mp hx
  have il : i < l.length := by rw [← h.len]; exact (List.getElem?_eq_some_iff.mp hi).1
  exact (h.at_ i x _ hi (List.getElem?_eq_getElem il)).2.1
theorem lst_ne_dic {vs : List V} {ep : Nat} : (HO.lst vs) ≠ DicG a xs ep := fun e => by
  unfold DicG at e
  cases e
/-- where a key stands -/
theorem KEnt.find (h : KEnt K mg F P xs l) {k : List Int} (hk : k ∈ l.map (·.1)) : ∃ (i : Nat) (x : Ent) (p : List Int × List D) (c : Addr) (vs : List V), xs[i]? = some x ∧ l[i]? = some p ∧ p.1 = k ∧ x.1 = k ∧ x.2.2 = .ref c ∧ P c = some (.lst vs) ∧ DRs K mg F vs p.2 ∧ getE xs k = some (.ref c) := by
  obtain ⟨p, hp, e⟩ := List.mem_map.mp hk
  obtain ⟨i, hi⟩ := List.mem_iff_getElem?.mp hp
  have il : i < xs.length := by rw [h.len]; exact (List.getElem?_eq_some_iff.mp hi).1
  have hx := List.getElem?_eq_getElem il
  generalize xs[i] = x at hx
  obtain ⟨h1, h2, c, vs, h3, h4, h5⟩ := h.at_ i x p hx hi
  refine ⟨i, x, p, c, vs, hx, hi, e, h1.trans e, h3, h4, h5, ?_⟩
  unfold getE
  have xm : x ∈ xs := List.mem_iff_getElem?.mpr ⟨i, hx⟩
  cases q : xs.find? fun y => decide (y.1 = k) with
  | none =>
    have := List.find?_eq_none.mp q x xm
    simp [h1.trans e] at this
  | some y =>
    have e1 : y.1 = k := by simpa using List.find?_some q
    obtain ⟨j, hj⟩ := List.mem_iff_getElem?.mp (List.mem_of_find?_eq_some q)
    have := h.keys i j x y hx hj ((h1.trans e).trans e1.symm)
    subst this
    rw [hx] at hj
    cases hj
    rw [Option.map_some, h3]
/-- one more in the list at a key -/
def appL (l : KL) (k : List Int) (d : D) : KL := l.map fun p => if p.1 = k then (p.1, p.2 ++ [d]) else p
theorem KEnt.app (h : KEnt K mg F P xs l) {k : List Int} {i : Nat} {x : Ent} {c : Addr} {vs : List V} {v : V} {d : D} (hx : xs[i]? = some x) (ex : x.1 = k) (ec : x.2.2 = .ref c) (hc : P c = some (.lst vs)) (r : DR K mg F v d) :
    KEnt K mg F (L2.upd P c (.lst (vs ++ [v]))) xs (appL l k d) := by
  refine ⟨by unfold appL; rw [List.length_map]; exact h.len, fun j y p hy hp => ?_, h.keys, h.refs⟩
  unfold appL at hp
  rw [List.getElem?_map] at hp
  obtain ⟨q, hq, e⟩ := Option.map_eq_some_iff.mp hp
  subst e
  obtain ⟨h1, h2, c', vs', h3, h4, h5⟩ := h.at_ j y q hy hq
  by_cases e : q.1 = k
  · rw [if_pos e]
    have := h.keys i j x y hx hy (by rw [ex, h1, e])
    subst this
    rw [hx] at hy
    cases hy
    rw [ec] at h3
    cases h3
    rw [hc] at h4
    cases h4
    exact ⟨h1, h2, c, vs ++ [v], ec, upd_same, h5.append (.cons r .nil)⟩
  · rw [if_neg e]
    refine ⟨h1, h2, c', vs', h3, ?_, h5⟩
    rw [upd_ne fun z => ?_]
    · exact h4
    · subst z
      have := h.refs i j x y hx hy (by rw [ec, h3])
      subst this
      rw [hx] at hy
      cases hy
      exact e (h1.symm.trans ex)
theorem KDp.app (h : KDp K mg F P a l) {k : List Int} {v : V} {d : D} (hk : k ∈ l.map (·.1)) (r : DR K mg F v d) : ∃ xs ep c vs ds, P a = some (DicG a xs ep) ∧ (∀ x ∈ xs, F x.2.1 = some (.tup (x.1.map V.int))) ∧ getE xs k = some (.ref c) ∧ P c = some (.lst vs) ∧ (k, ds) ∈ l ∧ vs.length = ds.length ∧
    KDp K mg F (L2.upd P c (.lst (vs ++ [v]))) a (appL l k d) := by
  obtain ⟨xs, ep, h1, h2⟩ := h
  obtain ⟨i, x, p, c, vs, hx, hp, e1, e2, e3, e4, e5, e6⟩ := h2.find hk
  refine ⟨xs, ep, c, vs, p.2, h1, h2.key, e6, e4, ?_, e5.length, xs, ep, ?_, h2.app hx e2 e3 e4 r⟩
  · rw [← e1]
    exact List.mem_iff_getElem?.mpr ⟨i, hp⟩
  · rw [upd_ne fun z => ?_]
    · exact h1
    · subst z
      rw [e4] at h1
      exact lst_ne_dic (Option.some.inj h1)
/-- a key more -/
theorem KEnt.snoc (h : KEnt K mg F P xs l) {k : List Int} {T c : Addr} (hT : F T = some (.tup (k.map V.int))) (nk : k ∉ l.map (·.1)) (hc : P c = none) : KEnt K mg F (L2.upd P c (.lst [])) (xs ++ [(k, T, .ref c)]) (l ++ [(k, [])]) := by
  have old : ∀ (i : Nat) (x : Ent), (xs ++ [(k, T, V.ref c)])[i]? = some x → (i < xs.length ∧ xs[i]? = some x) ∨ (i = xs.length ∧ x = (k, T, .ref c)) := fun i x e => by
    by_cases hi : i < xs.length
    · rw [List.getElem?_append_left hi] at e
      exact .inl ⟨hi, e⟩
    · rw [List.getElem?_append_right (by omega)] at e
      have : i - xs.length = 0 := by
        have := (List.getElem?_eq_some_iff.mp e).1
        simp only [List.length_singleton] at this
        omega
      rw [this] at e
      cases e
      exact .inr ⟨by omega, rfl⟩
  have part : ∀ (i : Nat) (x : Ent), xs[i]? = some x → ∃ p, l[i]? = some p ∧ KAt K mg F P x p := fun i x e => by
    have il : i < l.length := by rw [← h.len]; exact (List.getElem?_eq_some_iff.mp e).1
    exact ⟨_, List.getElem?_eq_getElem il, h.at_ i x _ e (List.getElem?_eq_getElem il)⟩
  have nkx : ∀ (i : Nat) (x : Ent), xs[i]? = some x → x.1 ≠ k := fun i x e z => by
    obtain ⟨p, hp, h1, _⟩ := part i x e
    exact nk (List.mem_map.mpr ⟨p, List.mem_iff_getElem?.mpr ⟨i, hp⟩, by rw [← h1, z]⟩)
  have nrx : ∀ (i : Nat) (x : Ent), xs[i]? = some x → x.2.2 ≠ .ref c := fun i x e z => by
    obtain ⟨p, hp, h1, h2, c', vs, h3, h4, _⟩ := part i x e
    rw [h3] at z
    cases z
    rw [hc] at h4
    cases h4
  refine ⟨by simp [h.len], fun i x p hx hp => ?_, fun i j x y hx hy e => ?_, fun i j x y hx hy e => ?_⟩
  · rcases old i x hx with ⟨hi, hx'⟩ | ⟨hi, ex⟩
    · rw [List.getElem?_append_left (by rw [← h.len]; exact hi)] at hp
      obtain ⟨h1, h2, c', vs, h3, h4, h5⟩ := h.at_ i x p hx' hp
      refine ⟨h1, h2, c', vs, h3, ?_, h5⟩
      rw [upd_ne (ne_of_none h4 hc)]
      exact h4
    · subst ex
      rw [hi, List.getElem?_append_right (by rw [h.len]; exact Nat.le_refl _), h.len, Nat.sub_self] at hp
      cases hp
      exact ⟨rfl, hT, c, [], rfl, upd_same, .nil⟩
  · rcases old i x hx with ⟨hi, hx'⟩ | ⟨hi, ex⟩ <;> rcases old j y hy with ⟨hj, hy'⟩ | ⟨hj, ey⟩
    · exact h.keys i j x y hx' hy' e
    · subst ey; exact absurd e (nkx i x hx')
    · subst ex; exact absurd e.symm (nkx j y hy')
    · omega
  · rcases old i x hx with ⟨hi, hx'⟩ | ⟨hi, ex⟩ <;> rcases old j y hy with ⟨hj, hy'⟩ | ⟨hj, ey⟩
    · exact h.refs i j x y hx' hy' e
    · subst ey; exact absurd e (nrx i x hx')
    · subst ex; exact absurd e.symm (nrx j y hy')
    · omega
/-- the end: all of it as data -/
def kData (l : KL) : Dct := l.map fun p => (p.1, .nd .lst p.2)
theorem paired_of {α β : Type} {R : α → β → Prop} : ∀ {xs : List α} {l : List β}, xs.length = l.length → (∀ (i : Nat) x p, xs[i]? = some x → l[i]? = some p → R x p) → Paired R xs l
  | [], [], _, _ => .nil
  | [], _ :: _, e, _ => by cases e
  | _ :: _, [], e, _ => by cases e
  | x :: xs, p :: l, e, h => .cons (h 0 x p rfl rfl) (paired_of (Nat.succ.inj e) fun i y q h1 h2 => h (i + 1) y q h1 h2)
theorem KDp.data (h : KDp K mg F P a l) (of : ∀ b o, P b = some o → F b = none) : DR K mg (orH P F) (.ref a) (dcgD (kData l)) := by
  obtain ⟨xs, ep, h1, h2⟩ := h
  have sm : Same F (orH P F) := fun b u h => by
    cases e : P b with
    | some q => rw [of b q e] at h; cases h
    | none => rw [orH_none e]; exact h
  have ed : EntD K mg (orH P F) xs (kData l) := by
    refine paired_of (by unfold kData; rw [List.length_map]; exact h2.len) fun i x p hx hp => ?_
    unfold kData at hp
    rw [List.getElem?_map] at hp
    obtain ⟨q, hq, e⟩ := Option.map_eq_some_iff.mp hp
    subst e
    obtain ⟨e1, e2, c, vs, e3, e4, e5⟩ := h2.at_ i x q hx hq
    refine ⟨e1, sm _ _ e2, ?_⟩
    rw [e3]
    exact .lst (orH_some e4) (e5.mono sm)
  obtain ⟨p1, p2, p3⟩ := ed.parts
  exact .dg (orH_some h1) p1 p2 (by rw [p3]; exact gds_map _)
end
end B

set_option Elab.async false
set_option linter.all false
set_option maxRecDepth 100000
set_option maxHeartbeats 4000000
namespace B
open PySem PySem.Spec L2 PyProof.Rows
/-! # {k: [] for target in iter}, its lists one's own -/
/-- a new dict of new lists that nobody else holds -/
abbrev relK (K : PySem.W.Frag) (mg : Str → Option Value) : GT → Hp → List Addr → Hp → B.Env → L2.St → V → KL → Prop := fun G F io H β σ v l => ∃ (a : Addr) (P : Hp), v = .ref a ∧ Off G F io P ∧ KDp K mg F P a l ∧ Same P H ∧ ∀ (i : Nat) (s : Sl) (b : Addr), β[i]? = some s → isOwn s = true → σ[i]? = some (some (V.ref b)) → P b = none
def BKd (X : Cx) (e : Expr) (m : M KL) : Prop := ∀ W, Takes X W → PE X e (gOf X.K X.mg W (relK X.K X.mg) m)
def stK (mk : M Rs) : KL → M KL := fun l => bnd mk fun rk => match tupI? rk.d with
  | some k => if l.length < sizeLine ∧ k ∉ l.map (·.1) then ret (l ++ [(k, [])]) else stk
  | none => stk
section
variable {K : PySem.W.Frag} {mg : Str → Option Value} {G : GT} {F F' H P P' : Hp} {io : List Addr} {β : B.Env} {σ : L2.St} {a Da : Addr} {o : HO} {xs : List Ent} {l : KL}
theorem GT.many0 : G.many (fun _ => none) = G := by
  unfold GT.many
  have : orH (fun _ => none) G.g = G.g := by
    funext b
    unfold orH
    rfl
  rw [this]
theorem KEnt.updD (h : KEnt K mg F P xs l) {ys : List Ent} {ep : Nat} (hD : P Da = some (DicG Da ys ep)) : KEnt K mg F (L2.upd P Da o) xs l := by
  refine ⟨h.len, fun i x p hx hp => ?_, h.keys, h.refs⟩
  obtain ⟨h1, h2, c, vs, h3, h4, h5⟩ := h.at_ i x p hx hp
  refine ⟨h1, h2, c, vs, h3, ?_, h5⟩
  rw [L2.upd_ne fun z => ?_]
  · exact h4
  · subst z
    rw [h4] at hD
    exact lst_ne_dic (Option.some.inj hD)
theorem Off.upd (h : Off G F io P) (h1 : F Da = none) (h2 : G Da = none) (h3 : Da ∉ io) : Off G F io (L2.upd P Da o) := fun b u e => by
  by_cases hb : b = Da
  · subst hb
    exact ⟨h1, h2, h3⟩
  · rw [L2.upd_ne hb] at e
    exact h b u e
theorem BI.nio (I : BI K mg G F io β σ H) (h : H a = none) : a ∉ io := fun z => by
  obtain ⟨u, hu⟩ := I.ioH a z
  rw [hu] at h
  cases h
/-- one entry more -/
theorem k_snoc (I : BI K mg (G.many P) F io β σ H) (of : Off G F io P) (hP : P Da = some (DicG Da xs ep)) (he : KEnt K mg F P xs l) {k : List Int} {T c : Addr} (hT : F T = some (.tup (k.map V.int))) (nk : k ∉ l.map (·.1)) (hc : H c = none) (ep' : Nat) :
    ∃ P', Off G F io P' ∧ KDp K mg F P' Da (l ++ [(k, [])]) ∧ BI K mg (G.many P') F io β σ (upd (upd H c (.lst [])) Da (DicG Da (putE xs k T (.ref c)) ep')) := by
  have gc := GT.many_none (I.sg.free hc)
  have I1 : BI K mg (G.many (L2.upd P c (.lst []))) F io β σ (upd H c (.lst [])) := by
    rw [GT.many_upd]
    exact I.guard0 hc
  have nD : Da ≠ c := fun z => by
    subst z
    rw [gc.1] at hP
    cases hP
  have oD := of Da _ hP
  have hP1 : L2.upd P c (.lst []) Da = some (DicG Da xs ep) := by rw [L2.upd_ne nD]; exact hP
  have I2 : BI K mg (G.many (L2.upd (L2.upd P c (.lst [])) Da (DicG Da (putE xs k T (.ref c)) ep'))) F io β σ (upd (upd H c (.lst [])) Da (DicG Da (putE xs k T (.ref c)) ep')) := by
    rw [GT.many_upd (P := L2.upd P c (.lst []))]
    exact I1.guardG (orH_some hP1) (fun c q => dicG_nc c q) oD.1 oD.2.2
  refine ⟨_, (of.upd (Same.free I.sf hc) gc.2 (I.nio hc)).upd oD.1 oD.2.1 oD.2.2, ⟨putE xs k T (.ref c), ep', upd_same, ?_⟩, I2⟩
  have nx : k ∉ xs.map (·.1) := fun z => by
    obtain ⟨x, hx, e⟩ := List.mem_map.mp z
    obtain ⟨i, hi⟩ := List.mem_iff_getElem?.mp hx
    have il : i < l.length := by rw [← he.len]; exact (List.getElem?_eq_some_iff.mp hi).1
    have := he.at_ i x _ hi (List.getElem?_eq_getElem il)
    exact nk (List.mem_map.mpr ⟨_, List.getElem_mem il, by rw [← this.1, e]⟩)
  have ex : putE xs k T (.ref c) = xs ++ [(k, T, .ref c)] := if_neg nx
  rw [ex]
  exact (he.snoc hT nk gc.1).updD hP1
end
section
variable {X : Cx}
abbrev teK (mk : M Rs) : Addr → L2.St → Hp → (Hp → Prop) → Prop := teD (gOf X.K X.mg (fun _ _ _ _ => False) (relE X.K X.mg) mk) (tLst tNil)
theorem endokK {mk : M Rs} {G : GT} {io : List Addr} {F P H : Hp} {β : B.Env} {σ : L2.St} {D : Addr} {l : KL} {Nx : Hp → Prop} (I : BI X.K X.mg (G.many P) F io β σ H) (of : Off G F io P) (kd : KDp X.K X.mg F P D l)
    (hm : match stK mk l β with
      | .ok l' β' => ∀ F' H' P', FE G io F F' → Off G F' io P' → KDp X.K X.mg F' P' D l' → BI X.K X.mg (G.many P') F' io β' σ H' → Nx H'
      | _ => False) : teK (X := X) mk D σ H Nx := by
  refine ⟨G.many P, io, F, β, I, ?_⟩
  unfold stK bnd R.bnd at hm
  cases em : mk β with
  | stuck => rw [em] at hm; exact hm.elim
  | exc x β' => rw [em] at hm; exact hm.elim
  | ok rk β4 =>
    rw [em] at hm
    intro y H4 F4 fe4 I4 rr
    obtain ⟨F5, fe5, I5, dk⟩ := I4.freezeR rr
    simp only at hm
    cases ek : tupI? rk.d with
    | none => rw [ek] at hm; exact hm.elim
    | some k =>
      rw [ek] at hm
      simp only at hm
      by_cases hl : l.length < sizeLine ∧ k ∉ l.map (·.1)
      · rw [if_pos hl] at hm
        obtain ⟨T, ey, hT⟩ := dr_tupI dk ek
        have fe := fe4.trans fe5
        have of5 := of.fe fe
        obtain ⟨xs, ep, hP, he⟩ := kd.mono fe.same
        refine ⟨Nat.zero_le _, fun c hc => ?_⟩
        have hD : H4 D = some (DicG D xs ep) := I5.sg.g _ _ (orH_some hP)
        have kp : ∀ b o, H4 b = some o → upd H4 c (.lst []) b = some o := fun b o e => by rw [L2.upd_ne (ne_of_none e hc)]; exact e
        refine ⟨T, k, xs, ep, ey, kp _ _ (I5.sf _ _ hT), kp _ _ hD, fun x hx => kp _ _ (I5.sf _ _ (he.key x hx)), by rw [he.len]; exact hl.1, fun ep' => ?_⟩
        obtain ⟨P', o', k', J⟩ := k_snoc I5 of5 hP he hT hl.2 hc ep'
        exact hm F5 _ P' fe.one o' k' J
      · rw [if_neg hl] at hm
        exact hm.elim
theorem tCc_K {mi : M (List D)} {g : D → M Unit} {mt : M Bool} {mk : M Rs} {vs : List Nat} {W : WX} {σ : L2.St} {H : Hp} {Q : VK} (h : gOf X.K X.mg W (relK X.K X.mg) (mCompG vs mi g mt (stK mk) []) σ H Q) :
    tCc (iOf X.K X.mg W mi) (gOfT X.K X.mg vs g) (gOf X.K X.mg (fun _ _ _ _ => False) relB mt) (teK (X := X) mk) (fun D => DicG D [] 0) vs σ H Q := by
  obtain ⟨G, io, F, β, I, h⟩ := h
  refine ⟨G, io, F, β, I, h.bnd fun ds β1 J H1 F1 fe1 I1 r1 h1 => ?_⟩
  intro Da hD
  have gD : G Da = none := I1.sg.free hD
  have fD : F1 Da = none := Same.free I1.sf hD
  have nio : Da ∉ io := I1.nio hD
  unfold compGV at h1
  by_cases hno : noOwn β1 vs = true
  case neg =>
    rw [if_neg hno] at h1
    exact h1.elim
  rw [if_pos hno] at h1
  obtain ⟨fin, fin0, fin1⟩ : ∃ fin : B.R KL → Prop, fin (compG g mt (stK mk) vs ds [] (wipeB β1 vs)) ∧ ∀ r, fin r → ∃ acc β', r = .ok acc β' ∧
      ∀ v H' F', FE G io F F' → BI X.K X.mg G F' io (backB β1 β' vs) σ H' → relK X.K X.mg G F' io H' (backB β1 β' vs) σ v acc → Q v H' := by
    refine ⟨fun r => ∃ acc β', r = .ok acc β' ∧ ∀ v H' F', FE G io F F' → BI X.K X.mg G F' io (backB β1 β' vs) σ H' → relK X.K X.mg G F' io H' (backB β1 β' vs) σ v acc → Q v H', ?_, fun r h => h⟩
    cases e : compG g mt (stK mk) vs ds [] (wipeB β1 vs) with
    | ok acc β' => rw [e] at h1; exact ⟨acc, β', rfl, h1⟩
    | stuck => rw [e] at h1; exact h1.elim
    | exc x β' => rw [e] at h1; exact h1.elim
  have st0 : BI X.K X.mg (G.many (L2.upd (fun _ => none) Da (DicG Da [] 0))) F1 io (wipeB β1 vs) (wipe σ vs) (upd H1 Da (DicG Da [] 0)) := by
    rw [GT.many_upd, GT.many0]
    exact (I1.wipe vs rfl rfl).guard0 hD
  have of0 : Off G F1 io (L2.upd (fun _ => none) Da (DicG Da [] 0)) := Off.upd (fun b o e => by cases e) fD gD nio
  have kd0 : KDp X.K X.mg F1 (L2.upd (fun _ => none) Da (DicG Da [] 0)) Da [] := ⟨[], 0, upd_same, rfl, fun i x p h => (by cases h), fun i j x y h => (by cases h), fun i j x y h => (by cases h)⟩
  refine ⟨fun i m H => i ≤ ds.length ∧ m = ds.length - i ∧ ∃ F' β' acc P, FE G io F1 F' ∧ Off G F' io P ∧ KDp X.K X.mg F' P Da acc ∧ BI X.K X.mg (G.many P) F' io β' (wipe σ vs) H ∧ fin (compG g mt (stK mk) vs (ds.drop i) acc β'),
    ⟨ds.length, Nat.zero_le _, rfl, F1, _, [], _, .refl, of0, kd0, st0, fin0⟩, ?_⟩
  rintro i m H2 ⟨hi, rfl, F2, β2, acc, P2, fe2, of2, kd2, I2, h2⟩
  by_cases hlt : i < ds.length
  · have ed : ds[i]? = some ds[i] := List.getElem?_eq_getElem hlt
    rw [(List.getElem_cons_drop hlt).symm] at h2
    obtain ⟨go, yld⟩ := (r1 i H2 (fe2.same.trans I2.sf)).1 _ ed
    refine .inr ⟨go, fun H' => ∃ F' β' acc P, FE G io F1 F' ∧ Off G F' io P ∧ KDp X.K X.mg F' P Da acc ∧ BI X.K X.mg (G.many P) F' io β' (wipe σ vs) H' ∧ fin (compG g mt (stK mk) vs (ds.drop (i + 1)) acc β'),
      fun H' ⟨F', β', acc', P', z⟩ => ⟨ds.length - (i + 1), by omega, hlt, rfl, F', β', acc', P', z⟩, fun x H3 hy => ?_⟩
    obtain ⟨F3, fe3, I3, r3⟩ := I2.step (yld F2 fe2.same I2.sf x H3 hy)
    refine ⟨G.many P2, io, F3, β2, ds[i], I3, r3, ?_⟩
    obtain ⟨acc9, β9, e9, _⟩ := fin1 _ h2
    simp only [compG] at h2 e9
    cases e1 : g ds[i] β2 with
    | stuck => rw [e1] at e9; cases e9
    | exc x β => rw [e1] at e9; cases e9
    | ok u β4 =>
      rw [e1] at h2 e9
      simp only at h2 e9 ⊢
      intro σ4 H4 F4 bu fe4 I4
      have ew : wipe σ4 vs = wipe σ vs := bu.wipe.trans (wipe_wipe σ vs)
      have hl4 : σ.length = σ4.length := by rw [bu.1, wipe_length]
      refine ⟨ew, G.many P2, io, F4, β4, I4, ?_⟩
      cases e2 : mt β4 with
      | stuck => rw [e2] at e9; cases e9
      | exc x β => rw [e2] at e9; cases e9
      | ok b β5 =>
        rw [e2] at h2 e9
        intro v H5 F5 fe5 I5 rv
        cases (show v = b from rv)
        have fe25 := (fe3.trans fe4).trans fe5
        have of5 := of2.fe fe25
        have kd5 := kd2.mono fe25.same
        cases b with
        | false =>
          simp only at h2
          rw [if_neg Bool.false_ne_true]
          exact ⟨F5, _, acc, P2, fe2.trans fe25.one, of5, kd5, I5.wipe vs ew hl4, h2⟩
        | true =>
          simp only at h2 e9
          rw [if_pos rfl]
          refine endokK I5 of5 kd5 ?_
          cases e3 : stK mk acc β5 with
          | stuck => rw [e3] at e9; cases e9
          | exc x β => rw [e3] at e9; cases e9
          | ok acc' β6 =>
            rw [e3] at h2
            simp only at h2 ⊢
            intro F6 H6 P6 fe6 of6 kd6 I6
            exact ⟨F6, _, acc', P6, fe2.trans (fe25.one.trans fe6), of6, kd6, I6.wipe vs ew hl4, h2⟩
  · obtain rfl : i = ds.length := by omega
    rw [List.drop_length] at h2
    obtain ⟨acc9, β9, e9, k9⟩ := fin1 _ h2
    cases e9
    have Ib := (I2.unmany of2).back I1 fe2.same hno
    refine .inl ⟨(r1 _ H2 (fe2.same.trans I2.sf)).2 (Nat.le_refl _), k9 _ _ F2 (fe1.trans fe2) Ib ⟨Da, P2, rfl, of2, kd2, fun b o e => I2.sg.g _ _ (orH_some e), fun j s b es hs z => ?_⟩⟩
    cases s with
    | own b' d =>
      have hl : β1.length = β2.length := by rw [I1.len, I2.len, wipe_length]
      have hj : j ∉ vs := fun hj => by
        have e1 := backB_in β1 β2 hl vs _ hj es
        have e2 := List.all_eq_true.mp hno j hj
        rw [e1] at e2
        cases e2
      rw [backB_out β1 β2 vs hj] at es
      obtain ⟨w, ew, a, q, f', g', _⟩ := I2.sl j _ es
      rw [wipe_out σ vs hj, z] at ew
      cases ew
      cases q
      exact (GT.many_none g').1
    | ex z0 => cases hs
    | gh _ => cases hs
    | un => cases hs
    | fz _ => cases hs
def mKd (vs : List Nat) (mi : M (List D)) (g : D → M Unit) (mt : M Bool) (mk : M Rs) : M KL := mCompG vs mi g mt (stK mk) []
theorem bkd_comp {kx tg iter : Expr} {ifs : List Expr} {scope : Scope} {own : List (Str × Nat)} {pos p2 : Pos} {mi : M (List D)} {g : D → M Unit} {mt : M Bool} {mk : M Rs} {vs : List Nat} (hc : X.calm = true) (hN : X.N.Nodup) (hu : X.A.units + 64 < cLine) (hi : BIt X tg iter mi) (hvs : own.map (·.2) = vs)
    (ok : BlkOk X.N X.env.scope scope own)
    (hg : ∀ (s : Shared) (H : Hp) (C : Addr) (cl : List (Str × Addr)) (fp : List Addr), BG (X.blk s H scope (PySem.compEnvC scope cl C X.env) fp) vs tg g) (ht : ∀ (s : Shared) (H : Hp) (C : Addr) (cl : List (Str × Addr)) (fp : List Addr), BTs (X.blk s H scope (PySem.compEnvC scope cl C X.env) fp) ifs mt)
    (hk : ∀ (s : Shared) (H : Hp) (C : Addr) (cl : List (Str × Addr)) (fp : List Addr), BE (X.blk s H scope (PySem.compEnvC scope cl C X.env) fp) kx mk) (hs : ∀ x, foldedSetIterable iter X.env x = pure x := by intro _; rfl) :
    BKd X (.DictComp kx (.List [] p2) [⟨tg, iter, ifs, 0⟩] scope pos) (mKd vs mi g mt mk) := by
  subst hvs
  have hE : ∀ (s : Shared) (H : Hp) (C : Addr) (cl : List (Str × Addr)) (fp : List Addr), EndR (X.blk s H scope (PySem.compEnvC scope cl C X.env) fp) (enD X.prog X.w kx (.List [] p2)) (teK (X := X) mk) := by
    intro s H C cl fp
    have h1 := hk s H C cl fp (fun _ _ _ _ => False) takes0
    exact endD hu h1 (pe_lst pa_nil)
  intro W tk
  have pe := pe_cc (ckD X.prog X.w kx (.List [] p2) tg iter ifs scope pos) (arm_eval_DictComp kx (.List [] p2) _ scope pos X.env) hc hN (hi W tk) ok (g := gOfT X.K X.mg (own.map fun (q : Str × Nat) => q.2) g) (tt := gOf X.K X.mg (fun _ _ _ _ => False) relB mt)
    (te := teK (X := X) mk) (o0 := fun D => DicG D [] 0) (fun h H hb => dic_empty X.prog X.w h H hb) hg (fun s H C cl fp => ht s H C cl fp _ takes0) hE hs
  exact pe.imp fun σ H Q h => tCc_K h
end
end B

set_option Elab.async false
set_option linter.all false
set_option maxRecDepth 100000
set_option maxHeartbeats 4000000
namespace B
open PySem PySem.Spec L2 PyProof.Rows
/-! # statements that change the lists of such a dict -/
def KPost (K : PySem.W.Frag) (mg : Str → Option Value) (W : WX) (G : GT) (F : Hp) (io : List Addr) (i : Nat) (a : Addr) (r : B.R KL) (D : Ends) : Prop := match r with
  | .stuck => False
  | .ok l β => ∀ σ H' F' P', FE G io F F' → Off G F' io P' → KDp K mg F' P' a l → BI K mg (G.many P') F' io β σ H' → σ[i]? = some (some (V.ref a)) → D.nx σ H'
  | .exc x β => ∀ σ cls d H' F', FE G io F F' → BI K mg G F' io β σ H' → XR K mg F' cls d x → W cls d σ H'
def kOf (K : PySem.W.Frag) (mg : Str → Option Value) (W : WX) (i : Nat) (m : KL → M KL) : TS := fun D σ H => ∃ G io F β P a l, Off G F io P ∧ KDp K mg F P a l ∧ BI K mg (G.many P) F io β σ H ∧ σ[i]? = some (some (V.ref a)) ∧ KPost K mg W G F io i a (m l β) D
def KS (X : Cx) (i : Nat) (st : Stmt) (m : KL → M KL) : Prop := ∀ W, Takes X W → PS X st (kOf X.K X.mg W i m)
def KSs (X : Cx) (i : Nat) (sts : List Stmt) (m : KL → M KL) : Prop := ∀ W, Takes X W → PSs X sts (kOf X.K X.mg W i m)
section
variable {K : PySem.W.Frag} {mg : Str → Option Value} {W : WX} {G : GT} {F F1 P : Hp} {io : List Addr} {σ : L2.St} {D : Ends} {i : Nat} {a : Addr}
theorem KPost.mono {r : B.R KL} (h : KPost K mg W G F io i a r D) (fe : FE G io F F1) : KPost K mg W G F1 io i a r D := by
  cases r with
  | stuck => exact h
  | ok l β => exact fun σ H' F' P' fe' => h σ H' F' P' (fe.trans fe')
  | exc x β => exact fun σ c d H' F' fe' => h σ c d H' F' (fe.trans fe')
theorem KPost.of {α γ : Type} {Rel : GT → Hp → List Addr → Hp → B.Env → L2.St → γ → α → Prop} {r : B.R α} {f : α → B.Env → B.R KL} {Q : γ → Hp → Prop} (of : Off G F io P) (h : KPost K mg W G F io i a (r.bnd f) D)
    (k : ∀ x β v H' F', FE (G.many P) io F F' → Off G F' io P → BI K mg (G.many P) F' io β σ H' → Rel (G.many P) F' io H' β σ v x → KPost K mg W G F' io i a (f x β) D → Q v H') : Post K mg W Rel (G.many P) F io σ r Q := by
  cases r with
  | stuck => exact h
  | ok x β => exact fun v H' F' fe I r => k x β v H' F' fe (of.fe fe) I r (KPost.mono h fe.one)
  | exc x β => exact fun cls d H' F' fe I xr => h σ cls d H' F' fe.one (I.unmany (of.fe fe)) xr
end
section
variable {X : Cx} {i : Nat} {st : Stmt} {rest : List Stmt} {m n : KL → M KL} {pos : Pos}
theorem ks_one (h : KS X i st m) : KSs X i [st] m := fun W tk => pss_one (h W tk)
def seqK (m n : KL → M KL) : KL → M KL := fun l => bnd (m l) n
theorem ks_cons (h1 : KS X i st m) (h2 : KSs X i rest n) : KSs X i (st :: rest) (seqK m n) := by
  refine fun W tk => (pss_cons (h1 W tk) (h2 W tk)).imp fun D σ H ⟨G, io, F, β, P, a, l, of, kd, I, eσ, h⟩ => ⟨G, io, F, β, P, a, l, of, kd, I, eσ, ?_⟩
  unfold seqK bnd at h
  cases e : m l β with
  | stuck => rw [e] at h; exact h.elim
  | exc x β' => rw [e] at h; exact h
  | ok l' β' =>
    rw [e] at h
    exact fun σ1 H1 F1 P1 fe1 of1 kd1 I1 e1 => ⟨G, io, F1, β', P1, a, l', of1, kd1, I1, e1, KPost.mono h fe1⟩
/-- x[k].append(v) -/
def finApp (l : KL) (k : List Int) (rv : Rs) : M KL := if (l.all fun p => decide (p.1 ≠ k) || decide (p.2.length < sizeLine)) = true then ret (appL l k rv.d) else stk
def midApp (l : KL) (mv : M Rs) (rk : Rs) : M KL := match tupI? rk.d with
  | some k => if k ∈ l.map (·.1) then bnd mv fun rv => finApp l k rv else stk
  | none => stk
def mApp (mk mv : M Rs) : KL → M KL := fun l => bnd mk fun rk => midApp l mv rk
theorem ks_app {x : Str} {kx vx : Expr} {p p1 apos cpos spos : Pos} {mk mv : M Rs} (hu : X.A.units + 64 < cLine) (hk : BE X kx mk) (hvx : BE X vx mv) (pa : PlainAttrs "list") (slot : Slot "list" "append" "list.append") (hty : typeOf (.builtin "list.append") = pure (.type "method_descriptor"))
    (hN : X.N[i]? = some x := by rfl) (hv : Vis X.env.scope x := by first | exact Or.inl rfl | exact Or.inr (Or.inl rfl) | exact Or.inr (Or.inr rfl)) (hd : (x == ("__debug__" : Str)) = false := by decide)
    (hcd : (x == ("__classdict__" : Str)) = false := by decide) (hs : PlainIx kx := by exact fun _ _ => rfl)
    (hbase : attributeBase (.Subscript (.Name x p) kx p1) "append" X.env (eval (.Subscript (.Name x p) kx p1) X.env) = eval (.Subscript (.Name x p) kx p1) X.env := by rfl)
    (hfew : ((backTo cpos (starEach [vx] X.env)).all (fun x => !x.1) && (backToKw cpos (keywordEach [] X.env)).all (fun x => x.1.isSome)
      && decide (([vx] : List Expr).length + ([] : List Keyword).length + (if ([] : List Keyword).isEmpty then 0 else 1) < 30)) = true := by rfl)
    (hline : (apos.endLine == cpos.line) = true := by rfl) (hst : starEach [vx] X.env = (false, eval vx X.env) :: starEach [] X.env := by rfl) (hplain : (backTo cpos (starEach [] X.env)).any (·.1) = false := by rfl)
    (hsw : swapsWith (.Call (.Attribute (.Subscript (.Name x p) kx p1) "append" apos) [vx] [] cpos) none spos.line X.env = pure false := by rfl) :
    KS X i (.Expr (.Call (.Attribute (.Subscript (.Name x p) kx p1) "append" apos) [vx] [] cpos) spos) (mApp mk mv) := by
  refine fun W tk => (ps_expr (pe_bm pa slot hty mt_append (pe_ix (ix_G hu) (pe_var hN hv hd hcd) (hk W tk) hs) ((ba_cons (bp_of hvx) ba_nil hst) W tk) hbase hfew hline hst hplain) hsw).imp fun D σ H ⟨G, io, F, β, P, a, l, of, kd, I, eσ, h⟩ => ?_
  refine ⟨_, eσ, G.many P, io, F, β, I, KPost.of (f := fun rk => midApp l mv rk) of h fun rk β1 y H1 F1 fe1 of1 I1 r1 h1 => ?_⟩
  obtain ⟨F2, fe2, I2, dk⟩ := I1.freezeR r1
  have of2 := of1.fe fe2
  have kd2 := kd.mono (fe1.trans fe2).same
  have h2 := KPost.mono h1 fe2.one
  unfold midApp at h2
  cases ek : tupI? rk.d with
  | none => rw [ek] at h2; exact h2.elim
  | some k =>
    rw [ek] at h2
    simp only at h2
    by_cases hk1 : k ∈ l.map (·.1)
    case neg => rw [if_neg hk1] at h2; exact h2.elim
    rw [if_pos hk1] at h2
    obtain ⟨T, ey, hT⟩ := dr_tupI dk ek
    obtain ⟨xs, ep, hP, he⟩ := kd2
    obtain ⟨j, x1, p1, c, vs, hx, hp, e1, e2, e3, e4, e5, e6⟩ := he.find hk1
    have hc1 : H1 c = some (.lst vs) := I2.sg.g _ _ (orH_some e4)
    refine ⟨T, k, a, xs, ep, .ref c, rfl, ey, I2.sf _ _ hT, I2.sg.g _ _ (orH_some hP), fun x hx => I2.sf _ _ (he.key x hx), e6, isTy_v (K := X.K) (mg := X.mg) (F := F2) (d := .nd .lst p1.2) (.lst hc1 e5) rfl, G.many P, io, F2, β1, I2, ?_⟩
    have h3 : KPost X.K X.mg W G F2 io i a (((mCons (mP mv) mNil) β1).bnd fun ps => match ps with
      | [.d d] => finApp l k (.fz d)
      | _ => stk) D := by
      unfold mCons mP mNil bnd at *
      cases em : mv β1 with
      | stuck => rw [em] at h2; exact h2.elim
      | exc x β => rw [em] at h2; exact h2
      | ok rv β2 => rw [em] at h2; exact h2
    refine KPost.of of2 h3 fun ps β3 us H3 F3 fe3 of3 I3 r3 h4 => ?_
    cases r3 with
    | nil => exact h4.elim
    | @cons u us p ps r3 rr =>
      cases rr with
      | cons _ _ => cases p <;> exact h4.elim
      | nil =>
        cases p with
        | sl _ => exact h4.elim
        | d d =>
          have dv : DR X.K X.mg F3 u d := r3
          simp only at h4
          unfold finApp at h4
          by_cases ha : (l.all fun p => decide (p.1 ≠ k) || decide (p.2.length < sizeLine)) = true
          case neg => rw [if_neg ha] at h4; exact h4.elim
          rw [if_pos ha] at h4
          have lz : vs.length < sizeLine := by
            rw [e5.length]
            have := List.all_eq_true.mp ha p1 (List.mem_iff_getElem?.mpr ⟨j, hp⟩)
            simpa [e1] using this
          have oc := of3 c _ e4
          have J : BI X.K X.mg (G.many (L2.upd P c (.lst (vs ++ [u])))) F3 io β3 σ (upd H3 c (.lst (vs ++ [u]))) := by
            rw [GT.many_upd]
            exact I3.guardG (orH_some e4) (fun c q => by unfold LamX.CodeO; nofun) oc.1 oc.2.2
          have nD : a ≠ c := fun z => by
            subst z
            rw [e4] at hP
            exact lst_ne_dic (Option.some.inj hP)
          exact ⟨c, vs, u, rfl, rfl, I3.sg.g _ _ (orH_some e4), lz, h4 σ _ F3 _ .refl (of3.upd oc.1 oc.2.1 oc.2.2) ⟨xs, ep, by rw [L2.upd_ne nD]; exact hP, (he.mono fe3.same).app hx e2 e3 e4 dv⟩ J eσ⟩
end
end B

set_option Elab.async false
set_option linter.all false
set_option maxRecDepth 100000
set_option maxHeartbeats 4000000
namespace B
open PySem PySem.Spec L2 PyProof.Rows
/-! # loops over such statements; the block -/
def forK (g : D → M Unit) (b : KL → M KL) : List D → KL → M KL
  | [], l => ret l
  | d :: ds, l => fun β => match g d β with
    | .ok _ β' => (match b l β' with
      | .ok l' β'' => forK g b ds l' β''
      | .exc x β'' => .exc x β''
      | .stuck => .stuck)
    | _ => .stuck
def mForK (mi : M (List D)) (g : D → M Unit) (b : KL → M KL) : KL → M KL := fun l => bnd mi fun ds => forK g b ds l
section
variable {X : Cx} {i : Nat} {st : Stmt} {rest : List Stmt} {m n : KL → M KL} {pos : Pos}
theorem ks_for {tg iter : Expr} {body : List Stmt} {mi : M (List D)} {g : D → M Unit} {vs : List Nat} {mb : KL → M KL} (hp : PassesOwn (model X.prog X.w) X.A X.env X.xe) (hc : X.calm = true) (hi : BIt X tg iter mi) (hg : BG X vs tg g) (hb : KSs X i body mb) (hv : i ∉ vs)
    (hs : ∀ x, foldedSetIterable iter X.env x = pure x := by intro _; rfl) : KS X i (.For tg iter body [] pos) (mForK mi g mb) := by
  refine fun W tk => (ps_for hp hc (hi W tk) hg (hb W tk) hs).imp fun D σ H ⟨G, io, F, β, P, a, l, of, kd, I, eσ, h⟩ => ⟨G.many P, io, F, β, I, KPost.of (f := fun ds => forK g mb ds l) of h fun ds β1 J H1 F1 fe1 of1 I1 r1 h1 => ?_⟩
  refine ⟨fun j m σ H => j ≤ ds.length ∧ m = ds.length - j ∧ ∃ F' β' P' l', FE G io F1 F' ∧ Off G F' io P' ∧ KDp X.K X.mg F' P' a l' ∧ BI X.K X.mg (G.many P') F' io β' σ H ∧ σ[i]? = some (some (V.ref a)) ∧ KPost X.K X.mg W G F' io i a (forK g mb (ds.drop j) l' β') D,
    ⟨ds.length, Nat.zero_le _, rfl, F1, β1, P, l, .refl, of1, kd.mono fe1.same, I1, eσ, h1⟩, ?_⟩
  rintro j m σ2 H2 ⟨hj, rfl, F2, β2, P2, l2, fe2, of2, kd2, I2, e2, h2⟩
  by_cases hlt : j < ds.length
  · have ed : ds[j]? = some ds[j] := List.getElem?_eq_getElem hlt
    have edr : ds.drop j = ds[j] :: ds.drop (j + 1) := (List.getElem_cons_drop hlt).symm
    obtain ⟨go, yld⟩ := (r1 j H2 (fe2.same.trans I2.sf)).1 _ ed
    rw [edr] at h2
    simp only [forK] at h2
    refine .inr ⟨go, fun σ' H' => ∃ F' β' P' l', FE G io F1 F' ∧ Off G F' io P' ∧ KDp X.K X.mg F' P' a l' ∧ BI X.K X.mg (G.many P') F' io β' σ' H' ∧ σ'[i]? = some (some (V.ref a)) ∧ KPost X.K X.mg W G F' io i a (forK g mb (ds.drop (j + 1)) l' β') D,
      fun σ' H' ⟨F', β', P', l', z⟩ => ⟨ds.length - (j + 1), by omega, hlt, rfl, F', β', P', l', z⟩, fun x H3 hy => ?_⟩
    obtain ⟨F3, fe3, I3, r3⟩ := I2.step (yld F2 fe2.same I2.sf x H3 hy)
    refine ⟨G.many P2, io, F3, β2, ds[j], I3, r3, ?_⟩
    cases e1 : g ds[j] β2 with
    | stuck => rw [e1] at h2; exact h2.elim
    | exc x β => rw [e1] at h2; exact h2.elim
    | ok u β4 =>
      rw [e1] at h2
      simp only at h2 ⊢
      intro σ4 H4 F4 bu fe4 I4
      have fe24 := fe3.trans fe4
      have fe14 := fe2.trans fe24.one
      have h3 := KPost.mono h2 fe24.one
      refine ⟨G, io, F4, β4, P2, a, l2, of2.fe fe24, kd2.mono fe24.same, I4, by rw [bu.2 i hv]; exact e2, ?_⟩
      cases e5 : mb l2 β4 with
      | stuck => rw [e5] at h3; exact h3.elim
      | exc x β5 => rw [e5] at h3; exact h3
      | ok l5 β5 =>
        rw [e5] at h3
        exact fun σ5 H5 F5 P5 fe5 of5 kd5 I5 es5 => ⟨F5, β5, P5, l5, fe14.trans fe5, of5, kd5, I5, es5, KPost.mono h3 fe5⟩
  · have e : j = ds.length := by omega
    subst e
    rw [List.drop_length] at h2
    exact .inl ⟨(r1 _ H2 (fe2.same.trans I2.sf)).2 (Nat.le_refl _), h2 σ2 H2 F2 P2 .refl of2 kd2 I2 e2⟩
/-- x = {..}; st; rest -/
def inK (i : Nat) (ms : KL → M KL) (l : KL) : M KL := fun β => if i < β.length then ms l (β.set i .un) else .stuck
def outK (i : Nat) (n : M Fl) (l : KL) : M Fl := fun β => n (β.set i (.fz (dcgD (kData l))))
def mBlkK (i : Nat) (me : M KL) (ms : KL → M KL) (n : M Fl) : M Fl := bnd me fun l => bnd (inK i ms l) (outK i n)
end
end B

set_option Elab.async false
set_option linter.all false
set_option maxRecDepth 100000
set_option maxHeartbeats 4000000
namespace B
open PySem PySem.Spec L2 PyProof.Rows
/-! # list comprehensions of two clauses -/
def comp2L (g : D → M Unit) (mt : M Bool) (mi1 : M (List D)) (g1 : D → M Unit) (mt1 : M Bool) (me : M Rs) (vs vs1 : List Nat) : List D → List D → M (List D)
  | [], acc => ret acc
  | d :: ds, acc => fun β => match g d β with
    | .ok _ β1 => (match mt β1 with
      | .ok true β2 => (match mi1 β2 with
        | .ok ds1 β3 => (match compL g1 mt1 me vs1 ds1 acc (wipeB β3 vs1) with
          | .ok acc' β4 => comp2L g mt mi1 g1 mt1 me vs vs1 ds acc' (wipeB β4 vs)
          | _ => .stuck)
        | _ => .stuck)
      | .ok false β2 => comp2L g mt mi1 g1 mt1 me vs vs1 ds acc (wipeB β2 vs)
      | _ => .stuck)
    | _ => .stuck
def comp2V (g : D → M Unit) (mt : M Bool) (mi1 : M (List D)) (g1 : D → M Unit) (mt1 : M Bool) (me : M Rs) (vs vs1 : List Nat) (ds : List D) : M Rs := fun β1 => if noOwn β1 vs = true then (match comp2L g mt mi1 g1 mt1 me vs vs1 ds [] (wipeB β1 vs) with
  | .ok acc β => .ok (.own (.nd .lst acc)) (backB β1 β vs)
  | _ => .stuck) else .stuck
def mComp2 (vs vs1 : List Nat) (mi : M (List D)) (g : D → M Unit) (mt : M Bool) (mi1 : M (List D)) (g1 : D → M Unit) (mt1 : M Bool) (me : M Rs) : M Rs := bnd mi (comp2V g mt mi1 g1 mt1 me vs vs1)
theorem wipe_sub (σ : L2.St) {vs vs1 : List Nat} (h : ∀ i ∈ vs1, i ∈ vs) : L2.wipe (L2.wipe σ vs1) vs = L2.wipe σ vs := by
  refine List.ext_getElem? fun j => ?_
  by_cases hj : j ∈ vs
  · by_cases hl : j < σ.length
    · rw [wipe_in σ hl vs hj, wipe_in _ (by rw [wipe_length]; exact hl) vs hj]
    · rw [List.getElem?_eq_none (by rw [wipe_length, wipe_length]; omega), List.getElem?_eq_none (by rw [wipe_length]; omega)]
  · rw [wipe_out _ vs hj, wipe_out σ vs1 (fun z => hj (h j z)), wipe_out σ vs hj]
section
variable {X : Cx}
theorem tLc2_of {mi mi1 : M (List D)} {g g1 : D → M Unit} {mt mt1 : M Bool} {me : M Rs} {vs vs1 : List Nat} {W : WX} {σ : L2.St} {H : Hp} {Q : VK} (hv : ∀ i ∈ vs1, i ∈ vs)
    (h : gOf X.K X.mg W (relE X.K X.mg) (mComp2 vs vs1 mi g mt mi1 g1 mt1 me) σ H Q) :
    tLc2 (iOf X.K X.mg W mi) (gOfT X.K X.mg vs g) (gOf X.K X.mg (fun _ _ _ _ => False) relB mt) (iOf X.K X.mg (fun _ _ _ _ => False) mi1) (gOfT X.K X.mg vs1 g1) (gOf X.K X.mg (fun _ _ _ _ => False) relB mt1) (gOf X.K X.mg (fun _ _ _ _ => False) (relE X.K X.mg) me) vs vs1 σ H Q := by
  obtain ⟨G, io, F, β, I, h⟩ := h
  refine ⟨G, io, F, β, I, h.bnd fun ds β1 J H1 F1 fe1 I1 r1 h1 => ?_⟩
  intro Da hD
  unfold comp2V at h1
  split at h1
  case isFalse => exact h1.elim
  rename_i hno
  have gD : G Da = none := I1.sg.free hD
  have nio : Da ∉ io := I1.nio hD
  obtain ⟨fin, hfin, hok⟩ : ∃ fin : B.R (List D) → Prop, fin (comp2L g mt mi1 g1 mt1 me vs vs1 ds [] (wipeB β1 vs)) ∧ ∀ r, fin r → ∃ acc β', r = .ok acc β' ∧ ∀ v H' F', FE G io F F' → BI X.K X.mg G F' io (backB β1 β' vs) σ H' → RR X.K X.mg G F' io H' (backB β1 β' vs) σ v (.own (.nd .lst acc)) → Q v H' := by
    refine ⟨fun r => ∃ acc β', r = .ok acc β' ∧ ∀ v H' F', FE G io F F' → BI X.K X.mg G F' io (backB β1 β' vs) σ H' → RR X.K X.mg G F' io H' (backB β1 β' vs) σ v (.own (.nd .lst acc)) → Q v H', ?_, fun r h => h⟩
    split at h1
    · rename_i acc β' e
      exact ⟨acc, β', e, h1⟩
    · exact h1.elim
  have st0 : Mid X.K X.mg G F1 io σ vs Da F1 (wipeB β1 vs) [] [] (upd H1 Da (.lst [])) :=
    ⟨.refl, Same.free I1.sf hD, upd_same, .nil, (I1.wipe vs rfl rfl).guard0 hD⟩
  refine ⟨fun i m H => i ≤ ds.length ∧ m = ds.length - i ∧ ∃ F' β' acc us, Mid X.K X.mg G F1 io σ vs Da F' β' acc us H ∧ fin (comp2L g mt mi1 g1 mt1 me vs vs1 (ds.drop i) acc β'), ⟨ds.length, Nat.zero_le _, rfl, F1, _, [], [], st0, hfin⟩, ?_⟩
  rintro i m H2 ⟨hi, rfl, F2, β2, acc, us, M2, h2⟩
  by_cases hlt : i < ds.length
  · have ed : ds[i]? = some ds[i] := List.getElem?_eq_getElem hlt
    have edr : ds.drop i = ds[i] :: ds.drop (i + 1) := (List.getElem_cons_drop hlt).symm
    obtain ⟨go, yld⟩ := (r1 i H2 (M2.fe.same.trans M2.I.sf)).1 _ ed
    rw [edr] at h2
    obtain ⟨acc9, β9, e9, k9⟩ := hok _ h2
    simp only [comp2L] at h2 e9
    refine .inr ⟨go, fun H' => ∃ F' β' acc us, Mid X.K X.mg G F1 io σ vs Da F' β' acc us H' ∧ fin (comp2L g mt mi1 g1 mt1 me vs vs1 (ds.drop (i + 1)) acc β'), fun H' ⟨F', β', acc, us, M', h'⟩ => ⟨ds.length - (i + 1), by omega, hlt, rfl, F', β', acc, us, M', h'⟩, fun x H3 hy => ?_⟩
    obtain ⟨F3, fe3, I3, r3⟩ := M2.I.step (yld F2 M2.fe.same M2.I.sf x H3 hy)
    refine ⟨G.upd Da (.lst us), io, F3, β2, ds[i], I3, r3, ?_⟩
    cases e1 : g ds[i] β2 with
    | stuck => rw [e1] at e9; cases e9
    | exc x β => rw [e1] at e9; cases e9
    | ok u β4 =>
      rw [e1] at h2 e9
      simp only at h2 e9 ⊢
      intro σ4 H4 F4 bu fe4 I4
      have ew : wipe σ4 vs = wipe σ vs := bu.wipe.trans (wipe_wipe σ vs)
      have hl4 : σ.length = σ4.length := by rw [bu.1, wipe_length]
      refine ⟨ew, G.upd Da (.lst us), io, F4, β4, I4, ?_⟩
      cases e2 : mt β4 with
      | stuck => rw [e2] at e9; cases e9
      | exc x β => rw [e2] at e9; cases e9
      | ok b β5 =>
        rw [e2] at h2 e9
        intro v H5 F5 fe5 I5 rv
        cases (show v = b from rv)
        have fe25 := (fe3.trans fe4).trans fe5
        cases b with
        | false =>
          simp only at h2 e9
          rw [if_neg Bool.false_ne_true]
          have r5 := M2.r.mono fe25.same
          refine ⟨F5, _, acc, us, ⟨M2.fe.trans (fe25.unguard gD), fe25.keepN gD M2.fD, I5.sg.g _ _ upd_same, r5, I5.wipe vs ew hl4⟩, h2⟩
        | true =>
          simp only at h2 e9
          rw [if_pos rfl]
          refine ⟨G.upd Da (.lst us), io, F5, β5, I5, ?_⟩
          cases e3 : mi1 β5 with
          | stuck => rw [e3] at e9; cases e9
          | exc x β => rw [e3] at e9; cases e9
          | ok ds1 β6 =>
            rw [e3] at h2 e9
            simp only at h2 e9
            intro J1 H6 F6 fe6 I6 r6
            have fe26 := fe25.trans fe6
            have fe16 : FE G io F1 F6 := M2.fe.trans (fe26.unguard gD)
            have fD6 : F6 Da = none := fe26.keepN gD M2.fD
            have M6 : Mid X.K X.mg G F6 io σ4 vs1 Da F6 (wipeB β6 vs1) acc us H6 := ⟨.refl, fD6, I6.sg.g _ _ upd_same, M2.r.mono fe26.same, I6.wipe vs1 rfl rfl⟩
            have es : wipe (wipe σ4 vs1) vs = wipe σ vs := (wipe_sub σ4 hv).trans ew
            refine ⟨fun j k H => j ≤ ds1.length ∧ k = ds1.length - j ∧ ∃ F' β' acc us, Mid X.K X.mg G F6 io σ4 vs1 Da F' β' acc us H ∧ fin (match compL g1 mt1 me vs1 (ds1.drop j) acc β' with
              | .ok acc' β4 => comp2L g mt mi1 g1 mt1 me vs vs1 (ds.drop (i + 1)) acc' (wipeB β4 vs)
              | _ => .stuck), ⟨ds1.length, Nat.zero_le _, rfl, F6, _, acc, us, M6, h2⟩, ?_⟩
            rintro j k H7 ⟨hj, rfl, F7, β7, acc7, us7, M7, h7⟩
            by_cases hlt1 : j < ds1.length
            · have ed1 : ds1[j]? = some ds1[j] := List.getElem?_eq_getElem hlt1
              have edr1 : ds1.drop j = ds1[j] :: ds1.drop (j + 1) := (List.getElem_cons_drop hlt1).symm
              obtain ⟨go1, yld1⟩ := (r6 j H7 (M7.fe.same.trans M7.I.sf)).1 _ ed1
              rw [edr1] at h7
              obtain ⟨acc8, β8, e8, k8⟩ := hok _ h7
              simp only [compL] at h7 e8
              refine .inr ⟨go1, fun H' => ∃ F' β' acc us, Mid X.K X.mg G F6 io σ4 vs1 Da F' β' acc us H' ∧ fin (match compL g1 mt1 me vs1 (ds1.drop (j + 1)) acc β' with
                | .ok acc' β4 => comp2L g mt mi1 g1 mt1 me vs vs1 (ds.drop (i + 1)) acc' (wipeB β4 vs)
                | _ => .stuck), fun H' ⟨F', β', acc, us, M', h'⟩ => ⟨ds1.length - (j + 1), by omega, hlt1, rfl, F', β', acc, us, M', h'⟩, fun y H8 hy1 => ?_⟩
              obtain ⟨F8, fe8, I8, r8⟩ := M7.I.step (yld1 F7 M7.fe.same M7.I.sf y H8 hy1)
              refine ⟨G.upd Da (.lst us7), io, F8, β7, ds1[j], I8, r8, ?_⟩
              cases f1 : g1 ds1[j] β7 with
              | stuck => rw [f1] at e8; cases e8
              | exc x β => rw [f1] at e8; cases e8
              | ok u β9 =>
                rw [f1] at h7 e8
                simp only at h7 e8 ⊢
                intro σ9 H9 F9 bu9 fe9 I9
                have ew9 : wipe σ9 vs1 = wipe σ4 vs1 := bu9.wipe.trans (wipe_wipe σ4 vs1)
                have hl9 : σ4.length = σ9.length := by rw [bu9.1, wipe_length]
                refine ⟨ew9, G.upd Da (.lst us7), io, F9, β9, I9, ?_⟩
                cases f2 : mt1 β9 with
                | stuck => rw [f2] at e8; cases e8
                | exc x β => rw [f2] at e8; cases e8
                | ok b1 βa =>
                  rw [f2] at h7 e8
                  intro va Ha Fa fea Ia rva
                  cases (show va = b1 from rva)
                  have fe7a := (fe8.trans fe9).trans fea
                  cases b1 with
                  | false =>
                    simp only at h7 e8
                    rw [if_neg Bool.false_ne_true]
                    have r5 := M7.r.mono fe7a.same
                    exact ⟨Fa, _, acc7, us7, ⟨M7.fe.trans (fe7a.unguard gD), fe7a.keepN gD M7.fD, Ia.sg.g _ _ upd_same, r5, Ia.wipe vs1 ew9 hl9⟩, h7⟩
                  | true =>
                    simp only at h7 e8
                    rw [if_pos rfl]
                    refine ⟨G.upd Da (.lst us7), io, Fa, βa, Ia, ?_⟩
                    cases f3 : me βa with
                    | stuck => rw [f3] at e8; cases e8
                    | exc x β => rw [f3] at e8; cases e8
                    | ok r βb =>
                      rw [f3] at h7 e8
                      simp only at h7 e8
                      intro yb Hb Fb feb Ib rr
                      obtain ⟨Fc, fec, Ic, dr⟩ := Ib.freezeR rr
                      have fe7c := (fe7a.trans feb).trans fec
                      have r7 := M7.r.mono fe7c.same
                      by_cases hz : acc7.length < sizeLine
                      · rw [if_pos hz] at h7
                        refine ⟨us7, Ic.sg.g _ _ upd_same, by rw [M7.r.length]; exact hz, Fc, _, acc7 ++ [r.d], us7 ++ [yb], ⟨M7.fe.trans (fe7c.unguard gD), fe7c.keepN gD M7.fD, upd_same, r7.append (.cons dr .nil), ?_⟩, h7⟩
                        have J := (Ic.wipe vs1 ew9 hl9).guard (o := .lst (us7 ++ [yb])) upd_same (fe7c.keepN gD M7.fD) nio
                        rw [GT.upd_upd] at J
                        exact J
                      · rw [if_neg hz] at e8
                        cases e8
            · have e : j = ds1.length := by omega
              subst e
              rw [List.drop_length] at h7
              have hw : σ.length = (wipe σ4 vs1).length := by rw [wipe_length]; exact hl4
              exact .inl ⟨(r6 _ H7 (M7.fe.same.trans M7.I.sf)).2 (Nat.le_refl _), F7, _, acc7, us7, ⟨fe16.trans M7.fe, M7.fD, M7.at_, M7.r, M7.I.wipe vs es hw⟩, h7⟩
  · have e : i = ds.length := by omega
    subst e
    rw [List.drop_length] at h2
    obtain ⟨acc9, β9, e9, k9⟩ := hok _ h2
    cases e9
    have Ib := (M2.I.unguard gD).back I1 M2.fe.same hno
    refine .inl ⟨(r1 _ H2 (M2.fe.same.trans M2.I.sf)).2 (Nat.le_refl _), k9 _ _ F2 (fe1.trans M2.fe) Ib ⟨Da, rfl, M2.fD, gD, nio, .lst M2.at_ M2.r, fun j s es hs z => ?_⟩⟩
    have hl : β1.length = β2.length := by rw [I1.len, M2.I.len, wipe_length]
    have hj : j ∉ vs := fun hj => by
      have e1 := backB_in β1 β2 hl vs s hj es
      have := List.all_eq_true.mp hno j hj
      rw [e1] at this
      cases s with
      | ex z0 => cases hs
      | gh _ => cases hs
      | own _ _ => cases this
      | un => cases hs
      | fz _ => cases hs
    rw [backB_out β1 β2 vs hj] at es
    obtain ⟨w, ew, hss⟩ := M2.I.sl j s es
    rw [wipe_out σ vs hj, z] at ew
    cases ew
    cases s with
    | ex z0 => cases hs
    | gh _ => cases hs
    | un => cases hs
    | fz _ => cases hs
    | own b d =>
      obtain ⟨a, q, _, g', _⟩ := hss
      cases q
      exact absurd g' (GT.upd_self gD)
theorem be_comp2 {elt tg iter tg1 iter1 : Expr} {ifs ifs1 : List Expr} {scope : Scope} {own : List (Str × Nat)} {pos : Pos} {mi mi1 : M (List D)} {g g1 : D → M Unit} {mt mt1 : M Bool} {me : M Rs} {vs vs1 : List Nat} (hc : X.calm = true) (hN : X.N.Nodup) (hi : BIt X tg iter mi) (hvs : own.map (·.2) = vs)
    (hv : ∀ i ∈ vs1, i ∈ vs) (ok : BlkOk X.N X.env.scope scope own)
    (hg : ∀ (s : Shared) (H : Hp) (C : Addr) (cl : List (Str × Addr)) (fp : List Addr), BG (X.blk s H scope (PySem.compEnvC scope cl C X.env) fp) vs tg g) (ht : ∀ (s : Shared) (H : Hp) (C : Addr) (cl : List (Str × Addr)) (fp : List Addr), BTs (X.blk s H scope (PySem.compEnvC scope cl C X.env) fp) ifs mt)
    (hi1 : ∀ (s : Shared) (H : Hp) (C : Addr) (cl : List (Str × Addr)) (fp : List Addr), BIt (X.blk s H scope (PySem.compEnvC scope cl C X.env) fp) tg1 iter1 mi1)
    (hg1 : ∀ (s : Shared) (H : Hp) (C : Addr) (cl : List (Str × Addr)) (fp : List Addr), BG (X.blk s H scope (PySem.compEnvC scope cl C X.env) fp) vs1 tg1 g1) (ht1 : ∀ (s : Shared) (H : Hp) (C : Addr) (cl : List (Str × Addr)) (fp : List Addr), BTs (X.blk s H scope (PySem.compEnvC scope cl C X.env) fp) ifs1 mt1)
    (he : ∀ (s : Shared) (H : Hp) (C : Addr) (cl : List (Str × Addr)) (fp : List Addr), BE (X.blk s H scope (PySem.compEnvC scope cl C X.env) fp) elt me) (hs : ∀ x, foldedSetIterable iter X.env x = pure x := by intro _; rfl) (hs1 : ∀ env x, foldedSetIterable iter1 env x = pure x := by intro _ _; rfl) :
    BE X (.ListComp elt [⟨tg, iter, ifs, 0⟩, ⟨tg1, iter1, ifs1, 0⟩] scope pos) (mComp2 vs vs1 mi g mt mi1 g1 mt1 me) := by
  subst hvs
  exact fun W tk => (pe_lc2 (g := gOfT X.K X.mg (own.map fun (q : Str × Nat) => q.2) g) (tt := gOf X.K X.mg (fun _ _ _ _ => False) relB mt) (wi1 := iOf X.K X.mg (fun _ _ _ _ => False) mi1) (g1 := gOfT X.K X.mg vs1 g1) (tt1 := gOf X.K X.mg (fun _ _ _ _ => False) relB mt1) (te := gOf X.K X.mg (fun _ _ _ _ => False) (relE X.K X.mg) me) hc hN (hi W tk) ok hv hg (fun s H C cl fp => ht s H C cl fp _ takes0)
    (fun s H C cl fp => hi1 s H C cl fp _ takes0) hg1 (fun s H C cl fp => ht1 s H C cl fp _ takes0) (fun s H C cl fp => he s H C cl fp _ takes0) hs hs1).imp fun σ H Q h => tLc2_of hv h
theorem bs_setComp2 {i : Nat} {y : Str} {py : Pos} {elt tg iter tg1 iter1 : Expr} {ifs ifs1 : List Expr} {scope : Scope} {own : List (Str × Nat)} {pos spos : Pos} {mi mi1 : M (List D)} {g g1 : D → M Unit} {mt mt1 : M Bool} {me : M Rs} {vs vs1 : List Nat} (hc : X.calm = true) (hN : X.N.Nodup) (hy : X.N[i]? = some y)
    (hyl : X.env.scope.names.lookup y = some .local) (hsw : swapsWith (.ListComp elt [⟨tg, iter, ifs, 0⟩, ⟨tg1, iter1, ifs1, 0⟩] scope pos) (some (.Name y py)) spos.line X.env = pure true) (hi : BIt X tg iter mi) (hvs : own.map (·.2) = vs) (hv : ∀ i ∈ vs1, i ∈ vs) (ok : BlkOk X.N X.env.scope scope own)
    (hg : ∀ (s : Shared) (H : Hp) (C : Addr) (cl : List (Str × Addr)) (fp : List Addr), BG (X.blk s H scope (PySem.compEnvC scope cl C X.env) fp) vs tg g) (ht : ∀ (s : Shared) (H : Hp) (C : Addr) (cl : List (Str × Addr)) (fp : List Addr), BTs (X.blk s H scope (PySem.compEnvC scope cl C X.env) fp) ifs mt)
    (hi1 : ∀ (s : Shared) (H : Hp) (C : Addr) (cl : List (Str × Addr)) (fp : List Addr), BIt (X.blk s H scope (PySem.compEnvC scope cl C X.env) fp) tg1 iter1 mi1)
    (hg1 : ∀ (s : Shared) (H : Hp) (C : Addr) (cl : List (Str × Addr)) (fp : List Addr), BG (X.blk s H scope (PySem.compEnvC scope cl C X.env) fp) vs1 tg1 g1) (ht1 : ∀ (s : Shared) (H : Hp) (C : Addr) (cl : List (Str × Addr)) (fp : List Addr), BTs (X.blk s H scope (PySem.compEnvC scope cl C X.env) fp) ifs1 mt1)
    (he : ∀ (s : Shared) (H : Hp) (C : Addr) (cl : List (Str × Addr)) (fp : List Addr), BE (X.blk s H scope (PySem.compEnvC scope cl C X.env) fp) elt me) (hs : ∀ x, foldedSetIterable iter X.env x = pure x := by intro _; rfl) (hs1 : ∀ env x, foldedSetIterable iter1 env x = pure x := by intro _ _; rfl) :
    BS X (.Assign [.Name y py] (.ListComp elt [⟨tg, iter, ifs, 0⟩, ⟨tg1, iter1, ifs1, 0⟩] scope pos) spos) (mSet i (mComp2 vs vs1 mi g mt mi1 g1 mt1 me)) := by
  subst hvs
  refine fun W tk => (ps_setLc2 (g := gOfT X.K X.mg (own.map fun (q : Str × Nat) => q.2) g) (tt := gOf X.K X.mg (fun _ _ _ _ => False) relB mt) (wi1 := iOf X.K X.mg (fun _ _ _ _ => False) mi1) (g1 := gOfT X.K X.mg vs1 g1) (tt1 := gOf X.K X.mg (fun _ _ _ _ => False) relB mt1) (te := gOf X.K X.mg (fun _ _ _ _ => False) (relE X.K X.mg) me) hc hN hy hyl hsw (hi W tk) ok hv hg (fun s H C cl fp => ht s H C cl fp _ takes0)
    (fun s H C cl fp => hi1 s H C cl fp _ takes0) hg1 (fun s H C cl fp => ht1 s H C cl fp _ takes0) (fun s H C cl fp => he s H C cl fp _ takes0) hs hs1).imp fun D σ H ⟨G, io, F, β, I, h⟩ => ?_
  exact tLc2_of hv ⟨G, io, F, β, I, h.of fun r β1 v H1 F1 fe1 I1 r1 h1 => h1 _ H1 F1 .refl (I1.set r1 i)⟩
end
end B

set_option Elab.async false
set_option linter.all false
set_option maxRecDepth 100000
set_option maxHeartbeats 4000000
namespace B
open PySem PySem.Spec L2 PyProof.Rows
/-! # more of targets, enumerate, x[k] op= e -/
theorem But.sub {vs ws : List Nat} {σ σ' : L2.St} (b : But vs σ σ') (h : ∀ i ∈ vs, i ∈ ws) : But ws σ σ' := ⟨b.1, fun j hj => b.2 j fun z => hj (h j z)⟩
section
variable {X : Cx}
theorem bg_sub {vs ws : List Nat} {tg : Expr} {g : D → M Unit} (hg : BG X vs tg g) (h : ∀ i ∈ vs, i ∈ ws) : BG X ws tg g := hg.imp fun v σ H Q ⟨G, io, F, β, d, I, r, q⟩ => ⟨G, io, F, β, d, I, r, by
  cases e : g d β with
  | stuck => rw [e] at q; exact q
  | exc x β' => rw [e] at q; exact q
  | ok u β' => rw [e] at q; exact fun σ' H' F' b fe I' => q σ' H' F' (b.sub h) fe I'⟩
def enumD (ds : List D) : List D := zipD ((List.range ds.length).map fun i => .int (i : Nat)) ds
def enumA (ps : List Pl) : M (List D) := fun β => match allD ps with
  | some [.nd .lst ds] => .ok (enumD ds) β
  | _ => .stuck
theorem bi_enum {e : Expr} {mm : M (List Pl)} {p pos tpos : Pos} {elts : List Expr} {kk : Nat} (hg : Gl X "enumerate") (hm : X.mg "enumerate" = none) (ha : BA X [e] mm) (hs : starEach [e] X.env = [(false, eval e X.env)] := by rfl) :
    BIt X (.Tuple elts kk tpos) (.Call (.Name "enumerate" p) [e] [] pos) (bnd mm enumA) := by
  refine fun W tk => (pi_enum hg hm (ha W tk) hs).imp fun σ H R ⟨G, io, F, β, I, hq⟩ => ⟨G, io, F, β, I, hq.bnd fun ps β1 vs H1 F1 fe1 I1 r1 h1 => ?_⟩
  unfold enumA at h1
  split at h1
  · rename_i ds e1
    have rr := PRs.all r1 e1
    cases rr with
    | cons k1 rr =>
      cases rr
      cases k1 with
      | @lst a xs ds ha ra =>
        have sq : ∀ {H : Hp}, Same F1 H → SqL X.K H a xs := fun s => .inl (.inl (s _ _ ha))
        refine ⟨a, xs, rfl, sq I1.sf, h1 _ H1 F1 fe1 I1 ?_⟩
        have ri : DRs X.K X.mg F1 ((List.range ds.length).map fun i => V.int (i : Nat)) ((List.range ds.length).map fun i => D.int (i : Nat)) := by
          have := DRs.ints (K := X.K) (mg := X.mg) (F := F1) ((List.range ds.length).map fun i => ((i : Nat) : Int))
          rw [List.map_map, List.map_map] at this
          exact this
        have atn : ∀ {i : Nat} {x : V}, ((List.range ds.length).map fun i => V.int (i : Nat))[i]? = some x → x = .int (i : Nat) := fun {i x} h => by
          rw [List.getElem?_map] at h
          obtain ⟨j, hj, e⟩ := Option.map_eq_some_iff.mp h
          have hl : i < ds.length := by
            have := (List.getElem?_eq_some_iff.mp hj).1
            simpa using this
          rw [List.getElem?_range hl] at hj
          cases hj
          exact e.symm
        refine itR_pair ri ra (fun i H x y sf ex ey => ⟨xs, y, sq sf, ey⟩) (fun i H v H' x y sf ex ey ⟨T, y', e1, e2, e3, e4⟩ => ?_) fun i H sf hl => ⟨xs, sq sf, ?_⟩
        · have q2 := (e4 xs (sq sf)).symm.trans ey
          cases q2
          cases atn ex
          exact ⟨T, e1, e2, e3⟩
        · have := ra.length
          rcases hl with hl | hl
          · simp at hl
            omega
          · exact hl
  · exact h1.elim
/-! ## x[k] op= e -/
theorem get_list : PGet X (rIxL X.K) := by
  intro pins s σ H x y v u Q I rx ry h
  obtain ⟨p, xs, i, z, rfl, rfl, hq, he, q⟩ := h
  cases rx
  obtain ⟨t, rfl⟩ := ry
  obtain ⟨its, r, pl, hz⟩ := I.list hq
  obtain ⟨j, h1, h2, h3, h4, h5⟩ := atI_get he
  obtain ⟨w, ew, rw'⟩ := r.get h2
  have hl := r.length
  have hn := line63
  have fin : EP X pins σ Q w s := ⟨z, H, I, rw', q⟩
  by_cases h0 : 0 ≤ i
  · have hj : i.toNat = j := by
      rw [seqIndex_of h0 h5] at h1
      exact Option.some.inj h1
    exact wpAny_getItem_list pl.isList h0 (by omega) (by rw [hj]; simpa using ew) fin
  · have hj : (i + (its.toArray.size : Int)).toNat = j := by
      rw [seqIndex_neg (by omega) h4] at h1
      rw [List.size_toArray, ← hl]
      exact Option.some.inj h1
    exact wpAny_getItem_list_neg pl.isList (by omega) (by rw [List.size_toArray] <;> omega) (by omega) (by rw [hj]; simpa using ew) fin
def augFin (i : Nat) (f : Int → Int → Int) (k a : Int) (r : Rs) : M Fl := fun β => match r.d, β[i]? with
  | .int c, some (.own b (.nd .lst ds)) => (match ixN ds.length k with
    | some j => .ok .nx (β.set i (.own b (.nd .lst (ds.set j (.int (f a c))))))
    | none => .stuck)
  | _, _ => .stuck
def augMid (i : Nat) (f : Int → Int → Int) (me : M Rs) (kr : Rs) : M Fl := fun β => match β[i]?, kr.d with
  | some (.own b (.nd .lst ds)), .int k => (match L2.atI ds k with
    | some (.int a) => (bnd me (augFin i f k a)) β
    | _ => .stuck)
  | _, _ => .stuck
def mAugIx (i : Nat) (f : Int → Int → Int) (mk me : M Rs) : M Fl := bnd (mPl i) fun _ => bnd mk (augMid i f me)
theorem bs_augIx {i : Nat} {x : Str} {k e : Expr} {p pos pos' : Pos} {op : Operator} {f : Int → Int → Int} {mk me : M Rs} (ho : PIp X op (ipI f)) (hN : X.N[i]? = some x) (hv : Vis X.env.scope x) (hk : BE X k mk) (he : BE X e me) (hd : (x == ("__debug__" : Str)) = false := by decide) (hcd : (x == ("__classdict__" : Str)) = false := by decide)
    (ha : ∀ ov iv new, augStore k ov iv new = (do holding [new, ov, iv] (setItem ov iv new); release [new, ov, iv] []; pure .next) := by intros; rfl) : BS X (.AugAssign (.Subscript (.Name x p) k pos') op e pos) (mAugIx i f mk me) := by
  refine fun W tk => (ps_augS (pe_var hN hv hd hcd) (hk W tk) get_list (he W tk) ho set_list ha).imp fun D σ H ⟨G, io, F, β, I, h⟩ => ?_
  unfold mAugIx bnd at h
  cases e0 : mPl i β with
  | stuck => rw [e0] at h; exact h.elim
  | exc x β' => unfold mPl at e0; split at e0 <;> cases e0
  | ok pl β0 =>
    rw [e0] at h
    have hw : ∃ w, σ[i]? = some (some w) ∧ β0 = β := by
      unfold mPl at e0
      split at e0
      · rename_i d e1
        cases e0
        obtain ⟨o, eo, w, rfl, _⟩ := I.sl i _ e1
        exact ⟨w, eo, rfl⟩
      · rename_i b d e1
        cases e0
        obtain ⟨o, eo, a, rfl, _⟩ := I.sl i _ e1
        exact ⟨_, eo, rfl⟩
      · cases e0
    obtain ⟨w, ew, rfl⟩ := hw
    refine ⟨w, ew, G, io, F, β0, I, SPost.of (f := augMid i f me) h fun kr β1 y H1 F1 fe1 I1 r1 h1 => ?_⟩
    obtain ⟨F2, fe2, I2, dk⟩ := I1.freezeR r1
    have h2 := SPost.mono h1 fe2
    unfold augMid at h2
    generalize hkd : kr.d = kd at h2 dk
    split at h2
    · rename_i b ds kk e1
      split at h2
      · rename_i a e2
        obtain ⟨ad, ea, fa, gn, o⟩ := I2.ownAt e1
        rw [ew] at ea
        cases ea
        cases dk
        cases o with
        | @lst vs _ ho rl =>
          obtain ⟨z, ez, rz⟩ := rl.atI e2
          cases rz
          refine ⟨ad, vs, kk, .int a, rfl, rfl, .inl (.inl ho), ez, G, io, F2, β1, I2, SPost.of (f := augFin i f kk a) h2 fun r β2 u H3 F3 fe3 I3 r3 h3 => ?_⟩
          obtain ⟨F4, fe4, I4, dv⟩ := I3.freezeR r3
          have h4 := SPost.mono h3 fe4
          unfold augFin at h4
          generalize hrd : r.d = rd at h4 dv
          split at h4
          · rename_i c b2 ds2 e4
            split at h4
            · rename_i j ej
              cases dv
              obtain ⟨ad2, ea2, fa2, gn2, o2⟩ := I4.ownAt e4
              rw [ew] at ea2
              cases ea2
              cases o2 with
              | @lst vs2 _ ho2 rl2 =>
                refine ⟨a, c, rfl, rfl, ad, vs2, kk, j, rfl, rfl, ho2, by rw [rl2.length]; exact ej, ?_⟩
                have I5 := I4.mut (o := .lst _) e4 ew (OwnR.lst upd_same (DRs.set (.int (f a c)) j rl2))
                exact h4 σ _ F4 .refl I5
            · exact h4.elim
          · exact h4.elim
      · exact h2.elim
    · exact h2.elim
end
end B

set_option Elab.async false
set_option linter.all false
set_option maxRecDepth 100000
set_option maxHeartbeats 4000000
namespace B
open PySem PySem.Spec L2 PyProof.Rows
/-! # y = {k: v for ..}, y a plain local name that the comprehension does not read -/
section
variable {X : Cx}
theorem sw_trueD {kx vx : Expr} {gs : List Comprehension} {scope : Scope} {pos py : Pos} {y : Str} {l : Nat} {env : PySem.Env} (hk : env.scope.kind = .function) (hy : env.scope.names.lookup y = some .local) (hl : (py.line == pos.line) = true)
    (ha : (scope.names.any fun (n, k) => n == y && (k == .local || k == .cell)) = false) : swapsWith (.DictComp kx vx gs scope pos) (some (.Name y py)) l env = pure true := by
  have ky : env.kindOf y = some .local := hy
  have hb : env.blockKind = .function := by unfold Env.blockKind; rw [hk]; rfl
  unfold swapsWith
  simp only [hb, ky, ha, Expr.pos, hl]
  rfl
theorem ps_setDc {i : Nat} {y : Str} {py : Pos} {kx vx tg iter : Expr} {ifs : List Expr} {scope : Scope} {own : List (Str × Nat)} {pos spos : Pos} {wi : TI} {g : TG} {tt : TT} {te : Addr → L2.St → Hp → (Hp → Prop) → Prop} (hc : X.calm = true) (hN : X.N.Nodup) (hy : X.N[i]? = some y) (hyl : X.env.scope.names.lookup y = some .local)
    (hsw : swapsWith (.DictComp kx vx [⟨tg, iter, ifs, 0⟩] scope pos) (some (.Name y py)) spos.line X.env = pure true) (hi : PI X tg iter wi) (ok : BlkOk X.N X.env.scope scope own)
    (hg : ∀ (s : Shared) (H : Hp) (C : Addr) (cl : List (Str × Addr)) (fp : List Addr), PG (X.blk s H scope (PySem.compEnvC scope cl C X.env) fp) tg g) (ht : ∀ (s : Shared) (H : Hp) (C : Addr) (cl : List (Str × Addr)) (fp : List Addr), PTs (X.blk s H scope (PySem.compEnvC scope cl C X.env) fp) ifs tt)
    (he : ∀ (s : Shared) (H : Hp) (C : Addr) (cl : List (Str × Addr)) (fp : List Addr), EndR (X.blk s H scope (PySem.compEnvC scope cl C X.env) fp) (enD X.prog X.w kx vx) te) (hs : ∀ x, foldedSetIterable iter X.env x = pure x := by intro _; rfl) :
    PS X (.Assign [.Name y py] (.DictComp kx vx [⟨tg, iter, ifs, 0⟩] scope pos) spos) (tAsg (tCc wi g tt te (fun D => DicG D [] 0) (own.map (·.2))) (gName i)) := by
  refine ⟨fun pins s σ H D I h => ?_⟩
  rw [exec_Assign_Name_used _ _ _ _ hsw]
  refine wpAny_bind (wpAny_standAt (wpAny_bind ?_))
  show wpAny _ X.A (do let _ ← comprehension (.DictComp kx vx [⟨tg, iter, ifs, 0⟩] scope pos) scope X.env (firstIterPos [⟨tg, iter, ifs, 0⟩] pos) newDict false (eval iter X.env) (some (assign (.Name y py) X.env))) _ _ s
  have h : tCc wi g tt te (fun D => DicG D [] 0) (own.map (·.2)) σ H (fun x H1 => gName i x σ H1 D.nx) := h
  refine wpAny_bind (thn (cc_core (Qf := fun _ s' => SP X pins D .next s') (ckD X.prog X.w kx vx tg iter ifs scope pos) hc hN I hi ok (fun h H hb => dic_empty X.prog X.w h H hb) hg ht he hs h fun L C s' m H' I' q hn f => ?_) fun _ s' hq => wpAny_pure (wpAny_pure hq))
  show wpAny _ _ (assign (.Name y py) X.env (.ref L)) _ _ _
  refine wpAny_assign_Name (store_ok2 (v := V.ref L) I' hN hy (.inl hyl) rfl (fun s2 I2 ⟨a, sb, ha⟩ => ?_) (.inr hyl))
  obtain ⟨f0, f1, f2, f3, f4, f5⟩ := f
  have haC : C ≠ a := by
    rcases ha with z | z
    · rw [z]; exact f1
    · exact fun e => f4 y a z e.symm
  refine ⟨m, hn.sameBut sb haC, fun h3 sb3 => ?_⟩
  exact ⟨_, H', I2.turned (t' := s2.toks) (fun b o hb e => (sb3.2 b hb).trans e) f0 f1 f3 f4 f5, q⟩
theorem tCc_D {mi : M (List D)} {g : D → M Unit} {mt : M Bool} {mk mv : M Rs} {vs : List Nat} {W : WX} {σ : L2.St} {H : Hp} {Q : VK} (h : gOf X.K X.mg W (relE X.K X.mg) (mDictC vs mi g mt mk mv) σ H Q) :
    tCc (iOf X.K X.mg W mi) (gOfT X.K X.mg vs g) (gOf X.K X.mg (fun _ _ _ _ => False) relB mt) (teD (gOf X.K X.mg (fun _ _ _ _ => False) (relE X.K X.mg) mk) (gOf X.K X.mg (fun _ _ _ _ => False) (relE X.K X.mg) mv)) (fun D => DicG D [] 0) vs σ H Q := by
  refine tCc_of (R := accD X.K X.mg) (fun F D => ⟨[], 0, rfl, .nil⟩) endokD ?_
  obtain ⟨G, io, F, β, I, h⟩ := h
  refine ⟨G, io, F, β, I, ?_⟩
  have h' : Post X.K X.mg W (relE X.K X.mg) G F io σ ((mCompG vs mi g mt (stD mk mv) [] β).bnd fun (l : Dct) => ret (Rs.own (dcgD l))) Q := h
  refine Post.bnd h' fun l β1 v H1 F1 fe1 I1 ⟨a, o, ev, fa, ga, nia, ha, ⟨xs, ep, eo, hx⟩, ns⟩ h1 => ?_
  subst ev
  subst eo
  exact h1 _ H1 F1 fe1 I1 ⟨a, rfl, fa, ga, nia, own_dg ha hx, ns⟩
/-- y = {k: v for ..} -/
theorem bs_setDcomp {i : Nat} {y : Str} {py : Pos} {kx vx tg iter : Expr} {ifs : List Expr} {scope : Scope} {own : List (Str × Nat)} {pos spos : Pos} {mi : M (List D)} {g : D → M Unit} {mt : M Bool} {mk mv : M Rs} {vs : List Nat} (hc : X.calm = true) (hN : X.N.Nodup) (hy : X.N[i]? = some y) (hyl : X.env.scope.names.lookup y = some .local)
    (hsw : swapsWith (.DictComp kx vx [⟨tg, iter, ifs, 0⟩] scope pos) (some (.Name y py)) spos.line X.env = pure true) (hu : X.A.units + 64 < cLine) (hi : BIt X tg iter mi) (hvs : own.map (·.2) = vs)
    (ok : BlkOk X.N X.env.scope scope own)
    (hg : ∀ (s : Shared) (H : Hp) (C : Addr) (cl : List (Str × Addr)) (fp : List Addr), BG (X.blk s H scope (PySem.compEnvC scope cl C X.env) fp) vs tg g) (ht : ∀ (s : Shared) (H : Hp) (C : Addr) (cl : List (Str × Addr)) (fp : List Addr), BTs (X.blk s H scope (PySem.compEnvC scope cl C X.env) fp) ifs mt)
    (hk : ∀ (s : Shared) (H : Hp) (C : Addr) (cl : List (Str × Addr)) (fp : List Addr), BE (X.blk s H scope (PySem.compEnvC scope cl C X.env) fp) kx mk)
    (he : ∀ (s : Shared) (H : Hp) (C : Addr) (cl : List (Str × Addr)) (fp : List Addr), BE (X.blk s H scope (PySem.compEnvC scope cl C X.env) fp) vx mv) (hs : ∀ x, foldedSetIterable iter X.env x = pure x := by intro _; rfl) :
    BS X (.Assign [.Name y py] (.DictComp kx vx [⟨tg, iter, ifs, 0⟩] scope pos) spos) (mSet i (mDictC vs mi g mt mk mv)) := by
  subst hvs
  have hE : ∀ (s : Shared) (H : Hp) (C : Addr) (cl : List (Str × Addr)) (fp : List Addr), EndR (X.blk s H scope (PySem.compEnvC scope cl C X.env) fp) (enD X.prog X.w kx vx) (teD (gOf X.K X.mg (fun _ _ _ _ => False) (relE X.K X.mg) mk) (gOf X.K X.mg (fun _ _ _ _ => False) (relE X.K X.mg) mv)) := by
    intro s H C cl fp
    have h1 := hk s H C cl fp (fun _ _ _ _ => False) takes0
    have h2 := he s H C cl fp (fun _ _ _ _ => False) takes0
    exact endD hu h1 h2
  refine fun W tk => (ps_setDc (g := gOfT X.K X.mg (own.map fun (q : Str × Nat) => q.2) g) (tt := gOf X.K X.mg (fun _ _ _ _ => False) relB mt) hc hN hy hyl hsw (hi W tk) ok hg (fun s H C cl fp => ht s H C cl fp _ takes0) hE hs).imp fun D σ H ⟨G, io, F, β, I, h⟩ => ?_
  exact tCc_D ⟨G, io, F, β, I, h.of fun r β1 v H1 F1 fe1 I1 r1 h1 => h1 _ H1 F1 .refl (I1.set r1 i)⟩
/-- y = {k: [] for ..} -/
def SKd (X : Cx) (i : Nat) (st : Stmt) (m : M KL) : Prop := ∀ W, Takes X W → PS X st (tAsg (gOf X.K X.mg W (relK X.K X.mg) m) (gName i))
theorem skd_comp {i : Nat} {y : Str} {py : Pos} {kx tg iter : Expr} {ifs : List Expr} {scope : Scope} {own : List (Str × Nat)} {pos p2 spos : Pos} {mi : M (List D)} {g : D → M Unit} {mt : M Bool} {mk : M Rs} {vs : List Nat} (hc : X.calm = true) (hN : X.N.Nodup) (hy : X.N[i]? = some y) (hyl : X.env.scope.names.lookup y = some .local)
    (hsw : swapsWith (.DictComp kx (.List [] p2) [⟨tg, iter, ifs, 0⟩] scope pos) (some (.Name y py)) spos.line X.env = pure true) (hu : X.A.units + 64 < cLine) (hi : BIt X tg iter mi) (hvs : own.map (·.2) = vs)
    (ok : BlkOk X.N X.env.scope scope own)
    (hg : ∀ (s : Shared) (H : Hp) (C : Addr) (cl : List (Str × Addr)) (fp : List Addr), BG (X.blk s H scope (PySem.compEnvC scope cl C X.env) fp) vs tg g) (ht : ∀ (s : Shared) (H : Hp) (C : Addr) (cl : List (Str × Addr)) (fp : List Addr), BTs (X.blk s H scope (PySem.compEnvC scope cl C X.env) fp) ifs mt)
    (hk : ∀ (s : Shared) (H : Hp) (C : Addr) (cl : List (Str × Addr)) (fp : List Addr), BE (X.blk s H scope (PySem.compEnvC scope cl C X.env) fp) kx mk) (hs : ∀ x, foldedSetIterable iter X.env x = pure x := by intro _; rfl) :
    SKd X i (.Assign [.Name y py] (.DictComp kx (.List [] p2) [⟨tg, iter, ifs, 0⟩] scope pos) spos) (mKd vs mi g mt mk) := by
  subst hvs
  have hE : ∀ (s : Shared) (H : Hp) (C : Addr) (cl : List (Str × Addr)) (fp : List Addr), EndR (X.blk s H scope (PySem.compEnvC scope cl C X.env) fp) (enD X.prog X.w kx (.List [] p2)) (teK (X := X) mk) := by
    intro s H C cl fp
    have h1 := hk s H C cl fp (fun _ _ _ _ => False) takes0
    exact endD hu h1 (pe_lst pa_nil)
  refine fun W tk => (ps_setDc (g := gOfT X.K X.mg (own.map fun (q : Str × Nat) => q.2) g) (tt := gOf X.K X.mg (fun _ _ _ _ => False) relB mt) hc hN hy hyl hsw (hi W tk) ok hg (fun s H C cl fp => ht s H C cl fp _ takes0) hE hs).imp fun D σ H h => tCc_K h
/-- y = {..}; st; rest -/
theorem bss_blkK {i : Nat} {asg : Stmt} {me : M KL} {n : M Fl} {m : KL → M KL} {st : Stmt} {rest : List Stmt} (ha : SKd X i asg me) (hst : KS X i st m) (hr : BSs X rest n) : BSs X (asg :: st :: rest) (mBlkK i me m n) := by
  refine fun W tk => (pss_cons (ha W tk) (pss_cons (hst W tk) (hr W tk))).imp fun D σ H ⟨G, io, F, β, I, h⟩ => ⟨G, io, F, β, I, ?_⟩
  unfold mBlkK at h
  refine SPost.of h fun l β1 v H1 F1 fe1 I1 ⟨a, P, ev, of, kd, sp, ap⟩ h1 => ?_
  subst ev
  have J0 := I1.many of sp ap
  have J : BI X.K X.mg (G.many P) F1 io (β1.set i .un) (σ.set i (some (.ref a))) H1 := J0.setUn i _
  unfold bnd inK at h1
  by_cases ib : i < β1.length
  case neg => rw [if_neg ib] at h1; exact h1.elim
  rw [if_pos ib] at h1
  have il : i < σ.length := by rw [← I1.len]; exact ib
  refine ⟨G, io, F1, β1.set i .un, P, a, l, of, kd, J, List.getElem?_set_self il, ?_⟩
  cases em : m l (β1.set i .un) with
  | stuck => rw [em] at h1; exact h1.elim
  | exc x β => rw [em] at h1; exact h1
  | ok l' β2 =>
    rw [em] at h1
    intro σ2 H2 F2 P2 fe2 of2 kd2 I2 e2
    obtain ⟨fe3, I3⟩ := I2.letgo of2
    refine ⟨G, io, orH P2 F2, β2.set i (.fz (dcgD (kData l'))), ?_, SPost.mono h1 (fe2.trans fe3)⟩
    have dr := kd2.data (fun b o e => (of2 b o e).1)
    have hset := I3.set (v := .ref a) (r := .fz (dcgD (kData l'))) dr i
    have es : σ2.set i (some (V.ref a)) = σ2 := by
      apply List.ext_getElem?
      intro j
      by_cases hj : i = j
      · subst hj
        have := (List.getElem?_eq_some_iff.mp e2).1
        rw [List.getElem?_set_self this, e2]
      · rw [List.getElem?_set_ne hj]
    rw [es] at hset
    exact hset
end
/-- a comprehension within another one -/
theorem look_rel {env : PySem.Env} : ∀ {names : List (Str × NameKind)} {x : Str} {k : NameKind}, names.lookup x = some k →
    (names.map fun (n, k) => if (k == NameKind.free && env.scope.kind == .function && env.kindOf n == some .cell) then (n, NameKind.cell) else (n, k)).lookup x = some k ∨
    (k = .free ∧ (names.map fun (n, k) => if (k == NameKind.free && env.scope.kind == .function && env.kindOf n == some .cell) then (n, NameKind.cell) else (n, k)).lookup x = some .cell)
  | [], _, _, h => by simp at h
  | (n, k') :: r, x, k, h => by
    have ih := @look_rel env r x k
    by_cases hx : x = n
    · subst hx
      have e : k' = k := by simpa using h
      subst e
      by_cases hc : (k' == NameKind.free && env.scope.kind == .function && env.kindOf x == some .cell) = true
      · have ek : k' = .free := by
          cases k' <;> first | rfl | (simp at hc)
        right
        refine ⟨ek, ?_⟩
        rw [List.map_cons]
        simp only [hc, if_true]
        simp
      · left
        rw [List.map_cons]
        simp only [hc]
        simp
    · have h' : r.lookup x = some k := by simpa [List.lookup_cons, show (x == n) = false from by simpa using hx] using h
      have e : ∀ q : Str × NameKind, q.1 = n → ∀ l, List.lookup x (q :: l) = List.lookup x l := fun q hq l => by
        rw [List.lookup_cons, hq, show (x == n) = false from by simpa using hx]
      rw [List.map_cons]
      have e1 := e (if (k' == NameKind.free && env.scope.kind == .function && env.kindOf n == some .cell) = true then (n, NameKind.cell) else (n, k')) (by split <;> rfl)
      rw [e1]
      exact ih h'
theorem blkOk_in {N : List Str} {sc scope : Scope} {own : List (Str × Nat)} {env : PySem.Env} (h : blkC N sc scope own = true) : BlkOk N (relabel sc env) scope own := by
  have b := blkOk_by h
  refine { b with free := fun y hy e => ?_ }
  rcases b.free y hy e with q | q
  · rcases look_rel (env := env) q with z | ⟨z, _⟩
    · exact .inl z
    · cases z
  · rcases look_rel (env := env) q with z | ⟨_, z⟩
    · exact .inr z
    · exact .inl z
end B

set_option Elab.async false
set_option linter.all false
set_option maxRecDepth 100000
set_option maxHeartbeats 4000000
namespace B
open PySem PySem.Spec L2 PyProof.Rows
/-! # f(e), e a new object that the call changes and that is forgotten then -/
def callT (f : List D → FR) (r : Rs) : M Rs := fun β => match r with
  | .own d => (match f [d] with
    | .ok r [_] => .ok r β
    | .exc x [_] => .exc x β
    | _ => .stuck)
  | .fz _ => .stuck
def mCallT (f : List D → FR) (me : M Rs) : M Rs := bnd me (callT f)
section
variable {K : PySem.W.Frag} {mg : Str → Option Value} {G : GT} {F H : Hp} {io : List Addr} {β : B.Env} {σ : L2.St} {v : V} {d : D}
theorem BI.snoc (I : BI K mg G F io β σ H) (rr : RR K mg G F io H β σ v (.own d)) : BI K mg G F io (β ++ [.own none d]) (σ ++ [some v]) H := by
  obtain ⟨a, rfl, fa, ga, nia, o, ap⟩ := rr
  have old : ∀ (i : Nat) (s : Sl), (β ++ [.own none d])[i]? = some s → (i < β.length ∧ β[i]? = some s) ∨ (i = β.length ∧ s = .own none d) := fun i s e => by
    by_cases hi : i < β.length
    · rw [List.getElem?_append_left hi] at e
      exact .inl ⟨hi, e⟩
    · rw [List.getElem?_append_right (by omega)] at e
      have : i - β.length = 0 := by
        have := (List.getElem?_eq_some_iff.mp e).1
        simp only [List.length_singleton] at this
        omega
      rw [this] at e
      cases e
      exact .inr ⟨by omega, rfl⟩
  have os : ∀ (i : Nat), i < β.length → (σ ++ [some (V.ref a)])[i]? = σ[i]? := fun i hi => List.getElem?_append_left (by rw [← I.len]; exact hi)
  have on : (σ ++ [some (V.ref a)])[β.length]? = some (some (V.ref a)) := by
    rw [I.len, List.getElem?_append_right (Nat.le_refl _), Nat.sub_self]
    rfl
  refine ⟨I.sg, I.sf, I.ioF, I.ioH, by simp [I.len], fun i s e => ?_, fun i j s t b e1 e2 h1 h2 z1 z2 => ?_⟩
  · rcases old i s e with ⟨hi, e'⟩ | ⟨hi, es⟩
    · rw [os i hi]
      exact I.sl i s e'
    · subst hi
      subst es
      exact ⟨_, on, a, rfl, fa, ga, fun _ => nia, (fun k hk => by cases hk), o⟩
  · rcases old i s e1 with ⟨hi, e1'⟩ | ⟨hi, es⟩ <;> rcases old j t e2 with ⟨hj, e2'⟩ | ⟨hj, et⟩
    · rw [os i hi] at z1
      rw [os j hj] at z2
      exact I.apart i j s t b e1' e2' h1 h2 z1 z2
    · subst hj
      rw [on] at z2
      cases z2
      rw [os i hi] at z1
      exact absurd z1 (ap i s e1' h1)
    · subst hi
      rw [on] at z1
      cases z1
      rw [os j hj] at z2
      exact absurd z2 (ap j t e2' h2)
    · omega
theorem BI.front {s : Sl} {o : Option V} (I : BI K mg G F io (β ++ [s]) (σ ++ [o]) H) : BI K mg G F io β σ H := by
  have hl : β.length = σ.length := by
    have := I.len
    simp only [List.length_append, List.length_singleton] at this
    omega
  have up : ∀ (i : Nat) (u : Sl), β[i]? = some u → (β ++ [s])[i]? = some u ∧ (σ ++ [o])[i]? = σ[i]? := fun i u e => by
    have hi := (List.getElem?_eq_some_iff.mp e).1
    exact ⟨by rw [List.getElem?_append_left hi]; exact e, List.getElem?_append_left (by omega)⟩
  refine ⟨I.sg, I.sf, I.ioF, I.ioH, hl, fun i u e => ?_, fun i j u t b e1 e2 h1 h2 z1 z2 => ?_⟩
  · obtain ⟨q1, q2⟩ := up i u e
    have := I.sl i u q1
    rwa [q2] at this
  · obtain ⟨q1, q2⟩ := up i u e1
    obtain ⟨q3, q4⟩ := up j t e2
    exact I.apart i j u t b q1 q3 h1 h2 (by rw [q2]; exact z1) (by rw [q4]; exact z2)
end
section
variable {X : Cx} {f : List D → FR}
theorem callT_post {W : WX} {G : GT} {F H : Hp} {io : List Addr} {β : B.Env} {σ : L2.St} {r : Rs} {v : V} {Q : VK} (I : BI X.K X.mg G F io β σ H) (rr : RR X.K X.mg G F io H β σ v r)
    (h : Post X.K X.mg W (relE X.K X.mg) G F io σ (callT f r β) Q) : spB X.K X.mg [true] f [v] H Q (WE W σ) := by
  unfold callT at h
  cases r with
  | fz d => exact h.elim
  | own d =>
    have J := I.snoc rr
    have hl := I.len
    have on : (σ ++ [some v])[β.length]? = some (some v) := by
      rw [hl, List.getElem?_append_right (Nat.le_refl _), Nat.sub_self]
      rfl
    have ob : (β ++ [Sl.own none d])[β.length]? = some (.own none d) := by
      rw [List.getElem?_append_right (Nat.le_refl _), Nat.sub_self]
      rfl
    have pio : ∀ d', putIo (β ++ [Sl.own none d]) [β.length] [d'] = β ++ [.own none d'] := fun d' => by
      unfold putIo putIo
      rw [ob]
      simp
    have key : Post X.K X.mg (fun c d _ H => W c d σ H) (relE X.K X.mg) G F io (σ ++ [some v]) (callF [true] f [.sl β.length] (β ++ [.own none d])) Q := by
      unfold callF
      have er : resA (β ++ [Sl.own none d]) [true] [.sl β.length] = some ([d], [β.length], []) := by
        unfold resA resA
        rw [ob]
        rfl
      rw [er]
      simp only
      rw [if_pos ⟨by simp, by simp⟩]
      simp only at h
      cases ef : f [d] with
      | stuck => rw [ef] at h; exact h.elim
      | ok r ios =>
        rw [ef] at h
        cases ios with
        | nil => exact h.elim
        | cons d' t =>
          cases t with
          | cons _ _ => exact h.elim
          | nil =>
            simp only
            rw [if_pos (by simp), pio]
            intro z H' F' fe I' rz
            refine h z H' F' fe I'.front ?_
            cases r with
            | fz d => exact rz
            | own d =>
              obtain ⟨a, q1, q2, q3, q4, q5, q6⟩ := rz
              refine ⟨a, q1, q2, q3, q4, q5, fun i s e hs z => ?_⟩
              have hi := (List.getElem?_eq_some_iff.mp e).1
              exact q6 i s (by rw [List.getElem?_append_left hi]; exact e) hs (by rw [List.getElem?_append_left (by omega)]; exact z)
      | exc x ios =>
        rw [ef] at h
        cases ios with
        | nil => exact h.elim
        | cons d' t =>
          cases t with
          | cons _ _ => exact h.elim
          | nil =>
            simp only
            rw [if_pos (by simp), pio]
            exact fun cls dd H' F' fe I' xr => h cls dd H' F' fe I'.front xr
    have rs : PRs X.K X.mg F (σ ++ [some v]) [v] [.sl β.length] := .cons on .nil
    have fin := callF_post J rs key
    exact fin
theorem be_ct {k j : Nat} {x : Str} {prm : List Str} {p pos : Pos} {e : Expr} {me : M Rs} (O : Ok X.prog X.w X.K X.mg X.base j x prm [true] f) (hr : RoomG k X.A) (hjk : j ≤ k) (h : BE X e me) (hg : Gl X x := by rfl) (hdb : (x == ("__debug__" : Str)) = false := by decide)
    (he : starEach [e] X.env = (false, eval e X.env) :: starEach [] X.env := by rfl) (hpl : (backTo pos (starEach [] X.env)).any (·.1) = false := by rfl) : BE X (.Call (.Name x p) [e] [] pos) (mCallT f me) := by
  obtain ⟨fa, fd, Fn, hm, hk, hb⟩ := O
  refine fun W tk => (pe_callG Fn (hr.mono hjk) hg hm hk hb .nil (fun σ => passAt tk σ) (pa_cons (h W tk) pa_nil he) hdb he hpl).imp fun σ H Q ⟨G, io, F, β, I, h⟩ => ⟨G, io, F, β, I, h.bnd fun r β1 v H1 F1 fe1 I1 r1 h1 => ?_⟩
  exact callT_post I1 r1 (h1.mono fe1)
end
end B

set_option Elab.async false
set_option linter.all false
set_option maxRecDepth 100000
set_option maxHeartbeats 4000000
namespace B
open PySem PySem.Spec L2 PyProof.Rows
/-! # what is wished for behind the new things -/
section
variable {α : Type} {β : B.Env} {E : Exn → B.Env → Prop}
def dicW (d : D) (P : Dct → Prop) : Prop := match d with
  | .nd .dcg es => optW (entsOf es) P
  | _ => False
@[simp ↓] theorem dicW_dcg {l : Dct} {P : Dct → Prop} : dicW (dcgD l) P ↔ P l := by
  unfold dicW dcgD
  simp only [entsOf_map]
  exact Iff.rfl
@[simp ↓] theorem W_mIterK {me : M Rs} {Q : List D → B.Env → Prop} : W (mIterK me) β Q E ↔ W me β (fun r β1 => dicW r.d fun l => Q (keysOf l) β1) E := by
  unfold mIterK
  refine W_bnd.trans (W_congr fun r β1 => ?_)
  unfold dicW
  cases r.d with
  | nd t es =>
    cases t with
    | dcg =>
      simp only
      cases entsOf es with
      | none => exact W_stk
      | some l => exact W_ret
    | _ => exact W_stk
  | _ => exact W_stk
@[simp] theorem gIxA_dic {l : Dct} {k : List Int} : gIxA (dcgD l) (tupD k) = (getL l k).map .fz := by
  unfold gIxA
  have e : gIx (dcgD l) (tupD k) = none := rfl
  rw [e]
  show gIxG (dcgD l) (tupD k) = _
  unfold gIxG dcgD
  simp only [entsOf_map, tupI_tupD, Option.bind_some]
@[simp] theorem gIxA_lst {ds : List D} {i : Int} : gIxA (.nd .lst ds) (.int i) = (L2.atI ds i).map .fz := by
  unfold gIxA
  have e : gIx (.nd .lst ds) (.int i) = (L2.atI ds i).map .fz := rfl
  rw [e]
  cases L2.atI ds i with
  | some d => rfl
  | none => rfl
theorem inDG_dic {l : Dct} {k : List Int} : inDG (tupD k) (dcgD l) = some (decide (k ∈ l.map (·.1))) := by
  unfold inDG dcgD
  simp only [entsOf_map, tupI_tupD, Option.bind_some, Option.map_some]
@[simp] theorem gInA_dic {l : Dct} {k : List Int} : gInA (tupD k) (dcgD l) = some (.fz (.bl (decide (k ∈ l.map (·.1))))) := by
  unfold gInA
  have e : gIn (tupD k) (dcgD l) = none := rfl
  rw [e]
  show gInG (tupD k) (dcgD l) = _
  unfold gInG
  rw [inDG_dic]
  rfl
@[simp] theorem gNotInA_dic {l : Dct} {k : List Int} : gNotInA (tupD k) (dcgD l) = some (.fz (.bl (!decide (k ∈ l.map (·.1))))) := by
  unfold gNotInA
  have e : gNotIn (tupD k) (dcgD l) = none := rfl
  rw [e]
  show gNotInG (tupD k) (dcgD l) = _
  unfold gNotInG
  rw [inDG_dic]
  rfl
/-! comprehensions of any kind -/
@[simp ↓] theorem W_mCompG {γ : Type} {vs : List Nat} {mi : M (List D)} {g : D → M Unit} {mt : M Bool} {st : γ → M γ} {a0 : γ} {Q : γ → B.Env → Prop} : W (mCompG vs mi g mt st a0) β Q E ↔ W mi β (fun ds β1 => W (compGV g mt st vs a0 ds) β1 Q E) E := by
  unfold mCompG
  exact W_bnd
theorem compG_cons {γ : Type} {g : D → M Unit} {mt : M Bool} {st : γ → M γ} {vs : List Nat} {d : D} {ds : List D} {acc : γ} {Q : γ → B.Env → Prop}
    (h : W (g d) β (fun _ β1 => W mt β1 (fun k β2 => if k = true then W (st acc) β2 (fun acc' β3 => W (compG g mt st vs ds acc') (wipeB β3 vs) Q noE) noE else W (compG g mt st vs ds acc) (wipeB β2 vs) Q noE) noE) noE) : W (compG g mt st vs (d :: ds) acc) β Q noE := by
  unfold W at h ⊢
  simp only [compG]
  cases e : g d β with
  | stuck => rw [e] at h; exact h.elim
  | exc x β1 => rw [e] at h; exact h.elim
  | ok u β1 =>
    rw [e] at h
    simp only at h ⊢
    cases e2 : mt β1 with
    | stuck => rw [e2] at h; exact h.elim
    | exc x β2 => rw [e2] at h; exact h.elim
    | ok k β2 =>
      rw [e2] at h
      cases k with
      | false => simpa using h
      | true =>
        simp only [if_true] at h ⊢
        cases e3 : st acc β2 with
        | stuck => rw [e3] at h; exact h.elim
        | exc x β3 => rw [e3] at h; exact h.elim
        | ok r β3 =>
          rw [e3] at h
          exact h
theorem W_compGV {γ : Type} {g : D → M Unit} {mt : M Bool} {st : γ → M γ} {vs : List Nat} {ds : List D} {a0 : γ} {Q : γ → B.Env → Prop} (I : Nat → γ → B.Env → Prop) (hno : noOwn β vs = true) (h0 : I 0 a0 (wipeB β vs))
    (step : ∀ i d acc β1, ds[i]? = some d → I i acc β1 → W (g d) β1 (fun _ β2 => W mt β2 (fun k β3 => if k = true then W (st acc) β3 (fun acc' β4 => I (i + 1) acc' (wipeB β4 vs)) noE else I (i + 1) acc (wipeB β3 vs)) noE) noE)
    (fin : ∀ acc β1, I ds.length acc β1 → Q acc (backB β β1 vs)) : W (compGV g mt st vs a0 ds) β Q E := by
  have key : ∀ (n i : Nat) (acc : γ) (β1 : B.Env), i + n = ds.length → I i acc β1 → W (compG g mt st vs (ds.drop i) acc) β1 (fun acc β2 => I ds.length acc β2) noE := by
    intro n
    induction n with
    | zero =>
      intro i acc β1 hi h
      rw [List.drop_of_length_le (by omega)]
      have : i = ds.length := by omega
      subst this
      with_unfolding_all exact h
    | succ n ih =>
      intro i acc β1 hi h
      have hlt : i < ds.length := by omega
      rw [List.drop_eq_getElem_cons hlt]
      refine compG_cons ((step i _ acc β1 (List.getElem?_eq_getElem hlt) h).mono (fun _ β2 h2 => h2.mono (fun k β3 h3 => ?_) fun _ _ h => h) fun _ _ h => h)
      cases k with
      | false =>
        simp only [Bool.false_eq_true, if_false] at h3 ⊢
        exact ih (i + 1) acc _ (by omega) h3
      | true =>
        simp only [if_true] at h3 ⊢
        exact h3.mono (fun r β4 h4 => ih (i + 1) _ _ (by omega) h4) fun _ _ h => h
  have h := key ds.length 0 a0 _ (by omega) h0
  rw [List.drop_zero] at h
  obtain ⟨acc, β1, e, hI⟩ := h.eq fun _ _ h => h
  unfold W compGV
  rw [if_pos hno, e]
  exact fin acc β1 hI
/-- where the slots stay and what is gathered is told by a function -/
theorem W_compGF {γ : Type} {g : D → M Unit} {mt : M Bool} {st : γ → M γ} {vs : List Nat} {ds : List D} {a0 : γ} {Q : γ → B.Env → Prop} (p : D → Bool) (f : List D → γ) (hno : noOwn β vs = true) (h0 : f [] = a0)
    (step : ∀ (i : Nat) d, ds[i]? = some d → W (g d) (wipeB β vs) (fun _ β2 => W mt β2 (fun k β3 => k = p d ∧ if p d = true then W (st (f ((ds.take i).filter p))) β3 (fun acc' β4 => acc' = f ((ds.take i).filter p ++ [d]) ∧ wipeB β4 vs = wipeB β vs) noE else wipeB β3 vs = wipeB β vs) noE) noE)
    (fin : Q (f (ds.filter p)) (backB β (wipeB β vs) vs)) : W (compGV g mt st vs a0 ds) β Q E := by
  refine W_compGV (fun i acc β1 => acc = f ((ds.take i).filter p) ∧ β1 = wipeB β vs) hno ⟨by simp [h0], rfl⟩ (fun i d acc β1 hd ⟨ea, eb⟩ => ?_) fun acc β1 ⟨ea, eb⟩ => ?_
  · subst eb
    have et : ds.take (i + 1) = ds.take i ++ [d] := by rw [List.take_add_one, hd]; rfl
    refine (step i d hd).mono (fun _ β2 h2 => h2.mono (fun k β3 h3 => ?_) fun _ _ h => h) fun _ _ h => h
    obtain ⟨rfl, h3⟩ := h3
    by_cases hp : p d = true
    · rw [if_pos hp] at h3 ⊢
      subst ea
      refine h3.mono (fun r β4 h4 => ⟨?_, h4.2⟩) fun _ _ h => h
      rw [et, List.filter_append, h4.1]
      simp [hp]
    · rw [if_neg hp] at h3 ⊢
      refine ⟨?_, h3⟩
      rw [et, List.filter_append, ea]
      simp [hp]
  · rw [List.take_length] at ea
    rw [ea, eb]
    exact fin
@[simp ↓] theorem W_mDictC {vs : List Nat} {mi : M (List D)} {g : D → M Unit} {mt : M Bool} {mk mv : M Rs} {Q : Rs → B.Env → Prop} : W (mDictC vs mi g mt mk mv) β Q E ↔ W (mCompG vs mi g mt (stD mk mv) []) β (fun l β1 => Q (.own (dcgD l)) β1) E := by
  unfold mDictC
  refine W_bnd.trans (W_congr fun l β1 => ?_)
  exact W_ret
@[simp ↓] theorem W_mDictG0 {Q : Rs → B.Env → Prop} : W mDictG0 β Q E ↔ Q (.own (dcgD [])) β := by with_unfolding_all exact Iff.rfl
@[simp ↓] theorem W_stD {mk mv : M Rs} {l : Dct} {Q : Dct → B.Env → Prop} : W (stD mk mv l) β Q E ↔ W mk β (fun rk β1 => W mv β1 (fun rv β2 => optW (tupI? rk.d) fun k => l.length < sizeLine ∧ Q (putL l k rv.d) β2) E) E := by
  unfold stD
  refine W_bnd.trans (W_congr fun rk β1 => W_bnd.trans (W_congr fun rv β2 => ?_))
  cases tupI? rk.d with
  | none => exact W_stk
  | some k =>
    simp only [optW]
    by_cases h : l.length < sizeLine
    · rw [if_pos h]
      exact W_ret.trans ⟨fun q => ⟨h, q⟩, fun q => q.2⟩
    · rw [if_neg h]
      exact W_stk.trans ⟨fun q => q.elim, fun q => h q.1⟩
@[simp ↓] theorem W_stK {mk : M Rs} {l : KL} {Q : KL → B.Env → Prop} : W (stK mk l) β Q E ↔ W mk β (fun rk β1 => optW (tupI? rk.d) fun k => (l.length < sizeLine ∧ k ∉ l.map (·.1)) ∧ Q (l ++ [(k, [])]) β1) E := by
  unfold stK
  refine W_bnd.trans (W_congr fun rk β1 => ?_)
  cases tupI? rk.d with
  | none => exact W_stk
  | some k =>
    simp only [optW]
    by_cases h : l.length < sizeLine ∧ k ∉ l.map (·.1)
    · rw [if_pos h]
      exact W_ret.trans ⟨fun q => ⟨h, q⟩, fun q => q.2⟩
    · rw [if_neg h]
      exact W_stk.trans ⟨fun q => q.elim, fun q => h q.1⟩
@[simp ↓] theorem W_mKd {vs : List Nat} {mi : M (List D)} {g : D → M Unit} {mt : M Bool} {mk : M Rs} {Q : KL → B.Env → Prop} : W (mKd vs mi g mt mk) β Q E ↔ W mi β (fun ds β1 => W (compGV g mt (stK mk) vs [] ds) β1 Q E) E := by
  unfold mKd
  exact W_mCompG
@[simp ↓] theorem W_mSetC {vs : List Nat} {mi : M (List D)} {g : D → M Unit} {mt : M Bool} {me : M Rs} {Q : List (List Int) → B.Env → Prop} : W (mSetC vs mi g mt me) β Q E ↔ W mi β (fun ds β1 => W (compGV g mt (stS me) vs [] ds) β1 Q E) E := by
  unfold mSetC
  exact W_mCompG
@[simp ↓] theorem W_stS {me : M Rs} {ks : List (List Int)} {Q : List (List Int) → B.Env → Prop} : W (stS me ks) β Q E ↔ W me β (fun r β1 => optW (tupI? r.d) fun k => ks.length < 249 ∧ Q (ks ++ [k]) β1) noE := by
  unfold W stS
  cases me β with
  | stuck => exact Iff.rfl
  | exc x β1 => exact Iff.rfl
  | ok r β1 =>
    simp only
    cases tupI? r.d with
    | none => exact Iff.rfl
    | some k =>
      simp only [optW]
      by_cases h : ks.length < 249
      · rw [if_pos h]
        exact ⟨fun q => ⟨h, q⟩, fun q => q.2⟩
      · rw [if_neg h]
        exact ⟨fun q => q.elim, fun q => h q.1⟩
@[simp ↓] theorem W_mPts {c1 c2 : M (List (List Int))} {Q : Rs → B.Env → Prop} : W (mPts c1 c2) β Q E ↔ W c1 β (fun k1 β1 => W c2 β1 (fun k2 β2 => (∀ k ∈ k1 ++ k2, k ≠ []) ∧ Q (.own (.nd .lst ((tset (k1 ++ k2)).map tupD))) β2) E) E := by
  unfold mPts
  refine W_bnd.trans (W_congr fun k1 β1 => W_bnd.trans (W_congr fun k2 β2 => ?_))
  by_cases h : (k1 ++ k2).all (fun k => !k.isEmpty) = true
  · rw [if_pos h]
    refine W_ret.trans ⟨fun q => ⟨fun k hk e => ?_, q⟩, fun q => q.2⟩
    have := List.all_eq_true.mp h k hk
    rw [e] at this
    cases this
  · rw [if_neg h]
    refine W_stk.trans ⟨fun q => q.elim, fun q => h (List.all_eq_true.mpr fun k hk => ?_)⟩
    have := q.1 k hk
    cases k with
    | nil => exact absurd rfl this
    | cons _ _ => rfl
/-! the block -/
@[simp ↓] theorem W_mBlkK {i : Nat} {me : M KL} {ms : KL → M KL} {n : M Fl} {Q : Fl → B.Env → Prop} : W (mBlkK i me ms n) β Q E ↔ W me β (fun l β1 => i < β1.length ∧ W (ms l) (β1.set i .un) (fun l' β2 => W n (β2.set i (.fz (dcgD (kData l')))) Q E) E) E := by
  unfold mBlkK
  refine W_bnd.trans (W_congr fun l β1 => W_bnd.trans ?_)
  unfold W inK outK
  by_cases h : i < β1.length
  · rw [if_pos h]
    exact ⟨fun q => ⟨h, q⟩, fun q => q.2⟩
  · rw [if_neg h]
    exact ⟨fun q => q.elim, fun q => h q.1⟩
@[simp ↓] theorem W_mForK {mi : M (List D)} {g : D → M Unit} {b : KL → M KL} {l : KL} {Q : KL → B.Env → Prop} : W (mForK mi g b l) β Q E ↔ W mi β (fun ds β1 => W (forK g b ds l) β1 Q E) E := by
  unfold mForK
  exact W_bnd
@[simp ↓] theorem W_seqK {m n : KL → M KL} {l : KL} {Q : KL → B.Env → Prop} : W (seqK m n l) β Q E ↔ W (m l) β (fun l' β1 => W (n l') β1 Q E) E := by
  unfold seqK
  exact W_bnd
theorem forK_cons {g : D → M Unit} {b : KL → M KL} {d : D} {ds : List D} {l : KL} {Q : KL → B.Env → Prop} (h : W (g d) β (fun _ β1 => W (b l) β1 (fun l' β2 => W (forK g b ds l') β2 Q E) E) noE) : W (forK g b (d :: ds) l) β Q E := by
  unfold W at h ⊢
  simp only [forK]
  cases e : g d β with
  | stuck => rw [e] at h; exact h.elim
  | exc x β1 => rw [e] at h; exact h.elim
  | ok u β1 =>
    rw [e] at h
    simp only at h ⊢
    cases e2 : b l β1 with
    | stuck => rw [e2] at h; exact h.elim
    | exc x β2 => rw [e2] at h; exact h
    | ok l' β2 => rw [e2] at h; exact h
theorem W_forK {g : D → M Unit} {b : KL → M KL} {Q : KL → B.Env → Prop} {ds : List D} {l0 : KL} (I : Nat → KL → B.Env → Prop) (h0 : I 0 l0 β)
    (step : ∀ i d l β, ds[i]? = some d → I i l β → W (g d) β (fun _ β1 => W (b l) β1 (fun l' β2 => I (i + 1) l' β2) E) noE) (fin : ∀ l β, I ds.length l β → Q l β) : W (forK g b ds l0) β Q E := by
  have key : ∀ (n i : Nat) (l : KL) (β : B.Env), i + n = ds.length → I i l β → W (forK g b (ds.drop i) l) β Q E := by
    intro n
    induction n with
    | zero =>
      intro i l β hi h
      rw [List.drop_of_length_le (by omega)]
      have : i = ds.length := by omega
      subst this
      have := fin l β h
      with_unfolding_all exact this
    | succ n ih =>
      intro i l β hi h
      have hlt : i < ds.length := by omega
      rw [List.drop_eq_getElem_cons hlt]
      exact forK_cons ((step i _ l β (List.getElem?_eq_getElem hlt) h).mono (fun _ β1 h1 => h1.mono (fun l' β2 h2 => ih (i + 1) l' β2 (by omega) h2) fun _ _ h => h) fun _ _ h => h)
  have := key ds.length 0 l0 β (by omega) h0
  rwa [List.drop_zero] at this
@[simp ↓] theorem W_mApp {mk mv : M Rs} {l : KL} {Q : KL → B.Env → Prop} : W (mApp mk mv l) β Q E ↔ W mk β (fun rk β1 => optW (tupI? rk.d) fun k => k ∈ l.map (·.1) ∧ W mv β1 (fun rv β2 => (∀ p ∈ l, p.1 = k → p.2.length < sizeLine) ∧ Q (appL l k rv.d) β2) E) E := by
  unfold mApp
  refine W_bnd.trans (W_congr fun rk β1 => ?_)
  unfold midApp
  cases tupI? rk.d with
  | none => exact W_stk
  | some k =>
    simp only [optW]
    by_cases h : k ∈ l.map (·.1)
    · rw [if_pos h]
      refine (W_bnd.trans (W_congr fun rv β2 => ?_)).trans ⟨fun q => ⟨h, q⟩, fun q => q.2⟩
      unfold finApp
      by_cases h2 : (l.all fun p => decide (p.1 ≠ k) || decide (p.2.length < sizeLine)) = true
      · rw [if_pos h2]
        refine W_ret.trans ⟨fun q => ⟨fun p hp e => ?_, q⟩, fun q => q.2⟩
        have := List.all_eq_true.mp h2 p hp
        simpa [e] using this
      · rw [if_neg h2]
        refine W_stk.trans ⟨fun q => q.elim, fun q => h2 (List.all_eq_true.mpr fun p hp => ?_)⟩
        by_cases e : p.1 = k
        · simp [e, q.1 p hp e]
        · simp [e]
    · rw [if_neg h]
      exact W_stk.trans ⟨fun q => q.elim, fun q => h q.1⟩
/-! x[k] op= e, enumerate, calls with a new object -/
@[simp ↓] theorem W_enumA {ds : List D} {Q : List D → B.Env → Prop} : W (enumA [.d (.nd .lst ds)]) β Q E ↔ Q (enumD ds) β := by with_unfolding_all exact Iff.rfl
@[simp ↓] theorem W_augFin {i : Nat} {f : Int → Int → Int} {k a : Int} {r : Rs} {Q : Fl → B.Env → Prop} : W (augFin i f k a r) β Q E ↔ iW r.d fun c => ownW β[i]? fun b d => lstW d fun ds => optW (ixN ds.length k) fun j => Q .nx (β.set i (.own b (.nd .lst (ds.set j (.int (f a c)))))) := by
  unfold W augFin iW ownW
  cases r.d with
  | int c =>
    simp only
    rcases β[i]? with _ | _ | _ | _ | ⟨b, d⟩ | _ <;> try exact Iff.rfl
    unfold lstW
    rcases d with _ | _ | _ | _ | ⟨t, ds⟩ <;> try exact Iff.rfl
    cases t <;> try exact Iff.rfl
    simp only
    cases ixN ds.length k <;> exact Iff.rfl
  | _ => exact Iff.rfl
@[simp ↓] theorem W_augMid {i : Nat} {f : Int → Int → Int} {me : M Rs} {kr : Rs} {Q : Fl → B.Env → Prop} : W (augMid i f me kr) β Q E ↔ ownW β[i]? fun b d => lstW d fun ds => iW kr.d fun k => optW (L2.atI ds k) fun a => iW a fun a => W me β (fun r β1 => W (augFin i f k a r) β1 Q E) E := by
  have key : ∀ (b : Option Nat) (ds : List D) (k : Int), β[i]? = some (.own b (.nd .lst ds)) → kr.d = .int k → (W (augMid i f me kr) β Q E ↔ optW (L2.atI ds k) fun a => iW a fun a => W me β (fun r β1 => W (augFin i f k a r) β1 Q E) E) := fun b ds k e1 e2 => by
    have e : augMid i f me kr β = match L2.atI ds k with
      | some (.int a) => (bnd me (augFin i f k a)) β
      | _ => .stuck := by
      unfold augMid
      rw [e1, e2]
      try rfl
    cases e3 : L2.atI ds k with
    | none =>
      unfold W
      rw [e, e3]
      try exact Iff.rfl
    | some a =>
      cases a with
      | int a =>
        rw [e3] at e
        have : W (augMid i f me kr) β Q E ↔ W (bnd me (augFin i f k a)) β Q E := by
          unfold W
          rw [e]
        exact this.trans W_bnd
      | _ =>
        unfold W
        rw [e, e3]
        try exact Iff.rfl
  unfold ownW
  cases e1 : β[i]? with
  | none =>
    unfold W augMid
    rw [e1]
    try exact Iff.rfl
  | some s =>
    cases s with
    | own b d =>
      simp only
      unfold lstW
      cases d with
      | nd t ds =>
        cases t with
        | lst =>
          simp only
          unfold iW
          cases e2 : kr.d with
          | int k => exact key b ds k e1 e2
          | _ =>
            unfold W augMid
            rw [e1, e2]
            try exact Iff.rfl
        | _ =>
          unfold W augMid
          rw [e1]
          try exact Iff.rfl
      | _ =>
        unfold W augMid
        rw [e1]
        try exact Iff.rfl
    | _ =>
      unfold W augMid
      rw [e1]
      try exact Iff.rfl
@[simp ↓] theorem W_mAugIx {i : Nat} {f : Int → Int → Int} {mk me : M Rs} {Q : Fl → B.Env → Prop} : W (mAugIx i f mk me) β Q E ↔ isSet β[i]? ∧ W mk β (fun kr β1 => W (augMid i f me kr) β1 Q E) E := by
  unfold mAugIx
  refine W_bnd.trans (W_mPl.trans ?_)
  exact and_congr Iff.rfl W_bnd
@[simp ↓] theorem W_mCallT {f : List D → FR} {me : M Rs} {Q : Rs → B.Env → Prop} : W (mCallT f me) β Q E ↔ W me β (fun r β1 => W (callT f r) β1 Q E) E := by
  unfold mCallT
  exact W_bnd
theorem W_callT {f : List D → FR} {d : D} {Q : Rs → B.Env → Prop} (h : FW (f [d]) (fun r ios => (∃ d', ios = [d']) ∧ Q r β) (fun x ios => (∃ d', ios = [d']) ∧ E x β)) : W (callT f (.own d)) β Q E := by
  unfold FW at h
  unfold W callT
  simp only
  cases e : f [d] with
  | stuck => rw [e] at h; exact h.elim
  | ok r ios =>
    rw [e] at h
    obtain ⟨⟨d', rfl⟩, h⟩ := h
    exact h
  | exc x ios =>
    rw [e] at h
    obtain ⟨⟨d', rfl⟩, h⟩ := h
    exact h
end
end B

set_option Elab.async false
set_option linter.all false
set_option maxRecDepth 100000
set_option maxHeartbeats 4000000
namespace B
open PySem PySem.Spec L2 PyProof.Rows
section
variable {β : B.Env} {E : Exn → B.Env → Prop}
@[simp ↓] theorem W_mComp2 {vs vs1 : List Nat} {mi mi1 : M (List D)} {g g1 : D → M Unit} {mt mt1 : M Bool} {me : M Rs} {Q : Rs → B.Env → Prop} : W (mComp2 vs vs1 mi g mt mi1 g1 mt1 me) β Q E ↔ W mi β (fun ds β1 => W (comp2V g mt mi1 g1 mt1 me vs vs1 ds) β1 Q E) E := by
  unfold mComp2
  exact W_bnd
/-- the inner turns, where the slots stay -/
theorem W_compLF {g : D → M Unit} {mt : M Bool} {me : M Rs} {vs : List Nat} {ds : List D} {acc0 : List D} {Q : List D → B.Env → Prop} (p : D → Bool) (f : D → D) (hlen : acc0.length + ds.length ≤ sizeLine)
    (step : ∀ d, d ∈ ds → W (g d) β (fun _ β2 => W mt β2 (fun k β3 => k = p d ∧ if p d = true then W me β3 (fun r β4 => r.d = f d ∧ wipeB β4 vs = β) noE else wipeB β3 vs = β) noE) noE)
    (fin : Q (acc0 ++ (ds.filter p).map f) β) : W (compL g mt me vs ds acc0) β Q noE := by
  have key : ∀ (l : List D) (acc : List D), acc.length + l.length ≤ sizeLine → (∀ d ∈ l, d ∈ ds) → W (compL g mt me vs l acc) β (fun a b => a = acc ++ (l.filter p).map f ∧ b = β) noE := by
    intro l
    induction l with
    | nil =>
      intro acc _ _
      have : (acc = acc ++ (([] : List D).filter p).map f ∧ β = β) := by simp
      with_unfolding_all exact this
    | cons d l ih =>
      intro acc hl hm
      rw [List.length_cons] at hl
      refine compL_cons ((step d (hm d List.mem_cons_self)).mono (fun _ β2 h2 => h2.mono (fun k β3 h3 => ?_) fun _ _ h => h) fun _ _ h => h)
      obtain ⟨rfl, h3⟩ := h3
      by_cases hp : p d = true
      · rw [if_pos hp] at h3 ⊢
        refine h3.mono (fun r β4 h4 => ⟨by omega, ?_⟩) fun _ _ h => h
        rw [h4.2, h4.1]
        refine (ih (acc ++ [f d]) (by simp; omega) fun e he => hm e (List.mem_cons_of_mem _ he)).mono (fun a b ⟨h1, h2⟩ => ⟨?_, h2⟩) fun _ _ h => h
        rw [h1]
        simp [hp]
      · rw [if_neg hp] at h3 ⊢
        rw [h3]
        refine (ih acc (by omega) fun e he => hm e (List.mem_cons_of_mem _ he)).mono (fun a b ⟨h1, h2⟩ => ⟨?_, h2⟩) fun _ _ h => h
        rw [h1]
        simp [hp]
  exact (key ds acc0 hlen fun _ h => h).mono (fun a b ⟨h1, h2⟩ => by rw [h1, h2]; exact fin) fun _ _ h => h
theorem comp2_cons {g g1 : D → M Unit} {mt mt1 : M Bool} {mi1 : M (List D)} {me : M Rs} {vs vs1 : List Nat} {d : D} {ds acc : List D} {Q : List D → B.Env → Prop}
    (h : W (g d) β (fun _ β1 => W mt β1 (fun k β2 => if k = true then W mi1 β2 (fun ds1 β3 => W (compL g1 mt1 me vs1 ds1 acc) (wipeB β3 vs1) (fun acc' β4 => W (comp2L g mt mi1 g1 mt1 me vs vs1 ds acc') (wipeB β4 vs) Q noE) noE) noE else W (comp2L g mt mi1 g1 mt1 me vs vs1 ds acc) (wipeB β2 vs) Q noE) noE) noE) :
    W (comp2L g mt mi1 g1 mt1 me vs vs1 (d :: ds) acc) β Q noE := by
  unfold W at h ⊢
  simp only [comp2L]
  cases e : g d β with
  | stuck => rw [e] at h; exact h.elim
  | exc x β1 => rw [e] at h; exact h.elim
  | ok u β1 =>
    rw [e] at h
    simp only at h ⊢
    cases e2 : mt β1 with
    | stuck => rw [e2] at h; exact h.elim
    | exc x β2 => rw [e2] at h; exact h.elim
    | ok k β2 =>
      rw [e2] at h
      cases k with
      | false => simpa using h
      | true =>
        simp only [if_true] at h ⊢
        cases e3 : mi1 β2 with
        | stuck => rw [e3] at h; exact h.elim
        | exc x β3 => rw [e3] at h; exact h.elim
        | ok ds1 β3 =>
          rw [e3] at h
          simp only at h ⊢
          cases e4 : compL g1 mt1 me vs1 ds1 acc (wipeB β3 vs1) with
          | stuck => rw [e4] at h; exact h.elim
          | exc x β4 => rw [e4] at h; exact h.elim
          | ok acc' β4 =>
            rw [e4] at h
            exact h
/-- two clauses, no tests: each item d of the first walk gives its items (its d), each of these (f d) -/
theorem W_comp2F {g g1 : D → M Unit} {mt mt1 : M Bool} {mi1 : M (List D)} {me : M Rs} {vs vs1 : List Nat} {ds : List D} {Q : Rs → B.Env → Prop} (its : D → List D) (p : D → D → Bool) (f : D → D → D) (hno : noOwn β vs = true) (hlen : (ds.flatMap its).length ≤ sizeLine)
    (step : ∀ d, d ∈ ds → W (g d) (wipeB β vs) (fun _ β2 => W mt β2 (fun k β3 => k = true ∧ W mi1 β3 (fun ds1 β4 => ds1 = its d ∧ ∀ acc : List D, acc.length + (its d).length ≤ sizeLine → W (compL g1 mt1 me vs1 ds1 acc) (wipeB β4 vs1) (fun a b => a = acc ++ ((its d).filter (p d)).map (f d) ∧ wipeB b vs = wipeB β vs) noE) noE) noE) noE)
    (fin : Q (.own (.nd .lst (ds.flatMap fun d => ((its d).filter (p d)).map (f d)))) (backB β (wipeB β vs) vs)) : W (comp2V g mt mi1 g1 mt1 me vs vs1 ds) β Q E := by
  have key : ∀ (l : List D) (acc : List D), acc.length + (l.flatMap its).length ≤ sizeLine → (∀ d ∈ l, d ∈ ds) → W (comp2L g mt mi1 g1 mt1 me vs vs1 l acc) (wipeB β vs) (fun a b => a = acc ++ (l.flatMap fun d => ((its d).filter (p d)).map (f d)) ∧ b = wipeB β vs) noE := by
    intro l
    induction l with
    | nil =>
      intro acc _ _
      have : (acc = acc ++ (([] : List D).flatMap fun d => ((its d).filter (p d)).map (f d)) ∧ wipeB β vs = wipeB β vs) := by simp
      with_unfolding_all exact this
    | cons d l ih =>
      intro acc hl hm
      rw [List.flatMap_cons, List.length_append] at hl
      refine comp2_cons ((step d (hm d List.mem_cons_self)).mono (fun _ β2 h2 => h2.mono (fun k β3 h3 => ?_) fun _ _ h => h) fun _ _ h => h)
      obtain ⟨rfl, h3⟩ := h3
      rw [if_pos rfl]
      refine h3.mono (fun ds1 β4 h4 => (h4.2 acc (by omega)).mono (fun a b hab => ?_) fun _ _ h => h) fun _ _ h => h
      rw [hab.2, hab.1]
      have hfl : (((its d).filter (p d)).map (f d)).length ≤ (its d).length := by
        rw [List.length_map]
        exact List.length_filter_le _ _
      refine (ih _ (by rw [List.length_append]; omega) fun e he => hm e (List.mem_cons_of_mem _ he)).mono (fun a b ⟨h1, h2⟩ => ⟨?_, h2⟩) fun _ _ h => h
      rw [h1, List.flatMap_cons, List.append_assoc]
  have h := key ds [] (by simpa using hlen) fun _ h => h
  obtain ⟨acc, β1, e, h1, h2⟩ := h.eq fun _ _ h => h
  unfold W comp2V
  rw [if_pos hno, e]
  rw [h1, h2]
  exact fin
end
end B

set_option Elab.async false
set_option linter.all false
set_option maxRecDepth 100000
set_option maxHeartbeats 4000000
namespace B
open PySem PySem.Spec L2 PyProof.Rows
/-! # f() -/
section
variable {X : Cx} {k : Nat} {f : Addr} {fd : FuncData} {ps : List Str} {sp : Sp} {ds : List Value} {dvs : List V} {E : L2.St → XK} {x : Str} {p pos : Pos}
theorem pe_callG0 (F : FnG X.prog X.w X.K X.mg X.base k f fd ps sp) (hr : RoomG k X.A) (hg : Gl X x) (hm : X.mg x = some (.ref f)) (hk : PySem.W.keepIn X.K (.ref f) = true) (hb : Binds X.K fd ps ds) (hd : Vals dvs ds) (hx : ∀ σ, PassesAt (L2.CX X.prog X.w) X σ (E σ))
    (hdb : (x == ("__debug__" : Str)) = false := by decide) : PE X (.Call (.Name x p) [] [] pos) (fun σ H Q => sp dvs H Q (E σ)) where
  run pins s σ H Q I h := wpAny_Call_Name_kw (ld_glob I hg hm (PySem.W.callWith_K0 I.kIn hk (by
      have rr : Vals dvs ds := hd
      exact wpAny_call (codeAny_mono (call_end F hr (hx σ) I (hb s [] I.kIn (rr.length.symm.trans (F.len _ _ _ _ h))) rr h) fun r s' z => match r, z with
        | .error _, z => z
        | .ok (.ret _), z => z))) hdb)
theorem be_c0 {j : Nat} {prm : List Str} {g : List D → FR} (O : Ok X.prog X.w X.K X.mg X.base j x prm [] g) (hr : RoomG k X.A) (hjk : j ≤ k) (hg : Gl X x := by rfl) (hdb : (x == ("__debug__" : Str)) = false := by decide) : BE X (.Call (.Name x p) [] [] pos) (mCallF [] g mNil) := by
  obtain ⟨fa, fd, Fn, hm, hk, hb⟩ := O
  refine fun W tk => (pe_callG0 Fn (hr.mono hjk) hg hm hk hb .nil (fun σ => passAt tk σ) hdb).imp fun σ H Q ⟨G, io, F, β, I, h⟩ => ?_
  exact callF_post (ks := []) (ps := []) I .nil h
end
end B

set_option Elab.async false
set_option linter.all false
set_option maxRecDepth 100000
set_option maxHeartbeats 4000000
namespace B
open PySem PySem.Spec L2 PyProof.Rows
section
variable {β : B.Env} {E : Exn → B.Env → Prop}
def insW (d : D) (P : Str → List Str → List D → Prop) : Prop := match d with
  | .nd (.ins c ns) ds => P c ns ds
  | _ => False
@[simp ↓] theorem insW_ins {c : Str} {ns : List Str} {ds : List D} {P : Str → List Str → List D → Prop} : insW (.nd (.ins c ns) ds) P ↔ P c ns ds := Iff.rfl
@[simp ↓] theorem W_mSetFld {c f : Str} {i : Nat} {me : M Rs} {Q : Fl → B.Env → Prop} : W (mSetFld c f i me) β Q E ↔ W me β (fun r β1 => ownW β1[i]? fun b d => insW d fun c' ns ds => (c' = c ∧ ns.length < 1000) ∧ Q .nx (β1.set i (.own b (insD c' (putFD f r.d (ns.zip ds)))))) E := by
  unfold mSetFld
  refine W_bnd.trans (W_congr fun r β1 => ?_)
  unfold W ownW insW
  dsimp only
  rcases β1[i]? with _ | _ | _ | _ | ⟨b, d⟩ | _ <;> try exact Iff.rfl
  rcases d with _ | _ | _ | _ | ⟨t, ds⟩ <;> try exact Iff.rfl
  cases t with
  | ins c' ns =>
    simp only
    by_cases h : c' = c ∧ ns.length < 1000
    · rw [if_pos h]
      exact ⟨fun q => ⟨h, q⟩, fun q => q.2⟩
    · rw [if_neg h]
      exact ⟨fun q => q.elim, fun q => h q.1⟩
  | _ => exact Iff.rfl
end
end B

set_option Elab.async false
set_option linter.all false
set_option maxRecDepth 100000
set_option maxHeartbeats 4000000
namespace RG
open PySem PySem.Spec L2 B
noncomputable def m_L_cell_at : M Fl :=
  seqF (mIfS (asB (mOp gLtX (mPl 1) (mP (mCall gLen (mCons (mPl 0) (mNil)))))) (mRet (mOp gIx (mPl 0) (mPl 1))) (ret .nx))
  (mRet (mC (.int 0)))
noncomputable def r_L_cell_at : List D → FR := runB [false, false] 2 m_L_cell_at
noncomputable def m_L_draw : M Fl :=
  seqF (mIfS (asB (mOp gGtX (mP (mOp gIx (mPl 0) (mP (mC (.int 0))))) (mP (mC (.int 0))))) (seqF (mSet 3 (mOp gMod (mP (mOp gIx (mPl 0) (mP (mC (.int 0))))) (mPl 1)))
  (seqF (mSetIx 0 (mOp gFdiv (mP (mOp gIx (mPl 0) (mP (mC (.int 0))))) (mPl 1)) (mC (.int 0)))
  (mRetVar 3))) (ret .nx))
  (seqF (mSetIx 0 (mOp gAdd (mP (mOp gIx (mPl 0) (mP (mC (.int 2))))) (mP (mC (.int 1)))) (mC (.int 2)))
  (seqF (mSet 2 (mOp gMod (mP (mOp gMul (mP (mOp gAdd (mP (mOp gAdd (mP (mOp gIx (mPl 0) (mP (mC (.int 1))))) (mP (mOp gMul (mP (mC (.int 86969))) (mP (mOp gIx (mPl 0) (mP (mC (.int 2))))))))) (mP (mC (.int 1))))) (mP (mC (.int 48271))))) (mP (mC (.int 2147483629)))))
  (seqF (mSet 2 (mOp gMod (mP (mOp gMul (mPl 2) (mP (mOp gAdd (mP (mOp gAdd (mP (mOp gFdiv (mPl 2) (mP (mC (.int 1013))))) (mP (mC (.int 69623))))) (mP (mOp gIx (mPl 0) (mP (mC (.int 2))))))))) (mP (mC (.int 2147483587)))))
  (mRet (mOp gMod (mP (mOp gFdiv (mP (mOp gMod (mP (mOp gMul (mPl 2) (mP (mOp gAdd (mP (mOp gFdiv (mPl 2) (mP (mC (.int 2003))))) (mP (mC (.int 40692))))))) (mP (mC (.int 2147483563))))) (mP (mC (.int 3))))) (mPl 1))))))
noncomputable def r_L_draw : List D → FR := runB [true, false] 4 m_L_draw
noncomputable def m_L_one : M Fl :=
  mRet (mOp gIx (mPl 1) (mP (mCallF [true, false] r_L_draw (mCons (mPl 0) (mCons (mP (mCall gLen (mCons (mPl 1) (mNil)))) (mNil))))))
noncomputable def r_L_one : List D → FR := runB [true, false] 2 m_L_one
noncomputable def m_L_lists : M Fl :=
  seqF (mSet 2 (mLst (mCons (mP (mLst (mNil))) (mNil))))
  (seqF (mFor (bnd (mCons (mPl 1) (mNil)) rngA) (gSet 3) (seqF (mSet 4 (mLst (mNil)))
  (seqF (mFor (mIter (mVar 2)) (gSet 5) (mSet 4 (mOp gAdd (mPl 4) (mP (mComp [6] (bnd (mCons (mPl 0) (mNil)) rngA) (gSet 6) (mYes) (mOp gAdd (mPl 5) (mP (mLst (mCons (mP (mVar 6)) (mNil))))))))))
  (mSet 2 (mMv 4)))))
  (mRetVar 2))
noncomputable def r_L_lists : List D → FR := runB [false, false] 7 m_L_lists
noncomputable def m_L_parts : M Fl :=
  seqF (mSet 1 (mOp gAdd (mP (mC (.int 1))) (mP (mCallF [true, false] r_L_draw (mCons (mPl 0) (mCons (mP (mC (.int 3))) (mNil)))))))
  (seqF (mSet 2 (mCallF [true, false] r_L_one (mCons (mPl 0) (mCons (mP (mLst (mCons (mP (mC (.int 2))) (mCons (mP (mC (.int 2))) (mCons (mP (mC (.int 3))) (mCons (mP (mC (.int 3))) (mCons (mP (mOp gAdd (mP (mC (.int 2))) (mP (mOp gMul (mP (mC (.int 2))) (mP (mCall gInt (mCons (mP (mOp gLtX (mPl 1) (mP (mC (.int 3))))) (mNil)))))))) (mNil)))))))) (mNil)))))
  (seqF (mSet 3 (mComp [7] (mIter (mCallF [false, false] r_L_lists (mCons (mP (mVar 1)) (mCons (mP (mVar 2)) (mNil))))) (gSet 7) (mYes) (mCall gTuple (mCons (mPl 7) (mNil)))))
  (seqF (mSet 4 (mCallF [true, false] r_L_draw (mCons (mPl 0) (mCons (mP (mC (.int 5))) (mNil)))))
  (seqF (mIfS (asB (mOp gEq (mPl 4) (mP (mC (.int 0))))) (mRet (mTup (mCons (mP (mVar 1)) (mCons (mP (mVar 2)) (mCons (mP (mComp [6] (mIter (mVar 3)) (gSet 6) (asB (mOp gNotIn (mP (mC (.int 0))) (mP (mComp [8, 9] (bnd (mCons (mP (mVar 6)) (mCons (mP (mSl (mPl 6) (mPart (mC (.int 1))) (mNoPart))) (mNil))) zipA) (gUnp 2 (gsCons (gSet 8) (gsCons (gSet 9) (gsNil)))) (mYes) (mOp gSub (mPl 8) (mPl 9)))))) (mVar 6))) (mNil)))))) (ret .nx))
  (seqF (mSet 5 (mLst (mNil)))
  (seqF (mFor (mIter (mVar 3)) (gSet 6) (mIfS (asB (mOp gLtX (mP (mCallF [true, false] r_L_draw (mCons (mPl 0) (mCons (mP (mC (.int 4))) (mNil))))) (mPl 4))) (mExpr (mMut "list" 5 gAppend (mCons (mP (mVar 6)) (mNil)))) (ret .nx)))
  (mRet (mTup (mCons (mP (mVar 1)) (mCons (mP (mVar 2)) (mCons (mP (mVar 5)) (mNil))))))))))))
noncomputable def r_L_parts : List D → FR := runB [true] 10 m_L_parts
noncomputable def m_P_is_from : M Fl :=
  mRet (mAndV (mUn (gIsi "int") (mPl 0)) (mAndV (mNotV (mUn (gIsi "bool") (mPl 0))) (mChain gLe gLe (mPl 1) (mPl 0) (mPl 2))))
noncomputable def r_P_is_from : List D → FR := runB [false, false, false] 3 m_P_is_from
noncomputable def m_P_is_word : M Fl :=
  seqF (mIfS (mOr (mNot (mTru (mP (mUn (gIsi "tuple") (mPl 0))))) (asB (mOp gNe (mP (mCall gLen (mCons (mPl 0) (mNil)))) (mPl 2)))) (mRet (mC (.bl false))) (ret .nx))
  (mRet (mCall gAll (mCons (mP (mComp [3] (mIter (mVar 0)) (gSet 3) (mYes) (mCallF [false, false, false] r_P_is_from (mCons (mP (mVar 3)) (mCons (mP (mC (.int 0))) (mCons (mP (mOp gSub (mPl 1) (mP (mC (.int 1))))) (mNil))))))) (mNil))))
noncomputable def r_P_is_word : List D → FR := runB [false, false, false] 4 m_P_is_word
noncomputable def m_P_are_words : M Fl :=
  seqF (mIfS (mOr (mNot (mTru (mP (mUn (gIsi "list") (mPl 0))))) (mNot (mTru (mP (mCall gAll (mCons (mP (mComp [3] (mIter (mVar 0)) (gSet 3) (mYes) (mCallF [false, false, false] r_P_is_word (mCons (mP (mVar 3)) (mCons (mP (mVar 1)) (mCons (mP (mVar 2)) (mNil))))))) (mNil))))))) (mRet (mC (.bl false))) (ret .nx))
  (mRet (mOp gEq (mPl 0) (mP (mUn gSortSet (mPl 0)))))
noncomputable def r_P_are_words : List D → FR := runB [false, false, false] 4 m_P_are_words
noncomputable def m_P_Rule_init : M Fl :=
  seqF (mIfS (mNot (mTru (mP (mCallF [false, false, false] r_P_is_from (mCons (mP (mVar 1)) (mCons (mP (mC (.int 1))) (mCons (mP (mC (.int 4))) (mNil)))))))) (mRaiseI "NoRule" "what" (mP (mC (.str "size")))) (ret .nx))
  (seqF (mIfS (mNot (mTru (mP (mCallF [false, false, false] r_P_is_from (mCons (mP (mVar 2)) (mCons (mP (mC (.int 2))) (mCons (mP (mC (.int 4))) (mNil)))))))) (mRaiseI "NoRule" "what" (mP (mC (.str "wide")))) (ret .nx))
  (seqF (mIfS (mNot (mTru (mP (mCallF [false, false, false] r_P_are_words (mCons (mP (mVar 3)) (mCons (mP (mVar 1)) (mCons (mP (mVar 2)) (mNil)))))))) (mRaiseI "NoRule" "what" (mP (mC (.str "words")))) (ret .nx))
  (seqF (mSetFld "Rule" "size" 0 (mVar 1))
  (seqF (mSetFld "Rule" "wide" 0 (mVar 2))
  (mSetFld "Rule" "words" 0 (mCall gList (mCons (mPl 3) (mNil))))))))
noncomputable def r_P_Rule_init : List D → FR := runB [true, false, false, false] 4 m_P_Rule_init
noncomputable def m_P_is_ring : M Fl :=
  mRet (mAndV (mUn (gIsi "list") (mPl 1)) (mAndV (mOp gNe (mPl 1) (mP (mLst (mNil)))) (mCall gAll (mCons (mP (mComp [2] (mIter (mVar 1)) (gSet 2) (mYes) (mCallF [false, false, false] r_P_is_from (mCons (mP (mVar 2)) (mCons (mP (mC (.int 0))) (mCons (mP (mOp gSub (mP (mUn (gFld "Rule" "size") (mPl 0))) (mP (mC (.int 1))))) (mNil))))))) (mNil)))))
noncomputable def r_P_is_ring : List D → FR := runB [false, false] 3 m_P_is_ring
noncomputable def m_P_sure_ring : M Fl :=
  mIfS (mNot (mTru (mP (mCallF [false, false] r_P_is_ring (mCons (mP (mVar 0)) (mCons (mP (mVar 1)) (mNil))))))) (mRaise0 "NoRing") (ret .nx)
noncomputable def r_P_sure_ring : List D → FR := runB [false, false] 2 m_P_sure_ring
noncomputable def m_P_points : M Fl :=
  mRet (mPts (mSetC [1] (mIter (mUn (gFld "Rule" "words") (mPl 0))) (gSet 1) (mYes) (mSl (mPl 1) (mNoPart) (mPart (mUn gNeg (mP (mC (.int 1))))))) (mSetC [1] (mIter (mUn (gFld "Rule" "words") (mPl 0))) (gSet 1) (mYes) (mSl (mPl 1) (mPart (mC (.int 1))) (mNoPart))))
noncomputable def r_P_points : List D → FR := runB [false] 2 m_P_points
noncomputable def m_P_ties : M Fl :=
  mBlkK 1 (mKd [3] (mIter (mCallF [false] r_P_points (mCons (mP (mVar 0)) (mNil)))) (gSet 3) (mYes) (mVar 3)) (mForK (mIter (mUn (gFld "Rule" "words") (mPl 0))) (gSet 2) (mApp (mSl (mPl 2) (mNoPart) (mPart (mUn gNeg (mP (mC (.int 1)))))) (mSl (mPl 2) (mPart (mC (.int 1))) (mNoPart))))
  (mRetVar 1)
noncomputable def r_P_ties : List D → FR := runB [false] 4 m_P_ties
noncomputable def m_P_window : M Fl :=
  mRet (mCall gTuple (mCons (mP (mComp [3] (bnd (mCons (mPl 2) (mNil)) rngA) (gSet 3) (mYes) (mOp gIx (mPl 0) (mP (mOp gMod (mP (mOp gAdd (mPl 1) (mPl 3))) (mP (mCall gLen (mCons (mPl 0) (mNil))))))))) (mNil)))
noncomputable def r_P_window : List D → FR := runB [false, false, false] 4 m_P_window
noncomputable def m_P_is_fitting : M Fl :=
  mRet (mCall gAll (mCons (mP (mComp [2] (bnd (mCons (mP (mCall gLen (mCons (mPl 1) (mNil)))) (mNil)) rngA) (gSet 2) (mYes) (mOp gIn (mP (mCallF [false, false, false] r_P_window (mCons (mP (mVar 1)) (mCons (mP (mVar 2)) (mCons (mP (mUn (gFld "Rule" "wide") (mPl 0))) (mNil)))))) (mP (mUn (gFld "Rule" "words") (mPl 0)))))) (mNil)))
noncomputable def r_P_is_fitting : List D → FR := runB [false, false] 3 m_P_is_fitting
noncomputable def m_P_walks_to : M Fl :=
  seqF (mSet 3 (mLst (mCons (mP (mDictC [6] (mIterK (mVar 0)) (gSet 6) (mYes) (mVar 6) (mCall gInt (mCons (mP (mOp gEq (mPl 6) (mPl 1))) (mNil))))) (mNil))))
  (seqF (mFor (bnd (mCons (mPl 2) (mNil)) rngA) (gSet 4) (seqF (mSet 5 (mOp gIx (mPl 3) (mP (mUn gNeg (mP (mC (.int 1)))))))
  (mExpr (mMut "list" 3 gAppend (mCons (mP (mDictC [6] (mIterK (mVar 0)) (gSet 6) (mYes) (mVar 6) (mCall gSum (mCons (mP (mComp [7] (mIter (mOp gIxA (mPl 0) (mPl 6))) (gSet 7) (mYes) (mOp gIxA (mPl 5) (mPl 7)))) (mNil))))) (mNil))))))
  (mRetVar 3))
noncomputable def r_P_walks_to : List D → FR := runB [false, false, false] 8 m_P_walks_to
noncomputable def m_P_all_rings : M Fl :=
  seqF (mSet 2 (mLst (mCons (mP (mLst (mNil))) (mNil))))
  (seqF (mFor (bnd (mCons (mPl 1) (mNil)) rngA) (gSet 3) (mSet 2 (mComp2 [4, 5] [5] (mIter (mVar 2)) (gSet 4) (mYes) (bnd (mCons (mPl 0) (mNil)) rngA) (gSet 5) (mYes) (mOp gAdd (mPl 4) (mP (mLst (mCons (mP (mVar 5)) (mNil))))))))
  (mRetVar 2))
noncomputable def r_P_all_rings : List D → FR := runB [false, false] 6 m_P_all_rings
noncomputable def m_P_short_rings : M Fl :=
  mRet (mComp [2] (mIter (mCallF [false, false] r_P_all_rings (mCons (mP (mUn (gFld "Rule" "size") (mPl 0))) (mCons (mP (mVar 1)) (mNil))))) (gSet 2) (mTru (mP (mCallF [false, false] r_P_is_fitting (mCons (mP (mVar 0)) (mCons (mP (mVar 2)) (mNil)))))) (mVar 2))
noncomputable def r_P_short_rings : List D → FR := runB [false, false] 3 m_P_short_rings
noncomputable def m_P_number_in_walk : M Fl :=
  seqF (mSet 4 (mC (.int 0)))
  (seqF (mSet 5 (mVar 2))
  (seqF (mFor (bnd (mCons (mP (mCall gLen (mCons (mPl 2) (mNil)))) (mCons (mP (mCall gLen (mCons (mPl 3) (mNil)))) (mNil))) rngB) (gSet 6) (seqF (mSet 7 (mOp gAdd (mP (mOp gSub (mP (mOp gSub (mP (mCall gLen (mCons (mPl 3) (mNil)))) (mPl 6))) (mP (mC (.int 1))))) (mP (mCall gLen (mCons (mPl 2) (mNil))))))
  (seqF (mSet 8 (mOp gAdd (mP (mSl (mPl 5) (mPart (mC (.int 1))) (mNoPart))) (mP (mTup (mCons (mP (mOp gIx (mPl 3) (mPl 6))) (mNil))))))
  (seqF (mAug 4 (fun a b => a + b) (mCall gSum (mCons (mP (mComp [9] (mIter (mOp gIxA (mPl 0) (mPl 5))) (gSet 9) (asB (mOp gLtX (mPl 9) (mPl 8))) (mOp gIxA (mP (mOp gIxA (mPl 1) (mPl 7))) (mPl 9)))) (mNil))))
  (mSet 5 (mMv 8))))))
  (mRetVar 4)))
noncomputable def r_P_number_in_walk : List D → FR := runB [false, false, false, false] 10 m_P_number_in_walk
noncomputable def m_P_number_of : M Fl :=
  seqF (mExpr (mCallF [false, false] r_P_sure_ring (mCons (mP (mVar 0)) (mCons (mP (mVar 1)) (mNil)))))
  (seqF (mIfS (mNot (mTru (mP (mCallF [false, false] r_P_is_fitting (mCons (mP (mVar 0)) (mCons (mP (mVar 1)) (mNil))))))) (mRaise0 "NoFit") (ret .nx))
  (seqF (mIfS (asB (mOp gGtX (mP (mCall gLen (mCons (mPl 1) (mNil)))) (mP (mC (.int 60))))) (mRaise0 "NoLength") (ret .nx))
  (seqF (mIfS (asB (mOp gLtX (mP (mCall gLen (mCons (mPl 1) (mNil)))) (mP (mUn (gFld "Rule" "wide") (mPl 0))))) (mRet (mMet "list" gIndex (mP (mCallF [false, false] r_P_short_rings (mCons (mP (mVar 0)) (mCons (mP (mCall gLen (mCons (mPl 1) (mNil)))) (mNil))))) (mCons (mPl 1) (mNil)))) (ret .nx))
  (seqF (mSet 2 (mCallF [false] r_P_ties (mCons (mP (mVar 0)) (mNil))))
  (seqF (mSet 3 (mCall gTuple (mCons (mP (mSl (mPl 1) (mNoPart) (mPart (mOp gSub (mP (mUn (gFld "Rule" "wide") (mPl 0))) (mP (mC (.int 1))))))) (mNil))))
  (seqF (mSet 4 (mC (.int 0)))
  (seqF (mFor (mIterK (mVar 2)) (gSet 5) (seqF (mSet 6 (mCallF [false, false, false] r_P_walks_to (mCons (mP (mVar 2)) (mCons (mP (mVar 5)) (mCons (mP (mCall gLen (mCons (mPl 1) (mNil)))) (mNil))))))
  (seqF (mIfS (asB (mOp gEq (mPl 5) (mPl 3))) (mRet (mOp gAdd (mPl 4) (mP (mCallF [false, false, false, false] r_P_number_in_walk (mCons (mP (mVar 2)) (mCons (mP (mVar 6)) (mCons (mP (mVar 5)) (mCons (mP (mVar 1)) (mNil))))))))) (ret .nx))
  (mAug 4 (fun a b => a + b) (mOp gIxA (mP (mOp gIxA (mPl 6) (mP (mCall gLen (mCons (mPl 1) (mNil)))))) (mPl 5))))))
  (mRetVar 4))))))))
noncomputable def r_P_number_of : List D → FR := runB [false, false] 7 m_P_number_of
noncomputable def m_L_fits : M Fl :=
  seqF (mSet 3 (mOp gMul (mPl 2) (mP (mOp gAdd (mPl 0) (mP (mC (.int 1)))))))
  (mRet (mCall gAll (mCons (mP (mComp [4] (bnd (mCons (mP (mCall gLen (mCons (mPl 2) (mNil)))) (mNil)) rngA) (gSet 4) (mYes) (mOp gIn (mP (mCall gTuple (mCons (mP (mSl (mPl 3) (mPart (mVar 4)) (mPart (mOp gAdd (mPl 4) (mPl 0))))) (mNil)))) (mPl 1)))) (mNil))))
noncomputable def r_L_fits : List D → FR := runB [false, false, false] 5 m_L_fits
noncomputable def m_P_ring_of_walk : M Fl :=
  seqF (mSet 5 (mCall gList (mCons (mPl 2) (mNil))))
  (seqF (mSet 6 (mVar 2))
  (seqF (mWhile (asB (mOp gLtX (mP (mCall gLen (mCons (mPl 5) (mNil)))) (mPl 3))) (seqF (mSet 7 (mOp gAdd (mP (mOp gSub (mP (mOp gSub (mPl 3) (mP (mCall gLen (mCons (mPl 5) (mNil)))))) (mP (mC (.int 1))))) (mP (mCall gLen (mCons (mPl 2) (mNil))))))
  (seqF (mFor (mIter (mOp gIxA (mPl 0) (mPl 6))) (gSet 8) (seqF (mIfS (asB (mOp gLtX (mPl 4) (mP (mOp gIxA (mP (mOp gIxA (mPl 1) (mPl 7))) (mPl 8))))) (ret .brk) (ret .nx))
  (mAug 4 (fun a b => a - b) (mOp gIxA (mP (mOp gIxA (mPl 1) (mPl 7))) (mPl 8)))))
  (seqF (mSet 6 (mMv 8))
  (mExpr (mMut "list" 5 gAppend (mCons (mP (mOp gIx (mPl 6) (mP (mUn gNeg (mP (mC (.int 1))))))) (mNil))))))))
  (mRetVar 5)))
noncomputable def r_P_ring_of_walk : List D → FR := runB [false, false, false, false, false] 9 m_P_ring_of_walk
noncomputable def m_P_ring_at : M Fl :=
  seqF (mIfS (mNot (mTru (mP (mCallF [false, false, false] r_P_is_from (mCons (mP (mVar 1)) (mCons (mP (mC (.int 1))) (mCons (mP (mC (.int 60))) (mNil)))))))) (mRaise0 "NoLength") (ret .nx))
  (seqF (mIfS (mOr (mNot (mTru (mP (mUn (gIsi "int") (mPl 2))))) (mOr (mTru (mP (mUn (gIsi "bool") (mPl 2)))) (asB (mOp gLtX (mPl 2) (mP (mC (.int 0))))))) (mRaise0 "NoNumber") (ret .nx))
  (seqF (mIfS (asB (mOp gLtX (mPl 1) (mP (mUn (gFld "Rule" "wide") (mPl 0))))) (seqF (mSet 5 (mCallF [false, false] r_P_short_rings (mCons (mP (mVar 0)) (mCons (mP (mVar 1)) (mNil)))))
  (seqF (mIfS (asB (mOp gGe (mPl 2) (mP (mCall gLen (mCons (mPl 5) (mNil)))))) (mRaise0 "NoNumber") (ret .nx))
  (mRet (mOp gIx (mPl 5) (mPl 2))))) (ret .nx))
  (seqF (mSet 3 (mCallF [false] r_P_ties (mCons (mP (mVar 0)) (mNil))))
  (seqF (mFor (mIterK (mVar 3)) (gSet 4) (seqF (mSet 6 (mCallF [false, false, false] r_P_walks_to (mCons (mP (mVar 3)) (mCons (mP (mVar 4)) (mCons (mP (mVar 1)) (mNil))))))
  (seqF (mIfS (asB (mOp gLtX (mPl 2) (mP (mOp gIxA (mP (mOp gIxA (mPl 6) (mPl 1))) (mPl 4))))) (mRet (mCallF [false, false, false, false, false] r_P_ring_of_walk (mCons (mP (mVar 3)) (mCons (mP (mVar 6)) (mCons (mP (mVar 4)) (mCons (mP (mVar 1)) (mCons (mP (mVar 2)) (mNil)))))))) (ret .nx))
  (mAug 2 (fun a b => a - b) (mOp gIxA (mP (mOp gIxA (mPl 6) (mPl 1))) (mPl 4))))))
  (mRaise0 "NoNumber")))))
noncomputable def r_P_ring_at : List D → FR := runB [false, false, false] 7 m_P_ring_at
noncomputable def m_L_well : M Fl :=
  mRet (mLst (mCons (mP (mOp gMul (mPl 0) (mP (mCall gInt (mCons (mP (mOp gGe (mPl 0) (mP (mOp gPow (mP (mC (.int 10))) (mP (mC (.int 18))))))) (mNil)))))) (mCons (mP (mOp gMod (mPl 0) (mP (mC (.int 2147483629))))) (mCons (mP (mC (.int 0))) (mNil)))))
noncomputable def r_L_well : List D → FR := runB [false] 1 m_L_well
noncomputable def m_P_closed_numbers : M Fl :=
  seqF (mSet 2 (mCallF [false] r_P_ties (mCons (mP (mVar 0)) (mNil))))
  (seqF (mSet 3 (mOp gMul (mP (mLst (mCons (mP (mC (.int 0))) (mNil)))) (mP (mOp gAdd (mPl 1) (mP (mC (.int 1)))))))
  (seqF (mFor (mIterK (mVar 2)) (gSet 4) (mFor (bnd (mCons (mP (mCallF [false, false, false] r_P_walks_to (mCons (mP (mVar 2)) (mCons (mP (mVar 4)) (mCons (mP (mVar 1)) (mNil)))))) (mNil)) enumA) (gUnp 2 (gsCons (gSet 5) (gsCons (gSet 6) (gsNil)))) (mAugIx 3 (fun a b => a + b) (mVar 5) (mOp gIxA (mPl 6) (mPl 4)))))
  (mRetVar 3)))
noncomputable def r_P_closed_numbers : List D → FR := runB [false, false] 7 m_P_closed_numbers
noncomputable def m_P_divisor : M Fl :=
  seqF (mWhile (asB (mOp gGtX (mPl 1) (mP (mC (.int 0))))) (mPar 0 1 (mCons (mP (mVar 1)) (mCons (mP (mOp gMod (mPl 0) (mPl 1))) (mNil)))))
  (mRet (mVar 0))
noncomputable def r_P_divisor : List D → FR := runB [false, false] 2 m_P_divisor
noncomputable def m_P_many : M Fl :=
  seqF (mIfS (mNot (mTru (mP (mCallF [false, false, false] r_P_is_from (mCons (mP (mVar 1)) (mCons (mP (mC (.int 1))) (mCons (mP (mC (.int 400))) (mNil)))))))) (mRaise0 "NoLength") (ret .nx))
  (seqF (mIfS (mNot (mTru (mP (mUn (gIsi "bool") (mPl 2))))) (mRaise0 "NoTurns") (ret .nx))
  (seqF (mSet 3 (mCallF [false, false] r_P_closed_numbers (mCons (mP (mVar 0)) (mCons (mP (mVar 1)) (mNil)))))
  (seqF (mIfS (mTru (mPl 2)) (mRet (mOp gIxA (mPl 3) (mPl 1))) (ret .nx))
  (mRet (mOp gFdiv (mP (mCall gSum (mCons (mP (mComp [4] (bnd (mCons (mP (mC (.int 1))) (mCons (mP (mOp gAdd (mPl 1) (mP (mC (.int 1))))) (mNil))) rngB) (gSet 4) (mYes) (mOp gIxA (mPl 3) (mP (mCallF [false, false] r_P_divisor (mCons (mP (mVar 1)) (mCons (mP (mVar 4)) (mNil)))))))) (mNil)))) (mPl 1))))))
noncomputable def r_P_many : List D → FR := runB [false, false, false] 5 m_P_many
noncomputable def m_P_fits : M Fl :=
  seqF (mExpr (mCallF [false, false] r_P_sure_ring (mCons (mP (mVar 0)) (mCons (mP (mVar 1)) (mNil)))))
  (mRet (mCallF [false, false] r_P_is_fitting (mCons (mP (mVar 0)) (mCons (mP (mVar 1)) (mNil)))))
noncomputable def r_P_fits : List D → FR := runB [false, false] 2 m_P_fits
noncomputable def m_P_turned : M Fl :=
  mRet (mMk "Rule" 3 r_P_Rule_init (mCons (mP (mUn (gFld "Rule" "size") (mPl 0))) (mCons (mP (mUn (gFld "Rule" "wide") (mPl 0))) (mCons (mP (mCall gSorted (mCons (mP (mComp [1] (mIter (mUn (gFld "Rule" "words") (mPl 0))) (gSet 1) (mYes) (mUn gRevL (mPl 1)))) (mNil)))) (mNil)))))
noncomputable def r_P_turned : List D → FR := runB [false] 2 m_P_turned
noncomputable def m_P_widened : M Fl :=
  seqF (mSet 1 (mLst (mNil)))
  (seqF (mFor (mIter (mUn (gFld "Rule" "words") (mPl 0))) (gSet 2) (mExpr (mMut "list" 1 gExtend (mCons (mP (mComp [3] (mIter (mUn (gFld "Rule" "words") (mPl 0))) (gSet 3) (asB (mOp gEq (mP (mSl (mPl 3) (mNoPart) (mPart (mUn gNeg (mP (mC (.int 1))))))) (mP (mSl (mPl 2) (mPart (mC (.int 1))) (mNoPart))))) (mOp gAdd (mPl 2) (mP (mSl (mPl 3) (mPart (mUn gNeg (mP (mC (.int 1))))) (mNoPart)))))) (mNil)))))
  (mRet (mMk "Rule" 3 r_P_Rule_init (mCons (mP (mUn (gFld "Rule" "size") (mPl 0))) (mCons (mP (mOp gAdd (mP (mUn (gFld "Rule" "wide") (mPl 0))) (mP (mC (.int 1))))) (mCons (mP (mCall gSorted (mCons (mPl 1) (mNil)))) (mNil)))))))
noncomputable def r_P_widened : List D → FR := runB [false] 4 m_P_widened
noncomputable def m_P_joint : M Fl :=
  seqF (mIfS (mOr (asB (mOp gNe (mP (mUn (gFld "Rule" "wide") (mPl 0))) (mP (mUn (gFld "Rule" "wide") (mPl 1))))) (asB (mOp gGtX (mP (mOp gMul (mP (mUn (gFld "Rule" "size") (mPl 0))) (mP (mUn (gFld "Rule" "size") (mPl 1))))) (mP (mC (.int 4)))))) (mRaise0 "NoJoint") (ret .nx))
  (seqF (mSet 2 (mLst (mNil)))
  (seqF (mFor (mIter (mUn (gFld "Rule" "words") (mPl 0))) (gSet 3) (mFor (mIter (mUn (gFld "Rule" "words") (mPl 1))) (gSet 4) (mExpr (mMut "list" 2 gAppend (mCons (mP (mCall gTuple (mCons (mP (mComp [5, 6] (bnd (mCons (mP (mVar 3)) (mCons (mP (mVar 4)) (mNil))) zipA) (gUnp 2 (gsCons (gSet 5) (gsCons (gSet 6) (gsNil)))) (mYes) (mOp gAdd (mP (mOp gMul (mPl 5) (mP (mUn (gFld "Rule" "size") (mPl 1))))) (mPl 6)))) (mNil)))) (mNil))))))
  (mRet (mMk "Rule" 3 r_P_Rule_init (mCons (mP (mOp gMul (mP (mUn (gFld "Rule" "size") (mPl 0))) (mP (mUn (gFld "Rule" "size") (mPl 1))))) (mCons (mP (mUn (gFld "Rule" "wide") (mPl 0))) (mCons (mP (mCall gSorted (mCons (mPl 2) (mNil)))) (mNil))))))))
noncomputable def r_P_joint : List D → FR := runB [false, false] 7 m_P_joint
end RG

set_option Elab.async false
set_option linter.all false
set_option maxRecDepth 100000
set_option maxHeartbeats 4000000
namespace RG
open PySem PySem.Spec L2 B
theorem sz {n : Nat} (h : n ≤ 1000000) : n ≤ sizeLine := by rw [sizeLine_eq]; omega
theorem szlt {n : Nat} (h : n ≤ 1000000) : n < sizeLine := by rw [sizeLine_eq]; omega
abbrev nX : Exn → List D → Prop := fun _ _ => False
theorem m_pos {i j : Int} (h : 0 < j) : 0 ≤ i % j := Int.emod_nonneg i (Int.ne_of_gt h)
theorem m_lt {i j : Int} (h : 0 < j) : i % j < j := Int.emod_lt_of_pos i h
theorem isi_int_int (i : Int) : isiD "int" (.int i) = some true := by show kitB "int" "int" = _; decide +kernel
theorem isi_int_bool (i : Int) : isiD "bool" (.int i) = some false := by show kitB "int" "bool" = _; decide +kernel
theorem isi_lst_list (ds : List D) : isiD "list" (.nd .lst ds) = some true := by show kitB "list" "list" = _; decide +kernel
theorem isi_tup_tuple (ds : List D) : isiD "tuple" (.nd .tup ds) = some true := by show kitB "tuple" "tuple" = _; decide +kernel
theorem is_from (i lo hi : Int) {Q} {E} (h : Q (.fz (.bl (decide (lo ≤ i ∧ i ≤ hi)))) []) : FW (r_P_is_from [.int i, .int lo, .int hi]) Q E := by
  unfold r_P_is_from m_P_is_from
  rw [FW_run]
  simp [start0, par, w_isi (isi_int_int i), w_isi (isi_int_bool i)]
  split
  · rename_i h1
    simpa [h1] using h
  · rename_i h1
    simpa [h1] using h
theorem w_all {bs : List Bool} {P : Rs → Prop} : optW (gAll [.nd .lst (bs.map D.bl)]) P ↔ P (.fz (.bl (bs.all id))) := by
  unfold gAll gLB
  show optW ((bls? (bs.map D.bl)).map fun ns => Rs.fz (.bl (ns.all id))) P ↔ _
  rw [bls_map]
  exact Iff.rfl
theorem all_true {α : Type} {l : List α} {p : α → Bool} {P : Rs → Prop} : optW (gAll [.nd .lst ((l.filter p).map fun _ => D.bl true)]) P ↔ P (.fz (.bl true)) := by
  have e : ((l.filter p).map fun _ => D.bl true) = ((l.filter p).map fun _ => true).map D.bl := by rw [List.map_map]; rfl
  rw [e, w_all]
  have : (((l.filter p).map fun _ => true).all id) = true := by simp
  rw [this]
theorem is_word {k : List Int} {s w : Int} (hl : (k.length : Int) = w) (hs : k.length ≤ 1000) (hx : ∀ x ∈ k, 0 ≤ x ∧ x < s) {Q} {E} (h : Q (.fz (.bl true)) []) : FW (r_P_is_word [tupD k, .int s, .int w]) Q E := by
  unfold r_P_is_word m_P_is_word tupD
  rw [FW_run]
  simp [start0, par, w_isi (isi_tup_tuple _), hl]
  refine W_compF (fun _ => true) (fun _ => .bl true) (by rfl) (szlt (by simp; omega)) (fun d hd => ?_) ?_
  · obtain ⟨x, hx', rfl⟩ := List.mem_map.mp hd
    simp [wipeB]
    have := hx x hx'
    refine is_from _ _ _ ?_
    simp
    omega
  · simp [wipeB, backB]
    rw [all_true]
    exact h

/-! words -/
theorem toPys_ints : ∀ ns : List Int, toPys (ns.map D.int) = ns.map PyData.int
  | [] => rfl
  | n :: ns => by
    show PyData.int n :: toPys (ns.map D.int) = _
    rw [toPys_ints ns]
    rfl
theorem canLay_ints : ∀ ns : List Int, PyData.canLayAll0 (ns.map PyData.int) = true
  | [] => by simp [PyData.canLayAll0]
  | n :: ns => by simp [PyData.canLayAll0, PyData.canLay0, canLay_ints ns]
theorem depth_ints : ∀ ns : List Int, PyData.depthAll (ns.map PyData.int) = 0
  | [] => by simp [PyData.depthAll]
  | n :: ns => by simp [PyData.depthAll, PyData.depth, depth_ints ns]
theorem eqvAll_ints : ∀ ns ms : List Int, PyData.eqvAll (ns.map PyData.int) (ms.map PyData.int) = decide (ns = ms)
  | [], [] => by simp [PyData.eqvAll]
  | [], _ :: _ => by simp [PyData.eqvAll]
  | _ :: _, [] => by simp [PyData.eqvAll]
  | n :: ns, m :: ms => by
    simp only [List.map_cons, PyData.eqvAll, PyData.eqv, eqvAll_ints ns ms]
    by_cases h : n = m <;> by_cases h2 : ns = ms <;> simp [h, h2]
/-- the list of words -/
abbrev wL (L : List (List Int)) : D := .nd .lst (L.map tupD)
def pW (k : List Int) : PyData := .tuple (k.map PyData.int)
theorem toPy_W (k : List Int) : toPy (tupD k) = pW k := by
  show PyData.tuple (toPys (k.map D.int)) = _
  rw [toPys_ints]
  rfl
theorem toPys_W : ∀ L : List (List Int), toPys (L.map tupD) = L.map pW
  | [] => rfl
  | k :: L => by
    show toPy (tupD k) :: toPys (L.map tupD) = _
    rw [toPys_W L, toPy_W]
    rfl
theorem canLay_W : ∀ L : List (List Int), PyData.canLayAll0 (L.map pW) = true
  | [] => by simp [PyData.canLayAll0]
  | k :: L => by simp [PyData.canLayAll0, PyData.canLay0, pW, canLay_ints, canLay_W L]
theorem depth_W : ∀ L : List (List Int), PyData.depthAll (L.map pW) ≤ 1
  | [] => by simp [PyData.depthAll]
  | k :: L => by
    have := depth_W L
    simp [PyData.depthAll, PyData.depth, pW, depth_ints]
    omega
theorem eqvAll_W : ∀ A B : List (List Int), PyData.eqvAll (A.map pW) (B.map pW) = decide (A = B)
  | [], [] => by simp [PyData.eqvAll]
  | [], _ :: _ => by simp [PyData.eqvAll]
  | _ :: _, [] => by simp [PyData.eqvAll]
  | n :: ns, m :: ms => by
    simp only [List.map_cons, PyData.eqvAll, PyData.eqv, eqvAll_W ns ms, pW, eqvAll_ints]
    by_cases h : n = m <;> by_cases h2 : ns = ms <;> simp [h, h2]
theorem shp_W (k : List Int) : shp (tupD k) = true := by
  unfold shp SeqAt.shaped
  rw [toPy_W]
  simp [PyData.canLay0, PyData.depth, pW, canLay_ints, depth_ints]
theorem shp_wL (L : List (List Int)) : shp (wL L) = true := by
  unfold shp SeqAt.shaped
  show (PyData.canLay0 (.list (toPys (L.map tupD))) && decide (PyData.depth (.list (toPys (L.map tupD))) ≤ 64)) = true
  rw [toPys_W]
  have := depth_W L
  simp [PyData.canLay0, PyData.depth, canLay_W]
  omega
theorem eqv_wL (A B : List (List Int)) : eqv (wL A) (wL B) = decide (A = B) := by
  unfold eqv
  show PyData.eqv (.list (toPys (A.map tupD))) (.list (toPys (B.map tupD))) = _
  rw [toPys_W, toPys_W]
  simp only [PyData.eqv, eqvAll_W]
theorem eqv_W (k l : List Int) : eqv (tupD k) (tupD l) = decide (k = l) := by
  unfold eqv
  rw [toPy_W, toPy_W]
  simp only [pW, PyData.eqv, eqvAll_ints]
theorem w_eqWL {A B : List (List Int)} {P : Rs → Prop} : optW (gEq (wL A) (wL B)) P ↔ P (.fz (.bl (decide (A = B)))) := by
  unfold gEq
  rw [if_pos ⟨shp_wL A, shp_wL B⟩, eqv_wL]
  exact Iff.rfl
@[simp] theorem w_eqW {k l : List Int} {P : Rs → Prop} : optW (gEq (tupD k) (tupD l)) P ↔ P (.fz (.bl (decide (k = l)))) := by
  unfold gEq
  rw [if_pos ⟨shp_W k, shp_W l⟩, eqv_W]
  exact Iff.rfl
theorem tset_rising {L : List (List Int)} (h : L.Pairwise (· < ·)) : tset L = L := rising_eq (tset_sorted L) h fun _ => mem_tset
/-- words of a rule -/
structure Rl (s w : Nat) (L : List (List Int)) : Prop where
  s1 : 1 ≤ s
  s4 : s ≤ 4
  w2 : 2 ≤ w
  w4 : w ≤ 4
  len : ∀ k ∈ L, k.length = w
  dig : ∀ k ∈ L, ∀ x ∈ k, 0 ≤ x ∧ x < (s : Int)
  ris : L.Pairwise (· < ·)
  few : L.length < 64
theorem Rl.ok {s w : Nat} {L : List (List Int)} (r : Rl s w L) : setOk L := by
  refine ⟨r.few, fun k hk l hl => by rw [r.len k hk, r.len l hl], fun k hk e => ?_, fun k hk x hx => (r.dig k hk x hx).1⟩
  have := r.len k hk
  rw [e] at this
  have := r.w2
  simp at *
  omega
theorem are_words {s w : Nat} {L : List (List Int)} (r : Rl s w L) {Q} {E} (h : Q (.fz (.bl true)) []) : FW (r_P_are_words [wL L, .int s, .int w]) Q E := by
  unfold r_P_are_words m_P_are_words
  rw [FW_run]
  simp [start0, par, w_isi (isi_lst_list _)]
  refine W_compF (fun _ => true) (fun _ => .bl true) (by rfl) (szlt (by have := r.few; simp; omega)) (fun d hd => ?_) ?_
  · obtain ⟨k, hk, rfl⟩ := List.mem_map.mp hd
    simp [wipeB]
    exact is_word (by rw [r.len k hk]) (by have := r.len k hk; have := r.w4; omega) (r.dig k hk) (by simp)
  · simp [wipeB, backB]
    rw [all_true]
    simp
    rw [w_sortSet r.ok, tset_rising r.ris]
    simp
    rw [w_eqWL]
    simp
    exact h
/-- a rule -/
abbrev ruleD (s w : Nat) (L : List (List Int)) : D := .nd (.ins "Rule" ["size", "wide", "words"]) [.int s, .int w, wL L]
theorem ins0 {a : D} : insD "Rule" (putFD "size" a (List.zip [] [])) = .nd (.ins "Rule" ["size"]) [a] := rfl
theorem ins1 {a b : D} : insD "Rule" (putFD "wide" b (List.zip ["size"] [a])) = .nd (.ins "Rule" ["size", "wide"]) [a, b] := by
  show insD "Rule" (if ("size" : Str) = "wide" then ("size", b) :: [] else ("size", a) :: putFD "wide" b []) = _
  rw [if_neg (by decide)]
  rfl
theorem ins2 {a b c : D} : insD "Rule" (putFD "words" c (List.zip ["size", "wide"] [a, b])) = .nd (.ins "Rule" ["size", "wide", "words"]) [a, b, c] := by
  show insD "Rule" (if ("size" : Str) = "words" then ("size", c) :: [("wide", b)] else ("size", a) :: (if ("wide" : Str) = "words" then ("wide", c) :: [] else ("wide", b) :: putFD "words" c [])) = _
  rw [if_neg (by decide), if_neg (by decide)]
  rfl
theorem W_then {m n : M Fl} {β β1 : B.Env} {Q : Fl → B.Env → Prop} {E : Exn → B.Env → Prop} (h : W m β (fun f b => f = .nx ∧ b = β1) E) (k : W n β1 Q E) : W (seqF m n) β Q E :=
  W_seqF.mpr (h.mono (fun f b ⟨e1, e2⟩ => by subst e1; subst e2; exact k) fun _ _ h => h)
theorem rule_init {s w : Nat} {L : List (List Int)} (r : Rl s w L) {Q} {E} (h : Q (.fz .non) [ruleD s w L]) : FW (r_P_Rule_init [insD "Rule" [], .int s, .int w, wL L]) Q E := by
  unfold r_P_Rule_init m_P_Rule_init
  rw [FW_run]
  simp only [start0, par]
  have h1 := r.s1
  have h2 := r.s4
  have h3 := r.w2
  have h4 := r.w4
  have e1 : (1 : Int) ≤ s ∧ (s : Int) ≤ 4 := by omega
  have e2 : (2 : Int) ≤ w ∧ (w : Int) ≤ 4 := by omega
  refine W_then (β1 := [.own (some 0) (insD "Rule" []), .fz (.int s), .fz (.int w), .fz (wL L)]) ?_ ?_
  · simp
    refine is_from _ _ _ ?_
    simp [e1]
  refine W_then (β1 := [.own (some 0) (insD "Rule" []), .fz (.int s), .fz (.int w), .fz (wL L)]) ?_ ?_
  · simp
    refine is_from _ _ _ ?_
    simp [e2]
  refine W_then (β1 := [.own (some 0) (insD "Rule" []), .fz (.int s), .fz (.int w), .fz (wL L)]) ?_ ?_
  · simp
    refine are_words r ?_
    simp
  refine W_then (β1 := [.own (some 0) (.nd (.ins "Rule" ["size"]) [.int s]), .fz (.int s), .fz (.int w), .fz (wL L)]) ?_ ?_
  · rw [W_mSetFld, W_mVar]
    exact ⟨⟨rfl, by decide⟩, rfl, by rw [← ins0]; rfl⟩
  refine W_then (β1 := [.own (some 0) (.nd (.ins "Rule" ["size", "wide"]) [.int s, .int w]), .fz (.int s), .fz (.int w), .fz (wL L)]) ?_ ?_
  · rw [W_mSetFld, W_mVar]
    exact ⟨⟨rfl, by decide⟩, rfl, by rw [← ins1]; rfl⟩
  rw [W_mSetFld]
  simp
  have e3 : insD "Rule" (putFD "words" (wL L) [("size", .int s), ("wide", .int w)]) = ruleD s w L := ins2
  rw [e3]
  exact h
end RG

set_option Elab.async false
set_option linter.all false
set_option maxRecDepth 100000
set_option maxHeartbeats 4000000
namespace RG
open PySem PySem.Spec L2 B
/-! ## points, ties, walks: the plain side -/
def pts (L : List (List Int)) : List (List Int) := tset (L.map List.dropLast ++ L.map List.tail)
def near (L : List (List Int)) (p : List Int) : List (List Int) := (L.filter fun x => decide (x.dropLast = p)).map List.tail
def wk (L : List (List Int)) : Nat → List Int → List Int → Int
  | 0, p, q => if p = q then 1 else 0
  | n + 1, p, q => ((near L p).map fun o => wk L n o q).sum
def nearD (L : List (List Int)) : Dct := (pts L).map fun p => (p, wL (near L p))
def wkD (L : List (List Int)) (n : Nat) (q : List Int) : Dct := (pts L).map fun p => (p, .int (wk L n p q))
theorem mem_pts {L : List (List Int)} {p : List Int} : p ∈ pts L ↔ ∃ k ∈ L, k.dropLast = p ∨ k.tail = p := by
  unfold pts
  rw [mem_tset, List.mem_append, List.mem_map, List.mem_map]
  constructor
  · rintro (⟨k, hk, e⟩ | ⟨k, hk, e⟩)
    · exact ⟨k, hk, .inl e⟩
    · exact ⟨k, hk, .inr e⟩
  · rintro ⟨k, hk, e | e⟩
    · exact .inl ⟨k, hk, e⟩
    · exact .inr ⟨k, hk, e⟩
theorem pts_rise (L : List (List Int)) : (pts L).Pairwise (· < ·) := tset_sorted _
theorem rise_nodup {l : List (List Int)} (h : l.Pairwise (· < ·)) : l.Nodup := List.Pairwise.imp (fun {a b} (hab : a < b) (e : a = b) => List.lt_irrefl b (e ▸ hab)) h
theorem pts_nodup (L : List (List Int)) : (pts L).Nodup := rise_nodup (pts_rise L)
theorem tins_len {x : List Int} : ∀ ys : List (List Int), (tins x ys).length ≤ ys.length + 1
  | [] => by simp [tins]
  | y :: ys => by
    unfold tins
    split
    · simp
    · split
      · simp
      · have := tins_len (x := x) ys
        simp
        omega
theorem tset_len : ∀ ks : List (List Int), (tset ks).length ≤ ks.length
  | [] => by simp [tset]
  | k :: ks => by
    show (tins k (tset ks)).length ≤ _
    have := tins_len (x := k) (tset ks)
    have := tset_len ks
    simp
    omega
theorem pts_len {L : List (List Int)} (h : L.length < 64) : (pts L).length < 128 := by
  have := tset_len (L.map List.dropLast ++ L.map List.tail)
  unfold pts
  simp at this
  omega
theorem near_pts {L : List (List Int)} {p o : List Int} (h : o ∈ near L p) : o ∈ pts L := by
  unfold near at h
  obtain ⟨k, hk, e⟩ := List.mem_map.mp h
  exact mem_pts.mpr ⟨k, (List.mem_filter.mp hk).1, .inr e⟩
theorem getL_map {l : List (List Int)} {f : List Int → D} {p : List Int} (h : p ∈ l) : getL (l.map fun p => (p, f p)) p = some (f p) := by
  unfold getL
  induction l with
  | nil => cases h
  | cons x l ih =>
    rw [List.map_cons, List.find?_cons]
    by_cases e : x = p
    · subst e
      simp
    · rcases List.mem_cons.mp h with q | q
      · exact absurd q.symm e
      · simp only [e, decide_false]
        exact ih q
/-! slices of words -/
theorem cut_pre (xs : List D) : cut xs none (some (-1)) = xs.dropLast := by
  unfold cut HT.sIx
  simp
  rw [List.dropLast_eq_take]
  congr 1
  omega
theorem cut_suf (xs : List D) : cut xs (some 1) none = xs.tail := by
  unfold cut HT.sIx
  simp
  cases xs with
  | nil => simp
  | cons x xs => simp
theorem gSl_pre (k : List Int) : gSl none (some (-1)) (tupD k) = some (.fz (tupD k.dropLast)) := by
  show some (Rs.fz (.nd .tup (cut (k.map D.int) none (some (-1))))) = _
  rw [cut_pre, List.dropLast_eq_take, ← List.map_take, List.length_map, ← List.dropLast_eq_take]
  rfl
theorem gSl_suf (k : List Int) : gSl (some 1) none (tupD k) = some (.fz (tupD k.tail)) := by
  show some (Rs.fz (.nd .tup (cut (k.map D.int) (some 1) none))) = _
  rw [cut_suf, ← List.map_tail]
  rfl
theorem fld_words {s w : Nat} {L : List (List Int)} : gFld "Rule" "words" (ruleD s w L) = some (.fz (wL L)) := by with_unfolding_all rfl
theorem fld_size {s w : Nat} {L : List (List Int)} : gFld "Rule" "size" (ruleD s w L) = some (.fz (.int s)) := by with_unfolding_all rfl
theorem fld_wide {s w : Nat} {L : List (List Int)} : gFld "Rule" "wide" (ruleD s w L) = some (.fz (.int w)) := by with_unfolding_all rfl
def kD (d : D) : List Int := (tupI? d).getD []
@[simp] theorem kD_tup (k : List Int) : kD (tupD k) = k := by unfold kD; rw [tupI_tupD]; rfl
theorem rng0 (n : Nat) : rng 0 n = (List.range n).map fun k : Nat => D.int (k : Int) := by
  unfold rng
  simp
theorem rng_len (n : Nat) : (rng 0 (n : Int)).length = n := by rw [rng0]; simp
theorem rng_get {n i : Nat} {d : D} (h : (rng 0 (n : Int))[i]? = some d) : i < n ∧ d = .int i := by
  rw [rng0, List.getElem?_map] at h
  obtain ⟨k, h1, rfl⟩ := Option.map_eq_some_iff.mp h
  obtain ⟨h2, h3⟩ := List.getElem?_eq_some_iff.mp h1
  rw [List.length_range] at h2
  rw [List.getElem_range] at h3
  subst h3
  exact ⟨h2, rfl⟩
theorem w_sum {ns : List Int} {P : Rs → Prop} : optW (gSum [.nd .lst (ns.map D.int)]) P ↔ P (.fz (.int ns.sum)) := by
  unfold gSum gLI
  show optW ((ints? (ns.map D.int)).bind fun ns => (some (D.int ns.sum)).map Rs.fz) P ↔ _
  rw [ints_map]
  exact Iff.rfl
/-- the last item -/
theorem atI_last {α : Type} {l : List α} {n : Nat} (h : l.length = n + 1) : atI l (-1) = l[n]? := by
  rw [atI_neg (by decide) (by omega), h]
  congr 1
  omega
end RG

set_option Elab.async false
set_option linter.all false
set_option maxRecDepth 100000
set_option maxHeartbeats 4000000
namespace RG
open PySem PySem.Spec L2 B
/-! ## points, ties, walks: what the program tells -/
section
variable {s w : Nat} {L : List (List Int)}
theorem mapF {f : List Int → List Int} {l : List (List Int)} : ((l.map tupD).filter fun _ => true).map (fun d => f (kD d)) = l.map f := by
  rw [List.filter_eq_self.mpr fun _ _ => rfl, List.map_map]
  congr 1
  funext k
  simp
theorem half {f : List Int → List Int} {me : M Rs} (r : Rl s w L) {Q : List (List Int) → B.Env → Prop} {E} (he : ∀ k ∈ L, W me [.fz (ruleD s w L), .fz (tupD k)] (fun q β1 => q.d = tupD (f k) ∧ β1 = [.fz (ruleD s w L), .fz (tupD k)]) noE)
    (h : Q (L.map f) [.fz (ruleD s w L), .un]) : W (mSetC [1] (mIter (mUn (gFld "Rule" "words") (mPl 0))) (gSet 1) mYes me) [.fz (ruleD s w L), .un] Q E := by
  rw [W_mSetC]
  simp
  rw [fld_words]
  simp
  refine W_compGF (fun _ => true) (fun l => l.map fun d => f (kD d)) (by rfl) (by rfl) (fun i d hd => ?_) ?_
  · rw [List.getElem?_map] at hd
    obtain ⟨k, hk, rfl⟩ := Option.map_eq_some_iff.mp hd
    have hk' := List.mem_of_getElem? hk
    have few := r.few
    simp [wipeB]
    refine (he k hk').mono (fun q β1 ⟨e1, e2⟩ => ?_) fun _ _ h => h
    rw [e1, tupI_tupD]
    subst e2
    simp
    have h1 := List.length_filter_le (fun _ => true) (List.take i (List.map tupD L))
    have h2 := List.length_take_le' i (L.map tupD)
    rw [List.length_map] at h2
    omega
  · rw [mapF]
    simp [wipeB, backB]
    exact h
theorem points (r : Rl s w L) {Q} {E} (h : Q (.own (wL (pts L))) []) : FW (r_P_points [ruleD s w L]) Q E := by
  unfold r_P_points m_P_points
  rw [FW_run]
  simp only [start0, par]
  rw [W_mRet, W_mPts]
  refine half (f := List.dropLast) r (fun k hk => ?_) ?_
  · simp
    rw [gSl_pre]
    simp
  refine half (f := List.tail) r (fun k hk => ?_) ?_
  · simp
    rw [gSl_suf]
    simp
  refine ⟨fun k hk e => ?_, ?_⟩
  · subst e
    have h2 := r.w2
    rcases List.mem_append.mp hk with q | q
    · obtain ⟨x, hx, e⟩ := List.mem_map.mp q
      have := r.len x hx
      have := congrArg List.length e
      simp at this
      omega
    · obtain ⟨x, hx, e⟩ := List.mem_map.mp q
      have := r.len x hx
      have := congrArg List.length e
      simp at this
      omega
  · simp
    exact h
end
end RG

set_option Elab.async false
set_option linter.all false
set_option maxRecDepth 100000
set_option maxHeartbeats 4000000
namespace RG
open PySem PySem.Spec L2 B
section
variable {s w : Nat} {L : List (List Int)}
/-- the ties of the first i words -/
def nk (L : List (List Int)) (i : Nat) : KL := (pts L).map fun p => (p, (near (L.take i) p).map tupD)
theorem nk_keys {i : Nat} : (nk L i).map (·.1) = pts L := by
  unfold nk
  rw [List.map_map]
  exact List.map_id _
theorem near_snoc {l : List (List Int)} {k p : List Int} : near (l ++ [k]) p = near l p ++ (if k.dropLast = p then [k.tail] else []) := by
  unfold near
  rw [List.filter_append, List.map_append]
  congr 1
  by_cases h : k.dropLast = p <;> simp [h]
theorem nk_app {i : Nat} {k : List Int} (hk : L[i]? = some k) : appL (nk L i) k.dropLast (tupD k.tail) = nk L (i + 1) := by
  unfold appL nk
  rw [List.map_map]
  apply List.map_congr_left
  intro p _
  have et : L.take (i + 1) = L.take i ++ [k] := by rw [List.take_add_one, hk]; rfl
  simp only [Function.comp]
  rw [et, near_snoc]
  by_cases h : p = k.dropLast
  · rw [if_pos h, if_pos h.symm, List.map_append]
    rfl
  · rw [if_neg h, if_neg fun e => h e.symm, List.append_nil]
theorem near_len {l : List (List Int)} {p : List Int} : (near l p).length ≤ l.length := by
  unfold near
  rw [List.length_map]
  exact List.length_filter_le _ _
theorem kData_nk : kData (nk L L.length) = nearD L := by
  unfold kData nk nearD
  rw [List.map_map]
  apply List.map_congr_left
  intro p _
  simp [List.take_length]
theorem ties (r : Rl s w L) {Q} {E} (h : Q (.fz (dcgD (nearD L))) []) : FW (r_P_ties [ruleD s w L]) Q E := by
  unfold r_P_ties m_P_ties
  rw [FW_run]
  simp only [start0, par]
  rw [W_mBlkK, W_mKd]
  simp
  refine points r ?_
  simp
  have few := pts_len r.few
  have keyf : ∀ l : List D, (l.map fun d => ((kD d), ([] : List D))).map (·.1) = l.map kD := fun l => by rw [List.map_map]; rfl
  refine W_compGF (fun _ => true) (fun l => l.map fun d => (kD d, [])) (by rfl) (by rfl) (fun i d hd => ?_) ?_
  · rw [List.getElem?_map] at hd
    obtain ⟨p, hp, rfl⟩ := Option.map_eq_some_iff.mp hd
    have h1 := List.length_filter_le (fun _ => true) (List.take i ((pts L).map tupD))
    have h2 := List.length_take_le' i ((pts L).map tupD)
    rw [List.length_map] at h2
    have fl : ((List.take i ((pts L).map tupD)).filter fun _ => true) = ((pts L).take i).map tupD := by
      rw [List.filter_eq_self.mpr fun _ _ => rfl, List.map_take]
    rw [fl] at h1 ⊢
    have nk0 : p ∉ (pts L).take i := fun hm => by
      obtain ⟨j, hj⟩ := List.mem_iff_getElem?.mp hm
      rw [List.getElem?_take] at hj
      split at hj
      · rename_i hji
        have := nd_ix (pts_nodup L) hj hp
        omega
      · cases hj
    simp [wipeB]
    rw [tupI_tupD]
    simp
    have ei : ((fun x : List Int × List D => x.fst) ∘ (fun d => (kD d, ([] : List D))) ∘ tupD) = id := by
      funext q
      simp
    rw [ei, List.map_id]
    exact ⟨szlt (by omega), nk0⟩
  · have e0 : (((pts L).map tupD).filter fun _ => true).map (fun d => (kD d, ([] : List D))) = nk L 0 := by
      rw [List.filter_eq_self.mpr fun _ _ => rfl, List.map_map]
      unfold nk
      apply List.map_congr_left
      intro p _
      simp [near]
    rw [e0]
    simp [wipeB, backB]
    rw [fld_words]
    simp
    refine W_forK (fun i l β => l = nk L i ∧ ∃ s2, β = [.fz (ruleD s w L), .un, s2, .un]) ⟨rfl, _, rfl⟩ (fun i d l β hd hI => ?_) fun l β hI => ?_
    · obtain ⟨rfl, s2, rfl⟩ := hI
      rw [List.getElem?_map] at hd
      obtain ⟨k, hk, rfl⟩ := Option.map_eq_some_iff.mp hd
      have hk' := List.mem_of_getElem? hk
      simp
      rw [gSl_pre]
      simp
      rw [tupI_tupD]
      simp
      refine ⟨?_, ?_⟩
      · have := mem_pts.mpr ⟨k, hk', .inl rfl⟩
        rw [← nk_keys (i := i)] at this
        simpa using this
      · rw [gSl_suf]
        simp
        refine ⟨fun a b hab e => ?_, nk_app hk⟩
        unfold nk at hab
        obtain ⟨p, _, hp⟩ := List.mem_map.mp hab
        cases hp
        have h2 := List.length_take_le' i L
        have h3 := r.few
        rw [List.length_map]
        exact Nat.lt_of_le_of_lt near_len (szlt (by omega))
    · obtain ⟨rfl, s2, rfl⟩ := hI
      simp
      rw [kData_nk]
      exact h
/-! walks -/
theorem nodup_len {i : Nat} {ks : List (List Int)} : (((ks.map tupD).take i).filter fun _ => true) = (ks.take i).map tupD := by
  rw [List.filter_eq_self.mpr fun _ _ => rfl, List.map_take]
/-- a dict over the points -/
theorem pdict {ks : List (List Int)} (nd : ks.Nodup) (hk : ks.length < 1000) {β : B.Env} {vs : List Nat} {g : D → M Unit} {mk mv : M Rs} {f : List Int → D} {Q : Dct → B.Env → Prop} {E} (hno : noOwn β vs = true)
    (hs : ∀ k ∈ ks, W (g (tupD k)) (wipeB β vs) (fun _ β2 => W mk β2 (fun rk β3 => rk.d = tupD k ∧ W mv β3 (fun rv β4 => rv.d = f k ∧ wipeB β4 vs = wipeB β vs) noE) noE) noE)
    (h : Q (ks.map fun k => (k, f k)) (backB β (wipeB β vs) vs)) : W (compGV g mYes (stD mk mv) vs [] (ks.map tupD)) β Q E := by
  refine W_compGF (fun _ => true) (fun l => l.map fun d => (kD d, f (kD d))) hno (by rfl) (fun i d hd => ?_) ?_
  · rw [List.getElem?_map] at hd
    obtain ⟨k, hk', rfl⟩ := Option.map_eq_some_iff.mp hd
    refine (hs k (List.mem_of_getElem? hk')).mono (fun _ β2 h2 => ?_) fun _ _ h => h
    rw [W_mYes]
    refine ⟨rfl, ?_⟩
    rw [if_pos rfl, W_stD, nodup_len]
    refine h2.mono (fun rk β3 ⟨e1, h3⟩ => h3.mono (fun rv β4 ⟨e2, e3⟩ => ?_) fun _ _ h => h) fun _ _ h => h
    rw [e1, tupI_tupD]
    have hlen : ((((ks.take i).map tupD).map fun d => (kD d, f (kD d)))).length < sizeLine := by
      rw [List.length_map, List.length_map]
      have := List.length_take_le' i ks
      exact szlt (by omega)
    refine ⟨hlen, ?_, e3⟩
    unfold putL
    rw [if_neg, e2]
    · simp
    · intro hm
      rw [List.map_map, List.map_map] at hm
      have ei : (((fun x : List Int × D => x.1) ∘ (fun d => (kD d, f (kD d)))) ∘ tupD) = id := by
        funext q
        simp
      rw [ei, List.map_id] at hm
      obtain ⟨j, hj⟩ := List.mem_iff_getElem?.mp hm
      rw [List.getElem?_take] at hj
      split at hj
      · have := nd_ix nd hj hk'
        omega
      · cases hj
  · have e0 : ((ks.map tupD).filter fun _ => true).map (fun d => (kD d, f (kD d))) = ks.map fun k => (k, f k) := by
      rw [List.filter_eq_self.mpr fun _ _ => rfl, List.map_map]
      apply List.map_congr_left
      intro p _
      simp
    rw [e0]
    exact h
theorem keys_nearD : keysOf (nearD L) = (pts L).map tupD := by
  unfold keysOf nearD
  rw [List.map_map]
  rfl
theorem walks_to (r : Rl s w L) {goal : List Int} {most : Nat} (hm : most ≤ 1000) {Q} {E} (h : Q (.own (.nd .lst ((List.range (most + 1)).map fun n => dcgD (wkD L n goal)))) []) : FW (r_P_walks_to [dcgD (nearD L), tupD goal, .int most]) Q E := by
  unfold r_P_walks_to m_P_walks_to
  rw [FW_run]
  simp only [start0, par]
  have few := pts_len r.few
  simp
  rw [keys_nearD]
  refine pdict (pts_nodup L) (by omega) (f := fun p => .int (wk L 0 p goal)) (by rfl) (fun p hp => ?_) ?_
  · simp [wipeB]
    rfl
  · simp [wipeB, backB]
    refine ⟨sz (by decide), inR_iff.mpr (by omega), W_forL (fun i β => ∃ s4 s5, isOwn s4 = false ∧ isOwn s5 = false ∧ β = [.fz (dcgD (nearD L)), .fz (tupD goal), .fz (.int most), .own none (.nd .lst ((List.range (i + 1)).map fun n => dcgD (wkD L n goal))), s4, s5, .un, .un]) ⟨.un, .un, rfl, rfl, rfl⟩ (fun i d β hd hI => ?_) fun β hI => ?_⟩
    · obtain ⟨s4, s5, h4, h5, rfl⟩ := hI
      obtain ⟨hi, rfl⟩ := rng_get hd
      simp
      rw [atI_last (n := i) (by simp)]
      simp
      rw [keys_nearD]
      refine pdict (pts_nodup L) (by omega) (f := fun p => .int (wk L (i + 1) p goal)) (by cases s4 <;> first | rfl | cases h4) (fun p hp => ?_) ?_
      · simp [wipeB]
        unfold nearD
        rw [getL_map hp]
        simp
        have nl := near_len (l := L) (p := p)
        have fw := r.few
        refine W_compF (fun _ => true) (fun d => .int (wk L i (kD d) goal)) (by rfl) (szlt (by simp; omega)) (fun d hd => ?_) ?_
        · obtain ⟨o, ho, rfl⟩ := List.mem_map.mp hd
          simp [wipeB]
          unfold wkD
          rw [getL_map (near_pts ho)]
          simp
        · have e0 : (((near L p).map tupD).filter fun _ => true).map (fun d => D.int (wk L i (kD d) goal)) = ((near L p).map fun o => wk L i o goal).map D.int := by
            rw [List.filter_eq_self.mpr fun _ _ => rfl, List.map_map, List.map_map]
            apply List.map_congr_left
            intro p _
            simp
          rw [e0]
          simp only [wipeB, backB]
          simp
          rw [← List.map_map, w_sum]
          rfl
      · simp [wipeB, backB]
        refine ⟨szlt (by omega), _, rfl, _, rfl, ?_, rfl, rfl⟩
        rw [List.range_succ (n := i + 1), List.map_append]
        rfl
    · obtain ⟨s4, s5, h4, h5, rfl⟩ := hI
      simp
      rw [rng_len]
      exact h
end
end RG

set_option Elab.async false
set_option linter.all false
set_option maxRecDepth 100000
set_option maxHeartbeats 4000000
namespace RG
open PySem PySem.Spec L2 B
theorem set_rng {N j : Nat} {f : Nat → D} {x : D} : ((List.range N).map f).set j x = (List.range N).map fun n => if n = j then x else f n := by
  apply List.ext_getElem?
  intro i
  by_cases h : i = j
  · subst h
    by_cases hi : i < N
    · rw [List.getElem?_set_self (by simpa using hi), List.getElem?_map, List.getElem?_range hi]
      simp
    · rw [List.getElem?_eq_none (by simp; omega), List.getElem?_eq_none (by simp; omega)]
  · rw [List.getElem?_set_ne (fun e => h e.symm), List.getElem?_map, List.getElem?_map]
    by_cases hi : i < N
    · rw [List.getElem?_range hi]
      simp [h]
    · rw [List.getElem?_eq_none (by simp; omega)]
      rfl
section
variable {s w : Nat} {L : List (List Int)}
/-- how many closed walks of n ties -/
def cl (L : List (List Int)) (n : Nat) : Int := ((pts L).map fun p => wk L n p p).sum
def clI (L : List (List Int)) (i n : Nat) : Int := (((pts L).take i).map fun p => wk L n p p).sum
theorem clI_snoc {i n : Nat} {p : List Int} (hp : (pts L)[i]? = some p) : clI L (i + 1) n = clI L i n + wk L n p p := by
  unfold clI
  rw [List.take_add_one, hp]
  simp
theorem clI_all {n : Nat} : clI L (pts L).length n = cl L n := by unfold clI cl; rw [List.take_length]
theorem enumD_get {ds : List D} {j : Nat} {e : D} (h : (enumD ds)[j]? = some e) : ∃ d, ds[j]? = some d ∧ e = .nd .tup [.int (j : Nat), d] := by
  unfold enumD zipD at h
  rw [List.getElem?_zipWith, List.getElem?_map] at h
  cases e1 : ds[j]? with
  | none =>
    rw [e1] at h
    cases q : (List.range ds.length)[j]? with
    | none => rw [q] at h; cases h
    | some k => rw [q] at h; cases h
  | some d =>
    have hj := (List.getElem?_eq_some_iff.mp e1).1
    rw [e1, List.getElem?_range hj] at h
    cases h
    exact ⟨d, rfl, rfl⟩
theorem enumD_len {ds : List D} : (enumD ds).length = ds.length := by
  unfold enumD zipD
  simp
theorem w_mul0 {n : Nat} (h : n ≤ 900) {P : Rs → Prop} : optW (gMul (.nd .lst [.int 0]) (.int ((n : Int) + 1))) P ↔ P (.own (.nd .lst ((List.range (n + 1)).map fun _ => D.int 0))) := by
  unfold gMul
  simp only
  have e : ((n : Int) + 1).toNat = n + 1 := by omega
  rw [if_pos ⟨by omega, by omega, by rw [e]; exact sz (by simp; omega)⟩, e]
  have e2 : (List.replicate (n + 1) [D.int 0]).flatten = (List.range (n + 1)).map fun _ => D.int 0 := by
    apply List.ext_getElem?
    intro i
    have l1 : (List.replicate (n + 1) [D.int 0]).flatten = List.replicate (n + 1) (D.int 0) := by
      generalize n + 1 = m
      induction m with
      | zero => rfl
      | succ m ih => rw [List.replicate_succ, List.flatten_cons, ih, List.replicate_succ]; rfl
    rw [l1, List.getElem?_replicate, List.getElem?_map]
    by_cases hi : i < n + 1
    · rw [if_pos hi, List.getElem?_range hi]
      rfl
    · rw [if_neg hi, List.getElem?_eq_none (by simp; omega)]
      rfl
  rw [e2]
  exact Iff.rfl
theorem closed (r : Rl s w L) {most : Nat} (hm : most ≤ 900) {Q} {E} (h : Q (.own (.nd .lst ((List.range (most + 1)).map fun n => D.int (cl L n)))) []) : FW (r_P_closed_numbers [ruleD s w L, .int most]) Q E := by
  unfold r_P_closed_numbers m_P_closed_numbers
  rw [FW_run]
  simp only [start0, par]
  rw [W_seqF]
  simp
  refine ties r ?_
  simp
  rw [w_mul0 hm]
  simp
  rw [keys_nearD]
  have e0 : ((List.range (most + 1)).map fun _ => D.int 0) = (List.range (most + 1)).map fun n => D.int (clI L 0 n) := by
    apply List.map_congr_left
    intro n _
    rfl
  rw [e0]
  refine ⟨sz (by decide), W_forL (fun i β => ∃ s4 s5 s6, isOwn s4 = false ∧ isOwn s5 = false ∧ isOwn s6 = false ∧ β = [.fz (ruleD s w L), .fz (.int most), .fz (dcgD (nearD L)), .own none (.nd .lst ((List.range (most + 1)).map fun n => D.int (clI L i n))), s4, s5, s6]) ⟨_, _, _, rfl, rfl, rfl, rfl⟩ (fun i d β hd hI => ?_) fun β hI => ?_⟩
  · obtain ⟨s4, s5, s6, h4, h5, h6, rfl⟩ := hI
    rw [List.getElem?_map] at hd
    obtain ⟨p, hp, rfl⟩ := Option.map_eq_some_iff.mp hd
    have hp' := List.mem_of_getElem? hp
    simp
    refine walks_to r (by omega) ?_
    simp
    refine W_forL (fun j β => ∃ s5 s6, isOwn s5 = false ∧ isOwn s6 = false ∧ β = [.fz (ruleD s w L), .fz (.int most), .fz (dcgD (nearD L)), .own none (.nd .lst ((List.range (most + 1)).map fun n => D.int (if n < j then clI L (i + 1) n else clI L i n))), .fz (tupD p), s5, s6]) ⟨s5, s6, h5, h6, by simp⟩ (fun j d β hd2 hI => ?_) fun β hI => ?_
    · obtain ⟨s5, s6, h5, h6, rfl⟩ := hI
      obtain ⟨d2, hd3, rfl⟩ := enumD_get hd2
      rw [List.getElem?_map] at hd3
      obtain ⟨j', hj, rfl⟩ := Option.map_eq_some_iff.mp hd3
      have hj0 := List.getElem?_eq_some_iff.mp hj
      obtain ⟨hj1, hj2⟩ := hj0
      rw [List.length_range] at hj1
      rw [List.getElem_range] at hj2
      subst hj2
      simp
      rw [atI_nat', List.getElem?_map, List.getElem?_range hj1]
      simp
      unfold wkD
      rw [getL_map hp']
      simp
      rw [ixN_of (by omega) (by omega)]
      simp
      refine ⟨_, rfl, _, rfl, ?_, rfl, rfl⟩
      rw [set_rng]
      apply List.map_congr_left
      intro n _
      by_cases h1 : n = j
      · subst h1
        rw [if_pos rfl, if_pos (by omega), clI_snoc hp]
      · rw [if_neg h1]
        by_cases h2 : n < j
        · rw [if_pos h2, if_pos (by omega)]
        · rw [if_neg h2, if_neg (by omega)]
    · obtain ⟨s5, s6, h5, h6, rfl⟩ := hI
      simp
      refine ⟨_, rfl, s5, h5, s6, h6, fun a h1 h2 => ?_, rfl, rfl, rfl⟩
      rw [enumD_len] at h2
      simp at h2
      omega
  · obtain ⟨s4, s5, s6, h4, h5, h6, rfl⟩ := hI
    simp
    have e1 : ((List.range (most + 1)).map fun n => D.int (clI L (pts L).length n)) = (List.range (most + 1)).map fun n => D.int (cl L n) := by
      apply List.map_congr_left
      intro n _
      rw [clI_all]
    rw [e1]
    exact h
theorem gcd_go {a b : Nat} {Q} {E} (h : Q (.fz (.int (Nat.gcd a b))) []) : FW (r_P_divisor [.int a, .int b]) Q E := by
  unfold r_P_divisor m_P_divisor
  rw [FW_run]
  simp [start0, par]
  refine W_while (fun m β => ∃ x y : Nat, y ≤ m ∧ Nat.gcd x y = Nat.gcd a b ∧ β = [.fz (.int x), .fz (.int y)]) (fun m β hI => ?_) (n := b) ⟨a, b, Nat.le_refl _, rfl, rfl⟩
  obtain ⟨x, y, hm, hg, rfl⟩ := hI
  rw [W_asB, W_mOp]
  simp
  split
  · rename_i hy
    refine ⟨hy, x % y, ?_, y, x % y, Nat.le_refl _, ?_, rfl, by omega⟩
    · have := Nat.mod_lt x hy
      omega
    · rw [← hg, Nat.gcd_comm y (x % y), ← Nat.gcd_rec y x, Nat.gcd_comm]
  · rename_i hy
    have : y = 0 := by omega
    subst this
    rw [Nat.gcd_zero_right] at hg
    rw [hg]
    exact h
theorem isi_bl (b : Bool) : isiD "bool" (.bl b) = some true := by show kitB "bool" "bool" = _; decide +kernel
theorem many (r : Rl s w L) {n : Nat} (h1 : 1 ≤ n) (h2 : n ≤ 400) {Q} {E} (h : Q (.fz (.int (cl L n))) []) : FW (r_P_many [ruleD s w L, .int n, .bl true]) Q E := by
  unfold r_P_many m_P_many
  rw [FW_run]
  simp only [start0, par]
  have e1 : (1 : Int) ≤ n ∧ (n : Int) ≤ 400 := by omega
  refine W_then (β1 := [.fz (ruleD s w L), .fz (.int n), .fz (.bl true), .un, .un]) ?_ ?_
  · simp
    refine is_from _ _ _ ?_
    simp [e1]
  refine W_then (β1 := [.fz (ruleD s w L), .fz (.int n), .fz (.bl true), .un, .un]) ?_ ?_
  · simp [w_isi (isi_bl _)]
  rw [W_seqF]
  simp
  refine closed r (by omega) ?_
  simp
  rw [atI_nat', List.getElem?_map, List.getElem?_range (by omega)]
  simp
  exact h
/-- by turns -/
def clT (L : List (List Int)) (n : Nat) : Int := ((List.range n).map fun t => cl L (Nat.gcd n (t + 1))).sum
theorem rng1 (n : Nat) : rng 1 ((n : Int) + 1) = (List.range n).map fun k : Nat => D.int ((k : Int) + 1) := by
  unfold rng
  have : ((n : Int) + 1 - 1).toNat = n := by omega
  rw [this]
  apply List.map_congr_left
  intro k _
  congr 1
  omega
def dN (d : D) : Nat := match d with
  | .int i => i.toNat
  | _ => 0
@[simp] theorem dN_int (i : Int) : dN (.int i) = i.toNat := rfl
theorem manyT (r : Rl s w L) {n : Nat} (h1 : 1 ≤ n) (h2 : n ≤ 400) {Q} {E} (h : Q (.fz (.int (clT L n / n))) []) : FW (r_P_many [ruleD s w L, .int n, .bl false]) Q E := by
  unfold r_P_many m_P_many
  rw [FW_run]
  simp only [start0, par]
  have e1 : (1 : Int) ≤ n ∧ (n : Int) ≤ 400 := by omega
  refine W_then (β1 := [.fz (ruleD s w L), .fz (.int n), .fz (.bl false), .un, .un]) ?_ ?_
  · simp
    refine is_from _ _ _ ?_
    simp [e1]
  refine W_then (β1 := [.fz (ruleD s w L), .fz (.int n), .fz (.bl false), .un, .un]) ?_ ?_
  · simp [w_isi (isi_bl _)]
  rw [W_seqF]
  simp
  refine closed r (by omega) ?_
  simp
  rw [rng1]
  refine ⟨⟨by rfl, inR_iff.mpr (by omega)⟩, W_compF (fun _ => true) (fun d => .int (cl L (Nat.gcd n (dN d)))) (by rfl) (szlt (by simp; omega)) (fun d hd => ?_) ?_⟩
  · obtain ⟨k, hk, rfl⟩ := List.mem_map.mp hd
    rw [List.mem_range] at hk
    simp [wipeB]
    have e2 : (k : Int) + 1 = ((k + 1 : Nat) : Int) := by omega
    rw [e2]
    refine gcd_go ?_
    simp
    have := Nat.gcd_le_left (k + 1) (show 0 < n by omega)
    rw [atI_nat', List.getElem?_map, List.getElem?_range (by omega)]
    simp
  · have e0 : (((List.range n).map fun k : Nat => D.int ((k : Int) + 1)).filter fun _ => true).map (fun d => D.int (cl L (Nat.gcd n (dN d)))) = ((List.range n).map fun t => cl L (Nat.gcd n (t + 1))).map D.int := by
      rw [List.filter_eq_self.mpr fun _ _ => rfl, List.map_map, List.map_map]
      apply List.map_congr_left
      intro k _
      have : ((k : Int) + 1).toNat = k + 1 := by omega
      simp [this]
    rw [e0]
    simp only [wipeB, backB]
    simp
    rw [← List.map_map, w_sum]
    simp
    exact ⟨divOk_of (by omega) (by omega), h⟩
end
end RG

set_option Elab.async false
set_option linter.all false
set_option maxRecDepth 100000
set_option maxHeartbeats 4000000
namespace RG
open PySem PySem.Spec L2 B
/-! ## draws -/
def St (d : D) : Prop := ∃ a b c : Int, d = .nd .lst [.int a, .int b, .int c]
theorem mixd (x c b : Int) (Q : Int → Prop) (hb : 0 < b) (h : ∀ v, 0 ≤ v → v < b → Q v) : mulOk x 48271 ∧ divOk 1013 ∧ mulOk (x * 48271 % 2147483629) (x * 48271 % 2147483629 / 1013 + 69623 + c) ∧ divOk 2003 ∧
    mulOk (x * 48271 % 2147483629 * (x * 48271 % 2147483629 / 1013 + 69623 + c) % 2147483587) (x * 48271 % 2147483629 * (x * 48271 % 2147483629 / 1013 + 69623 + c) % 2147483587 / 2003 + 40692) ∧ divOk 3 ∧ 0 < b ∧
    Q (x * 48271 % 2147483629 * (x * 48271 % 2147483629 / 1013 + 69623 + c) % 2147483587 * (x * 48271 % 2147483629 * (x * 48271 % 2147483629 / 1013 + 69623 + c) % 2147483587 / 2003 + 40692) % 2147483563 / 3 % b) := by
  have p : (0 : Int) < 2147483629 := by decide
  refine ⟨mulOk_r (by decide) (by decide), divOk_of (by decide) (by decide), ?_⟩
  generalize e1 : x * 48271 % 2147483629 = y
  have y1 : 0 ≤ y := e1 ▸ m_pos p
  have y2 : y < 2147483629 := e1 ▸ m_lt p
  refine ⟨mulOk_l (by omega) (by omega), divOk_of (by decide) (by decide), ?_⟩
  generalize e2 : y * (y / 1013 + 69623 + c) % 2147483587 = z
  have z1 : 0 ≤ z := e2 ▸ m_pos (by decide)
  have z2 : z < 2147483587 := e2 ▸ m_lt (by decide)
  exact ⟨mulOk_l (by omega) (by omega), divOk_of (by decide) (by decide), hb, h _ (m_pos hb) (m_lt hb)⟩
theorem draw {d : D} (hs : St d) {b : Int} (hb : 0 < b) (hb2 : b < 2 ^ 62) {Q} {E} (h : ∀ v s, St s → 0 ≤ v → v < b → Q (.fz (.int v)) [s]) : FW (r_L_draw [d, .int b]) Q E := by
  unfold r_L_draw m_L_draw
  rw [FW_run]
  obtain ⟨x, y, z, rfl⟩ := hs
  simp [start0, par, ixN]
  split
  · exact ⟨hb, divOk_of hb (by omega), h _ _ ⟨_, _, _, rfl⟩ (m_pos hb) (m_lt hb)⟩
  · exact ⟨mulOk_l (by decide) (by decide), mixd _ _ b (fun v => Q (.fz (.int v)) _) hb fun v h1 h2 => h v _ ⟨_, _, _, rfl⟩ h1 h2⟩
/-- one of a list -/
theorem one {s : D} (hs : St s) {ds : List D} (hd : ds ≠ []) (hl : ds.length < 1000000) {Q} {E} (h : ∀ d s, d ∈ ds → St s → Q (.fz d) [s]) : FW (r_L_one [s, .nd .lst ds]) Q E := by
  unfold r_L_one m_L_one
  rw [FW_run]
  have hpos : 0 < ds.length := List.length_pos_iff.mpr hd
  simp [start0, par]
  refine draw hs (by omega) (by omega) fun v s' st h1 h2 => ?_
  simp
  obtain ⟨k, rfl⟩ := Int.eq_ofNat_of_zero_le h1
  have hk : k < ds.length := by omega
  rw [atI_nat', List.getElem?_eq_getElem hk]
  simp
  exact h _ _ (List.getElem_mem hk) st
theorem well (c : Int) {Q} {E} (h : ∀ s, St s → Q (.own s) []) : FW (r_L_well [.int c]) Q E := by
  unfold r_L_well m_L_well
  rw [FW_run]
  simp [start0, par]
  refine ⟨powOk_of (by decide) (by decide) (by decide), mulOk_r (by split <;> decide) (by split <;> decide), sz (by decide), h _ ⟨_, _, _, rfl⟩⟩
/-! all lists of so many letters -/
def lists (s : Nat) : Nat → List (List Int)
  | 0 => [[]]
  | n + 1 => (lists s n).flatMap fun r => (List.range s).map fun x : Nat => r ++ [(x : Int)]
abbrev iL (ns : List Int) : D := .nd .lst (ns.map D.int)
theorem lists_len (s : Nat) : ∀ n, (lists s n).length = s ^ n
  | 0 => rfl
  | n + 1 => by
    unfold lists
    rw [List.length_flatMap]
    have e : ((lists s n).map fun r => ((List.range s).map fun x : Nat => r ++ [(x : Int)]).length) = (lists s n).map fun _ => s := by
      apply List.map_congr_left
      intro r _
      simp
    rw [e, List.map_const', List.sum_replicate_nat, lists_len s n, Nat.pow_succ]
theorem mem_lists {s : Nat} {r : List Int} : ∀ {n : Nat}, r ∈ lists s n ↔ r.length = n ∧ ∀ x ∈ r, 0 ≤ x ∧ x < (s : Int)
  | 0 => by
    show r ∈ [[]] ↔ _
    rw [List.mem_singleton]
    constructor
    · rintro rfl
      exact ⟨rfl, fun x hx => nomatch hx⟩
    · rintro ⟨h, _⟩
      exact List.length_eq_zero_iff.mp h
  | n + 1 => by
    show r ∈ (lists s n).flatMap _ ↔ _
    rw [List.mem_flatMap]
    constructor
    · rintro ⟨q, hq, hr⟩
      obtain ⟨x, hx, rfl⟩ := List.mem_map.mp hr
      rw [List.mem_range] at hx
      obtain ⟨h1, h2⟩ := mem_lists.mp hq
      refine ⟨by simp [h1], fun y hy => ?_⟩
      rcases List.mem_append.mp hy with hy | hy
      · exact h2 y hy
      · rw [List.mem_singleton.mp hy]
        omega
    · rintro ⟨h1, h2⟩
      have hne : r ≠ [] := fun e => by rw [e] at h1; cases h1
      refine ⟨r.dropLast, mem_lists.mpr ⟨by simp [h1], fun x hx => h2 x (List.dropLast_subset _ hx)⟩, List.mem_map.mpr ⟨(r.getLast hne).toNat, ?_, ?_⟩⟩
      · have := h2 _ (List.getLast_mem hne)
        rw [List.mem_range]
        omega
      · have := h2 _ (List.getLast_mem hne)
        have e : (((r.getLast hne).toNat : Nat) : Int) = r.getLast hne := by omega
        rw [e]
        exact List.dropLast_concat_getLast hne
theorem l_lists {s n : Nat} (h : s ^ n ≤ 100000) (hs : 1 ≤ s) (hs2 : s ≤ 10) (hn : n ≤ 100) {Q} {E} (q : Q (.own (.nd .lst ((lists s n).map iL))) []) : FW (r_L_lists [.int s, .int n]) Q E := by
  unfold r_L_lists m_L_lists
  rw [FW_run]
  simp [start0, par]
  have grow : ∀ i, i ≤ n → s ^ i ≤ 100000 := fun i hi => Nat.le_trans (Nat.pow_le_pow_right hs hi) h
  refine ⟨sz (by decide), inR_iff.mpr (by omega), W_forL (fun i β => ∃ s3 s4 s5 s6, isOwn s3 = false ∧ isOwn s4 = false ∧ isOwn s5 = false ∧ isOwn s6 = false ∧ β = [.fz (.int s), .fz (.int n), .own none (.nd .lst ((lists s i).map iL)), s3, s4, s5, s6]) ⟨_, _, _, _, rfl, rfl, rfl, rfl, rfl⟩ (fun i d β hd hI => ?_) fun β hI => ?_⟩
  · obtain ⟨s3, s4, s5, s6, h3, h4, h5, h6, rfl⟩ := hI
    obtain ⟨hi, rfl⟩ := rng_get hd
    simp
    refine W_forL (fun j β => ∃ s5, isOwn s5 = false ∧ β = [.fz (.int s), .fz (.int n), .fz (.nd .lst ((lists s i).map iL)), .fz (.int i), .own none (.nd .lst ((((lists s i).take j).flatMap fun r => (List.range s).map fun x : Nat => r ++ [(x : Int)]).map iL)), s5, s6]) ⟨s5, h5, by simp⟩ (fun j d β hd2 hI => ?_) fun β hI => ?_
    · obtain ⟨s5, h5, rfl⟩ := hI
      rw [List.getElem?_map] at hd2
      obtain ⟨row, hr, rfl⟩ := Option.map_eq_some_iff.mp hd2
      simp
      refine ⟨inR_iff.mpr (by omega), W_compF (fun _ => true) (fun d => .nd .lst (row.map D.int ++ [d])) (by cases s6 <;> first | rfl | cases h6) (by rw [rng_len]; exact szlt (by omega)) (fun d hd3 => ?_) ?_⟩
      · simp [wipeB]
        have hrl := (mem_lists.mp (List.mem_of_getElem? hr)).1
        exact ⟨sz (by decide), sz (by omega)⟩
      · simp [wipeB, backB]
        rw [rng0]
        have hj := (List.getElem?_eq_some_iff.mp hr).1
        have g := grow (i + 1) (by omega)
        rw [lists_len] at hj
        have m : (j + 1) * s ≤ s ^ i * s := Nat.mul_le_mul_right s hj
        rw [Nat.pow_succ] at g
        refine ⟨?_, rfl, ?_⟩
        · rw [List.map_const', List.take_replicate, List.sum_replicate_nat, lists_len, List.filter_eq_self.mpr fun _ _ => rfl, List.length_map, List.length_range, Nat.min_eq_left (by omega)]
          refine sz ?_
          rw [Nat.add_mul, Nat.one_mul] at m
          omega
        · rw [List.filter_eq_self.mpr fun _ _ => rfl, List.take_add_one, hr, List.flatMap_append, List.map_append]
          congr 1
          simp
    · obtain ⟨s5, h5, rfl⟩ := hI
      simp
      exact ⟨_, rfl, .un, rfl, _, h5, _, h6, rfl, rfl, rfl, rfl, rfl⟩
  · obtain ⟨s3, s4, s5, s6, h3, h4, h5, h6, rfl⟩ := hI
    simp
    rw [rng_len]
    exact q
end RG

set_option Elab.async false
set_option linter.all false
set_option maxRecDepth 100000
set_option maxHeartbeats 4000000
namespace K18
open PySem PySem.Spec L2 B
open RG
def topS (i : Nat) : Stmt := PySem.Challenge.pw_ringrules_k18_whole_named_rules_counted.main.body.getD i (.Pass ⟨0, 0, 0, 0⟩)
abbrev st_L_cell_at : Stmt := topS 24
abbrev st_P_is_from : Stmt := topS 8
abbrev st_P_is_word : Stmt := topS 9
abbrev st_P_are_words : Stmt := topS 10
abbrev st_P_Rule_init : Stmt := inClass (topS 11) 0
abbrev st_L_is_prime : Stmt := topS 32
abbrev st_L_draw : Stmt := topS 26
abbrev st_P_points : Stmt := topS 15
abbrev st_P_ties : Stmt := topS 16
abbrev st_P_walks_to : Stmt := topS 20
abbrev st_P_closed_numbers : Stmt := topS 21
abbrev st_P_divisor : Stmt := topS 17
abbrev st_P_many : Stmt := topS 22
abbrev st_L_one : Stmt := topS 27
abbrev st_L_power : Stmt := topS 29
abbrev st_P_colours : Stmt := topS 12
abbrev st_L_colours_right : Stmt := topS 30
abbrev st_P_spread : Stmt := topS 13
abbrev st_L_spread_right : Stmt := topS 31
abbrev st_L_lists : Stmt := topS 28
abbrev st_L_right : Stmt := topS 33
abbrev st_L_well : Stmt := topS 25
abbrev st_L_law : Stmt := topS 34
abbrev st_XNoRule : Stmt := inClass (topS 2) 0
noncomputable def m_L_is_prime : M Fl :=
  mRet (mAndV (mOp gGtX (mPl 0) (mP (mC (.int 1)))) (mOp gEq (mP (mComp [1] (bnd (mCons (mP (mC (.int 2))) (mCons (mPl 0) (mNil))) rngB) (gSet 1) (asB (mOp gEq (mP (mOp gMod (mPl 0) (mPl 1))) (mP (mC (.int 0))))) (mVar 1))) (mP (mLst (mNil)))))
noncomputable def r_L_is_prime : List D → FR := runB [false] 2 m_L_is_prime
noncomputable def m_L_power : M Fl :=
  seqF (mSet 2 (mC (.int 1)))
  (seqF (mFor (bnd (mCons (mPl 1) (mNil)) rngA) (gSet 3) (mSet 2 (mOp gMul (mPl 2) (mPl 0))))
  (mRetVar 2))
noncomputable def r_L_power : List D → FR := runB [false, false] 4 m_L_power
noncomputable def m_P_colours : M Fl :=
  seqF (mIfS (mNot (mTru (mP (mCallF [false, false, false] r_P_is_from (mCons (mP (mVar 0)) (mCons (mP (mC (.int 2))) (mCons (mP (mC (.int 4))) (mNil)))))))) (mRaiseI "NoRule" "what" (mP (mC (.str "size")))) (ret .nx))
  (mRet (mMk "Rule" 3 r_P_Rule_init (mCons (mP (mVar 0)) (mCons (mP (mC (.int 2))) (mCons (mP (mComp2 [1, 2] [2] (bnd (mCons (mPl 0) (mNil)) rngA) (gSet 1) (mYes) (bnd (mCons (mPl 0) (mNil)) rngA) (gSet 2) (asB (mOp gNe (mPl 1) (mPl 2))) (mTup (mCons (mP (mVar 1)) (mCons (mP (mVar 2)) (mNil)))))) (mNil))))))
noncomputable def r_P_colours : List D → FR := runB [false] 3 m_P_colours
noncomputable def m_L_colours_right : M Fl :=
  seqF (mSet 2 (mOp gAdd (mP (mCallF [false, false] r_L_power (mCons (mP (mOp gSub (mPl 0) (mP (mC (.int 1))))) (mCons (mP (mVar 1)) (mNil))))) (mP (mOp gMul (mP (mOp gSub (mPl 0) (mP (mC (.int 1))))) (mP (mOp gIx (mP (mLst (mCons (mP (mC (.int 1))) (mCons (mP (mUn gNeg (mP (mC (.int 1))))) (mNil))))) (mP (mOp gMod (mPl 1) (mP (mC (.int 2)))))))))))
  (mRet (mOp gEq (mP (mCallD [false, false, false] r_P_many [.bl true] (mCons (mP (mCallF [false] r_P_colours (mCons (mP (mVar 0)) (mNil)))) (mCons (mPl 1) (mNil))))) (mPl 2)))
noncomputable def r_L_colours_right : List D → FR := runB [false, false] 3 m_L_colours_right
noncomputable def m_P_spread : M Fl :=
  mRet (mMk "Rule" 3 r_P_Rule_init (mCons (mP (mC (.int 2))) (mCons (mP (mC (.int 3))) (mCons (mP (mLst (mCons (mP (mTup (mCons (mP (mC (.int 0))) (mCons (mP (mC (.int 0))) (mCons (mP (mC (.int 1))) (mNil)))))) (mCons (mP (mTup (mCons (mP (mC (.int 0))) (mCons (mP (mC (.int 1))) (mCons (mP (mC (.int 0))) (mNil)))))) (mCons (mP (mTup (mCons (mP (mC (.int 1))) (mCons (mP (mC (.int 0))) (mCons (mP (mC (.int 0))) (mNil)))))) (mCons (mP (mTup (mCons (mP (mC (.int 1))) (mCons (mP (mC (.int 0))) (mCons (mP (mC (.int 1))) (mNil)))))) (mNil))))))) (mNil)))))
noncomputable def r_P_spread : List D → FR := runB [] 0 m_P_spread
noncomputable def m_L_spread_right : M Fl :=
  seqF (mSet 1 (mLst (mCons (mP (mC (.int 3))) (mCons (mP (mC (.int 0))) (mCons (mP (mC (.int 2))) (mNil))))))
  (seqF (mWhile (asB (mOp gLe (mP (mCall gLen (mCons (mPl 1) (mNil)))) (mPl 0))) (mExpr (mMut "list" 1 gAppend (mCons (mP (mOp gAdd (mP (mOp gIx (mPl 1) (mP (mUn gNeg (mP (mC (.int 2))))))) (mP (mOp gIx (mPl 1) (mP (mUn gNeg (mP (mC (.int 3))))))))) (mNil)))))
  (mRet (mOp gEq (mP (mCallD [false, false, false] r_P_many [.bl true] (mCons (mP (mCallF [] r_P_spread mNil)) (mCons (mPl 0) (mNil))))) (mP (mOp gIx (mPl 1) (mPl 0))))))
noncomputable def r_L_spread_right : List D → FR := runB [false] 2 m_L_spread_right
noncomputable def m_L_right : M Fl :=
  seqF (mSet 1 (mOp gAdd (mP (mC (.int 1))) (mP (mCallF [true, false] r_L_draw (mCons (mPl 0) (mCons (mP (mCallF [true, false] r_L_one (mCons (mPl 0) (mCons (mP (mLst (mCons (mP (mC (.int 9))) (mCons (mP (mC (.int 60))) (mCons (mP (mC (.int 400))) (mNil)))))) (mNil))))) (mNil)))))))
  (seqF (mIfS (mOr (mNot (mTru (mP (mCallF [false, false] r_L_colours_right (mCons (mP (mOp gAdd (mP (mC (.int 2))) (mP (mCallF [true, false] r_L_draw (mCons (mPl 0) (mCons (mP (mC (.int 3))) (mNil))))))) (mCons (mP (mVar 1)) (mNil))))))) (mNot (mTru (mP (mCallF [false] r_L_spread_right (mCons (mP (mVar 1)) (mNil))))))) (mRet (mC (.bl false))) (ret .nx))
  (seqF (mSet 2 (mOp gAdd (mP (mC (.int 1))) (mP (mCallF [true, false] r_L_draw (mCons (mPl 0) (mCons (mP (mC (.int 3))) (mNil)))))))
  (seqF (mSet 3 (mOp gAdd (mP (mC (.int 2))) (mP (mCallF [true, false] r_L_draw (mCons (mPl 0) (mCons (mP (mC (.int 2))) (mNil)))))))
  (seqF (mSet 4 (mMk "Rule" 3 r_P_Rule_init (mCons (mP (mVar 2)) (mCons (mP (mVar 3)) (mCons (mP (mComp [6] (mIter (mCallF [false, false] r_L_lists (mCons (mP (mVar 2)) (mCons (mP (mVar 3)) (mNil))))) (gSet 6) (mYes) (mCall gTuple (mCons (mPl 6) (mNil))))) (mNil))))))
  (seqF (mSet 5 (mOp gAdd (mP (mC (.int 1))) (mP (mOp gMod (mPl 1) (mP (mC (.int 60)))))))
  (seqF (mIfS (mOr (asB (mOp gNe (mP (mCallD [false, false, false] r_P_many [.bl true] (mCons (mPl 4) (mCons (mPl 5) (mNil))))) (mP (mCallF [false, false] r_L_power (mCons (mP (mVar 2)) (mCons (mP (mVar 5)) (mNil))))))) (asB (mOp gNe (mP (mCallK [false, false, false] r_P_many 2 1 (kp [0, 1, 2]) (mCons (mP (mMk "Rule" 3 r_P_Rule_init (mCons (mP (mVar 2)) (mCons (mP (mVar 3)) (mCons (mP (mLst (mNil))) (mNil)))))) (mCons (mPl 1) (mNil))) (mCons (mP (mC (.bl false))) (mNil)))) (mP (mC (.int 0)))))) (mRet (mC (.bl false))) (ret .nx))
  (seqF (mIfS (mTru (mP (mCallF [false] r_L_is_prime (mCons (mP (mVar 5)) (mNil))))) (mRet (mOp gEq (mP (mCallK [false, false, false] r_P_many 2 1 (kp [0, 1, 2]) (mCons (mPl 4) (mCons (mPl 5) (mNil))) (mCons (mP (mC (.bl false))) (mNil)))) (mP (mOp gAdd (mPl 2) (mP (mOp gFdiv (mP (mOp gSub (mP (mCallF [false, false] r_L_power (mCons (mP (mVar 2)) (mCons (mP (mVar 5)) (mNil))))) (mPl 2))) (mPl 5))))))) (ret .nx))
  (mRet (mOp gGe (mP (mCallK [false, false, false] r_P_many 2 1 (kp [0, 1, 2]) (mCons (mPl 4) (mCons (mPl 5) (mNil))) (mCons (mP (mC (.bl false))) (mNil)))) (mPl 2))))))))))
noncomputable def r_L_right : List D → FR := runB [true] 7 m_L_right
noncomputable def m_L_law : M Fl :=
  seqF (mFor (mIter (mOp gAdd (mP (mLst (mCons (mP (mCallF [false, false] r_L_cell_at (mCons (mP (mVar 0)) (mCons (mP (mC (.int 0))) (mNil))))) (mNil)))) (mP (mSl (mPl 0) (mPart (mC (.int 1))) (mPart (mC (.int 4))))))) (gSet 1) (mIfS (mNot (mTru (mP (mCallT r_L_right (mCallF [false] r_L_well (mCons (mP (mVar 1)) (mNil))))))) (mRet (mC (.bl false))) (ret .nx)))
  (mRet (mC (.bl true)))
noncomputable def r_L_law : List D → FR := runB [false] 2 m_L_law
end K18

set_option Elab.async false
set_option linter.all false
set_option maxRecDepth 100000
set_option maxHeartbeats 4000000
namespace K18
open PySem PySem.Spec L2 B RG
/-! ## named rules, plainly -/
section
variable {α : Type} {l : List α}
theorem sum_sub (f g : α → Int) : (l.map fun x => f x - g x).sum = (l.map f).sum - (l.map g).sum := by
  induction l with
  | nil => rfl
  | cons x l ih => simp only [List.map_cons, List.sum_cons, ih]; omega
theorem sum_const (c : Int) : (l.map fun _ => c).sum = l.length * c := by
  induction l with
  | nil => simp
  | cons x l ih =>
    simp only [List.map_cons, List.sum_cons, ih, List.length_cons, Int.natCast_succ, Int.add_mul]
    omega
theorem sum_same {f g : α → Int} (h : ∀ x ∈ l, f x = g x) : (l.map f).sum = (l.map g).sum := by rw [List.map_congr_left h]
theorem sum_out [DecidableEq α] {p : α} (hp : p ∉ l) (f : α → Int) : ((l.filter fun o => decide (o ≠ p)).map f).sum = (l.map f).sum := by
  have e : (l.filter fun o => decide (o ≠ p)) = l := List.filter_eq_self.mpr fun x hx => by
    rw [decide_eq_true_eq]
    intro e
    exact hp (e ▸ hx)
  rw [e]
theorem sum_erase [DecidableEq α] (nd : l.Nodup) {p : α} (hp : p ∈ l) (f : α → Int) : ((l.filter fun o => decide (o ≠ p)).map f).sum = (l.map f).sum - f p := by
  induction l with
  | nil => cases hp
  | cons x l ih =>
    obtain ⟨n1, n2⟩ := List.nodup_cons.mp nd
    by_cases e : x = p
    · subst e
      rw [List.filter_cons_of_neg (by simp), sum_out n1, List.map_cons, List.sum_cons]
      omega
    · rw [List.filter_cons_of_pos (by simpa using e), List.map_cons, List.sum_cons, ih n2 ((List.mem_cons.mp hp).resolve_left fun h => e h.symm), List.map_cons, List.sum_cons]
      omega
theorem sum_delta [DecidableEq α] (nd : l.Nodup) {q : α} (hq : q ∈ l) : (l.map fun p => if p = q then (1 : Int) else 0).sum = 1 := by
  have h := sum_erase nd hq (fun p => if p = q then (1 : Int) else 0)
  have z : ((l.filter fun o => decide (o ≠ q)).map fun p => if p = q then (1 : Int) else 0).sum = 0 := by
    rw [sum_same (g := fun _ => (0 : Int)) fun x hx => if_neg (of_decide_eq_true (List.mem_filter.mp hx).2), sum_const]
    simp
  rw [z, if_pos rfl] at h
  omega
theorem perm_sum {a b : List Int} (h : a.Perm b) : a.sum = b.sum := by
  induction h with
  | nil => rfl
  | cons x _ ih => rw [List.sum_cons, List.sum_cons, ih]
  | swap x y l => simp only [List.sum_cons]; omega
  | trans _ _ h1 h2 => exact h1.trans h2
theorem rep_sum (f : α → Int) : ∀ k : Nat, ((List.replicate k l).flatten.map f).sum = (k : Int) * (l.map f).sum
  | 0 => by simp
  | k + 1 => by
    rw [List.replicate_succ, List.flatten_cons, List.map_append, List.sum_append, rep_sum f k, Int.natCast_succ, Int.add_mul]
    omega
end
section
variable {L l : List (List Int)}
theorem alt_succ (n : Nat) : ((-1 : Int) ^ (n + 1)) = -((-1) ^ n) := by rw [Int.pow_succ]; omega
/-- each point leads to all others -/
theorem cl_others (hp : pts L = l) (nd : l.Nodup) (hn : ∀ p ∈ l, near L p = l.filter fun o => decide (o ≠ p)) (n : Nat) : cl L n = ((l.length : Int) - 1) ^ n + ((l.length : Int) - 1) * (-1) ^ n := by
  have st : ∀ n p q, p ∈ l → wk L (n + 1) p q = (l.map fun o => wk L n o q).sum - wk L n p q := fun n p q h => by
    show ((near L p).map _).sum = _
    rw [hn p h, sum_erase nd h]
  have S : ∀ n q, q ∈ l → (l.map fun o => wk L n o q).sum = ((l.length : Int) - 1) ^ n := fun n q hq => by
    induction n with
    | zero =>
      rw [Int.pow_zero]
      exact sum_delta nd hq
    | succ n ih =>
      rw [sum_same (g := fun p => (l.map fun o => wk L n o q).sum - wk L n p q) fun p h => st n p q h, sum_sub, sum_const, ih, Int.pow_succ, Int.mul_comm (((l.length : Int) - 1) ^ n), Int.sub_mul]
      omega
  induction n with
  | zero =>
    unfold cl
    rw [hp, sum_same (f := fun p => wk L 0 p p) (g := fun _ => (1 : Int)) (fun p _ => if_pos rfl), sum_const]
    simp
    omega
  | succ n ih =>
    unfold cl at ih ⊢
    rw [hp] at ih ⊢
    rw [sum_same (g := fun p => ((l.length : Int) - 1) ^ n - wk L n p p) fun p h => by rw [st n p p h, S n p h], sum_sub, ih, sum_const, alt_succ, Int.pow_succ, Int.mul_comm (((l.length : Int) - 1) ^ n)]
    simp only [Int.sub_mul, Int.one_mul, Int.mul_neg]
    omega
/-- each point leads to all points, once by so many ties -/
theorem cl_all1 (hp : pts L = l) (nd : l.Nodup) (hn : ∀ p ∈ l, near L p = l) (n : Nat) : cl L (n + 1) = (l.length : Int) ^ (n + 1) := by
  have S : ∀ n q, q ∈ l → (l.map fun o => wk L n o q).sum = (l.length : Int) ^ n := fun n q hq => by
    induction n with
    | zero =>
      rw [Int.pow_zero]
      exact sum_delta nd hq
    | succ n ih =>
      rw [sum_same (g := fun _ => (l.map fun o => wk L n o q).sum) fun p h => by show ((near L p).map _).sum = _; rw [hn p h], sum_const, ih, Int.pow_succ, Int.mul_comm]
  unfold cl
  rw [hp, sum_same (g := fun _ => (l.length : Int) ^ n) fun p h => by
    show ((near L p).map _).sum = _
    rw [hn p h, S n p h], sum_const, Int.pow_succ, Int.mul_comm]
/-- by two ties each point leads to all points, once -/
theorem cl_all2 {k : Nat} (hp : pts L = l) (nd : l.Nodup) (hn : ∀ p ∈ l, (near L p).flatMap (near L) = l) (hm : (l.flatMap (near L)).Perm (List.replicate k l).flatten) (n : Nat) : cl L (n + 2) = (l.length : Int) * (k : Int) ^ n := by
  have S : ∀ n q, q ∈ l → (l.map fun o => wk L n o q).sum = (k : Int) ^ n := fun n q hq => by
    induction n with
    | zero =>
      rw [Int.pow_zero]
      exact sum_delta nd hq
    | succ n ih =>
      have e : (l.map fun o => wk L (n + 1) o q).sum = ((l.flatMap (near L)).map fun o => wk L n o q).sum := by
        clear hp nd hn hm hq ih
        induction l with
        | nil => rfl
        | cons x l ih2 =>
          rw [List.map_cons, List.sum_cons, ih2, List.flatMap_cons, List.map_append, List.sum_append]
          rfl
      rw [e, perm_sum (hm.map fun o => wk L n o q), rep_sum, ih, Int.pow_succ, Int.mul_comm]
  unfold cl
  rw [hp, sum_same (g := fun _ => (k : Int) ^ n) fun p h => ?_, sum_const]
  show ((near L p).map fun o => ((near L o).map fun o => wk L n o p).sum).sum = _
  have e : ∀ m : List (List Int), (m.map fun o => ((near L o).map fun o => wk L n o p).sum).sum = ((m.flatMap (near L)).map fun o => wk L n o p).sum := fun m => by
    induction m with
    | nil => rfl
    | cons x m ih2 => rw [List.map_cons, List.sum_cons, ih2, List.flatMap_cons, List.map_append, List.sum_append]
  rw [e, hn p h, S n p h]
end
/-! the rules -/
def colW (c : Nat) : List (List Int) := (List.range c).flatMap fun a : Nat => ((List.range c).filter fun b => decide (b ≠ a)).map fun b : Nat => [(a : Int), (b : Int)]
theorem cl_col {c : Nat} (h : c = 2 ∨ c = 3 ∨ c = 4) (n : Nat) : cl (colW c) n = ((c : Int) - 1) ^ n + ((c : Int) - 1) * (-1) ^ n := by
  rcases h with rfl | rfl | rfl
  · exact cl_others (L := colW 2) (l := [[0], [1]]) (by decide +kernel) (by decide) (by decide +kernel) n
  · exact cl_others (L := colW 3) (l := [[0], [1], [2]]) (by decide +kernel) (by decide) (by decide +kernel) n
  · exact cl_others (L := colW 4) (l := [[0], [1], [2], [3]]) (by decide +kernel) (by decide) (by decide +kernel) n
theorem cl_lists {s w : Nat} (hs : s = 1 ∨ s = 2 ∨ s = 3) (hw : w = 2 ∨ w = 3) {n : Nat} (hn : 1 ≤ n) : cl (lists s w) n = (s : Int) ^ n := by
  obtain ⟨m, rfl⟩ : ∃ m, n = m + 1 := ⟨n - 1, by omega⟩
  rcases hw with rfl | rfl
  · rcases hs with rfl | rfl | rfl
    · exact cl_all1 (L := lists 1 2) (l := [[0]]) (by decide +kernel) (by decide) (by decide +kernel) m
    · exact cl_all1 (L := lists 2 2) (l := [[0], [1]]) (by decide +kernel) (by decide) (by decide +kernel) m
    · exact cl_all1 (L := lists 3 2) (l := [[0], [1], [2]]) (by decide +kernel) (by decide) (by decide +kernel) m
  · cases m with
    | zero => rcases hs with rfl | rfl | rfl <;> decide +kernel
    | succ m =>
      rcases hs with rfl | rfl | rfl
      · rw [cl_all2 (L := lists 1 3) (l := lists 1 2) (k := 1) (by decide +kernel) (by decide +kernel) (by decide +kernel) (by decide +kernel) m]
        rw [lists_len]
        have one : ∀ k : Nat, ((1 : Nat) : Int) ^ k = 1 := fun k => by
          induction k with
          | zero => rfl
          | succ k ih => rw [Int.pow_succ, ih]; rfl
        rw [one, one]
        rfl
      · rw [cl_all2 (L := lists 2 3) (l := lists 2 2) (k := 2) (by decide +kernel) (by decide +kernel) (by decide +kernel) (by decide +kernel) m, lists_len, Int.pow_succ, Int.pow_succ]
        have : ((2 ^ 2 : Nat) : Int) = 4 := rfl
        rw [this]
        show (4 : Int) * 2 ^ m = 2 ^ m * 2 * 2
        omega
      · rw [cl_all2 (L := lists 3 3) (l := lists 3 2) (k := 3) (by decide +kernel) (by decide +kernel) (by decide +kernel) (by decide +kernel) m, lists_len, Int.pow_succ, Int.pow_succ]
        have : ((3 ^ 2 : Nat) : Int) = 9 := rfl
        rw [this]
        show (9 : Int) * 3 ^ m = 3 ^ m * 3 * 3
        omega
def sprW : List (List Int) := [[0, 0, 1], [0, 1, 0], [1, 0, 0], [1, 0, 1]]
theorem cl_spr (n : Nat) : cl sprW (n + 3) = cl sprW (n + 1) + cl sprW n := by
  have hp : pts sprW = [[0, 0], [0, 1], [1, 0]] := by decide +kernel
  have n0 : near sprW [0, 0] = [[0, 1]] := by decide +kernel
  have n1 : near sprW [0, 1] = [[1, 0]] := by decide +kernel
  have n2 : near sprW [1, 0] = [[0, 0], [0, 1]] := by decide +kernel
  have a0 : ∀ n q, wk sprW (n + 1) [0, 0] q = wk sprW n [0, 1] q := fun n q => by
    show ((near sprW [0, 0]).map _).sum = _
    rw [n0]
    simp
  have a1 : ∀ n q, wk sprW (n + 1) [0, 1] q = wk sprW n [1, 0] q := fun n q => by
    show ((near sprW [0, 1]).map _).sum = _
    rw [n1]
    simp
  have a2 : ∀ n q, wk sprW (n + 1) [1, 0] q = wk sprW n [0, 0] q + wk sprW n [0, 1] q := fun n q => by
    show ((near sprW [1, 0]).map _).sum = _
    rw [n2]
    simp
  unfold cl
  rw [hp]
  simp only [List.map_cons, List.map_nil, List.sum_cons, List.sum_nil]
  simp only [a0, a1, a2]
  omega
/-- the numbers of spread's rings -/
def perr : Nat → Int
  | 0 => 3
  | 1 => 0
  | 2 => 2
  | n + 3 => perr (n + 1) + perr n
theorem cl_perr : ∀ n, cl sprW n = perr n
  | 0 => by decide +kernel
  | 1 => by decide +kernel
  | 2 => by decide +kernel
  | n + 3 => by rw [cl_spr, cl_perr (n + 1), cl_perr n]; rfl
/-! counted by turns -/
theorem clT_nil (n : Nat) : clT [] n = 0 := by
  unfold clT
  rw [sum_same (f := fun t => cl [] (Nat.gcd n (t + 1))) (g := fun _ => (0 : Int)) (fun t _ => rfl), sum_const]
  simp
section
variable {L : List (List Int)} {s n : Nat}
theorem pow_ge (hs : 1 ≤ s) {k : Nat} (hk : 1 ≤ k) : (s : Int) ≤ (s : Int) ^ k := by
  have : s ^ 1 ≤ s ^ k := Nat.pow_le_pow_right hs hk
  rw [Nat.pow_one] at this
  have e : ((s ^ k : Nat) : Int) = (s : Int) ^ k := Int.natCast_pow s k
  omega
theorem sum_ge {l : List Nat} {f : Nat → Int} {c : Int} (h : ∀ x ∈ l, c ≤ f x) : (l.length : Int) * c ≤ (l.map f).sum := by
  induction l with
  | nil => simp
  | cons x l ih =>
    have h1 := h x List.mem_cons_self
    have h2 := ih fun y hy => h y (List.mem_cons_of_mem _ hy)
    rw [List.map_cons, List.sum_cons, List.length_cons, Int.natCast_succ, Int.add_mul]
    omega
theorem clT_ge (h : ∀ k, 1 ≤ k → cl L k = (s : Int) ^ k) (hs : 1 ≤ s) (hn : 1 ≤ n) : (s : Int) ≤ clT L n / n := by
  have key : (n : Int) * s ≤ clT L n := by
    have := sum_ge (l := List.range n) (f := fun t => cl L (Nat.gcd n (t + 1))) (c := (s : Int)) fun t ht => by
      have g : 1 ≤ Nat.gcd n (t + 1) := Nat.gcd_pos_of_pos_left _ (by omega)
      rw [h _ g]
      exact pow_ge hs g
    rw [List.length_range] at this
    exact this
  exact Int.le_ediv_of_mul_le (by omega) (by rw [Int.mul_comm]; exact key)
theorem clT_prime (h : ∀ k, 1 ≤ k → cl L k = (s : Int) ^ k) (hn : 2 ≤ n) (hp : ∀ k, 2 ≤ k → k < n → n % k ≠ 0) : clT L n / n = s + ((s : Int) ^ n - s) / n := by
  have key : clT L n = n * s + ((s : Int) ^ n - s) := by
    obtain ⟨m, rfl⟩ : ∃ m, n = m + 1 := ⟨n - 1, by omega⟩
    unfold clT
    rw [List.range_succ, List.map_append, List.sum_append, List.map_cons, List.map_nil, List.sum_cons, List.sum_nil, Nat.gcd_self, h _ (by omega), sum_same (g := fun _ => (s : Int)) fun t ht => ?_, sum_const, List.length_range, Int.natCast_succ, Int.add_mul]
    · omega
    · rw [List.mem_range] at ht
      have g0 : 1 ≤ Nat.gcd (m + 1) (t + 1) := Nat.gcd_pos_of_pos_left _ (by omega)
      have g1 : Nat.gcd (m + 1) (t + 1) ≤ t + 1 := Nat.gcd_le_right _ (by omega)
      have g2 : (m + 1) % Nat.gcd (m + 1) (t + 1) = 0 := Nat.mod_eq_zero_of_dvd (Nat.gcd_dvd_left _ _)
      have : Nat.gcd (m + 1) (t + 1) = 1 := by
        rcases Nat.lt_or_ge (Nat.gcd (m + 1) (t + 1)) 2 with q | q
        · omega
        · exact absurd g2 (hp _ q (by omega))
      rw [this, h 1 (by omega)]
      show (s : Int) ^ 1 = s
      rw [Int.pow_succ, Int.pow_zero, Int.one_mul]
  rw [key, Int.add_ediv_of_dvd_left (Int.dvd_mul_right ..), Int.mul_ediv_cancel_left _ (by omega)]
end
end K18

set_option Elab.async false
set_option linter.all false
set_option maxRecDepth 100000
set_option maxHeartbeats 4000000
namespace K18
open PySem PySem.Spec L2 B RG
theorem power (a n : Nat) (ha : a ≤ 10) (hn : n ≤ 1000) {Q} {E} (h : Q (.fz (.int ((a : Int) ^ n))) []) : FW (r_L_power [.int a, .int n]) Q E := by
  unfold r_L_power m_L_power
  rw [FW_run]
  simp [start0, par]
  refine ⟨inR_iff.mpr (by omega), W_forL (fun i β => ∃ s3, isOwn s3 = false ∧ β = [.fz (.int a), .fz (.int n), .fz (.int ((a : Int) ^ i)), s3]) ⟨.un, rfl, by rw [Int.pow_zero]⟩ (fun i d β hd hI => ?_) fun β hI => ?_⟩
  · obtain ⟨s3, h3, rfl⟩ := hI
    obtain ⟨hi, rfl⟩ := rng_get hd
    simp
    exact ⟨mulOk_r (by omega) (by omega), rfl, by rw [Int.pow_succ]⟩
  · obtain ⟨s3, h3, rfl⟩ := hI
    simp
    rw [rng_len]
    exact h
theorem rl_col {c : Nat} (h : c = 2 ∨ c = 3 ∨ c = 4) : Rl c 2 (colW c) := by
  rcases h with rfl | rfl | rfl <;> exact ⟨by decide, by decide, by decide, by decide, by decide +kernel, by decide +kernel, by decide +kernel, by decide +kernel⟩
theorem rl_spr : Rl 2 3 sprW := ⟨by decide, by decide, by decide, by decide, by decide +kernel, by decide +kernel, by decide +kernel, by decide +kernel⟩
theorem rl_lists {s w : Nat} (hs : s = 1 ∨ s = 2 ∨ s = 3) (hw : w = 2 ∨ w = 3) : Rl s w (lists s w) := by
  rcases hs with rfl | rfl | rfl <;> rcases hw with rfl | rfl <;> exact ⟨by decide, by decide, by decide, by decide, by decide +kernel, by decide +kernel, by decide +kernel, by decide +kernel⟩
theorem rl_nil {s w : Nat} (hs : s = 1 ∨ s = 2 ∨ s = 3) (hw : w = 2 ∨ w = 3) : Rl s w [] := by
  refine ⟨by omega, by omega, by omega, by omega, ?_, ?_, List.Pairwise.nil, by decide⟩ <;> (intro k hk; cases hk)
theorem spread {Q} {E} (h : Q (.fz (ruleD 2 3 sprW)) []) : FW (r_P_spread []) Q E := by
  unfold r_P_spread m_P_spread
  rw [FW_run]
  simp [start0, par]
  refine ⟨sz (by decide), sz (by decide), ?_⟩
  refine rule_init rl_spr ?_
  exact h
theorem colours {c : Nat} (hc : c = 2 ∨ c = 3 ∨ c = 4) {Q} {E} (h : Q (.fz (ruleD c 2 (colW c))) []) : FW (r_P_colours [.int c]) Q E := by
  unfold r_P_colours m_P_colours
  rw [FW_run]
  simp only [start0, par]
  have e1 : (2 : Int) ≤ c ∧ (c : Int) ≤ 4 := by omega
  refine W_then (β1 := [.fz (.int c), .un, .un]) ?_ ?_
  · simp
    refine is_from _ _ _ ?_
    simp [e1]
  simp
  refine ⟨inR_iff.mpr (by omega), W_comp2F (fun _ => rng 0 c) (fun d e => decide (dN e ≠ dN d)) (fun d e => .nd .tup [d, e]) (by rfl) (by rcases hc with rfl | rfl | rfl <;> exact sz (by decide)) (fun d hd => ?_) ?_⟩
  · obtain ⟨i, hi⟩ := List.mem_iff_getElem?.mp hd
    obtain ⟨hi, rfl⟩ := rng_get hi
    simp [wipeB]
    refine ⟨inR_iff.mpr (by omega), fun acc hacc => ?_⟩
    refine W_compLF (fun e => decide (dN e ≠ i)) (fun e => .nd .tup [.int i, e]) hacc (fun e he => ?_) ?_
    · obtain ⟨j, hj⟩ := List.mem_iff_getElem?.mp he
      obtain ⟨hj, rfl⟩ := rng_get hj
      simp [wipeB]
      refine ⟨?_, fun _ => sz (by decide)⟩
      by_cases q : j = i
      · subst q
        simp
      · have : ¬ (i : Int) = j := by omega
        simp [q, this]
    · simp [wipeB]
      congr 1
      apply List.filter_congr
      intro x _
      by_cases q : dN x = i <;> simp [q]
  · have e : ((rng 0 c).flatMap fun d => ((rng 0 c).filter fun e => decide (dN e ≠ dN d)).map fun e => D.nd .tup [d, e]) = (colW c).map tupD := by
      rcases hc with rfl | rfl | rfl <;> rfl
    show FW (r_P_Rule_init [insD "Rule" [], .int c, .int 2, .nd .lst ((rng 0 c).flatMap fun d => ((rng 0 c).filter fun e => decide (dN e ≠ dN d)).map fun e => D.nd .tup [d, e])]) _ _
    rw [e]
    refine rule_init (rl_col hc) ?_
    simp [wipeB, backB]
    exact h
theorem parity (n : Nat) : (-1 : Int) ^ n = if n % 2 = 0 then 1 else -1 := by
  induction n with
  | zero => rfl
  | succ n ih =>
    rw [Int.pow_succ, ih]
    by_cases h : n % 2 = 0
    · rw [if_pos h, if_neg (by omega)]
      rfl
    · rw [if_neg h, if_pos (by omega)]
      rfl
theorem colours_right {c n : Nat} (hc : c = 2 ∨ c = 3 ∨ c = 4) (h1 : 1 ≤ n) (h2 : n ≤ 400) {Q} {E} (h : Q (.fz (.bl true)) []) : FW (r_L_colours_right [.int c, .int n]) Q E := by
  unfold r_L_colours_right m_L_colours_right
  rw [FW_run]
  simp only [start0, par]
  have ec : (c : Int) - 1 = ((c - 1 : Nat) : Int) := by omega
  refine W_then (β1 := [.fz (.int c), .fz (.int n), .fz (.int (cl (colW c) n))]) ?_ ?_
  · simp
    rw [ec]
    refine power (c - 1) n (by omega) (by omega) ?_
    simp
    refine ⟨sz (by decide), ?_⟩
    have en : (n : Int) % 2 = ((n % 2 : Nat) : Int) := by omega
    rw [en, atI_nat']
    have e2 : slOf (Rs.fz (.int (((c - 1 : Nat) : Int) ^ n + ((c - 1 : Nat) : Int) * (if n % 2 = 0 then 1 else -1)))) = Sl.fz (.int (cl (colW c) n)) := by
      rw [cl_col hc, parity, ec]
      rfl
    by_cases q : n % 2 = 0
    · rw [q]
      rw [if_pos q] at e2
      simp at e2 ⊢
      exact ⟨mulOk_l (by omega) (by omega), e2⟩
    · have q : n % 2 = 1 := by omega
      rw [q]
      rw [if_neg (by omega)] at e2
      simp at e2 ⊢
      exact ⟨mulOk_l (by omega) (by omega), e2⟩
  · simp
    refine colours hc ?_
    simp
    refine many (rl_col hc) h1 h2 ?_
    simp
    exact h
theorem spread_right {n : Nat} (h1 : 1 ≤ n) (h2 : n ≤ 400) {Q} {E} (h : Q (.fz (.bl true)) []) : FW (r_L_spread_right [.int n]) Q E := by
  unfold r_L_spread_right m_L_spread_right
  rw [FW_run]
  simp only [start0, par]
  refine W_then (β1 := [.fz (.int n), .own none (.nd .lst [.int 3, .int 0, .int 2])]) ?_ ?_
  · simp
    exact sz (by decide)
  rw [W_seqF]
  refine W_while (fun m β => ∃ k : Nat, 3 ≤ k ∧ m + k = max 3 (n + 1) ∧ β = [.fz (.int n), .own none (.nd .lst ((List.range k).map fun i => D.int (perr i)))]) (fun m β hI => ?_) (n := max 3 (n + 1) - 3) ⟨3, by decide, by omega, rfl⟩
  obtain ⟨k, hk, hm, rfl⟩ := hI
  rw [W_asB, W_mOp]
  simp
  split
  · rename_i hkn
    obtain ⟨j, rfl⟩ : ∃ j, k = j + 3 := ⟨k - 3, by omega⟩
    have a2 : atI ((List.range (j + 3)).map fun i => D.int (perr i)) (-2) = some (.int (perr (j + 1))) := by
      rw [atI_neg (by decide) (by simp; omega), List.length_map, List.length_range]
      have : ((-2 : Int) + ((j + 3 : Nat) : Int)).toNat = j + 1 := by omega
      rw [this, List.getElem?_map, List.getElem?_range (by omega)]
      rfl
    have a3 : atI ((List.range (j + 3)).map fun i => D.int (perr i)) (-3) = some (.int (perr j)) := by
      rw [atI_neg (by decide) (by simp; omega), List.length_map, List.length_range]
      have : ((-3 : Int) + ((j + 3 : Nat) : Int)).toNat = j := by omega
      rw [this, List.getElem?_map, List.getElem?_range (by omega)]
      rfl
    rw [a2, a3]
    simp
    refine ⟨szlt (by omega), m - 1, by omega, j + 4, by omega, by omega, ?_⟩
    rw [List.range_succ (n := j + 3), List.map_append]
    rfl
  · rename_i hkn
    refine spread ?_
    simp
    refine many rl_spr h1 h2 ?_
    simp
    rw [atI_nat', List.getElem?_map, List.getElem?_range (by omega)]
    simp
    rw [cl_perr]
    simp
    exact h
end K18

set_option Elab.async false
set_option linter.all false
set_option maxRecDepth 100000
set_option maxHeartbeats 4000000
namespace K18
open PySem PySem.Spec L2 B RG
def isP (n : Nat) : Prop := 2 ≤ n ∧ ∀ k, 2 ≤ k → k < n → n % k ≠ 0
theorem rng2 (n : Nat) : rng 2 (n : Int) = (List.range (n - 2)).map fun k : Nat => D.int ((k : Int) + 2) := by
  unfold rng
  have : ((n : Int) - 2).toNat = n - 2 := by omega
  rw [this]
  apply List.map_congr_left
  intro k _
  congr 1
  omega
theorem shp_iL (ns : List Int) : shp (iL ns) = true := by
  unfold shp SeqAt.shaped
  show (PyData.canLay0 (.list (toPys (ns.map D.int))) && decide (PyData.depth (.list (toPys (ns.map D.int))) ≤ 64)) = true
  rw [toPys_ints]
  simp [PyData.canLay0, PyData.depth, canLay_ints, depth_ints]
theorem eqv_iL (ns ms : List Int) : eqv (iL ns) (iL ms) = decide (ns = ms) := by
  unfold eqv
  show PyData.eqv (.list (toPys (ns.map D.int))) (.list (toPys (ms.map D.int))) = _
  rw [toPys_ints, toPys_ints]
  simp only [PyData.eqv, eqvAll_ints]
theorem w_eqL {ns ms : List Int} {P : Rs → Prop} : optW (gEq (iL ns) (iL ms)) P ↔ P (.fz (.bl (decide (ns = ms)))) := by
  unfold gEq
  rw [if_pos ⟨shp_iL ns, shp_iL ms⟩, eqv_iL]
  exact Iff.rfl
theorem is_prime {n : Nat} (h1 : 1 ≤ n) (h2 : n ≤ 400) {Q} {E} (h : ∀ b : Bool, (b = true → isP n) → Q (.fz (.bl b)) []) : FW (r_L_is_prime [.int n]) Q E := by
  unfold r_L_is_prime m_L_is_prime
  rw [FW_run]
  simp [start0, par]
  split
  · rename_i hn
    rw [rng2]
    refine ⟨⟨by rfl, inR_iff.mpr (by omega)⟩, W_compF (fun d => decide (n % dN d = 0)) id (by rfl) (szlt (by simp; omega)) (fun d hd => ?_) ?_⟩
    · obtain ⟨k, hk, rfl⟩ := List.mem_map.mp hd
      simp [wipeB]
      refine ⟨by omega, ?_⟩
      have e1 : ((k : Int) + 2).toNat = k + 2 := by omega
      have e2 : (n : Int) % ((k : Int) + 2) = ((n % (k + 2) : Nat) : Int) := by
        rw [Int.natCast_emod]
        rfl
      refine decide_eq_decide.mpr ?_
      show (n : Int) % ((k : Int) + 2) = 0 ↔ n % ((k : Int) + 2).toNat = 0
      rw [e1, e2]
      exact ⟨fun h => by omega, fun h => by omega⟩
    · have e : (((List.range (n - 2)).map fun k : Nat => D.int ((k : Int) + 2)).filter fun d => decide (n % dN d = 0)).map id = (((List.range (n - 2)).filter fun k : Nat => decide (n % (k + 2) = 0)).map fun k : Nat => ((k : Int) + 2)).map D.int := by
        rw [List.map_id, List.filter_map, List.map_map]
        have e1 : ((fun d => decide (n % dN d = 0)) ∘ fun k : Nat => D.int ((k : Int) + 2)) = fun k : Nat => decide (n % (k + 2) = 0) := by
          funext k
          have : ((k : Int) + 2).toNat = k + 2 := by omega
          simp [this]
        rw [e1]
        rfl
      rw [e]
      simp only [wipeB, backB]
      simp
      rw [← List.map_map]
      refine (w_eqL (ms := [])).mpr ?_
      refine h _ fun hb => ⟨by omega, fun k k2 kn hk => ?_⟩
      have e0 := List.map_eq_nil_iff.mp (of_decide_eq_true hb)
      have m : k - 2 ∈ (List.range (n - 2)).filter fun k : Nat => decide (n % (k + 2) = 0) := by
        rw [List.mem_filter, List.mem_range]
        refine ⟨by omega, decide_eq_true ?_⟩
        have : k - 2 + 2 = k := by omega
        rw [this]
        exact hk
      rw [e0] at m
      cases m
  · rename_i hn
    exact h false (by simp)
theorem l_tup {s w : Nat} : ((lists s w).map iL).map (fun d => match d with
    | .nd .lst ds => D.nd .tup ds
    | d => d) = (lists s w).map tupD := by
  rw [List.map_map]
  rfl
theorem W_cut {m n : M Fl} {β : B.Env} {Q : Fl → B.Env → Prop} {E : Exn → B.Env → Prop} (R : B.Env → Prop) (h : W m β (fun f b => f = .nx ∧ R b) E) (k : ∀ b, R b → W n b Q E) : W (seqF m n) β Q E :=
  W_seqF.mpr (h.mono (fun f b ⟨e1, e2⟩ => by subst e1; exact k b e2) fun _ _ h => h)
theorem right {s : D} (hs : St s) {Q} {E} (h : ∀ s', St s' → Q (.fz (.bl true)) [s']) : FW (r_L_right [s]) Q E := by
  unfold r_L_right m_L_right
  rw [FW_run]
  simp only [start0, par]
  refine W_cut (fun b => ∃ s' n, St s' ∧ 1 ≤ n ∧ n ≤ 400 ∧ b = [.own (some 0) s', .fz (.int (n : Nat)), .un, .un, .un, .un, .un]) ?_ ?_
  · simp
    refine ⟨sz (by decide), one hs (ds := [.int 9, .int 60, .int 400]) (by simp) (by simp) fun d s1 hd hs1 => ?_⟩
    have hb : ∃ b : Int, d = .int b ∧ 0 < b ∧ b ≤ 400 := by
      simp at hd
      rcases hd with rfl | rfl | rfl <;> exact ⟨_, rfl, by decide, by decide⟩
    obtain ⟨b, rfl, b0, b1⟩ := hb
    simp
    refine draw hs1 b0 (by omega) fun v s2 hs2 v0 v1 => ?_
    simp
    exact ⟨s2, hs2, (1 + v).toNat, by omega, by omega, rfl, by omega⟩
  rintro b ⟨s2, n, hs2, n1, n2, rfl⟩
  refine W_cut (fun b => ∃ s', St s' ∧ b = [.own (some 0) s', .fz (.int (n : Nat)), .un, .un, .un, .un, .un]) ?_ ?_
  · simp
    refine draw hs2 (by decide) (by decide) fun v s3 hs3 v0 v1 => ?_
    obtain ⟨c, hc⟩ : ∃ c : Nat, 2 + v = c := ⟨(2 + v).toNat, by omega⟩
    simp
    rw [hc]
    refine colours_right (by omega) n1 n2 ?_
    simp
    refine spread_right n1 n2 ?_
    simp
    exact hs3
  rintro b ⟨s3, hs3, rfl⟩
  refine W_cut (fun b => ∃ s' z, St s' ∧ (z = 1 ∨ z = 2 ∨ z = 3) ∧ b = [.own (some 0) s', .fz (.int (n : Nat)), .fz (.int (z : Nat)), .un, .un, .un, .un]) ?_ ?_
  · simp
    refine draw hs3 (by decide) (by decide) fun v s4 hs4 v0 v1 => ?_
    simp
    exact ⟨s4, hs4, by
      rcases (show v = 0 ∨ v = 1 ∨ v = 2 by omega) with rfl | rfl | rfl
      · exact .inl ⟨rfl, rfl⟩
      · exact .inr (.inl ⟨rfl, rfl⟩)
      · exact .inr (.inr ⟨rfl, rfl⟩)⟩
  rintro b ⟨s4, z, hs4, z3, rfl⟩
  refine W_cut (fun b => ∃ s' w, St s' ∧ (w = 2 ∨ w = 3) ∧ b = [.own (some 0) s', .fz (.int (n : Nat)), .fz (.int (z : Nat)), .fz (.int (w : Nat)), .un, .un, .un]) ?_ ?_
  · simp
    refine draw hs4 (by decide) (by decide) fun v s5 hs5 v0 v1 => ?_
    simp
    exact ⟨s5, hs5, by
      rcases (show v = 0 ∨ v = 1 by omega) with rfl | rfl
      · exact .inl ⟨rfl, rfl⟩
      · exact .inr ⟨rfl, rfl⟩⟩
  rintro b ⟨s5, w, hs5, w3, rfl⟩
  have big : z ^ w ≤ 100000 := by rcases z3 with rfl | rfl | rfl <;> rcases w3 with rfl | rfl <;> decide
  have big2 : z ^ w ≤ 27 := by rcases z3 with rfl | rfl | rfl <;> rcases w3 with rfl | rfl <;> decide
  refine W_then (β1 := [.own (some 0) s5, .fz (.int n), .fz (.int z), .fz (.int w), .fz (ruleD z w (lists z w)), .un, .un]) ?_ ?_
  · simp
    refine l_lists big (by omega) (by omega) (by omega) ?_
    simp
    refine W_compF (fun _ => true) (fun d => match d with
      | .nd .lst ds => D.nd .tup ds
      | d => d) (by rfl) (szlt (by simp [lists_len]; omega)) (fun d hd => ?_) ?_
    · obtain ⟨r, hr, rfl⟩ := List.mem_map.mp hd
      simp [wipeB]
    · rw [List.filter_eq_self.mpr fun _ _ => rfl, l_tup]
      simp [wipeB, backB]
      refine rule_init (rl_lists z3 w3) ?_
      simp
  obtain ⟨k, hk⟩ : ∃ k : Nat, 1 + (n : Int) % 60 = k := ⟨(1 + (n : Int) % 60).toNat, by omega⟩
  have k1 : 1 ≤ k := by omega
  have k2 : k ≤ 400 := by omega
  have rl := rl_lists z3 w3
  have ck : ∀ j, 1 ≤ j → cl (lists z w) j = (z : Int) ^ j := fun j hj => cl_lists z3 w3 hj
  refine W_then (β1 := [.own (some 0) s5, .fz (.int n), .fz (.int z), .fz (.int w), .fz (ruleD z w (lists z w)), .fz (.int k), .un]) ?_ ?_
  · simp
    exact hk
  refine W_then (β1 := [.own (some 0) s5, .fz (.int n), .fz (.int z), .fz (.int w), .fz (ruleD z w (lists z w)), .fz (.int k), .un]) ?_ ?_
  · simp
    refine many rl k1 k2 ?_
    simp
    refine power z k (by omega) (by omega) ?_
    simp [ck k k1]
    refine rule_init (rl_nil z3 w3) ?_
    simp [kp, pick]
    refine manyT (rl_nil z3 w3) n1 n2 ?_
    simp [clT_nil]
  rw [W_seqF]
  simp
  refine is_prime k1 k2 fun b hb => ?_
  simp
  split
  · rename_i hb'
    have hp := hb hb'
    simp [kp, pick]
    refine manyT rl k1 k2 ?_
    simp
    refine power z k (by omega) (by omega) ?_
    simp
    rw [clT_prime ck hp.1 hp.2]
    simp
    exact ⟨divOk_of (by omega) (by omega), h _ hs5⟩
  · simp [kp, pick]
    refine manyT rl k1 k2 ?_
    simp
    have := clT_ge ck (by omega) k1
    simp [this]
    exact h _ hs5
theorem cell_at {ns : List Int} {Q} {E} (h : ∀ c : Int, Q (.fz (.int c)) []) : FW (r_L_cell_at [.nd .scr (ns.map D.int), .int 0]) Q E := by
  unfold r_L_cell_at m_L_cell_at
  rw [FW_run]
  simp [start0, par]
  split
  · rename_i hp
    cases ns with
    | nil => simp at hp
    | cons n ns =>
      simp
      exact h n
  · exact h 0
theorem law_true (ns : List Int) (hl : ns.length ≤ 63) (hb : ∀ z ∈ ns, Builtin.Int.intBits z ≤ 1048576) : r_L_law [.nd .scr (ns.map D.int)] = .ok (.fz (.bl true)) [] := by
  have key : FW (r_L_law [.nd .scr (ns.map D.int)]) (fun r ios => r = .fz (.bl true) ∧ ios = []) (fun _ _ => False) := by
    unfold r_L_law m_L_law
    rw [FW_run]
    simp [start0, par]
    refine cell_at fun c => ?_
    simp
    have hcl : (cut (List.map D.int ns) (some 1) (some 4)).length ≤ 63 := by
      unfold cut
      rw [List.length_take, List.length_drop, List.length_map]
      omega
    have hin : ∀ d, d ∈ D.int c :: cut (List.map D.int ns) (some 1) (some 4) → ∃ x : Int, d = .int x := by
      intro d hd
      rcases List.mem_cons.mp hd with e | e
      · exact ⟨c, e⟩
      · have := List.mem_of_mem_drop (List.mem_of_mem_take e)
        obtain ⟨x, _, e⟩ := List.mem_map.mp this
        exact ⟨x, e.symm⟩
    refine ⟨sz (by decide), sz (by omega), W_forL (fun i β => ∃ s1, isOwn s1 = false ∧ β = [.fz (.nd .scr (ns.map D.int)), s1]) ⟨_, rfl, rfl⟩ (fun i d β hd hI => ?_) fun β hI => ?_⟩
    · obtain ⟨s1, h1, e⟩ := hI
      subst e
      obtain ⟨x, e⟩ := hin d (List.mem_of_getElem? hd)
      subst e
      simp
      refine well x fun s hs => ?_
      simp
      refine W_callT (right hs fun s' hs' => ?_)
      simp
      rfl
    · obtain ⟨s1, h1, e⟩ := hI
      subst e
      simp
  unfold FW at key
  cases e : r_L_law [.nd .scr (ns.map D.int)] with
  | stuck => rw [e] at key; exact key.elim
  | exc x ios => rw [e] at key; exact key.elim
  | ok r ios =>
    rw [e] at key
    rw [key.1, key.2]
end K18

set_option Elab.async false
set_option linter.all false
set_option maxRecDepth 100000
set_option maxHeartbeats 4000000
namespace K18
open PySem PySem.Spec L2 B
open RG
abbrev N_L_cell_at : List Str := ["_law_script", "_law_k"]
abbrev q_L_cell_at : List Str := ["_law_script", "_law_k"]
theorem sc_L_cell_at : FnScope N_L_cell_at q_L_cell_at (defScope st_L_cell_at) := ⟨rfl, rfl, rfl, by decide +kernel, rfl, by decide +kernel, by decide +kernel⟩
abbrev N_P_is_from : List Str := ["thing", "low", "high"]
abbrev q_P_is_from : List Str := ["thing", "low", "high"]
theorem sc_P_is_from : FnScope N_P_is_from q_P_is_from (defScope st_P_is_from) := ⟨rfl, rfl, rfl, by decide +kernel, rfl, by decide +kernel, by decide +kernel⟩
abbrev N_P_is_word : List Str := ["thing", "size", "wide", "letter"]
abbrev q_P_is_word : List Str := ["thing", "size", "wide"]
theorem sc_P_is_word : FnScope N_P_is_word q_P_is_word (defScope st_P_is_word) := ⟨rfl, rfl, rfl, by decide +kernel, rfl, by decide +kernel, by decide +kernel⟩
abbrev N_P_are_words : List Str := ["thing", "size", "wide", "word"]
abbrev q_P_are_words : List Str := ["thing", "size", "wide"]
theorem sc_P_are_words : FnScope N_P_are_words q_P_are_words (defScope st_P_are_words) := ⟨rfl, rfl, rfl, by decide +kernel, rfl, by decide +kernel, by decide +kernel⟩
abbrev N_P_Rule_init : List Str := ["self", "size", "wide", "words"]
abbrev q_P_Rule_init : List Str := ["self", "size", "wide", "words"]
theorem sc_P_Rule_init : FnScope N_P_Rule_init q_P_Rule_init (defScope st_P_Rule_init) := ⟨rfl, rfl, rfl, by decide +kernel, rfl, by decide +kernel, by decide +kernel⟩
abbrev N_L_is_prime : List Str := ["_law_length", "_law_k"]
abbrev q_L_is_prime : List Str := ["_law_length"]
theorem sc_L_is_prime : FnScope N_L_is_prime q_L_is_prime (defScope st_L_is_prime) := ⟨rfl, rfl, rfl, by decide +kernel, rfl, by decide +kernel, by decide +kernel⟩
abbrev N_L_draw : List Str := ["_law_well_here", "_law_below", "_law_number", "_law_found"]
abbrev q_L_draw : List Str := ["_law_well_here", "_law_below"]
theorem sc_L_draw : FnScope N_L_draw q_L_draw (defScope st_L_draw) := ⟨rfl, rfl, rfl, by decide +kernel, rfl, by decide +kernel, by decide +kernel⟩
abbrev N_P_points : List Str := ["rule", "word"]
abbrev q_P_points : List Str := ["rule"]
theorem sc_P_points : FnScope N_P_points q_P_points (defScope st_P_points) := ⟨rfl, rfl, rfl, by decide +kernel, rfl, by decide +kernel, by decide +kernel⟩
abbrev N_P_ties : List Str := ["rule", "found", "word", "point"]
abbrev q_P_ties : List Str := ["rule"]
theorem sc_P_ties : FnScope N_P_ties q_P_ties (defScope st_P_ties) := ⟨rfl, rfl, rfl, by decide +kernel, rfl, by decide +kernel, by decide +kernel⟩
abbrev N_P_walks_to : List Str := ["near", "goal", "most", "found", "step", "ahead", "point", "other"]
abbrev q_P_walks_to : List Str := ["near", "goal", "most"]
theorem sc_P_walks_to : FnScope N_P_walks_to q_P_walks_to (defScope st_P_walks_to) := ⟨rfl, rfl, rfl, by decide +kernel, rfl, by decide +kernel, by decide +kernel⟩
abbrev N_P_closed_numbers : List Str := ["rule", "most", "near", "found", "point", "length", "numbers"]
abbrev q_P_closed_numbers : List Str := ["rule", "most"]
theorem sc_P_closed_numbers : FnScope N_P_closed_numbers q_P_closed_numbers (defScope st_P_closed_numbers) := ⟨rfl, rfl, rfl, by decide +kernel, rfl, by decide +kernel, by decide +kernel⟩
abbrev N_P_divisor : List Str := ["one", "other"]
abbrev q_P_divisor : List Str := ["one", "other"]
theorem sc_P_divisor : FnScope N_P_divisor q_P_divisor (defScope st_P_divisor) := ⟨rfl, rfl, rfl, by decide +kernel, rfl, by decide +kernel, by decide +kernel⟩
abbrev N_P_many : List Str := ["rule", "length", "turns", "numbers", "turn"]
abbrev q_P_many : List Str := ["rule", "length", "turns"]
theorem sc_P_many : FnScope N_P_many q_P_many (defScope st_P_many) := ⟨rfl, rfl, rfl, by decide +kernel, rfl, by decide +kernel, by decide +kernel⟩
abbrev N_L_one : List Str := ["_law_well_here", "_law_some"]
abbrev q_L_one : List Str := ["_law_well_here", "_law_some"]
theorem sc_L_one : FnScope N_L_one q_L_one (defScope st_L_one) := ⟨rfl, rfl, rfl, by decide +kernel, rfl, by decide +kernel, by decide +kernel⟩
abbrev N_L_power : List Str := ["_law_number", "_law_length", "_law_found", "_law_k"]
abbrev q_L_power : List Str := ["_law_number", "_law_length"]
theorem sc_L_power : FnScope N_L_power q_L_power (defScope st_L_power) := ⟨rfl, rfl, rfl, by decide +kernel, rfl, by decide +kernel, by decide +kernel⟩
abbrev N_P_colours : List Str := ["size", "a", "b"]
abbrev q_P_colours : List Str := ["size"]
theorem sc_P_colours : FnScope N_P_colours q_P_colours (defScope st_P_colours) := ⟨rfl, rfl, rfl, by decide +kernel, rfl, by decide +kernel, by decide +kernel⟩
abbrev N_L_colours_right : List Str := ["_law_size", "_law_length", "_law_due"]
abbrev q_L_colours_right : List Str := ["_law_size", "_law_length"]
theorem sc_L_colours_right : FnScope N_L_colours_right q_L_colours_right (defScope st_L_colours_right) := ⟨rfl, rfl, rfl, by decide +kernel, rfl, by decide +kernel, by decide +kernel⟩
abbrev N_P_spread : List Str := []
abbrev q_P_spread : List Str := []
theorem sc_P_spread : FnScope N_P_spread q_P_spread (defScope st_P_spread) := ⟨rfl, rfl, rfl, by decide +kernel, rfl, by decide +kernel, by decide +kernel⟩
abbrev N_L_spread_right : List Str := ["_law_length", "_law_numbers"]
abbrev q_L_spread_right : List Str := ["_law_length"]
theorem sc_L_spread_right : FnScope N_L_spread_right q_L_spread_right (defScope st_L_spread_right) := ⟨rfl, rfl, rfl, by decide +kernel, rfl, by decide +kernel, by decide +kernel⟩
abbrev N_L_lists : List Str := ["_law_size", "_law_places", "_law_found", "_law_k", "_law_longer", "_law_row", "_law_sign"]
abbrev q_L_lists : List Str := ["_law_size", "_law_places"]
theorem sc_L_lists : FnScope N_L_lists q_L_lists (defScope st_L_lists) := ⟨rfl, rfl, rfl, by decide +kernel, rfl, by decide +kernel, by decide +kernel⟩
abbrev N_L_right : List Str := ["_law_well_here", "_law_length", "_law_size", "_law_wide", "_law_rule", "_law_short", "_law_row"]
abbrev q_L_right : List Str := ["_law_well_here"]
theorem sc_L_right : FnScope N_L_right q_L_right (defScope st_L_right) := ⟨rfl, rfl, rfl, by decide +kernel, rfl, by decide +kernel, by decide +kernel⟩
abbrev N_L_well : List Str := ["_law_cell"]
abbrev q_L_well : List Str := ["_law_cell"]
theorem sc_L_well : FnScope N_L_well q_L_well (defScope st_L_well) := ⟨rfl, rfl, rfl, by decide +kernel, rfl, by decide +kernel, by decide +kernel⟩
abbrev N_L_law : List Str := ["_law_script", "_law_cell"]
abbrev q_L_law : List Str := ["_law_script"]
theorem sc_L_law : FnScope N_L_law q_L_law (defScope st_L_law) := ⟨rfl, rfl, rfl, by decide +kernel, rfl, by decide +kernel, by decide +kernel⟩
/-- what the written part says -/
structure Wr (K : PySem.W.Frag) (mg : Str → Option Value) : Prop where
  bl : Bl mg
  c_MOST_SIZE : ∃ t, mg "MOST_SIZE" = some (.int 4 t)
  c_MOST_WIDE : ∃ t, mg "MOST_WIDE" = some (.int 4 t)
  c_MOST_LENGTH : ∃ t, mg "MOST_LENGTH" = some (.int 400 t)
  x_NoLength : XCls K mg "NoLength"
  x_NoTurns : XCls K mg "NoTurns"
  x_NoRule : XClsI K mg "NoRule" "what" st_XNoRule "NoRule.__init__"
  re : ReC K mg "RuleError"
  c_Rule : ICls K mg "Rule" ["size", "wide", "words"] st_P_Rule_init "Rule.__init__" q_P_Rule_init
  k_L_cell_at : Lk K mg "_law_cell_at" st_L_cell_at q_L_cell_at
  k_P_is_from : Lk K mg "is_from" st_P_is_from q_P_is_from
  k_P_is_word : Lk K mg "is_word" st_P_is_word q_P_is_word
  k_P_are_words : Lk K mg "are_words" st_P_are_words q_P_are_words
  k_L_is_prime : Lk K mg "_law_is_prime" st_L_is_prime q_L_is_prime
  k_L_draw : Lk K mg "_law_draw" st_L_draw q_L_draw
  k_P_points : Lk K mg "points" st_P_points q_P_points
  k_P_ties : Lk K mg "ties" st_P_ties q_P_ties
  k_P_walks_to : Lk K mg "walks_to" st_P_walks_to q_P_walks_to
  k_P_closed_numbers : Lk K mg "closed_numbers" st_P_closed_numbers q_P_closed_numbers
  k_P_divisor : Lk K mg "divisor" st_P_divisor q_P_divisor
  k_P_many : LkD K mg "many" st_P_many q_P_many [.bl true] [(2, ["turns"], [0, 1, 2])]
  k_L_one : Lk K mg "_law_one" st_L_one q_L_one
  k_L_power : Lk K mg "_law_power" st_L_power q_L_power
  k_P_colours : Lk K mg "colours" st_P_colours q_P_colours
  k_L_colours_right : Lk K mg "_law_colours_right" st_L_colours_right q_L_colours_right
  k_P_spread : Lk K mg "spread" st_P_spread q_P_spread
  k_L_spread_right : Lk K mg "_law_spread_right" st_L_spread_right q_L_spread_right
  k_L_lists : Lk K mg "_law_lists" st_L_lists q_L_lists
  k_L_right : Lk K mg "_law_right" st_L_right q_L_right
  k_L_well : Lk K mg "_law_well" st_L_well q_L_well
section
variable {P : Program} {w : World} {K : PySem.W.Frag} {mg : Str → Option Value} {base : Heap} 
variable {X : Cx} {pos : Pos}
theorem be_c_MOST_SIZE (Z : Wr X.K X.mg) (hg : Gl X "MOST_SIZE" := by rfl) : BE X (.Name "MOST_SIZE" pos) (mC (.int 4)) := Z.c_MOST_SIZE.elim fun _ h => be_glI _ h hg
theorem be_c_MOST_WIDE (Z : Wr X.K X.mg) (hg : Gl X "MOST_WIDE" := by rfl) : BE X (.Name "MOST_WIDE" pos) (mC (.int 4)) := Z.c_MOST_WIDE.elim fun _ h => be_glI _ h hg
theorem be_c_MOST_LENGTH (Z : Wr X.K X.mg) (hg : Gl X "MOST_LENGTH" := by rfl) : BE X (.Name "MOST_LENGTH" pos) (mC (.int 400)) := Z.c_MOST_LENGTH.elim fun _ h => be_glI _ h hg
variable (Z : Wr K mg)
include Z
theorem ox_NoRule : OkXI P w K mg base "NoRule" "what" :=
  okXI_of (tm := "no rule") Z.x_NoRule ⟨rfl, rfl, rfl, by decide +kernel, rfl, by decide +kernel, by decide +kernel⟩ fun fI cdv A outer s H E => pss_cons (ps_expr (pe_reinit Z.re (pa_cons (pv 0) (pa_cons pe_str pa_nil)))) (pss_one (ps_ost (pv 0) (pv 1)))
theorem ok_L_cell_at : Ok P w K mg base 1 "_law_cell_at" q_L_cell_at [false, false] r_L_cell_at :=
  ok_of (N := N_L_cell_at) (m := m_L_cell_at) [false, false] Z.k_L_cell_at sc_L_cell_at rfl fun f cdv A outer s H E hr =>
  bs_cons (bs_if (bt_cmp (od_ltX hr) (bp_var (i := 1)) (bp_of (be_callB cd_len (by rfl) Z.bl.len B.boot_len (ba_cons (bp_var (i := 0)) (ba_nil))))) (bs_one (bs_ret (be_ix (bp_var (i := 0)) (bp_var (i := 1))))) (bs_nil))
  (bs_one (bs_ret (be_int)))
theorem ok_P_is_from : Ok P w K mg base 1 "is_from" q_P_is_from [false, false, false] r_P_is_from :=
  ok_of (N := N_P_is_from) (m := m_P_is_from) [false, false, false] Z.k_P_is_from sc_P_is_from rfl fun f cdv A outer s H E hr =>
  bs_one (bs_ret (be_and (be_isi "int" (by rfl) Z.bl.isinstance (by rfl) Z.bl.int B.boot_int (bp_var (i := 0))) (be_and (be_not (be_isi "bool" (by rfl) Z.bl.isinstance (by rfl) Z.bl.bool B.boot_bool (bp_var (i := 0)))) (be_one (be_chain od_le od_le (bp_var (i := 1)) (bp_var (i := 0)) (bp_var (i := 2)))))))
theorem ok_P_is_word : Ok P w K mg base 2 "is_word" q_P_is_word [false, false, false] r_P_is_word :=
  ok_of (N := N_P_is_word) (m := m_P_is_word) [false, false, false] Z.k_P_is_word sc_P_is_word rfl fun f cdv A outer s H E hr =>
  bs_cons (bs_if (bt_w (bw_or (bt_not (bt_tru (bp_of (be_isi "tuple" (by rfl) Z.bl.isinstance (by rfl) Z.bl.tuple B.boot_tuple (bp_var (i := 0)))))) (bw_or1 (bt_cmp (od_ne hr) (bp_of (be_callB cd_len (by rfl) Z.bl.len B.boot_len (ba_cons (bp_var (i := 0)) (ba_nil)))) (bp_var (i := 2)))))) (bs_one (bs_ret (be_bl))) (bs_nil))
  (bs_one (bs_ret (be_callB (cd_all rfl) (by rfl) Z.bl.all B.boot_all (ba_cons (bp_of (be_comp rfl sc_P_is_word.nd (bi_seq (be_var (i := 0))) rfl (blkOk_by (N := N_P_is_word) (sc := defScope st_P_is_word) (own := [("letter", 3)]) (by decide +kernel)) (fun _ _ _ _ _ => bg_name (i := 3) sc_P_is_word.nd rfl (by first | exact Or.inl rfl | exact Or.inr rfl)) (fun _ _ _ _ _ => bts_nil) (fun _ _ _ _ _ => be_c (ok_P_is_from Z) hr (by decide) (ba_cons (bp_of (be_var (i := 3))) (ba_cons (bp_of (be_int)) (ba_cons (bp_of (be_op od_sub (bp_var (i := 1)) (bp_of (be_int)))) (ba_nil))))))) (ba_nil)))))
theorem ok_P_are_words : Ok P w K mg base 3 "are_words" q_P_are_words [false, false, false] r_P_are_words :=
  ok_of (N := N_P_are_words) (m := m_P_are_words) [false, false, false] Z.k_P_are_words sc_P_are_words rfl fun f cdv A outer s H E hr =>
  bs_cons (bs_if (bt_w (bw_or (bt_not (bt_tru (bp_of (be_isi "list" (by rfl) Z.bl.isinstance (by rfl) Z.bl.list B.boot_list (bp_var (i := 0)))))) (bw_or1 (bt_not (bt_tru (bp_of (be_callB (cd_all rfl) (by rfl) Z.bl.all B.boot_all (ba_cons (bp_of (be_comp rfl sc_P_are_words.nd (bi_seq (be_var (i := 0))) rfl (blkOk_by (N := N_P_are_words) (sc := defScope st_P_are_words) (own := [("word", 3)]) (by decide +kernel)) (fun _ _ _ _ _ => bg_name (i := 3) sc_P_are_words.nd rfl (by first | exact Or.inl rfl | exact Or.inr rfl)) (fun _ _ _ _ _ => bts_nil) (fun _ _ _ _ _ => be_c (ok_P_is_word Z) hr (by decide) (ba_cons (bp_of (be_var (i := 3))) (ba_cons (bp_of (be_var (i := 1))) (ba_cons (bp_of (be_var (i := 2))) (ba_nil))))))) (ba_nil))))))))) (bs_one (bs_ret (be_bl))) (bs_nil))
  (bs_one (bs_ret (be_cmp (od_eq hr) (bp_var (i := 0)) (bp_of (be_sortSet (by rfl) Z.bl.sorted (by rfl) Z.bl.set rfl hr.u64 (bp_var (i := 0)))))))
theorem ok_P_Rule_init : OkI P w K mg base 4 "Rule" q_P_Rule_init [true, false, false, false] r_P_Rule_init :=
  okI_of (N := N_P_Rule_init) (mf := m_P_Rule_init) [true, false, false, false] Z.c_Rule sc_P_Rule_init rfl fun f cdv A outer s H E hr =>
  bs_cons (bs_if (bt_not (bt_tru (bp_of (be_c (ok_P_is_from Z) hr (by decide) (ba_cons (bp_of (be_var (i := 1))) (ba_cons (bp_of (be_int)) (ba_cons (bp_of ((be_c_MOST_SIZE Z))) (ba_nil)))))))) (bs_one (bs_raiseI (k := 0) (ox_NoRule Z) (hr.mono (by decide)) rfl (bp_of (be_str)))) (bs_nil))
  (bs_cons (bs_if (bt_not (bt_tru (bp_of (be_c (ok_P_is_from Z) hr (by decide) (ba_cons (bp_of (be_var (i := 2))) (ba_cons (bp_of (be_int)) (ba_cons (bp_of ((be_c_MOST_WIDE Z))) (ba_nil)))))))) (bs_one (bs_raiseI (k := 0) (ox_NoRule Z) (hr.mono (by decide)) rfl (bp_of (be_str)))) (bs_nil))
  (bs_cons (bs_if (bt_not (bt_tru (bp_of (be_c (ok_P_are_words Z) hr (by decide) (ba_cons (bp_of (be_var (i := 3))) (ba_cons (bp_of (be_var (i := 1))) (ba_cons (bp_of (be_var (i := 2))) (ba_nil)))))))) (bs_one (bs_raiseI (k := 0) (ox_NoRule Z) (hr.mono (by decide)) rfl (bp_of (be_str)))) (bs_nil))
  (bs_cons (bs_fld (i := 0) "Rule" (Z.c_Rule.fld (.head _)) rfl (by first | exact Or.inl rfl | exact Or.inr (Or.inl rfl) | exact Or.inr (Or.inr rfl)) (be_var (i := 1)))
  (bs_cons (bs_fld (i := 0) "Rule" (Z.c_Rule.fld (.tail _ (.head _))) rfl (by first | exact Or.inl rfl | exact Or.inr (Or.inl rfl) | exact Or.inr (Or.inr rfl)) (be_var (i := 2)))
  (bs_one (bs_fld (i := 0) "Rule" (Z.c_Rule.fld (.tail _ (.tail _ (.head _)))) rfl (by first | exact Or.inl rfl | exact Or.inr (Or.inl rfl) | exact Or.inr (Or.inr rfl)) (be_callTy cd_list (by rfl) Z.bl.list B.boot_list (ba_cons (bp_var (i := 3)) (ba_nil)))))))))
theorem ok_L_is_prime : Ok P w K mg base 1 "_law_is_prime" q_L_is_prime [false] r_L_is_prime :=
  ok_of (N := N_L_is_prime) (m := m_L_is_prime) [false] Z.k_L_is_prime sc_L_is_prime rfl fun f cdv A outer s H E hr =>
  bs_one (bs_ret (be_and (be_cmp (od_gtX hr) (bp_var (i := 0)) (bp_of (be_int))) (be_one (be_cmp (od_eq hr) (bp_of (be_comp rfl sc_L_is_prime.nd (bi_range2 Z.bl.range (ba_cons (bp_of (be_int)) (ba_cons (bp_var (i := 0)) (ba_nil)))) rfl (blkOk_by (N := N_L_is_prime) (sc := defScope st_L_is_prime) (own := [("_law_k", 1)]) (by decide +kernel)) (fun _ _ _ _ _ => bg_name (i := 1) sc_L_is_prime.nd rfl (by first | exact Or.inl rfl | exact Or.inr rfl)) (fun _ _ _ _ _ => bts_one (bt_cmp (od_eq hr) (bp_of (be_op od_mod (bp_var (i := 0)) (bp_var (i := 1)))) (bp_of (be_int)))) (fun _ _ _ _ _ => be_var (i := 1)))) (bp_of (be_lst (ba_nil)))))))
theorem ok_L_draw : Ok P w K mg base 1 "_law_draw" q_L_draw [true, false] r_L_draw :=
  ok_of (N := N_L_draw) (m := m_L_draw) [true, false] Z.k_L_draw sc_L_draw rfl fun f cdv A outer s H E hr =>
  bs_cons (bs_if (bt_cmp (od_gtX hr) (bp_of (be_ix (bp_var (i := 0)) (bp_of (be_int)))) (bp_of (be_int))) (bs_cons (bs_set (i := 3) sc_L_draw.nd rfl (by first | exact Or.inl rfl | exact Or.inr rfl) (be_op od_mod (bp_of (be_ix (bp_var (i := 0)) (bp_of (be_int)))) (bp_var (i := 1))))
  (bs_cons (bs_setIx (i := 0) rfl (by first | exact Or.inl rfl | exact Or.inr (Or.inl rfl) | exact Or.inr (Or.inr rfl)) (be_op od_fdiv (bp_of (be_ix (bp_var (i := 0)) (bp_of (be_int)))) (bp_var (i := 1))) (be_int))
  (bs_one (bs_retVar (i := 3))))) (bs_nil))
  (bs_cons (bs_setIx (i := 0) rfl (by first | exact Or.inl rfl | exact Or.inr (Or.inl rfl) | exact Or.inr (Or.inr rfl)) (be_op opd_add (bp_of (be_ix (bp_var (i := 0)) (bp_of (be_int)))) (bp_of (be_int))) (be_int))
  (bs_cons (bs_set (i := 2) sc_L_draw.nd rfl (by first | exact Or.inl rfl | exact Or.inr rfl) (be_op od_mod (bp_of (be_op opd_mul (bp_of (be_op opd_add (bp_of (be_op opd_add (bp_of (be_ix (bp_var (i := 0)) (bp_of (be_int)))) (bp_of (be_op opd_mul (bp_of (be_int)) (bp_of (be_ix (bp_var (i := 0)) (bp_of (be_int)))))))) (bp_of (be_int)))) (bp_of (be_int)))) (bp_of (be_int))))
  (bs_cons (bs_set (i := 2) sc_L_draw.nd rfl (by first | exact Or.inl rfl | exact Or.inr rfl) (be_op od_mod (bp_of (be_op opd_mul (bp_var (i := 2)) (bp_of (be_op opd_add (bp_of (be_op opd_add (bp_of (be_op od_fdiv (bp_var (i := 2)) (bp_of (be_int)))) (bp_of (be_int)))) (bp_of (be_ix (bp_var (i := 0)) (bp_of (be_int)))))))) (bp_of (be_int))))
  (bs_one (bs_ret (be_op od_mod (bp_of (be_op od_fdiv (bp_of (be_op od_mod (bp_of (be_op opd_mul (bp_var (i := 2)) (bp_of (be_op opd_add (bp_of (be_op od_fdiv (bp_var (i := 2)) (bp_of (be_int)))) (bp_of (be_int)))))) (bp_of (be_int)))) (bp_of (be_int)))) (bp_var (i := 1))))))))
theorem ok_P_points : Ok P w K mg base 1 "points" q_P_points [false] r_P_points :=
  ok_of (N := N_P_points) (m := m_P_points) [false] Z.k_P_points sc_P_points rfl fun f cdv A outer s H E hr =>
  bs_one (bs_ret (be_pts (by rfl) Z.bl.sorted rfl hr.u64 (bset_comp rfl sc_P_points.nd hr.u64 (bi_seq (be_fld "Rule" (Z.c_Rule.fld (.tail _ (.tail _ (.head _)))) (bp_var (i := 0)))) rfl (blkOk_by (N := N_P_points) (sc := defScope st_P_points) (own := [("word", 1)]) (by decide +kernel)) (fun _ _ _ _ _ => bg_name (i := 1) sc_P_points.nd rfl (by first | exact Or.inl rfl | exact Or.inr rfl)) (fun _ _ _ _ _ => bts_nil) (fun _ _ _ _ _ => be_slice (bp_var (i := 1)) (bo_none) (bo_some (be_un und_neg (bp_of (be_int)))))) (bset_comp rfl sc_P_points.nd hr.u64 (bi_seq (be_fld "Rule" (Z.c_Rule.fld (.tail _ (.tail _ (.head _)))) (bp_var (i := 0)))) rfl (blkOk_by (N := N_P_points) (sc := defScope st_P_points) (own := [("word", 1)]) (by decide +kernel)) (fun _ _ _ _ _ => bg_name (i := 1) sc_P_points.nd rfl (by first | exact Or.inl rfl | exact Or.inr rfl)) (fun _ _ _ _ _ => bts_nil) (fun _ _ _ _ _ => be_slice (bp_var (i := 1)) (bo_some (be_int)) (bo_none)))))
theorem ok_P_ties : Ok P w K mg base 2 "ties" q_P_ties [false] r_P_ties :=
  ok_of (N := N_P_ties) (m := m_P_ties) [false] Z.k_P_ties sc_P_ties rfl fun f cdv A outer s H E hr =>
  bss_blkK (i := 1) (skd_comp (i := 1) rfl sc_P_ties.nd rfl rfl (sw_trueD rfl rfl rfl (by decide +kernel)) hr.u64 (bi_seq (be_c (ok_P_points Z) hr (by decide) (ba_cons (bp_of (be_var (i := 0))) (ba_nil)))) rfl (blkOk_by (N := N_P_ties) (sc := defScope st_P_ties) (own := [("point", 3)]) (by decide +kernel)) (fun _ _ _ _ _ => bg_name (i := 3) sc_P_ties.nd rfl (by first | exact Or.inl rfl | exact Or.inr rfl)) (fun _ _ _ _ _ => bts_nil) (fun _ _ _ _ _ => be_var (i := 3))) (ks_for (passes_of rfl) rfl (bi_seq (be_fld "Rule" (Z.c_Rule.fld (.tail _ (.tail _ (.head _)))) (bp_var (i := 0)))) (bg_name (i := 2) sc_P_ties.nd rfl (by first | exact Or.inl rfl | exact Or.inr rfl)) (ks_one (ks_app (i := 1) hr.u64 (be_slice (bp_var (i := 2)) (bo_none) (bo_some (be_un und_neg (bp_of (be_int))))) (be_slice (bp_var (i := 2)) (bo_some (be_int)) (bo_none)) PySem.F.plainAttrs_list PySem.F.slot_list_append PySem.F.type_list_append rfl (by first | exact Or.inl rfl | exact Or.inr (Or.inl rfl) | exact Or.inr (Or.inr rfl)))) (by decide))
  (bs_one (bs_retVar (i := 1)))
theorem ok_P_walks_to : Ok P w K mg base 1 "walks_to" q_P_walks_to [false, false, false] r_P_walks_to :=
  ok_of (N := N_P_walks_to) (m := m_P_walks_to) [false, false, false] Z.k_P_walks_to sc_P_walks_to rfl fun f cdv A outer s H E hr =>
  bs_cons (bs_set (i := 3) sc_P_walks_to.nd rfl (by first | exact Or.inl rfl | exact Or.inr rfl) (be_lst (ba_cons (bp_of (be_dcomp rfl sc_P_walks_to.nd hr.u64 (bi_keys (be_var (i := 0))) rfl (blkOk_by (N := N_P_walks_to) (sc := defScope st_P_walks_to) (own := [("point", 6)]) (by decide +kernel)) (fun _ _ _ _ _ => bg_name (i := 6) sc_P_walks_to.nd rfl (by first | exact Or.inl rfl | exact Or.inr rfl)) (fun _ _ _ _ _ => bts_nil) (fun _ _ _ _ _ => be_var (i := 6)) (fun _ _ _ _ _ => be_callTy cd_int (by rfl) Z.bl.int B.boot_int (ba_cons (bp_of (be_cmp (od_eq hr) (bp_var (i := 6)) (bp_var (i := 1)))) (ba_nil))))) (ba_nil))))
  (bs_cons (bs_for (passes_of rfl) rfl (bi_range1 Z.bl.range (ba_cons (bp_var (i := 2)) (ba_nil))) (bg_name (i := 4) sc_P_walks_to.nd rfl (by first | exact Or.inl rfl | exact Or.inr rfl)) (bs_cons (bs_set (i := 5) sc_P_walks_to.nd rfl (by first | exact Or.inl rfl | exact Or.inr rfl) (be_ix (bp_var (i := 3)) (bp_of (be_un und_neg (bp_of (be_int))))))
  (bs_one (bs_expr (be_mut (i := 3) PySem.F.plainAttrs_list PySem.F.slot_list_append PySem.F.type_list_append mu_append rfl (by first | exact Or.inl rfl | exact Or.inr (Or.inl rfl) | exact Or.inr (Or.inr rfl)) (ba_cons (bp_of (be_dcomp rfl sc_P_walks_to.nd hr.u64 (bi_keys (be_var (i := 0))) rfl (blkOk_by (N := N_P_walks_to) (sc := defScope st_P_walks_to) (own := [("point", 6)]) (by decide +kernel)) (fun _ _ _ _ _ => bg_name (i := 6) sc_P_walks_to.nd rfl (by first | exact Or.inl rfl | exact Or.inr rfl)) (fun _ _ _ _ _ => bts_nil) (fun _ _ _ _ _ => be_var (i := 6)) (fun _ _ _ _ _ => be_callB (cd_sum rfl) (by rfl) Z.bl.sum B.boot_sum (ba_cons (bp_of (be_comp rfl sc_P_walks_to.nd (bi_seq (be_ixA hr.u64 (bp_var (i := 0)) (bp_var (i := 6)))) rfl (blkOk_in (N := N_P_walks_to) (own := [("other", 7)]) (by decide +kernel)) (fun _ _ _ _ _ => bg_name (i := 7) sc_P_walks_to.nd rfl (by first | exact Or.inl rfl | exact Or.inr rfl)) (fun _ _ _ _ _ => bts_nil) (fun _ _ _ _ _ => be_ixA hr.u64 (bp_var (i := 5)) (bp_var (i := 7))))) (ba_nil))))) (ba_nil)))))))
  (bs_one (bs_retVar (i := 3))))
theorem ok_P_closed_numbers : Ok P w K mg base 3 "closed_numbers" q_P_closed_numbers [false, false] r_P_closed_numbers :=
  ok_of (N := N_P_closed_numbers) (m := m_P_closed_numbers) [false, false] Z.k_P_closed_numbers sc_P_closed_numbers rfl fun f cdv A outer s H E hr =>
  bs_cons (bs_set (i := 2) sc_P_closed_numbers.nd rfl (by first | exact Or.inl rfl | exact Or.inr rfl) (be_c (ok_P_ties Z) hr (by decide) (ba_cons (bp_of (be_var (i := 0))) (ba_nil))))
  (bs_cons (bs_set (i := 3) sc_P_closed_numbers.nd rfl (by first | exact Or.inl rfl | exact Or.inr rfl) (be_op opd_mul (bp_of (be_lst (ba_cons (bp_of (be_int)) (ba_nil)))) (bp_of (be_op opd_add (bp_var (i := 1)) (bp_of (be_int))))))
  (bs_cons (bs_for (passes_of rfl) rfl (bi_keys (be_var (i := 2))) (bg_name (i := 4) sc_P_closed_numbers.nd rfl (by first | exact Or.inl rfl | exact Or.inr rfl)) (bs_one (bs_for (passes_of rfl) rfl (bi_enum (by rfl) Z.bl.enumerate (ba_cons (bp_of (be_c (ok_P_walks_to Z) hr (by decide) (ba_cons (bp_of (be_var (i := 2))) (ba_cons (bp_of (be_var (i := 4))) (ba_cons (bp_of (be_var (i := 1))) (ba_nil)))))) (ba_nil))) (bg_tup rfl (bgs_cons (bg_name (i := 5) sc_P_closed_numbers.nd rfl (by first | exact Or.inl rfl | exact Or.inr rfl)) (bgs_cons (bg_name (i := 6) sc_P_closed_numbers.nd rfl (by first | exact Or.inl rfl | exact Or.inr rfl)) (bgs_nil)))) (bs_one (bs_augIx (i := 3) ip_add rfl (by first | exact Or.inl rfl | exact Or.inr (Or.inl rfl) | exact Or.inr (Or.inr rfl)) (be_var (i := 5)) (be_ixA hr.u64 (bp_var (i := 6)) (bp_var (i := 4))))))))
  (bs_one (bs_retVar (i := 3)))))
theorem ok_P_divisor : Ok P w K mg base 1 "divisor" q_P_divisor [false, false] r_P_divisor :=
  ok_of (N := N_P_divisor) (m := m_P_divisor) [false, false] Z.k_P_divisor sc_P_divisor rfl fun f cdv A outer s H E hr =>
  bs_cons (bs_while (passes_of rfl) (bt_cmp (od_gtX hr) (bp_var (i := 1)) (bp_of (be_int))) (bs_one (bs_par (i := 0) (j := 1) rfl sc_P_divisor.nd rfl rfl (by decide) rfl rfl (ba_cons (bp_of (be_var (i := 1))) (ba_cons (bp_of (be_op od_mod (bp_var (i := 0)) (bp_var (i := 1)))) (ba_nil))))))
  (bs_one (bs_ret (be_var (i := 0))))
theorem ok_P_many : OkD P w K mg base 4 "many" q_P_many [false, false, false] r_P_many [.bl true] [(2, ["turns"], [0, 1, 2])] :=
  okD_of (N := N_P_many) (m := m_P_many) [false, false, false] Z.k_P_many sc_P_many rfl fun f cdv A outer s H E hr =>
  bs_cons (bs_if (bt_not (bt_tru (bp_of (be_c (ok_P_is_from Z) hr (by decide) (ba_cons (bp_of (be_var (i := 1))) (ba_cons (bp_of (be_int)) (ba_cons (bp_of ((be_c_MOST_LENGTH Z))) (ba_nil)))))))) (bs_one (bs_raise0 Z.x_NoLength rfl)) (bs_nil))
  (bs_cons (bs_if (bt_not (bt_tru (bp_of (be_isi "bool" (by rfl) Z.bl.isinstance (by rfl) Z.bl.bool B.boot_bool (bp_var (i := 2)))))) (bs_one (bs_raise0 Z.x_NoTurns rfl)) (bs_nil))
  (bs_cons (bs_set (i := 3) sc_P_many.nd rfl (by first | exact Or.inl rfl | exact Or.inr rfl) (be_c (ok_P_closed_numbers Z) hr (by decide) (ba_cons (bp_of (be_var (i := 0))) (ba_cons (bp_of (be_var (i := 1))) (ba_nil)))))
  (bs_cons (bs_if (bt_tru (bp_var (i := 2))) (bs_one (bs_ret (be_ixA hr.u64 (bp_var (i := 3)) (bp_var (i := 1))))) (bs_nil))
  (bs_one (bs_ret (be_op od_fdiv (bp_of (be_callB (cd_sum rfl) (by rfl) Z.bl.sum B.boot_sum (ba_cons (bp_of (be_comp rfl sc_P_many.nd (bi_range2 Z.bl.range (ba_cons (bp_of (be_int)) (ba_cons (bp_of (be_op opd_add (bp_var (i := 1)) (bp_of (be_int)))) (ba_nil)))) rfl (blkOk_by (N := N_P_many) (sc := defScope st_P_many) (own := [("turn", 4)]) (by decide +kernel)) (fun _ _ _ _ _ => bg_name (i := 4) sc_P_many.nd rfl (by first | exact Or.inl rfl | exact Or.inr rfl)) (fun _ _ _ _ _ => bts_nil) (fun _ _ _ _ _ => be_ixA hr.u64 (bp_var (i := 3)) (bp_of (be_c (ok_P_divisor Z) hr (by decide) (ba_cons (bp_of (be_var (i := 1))) (ba_cons (bp_of (be_var (i := 4))) (ba_nil)))))))) (ba_nil)))) (bp_var (i := 1))))))))
theorem ok_L_one : Ok P w K mg base 2 "_law_one" q_L_one [true, false] r_L_one :=
  ok_of (N := N_L_one) (m := m_L_one) [true, false] Z.k_L_one sc_L_one rfl fun f cdv A outer s H E hr =>
  bs_one (bs_ret (be_ix (bp_var (i := 1)) (bp_of (be_c (ok_L_draw Z) hr (by decide) (ba_cons (bp_var (i := 0)) (ba_cons (bp_of (be_callB cd_len (by rfl) Z.bl.len B.boot_len (ba_cons (bp_var (i := 1)) (ba_nil)))) (ba_nil)))))))
theorem ok_L_power : Ok P w K mg base 1 "_law_power" q_L_power [false, false] r_L_power :=
  ok_of (N := N_L_power) (m := m_L_power) [false, false] Z.k_L_power sc_L_power rfl fun f cdv A outer s H E hr =>
  bs_cons (bs_set (i := 2) sc_L_power.nd rfl (by first | exact Or.inl rfl | exact Or.inr rfl) (be_int))
  (bs_cons (bs_for (passes_of rfl) rfl (bi_range1 Z.bl.range (ba_cons (bp_var (i := 1)) (ba_nil))) (bg_name (i := 3) sc_L_power.nd rfl (by first | exact Or.inl rfl | exact Or.inr rfl)) (bs_one (bs_set (i := 2) sc_L_power.nd rfl (by first | exact Or.inl rfl | exact Or.inr rfl) (be_op opd_mul (bp_var (i := 2)) (bp_var (i := 0))))))
  (bs_one (bs_retVar (i := 2))))
theorem ok_P_colours : Ok P w K mg base 6 "colours" q_P_colours [false] r_P_colours :=
  ok_of (N := N_P_colours) (m := m_P_colours) [false] Z.k_P_colours sc_P_colours rfl fun f cdv A outer s H E hr =>
  bs_cons (bs_if (bt_not (bt_tru (bp_of (be_c (ok_P_is_from Z) hr (by decide) (ba_cons (bp_of (be_var (i := 0))) (ba_cons (bp_of (be_int)) (ba_cons (bp_of ((be_c_MOST_SIZE Z))) (ba_nil)))))))) (bs_one (bs_raiseI (k := 0) (ox_NoRule Z) (hr.mono (by decide)) rfl (bp_of (be_str)))) (bs_nil))
  (bs_one (bs_ret (be_mk 3 (ok_P_Rule_init Z) hr (by decide) (ba_cons (bp_of (be_var (i := 0))) (ba_cons (bp_of (be_int)) (ba_cons (bp_of (be_comp2 rfl sc_P_colours.nd (bi_range1 Z.bl.range (ba_cons (bp_var (i := 0)) (ba_nil))) rfl (by decide) (blkOk_by (N := N_P_colours) (sc := defScope st_P_colours) (own := [("a", 1), ("b", 2)]) (by decide +kernel)) (fun _ _ _ _ _ => bg_sub (bg_name (i := 1) sc_P_colours.nd rfl (by first | exact Or.inl rfl | exact Or.inr rfl)) (by decide)) (fun _ _ _ _ _ => bts_nil) (fun _ _ _ _ _ => bi_range1 Z.bl.range (ba_cons (bp_var (i := 0)) (ba_nil))) (fun _ _ _ _ _ => bg_name (i := 2) sc_P_colours.nd rfl (by first | exact Or.inl rfl | exact Or.inr rfl)) (fun _ _ _ _ _ => bts_one (bt_cmp (od_ne hr) (bp_var (i := 1)) (bp_var (i := 2)))) (fun _ _ _ _ _ => be_tup (ba_cons (bp_of (be_var (i := 1))) (ba_cons (bp_of (be_var (i := 2))) (ba_nil)))))) (ba_nil)))))))
theorem ok_L_colours_right : Ok P w K mg base 7 "_law_colours_right" q_L_colours_right [false, false] r_L_colours_right :=
  ok_of (N := N_L_colours_right) (m := m_L_colours_right) [false, false] Z.k_L_colours_right sc_L_colours_right rfl fun f cdv A outer s H E hr =>
  bs_cons (bs_set (i := 2) sc_L_colours_right.nd rfl (by first | exact Or.inl rfl | exact Or.inr rfl) (be_op opd_add (bp_of (be_c (ok_L_power Z) hr (by decide) (ba_cons (bp_of (be_op od_sub (bp_var (i := 0)) (bp_of (be_int)))) (ba_cons (bp_of (be_var (i := 1))) (ba_nil))))) (bp_of (be_op opd_mul (bp_of (be_op od_sub (bp_var (i := 0)) (bp_of (be_int)))) (bp_of (be_ix (bp_of (be_lst (ba_cons (bp_of (be_int)) (ba_cons (bp_of (be_un und_neg (bp_of (be_int)))) (ba_nil))))) (bp_of (be_op od_mod (bp_var (i := 1)) (bp_of (be_int))))))))))
  (bs_one (bs_ret (be_cmp (od_eq hr) (bp_of (be_d (ok_P_many Z) hr (by decide) (ba_cons (bp_of (be_c (ok_P_colours Z) hr (by decide) (ba_cons (bp_of (be_var (i := 0))) (ba_nil)))) (ba_cons (bp_var (i := 1)) (ba_nil))))) (bp_var (i := 2)))))
theorem ok_P_spread : Ok P w K mg base 6 "spread" q_P_spread [] r_P_spread :=
  ok_of (N := N_P_spread) (m := m_P_spread) [] Z.k_P_spread sc_P_spread rfl fun f cdv A outer s H E hr =>
  bs_one (bs_ret (be_mk 3 (ok_P_Rule_init Z) hr (by decide) (ba_cons (bp_of (be_int)) (ba_cons (bp_of (be_int)) (ba_cons (bp_of (be_lst (ba_cons (bp_of (be_tup (ba_cons (bp_of (be_int)) (ba_cons (bp_of (be_int)) (ba_cons (bp_of (be_int)) (ba_nil)))))) (ba_cons (bp_of (be_tup (ba_cons (bp_of (be_int)) (ba_cons (bp_of (be_int)) (ba_cons (bp_of (be_int)) (ba_nil)))))) (ba_cons (bp_of (be_tup (ba_cons (bp_of (be_int)) (ba_cons (bp_of (be_int)) (ba_cons (bp_of (be_int)) (ba_nil)))))) (ba_cons (bp_of (be_tup (ba_cons (bp_of (be_int)) (ba_cons (bp_of (be_int)) (ba_cons (bp_of (be_int)) (ba_nil)))))) (ba_nil))))))) (ba_nil))))))
theorem ok_L_spread_right : Ok P w K mg base 7 "_law_spread_right" q_L_spread_right [false] r_L_spread_right :=
  ok_of (N := N_L_spread_right) (m := m_L_spread_right) [false] Z.k_L_spread_right sc_L_spread_right rfl fun f cdv A outer s H E hr =>
  bs_cons (bs_set (i := 1) sc_L_spread_right.nd rfl (by first | exact Or.inl rfl | exact Or.inr rfl) (be_lst (ba_cons (bp_of (be_int)) (ba_cons (bp_of (be_int)) (ba_cons (bp_of (be_int)) (ba_nil))))))
  (bs_cons (bs_while (passes_of rfl) (bt_cmp od_le (bp_of (be_callB cd_len (by rfl) Z.bl.len B.boot_len (ba_cons (bp_var (i := 1)) (ba_nil)))) (bp_var (i := 0))) (bs_one (bs_expr (be_mut (i := 1) PySem.F.plainAttrs_list PySem.F.slot_list_append PySem.F.type_list_append mu_append rfl (by first | exact Or.inl rfl | exact Or.inr (Or.inl rfl) | exact Or.inr (Or.inr rfl)) (ba_cons (bp_of (be_op opd_add (bp_of (be_ix (bp_var (i := 1)) (bp_of (be_un und_neg (bp_of (be_int)))))) (bp_of (be_ix (bp_var (i := 1)) (bp_of (be_un und_neg (bp_of (be_int)))))))) (ba_nil))))))
  (bs_one (bs_ret (be_cmp (od_eq hr) (bp_of (be_d (ok_P_many Z) hr (by decide) (ba_cons (bp_of (be_c0 (ok_P_spread Z) hr (by decide))) (ba_cons (bp_var (i := 0)) (ba_nil))))) (bp_of (be_ix (bp_var (i := 1)) (bp_var (i := 0))))))))
theorem ok_L_lists : Ok P w K mg base 1 "_law_lists" q_L_lists [false, false] r_L_lists :=
  ok_of (N := N_L_lists) (m := m_L_lists) [false, false] Z.k_L_lists sc_L_lists rfl fun f cdv A outer s H E hr =>
  bs_cons (bs_set (i := 2) sc_L_lists.nd rfl (by first | exact Or.inl rfl | exact Or.inr rfl) (be_lst (ba_cons (bp_of (be_lst (ba_nil))) (ba_nil))))
  (bs_cons (bs_for (passes_of rfl) rfl (bi_range1 Z.bl.range (ba_cons (bp_var (i := 1)) (ba_nil))) (bg_name (i := 3) sc_L_lists.nd rfl (by first | exact Or.inl rfl | exact Or.inr rfl)) (bs_cons (bs_set (i := 4) sc_L_lists.nd rfl (by first | exact Or.inl rfl | exact Or.inr rfl) (be_lst (ba_nil)))
  (bs_cons (bs_for (passes_of rfl) rfl (bi_seq (be_var (i := 2))) (bg_name (i := 5) sc_L_lists.nd rfl (by first | exact Or.inl rfl | exact Or.inr rfl)) (bs_one (bs_set (i := 4) sc_L_lists.nd rfl (by first | exact Or.inl rfl | exact Or.inr rfl) (be_op opd_add (bp_var (i := 4)) (bp_of (be_comp rfl sc_L_lists.nd (bi_range1 Z.bl.range (ba_cons (bp_var (i := 0)) (ba_nil))) rfl (blkOk_by (N := N_L_lists) (sc := defScope st_L_lists) (own := [("_law_sign", 6)]) (by decide +kernel)) (fun _ _ _ _ _ => bg_name (i := 6) sc_L_lists.nd rfl (by first | exact Or.inl rfl | exact Or.inr rfl)) (fun _ _ _ _ _ => bts_nil) (fun _ _ _ _ _ => be_op opd_add (bp_var (i := 5)) (bp_of (be_lst (ba_cons (bp_of (be_var (i := 6))) (ba_nil)))))))))))
  (bs_one (bs_set (i := 2) sc_L_lists.nd rfl (by first | exact Or.inl rfl | exact Or.inr rfl) (be_mv (i := 4)))))))
  (bs_one (bs_retVar (i := 2))))
theorem ok_L_right : Ok P w K mg base 8 "_law_right" q_L_right [true] r_L_right :=
  ok_of (N := N_L_right) (m := m_L_right) [true] Z.k_L_right sc_L_right rfl fun f cdv A outer s H E hr =>
  bs_cons (bs_set (i := 1) sc_L_right.nd rfl (by first | exact Or.inl rfl | exact Or.inr rfl) (be_op opd_add (bp_of (be_int)) (bp_of (be_c (ok_L_draw Z) hr (by decide) (ba_cons (bp_var (i := 0)) (ba_cons (bp_of (be_c (ok_L_one Z) hr (by decide) (ba_cons (bp_var (i := 0)) (ba_cons (bp_of (be_lst (ba_cons (bp_of (be_int)) (ba_cons (bp_of (be_int)) (ba_cons (bp_of (be_int)) (ba_nil)))))) (ba_nil))))) (ba_nil)))))))
  (bs_cons (bs_if (bt_w (bw_or (bt_not (bt_tru (bp_of (be_c (ok_L_colours_right Z) hr (by decide) (ba_cons (bp_of (be_op opd_add (bp_of (be_int)) (bp_of (be_c (ok_L_draw Z) hr (by decide) (ba_cons (bp_var (i := 0)) (ba_cons (bp_of (be_int)) (ba_nil))))))) (ba_cons (bp_of (be_var (i := 1))) (ba_nil))))))) (bw_or1 (bt_not (bt_tru (bp_of (be_c (ok_L_spread_right Z) hr (by decide) (ba_cons (bp_of (be_var (i := 1))) (ba_nil))))))))) (bs_one (bs_ret (be_bl))) (bs_nil))
  (bs_cons (bs_set (i := 2) sc_L_right.nd rfl (by first | exact Or.inl rfl | exact Or.inr rfl) (be_op opd_add (bp_of (be_int)) (bp_of (be_c (ok_L_draw Z) hr (by decide) (ba_cons (bp_var (i := 0)) (ba_cons (bp_of (be_int)) (ba_nil)))))))
  (bs_cons (bs_set (i := 3) sc_L_right.nd rfl (by first | exact Or.inl rfl | exact Or.inr rfl) (be_op opd_add (bp_of (be_int)) (bp_of (be_c (ok_L_draw Z) hr (by decide) (ba_cons (bp_var (i := 0)) (ba_cons (bp_of (be_int)) (ba_nil)))))))
  (bs_cons (bs_set (i := 4) sc_L_right.nd rfl (by first | exact Or.inl rfl | exact Or.inr rfl) (be_mk 3 (ok_P_Rule_init Z) hr (by decide) (ba_cons (bp_of (be_var (i := 2))) (ba_cons (bp_of (be_var (i := 3))) (ba_cons (bp_of (be_comp rfl sc_L_right.nd (bi_seq (be_c (ok_L_lists Z) hr (by decide) (ba_cons (bp_of (be_var (i := 2))) (ba_cons (bp_of (be_var (i := 3))) (ba_nil))))) rfl (blkOk_by (N := N_L_right) (sc := defScope st_L_right) (own := [("_law_row", 6)]) (by decide +kernel)) (fun _ _ _ _ _ => bg_name (i := 6) sc_L_right.nd rfl (by first | exact Or.inl rfl | exact Or.inr rfl)) (fun _ _ _ _ _ => bts_nil) (fun _ _ _ _ _ => be_callTy cd_tuple (by rfl) Z.bl.tuple B.boot_tuple (ba_cons (bp_var (i := 6)) (ba_nil))))) (ba_nil))))))
  (bs_cons (bs_set (i := 5) sc_L_right.nd rfl (by first | exact Or.inl rfl | exact Or.inr rfl) (be_op opd_add (bp_of (be_int)) (bp_of (be_op od_mod (bp_var (i := 1)) (bp_of (be_int))))))
  (bs_cons (bs_if (bt_w (bw_or (bt_cmp (od_ne hr) (bp_of (be_d (ok_P_many Z) hr (by decide) (ba_cons (bp_var (i := 4)) (ba_cons (bp_var (i := 5)) (ba_nil))))) (bp_of (be_c (ok_L_power Z) hr (by decide) (ba_cons (bp_of (be_var (i := 2))) (ba_cons (bp_of (be_var (i := 5))) (ba_nil)))))) (bw_or1 (bt_cmp (od_ne hr) (bp_of (be_k (ok_P_many Z) hr (by decide) (.head _) (ba_cons (bp_of (be_mk 3 (ok_P_Rule_init Z) hr (by decide) (ba_cons (bp_of (be_var (i := 2))) (ba_cons (bp_of (be_var (i := 3))) (ba_cons (bp_of (be_lst (ba_nil))) (ba_nil)))))) (ba_cons (bp_var (i := 1)) (ba_nil))) (bk_cons (bp_of (be_bl)) (bk_nil)))) (bp_of (be_int)))))) (bs_one (bs_ret (be_bl))) (bs_nil))
  (bs_cons (bs_if (bt_tru (bp_of (be_c (ok_L_is_prime Z) hr (by decide) (ba_cons (bp_of (be_var (i := 5))) (ba_nil))))) (bs_one (bs_ret (be_cmp (od_eq hr) (bp_of (be_k (ok_P_many Z) hr (by decide) (.head _) (ba_cons (bp_var (i := 4)) (ba_cons (bp_var (i := 5)) (ba_nil))) (bk_cons (bp_of (be_bl)) (bk_nil)))) (bp_of (be_op opd_add (bp_var (i := 2)) (bp_of (be_op od_fdiv (bp_of (be_op od_sub (bp_of (be_c (ok_L_power Z) hr (by decide) (ba_cons (bp_of (be_var (i := 2))) (ba_cons (bp_of (be_var (i := 5))) (ba_nil))))) (bp_var (i := 2)))) (bp_var (i := 5))))))))) (bs_nil))
  (bs_one (bs_ret (be_cmp od_ge (bp_of (be_k (ok_P_many Z) hr (by decide) (.head _) (ba_cons (bp_var (i := 4)) (ba_cons (bp_var (i := 5)) (ba_nil))) (bk_cons (bp_of (be_bl)) (bk_nil)))) (bp_var (i := 2))))))))))))
theorem ok_L_well : Ok P w K mg base 1 "_law_well" q_L_well [false] r_L_well :=
  ok_of (N := N_L_well) (m := m_L_well) [false] Z.k_L_well sc_L_well rfl fun f cdv A outer s H E hr =>
  bs_one (bs_ret (be_lst (ba_cons (bp_of (be_op opd_mul (bp_var (i := 0)) (bp_of (be_callTy cd_int (by rfl) Z.bl.int B.boot_int (ba_cons (bp_of (be_cmp od_ge (bp_var (i := 0)) (bp_of (be_op od_pow (bp_of (be_int)) (bp_of (be_int)))))) (ba_nil)))))) (ba_cons (bp_of (be_op od_mod (bp_var (i := 0)) (bp_of (be_int)))) (ba_cons (bp_of (be_int)) (ba_nil))))))
theorem ok_L_law {f : Addr} {fd : FuncData} (F : L2.Fun K "law" "law" st_L_law f fd) : FnG P w K mg base 9 f fd q_L_law (spB K mg [false] r_L_law) :=
  fnB (N := N_L_law) (m := m_L_law) [false] F sc_L_law rfl fun cdv A outer s H E hr =>
  bs_cons (bs_for (passes_of rfl) rfl (bi_seq (be_op opd_add (bp_of (be_lst (ba_cons (bp_of (be_c (ok_L_cell_at Z) hr (by decide) (ba_cons (bp_of (be_var (i := 0))) (ba_cons (bp_of (be_int)) (ba_nil))))) (ba_nil)))) (bp_of (be_slice (bp_var (i := 0)) (bo_some (be_int)) (bo_some (be_int)))))) (bg_name (i := 1) sc_L_law.nd rfl (by first | exact Or.inl rfl | exact Or.inr rfl)) (bs_one (bs_if (bt_not (bt_tru (bp_of (be_ct (ok_L_right Z) hr (by decide) (be_c (ok_L_well Z) hr (by decide) (ba_cons (bp_of (be_var (i := 1))) (ba_nil))))))) (bs_one (bs_ret (be_bl))) (bs_nil))))
  (bs_one (bs_ret (be_bl)))
end
end K18

set_option Elab.async false
set_option linter.all false
set_option maxRecDepth 100000
set_option maxHeartbeats 4000000
namespace K18
open PySem PySem.Spec L2 B
open RG
theorem all_mk {l : PySem.W.OpenLaw} {w : World} {K : PySem.W.Frag} {h : Heap} {mg : Str → Option Value} {fa a_L_cell_at a_P_is_from a_P_is_word a_P_are_words a_P_Rule_init a_L_is_prime a_L_draw a_P_points a_P_ties a_P_walks_to a_P_closed_numbers a_P_divisor a_P_many a_L_one a_L_power a_P_colours a_L_colours_right a_P_spread a_L_spread_right a_L_lists a_L_right a_L_well a_L_law : Addr} {a_RuleError : Addr} {a_NoRule : Addr} {a_NoLength : Addr} {a_NoTurns : Addr} {a_Rule : Addr} {D_P_many : Addr} {t_MOST_SIZE : Tok} {t_MOST_WIDE : Tok} {t_MOST_LENGTH : Tok} (X : K.In h) (G : h.Ns mainGlobals mg) (hfa : mg "law" = some (.ref fa))
    {xnm_NoRule xq_NoRule : Str} {xN_NoRule : Addr} {xbs_NoRule xbm_NoRule xsub_NoRule : List Value} {xsn_NoRule : List Str} {xab_NoRule : Bool} {xcol_NoRule : Option Bool} {xdd_NoRule xod_NoRule xan_NoRule : Option Addr} {x0_NoRule x1_NoRule x2_NoRule x3_NoRule x5_NoRule : Option Value} {fi_NoRule : Addr} {xoc_NoRule xkV_NoRule xdc_NoRule xpm_NoRule xcd_NoRule xct_NoRule : Value} {xsl_NoRule : Array (Option Value)}
    {od_L_cell_at an_L_cell_at : Option Addr} {sl_L_cell_at : Array (Option Value)} {oc_L_cell_at kV_L_cell_at dc_L_cell_at pm_L_cell_at cd_L_cell_at ct_L_cell_at : Value}
    {od_P_is_from an_P_is_from : Option Addr} {sl_P_is_from : Array (Option Value)} {oc_P_is_from kV_P_is_from dc_P_is_from pm_P_is_from cd_P_is_from ct_P_is_from : Value}
    {od_P_is_word an_P_is_word : Option Addr} {sl_P_is_word : Array (Option Value)} {oc_P_is_word kV_P_is_word dc_P_is_word pm_P_is_word cd_P_is_word ct_P_is_word : Value}
    {od_P_are_words an_P_are_words : Option Addr} {sl_P_are_words : Array (Option Value)} {oc_P_are_words kV_P_are_words dc_P_are_words pm_P_are_words cd_P_are_words ct_P_are_words : Value}
    {od_P_Rule_init an_P_Rule_init : Option Addr} {sl_P_Rule_init : Array (Option Value)} {oc_P_Rule_init kV_P_Rule_init dc_P_Rule_init pm_P_Rule_init cd_P_Rule_init ct_P_Rule_init : Value}
    {od_L_is_prime an_L_is_prime : Option Addr} {sl_L_is_prime : Array (Option Value)} {oc_L_is_prime kV_L_is_prime dc_L_is_prime pm_L_is_prime cd_L_is_prime ct_L_is_prime : Value}
    {od_L_draw an_L_draw : Option Addr} {sl_L_draw : Array (Option Value)} {oc_L_draw kV_L_draw dc_L_draw pm_L_draw cd_L_draw ct_L_draw : Value}
    {od_P_points an_P_points : Option Addr} {sl_P_points : Array (Option Value)} {oc_P_points kV_P_points dc_P_points pm_P_points cd_P_points ct_P_points : Value}
    {od_P_ties an_P_ties : Option Addr} {sl_P_ties : Array (Option Value)} {oc_P_ties kV_P_ties dc_P_ties pm_P_ties cd_P_ties ct_P_ties : Value}
    {od_P_walks_to an_P_walks_to : Option Addr} {sl_P_walks_to : Array (Option Value)} {oc_P_walks_to kV_P_walks_to dc_P_walks_to pm_P_walks_to cd_P_walks_to ct_P_walks_to : Value}
    {od_P_closed_numbers an_P_closed_numbers : Option Addr} {sl_P_closed_numbers : Array (Option Value)} {oc_P_closed_numbers kV_P_closed_numbers dc_P_closed_numbers pm_P_closed_numbers cd_P_closed_numbers ct_P_closed_numbers : Value}
    {od_P_divisor an_P_divisor : Option Addr} {sl_P_divisor : Array (Option Value)} {oc_P_divisor kV_P_divisor dc_P_divisor pm_P_divisor cd_P_divisor ct_P_divisor : Value}
    {od_P_many an_P_many : Option Addr} {sl_P_many : Array (Option Value)} {oc_P_many  dc_P_many pm_P_many cd_P_many ct_P_many : Value}
    {od_L_one an_L_one : Option Addr} {sl_L_one : Array (Option Value)} {oc_L_one kV_L_one dc_L_one pm_L_one cd_L_one ct_L_one : Value}
    {od_L_power an_L_power : Option Addr} {sl_L_power : Array (Option Value)} {oc_L_power kV_L_power dc_L_power pm_L_power cd_L_power ct_L_power : Value}
    {od_P_colours an_P_colours : Option Addr} {sl_P_colours : Array (Option Value)} {oc_P_colours kV_P_colours dc_P_colours pm_P_colours cd_P_colours ct_P_colours : Value}
    {od_L_colours_right an_L_colours_right : Option Addr} {sl_L_colours_right : Array (Option Value)} {oc_L_colours_right kV_L_colours_right dc_L_colours_right pm_L_colours_right cd_L_colours_right ct_L_colours_right : Value}
    {od_P_spread an_P_spread : Option Addr} {sl_P_spread : Array (Option Value)} {oc_P_spread kV_P_spread dc_P_spread pm_P_spread cd_P_spread ct_P_spread : Value}
    {od_L_spread_right an_L_spread_right : Option Addr} {sl_L_spread_right : Array (Option Value)} {oc_L_spread_right kV_L_spread_right dc_L_spread_right pm_L_spread_right cd_L_spread_right ct_L_spread_right : Value}
    {od_L_lists an_L_lists : Option Addr} {sl_L_lists : Array (Option Value)} {oc_L_lists kV_L_lists dc_L_lists pm_L_lists cd_L_lists ct_L_lists : Value}
    {od_L_right an_L_right : Option Addr} {sl_L_right : Array (Option Value)} {oc_L_right kV_L_right dc_L_right pm_L_right cd_L_right ct_L_right : Value}
    {od_L_well an_L_well : Option Addr} {sl_L_well : Array (Option Value)} {oc_L_well kV_L_well dc_L_well pm_L_well cd_L_well ct_L_well : Value}
    {od_L_law an_L_law : Option Addr} {sl_L_law : Array (Option Value)} {oc_L_law kV_L_law dc_L_law pm_L_law cd_L_law ct_L_law : Value}
    (g_RuleError : PySem.W.nsIn K mainGlobals "RuleError" = some (some (.ref a_RuleError)))
    (g_NoRule : PySem.W.nsIn K mainGlobals "NoRule" = some (some (.ref a_NoRule)))
    (g_NoLength : PySem.W.nsIn K mainGlobals "NoLength" = some (some (.ref a_NoLength)))
    (g_NoTurns : PySem.W.nsIn K mainGlobals "NoTurns" = some (some (.ref a_NoTurns)))
    (g_Rule : PySem.W.nsIn K mainGlobals "Rule" = some (some (.ref a_Rule)))
    (xk_NoRule : PySem.W.keepIn K (.ref a_NoRule) = true)
    (xt_NoRule : PySem.W.typeIn K (.ref a_NoRule) = some (.type "type"))
    (xs_NoRule : PySem.W.subIn K (.ref a_NoRule) (.type "BaseException") = some true)
    (xl_NoRule : K.lookup a_NoRule = some (PySem.excClassObj xnm_NoRule xq_NoRule a_NoRule xN_NoRule xbs_NoRule xbm_NoRule true xsn_NoRule xsub_NoRule xab_NoRule xcol_NoRule xdd_NoRule x0_NoRule x1_NoRule x2_NoRule x3_NoRule x5_NoRule "ValueError.__new__"))
    (xv_NoRule : PySem.HandSPX.refsVE xbm_NoRule = true)
    (xa_NoRule : PySem.W.findIn K (.ref a_NoRule) "__setattr__" = some (some (.builtin "object.__setattr__")))
    (xn_NoRule : PySem.W.findIn K (.ref a_NoRule) "__init__" = some (some (.ref fi_NoRule)))
    (xy_NoRule : PySem.W.typeIn K (.ref fi_NoRule) = some (.type "function"))
    (xfl_NoRule : K.lookup fi_NoRule = some ⟨xoc_NoRule, xod_NoRule, .func (PySem.W.fnOf "__init__" "NoRule.__init__" (defArgs st_XNoRule) (defBody st_XNoRule) (defScope st_XNoRule) .none xkV_NoRule xdc_NoRule xpm_NoRule xan_NoRule xcd_NoRule xct_NoRule), xsl_NoRule⟩)
    (xfc_NoRule : PySem.W.codeIn K xcd_NoRule "NoRule.__init__" = true)
    (xfk_NoRule : PySem.W.keepIn K (.ref fi_NoRule) = true)
    (xf_NoRule : PySem.W.findIn K (.ref a_NoRule) "what" = some none)
    (xi_NoLength : PySem.W.excIn K a_NoLength veTail "ValueError.__new__" = true)
    (xk_NoLength : PySem.W.keepIn K (.ref a_NoLength) = true)
    (xt_NoLength : PySem.W.typeIn K (.ref a_NoLength) = some (.type "type"))
    (xs_NoLength : PySem.W.subIn K (.ref a_NoLength) (.type "BaseException") = some true)
    (xi_NoTurns : PySem.W.excIn K a_NoTurns veTail "ValueError.__new__" = true)
    (xk_NoTurns : PySem.W.keepIn K (.ref a_NoTurns) = true)
    (xt_NoTurns : PySem.W.typeIn K (.ref a_NoTurns) = some (.type "type"))
    (xs_NoTurns : PySem.W.subIn K (.ref a_NoTurns) (.type "BaseException") = some true)
    (rr_RuleError : PySem.W.readsIn K a_RuleError (.type "type") = true)
    (rg_RuleError : PySem.W.specialIn K (.ref a_RuleError) "__getattribute__" = some (some (.builtin "type.__getattribute__")))
    (rv_RuleError : PySem.W.findCls K (.ref a_RuleError) (.type "type") "__init__" = some (.val (.builtin "ValueError.__init__")))
    (cp_Rule : PySem.W.plainGet K a_Rule Str.empty = true)
    (ch_Rule : PySem.W.hasDictIn K a_Rule = true)
    (co_Rule : PySem.W.plainOver K a_Rule = true)
    (cs_Rule : PySem.W.findIn K (.ref a_Rule) "__setattr__" = some (some (.builtin "object.__setattr__")))
    (cn_Rule_size : PySem.W.findIn K (.ref a_Rule) "size" = some none)
    (cn_Rule_wide : PySem.W.findIn K (.ref a_Rule) "wide" = some none)
    (cn_Rule_words : PySem.W.findIn K (.ref a_Rule) "words" = some none)
    (cm_Rule : PySem.W.makesIn K a_Rule = true)
    (ci_Rule : PySem.W.findIn K (.ref a_Rule) "__init__" = some (some (.ref a_P_Rule_init)))
    (cf_Rule : PySem.W.isFn K (.ref a_P_Rule_init) = true)
    (ck_Rule : PySem.W.keepIn K (.ref a_Rule) = true)
    (h_L_cell_at : PySem.W.nsIn K mainGlobals "_law_cell_at" = some (some (.ref a_L_cell_at)))
    (l_L_cell_at : K.lookup a_L_cell_at = some ⟨oc_L_cell_at, od_L_cell_at, .func (PySem.W.fnOf "_law_cell_at" "_law_cell_at" (defArgs st_L_cell_at) (defBody st_L_cell_at) (defScope st_L_cell_at) .none kV_L_cell_at dc_L_cell_at pm_L_cell_at an_L_cell_at cd_L_cell_at ct_L_cell_at), sl_L_cell_at⟩)
    (c_L_cell_at : PySem.W.codeIn K cd_L_cell_at "_law_cell_at" = true)
    (k_L_cell_at : PySem.W.keepIn K (.ref a_L_cell_at) = true)
    (h_P_is_from : PySem.W.nsIn K mainGlobals "is_from" = some (some (.ref a_P_is_from)))
    (l_P_is_from : K.lookup a_P_is_from = some ⟨oc_P_is_from, od_P_is_from, .func (PySem.W.fnOf "is_from" "is_from" (defArgs st_P_is_from) (defBody st_P_is_from) (defScope st_P_is_from) .none kV_P_is_from dc_P_is_from pm_P_is_from an_P_is_from cd_P_is_from ct_P_is_from), sl_P_is_from⟩)
    (c_P_is_from : PySem.W.codeIn K cd_P_is_from "is_from" = true)
    (k_P_is_from : PySem.W.keepIn K (.ref a_P_is_from) = true)
    (h_P_is_word : PySem.W.nsIn K mainGlobals "is_word" = some (some (.ref a_P_is_word)))
    (l_P_is_word : K.lookup a_P_is_word = some ⟨oc_P_is_word, od_P_is_word, .func (PySem.W.fnOf "is_word" "is_word" (defArgs st_P_is_word) (defBody st_P_is_word) (defScope st_P_is_word) .none kV_P_is_word dc_P_is_word pm_P_is_word an_P_is_word cd_P_is_word ct_P_is_word), sl_P_is_word⟩)
    (c_P_is_word : PySem.W.codeIn K cd_P_is_word "is_word" = true)
    (k_P_is_word : PySem.W.keepIn K (.ref a_P_is_word) = true)
    (h_P_are_words : PySem.W.nsIn K mainGlobals "are_words" = some (some (.ref a_P_are_words)))
    (l_P_are_words : K.lookup a_P_are_words = some ⟨oc_P_are_words, od_P_are_words, .func (PySem.W.fnOf "are_words" "are_words" (defArgs st_P_are_words) (defBody st_P_are_words) (defScope st_P_are_words) .none kV_P_are_words dc_P_are_words pm_P_are_words an_P_are_words cd_P_are_words ct_P_are_words), sl_P_are_words⟩)
    (c_P_are_words : PySem.W.codeIn K cd_P_are_words "are_words" = true)
    (k_P_are_words : PySem.W.keepIn K (.ref a_P_are_words) = true)
    (l_P_Rule_init : K.lookup a_P_Rule_init = some ⟨oc_P_Rule_init, od_P_Rule_init, .func (PySem.W.fnOf "__init__" "Rule.__init__" (defArgs st_P_Rule_init) (defBody st_P_Rule_init) (defScope st_P_Rule_init) .none kV_P_Rule_init dc_P_Rule_init pm_P_Rule_init an_P_Rule_init cd_P_Rule_init ct_P_Rule_init), sl_P_Rule_init⟩)
    (c_P_Rule_init : PySem.W.codeIn K cd_P_Rule_init "Rule.__init__" = true)
    (k_P_Rule_init : PySem.W.keepIn K (.ref a_P_Rule_init) = true)
    (h_L_is_prime : PySem.W.nsIn K mainGlobals "_law_is_prime" = some (some (.ref a_L_is_prime)))
    (l_L_is_prime : K.lookup a_L_is_prime = some ⟨oc_L_is_prime, od_L_is_prime, .func (PySem.W.fnOf "_law_is_prime" "_law_is_prime" (defArgs st_L_is_prime) (defBody st_L_is_prime) (defScope st_L_is_prime) .none kV_L_is_prime dc_L_is_prime pm_L_is_prime an_L_is_prime cd_L_is_prime ct_L_is_prime), sl_L_is_prime⟩)
    (c_L_is_prime : PySem.W.codeIn K cd_L_is_prime "_law_is_prime" = true)
    (k_L_is_prime : PySem.W.keepIn K (.ref a_L_is_prime) = true)
    (h_L_draw : PySem.W.nsIn K mainGlobals "_law_draw" = some (some (.ref a_L_draw)))
    (l_L_draw : K.lookup a_L_draw = some ⟨oc_L_draw, od_L_draw, .func (PySem.W.fnOf "_law_draw" "_law_draw" (defArgs st_L_draw) (defBody st_L_draw) (defScope st_L_draw) .none kV_L_draw dc_L_draw pm_L_draw an_L_draw cd_L_draw ct_L_draw), sl_L_draw⟩)
    (c_L_draw : PySem.W.codeIn K cd_L_draw "_law_draw" = true)
    (k_L_draw : PySem.W.keepIn K (.ref a_L_draw) = true)
    (h_P_points : PySem.W.nsIn K mainGlobals "points" = some (some (.ref a_P_points)))
    (l_P_points : K.lookup a_P_points = some ⟨oc_P_points, od_P_points, .func (PySem.W.fnOf "points" "points" (defArgs st_P_points) (defBody st_P_points) (defScope st_P_points) .none kV_P_points dc_P_points pm_P_points an_P_points cd_P_points ct_P_points), sl_P_points⟩)
    (c_P_points : PySem.W.codeIn K cd_P_points "points" = true)
    (k_P_points : PySem.W.keepIn K (.ref a_P_points) = true)
    (h_P_ties : PySem.W.nsIn K mainGlobals "ties" = some (some (.ref a_P_ties)))
    (l_P_ties : K.lookup a_P_ties = some ⟨oc_P_ties, od_P_ties, .func (PySem.W.fnOf "ties" "ties" (defArgs st_P_ties) (defBody st_P_ties) (defScope st_P_ties) .none kV_P_ties dc_P_ties pm_P_ties an_P_ties cd_P_ties ct_P_ties), sl_P_ties⟩)
    (c_P_ties : PySem.W.codeIn K cd_P_ties "ties" = true)
    (k_P_ties : PySem.W.keepIn K (.ref a_P_ties) = true)
    (h_P_walks_to : PySem.W.nsIn K mainGlobals "walks_to" = some (some (.ref a_P_walks_to)))
    (l_P_walks_to : K.lookup a_P_walks_to = some ⟨oc_P_walks_to, od_P_walks_to, .func (PySem.W.fnOf "walks_to" "walks_to" (defArgs st_P_walks_to) (defBody st_P_walks_to) (defScope st_P_walks_to) .none kV_P_walks_to dc_P_walks_to pm_P_walks_to an_P_walks_to cd_P_walks_to ct_P_walks_to), sl_P_walks_to⟩)
    (c_P_walks_to : PySem.W.codeIn K cd_P_walks_to "walks_to" = true)
    (k_P_walks_to : PySem.W.keepIn K (.ref a_P_walks_to) = true)
    (h_P_closed_numbers : PySem.W.nsIn K mainGlobals "closed_numbers" = some (some (.ref a_P_closed_numbers)))
    (l_P_closed_numbers : K.lookup a_P_closed_numbers = some ⟨oc_P_closed_numbers, od_P_closed_numbers, .func (PySem.W.fnOf "closed_numbers" "closed_numbers" (defArgs st_P_closed_numbers) (defBody st_P_closed_numbers) (defScope st_P_closed_numbers) .none kV_P_closed_numbers dc_P_closed_numbers pm_P_closed_numbers an_P_closed_numbers cd_P_closed_numbers ct_P_closed_numbers), sl_P_closed_numbers⟩)
    (c_P_closed_numbers : PySem.W.codeIn K cd_P_closed_numbers "closed_numbers" = true)
    (k_P_closed_numbers : PySem.W.keepIn K (.ref a_P_closed_numbers) = true)
    (h_P_divisor : PySem.W.nsIn K mainGlobals "divisor" = some (some (.ref a_P_divisor)))
    (l_P_divisor : K.lookup a_P_divisor = some ⟨oc_P_divisor, od_P_divisor, .func (PySem.W.fnOf "divisor" "divisor" (defArgs st_P_divisor) (defBody st_P_divisor) (defScope st_P_divisor) .none kV_P_divisor dc_P_divisor pm_P_divisor an_P_divisor cd_P_divisor ct_P_divisor), sl_P_divisor⟩)
    (c_P_divisor : PySem.W.codeIn K cd_P_divisor "divisor" = true)
    (k_P_divisor : PySem.W.keepIn K (.ref a_P_divisor) = true)
    (h_P_many : PySem.W.nsIn K mainGlobals "many" = some (some (.ref a_P_many)))
    (l_P_many : K.lookup a_P_many = some ⟨oc_P_many, od_P_many, .func (PySem.W.fnOf "many" "many" (defArgs st_P_many) (defBody st_P_many) (defScope st_P_many) .none (.ref D_P_many) dc_P_many pm_P_many an_P_many cd_P_many ct_P_many), sl_P_many⟩)
    (c_P_many : PySem.W.codeIn K cd_P_many "many" = true)
    (k_P_many : PySem.W.keepIn K (.ref a_P_many) = true)
    (d_P_many_turns : PySem.W.nsIn K D_P_many "turns" = some (some (.bool true)))
    (h_L_one : PySem.W.nsIn K mainGlobals "_law_one" = some (some (.ref a_L_one)))
    (l_L_one : K.lookup a_L_one = some ⟨oc_L_one, od_L_one, .func (PySem.W.fnOf "_law_one" "_law_one" (defArgs st_L_one) (defBody st_L_one) (defScope st_L_one) .none kV_L_one dc_L_one pm_L_one an_L_one cd_L_one ct_L_one), sl_L_one⟩)
    (c_L_one : PySem.W.codeIn K cd_L_one "_law_one" = true)
    (k_L_one : PySem.W.keepIn K (.ref a_L_one) = true)
    (h_L_power : PySem.W.nsIn K mainGlobals "_law_power" = some (some (.ref a_L_power)))
    (l_L_power : K.lookup a_L_power = some ⟨oc_L_power, od_L_power, .func (PySem.W.fnOf "_law_power" "_law_power" (defArgs st_L_power) (defBody st_L_power) (defScope st_L_power) .none kV_L_power dc_L_power pm_L_power an_L_power cd_L_power ct_L_power), sl_L_power⟩)
    (c_L_power : PySem.W.codeIn K cd_L_power "_law_power" = true)
    (k_L_power : PySem.W.keepIn K (.ref a_L_power) = true)
    (h_P_colours : PySem.W.nsIn K mainGlobals "colours" = some (some (.ref a_P_colours)))
    (l_P_colours : K.lookup a_P_colours = some ⟨oc_P_colours, od_P_colours, .func (PySem.W.fnOf "colours" "colours" (defArgs st_P_colours) (defBody st_P_colours) (defScope st_P_colours) .none kV_P_colours dc_P_colours pm_P_colours an_P_colours cd_P_colours ct_P_colours), sl_P_colours⟩)
    (c_P_colours : PySem.W.codeIn K cd_P_colours "colours" = true)
    (k_P_colours : PySem.W.keepIn K (.ref a_P_colours) = true)
    (h_L_colours_right : PySem.W.nsIn K mainGlobals "_law_colours_right" = some (some (.ref a_L_colours_right)))
    (l_L_colours_right : K.lookup a_L_colours_right = some ⟨oc_L_colours_right, od_L_colours_right, .func (PySem.W.fnOf "_law_colours_right" "_law_colours_right" (defArgs st_L_colours_right) (defBody st_L_colours_right) (defScope st_L_colours_right) .none kV_L_colours_right dc_L_colours_right pm_L_colours_right an_L_colours_right cd_L_colours_right ct_L_colours_right), sl_L_colours_right⟩)
    (c_L_colours_right : PySem.W.codeIn K cd_L_colours_right "_law_colours_right" = true)
    (k_L_colours_right : PySem.W.keepIn K (.ref a_L_colours_right) = true)
    (h_P_spread : PySem.W.nsIn K mainGlobals "spread" = some (some (.ref a_P_spread)))
    (l_P_spread : K.lookup a_P_spread = some ⟨oc_P_spread, od_P_spread, .func (PySem.W.fnOf "spread" "spread" (defArgs st_P_spread) (defBody st_P_spread) (defScope st_P_spread) .none kV_P_spread dc_P_spread pm_P_spread an_P_spread cd_P_spread ct_P_spread), sl_P_spread⟩)
    (c_P_spread : PySem.W.codeIn K cd_P_spread "spread" = true)
    (k_P_spread : PySem.W.keepIn K (.ref a_P_spread) = true)
    (h_L_spread_right : PySem.W.nsIn K mainGlobals "_law_spread_right" = some (some (.ref a_L_spread_right)))
    (l_L_spread_right : K.lookup a_L_spread_right = some ⟨oc_L_spread_right, od_L_spread_right, .func (PySem.W.fnOf "_law_spread_right" "_law_spread_right" (defArgs st_L_spread_right) (defBody st_L_spread_right) (defScope st_L_spread_right) .none kV_L_spread_right dc_L_spread_right pm_L_spread_right an_L_spread_right cd_L_spread_right ct_L_spread_right), sl_L_spread_right⟩)
    (c_L_spread_right : PySem.W.codeIn K cd_L_spread_right "_law_spread_right" = true)
    (k_L_spread_right : PySem.W.keepIn K (.ref a_L_spread_right) = true)
    (h_L_lists : PySem.W.nsIn K mainGlobals "_law_lists" = some (some (.ref a_L_lists)))
    (l_L_lists : K.lookup a_L_lists = some ⟨oc_L_lists, od_L_lists, .func (PySem.W.fnOf "_law_lists" "_law_lists" (defArgs st_L_lists) (defBody st_L_lists) (defScope st_L_lists) .none kV_L_lists dc_L_lists pm_L_lists an_L_lists cd_L_lists ct_L_lists), sl_L_lists⟩)
    (c_L_lists : PySem.W.codeIn K cd_L_lists "_law_lists" = true)
    (k_L_lists : PySem.W.keepIn K (.ref a_L_lists) = true)
    (h_L_right : PySem.W.nsIn K mainGlobals "_law_right" = some (some (.ref a_L_right)))
    (l_L_right : K.lookup a_L_right = some ⟨oc_L_right, od_L_right, .func (PySem.W.fnOf "_law_right" "_law_right" (defArgs st_L_right) (defBody st_L_right) (defScope st_L_right) .none kV_L_right dc_L_right pm_L_right an_L_right cd_L_right ct_L_right), sl_L_right⟩)
    (c_L_right : PySem.W.codeIn K cd_L_right "_law_right" = true)
    (k_L_right : PySem.W.keepIn K (.ref a_L_right) = true)
    (h_L_well : PySem.W.nsIn K mainGlobals "_law_well" = some (some (.ref a_L_well)))
    (l_L_well : K.lookup a_L_well = some ⟨oc_L_well, od_L_well, .func (PySem.W.fnOf "_law_well" "_law_well" (defArgs st_L_well) (defBody st_L_well) (defScope st_L_well) .none kV_L_well dc_L_well pm_L_well an_L_well cd_L_well ct_L_well), sl_L_well⟩)
    (c_L_well : PySem.W.codeIn K cd_L_well "_law_well" = true)
    (k_L_well : PySem.W.keepIn K (.ref a_L_well) = true)
    (h_L_law : PySem.W.nsIn K mainGlobals "law" = some (some (.ref a_L_law)))
    (l_L_law : K.lookup a_L_law = some ⟨oc_L_law, od_L_law, .func (PySem.W.fnOf "law" "law" (defArgs st_L_law) (defBody st_L_law) (defScope st_L_law) .none kV_L_law dc_L_law pm_L_law an_L_law cd_L_law ct_L_law), sl_L_law⟩)
    (c_L_law : PySem.W.codeIn K cd_L_law "law" = true)
    (k_L_law : PySem.W.keepIn K (.ref a_L_law) = true)
    (g_MOST_SIZE : PySem.W.nsIn K mainGlobals "MOST_SIZE" = some (some (.int 4 t_MOST_SIZE)))
    (g_MOST_WIDE : PySem.W.nsIn K mainGlobals "MOST_WIDE" = some (some (.int 4 t_MOST_WIDE)))
    (g_MOST_LENGTH : PySem.W.nsIn K mainGlobals "MOST_LENGTH" = some (some (.int 400 t_MOST_LENGTH)))
    (z_len : PySem.W.nsIn K mainGlobals "len" = some none)
    (z_range : PySem.W.nsIn K mainGlobals "range" = some none)
    (z_isinstance : PySem.W.nsIn K mainGlobals "isinstance" = some none)
    (z_int : PySem.W.nsIn K mainGlobals "int" = some none)
    (z_bool : PySem.W.nsIn K mainGlobals "bool" = some none)
    (z_list : PySem.W.nsIn K mainGlobals "list" = some none)
    (z_tuple : PySem.W.nsIn K mainGlobals "tuple" = some none)
    (z_str : PySem.W.nsIn K mainGlobals "str" = some none)
    (z_dict : PySem.W.nsIn K mainGlobals "dict" = some none)
    (z_set : PySem.W.nsIn K mainGlobals "set" = some none)
    (z_sorted : PySem.W.nsIn K mainGlobals "sorted" = some none)
    (z_repr : PySem.W.nsIn K mainGlobals "repr" = some none)
    (z_min : PySem.W.nsIn K mainGlobals "min" = some none)
    (z_max : PySem.W.nsIn K mainGlobals "max" = some none)
    (z_sum : PySem.W.nsIn K mainGlobals "sum" = some none)
    (z_all : PySem.W.nsIn K mainGlobals "all" = some none)
    (z_any : PySem.W.nsIn K mainGlobals "any" = some none)
    (z_zip : PySem.W.nsIn K mainGlobals "zip" = some none)
    (z_enumerate : PySem.W.nsIn K mainGlobals "enumerate" = some none)
    (z_abs : PySem.W.nsIn K mainGlobals "abs" = some none) :
    ∃ fd : FuncData, (∀ (s : Shared) (v : Value), BindsTo s fd ⟨[v], []⟩ [("_law_script", v)]) ∧ ∀ base : Heap, K.In base → base.Ns mainGlobals mg → FnG l.prog w K mg base 9 fa fd q_L_law (spB K mg [false] r_L_law) := by
  have e := hfa.symm.trans (PySem.W.mg_of X G h_L_law)
  cases e
  have F_L_cell_at := fun_mk (st := st_L_cell_at) l_L_cell_at c_L_cell_at k_L_cell_at
  have F_P_is_from := fun_mk (st := st_P_is_from) l_P_is_from c_P_is_from k_P_is_from
  have F_P_is_word := fun_mk (st := st_P_is_word) l_P_is_word c_P_is_word k_P_is_word
  have F_P_are_words := fun_mk (st := st_P_are_words) l_P_are_words c_P_are_words k_P_are_words
  have F_P_Rule_init := fun_mk (st := st_P_Rule_init) l_P_Rule_init c_P_Rule_init k_P_Rule_init
  have F_L_is_prime := fun_mk (st := st_L_is_prime) l_L_is_prime c_L_is_prime k_L_is_prime
  have F_L_draw := fun_mk (st := st_L_draw) l_L_draw c_L_draw k_L_draw
  have F_P_points := fun_mk (st := st_P_points) l_P_points c_P_points k_P_points
  have F_P_ties := fun_mk (st := st_P_ties) l_P_ties c_P_ties k_P_ties
  have F_P_walks_to := fun_mk (st := st_P_walks_to) l_P_walks_to c_P_walks_to k_P_walks_to
  have F_P_closed_numbers := fun_mk (st := st_P_closed_numbers) l_P_closed_numbers c_P_closed_numbers k_P_closed_numbers
  have F_P_divisor := fun_mk (st := st_P_divisor) l_P_divisor c_P_divisor k_P_divisor
  have F_P_many := fun_mk (st := st_P_many) l_P_many c_P_many k_P_many
  have F_L_one := fun_mk (st := st_L_one) l_L_one c_L_one k_L_one
  have F_L_power := fun_mk (st := st_L_power) l_L_power c_L_power k_L_power
  have F_P_colours := fun_mk (st := st_P_colours) l_P_colours c_P_colours k_P_colours
  have F_L_colours_right := fun_mk (st := st_L_colours_right) l_L_colours_right c_L_colours_right k_L_colours_right
  have F_P_spread := fun_mk (st := st_P_spread) l_P_spread c_P_spread k_P_spread
  have F_L_spread_right := fun_mk (st := st_L_spread_right) l_L_spread_right c_L_spread_right k_L_spread_right
  have F_L_lists := fun_mk (st := st_L_lists) l_L_lists c_L_lists k_L_lists
  have F_L_right := fun_mk (st := st_L_right) l_L_right c_L_right k_L_right
  have F_L_well := fun_mk (st := st_L_well) l_L_well c_L_well k_L_well
  have F_L_law := fun_mk (st := st_L_law) l_L_law c_L_law k_L_law
  have F_XNoRule := fun_mk (st := st_XNoRule) xfl_NoRule xfc_NoRule xfk_NoRule
  have b_XNoRule := F_XNoRule.binds (ps := ["self", "what"]) fun _ _ _ _ _ _ us hl => match us, hl with | [_, _], _ => rfl
  have b_L_cell_at := F_L_cell_at.binds (ps := q_L_cell_at) fun _ _ _ _ _ _ us hl => match us, hl with | [_, _], _ => rfl
  have b_P_is_from := F_P_is_from.binds (ps := q_P_is_from) fun _ _ _ _ _ _ us hl => match us, hl with | [_, _, _], _ => rfl
  have b_P_is_word := F_P_is_word.binds (ps := q_P_is_word) fun _ _ _ _ _ _ us hl => match us, hl with | [_, _, _], _ => rfl
  have b_P_are_words := F_P_are_words.binds (ps := q_P_are_words) fun _ _ _ _ _ _ us hl => match us, hl with | [_, _, _], _ => rfl
  have b_P_Rule_init := F_P_Rule_init.binds (ps := q_P_Rule_init) fun _ _ _ _ _ _ us hl => match us, hl with | [_, _, _, _], _ => rfl
  have b_L_is_prime := F_L_is_prime.binds (ps := q_L_is_prime) fun _ _ _ _ _ _ us hl => match us, hl with | [_], _ => rfl
  have b_L_draw := F_L_draw.binds (ps := q_L_draw) fun _ _ _ _ _ _ us hl => match us, hl with | [_, _], _ => rfl
  have b_P_points := F_P_points.binds (ps := q_P_points) fun _ _ _ _ _ _ us hl => match us, hl with | [_], _ => rfl
  have b_P_ties := F_P_ties.binds (ps := q_P_ties) fun _ _ _ _ _ _ us hl => match us, hl with | [_], _ => rfl
  have b_P_walks_to := F_P_walks_to.binds (ps := q_P_walks_to) fun _ _ _ _ _ _ us hl => match us, hl with | [_, _, _], _ => rfl
  have b_P_closed_numbers := F_P_closed_numbers.binds (ps := q_P_closed_numbers) fun _ _ _ _ _ _ us hl => match us, hl with | [_, _], _ => rfl
  have b_P_divisor := F_P_divisor.binds (ps := q_P_divisor) fun _ _ _ _ _ _ us hl => match us, hl with | [_, _], _ => rfl
  have FD_P_many : L2.FunD K "many" "many" (defArgs st_P_many) (defBody st_P_many) (defScope st_P_many) [] [("turns", .bl true)] a_P_many _ := ⟨⟨_, _, _, _, _, _, _, _, _, _, rfl, l_P_many, c_P_many, .inl ⟨rfl, rfl⟩, .inr ⟨_, rfl, fun q hq => by
    rcases List.mem_cons.mp hq with rfl | hq
    · exact ⟨_, d_P_many_turns, rfl⟩
    · cases hq⟩⟩, k_P_many⟩
  have b_P_many : Dfl K mg (PySem.W.fnOf "many" "many" (defArgs st_P_many) (defBody st_P_many) (defScope st_P_many) .none (.ref D_P_many) dc_P_many pm_P_many an_P_many cd_P_many ct_P_many) q_P_many [.bl true] := by
    obtain ⟨ds, r, b⟩ := FD_P_many.binds0 (ps := q_P_many) 2 (by decide) rfl (fun D doc pm an cdv ct us ks h1 h2 => by
      match us, ks, h1, h2 with
      | [_, _], [_], _, _ => exact ⟨_, _, _, _, _, _, rfl, rfl, rfl⟩)
    exact ⟨_, ds, b, r, (dds_bl true dds_nil)⟩
  have p_P_many : Pats K mg (PySem.W.fnOf "many" "many" (defArgs st_P_many) (defBody st_P_many) (defScope st_P_many) .none (.ref D_P_many) dc_P_many pm_P_many an_P_many cd_P_many ct_P_many) q_P_many [(2, ["turns"], [0, 1, 2])] := pats_cons (kwOk_of [0, 1, 2] (fun s us ws h1 h2 => match us, ws, h1, h2 with | [_, _], [_], _, _ => .of_eq rfl)) (pats_nil)
  have b_L_one := F_L_one.binds (ps := q_L_one) fun _ _ _ _ _ _ us hl => match us, hl with | [_, _], _ => rfl
  have b_L_power := F_L_power.binds (ps := q_L_power) fun _ _ _ _ _ _ us hl => match us, hl with | [_, _], _ => rfl
  have b_P_colours := F_P_colours.binds (ps := q_P_colours) fun _ _ _ _ _ _ us hl => match us, hl with | [_], _ => rfl
  have b_L_colours_right := F_L_colours_right.binds (ps := q_L_colours_right) fun _ _ _ _ _ _ us hl => match us, hl with | [_, _], _ => rfl
  have b_P_spread := F_P_spread.binds (ps := q_P_spread) fun _ _ _ _ _ _ us hl => match us, hl with | [], _ => rfl
  have b_L_spread_right := F_L_spread_right.binds (ps := q_L_spread_right) fun _ _ _ _ _ _ us hl => match us, hl with | [_], _ => rfl
  have b_L_lists := F_L_lists.binds (ps := q_L_lists) fun _ _ _ _ _ _ us hl => match us, hl with | [_, _], _ => rfl
  have b_L_right := F_L_right.binds (ps := q_L_right) fun _ _ _ _ _ _ us hl => match us, hl with | [_], _ => rfl
  have b_L_well := F_L_well.binds (ps := q_L_well) fun _ _ _ _ _ _ us hl => match us, hl with | [_], _ => rfl
  have Z : Wr K mg := ⟨⟨PySem.W.mg_none_of X G z_len, PySem.W.mg_none_of X G z_range, PySem.W.mg_none_of X G z_isinstance, PySem.W.mg_none_of X G z_int, PySem.W.mg_none_of X G z_bool, PySem.W.mg_none_of X G z_list, PySem.W.mg_none_of X G z_tuple, PySem.W.mg_none_of X G z_str, PySem.W.mg_none_of X G z_dict, PySem.W.mg_none_of X G z_set, PySem.W.mg_none_of X G z_sorted, PySem.W.mg_none_of X G z_repr, PySem.W.mg_none_of X G z_min, PySem.W.mg_none_of X G z_max, PySem.W.mg_none_of X G z_sum, PySem.W.mg_none_of X G z_all, PySem.W.mg_none_of X G z_any, PySem.W.mg_none_of X G z_zip, PySem.W.mg_none_of X G z_enumerate, PySem.W.mg_none_of X G z_abs⟩,
    ⟨_, PySem.W.mg_of X G g_MOST_SIZE⟩,
    ⟨_, PySem.W.mg_of X G g_MOST_WIDE⟩,
    ⟨_, PySem.W.mg_of X G g_MOST_LENGTH⟩,
    ⟨_, PySem.W.mg_of X G g_NoLength, xi_NoLength, xk_NoLength, xs_NoLength, xt_NoLength⟩,
    ⟨_, PySem.W.mg_of X G g_NoTurns, xi_NoTurns, xk_NoTurns, xs_NoTurns, xt_NoTurns⟩,
    ⟨_, _, _, PySem.W.mg_of X G g_NoRule, ⟨⟨_, _, _, _, _, _, _, _, _, _, _, _, _, _, _, xl_NoRule, xv_NoRule⟩, xa_NoRule, xs_NoRule, xt_NoRule, xk_NoRule⟩, xn_NoRule, xy_NoRule, F_XNoRule, b_XNoRule, xf_NoRule⟩,
    ⟨_, PySem.W.mg_of X G g_RuleError, rr_RuleError, rg_RuleError, rv_RuleError⟩,
    ⟨_, _, _, PySem.W.mg_of X G g_Rule, ⟨cp_Rule, ch_Rule, co_Rule, cs_Rule⟩, (mem_cons cn_Rule_size (mem_cons cn_Rule_wide (mem_cons cn_Rule_words mem_nil))), ⟨cm_Rule, ci_Rule, cf_Rule, ck_Rule⟩, F_P_Rule_init, b_P_Rule_init⟩,
    ⟨⟨_, _, F_L_cell_at, PySem.W.mg_of X G h_L_cell_at, b_L_cell_at⟩⟩,
    ⟨⟨_, _, F_P_is_from, PySem.W.mg_of X G h_P_is_from, b_P_is_from⟩⟩,
    ⟨⟨_, _, F_P_is_word, PySem.W.mg_of X G h_P_is_word, b_P_is_word⟩⟩,
    ⟨⟨_, _, F_P_are_words, PySem.W.mg_of X G h_P_are_words, b_P_are_words⟩⟩,
    ⟨⟨_, _, F_L_is_prime, PySem.W.mg_of X G h_L_is_prime, b_L_is_prime⟩⟩,
    ⟨⟨_, _, F_L_draw, PySem.W.mg_of X G h_L_draw, b_L_draw⟩⟩,
    ⟨⟨_, _, F_P_points, PySem.W.mg_of X G h_P_points, b_P_points⟩⟩,
    ⟨⟨_, _, F_P_ties, PySem.W.mg_of X G h_P_ties, b_P_ties⟩⟩,
    ⟨⟨_, _, F_P_walks_to, PySem.W.mg_of X G h_P_walks_to, b_P_walks_to⟩⟩,
    ⟨⟨_, _, F_P_closed_numbers, PySem.W.mg_of X G h_P_closed_numbers, b_P_closed_numbers⟩⟩,
    ⟨⟨_, _, F_P_divisor, PySem.W.mg_of X G h_P_divisor, b_P_divisor⟩⟩,
    ⟨⟨_, _, F_P_many, PySem.W.mg_of X G h_P_many, b_P_many, p_P_many⟩⟩,
    ⟨⟨_, _, F_L_one, PySem.W.mg_of X G h_L_one, b_L_one⟩⟩,
    ⟨⟨_, _, F_L_power, PySem.W.mg_of X G h_L_power, b_L_power⟩⟩,
    ⟨⟨_, _, F_P_colours, PySem.W.mg_of X G h_P_colours, b_P_colours⟩⟩,
    ⟨⟨_, _, F_L_colours_right, PySem.W.mg_of X G h_L_colours_right, b_L_colours_right⟩⟩,
    ⟨⟨_, _, F_P_spread, PySem.W.mg_of X G h_P_spread, b_P_spread⟩⟩,
    ⟨⟨_, _, F_L_spread_right, PySem.W.mg_of X G h_L_spread_right, b_L_spread_right⟩⟩,
    ⟨⟨_, _, F_L_lists, PySem.W.mg_of X G h_L_lists, b_L_lists⟩⟩,
    ⟨⟨_, _, F_L_right, PySem.W.mg_of X G h_L_right, b_L_right⟩⟩,
    ⟨⟨_, _, F_L_well, PySem.W.mg_of X G h_L_well, b_L_well⟩⟩⟩
  exact ⟨_, fun s v => .of_eq rfl, fun base _ _ => ok_L_law Z F_L_law⟩
end K18
open PySem PySem.W PyProof.Rows
set_option maxHeartbeats 0 in
theorem PySem.Challenge.cw_ringrules_k18_whole_named_rules_counted_holds : PySem.Challenge.rw_ringrules_k18_whole_named_rules_counted.Holds := by
  w_on; o_law; k_head; (case hw => w_witness2)
  k_fill
  refine B.walk_B (l := PySem.Challenge.rw_ringrules_k18_whole_named_rules_counted) (n := 63) (k := 9) (x := "_law_script") (sp := fun w mg => B.spB _ mg [false] K18.r_L_law) rfl (by decide) rfl ⟨rfl, by decide, by decide⟩ (fun w h Y => PySem.W.kIn_of Y) ?F (fun _ _ _ a ns hl hb hS => B.sp_law hS (K18.law_true ns hl hb))
  case F =>
    intro w mg fa h KX G hmg
    refine' K18.all_mk KX G hmg ?g_RuleError ?g_NoRule ?g_NoLength ?g_NoTurns ?g_Rule ?xk_NoRule ?xt_NoRule ?xs_NoRule ?xl_NoRule ?xv_NoRule ?xa_NoRule ?xn_NoRule ?xy_NoRule ?xfl_NoRule ?xfc_NoRule ?xfk_NoRule ?xf_NoRule ?xi_NoLength ?xk_NoLength ?xt_NoLength ?xs_NoLength ?xi_NoTurns ?xk_NoTurns ?xt_NoTurns ?xs_NoTurns ?rr_RuleError ?rg_RuleError ?rv_RuleError ?cp_Rule ?ch_Rule ?co_Rule ?cs_Rule ?cn_Rule_size ?cn_Rule_wide ?cn_Rule_words ?cm_Rule ?ci_Rule ?cf_Rule ?ck_Rule ?h_L_cell_at ?l_L_cell_at ?c_L_cell_at ?k_L_cell_at ?h_P_is_from ?l_P_is_from ?c_P_is_from ?k_P_is_from ?h_P_is_word ?l_P_is_word ?c_P_is_word ?k_P_is_word ?h_P_are_words ?l_P_are_words ?c_P_are_words ?k_P_are_words ?l_P_Rule_init ?c_P_Rule_init ?k_P_Rule_init ?h_L_is_prime ?l_L_is_prime ?c_L_is_prime ?k_L_is_prime ?h_L_draw ?l_L_draw ?c_L_draw ?k_L_draw ?h_P_points ?l_P_points ?c_P_points ?k_P_points ?h_P_ties ?l_P_ties ?c_P_ties ?k_P_ties ?h_P_walks_to ?l_P_walks_to ?c_P_walks_to ?k_P_walks_to ?h_P_closed_numbers ?l_P_closed_numbers ?c_P_closed_numbers ?k_P_closed_numbers ?h_P_divisor ?l_P_divisor ?c_P_divisor ?k_P_divisor ?h_P_many ?l_P_many ?c_P_many ?k_P_many ?d_P_many_turns ?h_L_one ?l_L_one ?c_L_one ?k_L_one ?h_L_power ?l_L_power ?c_L_power ?k_L_power ?h_P_colours ?l_P_colours ?c_P_colours ?k_P_colours ?h_L_colours_right ?l_L_colours_right ?c_L_colours_right ?k_L_colours_right ?h_P_spread ?l_P_spread ?c_P_spread ?k_P_spread ?h_L_spread_right ?l_L_spread_right ?c_L_spread_right ?k_L_spread_right ?h_L_lists ?l_L_lists ?c_L_lists ?k_L_lists ?h_L_right ?l_L_right ?c_L_right ?k_L_right ?h_L_well ?l_L_well ?c_L_well ?k_L_well ?h_L_law ?l_L_law ?c_L_law ?k_L_law ?g_MOST_SIZE ?g_MOST_WIDE ?g_MOST_LENGTH ?z_len ?z_range ?z_isinstance ?z_int ?z_bool ?z_list ?z_tuple ?z_str ?z_dict ?z_set ?z_sorted ?z_repr ?z_min ?z_max ?z_sum ?z_all ?z_any ?z_zip ?z_enumerate ?z_abs
    (case g_RuleError => k_is); (case g_NoRule => k_is); (case g_NoLength => k_is); (case g_NoTurns => k_is); (case g_Rule => k_is); (case xk_NoRule => k_is); (case xt_NoRule => k_is); (case xs_NoRule => k_is); (case xl_NoRule => k_is); (case xv_NoRule => first | rfl | decide +kernel); (case xa_NoRule => k_is); (case xn_NoRule => k_is); (case xy_NoRule => k_is); (case xfl_NoRule => k_is); (case xfc_NoRule => k_is); (case xfk_NoRule => k_is); (case xf_NoRule => k_is); (case xi_NoLength => k_exc); (case xk_NoLength => k_is); (case xt_NoLength => k_is); (case xs_NoLength => k_is); (case xi_NoTurns => k_exc); (case xk_NoTurns => k_is); (case xt_NoTurns => k_is); (case xs_NoTurns => k_is); (case rr_RuleError => k_is); (case rg_RuleError => k_is); (case rv_RuleError => k_is); (case cp_Rule => k_is); (case ch_Rule => k_is); (case co_Rule => k_is); (case cs_Rule => k_is); (case cn_Rule_size => k_is); (case cn_Rule_wide => k_is); (case cn_Rule_words => k_is); (case cm_Rule => k_is); (case ci_Rule => k_is); (case cf_Rule => k_is); (case ck_Rule => k_is); (case h_L_cell_at => k_is); (case l_L_cell_at => k_is); (case c_L_cell_at => k_is); (case k_L_cell_at => k_is); (case h_P_is_from => k_is); (case l_P_is_from => k_is); (case c_P_is_from => k_is); (case k_P_is_from => k_is); (case h_P_is_word => k_is); (case l_P_is_word => k_is); (case c_P_is_word => k_is); (case k_P_is_word => k_is); (case h_P_are_words => k_is); (case l_P_are_words => k_is); (case c_P_are_words => k_is); (case k_P_are_words => k_is); (case l_P_Rule_init => k_is); (case c_P_Rule_init => k_is); (case k_P_Rule_init => k_is); (case h_L_is_prime => k_is); (case l_L_is_prime => k_is); (case c_L_is_prime => k_is); (case k_L_is_prime => k_is); (case h_L_draw => k_is); (case l_L_draw => k_is); (case c_L_draw => k_is); (case k_L_draw => k_is); (case h_P_points => k_is); (case l_P_points => k_is); (case c_P_points => k_is); (case k_P_points => k_is); (case h_P_ties => k_is); (case l_P_ties => k_is); (case c_P_ties => k_is); (case k_P_ties => k_is); (case h_P_walks_to => k_is); (case l_P_walks_to => k_is); (case c_P_walks_to => k_is); (case k_P_walks_to => k_is); (case h_P_closed_numbers => k_is); (case l_P_closed_numbers => k_is); (case c_P_closed_numbers => k_is); (case k_P_closed_numbers => k_is); (case h_P_divisor => k_is); (case l_P_divisor => k_is); (case c_P_divisor => k_is); (case k_P_divisor => k_is); (case h_P_many => k_is); (case l_P_many => k_is); (case c_P_many => k_is); (case k_P_many => k_is); (case d_P_many_turns => k_is); (case h_L_one => k_is); (case l_L_one => k_is); (case c_L_one => k_is); (case k_L_one => k_is); (case h_L_power => k_is); (case l_L_power => k_is); (case c_L_power => k_is); (case k_L_power => k_is); (case h_P_colours => k_is); (case l_P_colours => k_is); (case c_P_colours => k_is); (case k_P_colours => k_is); (case h_L_colours_right => k_is); (case l_L_colours_right => k_is); (case c_L_colours_right => k_is); (case k_L_colours_right => k_is); (case h_P_spread => k_is); (case l_P_spread => k_is); (case c_P_spread => k_is); (case k_P_spread => k_is); (case h_L_spread_right => k_is); (case l_L_spread_right => k_is); (case c_L_spread_right => k_is); (case k_L_spread_right => k_is); (case h_L_lists => k_is); (case l_L_lists => k_is); (case c_L_lists => k_is); (case k_L_lists => k_is); (case h_L_right => k_is); (case l_L_right => k_is); (case c_L_right => k_is); (case k_L_right => k_is); (case h_L_well => k_is); (case l_L_well => k_is); (case c_L_well => k_is); (case k_L_well => k_is); (case h_L_law => k_is); (case l_L_law => k_is); (case c_L_law => k_is); (case k_L_law => k_is); (case g_MOST_SIZE => k_is); (case g_MOST_WIDE => k_is); (case g_MOST_LENGTH => k_is); (case z_len => k_is); (case z_range => k_is); (case z_isinstance => k_is); (case z_int => k_is); (case z_bool => k_is); (case z_list => k_is); (case z_tuple => k_is); (case z_str => k_is); (case z_dict => k_is); (case z_set => k_is); (case z_sorted => k_is); (case z_repr => k_is); (case z_min => k_is); (case z_max => k_is); (case z_sum => k_is); (case z_all => k_is); (case z_any => k_is); (case z_zip => k_is); (case z_enumerate => k_is); (case z_abs => k_is)

