import PyProof.Rows.All
import Wide.All
import OpenK.AllK
import Wide.FinOn
import HandS.ForMost
import HandS.ForExc
import HandS.CallSlots
import HandS.Lambda
import HandS.EndTab
import HandS.ExcValue
import HandS.ExcInit
import HandS.TupAny
import HandS.TupMul
import HandS.TupLe
import HandS.Deep
import HandS.Wide
import HandS.Flow
import HandS.Style
import HandS.IsInst
import HandS.Defaults
import HandS.EndBits
import HandS.Comp
import HandS.Zip
import HandS.TryMany
import HandS.ExcField
import HandS.ExcIs
import KE.KExcIs
import HandS.More
import HandS.SetFor
import HandS.TupSets
import KE.SortData
import KE.DataCmp
import KE.DataFind
import HandS.Text
import PyProof.InstNe
import HandS.Conv
import HandS.RaiseMore
import PyProof.FactsAll.set_2
import HandS.SetBool
import HandS.DictComp
import PyProof.DictRoadsH
import PyProof.DictMoreH
import KE.KDictCopyH
import HandS.Iter
import KE.DataMinMax
import KE.KRevSl
import PyProof.StrBlock2
import PyProof.StrOps2
import HandS.Codes
import HandS.TryOnly
import KE.KUnpackStar
import KE.KDictWalk
import KE.KPairComp
import KE.KDictDisplayH
import HandS.Call
import KE.KDictPairs
import PyProof.DictDisplay
import HandS.DictTup
import HandS.TupLen
import KE.GoesEnum
import KE.GoesMore
import HandS.WideBits
import HandS.List
import HandS.SortInts
import HandS.SortKw
import HandS.OwnEq
import PySem.Challenge.RW_ringrules_k01_rules_told
set_option Elab.async false
set_option linter.all false
set_option maxRecDepth 100000
set_option maxHeartbeats 4000000
namespace B
open PySem PySem.Spec L2

/-! ## values without a heap -/
inductive Tag where
  | tup | lst | dct | scr | wtp | dcg | ins (c : Str) (fs : List Str) | xc (c : Str) (fs : List Str)
  deriving DecidableEq
inductive D where
  | non | bl (b : Bool) | int (i : Int) | str (x : Str) | nd (t : Tag) (ds : List D)
abbrev D.tup (ds : List D) : D := .nd .tup ds
abbrev D.lst (ds : List D) : D := .nd .lst ds
abbrev D.dct (ds : List D) : D := .nd .dct ds
/-- a key of a dict as data -/
def keyD : Key → D
  | .inl i => .int i
  | .inr x => .str x
/-- the entries of a dict, as tuples -/
inductive KDs : List Key → List D → List D → Prop
  | nil : KDs [] [] []
  | cons {k : Key} {ks : List Key} {d : D} {ds es : List D} : KDs ks ds es → KDs (k :: ks) (d :: ds) (.tup [keyD k, d] :: es)
inductive TDs : List (List Key) → List D → List D → Prop
  | nil : TDs [] [] []
  | cons {k : List Key} {ks : List (List Key)} {d : D} {ds es : List D} : TDs ks ds es → TDs (k :: ks) (d :: ds) (.tup [.tup (k.map keyD), d] :: es)
/-- one entry at least -/
def TDn (ks : List (List Key)) (ds es : List D) : Prop := TDs ks ds es ∧ es ≠ []
/-- a tuple's hash -/
def hT (ks : List Int) : Int := reduceHash (Builtin.Tuple.tupleHashOf (ks.map hashInt))
/-- the dict at a whose keys are tuples of ints: each entry's key, where this stands, the value -/
def DicG0 (h : Heap) (a : Addr) (xs : List (List Int × Addr × V)) (ep : Nat) : Prop := xs.length ≤ sizeLine ∧ (a == sysModules) = false ∧ ∃ ys : List (List Int × Addr × Value), Paired (fun (p : List Int × Addr × V) (q : List Int × Addr × Value) => p.1 = q.1 ∧ p.2.1 = q.2.1 ∧ RelV p.2.2 q.2.2) xs ys ∧
  ∃ o es, h.get? a = some o ∧ o.ExactDict ∧ o.data = .dict es ep ∧ es.toList = ys.map (fun x => (⟨hT x.1, .ref x.2.1, x.2.2⟩ : DictEntry)) ∧ (ys.map (·.1)).Nodup
def DicG (a : Addr) (xs : List (List Int × Addr × V)) (ep : Nat) : HO := .ext fun h => DicG0 h a xs ep
theorem dicG_nc {a : Addr} {xs : List (List Int × Addr × V)} {ep : Nat} (c : Addr) (q : Str) : DicG a xs ep ≠ LamX.CodeO c q := fun e => by
  have e3 := congrFun (HO.ext.inj e) { objs := Array.replicate (c + 1) { cls := .none, data := .fields #[.none, .str q 0] } }
  have hc : (fun h : Heap => ∃ (oc : Obj) (vs : Array Value) (t : Tok), h.get? c = some oc ∧ oc.data = .fields vs ∧ vs[1]? = some (.str q t)) { objs := Array.replicate (c + 1) { cls := .none, data := .fields #[.none, .str q 0] } } := by
    refine ⟨{ cls := .none, data := .fields #[.none, .str q 0] }, _, 0, ?_, rfl, rfl⟩
    simp [Heap.get?]
  have hs : DicG0 { objs := Array.replicate (c + 1) { cls := .none, data := .fields #[.none, .str q 0] } } a xs ep := by
    rw [show DicG0 _ a xs ep = _ from e3]
    exact hc
  obtain ⟨_, _, ys, _, o, es, ho, _, hd, _⟩ := hs
  simp only [Heap.get?] at ho
  by_cases ha : a < c + 1
  · rw [Array.getElem?_replicate, if_pos ha] at ho
    cases ho
    cases hd
  · rw [Array.getElem?_replicate, if_neg ha] at ho
    cases ho
/-- such a dict's entries as data -/
inductive GDs : List (List Int) → List D → List D → Prop
  | nil : GDs [] [] []
  | cons {k : List Int} {ks : List (List Int)} {d : D} {ds es : List D} : GDs ks ds es → GDs (k :: ks) (d :: ds) (.nd .tup [.nd .tup (k.map D.int), d] :: es)
/-- an exception that is held as a value: without a dict, or with a dict of its fields -/
def XcAt (F : Hp) (a C : Addr) (fs : List (Str × V)) : Prop := (fs = [] ∧ F a = some (ExO (.ref C) a)) ∨ ∃ dx, F a = some (exo a C (some dx)) ∧ F dx = some (exd dx fs)
theorem XcAt.mono {F F' : Hp} {a C : Addr} {fs : List (Str × V)} (e : Same F F') (h : XcAt F a C fs) : XcAt F' a C fs := by
  rcases h with ⟨h1, h2⟩ | ⟨dx, h1, h2⟩
  · exact .inl ⟨h1, e _ _ h2⟩
  · exact .inr ⟨dx, e _ _ h1, e _ _ h2⟩
mutual
/-- v stands for d, in the heap F -/
inductive DR (K : PySem.W.Frag) (mg : Str → Option Value) (F : Hp) : V → D → Prop
  | non : DR K mg F .non .non
  | bl (b : Bool) : DR K mg F (.bl b) (.bl b)
  | int (i : Int) : DR K mg F (.int i) (.int i)
  | str (x : Str) : DR K mg F (.str x) (.str x)
  | tup {a : Addr} {vs : List V} {ds : List D} : F a = some (.tup vs) → DRs K mg F vs ds → DR K mg F (.ref a) (.nd .tup ds)
  | wtp {a : Addr} {vs : List V} {ds : List D} : SqT K F a vs → DRs K mg F vs ds → DR K mg F (.ref a) (.nd .wtp ds)
  | lst {a : Addr} {vs : List V} {ds : List D} : F a = some (.lst vs) → DRs K mg F vs ds → DR K mg F (.ref a) (.nd .lst ds)
  | scr {a : Addr} {vs : List V} {ds : List D} : SqL K F a vs → DRs K mg F vs ds → DR K mg F (.ref a) (.nd .scr ds)
  | dK {a : Addr} {kvs : List (Key × V)} {ds es : List D} : F a = some (.dK kvs) → DRs K mg F (kvs.map (·.2)) ds → KDs (kvs.map (·.1)) ds es → DR K mg F (.ref a) (.nd .dct es)
  | dT {a : Addr} {kvs : List (List Key × V)} {ds es : List D} : F a = some (.dT kvs) → DRs K mg F (kvs.map (·.2)) ds → TDn (kvs.map (·.1)) ds es → DR K mg F (.ref a) (.nd .dct es)
  | dg {a : Addr} {xs : List (List Int × Addr × V)} {ep : Nat} {ds es : List D} : F a = some (DicG a xs ep) → (∀ x ∈ xs, F x.2.1 = some (.tup (x.1.map V.int))) → DRs K mg F (xs.map (·.2.2)) ds → GDs (xs.map (·.1)) ds es → DR K mg F (.ref a) (.nd .dcg es)
  | ins {a C dx : Addr} {c : Str} {fs : List (Str × V)} {ds : List D} : F a = some (.ins C dx fs) → mg c = some (.ref C) → DRs K mg F (fs.map (·.2)) ds → DR K mg F (.ref a) (.nd (.ins c (fs.map (·.1))) ds)
  | xc {a C : Addr} {c : Str} {fs : List (Str × V)} {ds : List D} : XcAt F a C fs → mg c = some (.ref C) → DRs K mg F (fs.map (·.2)) ds → DR K mg F (.ref a) (.nd (.xc c (fs.map (·.1))) ds)
inductive DRs (K : PySem.W.Frag) (mg : Str → Option Value) (F : Hp) : List V → List D → Prop
  | nil : DRs K mg F [] []
  | cons {v : V} {vs : List V} {d : D} {ds : List D} : DR K mg F v d → DRs K mg F vs ds → DRs K mg F (v :: vs) (d :: ds)
end
section
variable {K : PySem.W.Frag} {mg : Str → Option Value} {F F' H : Hp}
theorem Same.rd {a : Addr} {u : HO} (e : Same F F') (h : Rd F a u) : Rd F' a u := by
  rcases h with h | ⟨o, h⟩
  · exact .inl (e _ _ h)
  · exact .inr ⟨o, e _ _ h⟩
theorem Same.sqT {a : Addr} {vs : List V} (e : Same F F') (h : SqT K F a vs) : SqT K F' a vs := by
  rcases h with h | h
  · exact .inl (Same.rd e h)
  · exact .inr h
theorem Same.tp {a : Addr} {vs : List V} (e : Same F F') (h : F a = some (.tup vs)) : SqT K F' a vs := .inl (.inl (e _ _ h))
theorem Same.sqL {a : Addr} {vs : List V} (e : Same F F') (h : SqL K F a vs) : SqL K F' a vs := by
  rcases h with h | h
  · exact .inl (Same.rd e h)
  · exact .inr h
mutual
theorem DR.mono (e : Same F F') : ∀ {v : V} {d : D}, DR K mg F v d → DR K mg F' v d
  | _, _, .non => .non
  | _, _, .bl b => .bl b
  | _, _, .int i => .int i
  | _, _, .str x => .str x
  | _, _, .tup h r => .tup (e _ _ h) (DRs.mono e r)
  | _, _, .wtp h r => .wtp (Same.sqT e h) (DRs.mono e r)
  | _, _, .lst h r => .lst (e _ _ h) (DRs.mono e r)
  | _, _, .scr h r => .scr (Same.sqL e h) (DRs.mono e r)
  | _, _, .dK h r q => .dK (e _ _ h) (DRs.mono e r) q
  | _, _, .dT h r q => .dT (e _ _ h) (DRs.mono e r) q
  | _, _, .dg h k r q => .dg (e _ _ h) (fun x hx => e _ _ (k x hx)) (DRs.mono e r) q
  | _, _, .ins h g r => .ins (e _ _ h) g (DRs.mono e r)
  | _, _, .xc h g r => .xc (h.mono e) g (DRs.mono e r)
theorem DRs.mono (e : Same F F') : ∀ {vs : List V} {ds : List D}, DRs K mg F vs ds → DRs K mg F' vs ds
  | _, _, .nil => .nil
  | _, _, .cons a b => .cons (DR.mono e a) (DRs.mono e b)
end
theorem DRs.length : ∀ {vs : List V} {ds : List D}, DRs K mg F vs ds → vs.length = ds.length
  | _, _, .nil => rfl
  | _, _, .cons _ b => by rw [List.length_cons, List.length_cons, DRs.length b]
theorem DRs.get : ∀ {vs : List V} {ds : List D} {i : Nat} {v : V}, DRs K mg F vs ds → vs[i]? = some v → ∃ d, ds[i]? = some d ∧ DR K mg F v d
  | _, _, _, _, .nil, h => by simp at h
  | _, _, 0, _, .cons a _, h => by
    have e := Option.some.inj h
    subst e
    exact ⟨_, rfl, a⟩
  | _, _, i + 1, v, .cons _ b, h => DRs.get (i := i) b h
theorem DRs.getD : ∀ {vs : List V} {ds : List D} {i : Nat} {d : D}, DRs K mg F vs ds → ds[i]? = some d → ∃ v, vs[i]? = some v ∧ DR K mg F v d
  | _, _, _, _, .nil, h => by simp at h
  | _, _, 0, _, .cons a _, h => by
    have e := Option.some.inj h
    subst e
    exact ⟨_, rfl, a⟩
  | _, _, i + 1, d, .cons _ b, h => DRs.getD (i := i) b h
theorem DRs.append : ∀ {vs ws : List V} {ds es : List D}, DRs K mg F vs ds → DRs K mg F ws es → DRs K mg F (vs ++ ws) (ds ++ es)
  | _, _, _, _, .nil, s => s
  | _, _, _, _, .cons a b, s => .cons a (DRs.append b s)
theorem DRs.take : ∀ {vs : List V} {ds : List D} (n : Nat), DRs K mg F vs ds → DRs K mg F (vs.take n) (ds.take n)
  | _, _, 0, _ => .nil
  | _, _, _ + 1, .nil => .nil
  | _, _, n + 1, .cons a b => .cons a (DRs.take n b)
theorem DRs.drop : ∀ {vs : List V} {ds : List D} (n : Nat), DRs K mg F vs ds → DRs K mg F (vs.drop n) (ds.drop n)
  | _, _, 0, h => h
  | _, _, _ + 1, .nil => .nil
  | _, _, n + 1, .cons _ b => DRs.drop n b
theorem DRs.set {v : V} {d : D} (h : DR K mg F v d) : ∀ {vs : List V} {ds : List D} (i : Nat), DRs K mg F vs ds → DRs K mg F (vs.set i v) (ds.set i d)
  | _, _, _, .nil => .nil
  | _, _, 0, .cons _ b => .cons h b
  | _, _, i + 1, .cons a b => .cons a (DRs.set h i b)
theorem DRs.reverse {vs : List V} {ds : List D} (h : DRs K mg F vs ds) : DRs K mg F vs.reverse ds.reverse := by
  have key : ∀ {vs : List V} {ds : List D} {ws : List V} {es : List D}, DRs K mg F vs ds → DRs K mg F ws es → DRs K mg F (vs.reverse ++ ws) (ds.reverse ++ es) := by
    intro vs
    induction vs with
    | nil =>
      intro ds ws es h1 h2
      cases h1
      exact h2
    | cons v vs ih =>
      intro ds ws es h1 h2
      cases h1 with
      | cons a b =>
        rw [List.reverse_cons, List.reverse_cons, List.append_assoc, List.append_assoc]
        exact ih b (.cons a h2)
  have := key h (.nil (K := K) (mg := mg) (F := F))
  rwa [List.append_nil, List.append_nil] at this
theorem DRs.ints : ∀ (ns : List Int), DRs K mg F (ns.map V.int) (ns.map D.int)
  | [] => .nil
  | n :: ns => .cons (.int n) (DRs.ints ns)
theorem DRs.int_of : ∀ {vs : List V} {ns : List Int}, DRs K mg F vs (ns.map D.int) → vs = ns.map V.int
  | _, [], .nil => rfl
  | _, n :: ns, .cons a b => by
    cases a
    rw [List.map_cons, DRs.int_of b]
theorem DRs.bl_of : ∀ {vs : List V} {bs : List Bool}, DRs K mg F vs (bs.map D.bl) → vs = bs.map V.bl
  | _, [], .nil => rfl
  | _, n :: ns, .cons a b => by
    cases a
    rw [List.map_cons, DRs.bl_of b]
end
/-! ## data that no object that can change belongs to -/
mutual
def imm : D → Bool
  | .nd .tup ds => imms ds
  | .nd .wtp ds => imms ds
  | .nd _ _ => false
  | _ => true
def imms : List D → Bool
  | [] => true
  | d :: ds => imm d && imms ds
end
/-- tuples (and what is written, locked) stand in F' -/
def Tups (F F' : Hp) : Prop := ∀ a xs, F a = some (.tup xs) → F' a = some (.tup xs)
def Frzs (F F' : Hp) : Prop := ∀ a o u, F a = some (.frz o u) → F' a = some (.frz o u)
mutual
theorem DR.imm {K : PySem.W.Frag} {mg : Str → Option Value} {F F' : Hp} (t : Tups F F') (z : Frzs F F') : ∀ {v : V} {d : D}, DR K mg F v d → imm d = true → DR K mg F' v d
  | _, _, .non, _ => .non
  | _, _, .bl b, _ => .bl b
  | _, _, .int i, _ => .int i
  | _, _, .str x, _ => .str x
  | _, _, .tup h r, e => .tup (t _ _ h) (DRs.imm t z r (by simpa [B.imm] using e))
  | _, _, .wtp h r, e => by
    refine .wtp ?_ (DRs.imm t z r (by simpa [B.imm] using e))
    rcases h with (h | ⟨o, h⟩) | h
    · exact .inl (.inl (t _ _ h))
    · exact .inl (.inr ⟨o, z _ _ _ h⟩)
    · exact .inr h
  | _, _, .lst h r, e => by simp [B.imm] at e
  | _, _, .scr h r, e => by simp [B.imm] at e
  | _, _, .dK h r q, e => by simp [B.imm] at e
  | _, _, .dT h r q, e => by simp [B.imm] at e
  | _, _, .dg h k r q, e => by simp [B.imm] at e
  | _, _, .ins h g r, e => by simp [B.imm] at e
  | _, _, .xc h g r, e => by simp [B.imm] at e
theorem DRs.imm {K : PySem.W.Frag} {mg : Str → Option Value} {F F' : Hp} (t : Tups F F') (z : Frzs F F') : ∀ {vs : List V} {ds : List D}, DRs K mg F vs ds → imms ds = true → DRs K mg F' vs ds
  | _, _, .nil, _ => .nil
  | _, _, .cons a b, e => by
    simp only [B.imms, Bool.and_eq_true] at e
    exact .cons (DR.imm t z a e.1) (DRs.imm t z b e.2)
end

/-! ## slots, states, runs -/
/-- an exception: its class's name, its fields -/
structure Exn where
  cls : Str
  fs : List (Str × D)
/-- a caught exception: where, of which class, where its dict is, its data -/
structure Ez where
  a : Addr
  cls : Value
  dd : Option Addr
  x : Exn
  /-- of a lambda: what its maker's names hold, as data; objects that stay -/
  vs : List V
  ds : List D
  cs : List (Addr × HO)
abbrev ez (a : Addr) (cls : Value) (dd : Option Addr) (x : Exn) : Ez := ⟨a, cls, dd, x, [], [], []⟩
/-- what a name holds: nothing; data that stays as it is; a caught exception; an object of one's own (io: the caller's, handed in to be changed) -/
inductive Sl where
  | un | fz (d : D) | ex (z : Ez) | own (io : Option Nat) (d : D) | gh (ts : List (Addr × Str))
abbrev Env := List Sl
inductive R (α : Type) where
  | stuck | ok (a : α) (β : Env) | exc (x : Exn) (β : Env)
abbrev M (α : Type) := Env → R α
def R.bnd {α γ : Type} (r : R α) (f : α → Env → R γ) : R γ := match r with
  | .stuck => .stuck
  | .ok a β => f a β
  | .exc x β => .exc x β
def ret {α : Type} (a : α) : M α := fun β => .ok a β
def bnd {α γ : Type} (m : M α) (f : α → M γ) : M γ := fun β => (m β).bnd f
def stk {α : Type} : M α := fun _ => .stuck
def liftO {α : Type} (o : Option α) : M α := match o with
  | none => stk
  | some a => ret a
theorem R.bnd_assoc {α γ δ : Type} (r : R α) (f : α → Env → R γ) (g : γ → Env → R δ) : (r.bnd f).bnd g = r.bnd fun a β => (f a β).bnd g := by cases r <;> rfl
theorem bnd_assoc {α γ δ : Type} (m : M α) (f : α → M γ) (g : γ → M δ) : bnd (bnd m f) g = bnd m fun a => bnd (f a) g := by
  funext β
  exact R.bnd_assoc _ _ _
/-- what an expression hands back: data that stays; a new object that nobody else holds -/
inductive Rs where
  | fz (d : D) | own (d : D)
def Rs.d : Rs → D
  | .fz d => d
  | .own d => d
/-- a value that is read at once: data, or what stands in a slot -/
inductive Pl where
  | d (d : D) | sl (i : Nat)
def look (β : Env) : Pl → Option D
  | .d d => some d
  | .sl i => match β[i]? with
    | some (.fz d) => some d
    | some (.own _ d) => some d
    | _ => none
inductive Fl where
  | nx | ret (r : Rs) | brk | ct

/-! ## the invariant -/
/-- an object of one's own at a: its content, of data that stays -/
inductive OwnR (K : PySem.W.Frag) (mg : Str → Option Value) (F H : Hp) (a : Addr) : D → Prop
  | lst {vs : List V} {ds : List D} : H a = some (.lst vs) → DRs K mg F vs ds → OwnR K mg F H a (.nd .lst ds)
  | dK {kvs : List (Key × V)} {ds es : List D} : H a = some (.dK kvs) → DRs K mg F (kvs.map (·.2)) ds → KDs (kvs.map (·.1)) ds es → OwnR K mg F H a (.nd .dct es)
  | dT {kvs : List (List Key × V)} {ds es : List D} : H a = some (.dT kvs) → DRs K mg F (kvs.map (·.2)) ds → TDn (kvs.map (·.1)) ds es → OwnR K mg F H a (.nd .dct es)
  | dg {xs : List (List Int × Addr × V)} {ep : Nat} {ds es : List D} : H a = some (DicG a xs ep) → (∀ x ∈ xs, F x.2.1 = some (.tup (x.1.map V.int))) → DRs K mg F (xs.map (·.2.2)) ds → GDs (xs.map (·.1)) ds es → OwnR K mg F H a (.nd .dcg es)
  | ins {C dx : Addr} {c : Str} {fs : List (Str × V)} {ds : List D} : H a = some (.ins C dx fs) → mg c = some (.ref C) → DRs K mg F (fs.map (·.2)) ds → OwnR K mg F H a (.nd (.ins c (fs.map (·.1))) ds)
section
variable {K : PySem.W.Frag} {mg : Str → Option Value} {G : GT} {F F' H H' : Hp} {io : List Addr} {β : Env} {σ : L2.St} {a : Addr} {d : D}
theorem OwnR.there (h : OwnR K mg F H a d) : ∃ o, H a = some o ∧ (∀ xs, o ≠ .tup xs) ∧ ∀ ob u, o ≠ .frz ob u := by
  cases h with
  | lst h _ => exact ⟨_, h, fun _ => nofun, fun _ _ => nofun⟩
  | dK h _ _ => exact ⟨_, h, fun _ => nofun, fun _ _ => nofun⟩
  | dT h _ _ => exact ⟨_, h, fun _ => nofun, fun _ _ => nofun⟩
  | dg h _ _ _ => exact ⟨_, h, fun _ => nofun, fun _ _ => nofun⟩
  | ins h _ _ => exact ⟨_, h, fun _ => nofun, fun _ _ => nofun⟩
theorem OwnR.nc (h : OwnR K mg F H a d) : ∀ c q, H a ≠ some (LamX.CodeO c q) := fun c q z => by
  cases h with
  | lst h _ => unfold LamX.CodeO at z; rw [h] at z; cases z
  | dK h _ _ => unfold LamX.CodeO at z; rw [h] at z; cases z
  | dT h _ _ => unfold LamX.CodeO at z; rw [h] at z; cases z
  | dg h _ _ _ => exact dicG_nc c q (Option.some.inj (h.symm.trans z))
  | ins h _ _ => unfold LamX.CodeO at z; rw [h] at z; cases z
theorem OwnR.mono (h : OwnR K mg F H a d) (e : Same F F') (eh : H' a = H a) : OwnR K mg F' H' a d := by
  cases h with
  | lst h r => exact .lst (eh.trans h) (r.mono e)
  | dK h r q => exact .dK (eh.trans h) (r.mono e) q
  | dT h r q => exact .dT (eh.trans h) (r.mono e) q
  | dg h k r q => exact .dg (eh.trans h) (fun x hx => e _ _ (k x hx)) (r.mono e) q
  | ins h g r => exact .ins (eh.trans h) g (r.mono e)
/-- as data, where a stands -/
theorem OwnR.dr (h : OwnR K mg F H a d) (e : Same F F') (ea : F' a = H a) : DR K mg F' (.ref a) d := by
  cases h with
  | lst h r => exact .lst (ea.trans h) (r.mono e)
  | dK h r q => exact .dK (ea.trans h) (r.mono e) q
  | dT h r q => exact .dT (ea.trans h) (r.mono e) q
  | dg h k r q => exact .dg (ea.trans h) (fun x hx => e _ _ (k x hx)) (r.mono e) q
  | ins h g r => exact .ins (ea.trans h) g (r.mono e)
end
/-- an exception that flies: its class, its own dict -/
def XR (K : PySem.W.Frag) (mg : Str → Option Value) (F : Hp) (cls : Value) (d : Option Addr) (x : Exn) : Prop :=
  (mg x.cls = some cls) ∧ ((x.fs = [] ∧ d = none) ∨ ∃ dd fs ds, d = some dd ∧ F dd = some (.xd fs) ∧ fs.map (·.1) = x.fs.map (·.1) ∧ DRs K mg F (fs.map (·.2)) ds ∧ ds = x.fs.map (·.2))
theorem XR.mono {K : PySem.W.Frag} {mg : Str → Option Value} {F F' : Hp} {cls : Value} {d : Option Addr} {x : Exn} (e : Same F F') (h : XR K mg F cls d x) : XR K mg F' cls d x := by
  obtain ⟨h1, h | ⟨dd, fs, ds, h2, h3, h4, h5, h6⟩⟩ := h
  · exact ⟨h1, .inl h⟩
  · exact ⟨h1, .inr ⟨dd, fs, ds, h2, e _ _ h3, h4, h5.mono e, h6⟩⟩
/-- what such a slot tells of the data -/
structure XZ (K : PySem.W.Frag) (mg : Str → Option Value) (F : Hp) (z : Ez) : Prop where
  r : XR K mg F z.cls z.dd z.x
  vs : DRs K mg F z.vs z.ds
  cs : ∀ p ∈ z.cs, F p.1 = some p.2
theorem XZ.mono {K : PySem.W.Frag} {mg : Str → Option Value} {F F' : Hp} {z : Ez} (h : XZ K mg F z) (e : Same F F') : XZ K mg F' z := ⟨h.r.mono e, h.vs.mono e, fun p hp => e _ _ (h.cs p hp)⟩
theorem XZ.ez {K : PySem.W.Frag} {mg : Str → Option Value} {F : Hp} {a : Addr} {cls : Value} {dd : Option Addr} {x : Exn} (h : XR K mg F cls dd x) : XZ K mg F (ez a cls dd x) := ⟨h, .nil, fun _ z => (nomatch z)⟩
/-- what stays: objects as they are; tables of code objects, by the name that these bear -/
structure GT where
  g : Hp
  t : Addr → Option Str
def GT.dom (G : GT) (a : Addr) : Option Unit := match G.t a with
  | some _ => some ()
  | none => (G.g a).map fun _ => ()
instance : CoeFun GT fun _ => Addr → Option Unit := ⟨GT.dom⟩
structure Keep (G : GT) (F H : Hp) : Prop where
  g : ∀ a o, G.g a = some o → H a = some o
  t : ∀ a q, G.t a = some q → F a = none ∧ LamX.TabS H a q
  dj : ∀ a o, G.g a = some o → G.t a = none
theorem tab_upd {H : Hp} {a P : Addr} {o : HO} {q : Str} (ts : LamX.TabS H P q) (hp : P ≠ a) (nc : ∀ c q, H a ≠ some (LamX.CodeO c q)) : LamX.TabS (L2.upd H a o) P q := by
  obtain ⟨ps, h1, h2, h3⟩ := ts
  refine ⟨ps, by rw [upd_ne hp]; exact h1, h2, fun pos cv hc => ?_⟩
  obtain ⟨c, e1, e2⟩ := h3 pos cv hc
  refine ⟨c, e1, ?_⟩
  rw [upd_ne fun z => nc c q (by rw [← z]; exact e2)]
  exact e2
section
variable {G : GT} {F F' H H' : Hp} {a : Addr} {o : HO}
theorem GT.none_iff : G a = none ↔ G.t a = none ∧ G.g a = none := by
  show GT.dom G a = none ↔ _
  unfold GT.dom
  cases G.t a with
  | some q => simp
  | none => cases G.g a <;> simp
theorem GT.tn (h : G a = none) : G.t a = none := (GT.none_iff.mp h).1
theorem GT.gn (h : G a = none) : G.g a = none := (GT.none_iff.mp h).2
theorem Keep.free (k : Keep G F H) (h : H a = none) : G a = none := by
  refine GT.none_iff.mpr ⟨?_, ?_⟩
  · cases e : G.t a with
    | none => rfl
    | some q =>
      obtain ⟨_, ps, q, _⟩ := k.t a q e
      rw [h] at q
      cases q
  · cases e : G.g a with
    | none => rfl
    | some o =>
      have q := k.g a o e
      rw [h] at q
      cases q
theorem Keep.mono (k : Keep G F H) (sh : Same H H') (f : ∀ a, H a ≠ none → F a = none → F' a = none) : Keep G F' H' := by
  refine ⟨fun a o h => sh _ _ (k.g a o h), fun a q h => ?_, k.dj⟩
  obtain ⟨fa, ts⟩ := k.t a q h
  refine ⟨f a (fun z => ?_) fa, ts.ext fun b o h => sh b o h⟩
  obtain ⟨ps, h1, _⟩ := ts
  rw [z] at h1
  cases h1
theorem Keep.upd (k : Keep G F H) (g : G a = none) (nc : ∀ c q, H a ≠ some (LamX.CodeO c q)) : Keep G F (L2.upd H a o) := by
  refine ⟨fun b u h => ?_, fun b q h => ?_, k.dj⟩
  · rw [upd_ne (ne_of_none h (GT.gn g))]
    exact k.g b u h
  · obtain ⟨fa, ts⟩ := k.t b q h
    exact ⟨fa, tab_upd ts (fun z => by rw [z, GT.tn g] at h; cases h) nc⟩
theorem Keep.setF (k : Keep G F H) (g : G a = none) : Keep G (L2.upd F a o) H := by
  refine ⟨k.g, fun b q h => ?_, k.dj⟩
  obtain ⟨fa, ts⟩ := k.t b q h
  exact ⟨by rw [upd_ne fun z => by rw [z, GT.tn g] at h; cases h]; exact fa, ts⟩
def GT.upd (G : GT) (D : Addr) (o : HO) : GT := ⟨L2.upd G.g D o, G.t⟩
theorem GT.upd_ne {D : Addr} (h : a ≠ D) : G.upd D o a = G a := by
  show GT.dom _ _ = GT.dom _ _
  unfold GT.dom GT.upd
  simp only [L2.upd_ne h]
theorem GT.upd_self {D : Addr} (h : G D = none) : G.upd D o D ≠ none := fun z => by
  have := GT.gn z
  unfold GT.upd at this
  simp only [upd_same] at this
  cases this
theorem GT.upd_upd {D : Addr} {o' : HO} : (G.upd D o).upd D o' = G.upd D o' := by
  unfold GT.upd
  simp only [L2.upd_upd]
theorem Keep.guard (k : Keep G F H) {D : Addr} (t : G.t D = none) (nc : ∀ c q, H D ≠ some (LamX.CodeO c q)) : Keep (G.upd D o) F (L2.upd H D o) := by
  refine ⟨fun b u h => ?_, fun b q h => ?_, fun b u h => ?_⟩
  · unfold GT.upd at h
    by_cases hb : b = D
    · subst hb
      simp only [upd_same] at h ⊢
      exact h
    · simp only [L2.upd_ne hb] at h ⊢
      exact k.g b u h
  · obtain ⟨fa, ts⟩ := k.t b q h
    exact ⟨fa, tab_upd ts (fun z => by rw [z, show (G.upd D o).t D = G.t D from rfl, t] at h; cases h) nc⟩
  · by_cases hb : b = D
    · rw [hb]
      exact t
    · unfold GT.upd at h
      simp only [L2.upd_ne hb] at h
      exact k.dj b u h
theorem Keep.unguard {D : Addr} (k : Keep (G.upd D o) F H) (g : G D = none) : Keep G F H := by
  refine ⟨fun b u h => k.g b u ?_, k.t, fun b u h => k.dj b u ?_⟩ <;>
    (unfold GT.upd; simp only [L2.upd_ne (ne_of_none h (GT.gn g))]; exact h)
theorem nc_none (h : H a = none) : ∀ c q, H a ≠ some (LamX.CodeO c q) := fun c q z => by rw [h] at z; cases z
theorem nc_lst {vs : List V} (h : H a = some (.lst vs)) : ∀ c q, H a ≠ some (LamX.CodeO c q) := fun c q z => by
  rw [h] at z
  unfold LamX.CodeO at z
  cases z
end
/-- what a slot's reference stands for -/
def SlR (K : PySem.W.Frag) (mg : Str → Option Value) (G : GT) (F : Hp) (io : List Addr) (H : Hp) (o : Option V) : Sl → Prop
  | .un => True
  | .fz d => ∃ v, o = some v ∧ DR K mg F v d
  | .ex z => o = some (.ref z.a) ∧ XZ K mg F z
  | .gh ts => ∀ p ∈ ts, G.t p.1 = some p.2
  | .own b d => ∃ a, o = some (.ref a) ∧ F a = none ∧ G a = none ∧ (b = none → a ∉ io) ∧ (∀ k, b = some k → io[k]? = some a) ∧ OwnR K mg F H a d
def isOwn : Sl → Bool
  | .own _ _ => true
  | _ => false
/-- G: what else must stay as it is; F: the data that stays; io: the addresses of what was handed in to be changed -/
structure BI (K : PySem.W.Frag) (mg : Str → Option Value) (G : GT) (F : Hp) (io : List Addr) (β : Env) (σ : L2.St) (H : Hp) : Prop where
  sg : Keep G F H
  sf : Same F H
  ioF : ∀ a ∈ io, F a = none
  ioH : ∀ a ∈ io, ∃ o, H a = some o
  len : β.length = σ.length
  sl : ∀ (i : Nat) (s : Sl), β[i]? = some s → ∃ o, σ[i]? = some o ∧ SlR K mg G F io H o s
  apart : ∀ (i j : Nat) (s t : Sl) (a : Addr), β[i]? = some s → β[j]? = some t → isOwn s = true → isOwn t = true → σ[i]? = some (some (V.ref a)) → σ[j]? = some (some (V.ref a)) → i = j
/-- F grows by what is new -/
structure FE (G : GT) (io : List Addr) (F F' : Hp) : Prop where
  same : Same F F'
  new : ∀ a o, F' a = some o → F a = some o ∨ (G a = none ∧ a ∉ io)
theorem FE.refl {G : GT} {io : List Addr} {F : Hp} : FE G io F F := ⟨Same.refl _, fun _ _ h => .inl h⟩
theorem FE.trans {G : GT} {io : List Addr} {F F1 F2 : Hp} (a : FE G io F F1) (b : FE G io F1 F2) : FE G io F F2 :=
  ⟨a.same.trans b.same, fun x o h => (b.new x o h).elim (fun h => a.new x o h) .inr⟩
/-- what a value stands for, that an expression hands back -/
def RR (K : PySem.W.Frag) (mg : Str → Option Value) (G : GT) (F : Hp) (io : List Addr) (H : Hp) (β : Env) (σ : L2.St) (v : V) : Rs → Prop
  | .fz d => DR K mg F v d
  | .own d => ∃ a, v = .ref a ∧ F a = none ∧ G a = none ∧ a ∉ io ∧ OwnR K mg F H a d ∧ ∀ (i : Nat) (s : Sl), β[i]? = some s → isOwn s = true → σ[i]? ≠ some (some (V.ref a))
/-- a place -/
def PR (K : PySem.W.Frag) (mg : Str → Option Value) (F : Hp) (σ : L2.St) (v : V) : Pl → Prop
  | .d d => DR K mg F v d
  | .sl i => σ[i]? = some (some v)
/-- read now: the outermost object in H, what belongs to it in F -/
inductive HR (K : PySem.W.Frag) (mg : Str → Option Value) (F H : Hp) : V → D → Prop
  | non : HR K mg F H .non .non
  | bl (b : Bool) : HR K mg F H (.bl b) (.bl b)
  | int (i : Int) : HR K mg F H (.int i) (.int i)
  | str (x : Str) : HR K mg F H (.str x) (.str x)
  | tup {a : Addr} {vs : List V} {ds : List D} : F a = some (.tup vs) → DRs K mg F vs ds → HR K mg F H (.ref a) (.nd .tup ds)
  | wtp {a : Addr} {vs : List V} {ds : List D} : SqT K F a vs → DRs K mg F vs ds → HR K mg F H (.ref a) (.nd .wtp ds)
  | lst {a : Addr} {vs : List V} {ds : List D} : H a = some (.lst vs) → DRs K mg F vs ds → HR K mg F H (.ref a) (.nd .lst ds)
  | scr {a : Addr} {vs : List V} {ds : List D} : SqL K H a vs → DRs K mg F vs ds → HR K mg F H (.ref a) (.nd .scr ds)
  | dK {a : Addr} {kvs : List (Key × V)} {ds es : List D} : H a = some (.dK kvs) → DRs K mg F (kvs.map (·.2)) ds → KDs (kvs.map (·.1)) ds es → HR K mg F H (.ref a) (.nd .dct es)
  | dT {a : Addr} {kvs : List (List Key × V)} {ds es : List D} : H a = some (.dT kvs) → DRs K mg F (kvs.map (·.2)) ds → TDn (kvs.map (·.1)) ds es → HR K mg F H (.ref a) (.nd .dct es)
  | dg {a : Addr} {xs : List (List Int × Addr × V)} {ep : Nat} {ds es : List D} : H a = some (DicG a xs ep) → (∀ x ∈ xs, F x.2.1 = some (.tup (x.1.map V.int))) → DRs K mg F (xs.map (·.2.2)) ds → GDs (xs.map (·.1)) ds es → HR K mg F H (.ref a) (.nd .dcg es)
  | ins {a C dx : Addr} {c : Str} {fs : List (Str × V)} {ds : List D} : H a = some (.ins C dx fs) → mg c = some (.ref C) → DRs K mg F (fs.map (·.2)) ds → HR K mg F H (.ref a) (.nd (.ins c (fs.map (·.1))) ds)
  | xc {a C : Addr} {c : Str} {fs : List (Str × V)} {ds : List D} : XcAt F a C fs → mg c = some (.ref C) → DRs K mg F (fs.map (·.2)) ds → HR K mg F H (.ref a) (.nd (.xc c (fs.map (·.1))) ds)
section
variable {K : PySem.W.Frag} {mg : Str → Option Value} {F H : Hp} {v : V} {d : D}
theorem DR.hr (h : DR K mg F v d) (e : Same F H) : HR K mg F H v d := by
  cases h with
  | non => exact .non
  | bl b => exact .bl b
  | int i => exact .int i
  | str x => exact .str x
  | tup h r => exact .tup h r
  | wtp h r => exact .wtp h r
  | lst h r => exact .lst (e _ _ h) r
  | scr h r => exact .scr (Same.sqL e h) r
  | dK h r q => exact .dK (e _ _ h) r q
  | dT h r q => exact .dT (e _ _ h) r q
  | dg h k r q => exact .dg (e _ _ h) k r q
  | ins h g r => exact .ins (e _ _ h) g r
  | xc h g r => exact .xc h g r
theorem OwnR.hr {a : Addr} (h : OwnR K mg F H a d) : HR K mg F H (.ref a) d := by
  cases h with
  | lst h r => exact .lst h r
  | dK h r q => exact .dK h r q
  | dT h r q => exact .dT h r q
  | dg h k r q => exact .dg h k r q
  | ins h g r => exact .ins h g r
theorem HR.dr (h : HR K mg F H v d) (e : Same F H) : DR K mg H v d := by
  cases h with
  | non => exact .non
  | bl b => exact .bl b
  | int i => exact .int i
  | str x => exact .str x
  | tup h r => exact .tup (e _ _ h) (r.mono e)
  | wtp h r => exact .wtp (Same.sqT e h) (r.mono e)
  | lst h r => exact .lst h (r.mono e)
  | scr h r => exact .scr h (r.mono e)
  | dK h r q => exact .dK h (r.mono e) q
  | dT h r q => exact .dT h (r.mono e) q
  | dg h k r q => exact .dg h (fun x hx => e _ _ (k x hx)) (r.mono e) q
  | ins h g r => exact .ins h g (r.mono e)
  | xc h g r => exact .xc (h.mono e) g (r.mono e)
end
/-- a run's value, told of the heap alone: all stays; data, new or of F; or a new object of one's own -/
def NR (K : PySem.W.Frag) (mg : Str → Option Value) (F H : Hp) (r : Rs) (z : V) (H' : Hp) : Prop := Same H H' ∧ match r with
  | .fz d => ∃ F', Same F F' ∧ (∀ a o, F' a = some o → F a = some o ∨ H a = none) ∧ Same F' H' ∧ DR K mg F' z d
  | .own d => ∃ a, z = .ref a ∧ H a = none ∧ OwnR K mg F H' a d
section
variable {K : PySem.W.Frag} {mg : Str → Option Value} {G : GT} {F F' H H' : Hp} {io : List Addr} {β β' : Env} {σ : L2.St} {a : Addr} {d : D} {v : V} {i : Nat}
theorem PR.mono {p : Pl} (h : PR K mg F σ v p) (e : Same F F') : PR K mg F' σ v p := by
  cases p with
  | d d => exact DR.mono e h
  | sl i => exact h
/-- a place read now -/
theorem BI.look (I : BI K mg G F io β σ H) {p : Pl} (h : PR K mg F σ v p) (l : look β p = some d) : HR K mg F H v d := by
  cases p with
  | d e =>
    cases l
    exact DR.hr h I.sf
  | sl i =>
    simp only [B.look] at l
    cases e : β[i]? with
    | none => rw [e] at l; cases l
    | some s =>
      rw [e] at l
      obtain ⟨o, eo, hs⟩ := I.sl i s e
      have ev : o = some v := Option.some.inj (eo.symm.trans h)
      subst ev
      cases s with
      | ex z0 => cases l
      | gh _ => cases l
      | un => cases l
      | fz e =>
        cases l
        obtain ⟨w, ew, r⟩ := hs
        cases ew
        exact r.hr I.sf
      | own b e =>
        cases l
        obtain ⟨a, ew, f, g, _, _, r⟩ := hs
        cases ew
        exact r.hr
/-- all stays, F grows by what is new -/
theorem BI.grow (I : BI K mg G F io β σ H) (sh : Same H H') (sf : Same F F') (nw : ∀ a o, F' a = some o → F a = some o ∨ H a = none) (sfh : Same F' H') : FE G io F F' ∧ BI K mg G F' io β σ H' := by
  refine ⟨⟨sf, fun a o h => ?_⟩, ⟨I.sg.mono sh fun a h f => ?_, sfh, fun a ha => ?_, fun a ha => ?_, I.len, fun i s e => ?_, I.apart⟩⟩
  · rcases nw a o h with h | h
    · exact .inl h
    · refine .inr ⟨I.sg.free h, fun z => ?_⟩
      obtain ⟨u, hu⟩ := I.ioH a z
      rw [hu] at h
      cases h
  · cases q : F' a with
    | none => rfl
    | some o =>
      rcases nw a o q with z | z
      · rw [f] at z; cases z
      · exact absurd z h
  · cases q : F' a with
    | none => rfl
    | some o =>
      obtain ⟨u, hu⟩ := I.ioH a ha
      rcases nw a o q with h | h
      · rw [I.ioF a ha] at h
        cases h
      · rw [hu] at h
        cases h
  · obtain ⟨u, hu⟩ := I.ioH a ha
    exact ⟨u, sh _ _ hu⟩
  · obtain ⟨w, ew, hs⟩ := I.sl i s e
    refine ⟨w, ew, ?_⟩
    cases s with
    | ex z0 => exact ⟨hs.1, hs.2.mono sf⟩
    | gh _ => exact hs
    | un => trivial
    | fz e =>
      obtain ⟨v, q, r⟩ := hs
      exact ⟨v, q, r.mono sf⟩
    | own b e' =>
      obtain ⟨x, q, f', g', i1, i2, r⟩ := hs
      obtain ⟨u, hu, _⟩ := r.there
      refine ⟨x, q, ?_, g', i1, i2, r.mono sf (by rw [sh _ _ hu, hu])⟩
      cases z : F' x with
      | none => rfl
      | some o =>
        rcases nw x o z with h | h
        · rw [f'] at h
          cases h
        · rw [hu] at h
          cases h
theorem BI.step {r : Rs} (I : BI K mg G F io β σ H) (n : NR K mg F H r v H') : ∃ F', FE G io F F' ∧ BI K mg G F' io β σ H' ∧ RR K mg G F' io H' β σ v r := by
  obtain ⟨sh, n⟩ := n
  cases r with
  | fz d =>
    obtain ⟨F', sf, nw, sfh, r⟩ := n
    obtain ⟨fe, I'⟩ := I.grow sh sf nw sfh
    exact ⟨F', fe, I', r⟩
  | own d =>
    obtain ⟨a, rfl, ha, o⟩ := n
    obtain ⟨fe, I'⟩ := I.grow sh (Same.refl F) (fun _ _ h => .inl h) (I.sf.trans sh)
    refine ⟨F, fe, I', a, rfl, Same.free I.sf ha, I.sg.free ha, fun z => ?_, o, fun i s e q z => ?_⟩
    · obtain ⟨u, hu⟩ := I.ioH a z
      rw [hu] at ha
      cases ha
    · obtain ⟨w, ew, hs⟩ := I.sl i s e
      cases s with
      | ex z0 => cases q
      | gh _ => cases q
      | own b e' =>
        obtain ⟨x, q', _, _, _, _, r⟩ := hs
        obtain ⟨u, hu, _⟩ := r.there
        rw [z, q'] at ew
        have : a = x := by
          have := Option.some.inj (Option.some.inj ew)
          exact V.ref.inj this
        rw [this, hu] at ha
        cases ha
      | un => cases q
      | fz _ => cases q
/-- a value that was there -/
theorem NR.val (sf : Same F H) (h : DR K mg F v d) : NR K mg F H (.fz d) v H := ⟨Same.refl _, F, Same.refl _, fun _ _ h => .inl h, sf, h⟩
/-- a new list of one's own; a new tuple -/
theorem NR.lst {a : Addr} {vs : List V} {ds : List D} (ha : H a = none) (h : DRs K mg F vs ds) : NR K mg F H (.own (.nd .lst ds)) (.ref a) (upd H a (.lst vs)) :=
  ⟨fun b o e => by rw [upd_ne (ne_of_none e ha)]; exact e, a, rfl, ha, .lst upd_same h⟩
theorem NR.tup {a : Addr} {vs : List V} {ds : List D} (sf : Same F H) (ha : H a = none) (h : DRs K mg F vs ds) : NR K mg F H (.fz (.nd .tup ds)) (.ref a) (upd H a (.tup vs)) := by
  have fa := Same.free sf ha
  have sm : Same F (upd F a (.tup vs)) := fun b u h => by
    rw [upd_ne (ne_of_none h fa)]
    exact h
  refine ⟨fun b o e => by rw [upd_ne (ne_of_none e ha)]; exact e, upd F a (.tup vs), sm, fun b o h => ?_, fun b o h => ?_, .tup upd_same (h.mono sm)⟩
  · by_cases hb : b = a
    · subst hb
      exact .inr ha
    · rw [upd_ne hb] at h
      exact .inl h
  · by_cases hb : b = a
    · subst hb
      rw [upd_same] at h ⊢
      exact h
    · rw [upd_ne hb] at h ⊢
      exact sf b o h
/-- the new object is let stay -/
theorem BI.freeze (I : BI K mg G F io β σ H) (r : RR K mg G F io H β σ v (.own d)) : ∃ F', FE G io F F' ∧ BI K mg G F' io β σ H ∧ DR K mg F' v d := by
  obtain ⟨a, rfl, f, g, ni, o, ap⟩ := r
  obtain ⟨ho, ha, _⟩ := o.there
  have sm : Same F (upd F a ho) := fun b u h => by
    rw [upd_ne (ne_of_none h f)]
    exact h
  refine ⟨upd F a ho, ⟨sm, fun b u h => ?_⟩, ⟨I.sg.setF g, fun b u h => ?_, fun b hb => ?_, I.ioH, I.len, fun i s e => ?_, I.apart⟩, o.dr sm (by rw [upd_same, ha])⟩
  · by_cases hb : b = a
    · subst hb
      exact .inr ⟨g, ni⟩
    · rw [upd_ne hb] at h
      exact .inl h
  · by_cases hb : b = a
    · subst hb
      rw [upd_same] at h
      cases h
      exact ha
    · rw [upd_ne hb] at h
      exact I.sf b u h
  · rw [upd_ne (show b ≠ a from fun z => ni (by rw [← z]; exact hb))]
    exact I.ioF b hb
  · obtain ⟨w, ew, hs⟩ := I.sl i s e
    refine ⟨w, ew, ?_⟩
    cases s with
    | ex z0 => exact ⟨hs.1, hs.2.mono sm⟩
    | gh _ => exact hs
    | un => trivial
    | fz e =>
      obtain ⟨v, q, r⟩ := hs
      exact ⟨v, q, r.mono sm⟩
    | own b e' =>
      obtain ⟨x, q, f', g', i1, i2, r⟩ := hs
      refine ⟨x, q, ?_, g', i1, i2, r.mono sm rfl⟩
      rw [upd_ne fun z => ap i _ e rfl (by rw [ew, q, z])]
      exact f'
theorem BI.freezeR {r : Rs} (I : BI K mg G F io β σ H) (h : RR K mg G F io H β σ v r) : ∃ F', FE G io F F' ∧ BI K mg G F' io β σ H ∧ DR K mg F' v r.d := by
  cases r with
  | fz d => exact ⟨F, .refl, I, h⟩
  | own d => exact I.freeze h
end
end B


set_option Elab.async false
set_option linter.all false
set_option maxRecDepth 100000
set_option maxHeartbeats 4000000
namespace B
open PySem PySem.Spec L2

/-! ## judgements -/
/-- what must hold behind a run r that began at F: Rel: how what Lean's run gives stands to what the machine gives -/
def Post {α γ : Type} (K : PySem.W.Frag) (mg : Str → Option Value) (W : WX) (Rel : GT → Hp → List Addr → Hp → Env → L2.St → γ → α → Prop) (G : GT) (F : Hp) (io : List Addr) (σ : L2.St) (r : R α) (Q : γ → Hp → Prop) : Prop :=
  match r with
  | .stuck => False
  | .ok a β => ∀ v H' F', FE G io F F' → BI K mg G F' io β σ H' → Rel G F' io H' β σ v a → Q v H'
  | .exc x β => ∀ cls d H' F', FE G io F F' → BI K mg G F' io β σ H' → XR K mg F' cls d x → W cls d σ H'
def gOf {α γ : Type} (K : PySem.W.Frag) (mg : Str → Option Value) (W : WX) (Rel : GT → Hp → List Addr → Hp → Env → L2.St → γ → α → Prop) (m : M α) : L2.St → Hp → (γ → Hp → Prop) → Prop :=
  fun σ H Q => ∃ G io F β, BI K mg G F io β σ H ∧ Post K mg W Rel G F io σ (m β) Q
section
variable {α α' γ γ' : Type} {K : PySem.W.Frag} {mg : Str → Option Value} {W : WX} {Rel : GT → Hp → List Addr → Hp → Env → L2.St → γ → α → Prop} {Rel' : GT → Hp → List Addr → Hp → Env → L2.St → γ' → α' → Prop} {G : GT} {F F1 : Hp} {io : List Addr} {σ : L2.St}
theorem Post.bnd {r : R α} {f : α → Env → R α'} {Q : γ → Hp → Prop} {Q' : γ' → Hp → Prop} (h : Post K mg W Rel' G F io σ (r.bnd f) Q')
    (k : ∀ a β v H' F', FE G io F F' → BI K mg G F' io β σ H' → Rel G F' io H' β σ v a → Post K mg W Rel' G F io σ (f a β) Q' → Q v H') : Post K mg W Rel G F io σ r Q := by
  cases r with
  | stuck => exact h
  | ok a β => exact fun v H' F' fe I r => k a β v H' F' fe I r h
  | exc x β => exact h
theorem Post.mono {r : R α} {Q : γ → Hp → Prop} (h : Post K mg W Rel G F io σ r Q) (fe : FE G io F F1) : Post K mg W Rel G F1 io σ r Q := by
  cases r with
  | stuck => exact h
  | ok a β => exact fun v H' F' fe' => h v H' F' (fe.trans fe')
  | exc x β => exact fun c d H' F' fe' => h c d H' F' (fe.trans fe')
theorem Post.conv {r : R α} {f : α → α'} {Q : γ → Hp → Prop} {Q' : γ' → Hp → Prop} (h : Post K mg W Rel' G F io σ (r.bnd fun a β => .ok (f a) β) Q')
    (k : ∀ a β v H' F', FE G io F F' → BI K mg G F' io β σ H' → Rel G F' io H' β σ v a → (∀ v' H'' F'', FE G io F F'' → BI K mg G F'' io β σ H'' → Rel' G F'' io H'' β σ v' (f a) → Q' v' H'') → Q v H') : Post K mg W Rel G F io σ r Q := by
  cases r with
  | stuck => exact h
  | ok a β => exact fun v H' F' fe I r => k a β v H' F' fe I r h
  | exc x β => exact h
end
/-! how results stand -/
abbrev relE (K : PySem.W.Frag) (mg : Str → Option Value) : GT → Hp → List Addr → Hp → Env → L2.St → V → Rs → Prop := fun G F io H β σ v r => RR K mg G F io H β σ v r
abbrev relP (K : PySem.W.Frag) (mg : Str → Option Value) : GT → Hp → List Addr → Hp → Env → L2.St → V → Pl → Prop := fun _ F _ _ _ σ v p => PR K mg F σ v p
abbrev relB : GT → Hp → List Addr → Hp → Env → L2.St → Bool → Bool → Prop := fun _ _ _ _ _ _ v b => v = b
/-- places in a row -/
inductive PRs (K : PySem.W.Frag) (mg : Str → Option Value) (F : Hp) (σ : L2.St) : List V → List Pl → Prop
  | nil : PRs K mg F σ [] []
  | cons {v : V} {vs : List V} {p : Pl} {ps : List Pl} : PR K mg F σ v p → PRs K mg F σ vs ps → PRs K mg F σ (v :: vs) (p :: ps)
abbrev relA (K : PySem.W.Frag) (mg : Str → Option Value) : GT → Hp → List Addr → Hp → Env → L2.St → List V → List Pl → Prop := fun _ F _ _ _ σ v p => PRs K mg F σ v p
theorem PRs.mono {K : PySem.W.Frag} {mg : Str → Option Value} {F F' : Hp} {σ : L2.St} (e : Same F F') : ∀ {vs : List V} {ps : List Pl}, PRs K mg F σ vs ps → PRs K mg F' σ vs ps
  | _, _, .nil => .nil
  | _, _, .cons a b => .cons (a.mono e) (PRs.mono e b)

/-- an expression: it hands back data, or a new object -/
def BE (X : Cx) (e : Expr) (m : M Rs) : Prop := ∀ W, Takes X W → PE X e (gOf X.K X.mg W (relE X.K X.mg) m)
/-- an expression that is read at once -/
def BP (X : Cx) (e : Expr) (m : M Pl) : Prop := ∀ W, Takes X W → PE X e (gOf X.K X.mg W (relP X.K X.mg) m)
/-- a test -/
def BT (X : Cx) (e : Expr) (m : M Bool) : Prop := ∀ W, Takes X W → PT X e (gOf X.K X.mg W relB m)
def BW (X : Cx) (e : Expr) (m : M Bool) : Prop := ∀ W, Takes X W → PW X e (gOf X.K X.mg W relB m)
/-- arguments -/
def BA (X : Cx) (es : List Expr) (m : M (List Pl)) : Prop := ∀ W, Takes X W → PA X es (gOf X.K X.mg W (relA X.K X.mg) m)

theorem _root_.L2.PE.imp {X : Cx} {e : Expr} {t t' : TE} (h : PE X e t) (k : ∀ σ H Q, t' σ H Q → t σ H Q) : PE X e t' := ⟨fun pins s σ H Q I q => h.run pins s σ H Q I (k σ H Q q)⟩
theorem _root_.L2.PT.imp {X : Cx} {e : Expr} {t t' : TT} (h : PT X e t) (k : ∀ σ H Q, t' σ H Q → t σ H Q) : PT X e t' := ⟨fun pins s σ H Q I q => h.run pins s σ H Q I (k σ H Q q)⟩
theorem _root_.L2.PW.imp {X : Cx} {e : Expr} {t t' : TT} (h : PW X e t) (k : ∀ σ H Q, t' σ H Q → t σ H Q) : PW X e t' := ⟨fun w pins s σ H Q I q => h.run w pins s σ H Q I (k σ H Q q)⟩
theorem _root_.L2.PA.imp {X : Cx} {es : List Expr} {t t' : TA} (h : PA X es t) (k : ∀ σ H Q, t' σ H Q → t σ H Q) : PA X es t' := ⟨fun pos pins s σ H Q I q => h.run pos pins s σ H Q I (k σ H Q q)⟩

/-! ## names, constants -/
def mVar (i : Nat) : M Rs := fun β => match β[i]? with
  | some (.fz d) => .ok (.fz d) β
  | some (.own none d) => .ok (.fz d) (β.set i (.fz d))
  | _ => .stuck
def mPl (i : Nat) : M Pl := fun β => match β[i]? with
  | some (.fz _) => .ok (.sl i) β
  | some (.own _ _) => .ok (.sl i) β
  | _ => .stuck
def mC (d : D) : M Rs := ret (.fz d)
def mP (m : M Rs) : M Pl := bnd m fun r => ret (.d r.d)
section
variable {K : PySem.W.Frag} {mg : Str → Option Value} {G : GT} {F F' H H' : Hp} {io : List Addr} {β β' : Env} {σ : L2.St} {d : D} {v : V} {i : Nat}
/-- a slot's object is let stay -/
theorem BI.freezeSl (I : BI K mg G F io β σ H) (e : β[i]? = some (.own none d)) : ∃ v F', σ[i]? = some (some v) ∧ FE G io F F' ∧ BI K mg G F' io (β.set i (.fz d)) σ H ∧ DR K mg F' v d := by
  obtain ⟨o, eo, a, rfl, f, g, ni, _, r⟩ := I.sl i _ e
  have hi : i < β.length := (List.getElem?_eq_some_iff.mp e).1
  -- the same state without the slot
  have J : BI K mg G F io (β.set i .un) σ H := by
    refine ⟨I.sg, I.sf, I.ioF, I.ioH, by rw [List.length_set]; exact I.len, fun j s ej => ?_, fun j k s t b ej ek hj hk => ?_⟩
    · by_cases hj : j = i
      · subst hj
        rw [List.getElem?_set_self hi] at ej
        cases ej
        exact ⟨_, eo, trivial⟩
      · rw [List.getElem?_set_ne (Ne.symm hj)] at ej
        exact I.sl j s ej
    · by_cases hj' : j = i
      · subst hj'
        rw [List.getElem?_set_self hi] at ej
        cases ej
        cases hj
      · by_cases hk' : k = i
        · subst hk'
          rw [List.getElem?_set_self hi] at ek
          cases ek
          cases hk
        · rw [List.getElem?_set_ne (Ne.symm hj')] at ej
          rw [List.getElem?_set_ne (Ne.symm hk')] at ek
          exact I.apart j k s t b ej ek hj hk
  have R0 : RR K mg G F io H (β.set i .un) σ (.ref a) (.own d) := by
    refine ⟨a, rfl, f, g, ni rfl, r, fun j s ej hs z => ?_⟩
    by_cases hj : j = i
    · subst hj
      rw [List.getElem?_set_self hi] at ej
      cases ej
      cases hs
    · rw [List.getElem?_set_ne (Ne.symm hj)] at ej
      exact hj (I.apart j i s _ a ej e hs rfl z eo)
  obtain ⟨F', fe, J', dr⟩ := J.freeze R0
  refine ⟨_, F', eo, fe, ⟨J'.sg, J'.sf, J'.ioF, J'.ioH, by have := J'.len; rw [List.length_set] at this ⊢; exact this, fun j s ej => ?_, fun j k s t b ej ek hj hk => ?_⟩, dr⟩
  · by_cases hj : j = i
    · subst hj
      rw [List.getElem?_set_self hi] at ej
      cases ej
      exact ⟨_, eo, _, rfl, dr⟩
    · rw [List.getElem?_set_ne (Ne.symm hj)] at ej
      exact J'.sl j s (by rw [List.getElem?_set_ne (Ne.symm hj)]; exact ej)
  · by_cases hj' : j = i
    · subst hj'
      rw [List.getElem?_set_self hi] at ej
      cases ej
      cases hj
    · by_cases hk' : k = i
      · subst hk'
        rw [List.getElem?_set_self hi] at ek
        cases ek
        cases hk
      · rw [List.getElem?_set_ne (Ne.symm hj')] at ej
        rw [List.getElem?_set_ne (Ne.symm hk')] at ek
        exact I.apart j k s t b ej ek hj hk
end
section
variable {X : Cx} {e a b c : Expr} {es rest : List Expr} {pos : Pos} {i : Nat} {x : Str} {ma mb mc : M Pl} {me : M Rs} {mt mu : M Bool}
theorem be_var {i : Nat} {x : Str} {pos : Pos} (hN : X.N[i]? = some x := by rfl) (hv : Vis X.env.scope x := by first | exact Or.inl rfl | exact Or.inr (Or.inl rfl) | exact Or.inr (Or.inr rfl)) (hd : (x == ("__debug__" : Str)) = false := by decide)
    (hcd : (x == ("__classdict__" : Str)) = false := by decide) : BE X (.Name x pos) (mVar i) := by
  refine fun W tk => (pe_var hN hv hd hcd).imp fun σ H Q h => ?_
  obtain ⟨G, io, F, β, I, h⟩ := h
  unfold mVar at h
  cases e : β[i]? with
  | none => rw [e] at h; exact h.elim
  | some s =>
    rw [e] at h
    cases s with
    | ex z0 => exact h.elim
    | gh _ => exact h.elim
    | un => exact h.elim
    | fz d =>
      obtain ⟨o, eo, v, rfl, r⟩ := I.sl i _ e
      exact ⟨v, eo, h v H F .refl I r⟩
    | own bo d =>
      cases bo with
      | some k => exact h.elim
      | none =>
        obtain ⟨v, F', eo, fe, I', r⟩ := I.freezeSl e
        exact ⟨v, eo, h v H F' fe I' r⟩
theorem bp_var {i : Nat} {x : Str} {pos : Pos} (hN : X.N[i]? = some x := by rfl) (hv : Vis X.env.scope x := by first | exact Or.inl rfl | exact Or.inr (Or.inl rfl) | exact Or.inr (Or.inr rfl)) (hd : (x == ("__debug__" : Str)) = false := by decide)
    (hcd : (x == ("__classdict__" : Str)) = false := by decide) : BP X (.Name x pos) (mPl i) := by
  refine fun W tk => (pe_var hN hv hd hcd).imp fun σ H Q h => ?_
  obtain ⟨G, io, F, β, I, h⟩ := h
  unfold mPl at h
  cases e : β[i]? with
  | none => rw [e] at h; exact h.elim
  | some s =>
    rw [e] at h
    cases s with
    | ex z0 => exact h.elim
    | gh _ => exact h.elim
    | un => exact h.elim
    | fz d =>
      obtain ⟨o, eo, v, rfl, r⟩ := I.sl i _ e
      exact ⟨v, eo, h v H F .refl I eo⟩
    | own bo d =>
      obtain ⟨o, eo, v, rfl, r⟩ := I.sl i _ e
      exact ⟨_, eo, h _ H F .refl I eo⟩
theorem bp_of (h : BE X e me) : BP X e (mP me) := by
  refine fun W tk => (h W tk).imp fun σ H Q hq => ?_
  obtain ⟨G, io, F, β, I, hq⟩ := hq
  refine ⟨G, io, F, β, I, hq.bnd fun r β' v H' F' fe I' rr h2 => ?_⟩
  obtain ⟨F2, fe2, I2, dr⟩ := I'.freezeR rr
  exact h2 v H' F2 (fe.trans fe2) I2 dr
theorem be_int {i : Int} {j : Nat} : BE X (.Constant (.int i) j pos) (mC (.int i)) := fun W tk => pe_int.imp fun σ H Q ⟨_, _, F, _, I, h⟩ => h _ H F .refl I (.int i)
theorem be_bl {b : Bool} {j : Nat} : BE X (.Constant (.bool b) j pos) (mC (.bl b)) := fun W tk => pe_bl.imp fun σ H Q ⟨_, _, F, _, I, h⟩ => h _ H F .refl I (.bl b)
theorem be_non {j : Nat} : BE X (.Constant .none j pos) (mC .non) := fun W tk => pe_non.imp fun σ H Q ⟨_, _, F, _, I, h⟩ => h _ H F .refl I .non
theorem be_str {x : Str} {j : Nat} : BE X (.Constant (.str x) j pos) (mC (.str x)) := fun W tk => pe_str.imp fun σ H Q ⟨_, _, F, _, I, h⟩ => h _ H F .refl I (.str x)
/-! ## operators -/
/-- a two-place operation, by data -/
def rD (K : PySem.W.Frag) (mg : Str → Option Value) (g : D → D → Option Rs) : R2 := fun x y H Q => ∃ F d e r, Same F H ∧ HR K mg F H x d ∧ HR K mg F H y e ∧ g d e = some r ∧ ∀ z H', NR K mg F H r z H' → Q z H'
def OpD (X : Cx) (f : Value → Value → Sem Value) (g : D → D → Option Rs) : Prop := OpR X f (rD X.K X.mg g)
/-- by one of HandS's rules -/
theorem OpD.of {f : Value → Value → Sem Value} {r : R2} {g : D → D → Option Rs} (h : OpR X f r)
    (k : ∀ F H x y d e rs (Q : VK), Same F H → HR X.K X.mg F H x d → HR X.K X.mg F H y e → g d e = some rs → (∀ z H', NR X.K X.mg F H rs z H' → Q z H') → r x y H Q) : OpD X f g :=
  fun pins s σ H x y v u Q I rx ry ⟨F, d, e, rs, sf, hx, hy, hg, q⟩ => h pins s σ H x y v u Q I rx ry (k F H x y d e rs Q sf hx hy hg q)
def OpR.alt {f : Value → Value → Sem Value} {r r' : R2} (h : OpR X f r) (h' : OpR X f r') := OpR.or h h'
def fin2 (g : D → D → Option Rs) (p q : Pl) : M Rs := fun β => match look β p, look β q with
  | some d, some e => (match g d e with
    | some r => .ok r β
    | none => .stuck)
  | _, _ => .stuck
def mOp (g : D → D → Option Rs) (ma mb : M Pl) : M Rs := bnd ma fun p => bnd mb fun q => fin2 g p q
theorem fin2_post {W : WX} {G : GT} {F : Hp} {io : List Addr} {σ : L2.St} {g : D → D → Option Rs} {p q : Pl} {β : Env} {v w : V} {H : Hp} {Q : VK} (I : BI X.K X.mg G F io β σ H) (rp : PR X.K X.mg F σ v p) (rq : PR X.K X.mg F σ w q)
    (h : Post X.K X.mg W (relE X.K X.mg) G F io σ (fin2 g p q β) Q) : rD X.K X.mg g v w H Q := by
  unfold fin2 at h
  cases e1 : look β p with
  | none => rw [e1] at h; exact h.elim
  | some d =>
    cases e2 : look β q with
    | none => rw [e1, e2] at h; exact h.elim
    | some e =>
      rw [e1, e2] at h
      simp only at h
      cases e3 : g d e with
      | none => rw [e3] at h; exact h.elim
      | some r =>
        rw [e3] at h
        refine ⟨F, d, e, r, I.sf, I.look rp e1, I.look rq e2, e3, fun z H' n => ?_⟩
        obtain ⟨F', fe, I', rr⟩ := I.step n
        exact h z H' F' fe I' rr
theorem be_op {op : Operator} {g : D → D → Option Rs} (ho : OpD X (binaryOp op) g) (ha : BP X a ma) (hb : BP X b mb) : BE X (.BinOp a op b pos) (mOp g ma mb) := by
  refine fun W tk => (pe_op ho (ha W tk) (hb W tk)).imp fun σ H Q h => ?_
  obtain ⟨G, io, F, β, I, h⟩ := h
  refine ⟨G, io, F, β, I, h.bnd fun p β1 v H1 F1 fe1 I1 r1 h1 => ⟨G, io, F1, β1, I1, (h1.mono fe1).bnd fun q β2 w H2 F2 fe2 I2 r2 h2 => ?_⟩⟩
  exact fin2_post I2 (r1.mono fe2.same) r2 (h2.mono fe2)
theorem be_cmp {op : CmpOp} {g : D → D → Option Rs} (ho : OpD X (compareOp op) g) (ha : BP X a ma) (hb : BP X b mb) (hm : behindInMarks op b = false := by first | exact nomark _ | rfl) : BE X (.Compare a [op] [b] pos) (mOp g ma mb) := by
  refine fun W tk => (pe_cmpR ho (ha W tk) (hb W tk) hm).imp fun σ H Q h => ?_
  obtain ⟨G, io, F, β, I, h⟩ := h
  refine ⟨G, io, F, β, I, h.bnd fun p β1 v H1 F1 fe1 I1 r1 h1 => ⟨G, io, F1, β1, I1, (h1.mono fe1).bnd fun q β2 w H2 F2 fe2 I2 r2 h2 => ?_⟩⟩
  exact fin2_post I2 (r1.mono fe2.same) r2 (h2.mono fe2)
/-- a value that must be a truth -/
def asB (m : M Rs) : M Bool := bnd m fun r => match r with
  | .fz (.bl b) => ret b
  | _ => stk
theorem asB_post {W : WX} {G : GT} {F : Hp} {io : List Addr} {σ : L2.St} {r : R Rs} {Q : Bool → Hp → Prop} (h : Post X.K X.mg W relB G F io σ (r.bnd fun r => match r with
  | .fz (.bl b) => ret b
  | _ => stk) Q) : Post X.K X.mg W (relE X.K X.mg) G F io σ r fun x H' => ∃ k, x = .bl k ∧ Q k H' := by
  refine h.bnd fun r β v H' F' fe I rr h2 => ?_
  cases r with
  | own d => exact h2.elim
  | fz d =>
    cases d with
    | bl k =>
      cases (show DR X.K X.mg F' v (.bl k) from rr)
      exact ⟨k, rfl, h2 k H' F' fe I rfl⟩
    | _ => exact h2.elim
theorem bt_cmp {op : CmpOp} {g : D → D → Option Rs} (ho : OpD X (compareOp op) g) (ha : BP X a ma) (hb : BP X b mb) (hm : behindInMarks op b = false := by first | exact nomark _ | rfl) : BT X (.Compare a [op] [b] pos) (asB (mOp g ma mb)) := by
  refine fun W tk => (pt_cmpR ho (ha W tk) (hb W tk) hm).imp fun σ H Q h => ?_
  obtain ⟨G, io, F, β, I, h⟩ := h
  have h := asB_post h
  refine ⟨G, io, F, β, I, h.bnd fun p β1 v H1 F1 fe1 I1 r1 h1 => ⟨G, io, F1, β1, I1, (h1.mono fe1).bnd fun q β2 w H2 F2 fe2 I2 r2 h2 => ?_⟩⟩
  exact fin2_post I2 (r1.mono fe2.same) r2 (h2.mono fe2)
/-! ### truth of any value -/
def truD : D → Option Bool
  | .non => some false
  | .bl b => some b
  | .int i => some (i != 0)
  | .str x => if x.length ≤ sizeLine then some ((x.length : Int) != 0) else none
  | .nd .tup ds => some (!ds.isEmpty)
  | .nd .lst ds => some (!ds.isEmpty)
  | _ => none
def finT (p : Pl) : M Bool := fun β => match (look β p).bind truD with
  | some b => .ok b β
  | none => .stuck
def mTru (m : M Pl) : M Bool := bnd m finT
theorem DRs.isEmpty {K : PySem.W.Frag} {mg : Str → Option Value} {F : Hp} {vs : List V} {ds : List D} (h : DRs K mg F vs ds) : vs.isEmpty = ds.isEmpty := by cases h <;> rfl
theorem tru_of {F H : Hp} {x : V} {d : D} {k : Bool} (sf : Same F H) (h : HR X.K X.mg F H x d) (e : truD d = some k) : TruV X.K x H k := by
  cases h with
  | non => cases e; rfl
  | bl b => cases e; rfl
  | int i => cases e; rfl
  | str x =>
    have e : (if x.length ≤ sizeLine then some ((x.length : Int) != 0) else none) = some k := e
    by_cases hz : x.length ≤ sizeLine
    · rw [if_pos hz] at e
      cases e
      exact ⟨hz, rfl⟩
    · rw [if_neg hz] at e
      cases e
  | tup h r =>
    cases e
    exact .inr (.inl ⟨_, Same.tp sf h, by rw [r.isEmpty]⟩)
  | wtp h r => cases e
  | lst h r =>
    cases e
    exact .inl ⟨_, .inl (.inl h), by rw [r.isEmpty]⟩
  | scr h r => cases e
  | dK h r q => cases e
  | dT h r q => cases e
  | dg h k r q => cases e
  | ins h g r => cases e
  | xc h g r => cases e
theorem bt_tru (h : BP X e ma) (he : ∀ whole, isTrue e X.env whole = (do let v ← whole; standAt e.pos; holding [v] (truthy v)) := by intro _; rfl) : BT X e (mTru ma) := by
  refine fun W tk => (pt_truth (h W tk) he).imp fun σ H Q hq => ?_
  obtain ⟨G, io, F, β, I, hq⟩ := hq
  refine ⟨G, io, F, β, I, hq.bnd fun p β1 v H1 F1 fe1 I1 r1 h1 => ?_⟩
  unfold finT at h1
  cases e1 : (look β1 p).bind truD with
  | none => rw [e1] at h1; exact h1.elim
  | some k =>
    rw [e1] at h1
    obtain ⟨d, e2, e3⟩ := Option.bind_eq_some_iff.mp e1
    exact ⟨k, tru_of I1.sf (I1.look r1 e2) e3, h1 k H1 F1 fe1 I1 rfl⟩

/-! ### and, or, not -/
def mAnd (m n : M Bool) : M Bool := bnd m fun b => if b = true then n else ret false
def mOr (m n : M Bool) : M Bool := bnd m fun b => if b = true then ret true else n
def mNot (m : M Bool) : M Bool := bnd m fun b => ret (!b)
theorem bw_and1 (h : BT X a mt) : BW X (.BoolOp .And [a] pos) mt := fun W tk => pw_and1 (h W tk)
theorem bw_or1 (h : BT X a mt) : BW X (.BoolOp .Or [a] pos) mt := fun W tk => pw_or1 (h W tk)
theorem bw_and (h : BT X a mt) (h2 : BW X (.BoolOp .And (b :: rest) pos) mu) : BW X (.BoolOp .And (a :: b :: rest) pos) (mAnd mt mu) := by
  refine fun W tk => (pw_and (h W tk) (h2 W tk)).imp fun σ H Q hq => ?_
  obtain ⟨G, io, F, β, I, hq⟩ := hq
  refine ⟨G, io, F, β, I, hq.bnd fun k β1 v H1 F1 fe1 I1 r1 h1 => ?_⟩
  cases (show v = k from r1)
  cases k with
  | true => exact ⟨G, io, F1, β1, I1, h1.mono fe1⟩
  | false => exact h1 false H1 F1 fe1 I1 rfl
theorem bw_or (h : BT X a mt) (h2 : BW X (.BoolOp .Or (b :: rest) pos) mu) : BW X (.BoolOp .Or (a :: b :: rest) pos) (mOr mt mu) := by
  refine fun W tk => (pw_or (h W tk) (h2 W tk)).imp fun σ H Q hq => ?_
  obtain ⟨G, io, F, β, I, hq⟩ := hq
  refine ⟨G, io, F, β, I, hq.bnd fun k β1 v H1 F1 fe1 I1 r1 h1 => ?_⟩
  cases (show v = k from r1)
  cases k with
  | false => exact ⟨G, io, F1, β1, I1, h1.mono fe1⟩
  | true => exact h1 true H1 F1 fe1 I1 rfl
theorem bt_w (h : BW X e mt) : BT X e mt := fun W tk => (h W tk).pt
theorem bt_not (h : BT X a mt) : BT X (.UnaryOp .Not a pos) (mNot mt) := by
  refine fun W tk => (pt_not (h W tk)).imp fun σ H Q hq => ?_
  obtain ⟨G, io, F, β, I, hq⟩ := hq
  refine ⟨G, io, F, β, I, hq.bnd fun k β1 v H1 F1 fe1 I1 r1 h1 => ?_⟩
  cases (show v = k from r1)
  exact h1 (!k) H1 F1 fe1 I1 rfl
/-- as values: all but the last True or False -/
def mAndV (m n : M Rs) : M Rs := bnd (asB m) fun b => if b = true then n else ret (.fz (.bl false))
def mOrV (m n : M Rs) : M Rs := bnd (asB m) fun b => if b = true then ret (.fz (.bl true)) else n
def mNotV (m : M Rs) : M Rs := bnd (asB m) fun b => ret (.fz (.bl (!b)))
theorem be_one {op : BoolOp} (h : BE X a me) : BE X (.BoolOp op [a] pos) me := fun W tk => pe_one (h W tk)
theorem be_and {mr : M Rs} (h : BE X a me) (h2 : BE X (.BoolOp .And (b :: rest) pos) mr) : BE X (.BoolOp .And (a :: b :: rest) pos) (mAndV me mr) := by
  refine fun W tk => (pe_and (h W tk) (h2 W tk)).imp fun σ H Q hq => ?_
  obtain ⟨G, io, F, β, I, hq⟩ := hq
  unfold mAndV asB bnd at hq
  rw [R.bnd_assoc] at hq
  refine ⟨G, io, F, β, I, hq.bnd fun r β1 v H1 F1 fe1 I1 r1 h1 => ?_⟩
  cases r with
  | own d => exact h1.elim
  | fz d =>
    cases d with
    | bl k =>
      cases (show DR X.K X.mg F1 v (.bl k) from r1)
      refine ⟨k, rfl, ?_⟩
      cases k with
      | true => exact ⟨G, io, F1, β1, I1, Post.mono h1 fe1⟩
      | false => exact h1 _ H1 F1 fe1 I1 (.bl false)
    | _ => exact h1.elim
theorem be_not (h : BE X a me) : BE X (.UnaryOp .Not a pos) (mNotV me) := by
  refine fun W tk => (pe_not (h W tk)).imp fun σ H Q hq => ?_
  obtain ⟨G, io, F, β, I, hq⟩ := hq
  unfold mNotV asB bnd at hq
  rw [R.bnd_assoc] at hq
  refine ⟨G, io, F, β, I, hq.bnd fun r β1 v H1 F1 fe1 I1 r1 h1 => ?_⟩
  cases r with
  | own d => exact h1.elim
  | fz d =>
    cases d with
    | bl k =>
      cases (show DR X.K X.mg F1 v (.bl k) from r1)
      exact ⟨k, rfl, h1 _ H1 F1 fe1 I1 (.bl _)⟩
    | _ => exact h1.elim
def mIf (m : M Bool) (a b : M Rs) : M Rs := bnd m fun k => if k = true then a else b
/-! ## arguments, displays -/
def mNil : M (List Pl) := ret []
def mCons (m : M Pl) (n : M (List Pl)) : M (List Pl) := bnd m fun p => bnd n fun ps => ret (p :: ps)
theorem ba_nil : BA X [] mNil := fun W tk => pa_nil.imp fun σ H Q ⟨_, _, F, _, I, h⟩ => h _ H F .refl I .nil
theorem ba_cons {mr : M (List Pl)} (h : BP X e ma) (hr : BA X es mr) (hs : starEach (e :: es) X.env = (false, eval e X.env) :: starEach es X.env := by rfl) : BA X (e :: es) (mCons ma mr) := by
  refine fun W tk => (pa_cons (h W tk) (hr W tk) hs).imp fun σ H Q hq => ?_
  obtain ⟨G, io, F, β, I, hq⟩ := hq
  refine ⟨G, io, F, β, I, hq.bnd fun p β1 v H1 F1 fe1 I1 r1 h1 => ⟨G, io, F1, β1, I1, (h1.mono fe1).bnd fun ps β2 vs H2 F2 fe2 I2 r2 h2 => ?_⟩⟩
  exact (h2.mono fe2) _ H2 F2 .refl I2 (.cons (r1.mono fe2.same) r2)
end
end B


set_option Elab.async false
set_option linter.all false
set_option maxRecDepth 100000
set_option maxHeartbeats 4000000
namespace B
open PySem PySem.Spec L2
/-! ## numbers -/
def gI (f : Int → Int → Int) : D → D → Option Rs
  | .int i, .int j => some (.fz (.int (f i j)))
  | _, _ => none
def gIc (C : Int → Int → Bool) (f : Int → Int → Int) : D → D → Option Rs
  | .int i, .int j => if C i j = true then some (.fz (.int (f i j))) else none
  | _, _ => none
section
variable {X : Cx}
theorem opd_I {f : Value → Value → Sem Value} {g : Int → Int → Int} (h : OpR X f (rI0 fun i j => .int (g i j))) : OpD X f (gI g) := by
  refine OpD.of h fun F H x y d e rs Q sf hx hy hg q => ?_
  unfold gI at hg
  split at hg
  · cases hx
    cases hy
    cases hg
    exact ⟨_, _, rfl, rfl, q _ _ (NR.val sf (.int _))⟩
  · cases hg
theorem opd_Ic {f : Value → Value → Sem Value} {P : Int → Int → Prop} {g : Int → Int → Int} {C : Int → Int → Bool} (h : OpR X f (rI P fun i j => .int (g i j))) (hC : ∀ i j, C i j = true → P i j) : OpD X f (gIc C g) := by
  refine OpD.of h fun F H x y d e rs Q sf hx hy hg q => ?_
  unfold gIc at hg
  split at hg
  · rename_i i j
    by_cases hc : C i j = true
    · rw [if_pos hc] at hg
      cases hx
      cases hy
      cases hg
      exact ⟨_, _, rfl, rfl, hC _ _ hc, q _ _ (NR.val sf (.int _))⟩
    · rw [if_neg hc] at hg
      cases hg
  · cases hg
end
theorem OpD.alt {X : Cx} {f : Value → Value → Sem Value} {g g' : D → D → Option Rs} (h : OpD X f g) (h' : OpD X f g') : OpD X f (fun d e => (g d e).orElse fun _ => g' d e) := by
  refine OpD.of (OpR.or h h') fun F H x y d e rs Q sf hx hy hg q => ?_
  cases e1 : g d e with
  | some r =>
    rw [e1] at hg
    cases hg
    exact .inl ⟨F, d, e, _, sf, hx, hy, e1, q⟩
  | none =>
    rw [e1] at hg
    exact .inr ⟨F, d, e, _, sf, hx, hy, hg, q⟩
theorem OpD.congr {X : Cx} {f : Value → Value → Sem Value} {g g' : D → D → Option Rs} (h : OpD X f g) (k : ∀ d e r, g' d e = some r → g d e = some r) : OpD X f g' :=
  OpD.of h fun F H x y d e rs Q sf hx hy hg q => ⟨F, d, e, rs, sf, hx, hy, k _ _ _ hg, q⟩

/-! ## + -/
def gCat : D → D → Option Rs
  | .nd .lst a, .nd .lst b => if a.length + b.length ≤ sizeLine then some (.own (.nd .lst (a ++ b))) else none
  | _, _ => none
def gCatT : D → D → Option Rs
  | .nd .tup a, .nd .tup b => if a.length + b.length ≤ sizeLine then some (.fz (.nd .tup (a ++ b))) else none
  | _, _ => none
def gCatS : D → D → Option Rs
  | .str a, .str b => if a.length + b.length ≤ sizeLine then some (.fz (.str (a ++ b))) else none
  | _, _ => none
def gAdd : D → D → Option Rs
  | .int i, .int j => some (.fz (.int (i + j)))
  | .nd .lst a, .nd .lst b => if a.length + b.length ≤ sizeLine then some (.own (.nd .lst (a ++ b))) else none
  | .nd .tup a, .nd .tup b => if a.length + b.length ≤ sizeLine then some (.fz (.nd .tup (a ++ b))) else none
  | .str a, .str b => if a.length + b.length ≤ sizeLine then some (.fz (.str (a ++ b))) else none
  | _, _ => none
section
variable {X : Cx}
theorem opd_cat : OpD X (binaryOp .Add) gCat := by
  refine OpD.of op_cat fun F H x y d e rs Q sf hx hy hg q => ?_
  unfold gCat at hg
  split at hg
  · rename_i a b
    by_cases hc : a.length + b.length ≤ sizeLine
    · rw [if_pos hc] at hg
      cases hg
      cases hx with
      | lst hx rx =>
        cases hy with
        | lst hy ry =>
          exact ⟨_, _, _, _, rfl, rfl, hx, hy, by rw [rx.length, ry.length]; exact hc, fun p hp => q _ _ (NR.lst hp (rx.append ry))⟩
    · rw [if_neg hc] at hg
      cases hg
  · cases hg
theorem opd_catT : OpD X (binaryOp .Add) gCatT := by
  refine OpD.of op_catA fun F H x y d e rs Q sf hx hy hg q => ?_
  unfold gCatT at hg
  split at hg
  · rename_i a b
    by_cases hc : a.length + b.length ≤ sizeLine
    · rw [if_pos hc] at hg
      cases hg
      cases hx with
      | tup hx rx =>
        cases hy with
        | tup hy ry =>
          refine ⟨_, _, _, _, rfl, rfl, Same.tp sf hx, Same.tp sf hy, by rw [rx.length, ry.length]; exact hc, fun e => ?_, fun _ e => ?_, fun _ _ p hp => q _ _ (NR.tup sf hp (rx.append ry))⟩
          · subst e
            cases rx
            exact q _ _ (NR.val sf (.tup hy ry))
          · subst e
            cases ry
            rw [List.append_nil] at q
            exact q _ _ (NR.val sf (.tup hx rx))
    · rw [if_neg hc] at hg
      cases hg
  · cases hg
theorem opd_catS : OpD X (binaryOp .Add) gCatS := by
  refine OpD.of op_add_str fun F H x y d e rs Q sf hx hy hg q => ?_
  unfold gCatS at hg
  split at hg
  · rename_i a b
    by_cases hc : a.length + b.length ≤ sizeLine
    · rw [if_pos hc] at hg
      cases hg
      cases hx
      cases hy
      exact ⟨_, _, rfl, rfl, hc, q _ _ (NR.val sf (.str _))⟩
    · rw [if_neg hc] at hg
      cases hg
  · cases hg
theorem opd_add : OpD X (binaryOp .Add) gAdd := by
  refine (((opd_I op_add).alt opd_cat).alt (opd_catT.alt opd_catS)).congr fun d e r h => ?_
  unfold gAdd at h
  split at h
  · exact h
  · simp only [gI, gCat, Option.orElse]
    split at h
    · rename_i hc
      rw [if_pos hc]
      exact h
    · cases h
  · simp only [gI, gCat, gCatT, Option.orElse]
    split at h
    · rename_i hc
      rw [if_pos hc]
      exact h
    · cases h
  · simp only [gI, gCat, gCatT, gCatS, Option.orElse]
    split at h
    · rename_i hc
      rw [if_pos hc]
      exact h
    · cases h
  · cases h
theorem opd_sub : OpD X (binaryOp .Sub) (gI fun i j => i - j) := opd_I op_sub
/-- *: of numbers of which one is below 2^64, or of numbers of less than a million bits together; lists, tuples times a number -/
def smallI (i : Int) : Bool := decide (-(2 ^ 64) < i ∧ i < 2 ^ 64)
def cMul (i j : Int) : Bool := smallI i || smallI j
def cMulW (i j : Int) : Bool := decide (i.natAbs.log2 + j.natAbs.log2 < 1000000)
def gRep : D → D → Option Rs
  | .nd .lst ds, .int k => if k < 2 ^ 30 ∧ -(2 ^ 30) < k ∧ ds.length * k.toNat ≤ sizeLine then some (.own (.nd .lst (List.replicate k.toNat ds).flatten)) else none
  | _, _ => none
def gRepT : D → D → Option Rs
  | .nd .tup ds, .int k => if ds ≠ [] ∧ 2 ≤ k ∧ k ≤ 1000 ∧ ds.length ≤ 1000 then some (.fz (.nd .tup (List.replicate k.toNat ds).flatten)) else none
  | _, _ => none
def gMul : D → D → Option Rs
  | .int i, .int j => if cMul i j = true then some (.fz (.int (i * j))) else if cMulW i j = true then some (.fz (.int (i * j))) else none
  | .nd .lst ds, .int k => if k < 2 ^ 30 ∧ -(2 ^ 30) < k ∧ ds.length * k.toNat ≤ sizeLine then some (.own (.nd .lst (List.replicate k.toNat ds).flatten)) else none
  | .nd .tup ds, .int k => if ds ≠ [] ∧ 2 ≤ k ∧ k ≤ 1000 ∧ ds.length ≤ 1000 then some (.fz (.nd .tup (List.replicate k.toNat ds).flatten)) else none
  | _, _ => none
theorem DRs.rep {K : PySem.W.Frag} {mg : Str → Option Value} {F : Hp} {vs : List V} {ds : List D} (h : DRs K mg F vs ds) : ∀ k, DRs K mg F (List.replicate k vs).flatten (List.replicate k ds).flatten
  | 0 => .nil
  | k + 1 => by
    rw [List.replicate_succ, List.replicate_succ, List.flatten_cons, List.flatten_cons]
    exact h.append (DRs.rep h k)
theorem opd_rep : OpD X (binaryOp .Mult) gRep := by
  refine OpD.of op_rep fun F H x y d e rs Q sf hx hy hg q => ?_
  unfold gRep at hg
  split at hg
  · split at hg
    · rename_i hc
      cases hg
      cases hx with
      | lst hx rx =>
        cases hy
        refine ⟨_, _, _, rfl, rfl, hx, by omega, by omega, by rw [rx.length]; exact hc.2.2, fun p hp => q _ _ (NR.lst hp (rx.rep _))⟩
    · cases hg
  · cases hg
theorem opd_repT : OpD X (binaryOp .Mult) gRepT := by
  refine OpD.of op_repT fun F H x y d e rs Q sf hx hy hg q => ?_
  unfold gRepT at hg
  split at hg
  · split at hg
    · rename_i hc
      obtain ⟨h1, h2, h3, h4⟩ := hc
      cases hg
      cases hx with
      | tup hx rx =>
        cases hy
        refine ⟨_, _, _, rfl, rfl, Same.tp sf hx, fun e => ?_, h2, h3, by rw [rx.length]; exact h4, fun p hp => q _ _ (NR.tup sf hp (rx.rep _))⟩
        subst e
        cases rx
        exact h1 rfl
    · cases hg
  · cases hg
theorem opd_mul : OpD X (binaryOp .Mult) gMul := by
  refine (((opd_Ic (C := cMul) op_mul ?_).alt (opd_Ic (C := cMulW) op_mulW ?_)).alt (opd_rep.alt opd_repT)).congr fun d e r h => ?_
  · intro i j h
    unfold cMul smallI at h
    simp only [Bool.or_eq_true, decide_eq_true_eq] at h
    exact h
  · intro i j h
    unfold CMulW
    simpa [cMulW] using h
  · unfold gMul at h
    split at h
    · simp only [gIc, Option.orElse]
      split at h
      · rename_i hc
        rw [if_pos hc]
        exact h
      · rename_i hc
        rw [if_neg hc]
        split at h
        · rename_i hw
          rw [if_pos hw]
          exact h
        · cases h
    · simp only [gIc, gRep, Option.orElse]
      split at h
      · rename_i hc
        rw [if_pos hc]
        cases h
        rfl
      · cases h
    · simp only [gIc, gRep, gRepT, Option.orElse]
      split at h
      · rename_i hc
        rw [if_pos hc]
        cases h
        rfl
      · cases h
    · cases h
/-! ## //, %, **, <<, bits -/
def cDiv (_ j : Int) : Bool := decide (0 < j ∧ j.natAbs.log2 < 9000)
theorem opd_fdiv : OpD X (binaryOp .FloorDiv) (gIc cDiv fun i j => i / j) := opd_Ic op_fdivW fun i j h => by unfold CDivW; simpa [cDiv] using h
theorem opd_mod : OpD X (binaryOp .Mod) (gIc (fun _ j => decide (0 < j)) fun i j => i % j) := opd_Ic op_mod fun i j h => of_decide_eq_true h
def cPow (i j : Int) : Bool := decide (0 ≤ j ∧ j ≤ 1000000 ∧ i.natAbs < 2 ^ 64)
theorem opd_pow : OpD X (binaryOp .Pow) (gIc cPow fun i j => i ^ j.toNat) := opd_Ic op_pow fun i j h => by unfold CPow; simpa [cPow] using h
/-! one-place -/
def UnD (X : Cx) (f : Value → Sem Value) (g : D → Option Rs) : Prop := UnR X f fun x H Q => ∃ F d r, Same F H ∧ HR X.K X.mg F H x d ∧ g d = some r ∧ ∀ z H', NR X.K X.mg F H r z H' → Q z H'
def fin1 (g : D → Option Rs) (p : Pl) : M Rs := fun β => match (look β p).bind g with
  | some r => .ok r β
  | none => .stuck
def mUn (g : D → Option Rs) (m : M Pl) : M Rs := bnd m (fin1 g)
theorem fin1_post {W : WX} {G : GT} {F : Hp} {io : List Addr} {σ : L2.St} {g : D → Option Rs} {p : Pl} {β : Env} {v : V} {H : Hp} {Q : VK} (I : BI X.K X.mg G F io β σ H) (rp : PR X.K X.mg F σ v p)
    (h : Post X.K X.mg W (relE X.K X.mg) G F io σ (fin1 g p β) Q) : ∃ F d r, Same F H ∧ HR X.K X.mg F H v d ∧ g d = some r ∧ ∀ z H', NR X.K X.mg F H r z H' → Q z H' := by
  unfold fin1 at h
  cases e : (look β p).bind g with
  | none => rw [e] at h; exact h.elim
  | some r =>
    rw [e] at h
    obtain ⟨d, e1, e2⟩ := Option.bind_eq_some_iff.mp e
    refine ⟨F, d, r, I.sf, I.look rp e1, e2, fun z H' n => ?_⟩
    obtain ⟨F', fe, I', rr⟩ := I.step n
    exact h z H' F' fe I' rr
theorem be_un {a : Expr} {ma : M Pl} {pos : Pos} {op : UnaryOp} {g : D → Option Rs} (ho : UnD X (unaryOp op) g) (ha : BP X a ma) : BE X (.UnaryOp op a pos) (mUn g ma) := by
  refine fun W tk => (pe_un ho (ha W tk)).imp fun σ H Q h => ?_
  obtain ⟨G, io, F, β, I, h⟩ := h
  refine ⟨G, io, F, β, I, h.bnd fun p β1 v H1 F1 fe1 I1 r1 h1 => fin1_post I1 r1 (h1.mono fe1)⟩
def gNeg : D → Option Rs
  | .int i => some (.fz (.int (-i)))
  | _ => none
theorem und_neg : UnD X (unaryOp .USub) gNeg := by
  intro pins s σ H x v Q I rx h
  obtain ⟨F, d, r, sf, hx, hg, q⟩ := h
  unfold gNeg at hg
  split at hg
  · cases hg
    cases hx
    exact un_neg pins s σ H _ v Q I rx ⟨_, rfl, q _ _ (NR.val sf (.int _))⟩
  · cases hg
end
/-! ## comparisons -/
def gC (f : Int → Int → Bool) : D → D → Option Rs
  | .int i, .int j => some (.fz (.bl (f i j)))
  | _, _ => none
mutual
/-- as PyData (dicts and instances: as a dict, which is not compared) -/
def toPy : D → PyData
  | .non => .none
  | .bl b => .bool b
  | .int i => .int i
  | .str x => .str x
  | .nd .tup ds => .tuple (toPys ds)
  | .nd .lst ds => .list (toPys ds)
  | .nd .dct _ => .dict []
  | .nd .scr _ => .dict []
  | .nd .wtp _ => .dict []
  | .nd .dcg _ => .dict []
  | .nd (.ins _ _) _ => .dict []
  | .nd (.xc _ _) _ => .dict []
def toPys : List D → List PyData
  | [] => []
  | d :: ds => toPy d :: toPys ds
end
def shp (d : D) : Bool := SeqAt.shaped (toPy d)
def eqv (d e : D) : Bool := PyData.eqv (toPy d) (toPy e)
mutual
theorem DR.dp {K : PySem.W.Frag} {mg : Str → Option Value} {H : Hp} : ∀ {v : V} {d : D}, DR K mg H v d → (toPy d).canLay0 = true → Dp K H v (toPy d)
  | _, _, .non, _ => .non
  | _, _, .bl b, _ => .bl b
  | _, _, .int i, _ => .int i
  | _, _, .str x, _ => .str x
  | _, _, .wtp h r, e => by simp [toPy, PyData.canLay0] at e
  | _, _, .tup h r, e => .tup (.inl (.inl h)) (DRs.dp r (by simpa [toPy, PyData.canLay0] using e))
  | _, _, .lst h r, e => .lst (.inl (.inl h)) (DRs.dp r (by simpa [toPy, PyData.canLay0] using e))
  | _, _, .scr h r, e => by simp [toPy, PyData.canLay0] at e
  | _, _, .dK h r q, e => by simp [toPy, PyData.canLay0] at e
  | _, _, .dT h r q, e => by simp [toPy, PyData.canLay0] at e
  | _, _, .dg h k r q, e => by simp [toPy, PyData.canLay0] at e
  | _, _, .ins h g r, e => by simp [toPy, PyData.canLay0] at e
  | _, _, .xc h g r, e => by simp [toPy, PyData.canLay0] at e
theorem DRs.dp {K : PySem.W.Frag} {mg : Str → Option Value} {H : Hp} : ∀ {vs : List V} {ds : List D}, DRs K mg H vs ds → PyData.canLayAll0 (toPys ds) = true → DpAll K H vs (toPys ds)
  | _, _, .nil, _ => .nil
  | _, _, .cons a b, e => by
    simp only [toPys, PyData.canLayAll0, Bool.and_eq_true] at e
    exact .cons (DR.dp a e.1) (DRs.dp b e.2)
end
theorem shp_lay {d : D} (h : shp d = true) : (toPy d).canLay0 = true := by
  unfold shp SeqAt.shaped at h
  rw [Bool.and_eq_true] at h
  exact h.1
def gEq (d e : D) : Option Rs := if shp d = true ∧ shp e = true then some (.fz (.bl (eqv d e))) else none
def gNe (d e : D) : Option Rs := if shp d = true ∧ shp e = true then some (.fz (.bl (!eqv d e))) else none
section
variable {X : Cx}
theorem opd_C {f : Value → Value → Sem Value} {g : Int → Int → Bool} (h : OpR X f (rI0 fun i j => .bl (g i j))) : OpD X f (gC g) := by
  refine OpD.of h fun F H x y d e rs Q sf hx hy hg q => ?_
  unfold gC at hg
  split at hg
  · cases hx
    cases hy
    cases hg
    exact ⟨_, _, rfl, rfl, q _ _ (NR.val sf (.bl _))⟩
  · cases hg
theorem opd_lt : OpD X (compareOp .Lt) (gC fun i j => decide (i < j)) := opd_C op_lt
theorem opd_le : OpD X (compareOp .LtE) (gC fun i j => decide (i ≤ j)) := opd_C op_le
theorem opd_gt : OpD X (compareOp .Gt) (gC fun i j => decide (j < i)) := opd_C op_gt
theorem opd_ge : OpD X (compareOp .GtE) (gC fun i j => decide (j ≤ i)) := opd_C op_ge
theorem opd_eq (hu : X.A.units + 64 < cLine) : OpD X (compareOp .Eq) gEq := by
  refine OpD.of (op_eqD hu) fun F H x y d e rs Q sf hx hy hg q => ?_
  unfold gEq at hg
  split at hg
  · rename_i hc
    cases hg
    exact ⟨_, _, (hx.dr sf).dp (shp_lay hc.1), (hy.dr sf).dp (shp_lay hc.2), hc.1, hc.2, q _ _ (NR.val sf (.bl _))⟩
  · cases hg
theorem opd_ne (hu : X.A.units + 64 < cLine) : OpD X (compareOp .NotEq) gNe := by
  refine OpD.of (op_neD hu) fun F H x y d e rs Q sf hx hy hg q => ?_
  unfold gNe at hg
  split at hg
  · rename_i hc
    cases hg
    exact ⟨_, _, (hx.dr sf).dp (shp_lay hc.1), (hy.dr sf).dp (shp_lay hc.2), hc.1, hc.2, q _ _ (NR.val sf (.bl _))⟩
  · cases hg
end
end B


set_option Elab.async false
set_option linter.all false
set_option maxRecDepth 100000
set_option maxHeartbeats 4000000
namespace B
open PySem PySem.Spec L2
/-! ## in -/
def flt : D → Bool
  | .nd _ _ => false
  | _ => true
def hasSub (t s : Str) : Bool := !(Builtin.Str.occurrences t s 0 t.length 1).isEmpty
def inD (d : D) : D → Option Bool
  | .nd .lst ds => if shp d = true ∧ shp (.nd .lst ds) = true then some (ds.any fun z => eqv z d) else none
  | .nd .tup ds => if flt d = true ∧ ds.all flt = true then some (ds.any fun z => eqv z d) else none
  | .str t => match d with
    | .str s => some (hasSub t s)
    | _ => none
  | _ => none
def gIn (d e : D) : Option Rs := (inD d e).map fun b => .fz (.bl b)
def gNotIn (d e : D) : Option Rs := (inD d e).map fun b => .fz (.bl (!b))
section
variable {X : Cx}
/-! ## is None -/
def isN : D → Bool
  | .non => true
  | _ => false
/-! ## a op b op c -/
def mChain (g g' : D → D → Option Rs) (ma mb mc : M Pl) : M Rs := bnd ma fun p => bnd mb fun q => bnd (asB (fin2 g p q)) fun k => if k = true then bnd mc fun r => fin2 g' q r else ret (.fz (.bl false))
theorem asB_ok {W : WX} {G : GT} {F : Hp} {io : List Addr} {σ : L2.St} {α : Type} {γ : Type} {Rel : GT → Hp → List Addr → Hp → B.Env → L2.St → γ → α → Prop} {r : R Rs} {f : Bool → B.Env → R α} {Q : γ → Hp → Prop}
    (h : Post X.K X.mg W Rel G F io σ ((r.bnd fun r => match r with
      | .fz (.bl b) => ret b
      | _ => stk).bnd f) Q) (Q' : V → Hp → Prop)
    (k : ∀ b β H' F', FE G io F F' → BI X.K X.mg G F' io β σ H' → Post X.K X.mg W Rel G F io σ (f b β) Q → Q' (.bl b) H') : Post X.K X.mg W (relE X.K X.mg) G F io σ r Q' := by
  rw [R.bnd_assoc] at h
  refine h.bnd fun r β v H' F' fe I rr h2 => ?_
  cases r with
  | own d => exact h2.elim
  | fz d =>
    cases d with
    | bl b =>
      cases (show DR X.K X.mg F' v (.bl b) from rr)
      exact k b β H' F' fe I h2
    | _ => exact h2.elim
theorem be_chain {a b c : Expr} {pos : Pos} {op op' : CmpOp} {g g' : D → D → Option Rs} {ma mb mc : M Pl} (ho : OpD X (compareOp op) g) (ho' : OpD X (compareOp op') g') (ha : BP X a ma) (hb : BP X b mb) (hc : BP X c mc)
    (hm : lastMarks [op, op'] [b, c] = false := by first | rfl | exact nomark _) : BE X (.Compare a [op, op'] [b, c] pos) (mChain g g' ma mb mc) := by
  refine fun W tk => (pe_chain ho ho' (ha W tk) (hb W tk) (hc W tk) hm).imp fun σ H Q h => ?_
  obtain ⟨G, io, F, β, I, h⟩ := h
  refine ⟨G, io, F, β, I, h.bnd fun p β1 v H1 F1 fe1 I1 r1 h1 => ⟨G, io, F1, β1, I1, (h1.mono fe1).bnd fun q β2 w H2 F2 fe2 I2 r2 h2 => ?_⟩⟩
  have h2 := h2.mono fe2
  refine fin2_post (Q := fun z H3 => ∃ k, z = .bl k ∧ _) I2 (r1.mono fe2.same) r2 (asB_ok h2 _ fun k β3 H3 F3 fe3 I3 h3 => ?_)
  refine ⟨k, rfl, ?_⟩
  cases k with
  | true =>
    refine ⟨G, io, F3, β3, I3, (h3.mono fe3).bnd fun r β4 u H4 F4 fe4 I4 r4 h4 => ?_⟩
    exact fin2_post I4 ((r2.mono fe3.same).mono fe4.same) r4 (h4.mono fe4)
  | false => exact h3 _ H3 F3 fe3 I3 (.bl false)

/-! ## subscripts -/
def gIx : D → D → Option Rs
  | .nd .lst ds, .int i => (atI ds i).map .fz
  | .nd .scr ds, .int i => (atI ds i).map .fz
  | .nd .tup ds, .int i => (atI ds i).map .fz
  | .str z, .int i => if z.length ≤ sizeLine then (atI z.cps.toList i).map fun c => .fz (.str ⟨#[c]⟩) else none
  | _, _ => none
theorem DRs.atI {K : PySem.W.Frag} {mg : Str → Option Value} {F : Hp} {vs : List V} {ds : List D} {i : Int} {d : D} (h : DRs K mg F vs ds) (e : L2.atI ds i = some d) : ∃ v, L2.atI vs i = some v ∧ DR K mg F v d := by
  unfold L2.atI at e ⊢
  rw [h.length]
  cases e2 : ixN ds.length i with
  | none => rw [e2] at e; cases e
  | some j =>
    rw [e2] at e
    exact h.getD e
theorem ixD_seq : IxR X (rD X.K X.mg gIx) := fun value slice pins s σ H x y v u Q I rx ry h hs => by
    refine ix_seq value slice pins s σ H x y v u Q I rx ry ?_ hs
    obtain ⟨F, d, e, rs, sf, hx, hy, hg, q⟩ := h
    unfold gIx at hg
    split at hg
    · rename_i ds i
      cases hy
      cases hx with
      | lst hx rx =>
        cases e1 : L2.atI ds i with
        | none => rw [e1] at hg; cases hg
        | some d =>
          rw [e1] at hg
          cases hg
          obtain ⟨w, ew, rw'⟩ := rx.atI e1
          exact .inl ⟨_, _, _, _, rfl, rfl, .inl (.inl hx), ew, q _ _ (NR.val sf rw')⟩
    · rename_i ds i
      cases hy
      cases hx with
      | scr hx rx =>
        cases e1 : L2.atI ds i with
        | none => rw [e1] at hg; cases hg
        | some d =>
          rw [e1] at hg
          cases hg
          obtain ⟨w, ew, rw'⟩ := rx.atI e1
          exact .inl ⟨_, _, _, _, rfl, rfl, hx, ew, q _ _ (NR.val sf rw')⟩
    · rename_i ds i
      cases hy
      cases hx with
      | tup hx rx =>
        cases e1 : L2.atI ds i with
        | none => rw [e1] at hg; cases hg
        | some d =>
          rw [e1] at hg
          cases hg
          obtain ⟨w, ew, rw'⟩ := rx.atI e1
          exact .inr (.inl ⟨_, _, _, _, rfl, rfl, Same.tp sf hx, ew, q _ _ (NR.val sf rw')⟩)
    · split at hg
      · rename_i z i hz
        cases hy
        cases hx
        cases e1 : L2.atI z.cps.toList i with
        | none => rw [e1] at hg; cases hg
        | some d =>
          rw [e1] at hg
          cases hg
          exact .inr (.inr ⟨_, _, _, rfl, rfl, hz, e1, q _ _ (NR.val sf (.str _))⟩)
      · cases hg
    · cases hg
theorem be_ix {a b : Expr} {pos : Pos} {ma mb : M Pl} (ha : BP X a ma) (hb : BP X b mb) (hs : PlainIx b := by exact fun _ _ => rfl) : BE X (.Subscript a b pos) (mOp gIx ma mb) := by
  refine fun W tk => (pe_ix ixD_seq (ha W tk) (hb W tk) hs).imp fun σ H Q h => ?_
  obtain ⟨G, io, F, β, I, h⟩ := h
  refine ⟨G, io, F, β, I, h.bnd fun p β1 v H1 F1 fe1 I1 r1 h1 => ⟨G, io, F1, β1, I1, (h1.mono fe1).bnd fun q β2 w H2 F2 fe2 I2 r2 h2 => ?_⟩⟩
  exact fin2_post I2 (r1.mono fe2.same) r2 (h2.mono fe2)
/-! slices -/
/-- an optional int -/
def BO (X : Cx) (e : Option Expr) (m : M (Option Int)) : Prop := ∀ W, Takes X W → PO X e (gOf X.K X.mg W (fun _ _ _ _ _ _ v a => v = a) m)
theorem _root_.L2.PO.imp {e : Option Expr} {t t' : TO} (h : PO X e t) (k : ∀ σ H Q, t' σ H Q → t σ H Q) : PO X e t' := ⟨fun pins s σ H Q I q => h.run pins s σ H Q I (k σ H Q q)⟩
def mNoPart : M (Option Int) := ret none
def mPart (m : M Rs) : M (Option Int) := bnd m fun r => match r with
  | .fz (.int i) => ret (some i)
  | _ => stk
theorem bo_none : BO X none mNoPart := fun W tk => po_none.imp fun σ H Q ⟨_, _, F, _, I, h⟩ => h _ H F .refl I rfl
theorem bo_some {e : Expr} {m : M Rs} (h : BE X e m) : BO X (some e) (mPart m) := by
  refine fun W tk => (po_some (h W tk)).imp fun σ H Q h => ?_
  obtain ⟨G, io, F, β, I, h⟩ := h
  refine ⟨G, io, F, β, I, h.bnd fun r β1 v H1 F1 fe1 I1 r1 h1 => ?_⟩
  cases r with
  | own d => exact h1.elim
  | fz d =>
    cases d with
    | int i =>
      cases (show DR X.K X.mg F1 v (.int i) from r1)
      exact ⟨i, rfl, h1 _ H1 F1 fe1 I1 rfl⟩
    | _ => exact h1.elim
/-- the items of xs[lo:hi] -/
def cut {α : Type} (xs : List α) (lo hi : Option Int) : List α := (xs.drop (HT.sIx xs.length 0 lo)).take (HT.sIx xs.length xs.length hi - HT.sIx xs.length 0 lo)
def gSl (lo hi : Option Int) : D → Option Rs
  | .nd .lst ds => some (.own (.nd .lst (cut ds lo hi)))
  | .nd .scr ds => some (.own (.nd .lst (cut ds lo hi)))
  | .nd .tup ds => some (.fz (.nd .tup (cut ds lo hi)))
  | _ => none
def mSl (ma : M Pl) (ml mh : M (Option Int)) : M Rs := bnd ma fun p => bnd ml fun lo => bnd mh fun hi => fin1 (gSl lo hi) p
theorem DRs.cut {K : PySem.W.Frag} {mg : Str → Option Value} {F : Hp} {vs : List V} {ds : List D} (h : DRs K mg F vs ds) (lo hi : Option Int) : DRs K mg F (cutV vs lo hi) (B.cut ds lo hi) := by
  unfold cutV B.cut
  rw [h.length]
  exact (h.drop _).take _
theorem cut_all {vs : List V} {lo hi : Option Int} (h : HT.sIx vs.length 0 lo = 0 ∧ HT.sIx vs.length vs.length hi = vs.length) : cutV vs lo hi = vs := by
  unfold cutV
  rw [h.1, h.2, List.drop_zero, Nat.sub_zero, List.take_length]
theorem be_slice {e : Expr} {lo hi : Option Expr} {p2 pos : Pos} {ma : M Pl} {ml mh : M (Option Int)} (ha : BP X e ma) (hl : BO X lo ml) (hh : BO X hi mh) : BE X (.Subscript e (.Slice lo hi none p2) pos) (mSl ma ml mh) := by
  have key : L2.SlR X (fun x lo hi H Q => ∃ F d r, Same F H ∧ HR X.K X.mg F H x d ∧ gSl lo hi d = some r ∧ ∀ z H', NR X.K X.mg F H r z H' → Q z H') := fun pins s σ H x v vl vu lo hi sl Q I rx hs pl pu h => by
    refine L2.SlR.or sl_list sl_tupA pins s σ H x v vl vu lo hi sl Q I rx hs pl pu ?_
    obtain ⟨F, d, r, sf, hx, hg, q⟩ := h
    unfold gSl at hg
    split at hg
    · cases hg
      cases hx with
      | lst hx rx => exact .inl ⟨_, _, rfl, .inl (.inl hx), fun p hp => q _ _ (NR.lst hp (rx.cut lo hi))⟩
    · cases hg
      cases hx with
      | scr hx rx => exact .inl ⟨_, _, rfl, hx, fun p hp => q _ _ (NR.lst hp (rx.cut lo hi))⟩
    · cases hg
      cases hx with
      | tup hx rx =>
        refine .inr ⟨_, _, rfl, Same.tp sf hx, fun hw => ?_, fun _ p hp => q _ _ (NR.tup sf hp (rx.cut lo hi))⟩
        have c := rx.cut lo hi
        rw [cut_all hw] at c
        exact q _ _ (NR.val sf (.tup hx c))
    · cases hg
  refine fun W tk => (pe_slice key (ha W tk) (hl W tk) (hh W tk)).imp fun σ H Q h => ?_
  obtain ⟨G, io, F, β, I, h⟩ := h
  refine ⟨G, io, F, β, I, h.bnd fun p β1 v H1 F1 fe1 I1 r1 h1 => ⟨G, io, F1, β1, I1, (h1.mono fe1).bnd fun lo β2 w H2 F2 fe2 I2 r2 h2 => ?_⟩⟩
  cases (show w = lo from r2)
  refine ⟨G, io, F2, β2, I2, (h2.mono fe2).bnd fun hi β3 w H3 F3 fe3 I3 r3 h3 => ?_⟩
  cases (show w = hi from r3)
  exact fin1_post I3 ((r1.mono fe2.same).mono fe3.same) (h3.mono fe3)
def gRevL : D → Option Rs
  | .nd .lst ds => some (.own (.nd .lst ds.reverse))
  | _ => none
/-! ## fields -/
def FldOk (X : Cx) (c f : Str) : Prop := ∀ C, X.mg c = some (.ref C) → Cls X.K C ∧ NoAttr X.K C f
def gFld (c f : Str) : D → Option Rs
  | .nd (.ins c' ns) ds => if c' = c then ((ns.zip ds).lookup f).map .fz else none
  | _ => none
theorem DRs.look {K : PySem.W.Frag} {mg : Str → Option Value} {F : Hp} {f : Str} {d : D} : ∀ {fs : List (Str × V)} {ds : List D}, DRs K mg F (fs.map (·.2)) ds → ((fs.map (·.1)).zip ds).lookup f = some d → ∃ v, fs.lookup f = some v ∧ DR K mg F v d
  | [], _, .nil, h => by cases h
  | (n, v) :: fs, _, .cons a b, h => by
    simp only [List.map_cons, List.zip_cons_cons, List.lookup_cons] at h ⊢
    cases e : f == n with
    | true =>
      rw [e] at h
      cases h
      exact ⟨_, rfl, a⟩
    | false =>
      rw [e] at h
      exact DRs.look b h
theorem be_fld (c : Str) {e : Expr} {f : Str} {pos : Pos} {ma : M Pl} (hf : FldOk X c f) (ha : BP X e ma) (hb : attributeBase e f X.env (eval e X.env) = eval e X.env := by rfl) : BE X (.Attribute e f pos) (mUn (gFld c f) ma) := by
  refine fun W tk => (pe_fld (ha W tk) hb).imp fun σ H Q h => ?_
  obtain ⟨G, io, F, β, I, h⟩ := h
  refine ⟨G, io, F, β, I, h.bnd fun p β1 v H1 F1 fe1 I1 r1 h1 => ?_⟩
  obtain ⟨F, d, r, sf, hx, hg, q⟩ := fin1_post I1 r1 (h1.mono fe1)
  unfold gFld at hg
  split at hg
  · split at hg
    · rename_i ec
      subst ec
      cases hx with
      | ins hx g rx =>
        rename_i C dx fs
        cases e1 : ((fs.map (·.1)).zip _).lookup f with
        | none => rw [e1] at hg; cases hg
        | some d =>
          rw [e1] at hg
          cases hg
          obtain ⟨w, ew, rw'⟩ := rx.look e1
          obtain ⟨k1, k2⟩ := hf _ g
          exact ⟨_, _, _, _, _, rfl, hx, k1, k2, ew, q _ _ (NR.val sf rw')⟩
    · cases hg
  · cases hg
end
/-! ## built-in functions -/
inductive HRs (K : PySem.W.Frag) (mg : Str → Option Value) (F H : Hp) : List V → List D → Prop
  | nil : HRs K mg F H [] []
  | cons {v : V} {vs : List V} {d : D} {ds : List D} : HR K mg F H v d → HRs K mg F H vs ds → HRs K mg F H (v :: vs) (d :: ds)
def looks (β : B.Env) : List Pl → Option (List D)
  | [] => some []
  | p :: ps => match look β p, looks β ps with
    | some d, some ds => some (d :: ds)
    | _, _ => none
theorem BI.looks {K : PySem.W.Frag} {mg : Str → Option Value} {G : GT} {F H : Hp} {io : List Addr} {β : B.Env} {σ : L2.St} (I : BI K mg G F io β σ H) : ∀ {vs : List V} {ps : List Pl} {ds : List D}, PRs K mg F σ vs ps → B.looks β ps = some ds → HRs K mg F H vs ds
  | _, _, ds, .nil, e => by
    cases e
    exact .nil
  | _, _, ds, .cons (p := p) (ps := ps) a b, e => by
    simp only [B.looks] at e
    cases e1 : B.look β p with
    | none => rw [e1] at e; cases e
    | some d =>
      cases e2 : B.looks β ps with
      | none => rw [e1, e2] at e; cases e
      | some es =>
        rw [e1, e2] at e
        cases e
        exact .cons (I.look a e1) (BI.looks I b e2)
def finA (g : List D → Option Rs) (ps : List Pl) : M Rs := fun β => match (looks β ps).bind g with
  | some r => .ok r β
  | none => .stuck
def mCall (g : List D → Option Rs) (m : M (List Pl)) : M Rs := bnd m (finA g)
/-- a call of a known value, by data -/
def rA (K : PySem.W.Frag) (mg : Str → Option Value) (g : List D → Option Rs) : List V → Hp → VK → Prop := fun xs H Q => ∃ F ds r, Same F H ∧ HRs K mg F H xs ds ∧ g ds = some r ∧ ∀ z H', NR K mg F H r z H' → Q z H'
def CallD (X : Cx) (f : Value) (g : List D → Option Rs) : Prop := CallR X f (rA X.K X.mg g)
theorem CallD.of {X : Cx} {f : Value} {r : List V → Hp → VK → Prop} {g : List D → Option Rs} (h : CallR X f r)
    (k : ∀ F H xs ds rs (Q : VK), Same F H → HRs X.K X.mg F H xs ds → g ds = some rs → (∀ z H', NR X.K X.mg F H rs z H' → Q z H') → r xs H Q) : CallD X f g :=
  fun pins s σ H xs us Q I r ⟨F, ds, rs, sf, hx, hg, q⟩ => h pins s σ H xs us Q I r (k F H xs ds rs Q sf hx hg q)
theorem finA_post {X : Cx} {W : WX} {G : GT} {F : Hp} {io : List Addr} {σ : L2.St} {g : List D → Option Rs} {ps : List Pl} {β : B.Env} {vs : List V} {H : Hp} {Q : VK} (I : BI X.K X.mg G F io β σ H) (rp : PRs X.K X.mg F σ vs ps)
    (h : Post X.K X.mg W (relE X.K X.mg) G F io σ (finA g ps β) Q) : rA X.K X.mg g vs H Q := by
  unfold finA at h
  cases e : (looks β ps).bind g with
  | none => rw [e] at h; exact h.elim
  | some r =>
    rw [e] at h
    obtain ⟨ds, e1, e2⟩ := Option.bind_eq_some_iff.mp e
    refine ⟨F, ds, r, I.sf, I.looks rp e1, e2, fun z H' n => ?_⟩
    obtain ⟨F', fe, I', rr⟩ := I.step n
    exact h z H' F' fe I' rr
section
variable {X : Cx} {x : Str} {p pos : Pos} {e : Expr} {es : List Expr} {idb T : String} {g : List D → Option Rs} {ma : M (List Pl)}
theorem be_callB (hc : CallD X (.builtin idb) g) (hg : Gl X x) (hm : X.mg x = none) (hv : bootBuiltins x = some (.builtin idb)) (ha : BA X (e :: es) ma) (hn : x ≠ "__name__" := by decide) (hdb : (x == ("__debug__" : Str)) = false := by decide)
    (he : starEach (e :: es) X.env = (false, eval e X.env) :: starEach es X.env := by rfl) (hpl : (backTo pos (starEach es X.env)).any (·.1) = false := by rfl) : BE X (.Call (.Name x p) (e :: es) [] pos) (mCall g ma) := by
  refine fun W tk => (pe_callB hc hg hm hv (ha W tk) hn hdb he hpl).imp fun σ H Q h => ?_
  obtain ⟨G, io, F, β, I, h⟩ := h
  exact ⟨G, io, F, β, I, h.bnd fun p β1 v H1 F1 fe1 I1 r1 h1 => finA_post I1 r1 (h1.mono fe1)⟩
theorem be_callTy (hc : CallD X (.type T) g) (hg : Gl X x) (hm : X.mg x = none) (hv : bootBuiltins x = some (.type T)) (ha : BA X (e :: es) ma) (hn : x ≠ "__name__" := by decide) (hdb : (x == ("__debug__" : Str)) = false := by decide)
    (he : starEach (e :: es) X.env = (false, eval e X.env) :: starEach es X.env := by rfl) (hpl : (backTo pos (starEach es X.env)).any (·.1) = false := by rfl) : BE X (.Call (.Name x p) (e :: es) [] pos) (mCall g ma) := by
  refine fun W tk => (pe_callTy hc hg hm hv (ha W tk) hn hdb he hpl).imp fun σ H Q h => ?_
  obtain ⟨G, io, F, β, I, h⟩ := h
  exact ⟨G, io, F, β, I, h.bnd fun p β1 v H1 F1 fe1 I1 r1 h1 => finA_post I1 r1 (h1.mono fe1)⟩
def gLen : List D → Option Rs
  | [.nd .lst ds] => some (.fz (.int ds.length))
  | [.nd .scr ds] => some (.fz (.int ds.length))
  | [.nd .tup ds] => some (.fz (.int ds.length))
  | [.str z] => if z.length ≤ sizeLine then some (.fz (.int z.length)) else none
  | _ => none
theorem cd_len : CallD X (.builtin "len") gLen := by
  refine CallD.of (CallR.or call_len_seq call_len_str) fun F H xs ds rs Q sf hx hg q => ?_
  unfold gLen at hg
  split at hg
  · cases hg
    cases hx with
    | cons h1 h2 =>
      cases h2
      cases h1 with
      | lst h r =>
        refine .inl ⟨_, _, rfl, .inl (.inl (.inl h)), ?_⟩
        rw [r.length]
        exact q _ _ (NR.val sf (.int _))
  · cases hg
    cases hx with
    | cons h1 h2 =>
      cases h2
      cases h1 with
      | scr h r =>
        refine .inl ⟨_, _, rfl, .inl h, ?_⟩
        rw [r.length]
        exact q _ _ (NR.val sf (.int _))
  · cases hg
    cases hx with
    | cons h1 h2 =>
      cases h2
      cases h1 with
      | tup h r =>
        refine .inl ⟨_, _, rfl, .inr (Same.tp sf h), ?_⟩
        rw [r.length]
        exact q _ _ (NR.val sf (.int _))
  · split at hg
    · rename_i hz
      cases hg
      cases hx with
      | cons h1 h2 =>
        cases h2
        cases h1
        exact .inr ⟨_, rfl, hz, q _ _ (NR.val sf (.int _))⟩
    · cases hg
  · cases hg
def gList : List D → Option Rs
  | [.nd .lst ds] => some (.own (.nd .lst ds))
  | [.nd .tup ds] => some (.own (.nd .lst ds))
  | _ => none
theorem cd_list : CallD X (.type "list") gList := by
  refine CallD.of call_list_of fun F H xs ds rs Q sf hx hg q => ?_
  unfold gList at hg
  split at hg
  · cases hg
    cases hx with
    | cons h1 h2 =>
      cases h2
      cases h1 with
      | lst h r => exact ⟨_, _, rfl, .inl (.inl (.inl h)), fun l hl => q _ _ (NR.lst hl r)⟩
  · cases hg
    cases hx with
    | cons h1 h2 =>
      cases h2
      cases h1 with
      | tup h r => exact ⟨_, _, rfl, .inr (Same.tp sf h), fun l hl => q _ _ (NR.lst hl r)⟩
  · cases hg
def gTuple : List D → Option Rs
  | [.nd .lst ds] => some (.fz (.nd .tup ds))
  | [.nd .tup ds] => some (.fz (.nd .tup ds))
  | _ => none
theorem cd_tuple : CallD X (.type "tuple") gTuple := by
  refine CallD.of call_tuple_of fun F H xs ds rs Q sf hx hg q => ?_
  unfold gTuple at hg
  split at hg
  · cases hg
    cases hx with
    | cons h1 h2 =>
      cases h2
      cases h1 with
      | lst h r => exact ⟨_, _, rfl, .inl ⟨.inl (.inl h), fun l hl => q _ _ (NR.tup sf hl r)⟩⟩
  · cases hg
    cases hx with
    | cons h1 h2 =>
      cases h2
      cases h1 with
      | tup h r => exact ⟨_, _, rfl, .inr ⟨Same.tp sf h, q _ _ (NR.val sf (.tup h r))⟩⟩
  · cases hg
def gInt : List D → Option Rs
  | [.int i] => some (.fz (.int i))
  | [.bl b] => some (.fz (.int (if b then 1 else 0)))
  | _ => none
theorem cd_int : CallD X (.type "int") gInt := by
  refine CallD.of call_int1 fun F H xs ds rs Q sf hx hg q => ?_
  unfold gInt at hg
  split at hg
  · cases hg
    cases hx with
    | cons h1 h2 =>
      cases h2
      cases h1
      exact .inl ⟨_, rfl, q _ _ (NR.val sf (.int _))⟩
  · cases hg
    cases hx with
    | cons h1 h2 =>
      cases h2
      cases h1
      exact .inr ⟨_, rfl, q _ _ (NR.val sf (.int _))⟩
  · cases hg
def gI2 (f : Int → Int → Int) : List D → Option Rs
  | [.int i, .int j] => some (.fz (.int (f i j)))
  | _ => none
theorem cd_I2 {id : String} {f : Int → Int → Int} (h : CallR X (.builtin id) (fun xs H Q => ∃ i j, xs = [.int i, .int j] ∧ Q (.int (f i j)) H)) : CallD X (.builtin id) (gI2 f) := by
  refine CallD.of h fun F H xs ds rs Q sf hx hg q => ?_
  unfold gI2 at hg
  split at hg
  · cases hg
    cases hx with
    | cons h1 h2 =>
      cases h2 with
      | cons h2 h3 =>
        cases h3
        cases h1
        cases h2
        exact ⟨_, _, rfl, q _ _ (NR.val sf (.int _))⟩
  · cases hg
theorem cd_max2 (hc : X.calm = true) : CallD X (.builtin "max") (gI2 fun i j => if j > i then j else i) := cd_I2 (call_max2 hc)
theorem cd_min2 (hc : X.calm = true) : CallD X (.builtin "min") (gI2 fun i j => if j < i then j else i) := cd_I2 (call_min2 hc)
/-- the ints, the truths of a list -/
def ints? : List D → Option (List Int)
  | [] => some []
  | .int i :: ds => (ints? ds).map (i :: ·)
  | _ => none
def bls? : List D → Option (List Bool)
  | [] => some []
  | .bl b :: ds => (bls? ds).map (b :: ·)
  | _ => none
theorem ints_of : ∀ {ds : List D} {ns : List Int}, ints? ds = some ns → ds = ns.map D.int
  | [], ns, h => by cases h; rfl
  | .int i :: ds, ns, h => by
    simp only [ints?] at h
    obtain ⟨ms, e, rfl⟩ := Option.map_eq_some_iff.mp h
    rw [ints_of e]
    rfl
  | .non :: _, _, h => by cases h
  | .bl _ :: _, _, h => by cases h
  | .str _ :: _, _, h => by cases h
  | .nd _ _ :: _, _, h => by cases h
theorem bls_of : ∀ {ds : List D} {ns : List Bool}, bls? ds = some ns → ds = ns.map D.bl
  | [], ns, h => by cases h; rfl
  | .bl i :: ds, ns, h => by
    simp only [bls?] at h
    obtain ⟨ms, e, rfl⟩ := Option.map_eq_some_iff.mp h
    rw [bls_of e]
    rfl
  | .non :: _, _, h => by cases h
  | .int _ :: _, _, h => by cases h
  | .str _ :: _, _, h => by cases h
  | .nd _ _ :: _, _, h => by cases h
theorem ints_map : ∀ ns : List Int, ints? (ns.map D.int) = some ns
  | [] => rfl
  | n :: ns => by
    rw [List.map_cons, ints?, ints_map ns]
    rfl
theorem bls_map : ∀ ns : List Bool, bls? (ns.map D.bl) = some ns
  | [] => rfl
  | n :: ns => by
    rw [List.map_cons, bls?, bls_map ns]
    rfl
def gLI (f : List Int → Option D) : List D → Option Rs
  | [.nd .lst ds] => (ints? ds).bind fun ns => (f ns).map .fz
  | _ => none
def gLB (f : List Bool → Bool) : List D → Option Rs
  | [.nd .lst ds] => (bls? ds).map fun ns => .fz (.bl (f ns))
  | _ => none
theorem cd_all (hc : X.calm = true) : CallD X (.builtin "all") (gLB fun bs => bs.all id) := by
  refine CallD.of (cr_all hc) fun F H xs ds rs Q sf hx hg q => ?_
  unfold gLB at hg
  split at hg
  · obtain ⟨ns, e1, e2⟩ := Option.map_eq_some_iff.mp hg
    cases e2
    cases hx with
    | cons h1 h2 =>
      cases h2
      cases h1 with
      | lst h r =>
        rw [bls_of e1] at r
        have := r.bl_of
        subst this
        exact ⟨_, _, rfl, .inl (.inl h), q _ _ (NR.val sf (.bl _))⟩
  · cases hg
/-! ## displays -/
def allD : List Pl → Option (List D)
  | [] => some []
  | .d d :: ps => (allD ps).map (d :: ·)
  | .sl _ :: _ => none
theorem PRs.all {K : PySem.W.Frag} {mg : Str → Option Value} {F : Hp} {σ : L2.St} : ∀ {vs : List V} {ps : List Pl} {ds : List D}, PRs K mg F σ vs ps → allD ps = some ds → DRs K mg F vs ds
  | _, _, _, .nil, e => by
    cases e
    exact .nil
  | _, _, _, .cons (p := .d d) a b, e => by
    simp only [allD] at e
    obtain ⟨es, e1, rfl⟩ := Option.map_eq_some_iff.mp e
    exact .cons a (PRs.all b e1)
  | _, _, _, .cons (p := .sl i) a b, e => by cases e
def mTup (m : M (List Pl)) : M Rs := bnd m fun ps => match allD ps with
  | some ds => if ds.length ≤ sizeLine then ret (.fz (.nd .tup ds)) else stk
  | none => stk
def mLst (m : M (List Pl)) : M Rs := bnd m fun ps => match allD ps with
  | some ds => if ds.length ≤ sizeLine then ret (.own (.nd .lst ds)) else stk
  | none => stk
theorem be_tup {x1 : Nat} (ha : BA X es ma) : BE X (.Tuple es x1 pos) (mTup ma) := by
  refine fun W tk => (pe_tup (ha W tk)).imp fun σ H Q h => ?_
  obtain ⟨G, io, F, β, I, h⟩ := h
  refine ⟨G, io, F, β, I, h.bnd fun ps β1 vs H1 F1 fe1 I1 r1 h1 => ?_⟩
  cases e : allD ps with
  | none => rw [e] at h1; exact h1.elim
  | some ds =>
    rw [e] at h1
    simp only at h1
    have r := PRs.all r1 e
    by_cases hz : ds.length ≤ sizeLine
    · rw [if_pos hz] at h1
      refine ⟨by rw [r.length]; exact hz, fun p hp => ?_⟩
      obtain ⟨F2, fe2, I2, rr⟩ := I1.step (NR.tup I1.sf hp r)
      exact h1 _ _ F2 (fe1.trans fe2) I2 rr
    · rw [if_neg hz] at h1
      exact h1.elim
theorem be_lst (ha : BA X es ma) : BE X (.List es pos) (mLst ma) := by
  refine fun W tk => (pe_lst (ha W tk)).imp fun σ H Q h => ?_
  obtain ⟨G, io, F, β, I, h⟩ := h
  refine ⟨G, io, F, β, I, h.bnd fun ps β1 vs H1 F1 fe1 I1 r1 h1 => ?_⟩
  cases e : allD ps with
  | none => rw [e] at h1; exact h1.elim
  | some ds =>
    rw [e] at h1
    simp only at h1
    have r := PRs.all r1 e
    by_cases hz : ds.length ≤ sizeLine
    · rw [if_pos hz] at h1
      refine ⟨by rw [r.length]; exact hz, fun p hp => ?_⟩
      obtain ⟨F2, fe2, I2, rr⟩ := I1.step (F := F1) (mg := X.mg) (NR.lst hp r)
      exact h1 _ _ F2 (fe1.trans fe2) I2 rr
    · rw [if_neg hz] at h1
      exact h1.elim
end
end B


set_option Elab.async false
set_option linter.all false
set_option maxRecDepth 100000
set_option maxHeartbeats 4000000
namespace B
open PySem PySem.Spec L2
/-! ## statements -/
def FlR (K : PySem.W.Frag) (mg : Str → Option Value) (G : GT) (F : Hp) (io : List Addr) (H : Hp) (β : B.Env) (σ : L2.St) (D : Ends) : Fl → Prop
  | .nx => D.nx σ H
  | .brk => D.bk σ H
  | .ct => D.ct σ H
  | .ret r => ∀ v, RR K mg G F io H β σ v r → D.rt v H
def SPost (K : PySem.W.Frag) (mg : Str → Option Value) (W : WX) (G : GT) (F : Hp) (io : List Addr) (r : R Fl) (D : Ends) : Prop :=
  match r with
  | .stuck => False
  | .ok f β => ∀ σ H' F', FE G io F F' → BI K mg G F' io β σ H' → FlR K mg G F' io H' β σ D f
  | .exc x β => ∀ σ cls d H' F', FE G io F F' → BI K mg G F' io β σ H' → XR K mg F' cls d x → W cls d σ H'
def sOf (K : PySem.W.Frag) (mg : Str → Option Value) (W : WX) (m : M Fl) : TS := fun D σ H => ∃ G io F β, BI K mg G F io β σ H ∧ SPost K mg W G F io (m β) D
/-- a statement, a block -/
def BS (X : Cx) (st : Stmt) (m : M Fl) : Prop := ∀ W, Takes X W → PS X st (sOf X.K X.mg W m)
def BSs (X : Cx) (st : List Stmt) (m : M Fl) : Prop := ∀ W, Takes X W → PSs X st (sOf X.K X.mg W m)
theorem _root_.L2.PS.imp {X : Cx} {e : Stmt} {t t' : TS} (h : PS X e t) (k : ∀ D σ H, t' D σ H → t D σ H) : PS X e t' := ⟨fun pins s σ H D I q => h.run pins s σ H D I (k D σ H q)⟩
theorem _root_.L2.PSs.imp {X : Cx} {e : List Stmt} {t t' : TS} (h : PSs X e t) (k : ∀ D σ H, t' D σ H → t D σ H) : PSs X e t' := ⟨fun pins s σ H D I q => h.run pins s σ H D I (k D σ H q)⟩
section
variable {K : PySem.W.Frag} {mg : Str → Option Value} {W : WX} {G : GT} {F F1 : Hp} {io : List Addr} {σ : L2.St} {D : Ends}
theorem SPost.mono {r : R Fl} (h : SPost K mg W G F io r D) (fe : FE G io F F1) : SPost K mg W G F1 io r D := by
  cases r with
  | stuck => exact h
  | ok a β => exact fun σ H' F' fe' => h σ H' F' (fe.trans fe')
  | exc x β => exact fun σ c d H' F' fe' => h σ c d H' F' (fe.trans fe')
/-- behind an expression -/
theorem SPost.of {α γ : Type} {Rel : GT → Hp → List Addr → Hp → B.Env → L2.St → γ → α → Prop} {r : R α} {f : α → B.Env → R Fl} {Q : γ → Hp → Prop} (h : SPost K mg W G F io (r.bnd f) D)
    (k : ∀ a β v H' F', FE G io F F' → BI K mg G F' io β σ H' → Rel G F' io H' β σ v a → SPost K mg W G F' io (f a β) D → Q v H') : Post K mg W Rel G F io σ r Q := by
  cases r with
  | stuck => exact h
  | ok a β => exact fun v H' F' fe I r => k a β v H' F' fe I r (SPost.mono h fe)
  | exc x β => exact fun cls d H' F' fe I xr => h σ cls d H' F' fe I xr
/-- behind a statement -/
def seqF (m n : M Fl) : M Fl := bnd m fun f => match f with
  | .nx => n
  | f => ret f
theorem SPost.seq {r : R Fl} {n : M Fl} (h : SPost K mg W G F io (r.bnd fun f => match f with
  | .nx => n
  | f => ret f) D) : SPost K mg W G F io r { D with nx := fun σ H => sOf K mg W n D σ H } := by
  cases r with
  | stuck => exact h
  | exc x β => exact h
  | ok f β =>
    cases f with
    | nx => exact fun σ H' F' fe I => ⟨G, io, F', β, I, SPost.mono h fe⟩
    | brk => exact h
    | ct => exact h
    | ret r => exact h
end
section
variable {X : Cx} {st : Stmt} {rest : List Stmt} {m n : M Fl} {e : Expr} {me : M Rs} {mt : M Bool} {pos : Pos}
theorem bs_nil : BSs X [] (ret .nx) := fun W tk => pss_nil.imp fun D σ H ⟨G, io, F, β, I, h⟩ => h σ H F .refl I
theorem bs_cons (h1 : BS X st m) (h2 : BSs X rest n) : BSs X (st :: rest) (seqF m n) := fun W tk => (pss_cons (h1 W tk) (h2 W tk)).imp fun D σ H ⟨G, io, F, β, I, h⟩ => ⟨G, io, F, β, I, SPost.seq h⟩
theorem bs_one (h1 : BS X st m) : BSs X [st] m := fun W tk => pss_one (h1 W tk)
def mExpr (me : M Rs) : M Fl := bnd me fun _ => ret .nx
theorem bs_expr (h : BE X e me) (hs : swapsWith e none pos.line X.env = pure false := by rfl) : BS X (.Expr e pos) (mExpr me) :=
  fun W tk => (ps_expr (h W tk) hs).imp fun D σ H ⟨G, io, F, β, I, hq⟩ => ⟨G, io, F, β, I, hq.of fun r β1 v H1 F1 fe1 I1 r1 h1 => h1 σ H1 F1 .refl I1⟩
def mRet (me : M Rs) : M Fl := bnd me fun r => ret (.ret r)
theorem bs_ret (h : BE X e me) : BS X (.Return (some e) pos) (mRet me) :=
  fun W tk => (ps_ret (h W tk)).imp fun D σ H ⟨G, io, F, β, I, hq⟩ => ⟨G, io, F, β, I, hq.of fun r β1 v H1 F1 fe1 I1 r1 h1 => h1 σ H1 F1 .refl I1 v r1⟩
/-- return of a name: its object goes out as one's own -/
def mRetVar (i : Nat) : M Fl := fun β => match β[i]? with
  | some (.fz d) => .ok (.ret (.fz d)) β
  | some (.own none d) => .ok (.ret (.own d)) (β.set i .un)
  | _ => .stuck
theorem BI.unset {K : PySem.W.Frag} {mg : Str → Option Value} {G : GT} {F H : Hp} {io : List Addr} {β : B.Env} {σ : L2.St} (I : BI K mg G F io β σ H) (i : Nat) : BI K mg G F io (β.set i .un) σ H := by
  refine ⟨I.sg, I.sf, I.ioF, I.ioH, by rw [List.length_set]; exact I.len, fun j s ej => ?_, fun j k s t b ej ek hj hk => ?_⟩
  · by_cases hj : i = j
    · subst hj
      by_cases hi : i < β.length
      · rw [List.getElem?_set_self hi] at ej
        cases ej
        obtain ⟨o, eo, _⟩ := I.sl i _ (List.getElem?_eq_getElem hi)
        exact ⟨o, eo, trivial⟩
      · rw [List.getElem?_eq_none (by rw [List.length_set]; omega)] at ej
        cases ej
    · rw [List.getElem?_set_ne hj] at ej
      exact I.sl j s ej
  · have nh : ∀ {l : Nat} {u : Sl}, (β.set i .un)[l]? = some u → isOwn u = true → β[l]? = some u := fun {l u} e h => by
      by_cases hl : i = l
      · subst hl
        by_cases hi : i < β.length
        · rw [List.getElem?_set_self hi] at e
          cases e
          cases h
        · rw [List.getElem?_eq_none (by rw [List.length_set]; omega)] at e
          cases e
      · rwa [List.getElem?_set_ne hl] at e
    exact I.apart j k s t b (nh ej hj) (nh ek hk) hj hk
theorem BI.take {K : PySem.W.Frag} {mg : Str → Option Value} {G : GT} {F H : Hp} {io : List Addr} {β : B.Env} {σ : L2.St} {i : Nat} {d : D} (I : BI K mg G F io β σ H) (e : β[i]? = some (.own none d)) :
    ∃ v, σ[i]? = some (some v) ∧ RR K mg G F io H (β.set i .un) σ v (.own d) := by
  obtain ⟨o, eo, a, rfl, f, g, ni, _, r⟩ := I.sl i _ e
  have hi : i < β.length := (List.getElem?_eq_some_iff.mp e).1
  refine ⟨_, eo, a, rfl, f, g, ni rfl, r, fun j s ej hs z => ?_⟩
  by_cases hj : j = i
  · subst hj
    rw [List.getElem?_set_self hi] at ej
    cases ej
    cases hs
  · rw [List.getElem?_set_ne (Ne.symm hj)] at ej
    exact hj (I.apart j i s _ a ej e hs rfl z eo)
theorem bs_retVar {i : Nat} {x : Str} {p : Pos} (hN : X.N[i]? = some x := by rfl) (hv : Vis X.env.scope x := by first | exact Or.inl rfl | exact Or.inr (Or.inl rfl) | exact Or.inr (Or.inr rfl)) (hd : (x == ("__debug__" : Str)) = false := by decide)
    (hcd : (x == ("__classdict__" : Str)) = false := by decide) : BS X (.Return (some (.Name x p)) pos) (mRetVar i) := by
  refine fun W tk => (ps_ret (pe_var hN hv hd hcd)).imp fun D σ H ⟨G, io, F, β, I, h⟩ => ?_
  unfold mRetVar at h
  cases e : β[i]? with
  | none => rw [e] at h; exact h.elim
  | some s =>
    rw [e] at h
    cases s with
    | ex z0 => exact h.elim
    | gh _ => exact h.elim
    | un => exact h.elim
    | fz d =>
      obtain ⟨o, eo, v, rfl, r⟩ := I.sl i _ e
      exact ⟨v, eo, h σ H F .refl I v r⟩
    | own bo d =>
      cases bo with
      | some k => exact h.elim
      | none =>
        obtain ⟨v, eo, rr⟩ := I.take e
        exact ⟨v, eo, h σ H F .refl (I.unset i) v rr⟩
def mIfS (m : M Bool) (a b : M Fl) : M Fl := bnd m fun k => if k = true then a else b
theorem bs_if {c : Expr} {p q : List Stmt} (hc : BT X c mt) (hp : BSs X p m) (hq : BSs X q n) : BS X (.If c p q pos) (mIfS mt m n) := by
  refine fun W tk => (ps_if (hc W tk) (hp W tk) (hq W tk)).imp fun D σ H ⟨G, io, F, β, I, h⟩ => ⟨G, io, F, β, I, h.of fun k β1 v H1 F1 fe1 I1 r1 h1 => ?_⟩
  cases (show v = k from r1)
  cases k with
  | true => exact ⟨G, io, F1, β1, I1, h1⟩
  | false => exact ⟨G, io, F1, β1, I1, h1⟩

/-! ## stores -/
def slOf : Rs → Sl
  | .fz d => .fz d
  | .own d => .own none d
def setR (i : Nat) (r : Rs) : M Unit := fun β => .ok () (β.set i (slOf r))
theorem BI.set {K : PySem.W.Frag} {mg : Str → Option Value} {G : GT} {F H : Hp} {io : List Addr} {β : B.Env} {σ : L2.St} {v : V} {r : Rs} (I : BI K mg G F io β σ H) (h : RR K mg G F io H β σ v r) (i : Nat) :
    BI K mg G F io (β.set i (slOf r)) (σ.set i (some v)) H := by
  have hl := I.len
  refine ⟨I.sg, I.sf, I.ioF, I.ioH, by rw [List.length_set, List.length_set]; exact hl, fun j s ej => ?_, fun j k s t b ej ek hj hk zj zk => ?_⟩
  · by_cases hj : i = j
    · subst hj
      by_cases hi : i < β.length
      · rw [List.getElem?_set_self hi] at ej
        cases ej
        refine ⟨some v, List.getElem?_set_self (by omega), ?_⟩
        cases r with
        | fz d => exact ⟨v, rfl, h⟩
        | own d =>
          obtain ⟨a, rfl, f, g, ni, o, _⟩ := h
          exact ⟨a, rfl, f, g, fun _ => ni, fun _ => nofun, o⟩
      · rw [List.getElem?_eq_none (by rw [List.length_set]; omega)] at ej
        cases ej
    · rw [List.getElem?_set_ne hj] at ej
      rw [List.getElem?_set_ne hj]
      exact I.sl j s ej
  · -- two own slots at one address
    have old : ∀ {l : Nat} {u : Sl}, i ≠ l → (β.set i (slOf r))[l]? = some u → β[l]? = some u := fun {l u} hl e => by rwa [List.getElem?_set_ne hl] at e
    have oldσ : ∀ {l : Nat} {w : Option V}, i ≠ l → (σ.set i (some v))[l]? = some w → σ[l]? = some w := fun {l w} hl e => by rwa [List.getElem?_set_ne hl] at e
    have new : ∀ {l : Nat} {u : Sl}, i = l → (β.set i (slOf r))[l]? = some u → isOwn u = true → (σ.set i (some v))[l]? = some (some (V.ref b)) → v = .ref b ∧ ∃ d, r = .own d := fun {l u} hl e hu z => by
      subst hl
      have hi : i < β.length := by
        have := (List.getElem?_eq_some_iff.mp e).1
        rwa [List.length_set] at this
      rw [List.getElem?_set_self hi] at e
      rw [List.getElem?_set_self (by omega)] at z
      cases e
      cases z
      cases r with
      | fz d => cases hu
      | own d => exact ⟨rfl, d, rfl⟩
    by_cases h1 : i = j
    · by_cases h2 : i = k
      · exact h1.symm.trans h2
      · obtain ⟨rfl, d, rfl⟩ := new h1 ej hj zj
        obtain ⟨a, ea, _, _, _, _, ap⟩ := h
        cases ea
        exact absurd (oldσ h2 zk) (ap k t (old h2 ek) hk)
    · by_cases h2 : i = k
      · obtain ⟨rfl, d, rfl⟩ := new h2 ek hk zk
        obtain ⟨a, ea, _, _, _, _, ap⟩ := h
        cases ea
        exact absurd (oldσ h1 zj) (ap j s (old h1 ej) hj)
      · exact I.apart j k s t b (old h1 ej) (old h2 ek) hj hk (oldσ h1 zj) (oldσ h2 zk)
def mSet (i : Nat) (me : M Rs) : M Fl := bnd me fun r => bnd (setR i r) fun _ => ret .nx
theorem bs_set {i : Nat} {x : Str} {pos' : Pos} (hN : X.N.Nodup) (hi : X.N[i]? = some x) (hx : Loc X.env.scope x) (h : BE X e me) (hs : swapsWith e (some (.Name x pos')) pos.line X.env = pure false := by rfl)
    (hf : X.fn x = true ∨ X.env.scope.names.lookup x = some .local := by first | exact .inl rfl | exact .inr rfl | assumption) : BS X (.Assign [.Name x pos'] e pos) (mSet i me) :=
  fun W tk => (ps_set hN hi hx (h W tk) hs hf).imp fun D σ H ⟨G, io, F, β, I, hq⟩ => ⟨G, io, F, β, I, hq.of fun r β1 v H1 F1 fe1 I1 r1 h1 => h1 _ H1 F1 .refl (I1.set r1 i)⟩
/-! targets, of data that stays -/
/-- the slots outside vs are as they were -/
def But (vs : List Nat) (σ σ' : L2.St) : Prop := σ'.length = σ.length ∧ ∀ j, j ∉ vs → σ'[j]? = σ[j]?
theorem But.refl {vs : List Nat} {σ : L2.St} : But vs σ σ := ⟨rfl, fun _ _ => rfl⟩
theorem But.trans {vs ws : List Nat} {σ σ1 σ2 : L2.St} (a : But vs σ σ1) (b : But ws σ1 σ2) : But (vs ++ ws) σ σ2 := ⟨b.1.trans a.1, fun j h => (b.2 j fun z => h (List.mem_append_right _ z)).trans (a.2 j fun z => h (List.mem_append_left _ z))⟩
def gOfT (K : PySem.W.Frag) (mg : Str → Option Value) (vs : List Nat) (g : D → M Unit) : TG := fun v σ H Q => ∃ G io F β d, BI K mg G F io β σ H ∧ DR K mg F v d ∧ match g d β with
  | .ok _ β' => ∀ σ' H' F', But vs σ σ' → FE G io F F' → BI K mg G F' io β' σ' H' → Q σ' H'
  | _ => False
def BG (X : Cx) (vs : List Nat) (tg : Expr) (g : D → M Unit) : Prop := PG X tg (gOfT X.K X.mg vs g)
theorem _root_.L2.PG.imp {tg : Expr} {t t' : TG} (h : PG X tg t) (k : ∀ v σ H Q, t' v σ H Q → t v σ H Q) : PG X tg t' := ⟨fun pins s σ H v u Q I r q => h.run pins s σ H v u Q I r (k v σ H Q q)⟩
def gSet (i : Nat) : D → M Unit := fun d => setR i (.fz d)
theorem bg_name {i : Nat} {x : Str} (hN : X.N.Nodup) (hi : X.N[i]? = some x) (hx : Loc X.env.scope x) (hf : X.fn x = true ∨ X.env.scope.names.lookup x = some .local := by first | exact .inl rfl | exact .inr rfl | assumption) : BG X [i] (.Name x pos) (gSet i) :=
  (pg_name hN hi hx hf).imp fun v σ H Q ⟨G, io, F, β, d, I, r, h⟩ => h _ H F ⟨List.length_set .., fun j hj => List.getElem?_set_ne fun z => hj (by rw [z]; exact List.mem_singleton_self _)⟩ .refl (I.set (r := .fz d) r i)
def gOfTs (K : PySem.W.Frag) (mg : Str → Option Value) (ws : List Nat) (g : List D → M Unit) : TGs := fun vs σ H Q => ∃ G io F β ds, BI K mg G F io β σ H ∧ DRs K mg F vs ds ∧ match g ds β with
  | .ok _ β' => ∀ σ' H' F', But ws σ σ' → FE G io F F' → BI K mg G F' io β' σ' H' → Q σ' H'
  | _ => False
def BGs (X : Cx) (ws : List Nat) (ts : List Expr) (g : List D → M Unit) : Prop := PGs X ts (gOfTs X.K X.mg ws g)
theorem _root_.L2.PGs.imp {tg : List Expr} {t t' : TGs} (h : PGs X tg t) (k : ∀ v σ H Q, t' v σ H Q → t v σ H Q) : PGs X tg t' := ⟨fun pins s σ H vs us Q I r q => h.run pins s σ H vs us Q I r (k vs σ H Q q)⟩
def gsNil : List D → M Unit
  | [] => ret ()
  | _ => stk
def gsCons (g : D → M Unit) (h : List D → M Unit) : List D → M Unit
  | d :: ds => bnd (g d) fun _ => h ds
  | _ => stk
theorem bgs_nil : BGs X [] [] gsNil := pgs_nil.imp fun vs σ H Q ⟨G, io, F, β, ds, I, r, h⟩ => by
  cases r with
  | nil => exact ⟨rfl, h _ H F .refl .refl I⟩
  | cons a b => exact h.elim
theorem bgs_cons {e : Expr} {es : List Expr} {g : D → M Unit} {h : List D → M Unit} {vs ws : List Nat} (h1 : BG X vs e g) (h2 : BGs X ws es h) (hs : (assignEach (e :: es) X.env).map (·.2) = assign e X.env :: (assignEach es X.env).map (·.2) := by rfl) : BGs X (vs ++ ws) (e :: es) (gsCons g h) :=
  (pgs_cons h1 h2 hs).imp fun vs σ H Q ⟨G, io, F, β, ds, I, r, hq⟩ => by
    cases r with
    | nil => exact hq.elim
    | @cons v vs d ds a b =>
      refine ⟨v, vs, rfl, G, io, F, β, d, I, a, ?_⟩
      unfold gsCons bnd at hq
      simp only at hq
      cases e1 : g d β with
      | stuck => rw [e1] at hq; exact hq.elim
      | exc x β' => rw [e1] at hq; exact hq.elim
      | ok u β' =>
        rw [e1] at hq
        refine fun σ1 H1 F1 bu1 fe1 I1 => ⟨G, io, F1, β', ds, I1, b.mono fe1.same, ?_⟩
        have hq : (match h ds β' with
          | .ok _ β' => ∀ σ' H' F', But _ σ σ' → FE G io F F' → BI X.K X.mg G F' io β' σ' H' → Q σ' H'
          | _ => False) := hq
        cases e2 : h ds β' with
        | stuck => rw [e2] at hq; exact hq.elim
        | exc x β' => rw [e2] at hq; exact hq.elim
        | ok u β'' =>
          rw [e2] at hq
          exact fun σ2 H2 F2 bu2 fe2 I2 => hq σ2 H2 F2 (bu1.trans bu2) (fe1.trans fe2) I2
def gUnp (n : Nat) (g : List D → M Unit) : D → M Unit
  | .nd .tup ds => if ds.length = n then g ds else stk
  | _ => stk
theorem bg_tup {es : List Expr} {k : Nat} {g : List D → M Unit} {n : Nat} {vs : List Nat} (hc : X.calm = true) (h : BGs X vs es g) (hn : (assignEach es X.env).length = n := by rfl) (hst : (assignEach es X.env).findIdx? (·.1) = none := by rfl) : BG X vs (.Tuple es k pos) (gUnp n g) :=
  (pg_tup hc h hn hst).imp fun v σ H Q ⟨G, io, F, β, d, I, r, hq⟩ => by
    cases r with
    | @tup a vs ds hx rx =>
      simp only [gUnp] at hq
      by_cases hz : ds.length = n
      · rw [if_pos hz] at hq
        exact ⟨_, _, rfl, Same.tp I.sf hx, by rw [rx.length]; exact hz, G, io, F, β, ds, I, rx, hq⟩
      · rw [if_neg hz] at hq
        exact hq.elim
    | _ => exact hq.elim
/-- target = e, through data that stays -/
def mAsg (g : D → M Unit) (me : M Rs) : M Fl := bnd me fun r => fun β => match g r.d β with
  | .ok _ β' => .ok .nx β'
  | _ => .stuck
theorem bs_asg {tg e : Expr} {g : D → M Unit} {vs : List Nat} (h : BE X e me) (hg : BG X vs tg g) (hs : swapsWithSole [tg] e pos.line X.env = pure false := by rfl) (hw : swappedStores [tg] e X.env = pure none := by rfl)
    (h1 : (assignEach [tg] X.env).map (·.2) = [assign tg X.env] := by rfl) : BS X (.Assign [tg] e pos) (mAsg g me) :=
  fun W tk => (ps_asg (h W tk) hg hs hw h1).imp fun D σ H ⟨G, io, F, β, I, hq⟩ => ⟨G, io, F, β, I, hq.of fun r β1 v H1 F1 fe1 I1 r1 h1 => by
    obtain ⟨F2, fe2, I2, dr⟩ := I1.freezeR r1
    refine ⟨G, io, F2, β1, r.d, I2, dr, ?_⟩
    cases e1 : g r.d β1 with
    | stuck => rw [e1] at h1; exact h1.elim
    | exc x β => rw [e1] at h1; exact h1.elim
    | ok u β2 =>
      rw [e1] at h1
      exact fun σ3 H3 F3 bu3 fe3 I3 => h1 σ3 H3 F3 (fe2.trans fe3) I3⟩

/-! ## loops -/
def forL (g : D → M Unit) (b : M Fl) : List D → M Fl
  | [] => ret .nx
  | d :: ds => fun β => match g d β with
    | .ok _ β' => (match b β' with
      | .ok .nx β'' => forL g b ds β''
      | .ok .ct β'' => forL g b ds β''
      | .ok .brk β'' => .ok .nx β''
      | .ok (.ret r) β'' => .ok (.ret r) β''
      | .exc x β'' => .exc x β''
      | .stuck => .stuck)
    | _ => .stuck
/-- an iterator that gives ds, while F stays -/
def ItR (K : PySem.W.Frag) (mg : Str → Option Value) (F : Hp) (J : It) (ds : List D) : Prop :=
  ∀ (i : Nat) (H : Hp), Same F H → (∀ d, ds[i]? = some d → J.go i H ∧ ∀ F1, Same F F1 → Same F1 H → ∀ x H', J.yld i H x H' → NR K mg F1 H (.fz d) x H') ∧ (ds.length ≤ i → J.stop i H)
def iOf (K : PySem.W.Frag) (mg : Str → Option Value) (W : WX) (m : M (List D)) : TI := fun σ H R => ∃ G io F β, BI K mg G F io β σ H ∧ Post K mg W (fun _ F _ _ _ _ (J : It) ds => ItR K mg F J ds) G F io σ (m β) R
/-- what is walked: its items -/
def BIt (X : Cx) (tg iter : Expr) (m : M (List D)) : Prop := ∀ W, Takes X W → PI X tg iter (iOf X.K X.mg W m)
theorem _root_.L2.PI.imp {tg it : Expr} {t t' : TI} (h : PI X tg it t) (k : ∀ σ H Q, t' σ H Q → t σ H Q) : PI X tg it t' := ⟨fun pins s σ H R I q => h.run pins s σ H R I (k σ H R q)⟩
def mFor (mi : M (List D)) (g : D → M Unit) (b : M Fl) : M Fl := bnd mi fun ds => forL g b ds
theorem bs_for {tg iter : Expr} {body : List Stmt} {mi : M (List D)} {g : D → M Unit} {vs : List Nat} {mb : M Fl} (hp : PassesOwn (model X.prog X.w) X.A X.env X.xe) (hc : X.calm = true) (hi : BIt X tg iter mi) (hg : BG X vs tg g) (hb : BSs X body mb)
    (hs : ∀ x, foldedSetIterable iter X.env x = pure x := by intro _; rfl) : BS X (.For tg iter body [] pos) (mFor mi g mb) := by
  refine fun W tk => (ps_for hp hc (hi W tk) hg (hb W tk) hs).imp fun D σ H ⟨G, io, F, β, I, h⟩ => ⟨G, io, F, β, I, h.of fun ds β1 J H1 F1 fe1 I1 r1 h1 => ?_⟩
  refine ⟨fun i m σ H => i ≤ ds.length ∧ m = ds.length - i ∧ ∃ F' β', FE G io F1 F' ∧ BI X.K X.mg G F' io β' σ H ∧ SPost X.K X.mg W G F' io (forL g mb (ds.drop i) β') D, ⟨ds.length, Nat.zero_le _, rfl, F1, β1, .refl, I1, h1⟩, ?_⟩
  rintro i m σ2 H2 ⟨hi', rfl, F2, β2, fe2, I2, h2⟩
  by_cases hlt : i < ds.length
  · have ed : ds[i]? = some ds[i] := List.getElem?_eq_getElem hlt
    have edr : ds.drop i = ds[i] :: ds.drop (i + 1) := (List.getElem_cons_drop hlt).symm
    obtain ⟨go, yld⟩ := (r1 i H2 (fe2.same.trans I2.sf)).1 _ ed
    rw [edr] at h2
    simp only [forL] at h2
    refine .inr ⟨go, fun σ' H' => ∃ F' β', FE G io F1 F' ∧ BI X.K X.mg G F' io β' σ' H' ∧ SPost X.K X.mg W G F' io (forL g mb (ds.drop (i + 1)) β') D, fun σ' H' ⟨F', β', fe', I', h'⟩ => ⟨ds.length - (i + 1), by omega, hlt, rfl, F', β', fe', I', h'⟩, fun x H3 hy => ?_⟩
    obtain ⟨F3, fe3, I3, r3⟩ := I2.step (yld F2 fe2.same I2.sf x H3 hy)
    refine ⟨G, io, F3, β2, ds[i], I3, r3, ?_⟩
    cases e1 : g ds[i] β2 with
    | stuck => rw [e1] at h2; exact h2.elim
    | exc x β => rw [e1] at h2; exact h2.elim
    | ok u β4 =>
      rw [e1] at h2
      simp only at h2 ⊢
      refine fun σ4 H4 F4 bu4 fe4 I4 => ⟨G, io, F4, β4, I4, ?_⟩
      have fe24 := fe3.trans fe4
      have h2 := SPost.mono h2 fe24
      have fe14 := fe2.trans fe24
      cases e2 : mb β4 with
      | stuck => rw [e2] at h2; exact h2.elim
      | exc x β5 => rw [e2] at h2; exact h2
      | ok f β5 =>
        rw [e2] at h2
        cases f with
        | nx => exact fun σ5 H5 F5 fe5 I5 => ⟨F5, β5, fe14.trans fe5, I5, SPost.mono h2 fe5⟩
        | ct => exact fun σ5 H5 F5 fe5 I5 => ⟨F5, β5, fe14.trans fe5, I5, SPost.mono h2 fe5⟩
        | brk => exact fun σ5 H5 F5 fe5 I5 => h2 σ5 H5 F5 fe5 I5
        | ret r => exact fun σ5 H5 F5 fe5 I5 => h2 σ5 H5 F5 fe5 I5
  · have e : i = ds.length := by omega
    subst e
    rw [List.drop_length] at h2
    exact .inl ⟨(r1 _ H2 (fe2.same.trans I2.sf)).2 (Nat.le_refl _), h2 σ2 H2 F2 .refl I2⟩
/-- while: so many turns at most -/
def whileN (c : M Bool) (b : M Fl) : Nat → M Fl
  | 0 => stk
  | n + 1 => fun β => match c β with
    | .ok true β' => (match b β' with
      | .ok .nx β'' => whileN c b n β''
      | .ok .ct β'' => whileN c b n β''
      | .ok .brk β'' => .ok .nx β''
      | .ok (.ret r) β'' => .ok (.ret r) β''
      | .exc x β'' => .exc x β''
      | .stuck => .stuck)
    | .ok false β' => .ok .nx β'
    | .exc x β' => .exc x β'
    | .stuck => .stuck
open Classical in
/-- while: as many turns as it takes -/
noncomputable def mWhile (c : M Bool) (b : M Fl) : M Fl := fun β => if h : ∃ n, whileN c b n β ≠ .stuck then whileN c b h.choose β else .stuck
/-! what is walked -/
/-- the items of data -/
def items : D → Option (List D)
  | .nd .lst ds => some ds
  | .nd .scr ds => some ds
  | .nd .wtp ds => some ds
  | .nd .tup ds => some ds
  | _ => none
def mIter (me : M Rs) : M (List D) := bnd me fun r => liftO (items r.d)
theorem itR_list {F : Hp} {a : Addr} {vs : List V} {ds : List D} (h : SqL X.K F a vs) (r : DRs X.K X.mg F vs ds) : ItR X.K X.mg F (Itl X.K a) ds := by
  intro i H sf
  have hq : SqL X.K H a vs := Same.sqL sf h
  refine ⟨fun d ed => ?_, fun hl => ⟨vs, hq, by rw [r.length]; exact hl⟩⟩
  obtain ⟨v, ev, rv⟩ := r.getD ed
  refine ⟨⟨vs, v, hq, ev⟩, fun F1 s1 s2 x H' hy => ?_⟩
  obtain ⟨rfl, hy⟩ := hy
  have e := hy vs hq
  rw [ev] at e
  cases e
  exact NR.val s2 (rv.mono s1)
theorem itR_tup {F : Hp} {a : Addr} {vs : List V} {ds : List D} (h : SqT X.K F a vs) (r : DRs X.K X.mg F vs ds) : ItR X.K X.mg F (Itt X.K a) ds := by
  intro i H sf
  have hq : SqT X.K H a vs := Same.sqT sf h
  refine ⟨fun d ed => ?_, fun hl => ⟨vs, hq, by rw [r.length]; exact hl⟩⟩
  obtain ⟨v, ev, rv⟩ := r.getD ed
  refine ⟨⟨vs, v, hq, ev⟩, fun F1 s1 s2 x H' hy => ?_⟩
  obtain ⟨rfl, hy⟩ := hy
  have e := hy vs hq
  rw [ev] at e
  cases e
  exact NR.val s2 (rv.mono s1)
/-- a list or a tuple, by the value that comes -/
theorem pi_seq {tg l : Expr} {tl : TE} (hl : PE X l tl) : PI X tg l (fun σ H R => tl σ H fun x H1 => (∃ a xs, x = .ref a ∧ SqL X.K H1 a xs ∧ R (Itl X.K a) H1) ∨ (∃ a xs, x = .ref a ∧ SqT X.K H1 a xs ∧ R (Itt X.K a) H1)) := by
  refine ⟨fun pins s σ H R I h => ?_⟩
  refine thn (hl.run pins s σ H _ I h) fun v s1 ⟨x, H1, I1, r1, q1⟩ => ?_
  rcases q1 with ⟨a, xs, e, hq, q⟩ | ⟨a, xs, e, hq, q⟩
  · subst e
    cases r1
    obtain ⟨its, rv, p, hz⟩ := I1.list hq
    refine wpAny_pyIter_list p.isList ?_
    refine ⟨s1.heap.objs.size, [s1.heap.objs.size], _, _, H1, rfl, I1.kept (t' := s1.toks) fun b o e => Heap.get?_push_of_some _ e, turn_list a _, ⟨_, Heap.get?_push_size _ rfl, rfl, rfl⟩, fun b hb => ?_, q⟩
    have e : b = s1.heap.objs.size := by simpa using hb
    subst e
    exact I1.fpOk (Nat.le_refl _) (I1.hok.fresh (Nat.le_refl _))
  · subst e
    cases r1
    obtain ⟨its, rv, p, hz⟩ := I1.tuple hq
    refine wpAny_pyIter_tuple (show s1.heap.IsTuple a its.toArray from p) ?_
    refine ⟨s1.heap.objs.size, [s1.heap.objs.size], _, _, H1, rfl, I1.kept (t' := s1.toks) fun b o e => Heap.get?_push_of_some _ e, turn_tuple a _, ⟨_, Heap.get?_push_size _ rfl, rfl, rfl⟩, fun b hb => ?_, q⟩
    have e : b = s1.heap.objs.size := by simpa using hb
    subst e
    exact I1.fpOk (Nat.le_refl _) (I1.hok.fresh (Nat.le_refl _))
theorem bi_seq {tg l : Expr} (h : BE X l me) : BIt X tg l (mIter me) := by
  refine fun W tk => (pi_seq (h W tk)).imp fun σ H R ⟨G, io, F, β, I, hq⟩ => ⟨G, io, F, β, I, hq.bnd fun r β1 v H1 F1 fe1 I1 r1 h1 => ?_⟩
  obtain ⟨F2, fe2, I2, dr⟩ := I1.freezeR r1
  generalize r.d = d at h1 dr
  cases dr with
  | @lst a vs ds hx rx => exact .inl ⟨a, vs, rfl, .inl (.inl (I2.sf _ _ hx)), h1 _ H1 F2 (fe1.trans fe2) I2 (itR_list (.inl (.inl hx)) rx)⟩
  | @scr a vs ds hx rx => exact .inl ⟨a, vs, rfl, Same.sqL I2.sf hx, h1 _ H1 F2 (fe1.trans fe2) I2 (itR_list hx rx)⟩
  | @tup a vs ds hx rx => exact .inr ⟨a, vs, rfl, Same.tp I2.sf hx, h1 _ H1 F2 (fe1.trans fe2) I2 (itR_tup (.inl (.inl hx)) rx)⟩
  | @wtp a vs ds hx rx => exact .inr ⟨a, vs, rfl, Same.sqT I2.sf hx, h1 _ H1 F2 (fe1.trans fe2) I2 (itR_tup hx rx)⟩
  | _ => exact h1.elim
theorem itR_range (lo : Int) (n : Nat) {F : Hp} : ItR X.K X.mg F (Itr lo n) ((List.range n).map fun (k : Nat) => D.int (lo + (k : Int))) := by
  intro i H sf
  refine ⟨fun d ed => ?_, fun hl => by rw [List.length_map, List.length_range] at hl; exact hl⟩
  rw [List.getElem?_map] at ed
  obtain ⟨k, ek, rfl⟩ := Option.map_eq_some_iff.mp ed
  obtain ⟨hk, rfl⟩ := List.getElem?_eq_some_iff.mp ek
  rw [List.length_range] at hk
  refine ⟨hk, fun F1 s1 s2 x H' hy => ?_⟩
  obtain ⟨rfl, rfl⟩ := hy
  rw [List.getElem_range]
  exact NR.val s2 (.int _)
def inR (i : Int) : Bool := decide (-(2 ^ 62) ≤ i ∧ i < 2 ^ 62)
def rng (lo hi : Int) : List D := (List.range (hi - lo).toNat).map fun (k : Nat) => D.int (lo + (k : Int))
def rngA (ps : List Pl) : M (List D) := fun β => match looks β ps with
  | some [.int j] => if inR j = true then .ok (rng 0 j) β else .stuck
  | _ => .stuck
def rngB (ps : List Pl) : M (List D) := fun β => match looks β ps with
  | some [.int i, .int j] => if inR i = true ∧ inR j = true then .ok (rng i j) β else .stuck
  | _ => .stuck
theorem bi_range1 {tg a : Expr} {ma : M (List Pl)} {p pos : Pos} (hm : X.mg "range" = none) (ha : BA X [a] ma) (hg : Gl X "range" := by rfl) (hs : starEach [a] X.env = [(false, eval a X.env)] := by rfl) : BIt X tg (.Call (.Name "range" p) [a] [] pos) (bnd ma rngA) := by
  refine fun W tk => (pi_range1 hg hm (ha W tk) hs).imp fun σ H R ⟨G, io, F, β, I, hq⟩ => ⟨G, io, F, β, I, hq.bnd fun ps β1 vs H1 F1 fe1 I1 r1 h1 => ?_⟩
  unfold rngA at h1
  cases e : looks β1 ps with
  | none => rw [e] at h1; exact h1.elim
  | some ds =>
    rw [e] at h1
    have r := I1.looks r1 e
    split at h1
    · split at h1
      · rename_i e1 hj
        cases e1
        cases r with
        | cons a b =>
          cases b
          cases a
          have hj : -(2 ^ 62) ≤ _ ∧ _ < (2 : Int) ^ 62 := of_decide_eq_true hj
          refine ⟨_, rfl, hj.1, hj.2, h1 _ H1 F1 fe1 I1 ?_⟩
          unfold rng
          rw [Int.sub_zero]
          exact itR_range 0 _
      · exact h1.elim
    · exact h1.elim
end
end B


set_option Elab.async false
set_option linter.all false
set_option maxRecDepth 100000
set_option maxHeartbeats 4000000
namespace B
open PySem PySem.Spec L2
/-! ## objects of one's own, changed -/
section
variable {K : PySem.W.Frag} {mg : Str → Option Value} {G : GT} {F H H' : Hp} {io : List Addr} {β : B.Env} {σ : L2.St} {i : Nat} {k : Option Nat} {a : Addr} {d d' : D} {o : HO}
/-- where an own slot's object is -/
theorem BI.ownAt (I : BI K mg G F io β σ H) (e : β[i]? = some (.own k d)) : ∃ a, σ[i]? = some (some (.ref a)) ∧ F a = none ∧ G a = none ∧ OwnR K mg F H a d := by
  obtain ⟨o, eo, a, rfl, f, g, _, _, r⟩ := I.sl i _ e
  exact ⟨a, eo, f, g, r⟩
theorem BI.mut (I : BI K mg G F io β σ H) (e : β[i]? = some (.own k d)) (ea : σ[i]? = some (some (.ref a))) (r : OwnR K mg F (upd H a o) a d') : BI K mg G F io (β.set i (.own k d')) σ (upd H a o) := by
  obtain ⟨w, ew, a', ea', f, g, i1, i2, r0⟩ := I.sl i _ e
  obtain rfl : a' = a := by
    rw [ea] at ew
    cases ew
    cases ea'
    rfl
  have hi : i < β.length := (List.getElem?_eq_some_iff.mp e).1
  refine ⟨I.sg.upd g r0.nc, fun b u h => ?_, I.ioF, fun b hb => ?_, by rw [List.length_set]; exact I.len, fun j s ej => ?_, fun j l s t b ej el hj hl => ?_⟩
  · rw [upd_ne (ne_of_none h f)]
    exact I.sf b u h
  · by_cases hba : b = a'
    · exact ⟨_, by rw [hba, upd_same]⟩
    · rw [upd_ne hba]
      exact I.ioH b hb
  · by_cases hj : i = j
    · subst hj
      rw [List.getElem?_set_self hi] at ej
      cases ej
      exact ⟨_, ea, a', rfl, f, g, i1, i2, r⟩
    · rw [List.getElem?_set_ne hj] at ej
      obtain ⟨w2, ew2, hs⟩ := I.sl j s ej
      refine ⟨w2, ew2, ?_⟩
      cases s with
      | ex z0 => exact hs
      | gh _ => exact hs
      | un => trivial
      | fz e' => exact hs
      | own b e' =>
        obtain ⟨x, q, f', g', j1, j2, r'⟩ := hs
        refine ⟨x, q, f', g', j1, j2, r'.mono (Same.refl _) (upd_ne fun z => hj ?_)⟩
        exact I.apart i j _ _ a' e ej rfl rfl ea (by rw [ew2, q, z])
  · have back : ∀ {m : Nat} {u : Sl}, (β.set i (.own k d'))[m]? = some u → isOwn u = true → ∃ u', β[m]? = some u' ∧ isOwn u' = true := fun {m u} em hm => by
      by_cases him : i = m
      · subst him
        exact ⟨_, e, rfl⟩
      · rw [List.getElem?_set_ne him] at em
        exact ⟨u, em, hm⟩
    obtain ⟨s', es, hs⟩ := back ej hj
    obtain ⟨t', et, ht⟩ := back el hl
    exact I.apart j l s' t' b es et hs ht
end
/-- a method that changes its object: what it hands back, the object behind it -/
def MutD (X : Cx) (T id : String) (g : D → List D → Option (D × D)) : Prop := ∃ r, MtR X id r ∧ ∀ (F H : Hp) (a : Addr) (d : D) (vs : List V) (ds : List D) (rd d' : D), Same F H → F a = none → OwnR X.K X.mg F H a d → DRs X.K X.mg F vs ds → g d ds = some (rd, d') →
  ∀ Q : VK, (∀ z o, OwnR X.K X.mg F (upd H a o) a d' → DR X.K X.mg F z rd → Q z (upd H a o)) → r (.ref a) vs H Q
/-- whether an own slot's object is of a type -/
def isTy : String → D → Bool
  | "list", .nd .lst _ => true
  | "dict", .nd .dct _ => true
  | _, _ => false
theorem isTy_v {K : PySem.W.Frag} {mg : Str → Option Value} {F H : Hp} {a : Addr} {T : String} {d : D} (h : OwnR K mg F H a d) (e : isTy T d = true) : tyV K T (.ref a) H := by
  unfold isTy at e
  split at e
  · cases h with
    | lst h r => exact .inl ⟨rfl, _, .inl (.inl h)⟩
  · cases h with
    | dK h r q => exact .inr (.inr (.inl ⟨rfl, .inl ⟨_, h⟩⟩))
    | dT h r q => exact .inr (.inr (.inl ⟨rfl, .inr ⟨_, h⟩⟩))
  · cases e
def ownTy (T : String) (i : Nat) : M Unit := fun β => match β[i]? with
  | some (.own _ d) => if isTy T d = true then .ok () β else .stuck
  | _ => .stuck
def finM (i : Nat) (g : D → List D → Option (D × D)) (ps : List Pl) : M Rs := fun β => match β[i]?, allD ps with
  | some (.own k d), some ds => (match g d ds with
    | some (rd, d') => .ok (.fz rd) (β.set i (.own k d'))
    | none => .stuck)
  | _, _ => .stuck
def mMut (T : String) (i : Nat) (g : D → List D → Option (D × D)) (ma : M (List Pl)) : M Rs := bnd (ownTy T i) fun _ => bnd ma fun ps => finM i g ps
section
variable {X : Cx} {i : Nat} {x : Str} {p pos apos cpos : Pos} {e : Expr} {es : List Expr} {ma : M (List Pl)} {T id' : String} {name : Str} {g : D → List D → Option (D × D)}
theorem finM_post {W : WX} {G : GT} {F H : Hp} {io : List Addr} {β : B.Env} {σ : L2.St} {ps : List Pl} {vs : List V} {v : V} {r : V → List V → Hp → VK → Prop} {Q : VK} (I : BI X.K X.mg G F io β σ H) (ev : σ[i]? = some (some v)) (rp : PRs X.K X.mg F σ vs ps)
    (k : ∀ (F H : Hp) (a : Addr) (d : D) (vs : List V) (ds : List D) (rd d' : D), Same F H → F a = none → OwnR X.K X.mg F H a d → DRs X.K X.mg F vs ds → g d ds = some (rd, d') →
      ∀ Q : VK, (∀ z o, OwnR X.K X.mg F (upd H a o) a d' → DR X.K X.mg F z rd → Q z (upd H a o)) → r (.ref a) vs H Q)
    (h : Post X.K X.mg W (relE X.K X.mg) G F io σ (finM i g ps β) Q) : r v vs H Q := by
  unfold finM at h
  cases e1 : β[i]? with
  | none => rw [e1] at h; exact h.elim
  | some s =>
    cases s with
    | ex z0 => rw [e1] at h; exact h.elim
    | gh _ => rw [e1] at h; exact h.elim
    | un => rw [e1] at h; exact h.elim
    | fz d => rw [e1] at h; exact h.elim
    | own b d =>
      cases e2 : allD ps with
      | none => rw [e1, e2] at h; exact h.elim
      | some ds =>
        rw [e1, e2] at h
        simp only at h
        cases e3 : g d ds with
        | none => rw [e3] at h; exact h.elim
        | some q =>
          obtain ⟨rd, d'⟩ := q
          rw [e3] at h
          obtain ⟨a, ea, f, gn, o⟩ := I.ownAt e1
          obtain rfl : v = .ref a := by
            rw [ea] at ev
            cases ev
            rfl
          exact k F H a d vs ds rd d' I.sf f o (rp.all e2) e3 Q fun z ho o' dr => h z _ F .refl (I.mut e1 ea o') dr
theorem be_mut (pa : PlainAttrs T) (slot : Slot T name id') (hty : typeOf (.builtin id') = pure (.type "method_descriptor")) (hm : MutD X T id' g) (hN : X.N[i]? = some x) (hv : Vis X.env.scope x) (ha : BA X (e :: es) ma) (hd : (x == ("__debug__" : Str)) = false := by decide)
    (hcd : (x == ("__classdict__" : Str)) = false := by decide) (hbase : attributeBase (.Name x p) name X.env (eval (.Name x p) X.env) = eval (.Name x p) X.env := by rfl)
    (hfew : ((backTo cpos (starEach (e :: es) X.env)).all (fun x => !x.1) && (backToKw cpos (keywordEach [] X.env)).all (fun x => x.1.isSome)
      && decide ((e :: es).length + ([] : List Keyword).length + (if ([] : List Keyword).isEmpty then 0 else 1) < 30)) = true := by rfl)
    (hline : (apos.endLine == cpos.line) = true := by rfl) (hs : starEach (e :: es) X.env = (false, eval e X.env) :: starEach es X.env := by rfl) (hplain : (backTo cpos (starEach es X.env)).any (·.1) = false := by rfl) :
    BE X (.Call (.Attribute (.Name x p) name apos) (e :: es) [] cpos) (mMut T i g ma) := by
  obtain ⟨r, hr, k⟩ := hm
  refine fun W tk => (pe_bm pa slot hty hr (pe_var hN hv hd hcd) (ha W tk) hbase hfew hline hs hplain).imp fun σ H Q ⟨G, io, F, β, I, h⟩ => ?_
  unfold mMut ownTy bnd at h
  simp only at h
  cases e1 : β[i]? with
  | none => rw [e1] at h; exact h.elim
  | some s =>
    rw [e1] at h
    cases s with
    | ex z0 => exact h.elim
    | gh _ => exact h.elim
    | un => exact h.elim
    | fz d => exact h.elim
    | own b d =>
      simp only at h
      by_cases ht : isTy T d = true
      · rw [if_pos ht] at h
        obtain ⟨a, ea, f, gn, o⟩ := I.ownAt e1
        refine ⟨_, ea, isTy_v o ht, G, io, F, β, I, Post.bnd (f := fun ps => finM i g ps) h fun ps β1 vs H1 F1 fe1 I1 r1 h1 => ?_⟩
        exact finM_post I1 ea r1 k (h1.mono fe1)
      · rw [if_neg ht] at h
        exact h.elim
theorem be_mut0 (pa : PlainAttrs T) (slot : Slot T name id') (hty : typeOf (.builtin id') = pure (.type "method_descriptor")) (hm : MutD X T id' g) (hN : X.N[i]? = some x) (hv : Vis X.env.scope x) (hd : (x == ("__debug__" : Str)) = false := by decide)
    (hcd : (x == ("__classdict__" : Str)) = false := by decide) (hbase : attributeBase (.Name x p) name X.env (eval (.Name x p) X.env) = eval (.Name x p) X.env := by rfl) (hline : (apos.endLine == cpos.line) = true := by rfl) :
    BE X (.Call (.Attribute (.Name x p) name apos) [] [] cpos) (mMut T i g mNil) := by
  obtain ⟨r, hr, k⟩ := hm
  refine fun W tk => (pe_bm0 pa slot hty hr (pe_var hN hv hd hcd) hbase hline).imp fun σ H Q ⟨G, io, F, β, I, h⟩ => ?_
  unfold mMut ownTy bnd at h
  simp only at h
  cases e1 : β[i]? with
  | none => rw [e1] at h; exact h.elim
  | some s =>
    rw [e1] at h
    cases s with
    | ex z0 => exact h.elim
    | gh _ => exact h.elim
    | un => exact h.elim
    | fz d => exact h.elim
    | own b d =>
      simp only at h
      by_cases ht : isTy T d = true
      · rw [if_pos ht] at h
        obtain ⟨a, ea, f, gn, o⟩ := I.ownAt e1
        refine ⟨_, ea, isTy_v o ht, ?_⟩
        exact finM_post (ps := []) I ea .nil k h
      · rw [if_neg ht] at h
        exact h.elim
def gAppend : D → List D → Option (D × D)
  | .nd .lst ds, [d] => if ds.length < sizeLine then some (.non, .nd .lst (ds ++ [d])) else none
  | _, _ => none
theorem mu_append : MutD X "list" "list.append" gAppend := by
  refine ⟨_, mt_append, fun F H a d vs ds rd d' sf fa o r hg Q q => ?_⟩
  unfold gAppend at hg
  split at hg
  · split at hg
    · rename_i hz
      cases hg
      cases o with
      | lst h rl =>
        cases r with
        | cons r1 r2 =>
          cases r2
          exact ⟨_, _, _, rfl, rfl, h, by rw [rl.length]; exact hz, q _ _ (.lst upd_same (rl.append (.cons r1 .nil))) .non⟩
    · cases hg
  · cases hg
def gExtend : D → List D → Option (D × D)
  | .nd .lst ds, [.nd .lst es] => if ds.length + es.length ≤ sizeLine then some (.non, .nd .lst (ds ++ es)) else none
  | _, _ => none
theorem mu_extend : MutD X "list" "list.extend" gExtend := by
  refine ⟨_, mt_extend, fun F H a d vs ds rd d' sf fa o r hg Q q => ?_⟩
  unfold gExtend at hg
  split at hg
  · split at hg
    · rename_i hz
      cases hg
      cases o with
      | lst h rl =>
        cases r with
        | cons r1 r2 =>
          cases r2
          cases r1 with
          | lst h1 rl1 => exact ⟨_, _, _, _, rfl, rfl, h, sf _ _ h1, by rw [rl.length, rl1.length]; exact hz, q _ _ (.lst upd_same (rl.append rl1)) .non⟩
    · cases hg
  · cases hg
theorem DRs.dropLast {K : PySem.W.Frag} {mg : Str → Option Value} {F : Hp} : ∀ {vs : List V} {ds : List D}, DRs K mg F vs ds → DRs K mg F vs.dropLast ds.dropLast
  | _, _, .nil => .nil
  | _, _, .cons _ .nil => .nil
  | _, _, .cons a (.cons b c) => .cons a (DRs.dropLast (.cons b c))
def gReverse : D → List D → Option (D × D)
  | .nd .lst ds, [] => some (.non, .nd .lst ds.reverse)
  | _, _ => none
theorem mu_reverse : MutD X "list" "list.reverse" gReverse := by
  refine ⟨_, mt_reverse, fun F H a d vs ds rd d' sf fa o r hg Q q => ?_⟩
  unfold gReverse at hg
  split at hg
  · cases hg
    cases r
    cases o with
    | lst h rl => exact ⟨_, _, rfl, rfl, h, q _ _ (.lst upd_same rl.reverse) .non⟩
  · cases hg
/-! x[k] = e, x a name -/
def setIx (i : Nat) (v : Rs) (kd : D) : M Fl := fun β => match β[i]?, kd with
  | some (.own b (.nd .lst ds)), .int k => (match ixN ds.length k with
    | some j => .ok .nx (β.set i (.own b (.nd .lst (ds.set j v.d))))
    | none => .stuck)
  | _, _ => .stuck
/-- the value first, then the key -/
def mSetIx (i : Nat) (me mk : M Rs) : M Fl := bnd me fun r => bnd (mPl i) fun _ => bnd mk fun kr => setIx i r kr.d
theorem bs_setIx {k : Expr} {pos' : Pos} {me mk : M Rs} (hN : X.N[i]? = some x) (hv : Vis X.env.scope x) (he : BE X e me) (hk : BE X k mk) (hd : (x == ("__debug__" : Str)) = false := by decide) (hcd : (x == ("__classdict__" : Str)) = false := by decide)
    (hs : swapsWithSole [.Subscript (.Name x p) k pos'] e pos.line X.env = pure false := by rfl) (hw : swappedStores [.Subscript (.Name x p) k pos'] e X.env = pure none := by rfl)
    (h1 : (assignEach [.Subscript (.Name x p) k pos'] X.env).map (·.2) = [assign (.Subscript (.Name x p) k pos') X.env] := by rfl)
    (ha : ∀ v, assign (.Subscript (.Name x p) k pos') X.env v = (do
      let ov ← holding [v] (eval (.Name x p) X.env)
      let iv ← holding [v, ov] (eval k X.env)
      standAt pos'
      holding [v, ov, iv] (setItem ov iv v)
      release [v, ov, iv] []) := by intro _; rfl) : BS X (.Assign [.Subscript (.Name x p) k pos'] e pos) (mSetIx i me mk) := by
  refine fun W tk => (ps_asg (he W tk) (pg_sub (pe_var hN hv hd hcd) (hk W tk) set_list ha) hs hw h1).imp fun D σ H ⟨G, io, F, β, I, h⟩ => ⟨G, io, F, β, I, h.of fun r β1 v H1 F1 fe1 I1 r1 h1 => ?_⟩
  obtain ⟨F2, fe2, I2, dr⟩ := I1.freezeR r1
  have h7 : SPost X.K X.mg W G F2 io ((mPl i β1).bnd fun _ β => (mk β).bnd fun kr β => setIx i r kr.d β) D := SPost.mono h1 fe2
  clear h1
  cases e0 : mPl i β1 with
  | stuck => rw [e0] at h7; exact h7.elim
  | exc x β => unfold mPl at e0; split at e0 <;> cases e0
  | ok pl β2 =>
    rw [e0] at h7
    have hw : ∃ w, σ[i]? = some (some w) ∧ β2 = β1 := by
      unfold mPl at e0
      split at e0
      · rename_i d e1
        cases e0
        obtain ⟨o, eo, w, rfl, _⟩ := I2.sl i _ e1
        exact ⟨w, eo, rfl⟩
      · rename_i b d e1
        cases e0
        obtain ⟨o, eo, a, rfl, _⟩ := I2.sl i _ e1
        exact ⟨_, eo, rfl⟩
      · cases e0
    obtain ⟨w, ew, rfl⟩ := hw
    have h8 : SPost X.K X.mg W G F2 io ((mk β2).bnd fun kr β => setIx i r kr.d β) D := h7
    exact ⟨w, ew, G, io, F2, β2, I2, h8.of fun kr β3 kv H3 F3 fe3 I3 r3 h3 => by
      obtain ⟨F4, fe4, I4, dk⟩ := I3.freezeR r3
      have h3 := SPost.mono h3 fe4
      generalize hkd : kr.d = kd at h3 dk
      unfold setIx at h3
      split at h3
      · rename_i b ds kk e1
        split at h3
        · rename_i j ej
          obtain ⟨a, ea, f, gn, o⟩ := I4.ownAt e1
          cases dk
          cases o with
          | lst ho rl =>
            rw [ea] at ew
            cases ew
            refine ⟨_, _, _, j, rfl, rfl, ho, by rw [rl.length]; exact ej, ?_⟩
            have I5 := I4.mut (o := .lst _) e1 ea (OwnR.lst upd_same (DRs.set ((dr.mono fe3.same).mono fe4.same) j rl))
            exact h3 σ _ F4 .refl I5
        · exact h3.elim
      · exact h3.elim⟩
/-! x op= e -/
def mAug (i : Nat) (f : Int → Int → Int) (me : M Rs) : M Fl := fun β => match β[i]? with
  | some (.fz (.int a)) => bnd me (fun r => match r.d with
    | .int b => bnd (setR i (.fz (.int (f a b)))) fun _ => ret .nx
    | _ => stk) β
  | _ => .stuck
/-! a, b = e1, e2: plain local names -/
def mPar (i j : Nat) (ma : M (List Pl)) : M Fl := bnd ma fun ps => fun β => match allD ps with
  | some [d, e] => .ok .nx ((β.set i (.fz d)).set j (.fz e))
  | _ => .stuck
/-! o.f = e, o an object of one's own -/
def setF (f : Str) (d : D) : List Str → List D → List Str × List D
  | n :: ns, e :: es => if f = n then (n :: ns, d :: es) else let r := setF f d ns es; (n :: r.1, e :: r.2)
  | _, _ => ([f], [d])
end
end B


set_option Elab.async false
set_option linter.all false
set_option maxRecDepth 100000
set_option maxHeartbeats 4000000
namespace B
open PySem PySem.Spec L2
/-! ## defs where no repr is under way (so lists can be shown) -/
structure RoomG (k : Nat) (A : Around) : Prop where
  r : Room k A
  g : A.guards = some []
theorem RoomG.deeper {k : Nat} {A : Around} (r : RoomG (k + 1) A) (env : PySem.Env) : RoomG k (A.deeper env) := ⟨r.r.deeper env, r.g⟩
theorem RoomG.mono {j k : Nat} {A : Around} (r : RoomG k A) (h : j ≤ k) : RoomG j A := ⟨r.r.mono h, r.g⟩
theorem RoomG.make {k : Nat} {A : Around} (r : RoomG (k + 1) A) (C : Addr) (us : List Value) (kw : List (Str × Value)) : RoomG k (A.under (.builtin "type.__call__" ⟨.ref C :: us, kw⟩)) := by
  refine ⟨r.r.make C us kw, ?_⟩
  have e : (Code.builtin "type.__call__" ⟨.ref C :: us, kw⟩).guards = [] := by simp [Code.guards, Code.isGuard, guardIds]
  unfold Around.under
  rw [e, r.g]
  rfl
/-- a def's promise, wherever it is called from such a place -/
structure FnG (P : Program) (w : World) (K : PySem.W.Frag) (mg : Str → Option Value) (base : Heap) (k : Nat) (f : Addr) (fd : FuncData) (ps : List Str) (sp : Sp) : Prop where
  len : ∀ vs H Q E, sp vs H Q E → vs.length = ps.length
  run : ∀ {A : Around} {outer : List PySem.Env} {s : Shared} {H : Hp} {args : Args} {us : List Value} {vs : List V} {Q : VK} {E : XK}, RoomG k A → Env0 P w K mg base A outer s H → BindsTo s fd args (ps.zip us) → Vals vs us → sp vs H Q E →
    codeAny (model P w) A (.call (.ref f) args) (CR (L2.CX P w) outer P w H s Q E) s
section
variable {P : Program} {w : World} {K : PySem.W.Frag} {mg : Str → Option Value} {base : Heap} {k : Nat} {f : Addr} {N ps : List Str} {sp : Sp}
theorem FnG.mono {j : Nat} {fd : FuncData} (F : FnG P w K mg base j f fd ps sp) (h : j ≤ k) : FnG P w K mg base k f fd ps sp := ⟨F.len, fun hr => F.run (hr.mono h)⟩
theorem fnG_raw {name qual : Str} {params : Arguments} {body : List Stmt} {scope : Scope} {dV kV doc pm cdv ct oc : Value} {an od : Option Addr} {osl : Array (Option Value)} (lk : K.lookup f = some ⟨oc, od, .func (PySem.W.fnOf name qual params body scope dV kV doc pm an cdv ct), osl⟩)
    (hcd : PySem.W.codeIn K cdv qual = true) (S : FnScope N ps scope) (len : ∀ vs H Q E, sp vs H Q E → vs.length = ps.length)
    (hbody : ∀ (A : Around) (outer : List PySem.Env) (s : Shared) (H : Hp) (vs : List V) (Q : VK) (E : XK), RoomG k (A.deeper (PyProof.Rows.envOfC qual scope s.heap.objs.size f cdv)) → sp vs H Q E →
      ∃ t, PSs (cxOf (L2.CX P w) P w K mg base N qual scope f cdv A outer s H E) body t ∧ t { nx := fun _ H' => Q .non H', rt := Q } (L2.start N vs) H) :
    FnG P w K mg base (k + 1) f (PySem.W.fnOf name qual params body scope dV kV doc pm an cdv ct) ps sp where
  len := len
  run {A outer s H args us vs Q E} room e0 hb rel hsp := by
    have inHeap := e0.mod.kin.keeps fun b o z => (e0.bs b o z).1
    refine codeAny_call_function room.r.depth (inHeap _ _ lk) rfl S.co S.gen rfl (PySem.W.codeRec_of inHeap hcd) (hb _ _ _ _ ?_)
    refine wpAny_newFunctionEnv_cells S.kind (fun ⟨y, v⟩ hy => (S.par y (List.of_mem_zip hy).1).imp id fun c => ⟨c, PySem.W.cellsFrom_some _ _ _ (.inl c)⟩) fun env he s1 x => ?_
    cases he
    refine ⟨(e0.mod.nolimit.keeps fun b o z => (e0.bs b o z).1).keeps x.toInCall.keep, codeAny_func ?_⟩
    obtain ⟨t, run, start⟩ := hbody A outer s H vs Q E (room.deeper _) hsp
    refine wpAny_mono (run.run [] s1 (L2.start N vs) H _ (inv_start S room.r.hd e0 (len _ _ _ _ hsp) rel x) start) (fun fl s' hs => ?_) fun e s' hs => hs
    rcases fl with _ | _ | _ | u
    · obtain ⟨σ', H', J, q⟩ := hs
      exact ⟨V.non, H', J.os, J.bare, J.base, J.hok, rfl, q⟩
    · obtain ⟨_, _, _, q⟩ := hs
      exact q.elim
    · obtain ⟨_, _, _, q⟩ := hs
      exact q.elim
    · obtain ⟨v, σ', H', J, rv, q⟩ := hs
      exact ⟨v, H', J.os, J.bare, J.base, J.hok, rv, q⟩
theorem FunG {x qual : Str} {st : Stmt} {fd : FuncData} (F : Fun K x qual st f fd) (S : FnScope N ps (defScope st)) (len : ∀ vs H Q E, sp vs H Q E → vs.length = ps.length)
    (hbody : ∀ (cdv : Value) (A : Around) (outer : List PySem.Env) (s : Shared) (H : Hp) (vs : List V) (Q : VK) (E : XK), RoomG k (A.deeper (PyProof.Rows.envOfC qual (defScope st) s.heap.objs.size f cdv)) → sp vs H Q E →
      ∃ t, PSs (cxOf (L2.CX P w) P w K mg base N qual (defScope st) f cdv A outer s H E) (defBody st) t ∧ t { nx := fun _ H' => Q .non H', rt := Q } (L2.start N vs) H) : FnG P w K mg base (k + 1) f fd ps sp := by
  obtain ⟨oc, od, kV, doc, pm, an, cdv, ct, osl, rfl, lk, hcd⟩ := F.ex
  exact fnG_raw lk hcd S len fun A outer s H vs Q E => hbody cdv A outer s H vs Q E
end
section
variable {X : Cx} {k : Nat} {f : Addr} {fd : FuncData} {ps : List Str} {sp : Sp} {E : L2.St → XK} {x : Str} {p pos : Pos} {e : Expr} {es : List Expr} {t tk : TA} {dvs : List V} {ds : List Value} {kws : List Keyword} {ks : List Str} {n : Nat} {g : List Value → List Value → List Value} {gV : List V → List V → List V}
/-- behind the entry -/
theorem call_end {pins : List (Addr × Obj)} {σ : L2.St} {H : Hp} {s : Shared} {Q : VK} {args : Args} {us : List Value} {vs : List V} (F : FnG X.prog X.w X.K X.mg X.base k f fd ps sp) (hr : RoomG k X.A) (hx : PassesAt (L2.CX X.prog X.w) X σ (E σ)) (I : Inv X pins σ H s) (b : BindsTo s fd args (ps.zip us)) (r : Vals vs us)
    (h : sp vs H Q (E σ)) : codeAny (model X.prog X.w) X.A (.call (.ref f) args) (fun r s' => match r with
      | .ok (.ret u) => EP X pins σ Q u s'
      | .ok _ => False
      | .error e => X.xe e s') s :=
  codeAny_mono (F.run hr I.env0 b r h) fun r s' q => match r, q with
    | .error e, q => hx pins H s e s' I q
    | .ok (.ret _), q => I.after q
    | .ok .next, q => q.elim
    | .ok .brk, q => q.elim
    | .ok .cont, q => q.elim
/-- f(e, ..) -/
theorem pe_callG (F : FnG X.prog X.w X.K X.mg X.base k f fd ps sp) (hr : RoomG k X.A) (hg : Gl X x) (hm : X.mg x = some (.ref f)) (hk : PySem.W.keepIn X.K (.ref f) = true) (hb : Binds X.K fd ps ds) (hd : Vals dvs ds) (hx : ∀ σ, PassesAt (L2.CX X.prog X.w) X σ (E σ))
    (ha : PA X (e :: es) t) (hdb : (x == ("__debug__" : Str)) = false := by decide) (he : starEach (e :: es) X.env = (false, eval e X.env) :: starEach es X.env := by rfl) (hpl : (backTo pos (starEach es X.env)).any (·.1) = false := by rfl) :
    PE X (.Call (.Name x p) (e :: es) [] pos) (fun σ H Q => t σ H fun vs H1 => sp (vs ++ dvs) H1 Q (E σ)) where
  run pins s σ H Q I h := wpAny_Call_Name_kw (ld_glob I hg hm (PySem.W.callWith_K (h₀ := X.base) I.ok.mod.kin hk (thn (ha.run pos pins s σ H _ I h) fun us s1 ⟨vs, H1, I1, r, q⟩ => ⟨I1.kIn, by
      have rr : Vals (vs ++ dvs) (us ++ ds) := r.append hd
      exact wpAny_call (codeAny_mono (call_end F hr (hx σ) I1 (hb s1 us I1.kIn (rr.length.symm.trans (F.len _ _ _ _ q))) rr q) fun r s' z => match r, z with
        | .error _, z => z
        | .ok (.ret _), z => z)⟩) he hpl) hdb)
end
/-! ## the law's end -/
section
variable {P : Program} {w : World} {K : PySem.W.Frag} {mg mb : Str → Option Value} {k : Nat} {fa a : Addr} {fd : FuncData} {x : Str} {sp : Sp} {s₁ : Shared} {vs : List Value} {ns : List Int}
/-- what the script's place may be: one more object, or one of the written part -/
structure Scr (P : Program) (w : World) (K : PySem.W.Frag) (a : Addr) (ns : List Int) (s₁ : Shared) (H : Hp) : Prop where
  only : ∀ b u, H b = some u → b = a ∧ K.lookup a = none ∧ ∃ o xs, u = .frz o (.lst xs)
  sq : SqL K H a (ns.map V.int)
  ok : HOk P w H s₁.heap
theorem scr_of (KX : K.In s₁.heap) (ha : s₁.heap.get? a = some { cls := .type "list", data := .seq vs.toArray }) (hi : PyProof.Rows.IntsAre vs ns) (hl : ns.length ≤ sizeLine) : ∃ H, Scr P w K a ns s₁ H := by
  have rv := vals_ints hi
  have hlv : vs.length ≤ sizeLine := by rw [hi.length]; exact hl
  cases hk : K.lookup a with
  | some o =>
    have e := KX a o hk
    rw [ha] at e
    cases e
    exact ⟨fun _ => none, fun b u z => (nomatch z), .inr ⟨_, vs.toArray, _, hk, rfl, rfl, rfl, by rw [List.size_toArray]; exact hlv, by simpa using rv⟩, fun b u z => (nomatch z)⟩
  | none =>
    let o : Obj := { cls := .type "list", data := .seq vs.toArray }
    refine ⟨upd (fun _ => none) a (.frz o (.lst (ns.map V.int))), fun b u z => ?_, .inl (.inr ⟨o, upd_same⟩), fun b u z => ?_⟩
    · by_cases hb : b = a
      · subst hb
        rw [upd_same] at z
        cases z
        exact ⟨rfl, hk, _, _, rfl⟩
      · rw [upd_ne hb] at z
        cases z
    · by_cases hb : b = a
      · subst hb
        rw [upd_same] at z
        cases z
        exact ⟨ha, by rw [List.length_map]; exact hl, vs, _, rv, ha⟩
      · rw [upd_ne hb] at z
        cases z
theorem law_end {H : Hp} (S : Scr P w K a ns s₁ H) (KX : K.In s₁.heap) (hns : s₁.heap.Ns mainGlobals mg) (hb : s₁.heap.Ns builtinsNs mb) (hbb : ∀ x : Str, x ≠ "__name__" → mb x = bootBuiltins x) (hlim : s₁.heap.NoLimit) (hg : s₁.gens = #[])
    (ha : s₁.heap.get? a = some { cls := .type "list", data := .seq vs.toArray }) (hr : RoomG k callerA) (F : ∀ base : Heap, K.In base → base.Ns mainGlobals mg → FnG P w K mg base k fa fd [x] sp) (hbind : ∀ (s : Shared) (u : Value), BindsTo s fd ⟨[u], []⟩ [(x, u)])
    (hsp : sp [.ref a] H (fun v _ => v = .bl true) fun _ _ _ => False) (hCX : ∀ e s', L2.CX P w [] H s₁ (fun _ _ _ => False) e s' → False) :
    codeAny (model P w) callerA (.call (.ref fa) ⟨[.ref a], []⟩) (fun r s' => r = .ok (.ret (.bool true)) ∧ OldK s₁.heap s'.heap ∧ s'.os = s₁.os ∧ PyProof.Rows.AllBare s'.gens) s₁ := by
  -- a dict isn't the script
  have free : ∀ {b : Addr} {m : Str → Option Value}, s₁.heap.Ns b m → H b = none := fun {b m} ⟨o, es, ep, e, d, _⟩ => by
    cases q : H b with
    | none => rfl
    | some u =>
      obtain ⟨rfl, _⟩ := S.only b u q
      rw [ha] at e
      cases e
      cases d
  have ns : ∀ {b : Addr} {m : Str → Option Value}, s₁.heap.Ns b m → (hidT s₁.heap H).Ns b m := fun n => n.at fun o e => (hidT_get e (free n)).trans e.symm |>.symm ▸ (hidT_get e (free n))
  have inB : K.In (hidT s₁.heap H) := fun b o e => hidT_get (KX b o e) (by
    cases q : H b with
    | none => rfl
    | some u =>
      obtain ⟨rfl, n, _⟩ := S.only b u q
      rw [n] at e
      cases e)
  have base : Mod K mg (hidT s₁.heap H) := ⟨inB, ns hns, ⟨mb, ns hb, hbb⟩, hlim.elim fun mc h => ⟨mc, ns h.1, h.2⟩⟩
  have e0 : Env0 P w K mg (hidT s₁.heap H) callerA [] s₁ H := ⟨rfl, base, fun b o e => of_hidT e, Nat.le_of_eq (hidT_size _ _), trivial, fun b hb => (nomatch hb), S.ok, .of_eq hg⟩
  refine codeAny_mono ((F _ inB (ns hns)).run (us := [.ref a]) (vs := [.ref a]) hr e0 (hbind s₁ (.ref a)) (.cons rfl .nil) hsp) fun r s' h => ?_
  match r, h with
  | .error e, h => exact (hCX e s' h).elim
  | .ok (.ret u), ⟨v, H', os, bare, un, hok', r', q⟩ =>
    cases (show v = .bl true from q)
    cases (show u = Value.bool true from r')
    refine ⟨rfl, OldK.of_keep fun b o e => ?_, os, bare⟩
    cases q : H b with
    | none => exact un.keep b o e q (fun z => nomatch z) (fun z => nomatch z)
    | some u =>
      obtain ⟨_, _, ob, xs, rfl⟩ := S.only b u q
      have k1 := (S.ok b _ q).1
      have k2 := (hok' b _ (un.frzs b ob _ q)).1
      rw [e] at k1
      cases k1
      exact k2
end
/-- the goal that k_head leaves, from the law's promise -/
theorem walk_B {l : PySem.W.OpenLaw} {n k : Nat} {q : Program} {loose : List Str} {XP : (Str → Option Value) → Heap → Prop} {YP : World → Heap → Prop} {d : DefRec} {K : Params → PySem.W.Frag} {sp : World → (Str → Option Value) → Sp} {x : Str}
    (hn : l.most = some n) (hn2 : n ≤ sizeLine) (hdf : d.params.defaults = []) (hr : Room k callerA) (hY : ∀ (w : World) (h : Heap), YP w h → (K w.params).In h)
    (F : ∀ (w : World) (mg : Str → Option Value) (fa : Addr) (h : Heap), (K w.params).In h → h.Ns mainGlobals mg → mg d.name = some (.ref fa) →
      ∃ fd : FuncData, (∀ (s : Shared) (u : Value), BindsTo s fd ⟨[u], []⟩ [(x, u)]) ∧ ∀ base : Heap, (K w.params).In base → base.Ns mainGlobals mg → FnG l.prog w (K w.params) mg base k fa fd [x] (sp w mg))
    (hsp : ∀ (w : World) (mg : Str → Option Value) (H : Hp) (a : Addr) (ns : List Int), ns.length ≤ n → (∀ z ∈ ns, Builtin.Int.intBits z ≤ 1048576) → SqL (K w.params) H a (ns.map V.int) → sp w mg [.ref a] H (fun v _ => v = .bl true) fun _ _ _ => False) :
    PySem.W.WalkO q loose XP YP l.row.toRowW d [] (fun f vs => PySem.call f vs) := by
  refine Att.attach_callB hn hdf fun w s₀ s₁ mg mb fa o pm cd doc a vs ns G Y ho hd hcd hmg hobj hints hlen hbits hg => ?_
  have KX := hY w _ Y
  obtain ⟨fd, hb, hF⟩ := F w mg fa _ KX G.T.g hmg
  obtain ⟨H, S⟩ := scr_of (P := l.prog) (w := w) KX hobj hints (Nat.le_trans hlen hn2)
  exact law_end S KX G.T.g G.T.b G.T.builtins G.T.nolimit hg hobj ⟨hr, rfl⟩ hF hb (hsp w mg H a ns hlen hbits S.sq) fun e s' h => by
    obtain ⟨_, _, _, _, _, _, _, _, _, _, _, _, z⟩ := h
    exact z
end B


set_option Elab.async false
set_option linter.all false
set_option maxRecDepth 100000
set_option maxHeartbeats 4000000
namespace B
open PySem PySem.Spec L2
/-! ## defs -/
/-- a def's end: what comes back, what the objects handed in to be changed are then -/
inductive FR where
  | stuck | ok (r : Rs) (ios : List D) | exc (x : Exn) (ios : List D)
/-- the arguments: ks tells which are handed in to be changed, io their addresses -/
inductive AR (K : PySem.W.Frag) (mg : Str → Option Value) (F H : Hp) : List Bool → List Addr → List V → List D → Prop
  | nil : AR K mg F H [] [] [] []
  | fz {v : V} {d : D} {ks : List Bool} {io : List Addr} {vs : List V} {ds : List D} : DR K mg F v d → AR K mg F H ks io vs ds → AR K mg F H (false :: ks) io (v :: vs) (d :: ds)
  | io {a : Addr} {d : D} {ks : List Bool} {io : List Addr} {vs : List V} {ds : List D} : OwnR K mg F H a d → AR K mg F H ks io vs ds → AR K mg F H (true :: ks) (a :: io) (.ref a :: vs) (d :: ds)
inductive IoR (K : PySem.W.Frag) (mg : Str → Option Value) (F H : Hp) : List Addr → List D → Prop
  | nil : IoR K mg F H [] []
  | cons {a : Addr} {d : D} {io : List Addr} {ds : List D} : OwnR K mg F H a d → IoR K mg F H io ds → IoR K mg F H (a :: io) (d :: ds)
/-- how all stands behind a call -/
structure After (K : PySem.W.Frag) (mg : Str → Option Value) (T : Addr → Option Str) (F H : Hp) (io : List Addr) (ios : List D) (F' H' : Hp) : Prop where
  same : Same F F'
  new : ∀ a o, F' a = some o → F a = some o ∨ H a = none
  sf : Same F' H'
  ioF : ∀ a ∈ io, F' a = none
  keep : ∀ b o, H b = some o → b ∉ io → T b = none → H' b = some o
  tab : ∀ a q, T a = some q → F' a = none ∧ LamX.TabS H' a q
  ios : IoR K mg F' H' io ios
def spB (K : PySem.W.Frag) (mg : Str → Option Value) (ks : List Bool) (f : List D → FR) : Sp := fun vs H Q E => ∃ T F io ds, ((∀ a q, T a = some q → F a = none ∧ LamX.TabS H a q) ∧ ∀ a ∈ io, T a = none) ∧ Same F H ∧ (∀ a ∈ io, F a = none) ∧ io.Nodup ∧ AR K mg F H ks io vs ds ∧ match f ds with
  | .stuck => False
  | .ok r ios => ∀ v H' F', After K mg T F H io ios F' H' → (match r with
    | .fz d => DR K mg F' v d
    | .own d => ∃ a, v = .ref a ∧ H a = none ∧ F' a = none ∧ OwnR K mg F' H' a d) → Q v H'
  | .exc x ios => ∀ cls d H' F', After K mg T F H io ios F' H' → XR K mg F' cls d x → E cls d H'
theorem AR.len {K : PySem.W.Frag} {mg : Str → Option Value} {F H : Hp} : ∀ {ks : List Bool} {io : List Addr} {vs : List V} {ds : List D}, AR K mg F H ks io vs ds → vs.length = ks.length ∧ ds.length = ks.length
  | _, _, _, _, .nil => ⟨rfl, rfl⟩
  | _, _, _, _, .fz _ r => ⟨by rw [List.length_cons, List.length_cons, (AR.len r).1], by rw [List.length_cons, List.length_cons, (AR.len r).2]⟩
  | _, _, _, _, .io _ r => ⟨by rw [List.length_cons, List.length_cons, (AR.len r).1], by rw [List.length_cons, List.length_cons, (AR.len r).2]⟩
/-- the slots at the entry: the parameters (j: how many are handed in to be changed so far) -/
def par : List Bool → Nat → List D → B.Env
  | false :: ks, j, d :: ds => .fz d :: par ks j ds
  | true :: ks, j, d :: ds => .own (some j) d :: par ks (j + 1) ds
  | _, _, _ => []
def start0 (ks : List Bool) (n : Nat) (ds : List D) : B.Env := par ks 0 ds ++ List.replicate (n - ks.length) .un
/-- what was handed in to be changed, at the end -/
def endIo : List Bool → Nat → B.Env → Option (List D)
  | [], _, _ => some []
  | false :: ks, j, _ :: β => endIo ks j β
  | true :: ks, j, .own (some j') d :: β => if j' = j then (endIo ks (j + 1) β).map (d :: ·) else none
  | _, _, _ => none
def finF (ks : List Bool) : R Fl → FR
  | .ok (.ret r) β => match endIo ks 0 β with
    | some ios => .ok r ios
    | none => .stuck
  | .ok .nx β => match endIo ks 0 β with
    | some ios => .ok (.fz .non) ios
    | none => .stuck
  | .exc x β => match endIo ks 0 β with
    | some ios => .exc x ios
    | none => .stuck
  | _ => .stuck
def runB (ks : List Bool) (n : Nat) (m : M Fl) (ds : List D) : FR := finF ks (m (start0 ks n ds))
section
variable {K : PySem.W.Frag} {mg : Str → Option Value} {G : GT} {F F' H H' : Hp} {io : List Addr} {β : B.Env} {σ : L2.St}
theorem par_sl (G : GT) (io : List Addr) (gi : ∀ a ∈ io, G a = none) (fi : ∀ a ∈ io, F a = none) : ∀ {ks : List Bool} {l : List Addr} {vs : List V} {ds : List D} (pre : List Addr), AR K mg F H ks l vs ds → io = pre ++ l → ∀ (i : Nat) (s : Sl), (par ks pre.length ds)[i]? = some s → ∃ v, vs[i]? = some v ∧ SlR K mg G F io H (some v) s
  | _, _, _, _, pre, .nil, _, i, s, h => by simp [par] at h
  | _, _, _, _, pre, .fz r a, e, 0, s, h => by
    have h' := Option.some.inj h
    subst h'
    exact ⟨_, rfl, _, rfl, r⟩
  | _, _, _, _, pre, .fz r a, e, i + 1, s, h => par_sl G io gi fi pre a e i s h
  | _, _, _, _, pre, .io (a := a) r ar, e, 0, s, h => by
    have h' := Option.some.inj h
    subst h'
    have ha : a ∈ io := by rw [e]; simp
    refine ⟨_, rfl, a, rfl, fi a ha, gi a ha, fun q => (nomatch q), fun k q => ?_, r⟩
    cases q
    rw [e]
    simp
  | _, _, _, _, pre, .io (a := a) (io := l) (ks := ks') (ds := ds') r ar, e, i + 1, s, h => by
    have h' : (par ks' (pre ++ [a]).length ds')[i]? = some s := by
      rw [List.length_append, List.length_singleton]
      exact h
    exact par_sl G io gi fi (pre ++ [a]) ar (by rw [e]; simp) i s h'
theorem par_own : ∀ {ks : List Bool} {j i : Nat} {ds : List D} {b : Option Nat} {d : D}, (par ks j ds)[i]? = some (.own b d) → ∃ m, b = some m ∧ j ≤ m
  | [], _, _, _, _, _, h => by simp [par] at h
  | false :: ks, j, 0, d :: ds, _, _, h => by cases h
  | false :: ks, j, i + 1, d :: ds, _, _, h => par_own (ks := ks) (i := i) h
  | true :: ks, j, 0, d :: ds, _, _, h => by cases h; exact ⟨j, rfl, Nat.le_refl _⟩
  | true :: ks, j, i + 1, d :: ds, _, _, h => by
    obtain ⟨m, e, hm⟩ := par_own (ks := ks) (j := j + 1) (i := i) h
    exact ⟨m, e, Nat.le_of_succ_le hm⟩
  | false :: _, _, _, [], _, _, h => by simp [par] at h
  | true :: _, _, _, [], _, _, h => by simp [par] at h
theorem par_inj : ∀ {ks : List Bool} {j i i' : Nat} {ds : List D} {m : Nat} {d d' : D}, (par ks j ds)[i]? = some (.own (some m) d) → (par ks j ds)[i']? = some (.own (some m) d') → i = i'
  | [], _, _, _, _, _, _, _, h, _ => by simp [par] at h
  | false :: ks, j, 0, _, d :: ds, _, _, _, h, _ => by cases h
  | false :: ks, j, _ + 1, 0, d :: ds, _, _, _, _, h => by cases h
  | false :: ks, j, i + 1, i' + 1, d :: ds, _, _, _, h, h' => by rw [par_inj (ks := ks) (j := j) (ds := ds) h h']
  | true :: ks, j, 0, 0, d :: ds, _, _, _, _, _ => rfl
  | true :: ks, j, 0, i' + 1, d :: ds, m, _, _, h, h' => by
    cases h
    obtain ⟨m', e, hm⟩ := par_own (ks := ks) (j := j + 1) (i := i') h'
    cases e
    omega
  | true :: ks, j, i + 1, 0, d :: ds, m, _, _, h, h' => by
    cases h'
    obtain ⟨m', e, hm⟩ := par_own (ks := ks) (j := j + 1) (i := i) h
    cases e
    omega
  | true :: ks, j, i + 1, i' + 1, d :: ds, _, _, _, h, h' => by rw [par_inj (ks := ks) (j := j + 1) (ds := ds) h h']
  | false :: _, _, _, _, [], _, _, _, h, _ => by simp [par] at h
  | true :: _, _, _, _, [], _, _, _, h, _ => by simp [par] at h
theorem par_len : ∀ {ks : List Bool} {j : Nat} {ds : List D}, ds.length = ks.length → (par ks j ds).length = ks.length
  | [], _, [], _ => rfl
  | false :: ks, j, d :: ds, h => by
    show (par ks j ds).length + 1 = _
    rw [par_len (Nat.succ.inj h), List.length_cons]
  | true :: ks, j, d :: ds, h => by
    show (par ks (j + 1) ds).length + 1 = _
    rw [par_len (Nat.succ.inj h), List.length_cons]
/-- all but what is handed in to be changed -/
def butIo (T : Addr → Option Str) (H : Hp) (io : List Addr) : GT := ⟨fun a => if a ∈ io ∨ T a ≠ none then none else H a, T⟩
theorem butIo_io {T : Addr → Option Str} {H : Hp} {io : List Addr} {a : Addr} (h : a ∈ io) (t : T a = none) : butIo T H io a = none := GT.none_iff.mpr ⟨t, if_pos (.inl h)⟩
theorem butIo_none {T : Addr → Option Str} {H : Hp} {io : List Addr} {a : Addr} (h : butIo T H io a = none) (n : a ∉ io) : T a = none ∧ H a = none := by
  obtain ⟨t, g⟩ := GT.none_iff.mp h
  refine ⟨t, ?_⟩
  have g : (if a ∈ io ∨ T a ≠ none then none else H a) = none := g
  rwa [if_neg (fun z => z.elim n fun z => z t)] at g
theorem bi_start {ks : List Bool} {N : List Str} {vs : List V} {ds : List D} (sf : Same F H) {T : Addr → Option Str} (tt : (∀ a q, T a = some q → F a = none ∧ LamX.TabS H a q) ∧ ∀ a ∈ io, T a = none) (fi : ∀ a ∈ io, F a = none) (nd : io.Nodup) (ar : AR K mg F H ks io vs ds) (hn : ks.length ≤ N.length) : BI K mg (butIo T H io) F io (start0 ks N.length ds) (L2.start N vs) H := by
  obtain ⟨lv, ld⟩ := ar.len
  have gi : ∀ a ∈ io, butIo T H io a = none := fun a ha => butIo_io ha (tt.2 a ha)
  have io_there : ∀ {ks : List Bool} {l : List Addr} {vs : List V} {ds : List D}, AR K mg F H ks l vs ds → ∀ a ∈ l, ∃ o, H a = some o := by
    intro ks l vs ds h
    induction h with
    | nil => intro a ha; cases ha
    | fz _ _ ih => exact ih
    | io r _ ih =>
      intro b hb
      rcases List.mem_cons.mp hb with rfl | hb
      · obtain ⟨o, e, _⟩ := r.there
        exact ⟨o, e⟩
      · exact ih b hb
  have hpl := par_len (j := 0) ld
  have sl : ∀ (i : Nat) (s : Sl), (start0 ks N.length ds)[i]? = some s → ∃ o, (L2.start N vs)[i]? = some o ∧ SlR K mg (butIo T H io) F io H o s := fun i s e => by
    unfold start0 at e
    unfold L2.start
    by_cases hi : i < ks.length
    · rw [List.getElem?_append_left (by omega)] at e
      obtain ⟨v, ev, r⟩ := par_sl (butIo T H io) io gi fi [] ar rfl i s e
      refine ⟨some v, ?_, r⟩
      rw [List.getElem?_append_left (by rw [List.length_map]; omega), List.getElem?_map, ev]
      rfl
    · rw [List.getElem?_append_right (by omega), List.getElem?_replicate] at e
      split at e
      · cases e
        refine ⟨none, ?_, trivial⟩
        rw [List.getElem?_append_right (by rw [List.length_map]; omega), List.getElem?_replicate, List.length_map, if_pos (by omega)]
      · cases e
  refine ⟨⟨fun a o h => ?_, tt.1, fun a o h => ?_⟩, sf, fi, io_there ar, ?_, sl, fun i j s t a e1 e2 h1 h2 z1 z2 => ?_⟩
  · unfold butIo at h
    simp only at h
    split at h
    · cases h
    · exact h
  · unfold butIo at h ⊢
    simp only at h ⊢
    split at h
    · cases h
    · rename_i z
      cases q : T a with
      | none => rfl
      | some x => exact absurd (.inr (by rw [q]; simp)) z
  · unfold start0 L2.start
    rw [List.length_append, List.length_append, List.length_map, List.length_replicate, List.length_replicate]
    omega
  · -- two own slots are parameters
    have isp : ∀ {i : Nat} {b : Option Nat} {d : D}, (start0 ks N.length ds)[i]? = some (.own b d) → (par ks 0 ds)[i]? = some (.own b d) := fun {i b d} e => by
      unfold start0 at e
      by_cases hi : i < ks.length
      · rwa [List.getElem?_append_left (by omega)] at e
      · rw [List.getElem?_append_right (by omega), List.getElem?_replicate] at e
        split at e <;> cases e
    cases s with
    | ex z0 => cases h1
    | gh _ => cases h1
    | un => cases h1
    | fz _ => cases h1
    | own b d =>
      cases t with
      | ex z0 => cases h2
      | gh _ => cases h2
      | un => cases h2
      | fz _ => cases h2
      | own b' d' =>
        obtain ⟨m, rfl, _⟩ := par_own (isp e1)
        obtain ⟨m', rfl, _⟩ := par_own (isp e2)
        obtain ⟨o1, q1, a1, w1, _, _, _, k1, _⟩ := sl i _ e1
        obtain ⟨o2, q2, a2, w2, _, _, _, k2, _⟩ := sl j _ e2
        rw [z1] at q1
        rw [z2] at q2
        cases q1
        cases q2
        cases w1
        cases w2
        have y1 := k1 m rfl
        have y2 := k2 m' rfl
        have em : m = m' := nd_ix nd y1 y2
        subst em
        exact par_inj (isp e1) (isp e2)
/-- at the end -/
theorem endIo_ok (I : BI K mg G F io β σ H) : ∀ {ks : List Bool} {n j : Nat} {ios : List D}, endIo ks j (β.drop n) = some ios → io.length = j + (ks.filter id).length → IoR K mg F H (io.drop j) ios := by
  intro ks
  induction ks with
  | nil =>
    intro n j ios h hl
    cases h
    rw [List.drop_of_length_le (by simp at hl; omega)]
    exact .nil
  | cons k ks ih =>
    intro n j ios h hl
    cases e : β.drop n with
    | nil =>
      rw [e] at h
      cases k <;> simp [endIo] at h
    | cons s r =>
      have er : r = β.drop (n + 1) := by
        have := congrArg List.tail e
        rw [List.tail_drop] at this
        exact this.symm
      have es : β[n]? = some s := by
        have := congrArg List.head? e
        rw [List.head?_drop] at this
        exact this
      rw [e, er] at h
      cases k with
      | false =>
        have h' : endIo ks j (β.drop (n + 1)) = some ios := by
          cases s <;> exact h
        exact ih h' (by simpa using hl)
      | true =>
        cases s with
        | ex z0 => simp [endIo] at h
        | gh _ => simp [endIo] at h
        | un => simp [endIo] at h
        | fz d => simp [endIo] at h
        | own b d =>
          cases b with
          | none => simp [endIo] at h
          | some j' =>
            simp only [endIo] at h
            split at h
            · rename_i ej
              subst ej
              obtain ⟨l, el, rfl⟩ := Option.map_eq_some_iff.mp h
              obtain ⟨o, eo, a, rfl, _, _, _, k1, r1⟩ := I.sl n _ es
              have ha := k1 j' rfl
              have hlt := (List.getElem?_eq_some_iff.mp ha).1
              have ed : io.drop j' = a :: io.drop (j' + 1) := by
                rw [List.drop_eq_getElem_cons hlt]
                congr 1
                have := List.getElem?_eq_getElem hlt
                rw [ha] at this
                exact (Option.some.inj this).symm
              rw [ed]
              exact .cons r1 (ih el (by simp at hl; omega))
            · cases h
theorem AR.io_len : ∀ {ks : List Bool} {io : List Addr} {vs : List V} {ds : List D}, AR K mg F H ks io vs ds → io.length = (ks.filter id).length
  | _, _, _, _, .nil => rfl
  | _, _, _, _, .fz _ r => by simpa using AR.io_len r
  | _, _, _, _, .io _ r => by simpa using AR.io_len r
end
section
variable {P : Program} {w : World} {K : PySem.W.Frag} {mg : Str → Option Value} {base : Heap}
/-- THE RULE for a def -/
theorem fnB {x qual : Str} {st : Stmt} {f : Addr} {fd : FuncData} {N ps : List Str} {k : Nat} {m : M Fl} (ks : List Bool) (Fn : Fun K x qual st f fd) (S : FnScope N ps (defScope st)) (hk : ks.length = ps.length)
    (hb : ∀ (cdv : Value) (A : Around) (outer : List PySem.Env) (s : Shared) (H : Hp) (E : XK), RoomG k (A.deeper (PyProof.Rows.envOfC qual (defScope st) s.heap.objs.size f cdv)) → BSs (cxOf (L2.CX P w) P w K mg base N qual (defScope st) f cdv A outer s H E) (defBody st) m) :
    FnG P w K mg base (k + 1) f fd ps (spB K mg ks (runB ks N.length m)) := by
  refine FunG Fn S (fun vs H Q E ⟨T, F, io, ds, _, _, _, _, ar, _⟩ => by rw [ar.len.1, hk]) fun cdv A outer s H vs Q E hr h => ?_
  refine ⟨_, hb cdv A outer s H E hr (fun cls d _ H' => E cls d H') (takes_of rfl rfl rfl rfl), ?_⟩
  obtain ⟨T, F, io, ds, tt, sf, fi, nd, ar, h⟩ := h
  have hpl : ps.length ≤ N.length := by
    have := congrArg List.length S.pre
    rw [List.length_take] at this
    omega
  have I := bi_start (N := N) sf tt fi nd ar (by omega)
  refine ⟨_, io, F, _, I, ?_⟩
  unfold runB at h
  have aft : ∀ {β : B.Env} {σ' : L2.St} {H' F' : Hp} {ios : List D}, endIo ks 0 β = some ios → FE (butIo T H io) io F F' → BI K mg (butIo T H io) F' io β σ' H' → After K mg T F H io ios F' H' := fun {β σ' H' F' ios} e fe I' =>
    ⟨fe.same, fun a o q => (fe.new a o q).imp id fun ⟨q1, q2⟩ => (butIo_none q1 q2).2, I'.sf, I'.ioF, fun b o q nb tb => I'.sg.g b o (by unfold butIo; simp only; rw [if_neg (fun z => z.elim nb fun z => z tb)]; exact q), I'.sg.t, endIo_ok I' (n := 0) e (by rw [ar.io_len]; simp)⟩
  cases e : m (start0 ks N.length ds) with
  | stuck => rw [e] at h; exact h.elim
  | exc ex β =>
    rw [e] at h
    intro σ' cls d H' F' fe I' xr
    simp only [finF] at h
    cases e2 : endIo ks 0 β with
    | none => rw [e2] at h; exact h.elim
    | some ios =>
      rw [e2] at h
      exact h cls d H' F' (aft e2 fe I') xr
  | ok fl β =>
    rw [e] at h
    intro σ' H' F' fe I'
    cases fl with
    | brk => exact h.elim
    | ct => exact h.elim
    | nx =>
      simp only [finF] at h
      cases e2 : endIo ks 0 β with
      | none => rw [e2] at h; exact h.elim
      | some ios =>
        rw [e2] at h
        exact h .non H' F' (aft e2 fe I') .non
    | ret r =>
      intro v rr
      simp only [finF] at h
      cases e2 : endIo ks 0 β with
      | none => rw [e2] at h; exact h.elim
      | some ios =>
        rw [e2] at h
        refine h v H' F' (aft e2 fe I') ?_
        cases r with
        | fz d => exact rr
        | own d =>
          obtain ⟨a, ea, f1, g1, ni, o, _⟩ := rr
          refine ⟨a, ea, ?_, f1, o⟩
          exact (butIo_none g1 ni).2
end
end B


set_option Elab.async false
set_option linter.all false
set_option maxRecDepth 100000
set_option maxHeartbeats 4000000
namespace B
open PySem PySem.Spec L2
/-! ## calls of defs -/
def immK : D → Bool
  | .nd _ ds => imms ds
  | _ => true
def immR : Rs → Bool
  | .fz d => imm d
  | .own d => immK d
def immX (x : Exn) : Bool := imms (x.fs.map (·.2))
/-- the arguments' data, the slots handed in to be changed, the own slots that are lent -/
def resA (β : B.Env) : List Bool → List Pl → Option (List D × List Nat × List Nat)
  | [], [] => some ([], [], [])
  | false :: ks, .d d :: ps => (resA β ks ps).map fun r => (d :: r.1, r.2.1, r.2.2)
  | false :: ks, .sl i :: ps => match β[i]? with
    | some (.fz d) => (resA β ks ps).map fun r => (d :: r.1, r.2.1, r.2.2)
    | some (.own _ d) => (resA β ks ps).map fun r => (d :: r.1, r.2.1, i :: r.2.2)
    | _ => none
  | true :: ks, .sl i :: ps => match β[i]? with
    | some (.own _ d) => (resA β ks ps).map fun r => (d :: r.1, i :: r.2.1, r.2.2)
    | _ => none
  | _, _ => none
/-- the slots behind the call -/
def putIo (β : B.Env) : List Nat → List D → B.Env
  | i :: is, d :: ds => putIo (match β[i]? with
    | some (.own b _) => β.set i (.own b d)
    | _ => β) is ds
  | _, _ => β
def callF (ks : List Bool) (f : List D → FR) (ps : List Pl) : M Rs := fun β => match resA β ks ps with
  | some (ds, is, js) => if is.Nodup ∧ (∀ j ∈ js, j ∉ is) then (match f ds with
    | .ok r ios => if ios.length = is.length ∧ (js = [] ∨ (immR r = true ∧ ios.all immK = true)) then .ok r (putIo β is ios) else .stuck
    | .exc x ios => if ios.length = is.length ∧ (js = [] ∨ (immX x = true ∧ ios.all immK = true)) then .exc x (putIo β is ios) else .stuck
    | .stuck => .stuck) else .stuck
  | none => .stuck
section
variable {K : PySem.W.Frag} {mg : Str → Option Value} {G : GT} {F F' H H' : Hp} {io : List Addr} {β : B.Env} {σ : L2.St}
/-- the lent objects' addresses -/
def lent (σ : L2.St) (js : List Nat) (b : Addr) : Prop := ∃ j ∈ js, σ[j]? = some (some (V.ref b))
open Classical in
/-- F and what is lent -/
noncomputable def withL (F H : Hp) (σ : L2.St) (js : List Nat) : Hp := fun b => if lent σ js b then H b else F b
open Classical in
noncomputable def cutL (F : Hp) (σ : L2.St) (js : List Nat) : Hp := fun b => if lent σ js b then none else F b
/-- the slots handed in, their addresses -/
inductive IsA (β : B.Env) (σ : L2.St) : List Nat → List Addr → Prop
  | nil : IsA β σ [] []
  | cons {i : Nat} {a : Addr} {is : List Nat} {as : List Addr} {b : Option Nat} {d : D} : β[i]? = some (.own b d) → σ[i]? = some (some (.ref a)) → IsA β σ is as → IsA β σ (i :: is) (a :: as)
theorem IsA.mem {is : List Nat} {as : List Addr} (h : IsA β σ is as) : ∀ a ∈ as, ∃ i b d, i ∈ is ∧ β[i]? = some (.own b d) ∧ σ[i]? = some (some (V.ref a)) := by
  induction h with
  | nil => intro a ha; cases ha
  | cons h1 h2 _ ih =>
    intro a ha
    rcases List.mem_cons.mp ha with rfl | ha
    · exact ⟨_, _, _, List.mem_cons_self, h1, h2⟩
    · obtain ⟨i, b, d, hi, e1, e2⟩ := ih a ha
      exact ⟨i, b, d, List.mem_cons_of_mem _ hi, e1, e2⟩
theorem IsA.mem' {is : List Nat} {as : List Addr} (h : IsA β σ is as) : ∀ i ∈ is, ∃ a b d, a ∈ as ∧ β[i]? = some (.own b d) ∧ σ[i]? = some (some (V.ref a)) := by
  induction h with
  | nil => intro a ha; cases ha
  | cons h1 h2 _ ih =>
    intro a ha
    rcases List.mem_cons.mp ha with rfl | ha
    · exact ⟨_, _, _, List.mem_cons_self, h1, h2⟩
    · obtain ⟨i, b, d, hi, e1, e2⟩ := ih a ha
      exact ⟨i, b, d, List.mem_cons_of_mem _ hi, e1, e2⟩
theorem IsA.nodup (I : BI K mg G F io β σ H) {is : List Nat} {as : List Addr} (h : IsA β σ is as) (nd : is.Nodup) : as.Nodup := by
  induction h with
  | nil => exact .nil
  | @cons i a is as b d h1 h2 h3 ih =>
    obtain ⟨n1, n2⟩ := List.nodup_cons.mp nd
    refine List.nodup_cons.mpr ⟨fun ha => ?_, ih n2⟩
    obtain ⟨j, b', d', hj, e1, e2⟩ := h3.mem a ha
    exact n1 (I.apart i j _ _ a h1 e1 rfl rfl h2 e2 ▸ hj)
/-- the own slots that are lent: their objects -/
def OwnS (β : B.Env) (js : List Nat) : Prop := ∀ j ∈ js, ∃ b d, β[j]? = some (.own b d)
theorem lent_none (I : BI K mg G F io β σ H) {js : List Nat} (ow : OwnS β js) {b : Addr} (h : lent σ js b) : F b = none ∧ G b = none ∧ ∃ d, OwnR K mg F H b d := by
  obtain ⟨j, hj, e⟩ := h
  obtain ⟨k, d, ej⟩ := ow j hj
  obtain ⟨o, eo, a, rfl, f, g, _, _, r⟩ := I.sl j _ ej
  rw [e] at eo
  cases eo
  exact ⟨f, g, d, r⟩
theorem withL_same (I : BI K mg G F io β σ H) {js : List Nat} (ow : OwnS β js) : Same F (withL F H σ js) ∧ Same (withL F H σ js) H := by
  refine ⟨fun b o h => ?_, fun b o h => ?_⟩
  · unfold withL
    rw [if_neg fun z => by rw [(lent_none I ow z).1] at h; cases h]
    exact h
  · unfold withL at h
    split at h
    · exact h
    · exact I.sf b o h
theorem resA_ok (I : BI K mg G F io β σ H) {J : List Nat} (owJ : OwnS β J) : ∀ {ks : List Bool} {ps : List Pl} {vs : List V} {ds : List D} {is js : List Nat}, resA β ks ps = some (ds, is, js) → PRs K mg F σ vs ps → (∀ j ∈ js, j ∈ J) → (∀ i ∈ is, i ∉ J) →
    ∃ as, IsA β σ is as ∧ AR K mg (withL F H σ J) H ks as vs ds
  | [], [], _, _, _, _, e, .nil, _, _ => by
    cases e
    exact ⟨[], .nil, .nil⟩
  | false :: ks, .d d :: ps, _, _, _, _, e, .cons r rs, hj, hi => by
    obtain ⟨⟨ds, is, js⟩, e1, e2⟩ := Option.map_eq_some_iff.mp e
    cases e2
    obtain ⟨as, h1, h2⟩ := resA_ok I owJ e1 rs hj hi
    exact ⟨as, h1, .fz (DR.mono (withL_same I owJ).1 r) h2⟩
  | false :: ks, .sl i :: ps, v :: _, _, _, _, e, .cons r rs, hj, hi => by
    have er : σ[i]? = some (some v) := r
    simp only [resA] at e
    split at e
    · rename_i d es
      obtain ⟨⟨ds, is, js⟩, e1, e2⟩ := Option.map_eq_some_iff.mp e
      cases e2
      obtain ⟨as, h1, h2⟩ := resA_ok I owJ e1 rs hj hi
      obtain ⟨o, eo, w, rfl, rw'⟩ := I.sl i _ es
      rw [er] at eo
      cases eo
      exact ⟨as, h1, .fz (rw'.mono (withL_same I owJ).1) h2⟩
    · rename_i b d es
      obtain ⟨⟨ds, is, js⟩, e1, e2⟩ := Option.map_eq_some_iff.mp e
      cases e2
      obtain ⟨as, h1, h2⟩ := resA_ok I owJ e1 rs (fun j h => hj j (List.mem_cons_of_mem _ h)) hi
      obtain ⟨o, eo, a, rfl, _, _, _, _, ow⟩ := I.sl i _ es
      rw [er] at eo
      cases eo
      refine ⟨as, h1, .fz (ow.dr (withL_same I owJ).1 ?_) h2⟩
      unfold withL
      rw [if_pos ⟨i, hj i List.mem_cons_self, er⟩]
    · cases e
  | true :: ks, .sl i :: ps, v :: _, _, _, _, e, .cons r rs, hj, hi => by
    have er : σ[i]? = some (some v) := r
    simp only [resA] at e
    split at e
    · rename_i b d es
      obtain ⟨⟨ds, is, js⟩, e1, e2⟩ := Option.map_eq_some_iff.mp e
      cases e2
      obtain ⟨as, h1, h2⟩ := resA_ok I owJ e1 rs hj (fun j h => hi j (List.mem_cons_of_mem _ h))
      obtain ⟨o, eo, a, rfl, _, _, _, _, ow⟩ := I.sl i _ es
      rw [er] at eo
      cases eo
      exact ⟨a :: as, .cons es er h1, .io (ow.mono (withL_same I owJ).1 rfl) h2⟩
    · cases e
  | [], _ :: _, _, _, _, _, e, _, _, _ => by cases e
  | false :: _, [], _, _, _, _, e, _, _, _ => by cases e
  | true :: _, [], _, _, _, _, e, _, _, _ => by cases e
  | true :: _, .d _ :: _, _, _, _, _, e, _, _, _ => by cases e
theorem resA_own : ∀ {ks : List Bool} {ps : List Pl} {ds : List D} {is js : List Nat}, resA β ks ps = some (ds, is, js) → OwnS β js
  | [], [], _, _, _, e => by
    cases e
    exact fun j h => nomatch h
  | false :: ks, .d d :: ps, _, _, _, e => by
    obtain ⟨⟨ds, is, js⟩, e1, e2⟩ := Option.map_eq_some_iff.mp e
    cases e2
    exact resA_own e1
  | false :: ks, .sl i :: ps, _, _, _, e => by
    simp only [resA] at e
    split at e
    · obtain ⟨⟨ds, is, js⟩, e1, e2⟩ := Option.map_eq_some_iff.mp e
      cases e2
      exact resA_own e1
    · rename_i b d es
      obtain ⟨⟨ds, is, js⟩, e1, e2⟩ := Option.map_eq_some_iff.mp e
      cases e2
      intro j hj
      rcases List.mem_cons.mp hj with rfl | hj
      · exact ⟨_, _, es⟩
      · exact resA_own e1 j hj
    · cases e
  | true :: ks, .sl i :: ps, _, _, _, e => by
    simp only [resA] at e
    split at e
    · obtain ⟨⟨ds, is, js⟩, e1, e2⟩ := Option.map_eq_some_iff.mp e
      cases e2
      exact resA_own e1
    · cases e
  | [], _ :: _, _, _, _, e => by cases e
  | false :: _, [], _, _, _, e => by cases e
  | true :: _, [], _, _, _, e => by cases e
  | true :: _, .d _ :: _, _, _, _, e => by cases e
/-- a state behind a call: what was handed in holds ios at the addresses as -/
theorem putIo_len : ∀ (is : List Nat) (ios : List D) (β : B.Env), (putIo β is ios).length = β.length
  | [], _, _ => rfl
  | _ :: _, [], _ => rfl
  | i :: is, d :: ds, β => by
    unfold putIo
    rw [putIo_len is ds]
    split
    · exact List.length_set ..
    · rfl
theorem putIo_out {j : Nat} : ∀ (is : List Nat) (ios : List D) (β : B.Env), j ∉ is → (putIo β is ios)[j]? = β[j]?
  | [], _, _, _ => rfl
  | _ :: _, [], _, _ => rfl
  | i :: is, d :: ds, β, h => by
    unfold putIo
    rw [putIo_out is ds _ fun z => h (List.mem_cons_of_mem _ z)]
    have hne : i ≠ j := fun z => h (by rw [z]; exact List.mem_cons_self)
    split
    · rw [List.getElem?_set_ne hne]
    · rfl
theorem putIo_in {F' H' : Hp} : ∀ {is : List Nat} {as : List Addr} {ios : List D} {β : B.Env}, IsA β σ is as → is.Nodup → IoR K mg F' H' as ios → ∀ i ∈ is, ∃ a b d, (putIo β is ios)[i]? = some (.own b d) ∧ σ[i]? = some (some (V.ref a)) ∧ OwnR K mg F' H' a d ∧ (∃ d0, β[i]? = some (.own b d0)) ∧ d ∈ ios
  | _, _, _, _, .nil, _, _, i, hi => nomatch hi
  | _, _, _, β, .cons (i := i0) (a := a0) (is := is) (as := as) (b := b0) h1 h2 h3, nd, .cons (d := d0) (ds := ds) r rs, i, hi => by
    obtain ⟨n1, n2⟩ := List.nodup_cons.mp nd
    have hl : i0 < β.length := (List.getElem?_eq_some_iff.mp h1).1
    have ep : putIo β (i0 :: is) (d0 :: ds) = putIo (β.set i0 (.own b0 d0)) is ds := by
      show putIo (match β[i0]? with
        | some (.own b _) => β.set i0 (.own b d0)
        | _ => β) is ds = _
      rw [h1]
    rw [ep]
    rcases List.mem_cons.mp hi with rfl | hi
    · refine ⟨a0, b0, d0, ?_, h2, r, ⟨_, h1⟩, List.mem_cons_self⟩
      rw [putIo_out is ds _ n1, List.getElem?_set_self hl]
    · have h3' : IsA (β.set i0 (.own b0 d0)) σ is as := by
        have : ∀ {is : List Nat} {as : List Addr}, IsA β σ is as → i0 ∉ is → IsA (β.set i0 (.own b0 d0)) σ is as := by
          intro is as h
          induction h with
          | nil => exact fun _ => .nil
          | cons q1 q2 _ ih => exact fun hn => .cons (by rw [List.getElem?_set_ne (fun z => hn (by rw [z]; exact List.mem_cons_self))]; exact q1) q2 (ih fun z => hn (List.mem_cons_of_mem _ z))
        exact this h3 n1
      obtain ⟨a, b, d, e1, e2, e3, ⟨d1, e4⟩, e5⟩ := putIo_in h3' n2 rs i hi
      refine ⟨a, b, d, e1, e2, e3, ⟨d1, ?_⟩, List.mem_cons_of_mem _ e5⟩
      rwa [List.getElem?_set_ne (fun z => n1 (by rw [z]; exact hi))] at e4
/-- children that cannot change -/
theorem OwnR.immF {a : Addr} {d : D} (h : OwnR K mg F H a d) (t : Tups F F') (z : Frzs F F') (e : immK d = true) : OwnR K mg F' H a d := by
  cases h with
  | lst h r => exact .lst h (r.imm t z e)
  | dK h r q =>
    refine .dK h (r.imm t z ?_) q
    unfold immK at e
    rename_i kvs ds es
    have : ∀ {ks : List Key} {ds es : List D}, KDs ks ds es → imms es = true → imms ds = true := by
      intro ks ds es h
      induction h with
      | nil => exact fun _ => rfl
      | cons _ ih =>
        intro e
        simp only [imms, imm, Bool.and_eq_true] at e ⊢
        exact ⟨e.1.2.1, ih e.2⟩
    exact this q e
  | dg h k r q =>
    refine .dg h (fun x hx => t _ _ (k x hx)) (r.imm t z ?_) q
    unfold immK at e
    have key : ∀ {ks : List (List Int)} {ds es : List D}, GDs ks ds es → imms es = true → imms ds = true := by
      intro ks ds es h
      induction h with
      | nil => intro _; rfl
      | cons _ ih =>
        intro e
        simp only [imms, imm, Bool.and_eq_true] at e ⊢
        exact ⟨e.1.2.1, ih e.2⟩
    exact key q e
  | dT h r q =>
    refine .dT h (r.imm t z ?_) q
    unfold immK at e
    rename_i kvs ds es
    have : ∀ {ks : List (List Key)} {ds es : List D}, TDs ks ds es → imms es = true → imms ds = true := by
      intro ks ds es h
      induction h with
      | nil => exact fun _ => rfl
      | cons _ ih =>
        intro e
        simp only [imms, imm, Bool.and_eq_true] at e ⊢
        exact ⟨e.1.2.1, ih e.2⟩
    exact this q.1 e
  | ins h g r => exact .ins h g (r.imm t z e)
/-- behind a call -/
theorem BI.call (I : BI K mg G F io β σ H) {is js : List Nat} {as : List Addr} {ios : List D} (ha : IsA β σ is as) (nd : is.Nodup) (ow : OwnS β js) (dj : ∀ j ∈ js, j ∉ is) (hl : ios.length = is.length) (A : After K mg G.t (withL F H σ js) H as ios F' H') (hi : js = [] ∨ ios.all immK = true) :
    FE G io F (cutL F' σ js) ∧ BI K mg G (cutL F' σ js) io (putIo β is ios) σ H' ∧ Tups F' (cutL F' σ js) ∧ Frzs F' (cutL F' σ js) ∧ (js = [] → cutL F' σ js = F') := by
  have nl : ∀ {b : Addr}, lent σ js b → b ∉ as := fun {b} ⟨j, hj, e⟩ hb => by
    obtain ⟨i, b', d', hi', e1, e2⟩ := ha.mem b hb
    obtain ⟨b2, d2, e3⟩ := ow j hj
    have : j = i := I.apart j i _ _ b e3 e1 rfl rfl e e2
    exact dj j hj (this ▸ hi')
  have sameF : Same F (cutL F' σ js) := fun b o h => by
    unfold cutL
    rw [if_neg fun z => by rw [(lent_none I ow z).1] at h; cases h]
    exact A.same b o ((withL_same I ow).1 b o h)
  have there : ∀ {b : Addr} {o : HO}, F' b = some o → ¬ lent σ js b → F b = some o ∨ H b = none := fun {b o} h nl => by
    have := A.new b o h
    unfold withL at this
    rwa [if_neg nl] at this
  have tp : Tups F' (cutL F' σ js) := fun b xs h => by
    unfold cutL
    rw [if_neg fun z => ?_]
    · exact h
    · obtain ⟨_, _, d, r⟩ := lent_none I ow z
      obtain ⟨o, ho, nt, _⟩ := r.there
      have := A.same b o (by unfold withL; rw [if_pos z]; exact ho)
      rw [h] at this
      cases this
      exact nt _ rfl
  have fz : Frzs F' (cutL F' σ js) := fun b ob u h => by
    unfold cutL
    rw [if_neg fun z => ?_]
    · exact h
    · obtain ⟨_, _, d, r⟩ := lent_none I ow z
      obtain ⟨o, ho, _, nt⟩ := r.there
      have := A.same b o (by unfold withL; rw [if_pos z]; exact ho)
      rw [h] at this
      cases this
      exact nt _ _ rfl
  have c0 : js = [] → cutL F' σ js = F' := fun e => by
    funext b
    unfold cutL
    rw [if_neg fun ⟨j, hj, _⟩ => by rw [e] at hj; cases hj]
  refine ⟨⟨sameF, fun b o h => ?_⟩, ⟨⟨fun b o h => ?_, fun b q h => ?_, I.sg.dj⟩, fun b o h => ?_, fun b hb => ?_, fun b hb => ?_, ?_, fun i s e => ?_, fun i j s t b e1 e2 h1 h2 z1 z2 => ?_⟩, tp, fz, c0⟩
  · unfold cutL at h
    split at h
    · cases h
    · rename_i nlb
      rcases there h nlb with q | q
      · exact .inl q
      · refine .inr ⟨I.sg.free q, fun z => ?_⟩
        obtain ⟨u, hu⟩ := I.ioH b z
        rw [hu] at q
        cases q
  · cases tq : G.t b with
    | none =>
      refine A.keep b o (I.sg.g b o h) (fun hb => ?_) tq
      obtain ⟨i, b', d', hi', e1, e2⟩ := ha.mem b hb
      obtain ⟨w, ew, a, ea, f, g, _⟩ := I.sl i _ e1
      rw [e2] at ew
      cases ew
      cases ea
      rw [GT.gn g] at h
      cases h
    | some q => exact absurd tq (by rw [I.sg.dj b o h]; simp)
  · obtain ⟨f1, t1⟩ := A.tab b q h
    refine ⟨?_, t1⟩
    unfold cutL
    split
    · rfl
    · exact f1
  · unfold cutL at h
    split at h
    · cases h
    · exact A.sf b o h
  · unfold cutL
    split
    · rfl
    · rename_i nlb
      cases q : F' b with
      | none => rfl
      | some o =>
        rcases there q nlb with h | h
        · rw [I.ioF b hb] at h
          cases h
        · obtain ⟨u, hu⟩ := I.ioH b hb
          rw [hu] at h
          cases h
  · by_cases hba : b ∈ as
    · obtain ⟨i, b', d', hi', e1, e2⟩ := ha.mem b hba
      obtain ⟨a, b2, d2, q1, q2, q3, _⟩ := putIo_in (σ := σ) ha nd A.ios i hi'
      rw [e2] at q2
      cases q2
      obtain ⟨o, ho, _⟩ := q3.there
      exact ⟨o, ho⟩
    · obtain ⟨u, hu⟩ := I.ioH b hb
      exact (by
        cases tq : G.t b with
        | none => exact ⟨u, A.keep b u hu hba tq⟩
        | some q =>
          obtain ⟨_, ps, h1, _⟩ := A.tab b q tq
          exact ⟨_, h1⟩)
  · rw [putIo_len]
    exact I.len
  · by_cases hi' : i ∈ is
    · obtain ⟨a, b, d, q1, q2, q3, ⟨d0, q4⟩, q5⟩ := putIo_in (σ := σ) ha nd A.ios i hi'
      rw [e] at q1
      cases q1
      obtain ⟨w, ew, a', ea, f, g, k1, k2, _⟩ := I.sl i _ q4
      rw [q2] at ew
      cases ew
      cases ea
      have haa : a ∈ as := by
        obtain ⟨a2, _, _, h1, _, h3⟩ := ha.mem' i hi'
        rw [q2] at h3
        cases h3
        exact h1
      refine ⟨_, q2, a, rfl, ?_, g, k1, k2, ?_⟩
      · unfold cutL
        split
        · rfl
        · exact A.ioF a haa
      · rcases hi with hi | hi
        · rw [c0 hi]
          exact q3
        · exact q3.immF tp fz (List.all_eq_true.mp hi d q5)
    · rw [putIo_out is ios β hi'] at e
      obtain ⟨w, ew, hs⟩ := I.sl i s e
      refine ⟨w, ew, ?_⟩
      cases s with
      | ex z0 => exact ⟨hs.1, hs.2.mono sameF⟩
      | gh _ => exact hs
      | un => trivial
      | fz d =>
        obtain ⟨v, q, r⟩ := hs
        exact ⟨v, q, r.mono sameF⟩
      | own b d =>
        obtain ⟨a, q, f, g, k1, k2, r⟩ := hs
        obtain ⟨u, hu, _⟩ := r.there
        have na : a ∉ as := fun z => by
          obtain ⟨i2, b', d', hi2, e1, e2⟩ := ha.mem a z
          have : i = i2 := I.apart i i2 _ _ a e e1 rfl rfl (by rw [ew, q]) e2
          exact hi' (this ▸ hi2)
        refine ⟨a, q, ?_, g, k1, k2, r.mono sameF (by rw [A.keep a u hu na (GT.tn g), hu])⟩
        unfold cutL
        split
        · rfl
        · rename_i nlb
          cases z : F' a with
          | none => rfl
          | some o =>
            rcases there z nlb with h | h
            · rw [f] at h
              cases h
            · rw [hu] at h
              cases h
  · have back : ∀ {m : Nat} {u : Sl}, (putIo β is ios)[m]? = some u → isOwn u = true → ∃ u', β[m]? = some u' ∧ isOwn u' = true := fun {m u} em hm => by
      by_cases him : m ∈ is
      · obtain ⟨_, b', d', _, e, _⟩ := ha.mem' m him
        exact ⟨_, e, rfl⟩
      · rw [putIo_out is ios β him] at em
        exact ⟨u, em, hm⟩
    obtain ⟨s', es, hs⟩ := back e1 h1
    obtain ⟨t', et, ht⟩ := back e2 h2
    exact I.apart i j s' t' b es et hs ht z1 z2
end
section
variable {X : Cx} {ks : List Bool} {f : List D → FR} {ma : M (List Pl)}
/-- what a call asks -/
theorem callF_post {W : WX} {G : GT} {F H : Hp} {io : List Addr} {β : B.Env} {σ : L2.St} {ps : List Pl} {vs : List V} {Q : VK} (I : BI X.K X.mg G F io β σ H) (rp : PRs X.K X.mg F σ vs ps)
    (h : Post X.K X.mg W (relE X.K X.mg) G F io σ (callF ks f ps β) Q) : spB X.K X.mg ks f vs H Q (WE W σ) := by
  unfold callF at h
  cases e : resA β ks ps with
  | none => rw [e] at h; exact h.elim
  | some t =>
    obtain ⟨ds, is, js⟩ := t
    rw [e] at h
    simp only at h
    split at h
    · rename_i hc
      obtain ⟨nd, dj⟩ := hc
      have ow := resA_own e
      obtain ⟨as, ha, ar⟩ := resA_ok I ow e rp (fun _ h => h) (fun i hi hj => dj i hj hi)
      have nl : ∀ a ∈ as, ¬ lent σ js a := fun a hb ⟨j, hj, e⟩ => by
        obtain ⟨i, b', d', hi', e1, e2⟩ := ha.mem a hb
        obtain ⟨b2, d2, e3⟩ := ow j hj
        have : j = i := I.apart j i _ _ a e3 e1 rfl rfl e e2
        exact dj j hj (this ▸ hi')
      refine ⟨G.t, withL F H σ js, as, ds, ⟨fun a q h => ?_, fun a hb => ?_⟩, (withL_same I ow).2, fun a hb => ?_, ha.nodup I nd, ar, ?_⟩
      · obtain ⟨f1, t1⟩ := I.sg.t a q h
        refine ⟨?_, t1⟩
        unfold withL
        rw [if_neg fun z => by rw [GT.tn (lent_none I ow z).2.1] at h; cases h]
        exact f1
      · obtain ⟨i, b', d', hi', e1, e2⟩ := ha.mem a hb
        obtain ⟨w, ew, a', ea, f', g', _⟩ := I.sl i _ e1
        rw [e2] at ew
        cases ew
        cases ea
        exact GT.tn g'
      · unfold withL
        rw [if_neg (nl a hb)]
        obtain ⟨i, b', d', hi', e1, e2⟩ := ha.mem a hb
        obtain ⟨w, ew, a', ea, f', _⟩ := I.sl i _ e1
        rw [e2] at ew
        cases ew
        cases ea
        exact f'
      · cases ef : f ds with
        | stuck => rw [ef] at h; exact h.elim
        | ok r ios =>
          rw [ef] at h
          simp only at h
          split at h
          · rename_i hl
            obtain ⟨hl, hi⟩ := hl
            intro v H' F' A rr
            obtain ⟨fe, I', tp, fz, c0⟩ := I.call ha nd ow dj hl A (hi.imp id (·.2))
            refine h v H' _ fe I' ?_
            cases r with
            | fz d =>
              rcases hi with hi | hi
              · rw [c0 hi]
                exact rr
              · exact DR.imm tp fz rr hi.1
            | own d =>
              obtain ⟨a, rfl, hn, fn, o⟩ := rr
              have hcut : cutL F' σ js a = none := by
                unfold cutL
                split
                · rfl
                · exact fn
              refine ⟨a, rfl, hcut, I.sg.free hn, fun z => ?_, ?_, fun i s es hs z => ?_⟩
              · obtain ⟨u, hu⟩ := I.ioH a z
                rw [hu] at hn
                cases hn
              · rcases hi with hi | hi
                · rw [c0 hi]
                  exact o
                · exact o.immF tp fz hi.1
              · have : ∃ s', β[i]? = some s' ∧ isOwn s' = true := by
                  by_cases him : i ∈ is
                  · obtain ⟨_, b', d', _, e, _⟩ := ha.mem' i him
                    exact ⟨_, e, rfl⟩
                  · rw [putIo_out is ios β him] at es
                    exact ⟨s, es, hs⟩
                obtain ⟨s', es', hs'⟩ := this
                obtain ⟨w, ew, hss⟩ := I.sl i s' es'
                cases s' with
                | ex _ => cases hs'
                | gh _ => cases hs'
                | un => cases hs'
                | fz _ => cases hs'
                | own b d' =>
                  obtain ⟨x, q, _, _, _, _, r⟩ := hss
                  obtain ⟨u, hu, _⟩ := r.there
                  rw [z, q] at ew
                  cases ew
                  rw [hu] at hn
                  cases hn
          · exact h.elim
        | exc x ios =>
          rw [ef] at h
          simp only at h
          split at h
          · rename_i hl
            obtain ⟨hl, hi⟩ := hl
            intro cls d H' F' A xr
            obtain ⟨fe, I', tp, fz, c0⟩ := I.call ha nd ow dj hl A (hi.imp id (·.2))
            refine h cls d H' _ fe I' ?_
            rcases hi with hi | hi
            · rw [c0 hi]
              exact xr
            · obtain ⟨hm, xr⟩ := xr
              have keepX : ∀ dd fs, F' dd = some (.xd fs) → cutL F' σ js dd = some (.xd fs) := by
                intro dd fs e
                unfold cutL
                split
                · rename_i hL
                  exfalso
                  obtain ⟨_, _, d0, o⟩ := lent_none I ow hL
                  have key : ∀ u, H dd = some u → u = .xd fs := fun u hu => by
                    have := A.same dd u (by unfold withL; rw [if_pos hL]; exact hu)
                    rw [e] at this
                    exact (Option.some.inj this).symm
                  cases o with
                  | lst h _ => cases key _ h
                  | dK h _ _ => cases key _ h
                  | dT h _ _ => cases key _ h
                  | dg h _ _ _ => cases key _ h
                  | ins h _ _ => cases key _ h
                · exact e
              refine ⟨hm, xr.imp id fun ⟨dd, fs, ds, e1, e2, e3, e4, e5⟩ => ⟨dd, fs, ds, e1, keepX _ _ e2, e3, e4.imm tp fz ?_, e5⟩⟩
              rw [e5]
              exact hi.1
          · exact h.elim
    · exact h.elim
def mCallF (ks : List Bool) (f : List D → FR) (ma : M (List Pl)) : M Rs := bnd ma (callF ks f)
/-- default values: data that needs no heap -/
def DDs (K : PySem.W.Frag) (mg : Str → Option Value) (vs : List V) (ds : List D) : Prop := ∀ F, DRs K mg F vs ds
theorem PRs.append {K : PySem.W.Frag} {mg : Str → Option Value} {F : Hp} {σ : L2.St} : ∀ {vs ws : List V} {ps qs : List Pl}, PRs K mg F σ vs ps → PRs K mg F σ ws qs → PRs K mg F σ (vs ++ ws) (ps ++ qs)
  | _, _, _, _, .nil, h => h
  | _, _, _, _, .cons a b, h => .cons a (PRs.append b h)
def mCallD (ks : List Bool) (f : List D → FR) (dd : List D) (ma : M (List Pl)) : M Rs := bnd ma fun ps => callF ks f (ps ++ dd.map Pl.d)
theorem be_call {k : Nat} {fa : Addr} {fd : FuncData} {prm : List Str} {x : Str} {p pos : Pos} {e : Expr} {es : List Expr} (Fn : FnG X.prog X.w X.K X.mg X.base k fa fd prm (spB X.K X.mg ks f)) (hr : RoomG k X.A) (hm : X.mg x = some (.ref fa)) (hk : PySem.W.keepIn X.K (.ref fa) = true)
    (hb : Binds X.K fd prm []) (ha : BA X (e :: es) ma) (hg : Gl X x := by rfl) (hdb : (x == ("__debug__" : Str)) = false := by decide) (he : starEach (e :: es) X.env = (false, eval e X.env) :: starEach es X.env := by rfl)
    (hpl : (backTo pos (starEach es X.env)).any (·.1) = false := by rfl) : BE X (.Call (.Name x p) (e :: es) [] pos) (mCallF ks f ma) := by
  refine fun W tk => (pe_callG Fn hr hg hm hk hb .nil (fun σ => passAt tk σ) (ha W tk) hdb he hpl).imp fun σ H Q ⟨G, io, F, β, I, h⟩ => ⟨G, io, F, β, I, h.bnd fun ps β1 vs H1 F1 fe1 I1 r1 h1 => ?_⟩
  rw [List.append_nil]
  exact callF_post I1 r1 (h1.mono fe1)
/-! ### with keywords -/
theorem _root_.L2.PK.imp {X : Cx} {kws : List Keyword} {t t' : TA} (h : PK X kws t) (k : ∀ σ H Q, t' σ H Q → t σ H Q) : PK X kws t' := ⟨fun pos pins s σ H Q I q => h.run pos pins s σ H Q I (k σ H Q q)⟩
/-- the keywords' order is the parameters' -/
structure KwOk (K : PySem.W.Frag) (mg : Str → Option Value) (fd : FuncData) (prm : List Str) (n : Nat) (ks : List Str) (gP : List Pl → List Pl → List Pl) : Prop where
  ex : ∃ (g : List Value → List Value → List Value) (gV : List V → List V → List V), KBn K fd prm n ks g gV ∧ ∀ F σ vs ws ps qs, PRs K mg F σ vs ps → PRs K mg F σ ws qs → PRs K mg F σ (gV vs ws) (gP ps qs)
def mCallK (ks : List Bool) (f : List D → FR) (n m : Nat) (gP : List Pl → List Pl → List Pl) (ma mk : M (List Pl)) : M Rs := bnd ma fun ps => bnd mk fun qs => if ps.length = n ∧ qs.length = m then callF ks f (gP ps qs) else stk
theorem PRs.len {K : PySem.W.Frag} {mg : Str → Option Value} {F : Hp} {σ : L2.St} : ∀ {vs : List V} {ps : List Pl}, PRs K mg F σ vs ps → vs.length = ps.length
  | _, _, .nil => rfl
  | _, _, .cons _ b => congrArg Nat.succ (PRs.len b)
end
end B


set_option Elab.async false
set_option linter.all false
set_option maxRecDepth 100000
set_option maxHeartbeats 4000000
namespace B
open PySem PySem.Spec L2
/-! ## list comprehensions -/
def wipeB (β : B.Env) : List Nat → B.Env
  | [] => β
  | v :: vs => (wipeB β vs).set v .un
/-- the slots at vs as they were in β0 -/
def backB (β0 β : B.Env) : List Nat → B.Env
  | [] => β
  | v :: vs => match β0[v]? with
    | some s => (backB β0 β vs).set v s
    | none => backB β0 β vs
def noOwn (β : B.Env) (vs : List Nat) : Bool := vs.all fun v => match β[v]? with
  | some (.own _ _) => false
  | _ => true
def compL (g : D → M Unit) (mt : M Bool) (me : M Rs) (vs : List Nat) : List D → List D → M (List D)
  | [], acc => ret acc
  | d :: ds, acc => fun β => match g d β with
    | .ok _ β1 => (match mt β1 with
      | .ok true β2 => (match me β2 with
        | .ok r β3 => if acc.length < sizeLine then compL g mt me vs ds (acc ++ [r.d]) (wipeB β3 vs) else .stuck
        | _ => .stuck)
      | .ok false β2 => compL g mt me vs ds acc (wipeB β2 vs)
      | _ => .stuck)
    | _ => .stuck
def compV (g : D → M Unit) (mt : M Bool) (me : M Rs) (vs : List Nat) (ds : List D) : M Rs := fun β1 => if noOwn β1 vs = true then (match compL g mt me vs ds [] (wipeB β1 vs) with
  | .ok acc β => .ok (.own (.nd .lst acc)) (backB β1 β vs)
  | _ => .stuck) else .stuck
def mComp (vs : List Nat) (mi : M (List D)) (g : D → M Unit) (mt : M Bool) (me : M Rs) : M Rs := bnd mi (compV g mt me vs)
/-- the tests -/
def BTs (X : Cx) (ifs : List Expr) (m : M Bool) : Prop := ∀ W, Takes X W → PTs X ifs (gOf X.K X.mg W relB m)
def mYes : M Bool := ret true
section
variable {X : Cx}
theorem _root_.L2.PTs.imp {es : List Expr} {t t' : TT} (h : PTs X es t) (k : ∀ σ H Q, t' σ H Q → t σ H Q) : PTs X es t' := ⟨fun pins s σ H Q I q => h.run pins s σ H Q I (k σ H Q q)⟩
theorem bts_nil : BTs X [] mYes := fun W tk => pts_nil.imp fun σ H Q ⟨_, _, F, _, I, h⟩ => h _ H F .refl I rfl
theorem bts_one {c : Expr} {m : M Bool} (h : BT X c m) : BTs X [c] m := fun W tk => pts_one (h W tk)
end
section
variable {K : PySem.W.Frag} {mg : Str → Option Value} {G : GT} {F F' H H' : Hp} {io : List Addr} {β β' : B.Env} {σ : L2.St}
theorem wipeB_len (β : B.Env) : ∀ vs, (wipeB β vs).length = β.length
  | [] => rfl
  | v :: vs => by unfold wipeB; rw [List.length_set, wipeB_len β vs]
theorem wipe_out {j : Nat} (σ : L2.St) : ∀ vs : List Nat, j ∉ vs → (wipe σ vs)[j]? = σ[j]?
  | [], _ => rfl
  | v :: vs, h => by
    unfold wipe
    rw [List.getElem?_set_ne fun z => h (by rw [z]; exact List.mem_cons_self), wipe_out σ vs fun z => h (List.mem_cons_of_mem _ z)]
theorem wipe_in {j : Nat} (σ : L2.St) (hj : j < σ.length) : ∀ vs : List Nat, j ∈ vs → (wipe σ vs)[j]? = some none
  | v :: vs, h => by
    unfold wipe
    by_cases e : v = j
    · subst e
      rw [List.getElem?_set_self (by rw [wipe_length]; exact hj)]
    · rw [List.getElem?_set_ne e]
      rcases List.mem_cons.mp h with rfl | h
      · exact absurd rfl e
      · exact wipe_in σ hj vs h
theorem wipeB_out {j : Nat} (β : B.Env) : ∀ vs : List Nat, j ∉ vs → (wipeB β vs)[j]? = β[j]?
  | [], _ => rfl
  | v :: vs, h => by
    unfold wipeB
    rw [List.getElem?_set_ne fun z => h (by rw [z]; exact List.mem_cons_self), wipeB_out β vs fun z => h (List.mem_cons_of_mem _ z)]
theorem wipeB_in {j : Nat} (β : B.Env) : ∀ (vs : List Nat) (s : Sl), j ∈ vs → (wipeB β vs)[j]? = some s → s = .un
  | v :: vs, s, h, e => by
    unfold wipeB at e
    by_cases ev : v = j
    · subst ev
      by_cases hl : v < (wipeB β vs).length
      · rw [List.getElem?_set_self hl] at e
        cases e
        rfl
      · rw [List.getElem?_eq_none (by rw [List.length_set]; omega)] at e
        cases e
    · rw [List.getElem?_set_ne ev] at e
      rcases List.mem_cons.mp h with rfl | h
      · exact absurd rfl ev
      · exact wipeB_in β vs s h e
theorem backB_len (β0 β : B.Env) : ∀ vs, (backB β0 β vs).length = β.length
  | [] => rfl
  | v :: vs => by
    unfold backB
    split
    · rw [List.length_set, backB_len β0 β vs]
    · exact backB_len β0 β vs
theorem backB_out {j : Nat} (β0 β : B.Env) : ∀ vs : List Nat, j ∉ vs → (backB β0 β vs)[j]? = β[j]?
  | [], _ => rfl
  | v :: vs, h => by
    unfold backB
    have h2 := backB_out (j := j) β0 β vs fun z => h (List.mem_cons_of_mem _ z)
    split
    · rw [List.getElem?_set_ne fun z => h (by rw [z]; exact List.mem_cons_self)]
      exact h2
    · exact h2
theorem backB_in {j : Nat} (β0 β : B.Env) (hl : β0.length = β.length) : ∀ (vs : List Nat) (s : Sl), j ∈ vs → (backB β0 β vs)[j]? = some s → β0[j]? = some s
  | v :: vs, s, h, e => by
    unfold backB at e
    by_cases ev : v = j
    · subst ev
      cases q : β0[v]? with
      | none =>
        rw [q] at e
        simp only at e
        have h1 := (List.getElem?_eq_some_iff.mp e).1
        rw [backB_len] at h1
        rw [List.getElem?_eq_none_iff] at q
        omega
      | some t =>
        rw [q] at e
        simp only at e
        have h1 := (List.getElem?_eq_some_iff.mp e).1
        rw [List.length_set] at h1
        rw [List.getElem?_set_self h1] at e
        exact e
    · have h' : j ∈ vs := by
        rcases List.mem_cons.mp h with rfl | h
        · exact absurd rfl ev
        · exact h
      cases q : β0[v]? with
      | none =>
        rw [q] at e
        exact backB_in β0 β hl vs s h' e
      | some t =>
        rw [q] at e
        simp only at e
        rw [List.getElem?_set_ne ev] at e
        exact backB_in β0 β hl vs s h' e
/-- the state of a turn's start -/
theorem BI.wipe (I : BI K mg G F io β σ H) (vs : List Nat) {σ' : L2.St} (e : wipe σ vs = wipe σ' vs) (hl : σ'.length = σ.length) : BI K mg G F io (wipeB β vs) (wipe σ' vs) H := by
  refine ⟨I.sg, I.sf, I.ioF, I.ioH, by rw [wipeB_len, wipe_length, I.len, hl], fun j s es => ?_, fun i j s t a e1 e2 h1 h2 z1 z2 => ?_⟩
  · by_cases hj : j ∈ vs
    · have := wipeB_in β vs s hj es
      subst this
      have hlt := (List.getElem?_eq_some_iff.mp es).1
      rw [wipeB_len, I.len] at hlt
      exact ⟨none, wipe_in σ' (by omega) vs hj, trivial⟩
    · rw [wipeB_out β vs hj] at es
      rw [← e, wipe_out σ vs hj]
      exact I.sl j s es
  · have nw : ∀ {i : Nat} {s : Sl}, (wipeB β vs)[i]? = some s → isOwn s = true → i ∉ vs := fun {i s} es hs hi => by
      have := wipeB_in β vs s hi es
      subst this
      cases hs
    have n1 := nw e1 h1
    have n2 := nw e2 h2
    rw [wipeB_out β vs n1] at e1
    rw [wipeB_out β vs n2] at e2
    rw [← e, wipe_out σ vs n1] at z1
    rw [← e, wipe_out σ vs n2] at z2
    exact I.apart i j s t a e1 e2 h1 h2 z1 z2
/-- one object more that must stay -/
theorem BI.guard (I : BI K mg G F io β σ H) {D : Addr} {o : HO} {us : List V} (eG : G.g D = some (.lst us)) (fD : F D = none) (nio : D ∉ io) : BI K mg (G.upd D o) F io β σ (upd H D o) := by
  refine ⟨I.sg.guard (I.sg.dj _ _ eG) (nc_lst (I.sg.g _ _ eG)), fun b u h => ?_, I.ioF, fun b hb => ?_, I.len, fun j s es => ?_, I.apart⟩
  · rw [upd_ne (ne_of_none h fD)]
    exact I.sf b u h
  · rw [upd_ne fun z => nio (by rw [← z]; exact hb)]
    exact I.ioH b hb
  · obtain ⟨w, ew, hs⟩ := I.sl j s es
    refine ⟨w, ew, ?_⟩
    cases s with
    | ex z0 => exact hs
    | gh _ => exact hs
    | un => trivial
    | fz d => exact hs
    | own b d =>
      obtain ⟨a, q, f, g, k1, k2, r⟩ := hs
      have na : a ≠ D := fun z => by
        rw [z] at g
        rw [GT.gn g] at eG
        cases eG
      exact ⟨a, q, f, by rw [GT.upd_ne na]; exact g, k1, k2, r.mono (Same.refl _) (upd_ne na)⟩
theorem BI.guard0 (I : BI K mg G F io β σ H) {D : Addr} {o : HO} (hD : H D = none) : BI K mg (G.upd D o) F io β σ (upd H D o) := by
  have fD := Same.free I.sf hD
  have gD := I.sg.free hD
  refine ⟨I.sg.guard (GT.tn gD) (nc_none hD), fun b u h => ?_, I.ioF, fun b hb => ?_, I.len, fun j s es => ?_, I.apart⟩
  · rw [upd_ne (ne_of_none h fD)]
    exact I.sf b u h
  · obtain ⟨u, hu⟩ := I.ioH b hb
    rw [upd_ne (ne_of_none hu hD)]
    exact ⟨u, hu⟩
  · obtain ⟨w, ew, hs⟩ := I.sl j s es
    refine ⟨w, ew, ?_⟩
    cases s with
    | ex z0 => exact hs
    | gh _ => exact hs
    | un => trivial
    | fz d => exact hs
    | own b d =>
      obtain ⟨a, q, f, g, k1, k2, r⟩ := hs
      obtain ⟨u, hu, _⟩ := r.there
      have na := ne_of_none hu hD
      exact ⟨a, q, f, by rw [GT.upd_ne na]; exact g, k1, k2, r.mono (Same.refl _) (upd_ne na)⟩
/-- the guard let go -/
theorem BI.unguard {D : Addr} {o : HO} (I : BI K mg (G.upd D o) F io β σ H) (gD : G D = none) : BI K mg G F io β σ H := by
  refine ⟨I.sg.unguard gD, I.sf, I.ioF, I.ioH, I.len, fun j s es => ?_, I.apart⟩
  obtain ⟨w, ew, hs⟩ := I.sl j s es
  refine ⟨w, ew, ?_⟩
  cases s with
  | ex z0 => exact hs
  | gh _ => exact hs
  | un => trivial
  | fz d => exact hs
  | own b d =>
    obtain ⟨a, q, f, g, k1, k2, r⟩ := hs
    refine ⟨a, q, f, ?_, k1, k2, r⟩
    by_cases ha : a = D
    · rw [ha]
      exact gD
    · rwa [GT.upd_ne ha] at g
theorem FE.unguard {D : Addr} {o : HO} (h : FE (G.upd D o) io F F') (gD : G D = none) : FE G io F F' := ⟨h.same, fun a u e => (h.new a u e).imp id fun ⟨g, n⟩ => ⟨by
  by_cases ha : a = D
  · exact absurd (ha ▸ g) (GT.upd_self gD)
  · rwa [GT.upd_ne ha] at g, n⟩⟩
theorem FE.keepN {D : Addr} {o : HO} (h : FE (G.upd D o) io F F') (gD : G D = none) (fD : F D = none) : F' D = none := by
  cases e : F' D with
  | none => rfl
  | some u =>
    rcases h.new D u e with q | ⟨q, _⟩
    · rw [fD] at q
      cases q
    · exact absurd q (GT.upd_self gD)
theorem But.wipe {vs : List Nat} {σ σ' : L2.St} (b : But vs σ σ') : L2.wipe σ' vs = L2.wipe σ vs := by
  refine List.ext_getElem? fun j => ?_
  by_cases hj : j ∈ vs
  · by_cases hl : j < σ.length
    · rw [wipe_in σ hl vs hj, wipe_in σ' (by rw [b.1]; exact hl) vs hj]
    · rw [List.getElem?_eq_none (by rw [wipe_length, b.1]; omega), List.getElem?_eq_none (by rw [wipe_length]; omega)]
  · rw [wipe_out σ' vs hj, wipe_out σ vs hj, b.2 j hj]
theorem wipe_wipe (σ : L2.St) (vs : List Nat) : L2.wipe (L2.wipe σ vs) vs = L2.wipe σ vs := by
  refine List.ext_getElem? fun j => ?_
  by_cases hj : j ∈ vs
  · by_cases hl : j < σ.length
    · rw [wipe_in σ hl vs hj, wipe_in _ (by rw [wipe_length]; exact hl) vs hj]
    · rw [List.getElem?_eq_none (by rw [wipe_length, wipe_length]; omega), List.getElem?_eq_none (by rw [wipe_length]; omega)]
  · rw [wipe_out _ vs hj]
end
section
variable {X : Cx}
/-- what stands between the turns -/
structure Mid (K : PySem.W.Frag) (mg : Str → Option Value) (G : GT) (F1 : Hp) (io : List Addr) (σ : L2.St) (vs : List Nat) (D : Addr) (F : Hp) (β : B.Env) (acc : List B.D) (us : List V) (H : Hp) : Prop where
  fe : FE G io F1 F
  fD : F D = none
  at_ : H D = some (.lst us)
  r : DRs K mg F us acc
  I : BI K mg (G.upd D (.lst us)) F io β (wipe σ vs) H
/-- behind the block -/
theorem BI.back {K : PySem.W.Frag} {mg : Str → Option Value} {G : GT} {F F1 H H1 : Hp} {io : List Addr} {β β1 : B.Env} {σ : L2.St} {vs : List Nat} (I : BI K mg G F io β (L2.wipe σ vs) H) (I1 : BI K mg G F1 io β1 σ H1) (sf : Same F1 F) (hno : noOwn β1 vs = true) : BI K mg G F io (backB β1 β vs) σ H := by
  have hl : β1.length = β.length := by rw [I1.len, I.len, wipe_length]
  have no : ∀ {j : Nat} {s : Sl}, (backB β1 β vs)[j]? = some s → isOwn s = true → j ∉ vs := fun {j s} e hs hj => by
    have e1 := backB_in β1 β hl vs s hj e
    have := List.all_eq_true.mp hno j hj
    rw [e1] at this
    cases s with
    | ex z0 => cases hs
    | gh _ => cases hs
    | own _ _ => cases this
    | un => cases hs
    | fz _ => cases hs
  refine ⟨I.sg, I.sf, I.ioF, I.ioH, by rw [backB_len, I.len, wipe_length], fun j s e => ?_, fun i j s t a e1 e2 h1 h2 z1 z2 => ?_⟩
  · by_cases hj : j ∈ vs
    · have e1 := backB_in β1 β hl vs s hj e
      obtain ⟨w, ew, hs⟩ := I1.sl j s e1
      refine ⟨w, ew, ?_⟩
      cases s with
      | ex z0 => exact ⟨hs.1, hs.2.mono sf⟩
      | gh _ => exact hs
      | un => trivial
      | fz d =>
        obtain ⟨v, q, r⟩ := hs
        exact ⟨v, q, r.mono sf⟩
      | own b d => exact absurd hj (no e rfl)
    · rw [backB_out β1 β vs hj] at e
      obtain ⟨w, ew, hs⟩ := I.sl j s e
      rw [wipe_out σ vs hj] at ew
      exact ⟨w, ew, hs⟩
  · have n1 := no e1 h1
    have n2 := no e2 h2
    rw [backB_out β1 β vs n1] at e1
    rw [backB_out β1 β vs n2] at e2
    exact I.apart i j s t a e1 e2 h1 h2 (by rw [wipe_out σ vs n1]; exact z1) (by rw [wipe_out σ vs n2]; exact z2)
theorem tLc_of {mi : M (List D)} {g : D → M Unit} {mt : M Bool} {me : M Rs} {vs : List Nat} {W : WX} {σ : L2.St} {H : Hp} {Q : VK}
    (h : gOf X.K X.mg W (relE X.K X.mg) (mComp vs mi g mt me) σ H Q) :
    tLc (iOf X.K X.mg W mi) (gOfT X.K X.mg vs g) (gOf X.K X.mg (fun _ _ _ _ => False) relB mt) (gOf X.K X.mg (fun _ _ _ _ => False) (relE X.K X.mg) me) vs σ H Q := by
  obtain ⟨G, io, F, β, I, h⟩ := h
  refine ⟨G, io, F, β, I, h.bnd fun ds β1 J H1 F1 fe1 I1 r1 h1 => ?_⟩
  intro Da hD
  unfold compV at h1
  split at h1
  case isFalse => exact h1.elim
  rename_i hno
  have gD : G Da = none := I1.sg.free hD
  have nio : Da ∉ io := fun z => by
    obtain ⟨u, hu⟩ := I1.ioH Da z
    rw [hu] at hD
    cases hD
  obtain ⟨fin, hfin, hok⟩ : ∃ fin : R (List D) → Prop, fin (compL g mt me vs ds [] (wipeB β1 vs)) ∧ ∀ r, fin r → ∃ acc β', r = .ok acc β' ∧ ∀ v H' F', FE G io F F' → BI X.K X.mg G F' io (backB β1 β' vs) σ H' → RR X.K X.mg G F' io H' (backB β1 β' vs) σ v (.own (.nd .lst acc)) → Q v H' := by
    refine ⟨fun r => ∃ acc β', r = .ok acc β' ∧ ∀ v H' F', FE G io F F' → BI X.K X.mg G F' io (backB β1 β' vs) σ H' → RR X.K X.mg G F' io H' (backB β1 β' vs) σ v (.own (.nd .lst acc)) → Q v H', ?_, fun r h => h⟩
    split at h1
    · rename_i acc β' e
      exact ⟨acc, β', e, h1⟩
    · exact h1.elim
  have st0 : Mid X.K X.mg G F1 io σ vs Da F1 (wipeB β1 vs) [] [] (upd H1 Da (.lst [])) :=
    ⟨.refl, Same.free I1.sf hD, upd_same, .nil, (I1.wipe vs rfl rfl).guard0 hD⟩
  refine ⟨fun i m H => i ≤ ds.length ∧ m = ds.length - i ∧ ∃ F' β' acc us, Mid X.K X.mg G F1 io σ vs Da F' β' acc us H ∧ fin (compL g mt me vs (ds.drop i) acc β'), ⟨ds.length, Nat.zero_le _, rfl, F1, _, [], [], st0, hfin⟩, ?_⟩
  rintro i m H2 ⟨hi, rfl, F2, β2, acc, us, M2, h2⟩
  by_cases hlt : i < ds.length
  · have ed : ds[i]? = some ds[i] := List.getElem?_eq_getElem hlt
    have edr : ds.drop i = ds[i] :: ds.drop (i + 1) := (List.getElem_cons_drop hlt).symm
    obtain ⟨go, yld⟩ := (r1 i H2 (M2.fe.same.trans M2.I.sf)).1 _ ed
    rw [edr] at h2
    obtain ⟨acc9, β9, e9, k9⟩ := hok _ h2
    simp only [compL] at h2 e9
    refine .inr ⟨go, fun H' => ∃ F' β' acc us, Mid X.K X.mg G F1 io σ vs Da F' β' acc us H' ∧ fin (compL g mt me vs (ds.drop (i + 1)) acc β'), fun H' ⟨F', β', acc, us, M', h'⟩ => ⟨ds.length - (i + 1), by omega, hlt, rfl, F', β', acc, us, M', h'⟩, fun x H3 hy => ?_⟩
    obtain ⟨F3, fe3, I3, r3⟩ := M2.I.step (yld F2 M2.fe.same M2.I.sf x H3 hy)
    refine ⟨G.upd Da (.lst us), io, F3, β2, ds[i], I3, r3, ?_⟩
    cases e1 : g ds[i] β2 with
    | stuck => rw [e1] at e9; cases e9
    | exc x β => rw [e1] at e9; cases e9
    | ok u β4 =>
      rw [e1] at h2 e9
      simp only at h2 e9 ⊢
      intro σ4 H4 F4 bu fe4 I4
      have ew : wipe σ4 vs = wipe σ vs := bu.wipe.trans (wipe_wipe σ vs)
      have hl4 : σ.length = σ4.length := by rw [bu.1, wipe_length]
      refine ⟨ew, G.upd Da (.lst us), io, F4, β4, I4, ?_⟩
      cases e2 : mt β4 with
      | stuck => rw [e2] at e9; cases e9
      | exc x β => rw [e2] at e9; cases e9
      | ok b β5 =>
        rw [e2] at h2 e9
        intro v H5 F5 fe5 I5 rv
        cases (show v = b from rv)
        have fe25 := (fe3.trans fe4).trans fe5
        cases b with
        | false =>
          simp only at h2 e9
          rw [if_neg Bool.false_ne_true]
          have r5 := M2.r.mono fe25.same
          refine ⟨F5, _, acc, us, ⟨M2.fe.trans (fe25.unguard gD), fe25.keepN gD M2.fD, I5.sg.g _ _ upd_same, r5, I5.wipe vs ew hl4⟩, h2⟩
        | true =>
          simp only at h2 e9
          rw [if_pos rfl]
          refine ⟨G.upd Da (.lst us), io, F5, β5, I5, ?_⟩
          cases e3 : me β5 with
          | stuck => rw [e3] at e9; cases e9
          | exc x β => rw [e3] at e9; cases e9
          | ok r β6 =>
            rw [e3] at h2 e9
            simp only at h2 e9
            intro y H6 F6 fe6 I6 rr
            obtain ⟨F7, fe7, I7, dr⟩ := I6.freezeR rr
            have fe27 := (fe25.trans fe6).trans fe7
            have r7 := M2.r.mono fe27.same
            by_cases hz : acc.length < sizeLine
            · rw [if_pos hz] at h2
              refine ⟨us, I7.sg.g _ _ upd_same, by rw [M2.r.length]; exact hz, F7, _, acc ++ [r.d], us ++ [y], ⟨M2.fe.trans (fe27.unguard gD), fe27.keepN gD M2.fD, upd_same, r7.append (.cons dr .nil), ?_⟩, h2⟩
              have J := (I7.wipe vs ew hl4).guard (o := .lst (us ++ [y])) upd_same (fe27.keepN gD M2.fD) nio
              rw [GT.upd_upd] at J
              exact J
            · rw [if_neg hz] at e9
              cases e9
  · have e : i = ds.length := by omega
    subst e
    rw [List.drop_length] at h2
    obtain ⟨acc9, β9, e9, k9⟩ := hok _ h2
    cases e9
    have Ib := (M2.I.unguard gD).back I1 M2.fe.same hno
    refine .inl ⟨(r1 _ H2 (M2.fe.same.trans M2.I.sf)).2 (Nat.le_refl _), k9 _ _ F2 (fe1.trans M2.fe) Ib ⟨Da, rfl, M2.fD, gD, nio, .lst M2.at_ M2.r, fun j s es hs z => ?_⟩⟩
    have hl : β1.length = β2.length := by rw [I1.len, M2.I.len, wipe_length]
    have hj : j ∉ vs := fun hj => by
      have e1 := backB_in β1 β2 hl vs s hj es
      have := List.all_eq_true.mp hno j hj
      rw [e1] at this
      cases s with
      | ex z0 => cases hs
      | gh _ => cases hs
      | own _ _ => cases this
      | un => cases hs
      | fz _ => cases hs
    rw [backB_out β1 β2 vs hj] at es
    obtain ⟨w, ew, hss⟩ := M2.I.sl j s es
    rw [wipe_out σ vs hj, z] at ew
    cases ew
    cases s with
    | ex z0 => cases hs
    | gh _ => cases hs
    | un => cases hs
    | fz _ => cases hs
    | own b d =>
      obtain ⟨a, q, _, g', _⟩ := hss
      cases q
      exact absurd g' (GT.upd_self gD)
theorem be_comp {elt tg iter : Expr} {ifs : List Expr} {scope : Scope} {own : List (Str × Nat)} {pos : Pos} {mi : M (List D)} {g : D → M Unit} {mt : M Bool} {me : M Rs} {vs : List Nat} (hc : X.calm = true) (hN : X.N.Nodup) (hi : BIt X tg iter mi) (hvs : own.map (·.2) = vs)
    (ok : BlkOk X.N X.env.scope scope own)
    (hg : ∀ (s : Shared) (H : Hp) (C : Addr) (cl : List (Str × Addr)) (fp : List Addr), BG (X.blk s H scope (PySem.compEnvC scope cl C X.env) fp) vs tg g) (ht : ∀ (s : Shared) (H : Hp) (C : Addr) (cl : List (Str × Addr)) (fp : List Addr), BTs (X.blk s H scope (PySem.compEnvC scope cl C X.env) fp) ifs mt)
    (he : ∀ (s : Shared) (H : Hp) (C : Addr) (cl : List (Str × Addr)) (fp : List Addr), BE (X.blk s H scope (PySem.compEnvC scope cl C X.env) fp) elt me) (hs : ∀ x, foldedSetIterable iter X.env x = pure x := by intro _; rfl) :
    BE X (.ListComp elt [⟨tg, iter, ifs, 0⟩] scope pos) (mComp vs mi g mt me) := by
  subst hvs
  refine fun W tk => (pe_lc (g := gOfT X.K X.mg (own.map fun (q : Str × Nat) => q.2) g) (tt := gOf X.K X.mg (fun _ _ _ _ => False) relB mt) (te := gOf X.K X.mg (fun _ _ _ _ => False) (relE X.K X.mg) me) hc hN (hi W tk) ok hg (fun s H C cl fp => ht s H C cl fp _ takes0) (fun s H C cl fp => he s H C cl fp _ takes0) hs).imp fun σ H Q h => tLc_of h
theorem bs_setComp {i : Nat} {y : Str} {py : Pos} {elt tg iter : Expr} {ifs : List Expr} {scope : Scope} {own : List (Str × Nat)} {pos spos : Pos} {mi : M (List D)} {g : D → M Unit} {mt : M Bool} {me : M Rs} {vs : List Nat} (hc : X.calm = true) (hN : X.N.Nodup) (hy : X.N[i]? = some y)
    (hyl : X.env.scope.names.lookup y = some .local) (hsw : swapsWith (.ListComp elt [⟨tg, iter, ifs, 0⟩] scope pos) (some (.Name y py)) spos.line X.env = pure true) (hi : BIt X tg iter mi) (hvs : own.map (·.2) = vs) (ok : BlkOk X.N X.env.scope scope own)
    (hg : ∀ (s : Shared) (H : Hp) (C : Addr) (cl : List (Str × Addr)) (fp : List Addr), BG (X.blk s H scope (PySem.compEnvC scope cl C X.env) fp) vs tg g) (ht : ∀ (s : Shared) (H : Hp) (C : Addr) (cl : List (Str × Addr)) (fp : List Addr), BTs (X.blk s H scope (PySem.compEnvC scope cl C X.env) fp) ifs mt)
    (he : ∀ (s : Shared) (H : Hp) (C : Addr) (cl : List (Str × Addr)) (fp : List Addr), BE (X.blk s H scope (PySem.compEnvC scope cl C X.env) fp) elt me) (hs : ∀ x, foldedSetIterable iter X.env x = pure x := by intro _; rfl) :
    BS X (.Assign [.Name y py] (.ListComp elt [⟨tg, iter, ifs, 0⟩] scope pos) spos) (mSet i (mComp vs mi g mt me)) := by
  subst hvs
  refine fun W tk => (ps_setLc (g := gOfT X.K X.mg (own.map fun (q : Str × Nat) => q.2) g) (tt := gOf X.K X.mg (fun _ _ _ _ => False) relB mt) (te := gOf X.K X.mg (fun _ _ _ _ => False) (relE X.K X.mg) me) hc hN hy hyl hsw (hi W tk) ok hg (fun s H C cl fp => ht s H C cl fp _ takes0) (fun s H C cl fp => he s H C cl fp _ takes0) hs).imp fun D σ H ⟨G, io, F, β, I, h⟩ => ?_
  exact tLc_of ⟨G, io, F, β, I, h.of fun r β1 v H1 F1 fe1 I1 r1 h1 => h1 _ H1 F1 .refl (I1.set r1 i)⟩
end
end B


set_option Elab.async false
set_option linter.all false
set_option maxRecDepth 100000
set_option maxHeartbeats 4000000
namespace B
open PySem PySem.Spec L2
/-! ## instances -/
def putFD (f : Str) (d : D) : List (Str × D) → List (Str × D)
  | [] => [(f, d)]
  | (g, x) :: r => if g = f then (g, d) :: r else (g, x) :: putFD f d r
/-- the instance of the class named c with these attributes -/
def insD (c : Str) (l : List (Str × D)) : D := .nd (.ins c (l.map (·.1))) (l.map (·.2))
theorem put_rel {K : PySem.W.Frag} {mg : Str → Option Value} {F : Hp} {f : Str} {y : V} {d : D} (h : DR K mg F y d) : ∀ {fs : List (Str × V)} {ds : List D}, DRs K mg F (fs.map (·.2)) ds →
    (putF f y fs).map (·.1) = (putFD f d ((fs.map (·.1)).zip ds)).map (·.1) ∧ DRs K mg F ((putF f y fs).map (·.2)) ((putFD f d ((fs.map (·.1)).zip ds)).map (·.2))
  | [], _, .nil => ⟨rfl, .cons h .nil⟩
  | (g, x) :: fs, _, .cons (ds := ds) a b => by
    obtain ⟨i1, i2⟩ := put_rel h b
    have ez : (List.map (·.1) fs |>.zip ds).map (·.1) = fs.map (·.1) := by
      have e := b.length
      rw [List.length_map] at e
      exact List.map_fst_zip (by rw [List.length_map]; omega)
    have ez2 : (List.map (·.1) fs |>.zip ds).map (·.2) = ds := by
      have e := b.length
      rw [List.length_map] at e
      exact List.map_snd_zip (by rw [List.length_map]; omega)
    simp only [List.map_cons, List.zip_cons_cons, putF, putFD]
    by_cases hg : g = f
    · rw [if_pos hg, if_pos hg]
      refine ⟨by rw [List.map_cons, List.map_cons, ez], ?_⟩
      rw [List.map_cons, List.map_cons, ez2]
      exact .cons h b
    · rw [if_neg hg, if_neg hg]
      refine ⟨by rw [List.map_cons, List.map_cons, i1], ?_⟩
      rw [List.map_cons, List.map_cons]
      exact .cons a i2
section
variable {X : Cx} {i : Nat} {x f : Str} {p pos pos' : Pos} {e : Expr} {me : M Rs}
/-- x.f = e, x a name that holds an instance of one's own (or handed in to be changed) -/
def mSetFld (c f : Str) (i : Nat) (me : M Rs) : M Fl := bnd me fun r => fun β => match β[i]? with
  | some (.own b (.nd (.ins c' ns) ds)) => if c' = c ∧ ns.length < 1000 then .ok .nx (β.set i (.own b (insD c' (putFD f r.d (ns.zip ds))))) else .stuck
  | _ => .stuck
theorem bs_fld (c : Str) (hf : FldOk X c f) (hN : X.N[i]? = some x) (hv : Vis X.env.scope x) (he : BE X e me) (hd : (x == ("__debug__" : Str)) = false := by decide) (hcd : (x == ("__classdict__" : Str)) = false := by decide)
    (hs : swapsWith e (some (.Attribute (.Name x p) f pos')) pos.line X.env = pure false := by rfl) : BS X (.Assign [.Attribute (.Name x p) f pos'] e pos) (mSetFld c f i me) := by
  refine fun W tk => (ps_fld (pe_var hN hv hd hcd) (he W tk) hs).imp fun D σ H ⟨G, io, F, β, I, h⟩ => ⟨G, io, F, β, I, h.of fun r β1 v H1 F1 fe1 I1 r1 h1 => ?_⟩
  obtain ⟨F2, fe2, I2, dr⟩ := I1.freezeR r1
  have h2 := SPost.mono h1 fe2
  split at h2
  · rename_i b c' ns ds e1
    split at h2
    · rename_i hc
      obtain ⟨rfl, hz⟩ := hc
      obtain ⟨a, ea, f0, g0, o⟩ := I2.ownAt e1
      cases o with
      | @ins C dx c fs ds ho hg r =>
        obtain ⟨k1, k2⟩ := hf C hg
        obtain ⟨q1, q2⟩ := put_rel (f := f) dr r
        refine ⟨_, ea, a, C, dx, fs, rfl, ho, k1, k2, by simpa using hz, h2 σ _ F2 .refl (I2.mut e1 ea ?_)⟩
        unfold insD
        rw [← q1]
        exact .ins upd_same hg q2
    · exact h2.elim
  · exact h2.elim
/-! ### C(..) -/
/-- a new instance, its __init__ run, where what is raised is wished for at the caller's slots -/
theorem run_makeS {C f : Addr} {fd : FuncData} {k : Nat} {ps : List Str} {sp : Sp} {E : L2.St → XK} {pins : List (Addr × Obj)} {σ : L2.St} {H : Hp} {s : Shared} {Q : VK} {us : List Value} {vs : List V} (M : Mk X.K C f) (Fn : FnG X.prog X.w X.K X.mg X.base k f fd ps sp)
    (hr : RoomG (k + 1) X.A) (hb : Binds X.K fd ps []) (hx : ∀ σ, PassesAt (L2.CX X.prog X.w) X σ (E σ)) (I : Inv X pins σ H s) (r : Vals vs us)
    (h : ∀ x dx, H x = none → H dx = none → dx ≠ x → sp (.ref x :: vs) (upd (upd H dx (.own x)) x (.ins C dx [])) (fun v H2 => v = .non ∧ Q (.ref x) H2) (E σ)) : wpAny (model X.prog X.w) X.A (call (.ref C) us) (EP X pins σ Q) X.xe s := by
  have big : ∀ n, s.heap.objs.size ≤ n → H n = none := fun n hn => I.hok.fresh hn
  have hq := h _ _ (big (s.heap.objs.size + 1) (Nat.le_succ _)) (big _ (Nat.le_refl _)) (Nat.ne_of_lt (Nat.lt_succ_self _))
  have J := Inv.made (C := C) I
  have rv : Vals (V.ref (s.heap.objs.size + 1) :: vs) (Value.ref (s.heap.objs.size + 1) :: us) := .cons rfl r
  have bd := hb _ (Value.ref (s.heap.objs.size + 1) :: us) J.kIn (by rw [List.append_nil, ← rv.length]; exact Fn.len _ _ _ _ hq)
  rw [List.append_nil] at bd
  refine wpAny_call (make_map (f := f) I.kIn M.makes M.init (beq_iff_eq.mp M.fn) (codeAny_mono (Fn.run (hr.make C us []) (J.env0.make C us []) bd rv hq) fun r s' z => ?_))
  match r, z with
  | .error e, z => exact hx σ pins _ _ e s' J z
  | .ok (.ret u), z =>
    obtain ⟨v, H', J', rv', ev, q3⟩ := J.after z
    subst ev
    exact ⟨rv', V.ref (s.heap.objs.size + 1), H', J', rfl, q3⟩
theorem pe_makeS {C f : Addr} {fd : FuncData} {k : Nat} {ps : List Str} {sp : Sp} {E : L2.St → XK} {es : List Expr} {t : TA} (M : Mk X.K C f) (Fn : FnG X.prog X.w X.K X.mg X.base k f fd ps sp) (hr : RoomG (k + 1) X.A) (hg : Gl X x) (hm : X.mg x = some (.ref C)) (hb : Binds X.K fd ps [])
    (hx : ∀ σ, PassesAt (L2.CX X.prog X.w) X σ (E σ)) (ha : PA X (e :: es) t) (hdb : (x == ("__debug__" : Str)) = false := by decide) (he : starEach (e :: es) X.env = (false, eval e X.env) :: starEach es X.env := by rfl) (hpl : (backTo pos (starEach es X.env)).any (·.1) = false := by rfl) :
    PE X (.Call (.Name x p) (e :: es) [] pos) (fun σ H Q => t σ H fun vs H1 => ∀ x dx, H1 x = none → H1 dx = none → dx ≠ x → sp (.ref x :: vs) (upd (upd H1 dx (.own x)) x (.ins C dx [])) (fun v H2 => v = .non ∧ Q (.ref x) H2) (E σ)) :=
  ⟨fun pins s σ H Q I h => wpAny_Call_Name_kw (ld_glob I hg hm (PySem.W.callWith_K (h₀ := X.base) I.ok.mod.kin M.kp (thn (ha.run pos pins s σ H _ I h) fun us s1 ⟨vs, H1, I1, r, q⟩ => ⟨I1.kIn, run_makeS M Fn hr hb hx I1 r q⟩) he hpl) hdb)⟩
/-- the object that __init__ leaves, let stay -/
def makeF (c : Str) (f : List D → FR) (ps : List Pl) : M Rs := fun β => match allD ps with
  | some ds => (match f (insD c [] :: ds) with
    | .ok (.fz .non) [d] => .ok (.fz d) β
    | .exc x _ => .exc x β
    | _ => .stuck)
  | none => .stuck
def mMake (c : Str) (f : List D → FR) (ma : M (List Pl)) : M Rs := bnd ma (makeF c f)
theorem AR.all {K : PySem.W.Frag} {mg : Str → Option Value} {F H : Hp} : ∀ {vs : List V} {ds : List D}, DRs K mg F vs ds → AR K mg F H (List.replicate ds.length false) [] vs ds
  | _, _, .nil => .nil
  | _, _, .cons a b => .fz a (AR.all b)
theorem be_make {C fa : Addr} {fd : FuncData} {k : Nat} {prm : List Str} {es : List Expr} {ma : M (List Pl)} {g : List D → FR} (n : Nat) (M : Mk X.K C fa) (Fn : FnG X.prog X.w X.K X.mg X.base k fa fd prm (spB X.K X.mg (true :: List.replicate n false) g)) (hr : RoomG (k + 1) X.A) (hm : X.mg x = some (.ref C))
    (hb : Binds X.K fd prm []) (hl : ∀ ps ds, allD ps = some ds → g (insD x [] :: ds) ≠ .stuck → ds.length = n) (ha : BA X (e :: es) ma) (hg : Gl X x := by rfl) (hdb : (x == ("__debug__" : Str)) = false := by decide) (he : starEach (e :: es) X.env = (false, eval e X.env) :: starEach es X.env := by rfl)
    (hpl : (backTo pos (starEach es X.env)).any (·.1) = false := by rfl) : BE X (.Call (.Name x p) (e :: es) [] pos) (mMake x g ma) := by
  refine fun W tk => (pe_makeS M Fn hr hg hm hb (fun σ => passAt tk σ) (ha W tk) hdb he hpl).imp fun σ H Q ⟨G, io, F, β, I, h⟩ => ⟨G, io, F, β, I, h.bnd fun ps β1 vs H1 F1 fe1 I1 r1 h1 => ?_⟩
  intro xa dx hx hdx hne
  unfold makeF at h1
  cases e1 : allD ps with
  | none => rw [e1] at h1; exact h1.elim
  | some ds =>
    rw [e1] at h1
    simp only at h1
    have rr := PRs.all r1 e1
    have fx : F1 xa = none := Same.free I1.sf hx
    have fdx : F1 dx = none := Same.free I1.sf hdx
    have sf : Same F1 (upd (upd H1 dx (.own xa)) xa (.ins C dx [])) := fun b o hb => by
      rw [upd_ne (ne_of_none hb fx), upd_ne (ne_of_none hb fdx)]
      exact I1.sf b o hb
    have hlen : ds.length = n := hl ps ds e1 fun z => by
      rw [z] at h1
      exact h1
    refine ⟨fun _ => none, F1, [xa], insD x [] :: ds, ⟨fun _ _ z => (nomatch z), fun _ _ => rfl⟩, sf, fun a ha => by
      rw [List.mem_singleton.mp ha]
      exact fx, List.nodup_cons.mpr ⟨fun z => (nomatch z), .nil⟩, .io (.ins upd_same hm .nil) (by rw [← hlen]; exact AR.all rr), ?_⟩
    -- what stood stays
    have stay : ∀ {ios : List D} {F' H' : Hp}, After X.K X.mg (fun _ => none) F1 (upd (upd H1 dx (.own xa)) xa (.ins C dx [])) [xa] ios F' H' → Same H1 H' ∧ ∀ a o, F' a = some o → F1 a = some o ∨ H1 a = none := fun {ios F' H'} A => by
      refine ⟨fun b o hb => A.keep b o ?_ (fun z => ?_) rfl, fun a o ha => (A.new a o ha).imp id fun z => ?_⟩
      · rw [upd_ne (ne_of_none hb hx), upd_ne (ne_of_none hb hdx)]
        exact hb
      · rw [List.mem_singleton.mp z, hx] at hb
        cases hb
      · by_cases ea : a = xa
        · rw [ea]
          exact hx
        · by_cases ed : a = dx
          · rw [ed]
            exact hdx
          · rwa [upd_ne ea, upd_ne ed] at z
    split at h1
    · rename_i d e2
      rw [e2]
      intro v H' F' A rv
      cases (show DR X.K X.mg F' v .non from rv)
      refine ⟨rfl, ?_⟩
      obtain ⟨sh, nw⟩ := stay A
      have o : OwnR X.K X.mg F' H' xa d := by
        cases A.ios with
        | cons r _ => exact r
      obtain ⟨u, hu, _⟩ := o.there
      have fxa : F' xa = none := A.ioF xa (List.mem_singleton_self _)
      have sm : Same F' (upd F' xa u) := fun b w hb => by
        rw [upd_ne (ne_of_none hb fxa)]
        exact hb
      have inh : Same (upd F' xa u) H' := fun b w hb => by
        by_cases eb : b = xa
        · subst eb
          rw [upd_same] at hb
          cases hb
          exact hu
        · rw [upd_ne eb] at hb
          exact A.sf b w hb
      obtain ⟨fe2, I2⟩ := I1.grow (F' := upd F' xa u) sh (A.same.trans sm) (fun a w ha => by
        by_cases ea : a = xa
        · rw [ea]
          exact .inr hx
        · rw [upd_ne ea] at ha
          exact nw a w ha) inh
      exact h1 _ H' _ (fe1.trans fe2) I2 (o.dr sm (by rw [upd_same, hu]))
    · rename_i x' ios e2
      rw [e2]
      intro cls d H' F' A xr
      obtain ⟨sh, nw⟩ := stay A
      obtain ⟨fe2, I2⟩ := I1.grow sh A.same nw A.sf
      exact h1 cls d H' _ (fe1.trans fe2) I2 xr
    · exact h1.elim
end
end B


set_option Elab.async false
set_option linter.all false
set_option maxRecDepth 100000
set_option maxHeartbeats 4000000
namespace B
open PySem PySem.Spec L2
/-! ## isinstance, by a built-in type -/
def tyD : D → Option String
  | .non => some "NoneType"
  | .bl _ => some "bool"
  | .int _ => some "int"
  | .str _ => some "str"
  | .nd .tup _ => some "tuple"
  | .nd .lst _ => some "list"
  | .nd .scr _ => some "list"
  | .nd .wtp _ => none
  | .nd .dcg _ => none
  | .nd .dct _ => some "dict"
  | .nd (.ins _ _) _ => none
  | .nd (.xc _ _) _ => none
def isiD (T : String) (d : D) : Option Bool := (tyD d).bind fun t => kitB t T
def gIsi (T : String) (d : D) : Option Rs := (isiD T d).map fun b => .fz (.bl b)
theorem HR.tyx {K : PySem.W.Frag} {mg : Str → Option Value} {F H : Hp} {v : V} {d : D} {t : String} (sf : Same F H) (h : HR K mg F H v d) (e : tyD d = some t) : TyX K H v (.type t) := by
  cases h with
  | non => cases e; exact .base .non
  | bl b => cases e; exact .base (.bl b)
  | int i => cases e; exact .base (.int i)
  | str x => cases e; exact .base (.str x)
  | tup h r =>
    cases e
    exact .base (.tup (sf _ _ h))
  | wtp h r => cases e
  | lst h r => cases e; exact .base (.lst h)
  | scr h r =>
    cases e
    rcases h with (h | ⟨o, h⟩) | ⟨o, its, n, h1, h2, _⟩
    · exact .base (.lst h)
    · exact .base (.frz h)
    · exact .kList h1 h2
  | dK h r q => cases e; exact .base (.dK h)
  | dT h r q => cases e; exact .base (.dT h)
  | dg h k r q => cases e
  | ins h g r => cases e
  | xc h g r => cases e
section
variable {X : Cx} {x y : Str} {p p2 pos : Pos} {a : Expr} {ma : M Pl}
theorem be_isi (T : String) (hg : Gl X "isinstance") (hm : X.mg "isinstance" = none) (hg2 : Gl X y) (hm2 : X.mg y = none) (hy : bootBuiltins y = some (.type T)) (ha : BP X a ma) (hn : y ≠ "__name__" := by decide) (hd : (y == ("__debug__" : Str)) = false := by decide)
    (h1 : starEach [a, .Name y p2] X.env = (false, eval a X.env) :: starEach [.Name y p2] X.env := by rfl) (h2 : starEach [.Name y p2] X.env = [(false, eval (.Name y p2) X.env)] := by rfl) (hpl : (backTo pos (starEach [Expr.Name y p2] X.env)).any (·.1) = false := by rfl) :
    BE X (.Call (.Name "isinstance" p) [a, .Name y p2] [] pos) (mUn (gIsi T) ma) := by
  refine fun W tk => (pe_callB call_isi hg hm PyProof.Rows.boot_isinstance (pa_cons (ha W tk) (pa_cons (pe_bltn (v := .ty T) hg2 hm2 hy rfl hn hd) pa_nil h2) h1) (by decide) (by decide) h1 hpl).imp fun σ H Q ⟨G, io, F, β, I, h⟩ => ⟨G, io, F, β, I, h.bnd fun q β1 v H1 F1 fe1 I1 r1 h1 => ?_⟩
  unfold fin1 at h1
  cases e1 : look β1 q with
  | none => rw [e1] at h1; exact h1.elim
  | some d =>
    rw [e1] at h1
    simp only [Option.bind_some] at h1
    cases e2 : tyD d with
    | none => unfold gIsi isiD at h1; rw [e2] at h1; exact h1.elim
    | some t =>
      cases e3 : kitB t T with
      | none => unfold gIsi isiD at h1; rw [e2] at h1; simp only [Option.bind_some] at h1; rw [e3] at h1; exact h1.elim
      | some b =>
        unfold gIsi isiD at h1
        rw [e2] at h1
        simp only [Option.bind_some] at h1
        rw [e3] at h1
        exact ⟨v, .ty T, _, _, b, rfl, .ty T, (I1.look r1 e1).tyx I1.sf e2, kit_ty e3, h1 _ H1 F1 fe1 I1 (.bl b)⟩
/-! ## len(set(..)) of unlike ints -/
theorem DRs.intsV {K : PySem.W.Frag} {mg : Str → Option Value} {F : Hp} : ∀ {ns : List Int} {vs : List V}, DRs K mg F vs (ns.map D.int) → vs = ns.map V.int
  | [], _, .nil => rfl
  | n :: ns, _, .cons h t => by
    cases h
    rw [DRs.intsV t]
    rfl
/-! ## zip, enumerate -/
def zipD (ds es : List D) : List D := List.zipWith (fun d e => .nd .tup [d, e]) ds es
def zipA (ps : List Pl) : M (List D) := fun β => match allD ps with
  | some [.nd .tup ds, .nd .tup es] => .ok (zipD ds es) β
  | some [.nd .lst ds, .nd .lst es] => .ok (zipD ds es) β
  | some [.nd .scr ds, .nd .lst es] => .ok (zipD ds es) β
  | _ => .stuck
/-! ## repr -/
/-! ## the module's constants -/
theorem be_glI (i : Int) {t : Tok} (hm : X.mg x = some (.int i t)) (hg : Gl X x) (hd : (x == ("__debug__" : Str)) = false := by decide) : BE X (.Name x pos) (mC (.int i)) := fun W tk => (pe_glob (v := .int i) hg hm ⟨t, rfl⟩ hd).imp fun σ H Q ⟨_, _, F, _, I, h⟩ => h _ H F .refl I (.int i)
end
end B


set_option Elab.async false
set_option linter.all false
set_option maxRecDepth 100000
set_option maxHeartbeats 4000000
namespace B
open PySem PySem.Spec L2
/-! ## names for the rules' operations -/
def gSub := gI fun i j => i - j
def gFdiv := gIc cDiv fun i j => i / j
def gMod := gIc (fun _ j => decide (0 < j)) fun i j => i % j
def gPow := gIc cPow fun i j => i ^ j.toNat
def gShl := gIc cPow fun i j => i * 2 ^ j.toNat
def gLt := gC fun i j => decide (i < j)
def gLe := gC fun i j => decide (i ≤ j)
def gGt := gC fun i j => decide (j < i)
def gGe := gC fun i j => decide (j ≤ i)
def gSum := gLI fun ns => some (.int ns.sum)
def gMax2 := gI2 fun i j => if j > i then j else i
def gMin2 := gI2 fun i j => if j < i then j else i
def gAll := gLB fun bs => bs.all id
section
variable {X : Cx} {k : Nat}
theorem od_sub : OpD X (binaryOp .Sub) gSub := opd_sub
theorem od_fdiv : OpD X (binaryOp .FloorDiv) gFdiv := opd_fdiv
theorem od_mod : OpD X (binaryOp .Mod) gMod := opd_mod
theorem od_pow : OpD X (binaryOp .Pow) gPow := opd_pow
theorem od_lt : OpD X (compareOp .Lt) gLt := opd_lt
theorem od_le : OpD X (compareOp .LtE) gLe := opd_le
theorem od_gt : OpD X (compareOp .Gt) gGt := opd_gt
theorem od_ge : OpD X (compareOp .GtE) gGe := opd_ge
theorem RoomG.u64 (r : RoomG k X.A) : X.A.units + 64 < cLine := by have := r.r.un; omega
theorem od_eq (r : RoomG k X.A) : OpD X (compareOp .Eq) gEq := opd_eq r.u64
theorem od_ne (r : RoomG k X.A) : OpD X (compareOp .NotEq) gNe := opd_ne r.u64
end
theorem boot_len : bootBuiltins "len" = some (.builtin "len") := by decide +kernel
theorem boot_isinstance : bootBuiltins "isinstance" = some (.builtin "isinstance") := by decide +kernel
theorem boot_int : bootBuiltins "int" = some (.type "int") := by decide +kernel
theorem boot_bool : bootBuiltins "bool" = some (.type "bool") := by decide +kernel
theorem boot_list : bootBuiltins "list" = some (.type "list") := by decide +kernel
theorem boot_tuple : bootBuiltins "tuple" = some (.type "tuple") := by decide +kernel
theorem boot_set : bootBuiltins "set" = some (.type "set") := by decide +kernel
theorem boot_sorted : bootBuiltins "sorted" = some (.builtin "sorted") := by decide +kernel
theorem boot_min : bootBuiltins "min" = some (.builtin "min") := by decide +kernel
theorem boot_max : bootBuiltins "max" = some (.builtin "max") := by decide +kernel
theorem boot_all : bootBuiltins "all" = some (.builtin "all") := by decide +kernel
/-! ## what the written part says -/
/-- built-in names that stay -/
structure Bl (mg : Str → Option Value) : Prop where
  len : mg "len" = none
  range : mg "range" = none
  isinstance : mg "isinstance" = none
  int : mg "int" = none
  bool : mg "bool" = none
  list : mg "list" = none
  tuple : mg "tuple" = none
  str : mg "str" = none
  dict : mg "dict" = none
  set : mg "set" = none
  sorted : mg "sorted" = none
  repr : mg "repr" = none
  min : mg "min" = none
  max : mg "max" = none
  sum : mg "sum" = none
  all : mg "all" = none
  any : mg "any" = none
  zip : mg "zip" = none
  enumerate : mg "enumerate" = none
  abs : mg "abs" = none
/-- a def of the top, all of its parameters handed in by place -/
structure Lk (K : PySem.W.Frag) (mg : Str → Option Value) (x : Str) (st : Stmt) (ps : List Str) : Prop where
  ex : ∃ f fd, L2.Fun K x x st f fd ∧ mg x = some (.ref f) ∧ Binds K fd ps []
def Ok (P : Program) (w : World) (K : PySem.W.Frag) (mg : Str → Option Value) (base : Heap) (k : Nat) (x : Str) (ps : List Str) (ks : List Bool) (r : List D → FR) : Prop :=
  ∃ f fd, FnG P w K mg base k f fd ps (spB K mg ks r) ∧ mg x = some (.ref f) ∧ PySem.W.keepIn K (.ref f) = true ∧ Binds K fd ps []
section
variable {P : Program} {w : World} {K : PySem.W.Frag} {mg : Str → Option Value} {base : Heap} {k : Nat} {x : Str} {st : Stmt} {N ps : List Str} {m : M Fl}
theorem ok_of (ks : List Bool) (L : Lk K mg x st ps) (S : FnScope N ps (defScope st)) (hk : ks.length = ps.length)
    (hb : ∀ (f : Addr) (cdv : Value) (A : Around) (outer : List PySem.Env) (s : Shared) (H : Hp) (E : XK), RoomG k (A.deeper (PyProof.Rows.envOfC x (defScope st) s.heap.objs.size f cdv)) → BSs (cxOf (L2.CX P w) P w K mg base N x (defScope st) f cdv A outer s H E) (defBody st) m) :
    Ok P w K mg base (k + 1) x ps ks (runB ks N.length m) := by
  obtain ⟨f, fd, F, hm, hbd⟩ := L.ex
  exact ⟨f, fd, fnB ks F S hk fun cdv A outer s H E hr => hb f cdv A outer s H E hr, hm, F.kp, hbd⟩
end
section
variable {X : Cx} {k j : Nat} {x : Str} {prm : List Str} {ks : List Bool} {f : List D → FR} {p pos : Pos} {e : Expr} {es : List Expr} {ma : M (List Pl)}
theorem be_c (O : Ok X.prog X.w X.K X.mg X.base j x prm ks f) (hr : RoomG k X.A) (hjk : j ≤ k) (ha : BA X (e :: es) ma) (hg : Gl X x := by rfl) (hdb : (x == ("__debug__" : Str)) = false := by decide)
    (he : starEach (e :: es) X.env = (false, eval e X.env) :: starEach es X.env := by rfl) (hpl : (backTo pos (starEach es X.env)).any (·.1) = false := by rfl) : BE X (.Call (.Name x p) (e :: es) [] pos) (mCallF ks f ma) := by
  obtain ⟨fa, fd, F, hm, hk, hb⟩ := O
  exact be_call F (hr.mono hjk) hm hk hb ha hg hdb he hpl
end
/-! ## defs with keyword-only parameters -/
/-- the items at these places -/
def pick {α : Type} (ix : List Nat) (l : List α) : List α := ix.filterMap fun i => l[i]?
theorem pick_rel {α β : Type} {R : α → β → Prop} {l : List α} {k : List β} (h : ∀ i : Nat, (l[i]? = none ∧ k[i]? = none) ∨ ∃ a b, l[i]? = some a ∧ k[i]? = some b ∧ R a b) (C : List α → List β → Prop) (nil : C [] []) (cons : ∀ a b x y, R a b → C x y → C (a :: x) (b :: y)) : ∀ ix : List Nat, C (pick ix l) (pick ix k)
  | [] => nil
  | i :: ix => by
    have ih := pick_rel h C nil cons ix
    unfold pick at ih ⊢
    rcases h i with ⟨e1, e2⟩ | ⟨a, b, e1, e2, r⟩
    · rw [List.filterMap_cons_none e1, List.filterMap_cons_none e2]
      exact ih
    · rw [List.filterMap_cons_some e1, List.filterMap_cons_some e2]
      exact cons _ _ _ _ r ih
theorem PRs.at {K : PySem.W.Frag} {mg : Str → Option Value} {F : Hp} {σ : L2.St} : ∀ {vs : List V} {ps : List Pl} (_ : PRs K mg F σ vs ps) (i : Nat), (vs[i]? = none ∧ ps[i]? = none) ∨ ∃ a b, vs[i]? = some a ∧ ps[i]? = some b ∧ PR K mg F σ a b
  | _, _, .nil, i => .inl ⟨by simp, by simp⟩
  | _, _, .cons a b, 0 => .inr ⟨_, _, rfl, rfl, a⟩
  | _, _, .cons a b, i + 1 => by simpa using PRs.at b i
theorem PRs.pick {K : PySem.W.Frag} {mg : Str → Option Value} {F : Hp} {σ : L2.St} {vs : List V} {ps : List Pl} (r : PRs K mg F σ vs ps) (ix : List Nat) : PRs K mg F σ (B.pick ix vs) (B.pick ix ps) := pick_rel (R := PR K mg F σ) r.at (fun a b => PRs K mg F σ a b) .nil (fun _ _ _ _ a b => .cons a b) ix
def kp (ix : List Nat) (us ws : List Pl) : List Pl := pick ix (us ++ ws)
abbrev Pat := Nat × List Str × List Nat
def Pats (K : PySem.W.Frag) (mg : Str → Option Value) (fd : FuncData) (ps : List Str) (pats : List Pat) : Prop := ∀ q ∈ pats, KwOk K mg fd ps q.1 q.2.1 (kp q.2.2)
def Dfl (K : PySem.W.Frag) (mg : Str → Option Value) (fd : FuncData) (ps : List Str) (dd : List D) : Prop := ∃ dvs dv, Binds K fd ps dv ∧ Vals dvs dv ∧ DDs K mg dvs dd
structure LkD (K : PySem.W.Frag) (mg : Str → Option Value) (x : Str) (st : Stmt) (ps : List Str) (dd : List D) (pats : List Pat) : Prop where
  ex : ∃ f fd, L2.Fun K x x st f fd ∧ mg x = some (.ref f) ∧ Dfl K mg fd ps dd ∧ Pats K mg fd ps pats
section
variable {P : Program} {w : World} {K : PySem.W.Frag} {mg : Str → Option Value} {base : Heap} {k : Nat} {x : Str} {st : Stmt} {N ps : List Str} {m : M Fl} {dd : List D} {pats : List Pat}
end
section
variable {X : Cx} {k j : Nat} {x : Str} {prm : List Str} {ks : List Bool} {f : List D → FR} {p pos : Pos} {e : Expr} {es : List Expr} {ma mk : M (List Pl)} {dd : List D} {pats : List Pat}
end
/-! ## the script -/
theorem sp_law {K : PySem.W.Frag} {mg : Str → Option Value} {r : List D → FR} {a : Addr} {ns : List Int} {H : Hp} (hS : SqL K H a (ns.map V.int)) (h : r [.nd .scr (ns.map D.int)] = .ok (.fz (.bl true)) []) : spB K mg [false] r [.ref a] H (fun v _ => v = .bl true) fun _ _ _ => False := by
  refine ⟨fun _ => none, H, [], _, ⟨fun _ _ z => (nomatch z), fun _ _ => rfl⟩, Same.refl _, fun _ z => (nomatch z), .nil, .fz (.scr hS (DRs.ints ns)) .nil, ?_⟩
  rw [h]
  intro v H' F' _ r
  cases (show DR K mg F' v (.bl true) from r)
  rfl
end B


set_option Elab.async false
set_option linter.all false
set_option maxRecDepth 100000
set_option maxHeartbeats 4000000
namespace B
open PySem PySem.Spec L2
/-! ## a name that isn't read again: its object as one's own -/
def mMv (i : Nat) : M Rs := fun β => match β[i]? with
  | some (.fz d) => .ok (.fz d) β
  | some (.own none d) => .ok (.own d) (β.set i .un)
  | _ => .stuck
theorem be_mv {X : Cx} {i : Nat} {x : Str} {pos : Pos} (hN : X.N[i]? = some x := by rfl) (hv : Vis X.env.scope x := by first | exact Or.inl rfl | exact Or.inr (Or.inl rfl) | exact Or.inr (Or.inr rfl)) (hd : (x == ("__debug__" : Str)) = false := by decide)
    (hcd : (x == ("__classdict__" : Str)) = false := by decide) : BE X (.Name x pos) (mMv i) := by
  refine fun W tk => (pe_var hN hv hd hcd).imp fun σ H Q h => ?_
  obtain ⟨G, io, F, β, I, h⟩ := h
  unfold mMv at h
  cases e : β[i]? with
  | none => rw [e] at h; exact h.elim
  | some s =>
    rw [e] at h
    cases s with
    | ex z0 => exact h.elim
    | gh _ => exact h.elim
    | un => exact h.elim
    | fz d =>
      obtain ⟨o, eo, v, rfl, r⟩ := I.sl i _ e
      exact ⟨v, eo, h v H F .refl I r⟩
    | own bo d =>
      cases bo with
      | some k => exact h.elim
      | none =>
        obtain ⟨v, eo, rr⟩ := I.take e
        exact ⟨v, eo, h v H F .refl (I.unset i) rr⟩
end B


set_option Elab.async false
set_option linter.all false
set_option maxRecDepth 100000
set_option maxHeartbeats 4000000
namespace B
open PySem PySem.Spec L2
/-! # what a run comes to: by what is wished for behind it -/
@[irreducible] def W {α : Type} (m : M α) (β : B.Env) (Q : α → B.Env → Prop) (E : Exn → B.Env → Prop) : Prop := match m β with
  | .ok a β' => Q a β'
  | .exc x β' => E x β'
  | .stuck => False
def optW {α : Type} (o : Option α) (Q : α → Prop) : Prop := match o with
  | some a => Q a
  | none => False
@[irreducible] def FW (x : FR) (Q : Rs → List D → Prop) (E : Exn → List D → Prop) : Prop := match x with
  | .ok r ios => Q r ios
  | .exc x ios => E x ios
  | .stuck => False
section
variable {α α' : Type} {m : M α} {β : B.Env} {Q : α → B.Env → Prop} {E : Exn → B.Env → Prop}
theorem W.mono {Q' : α → B.Env → Prop} {E' : Exn → B.Env → Prop} (h : W m β Q E) (hQ : ∀ a β, Q a β → Q' a β) (hE : ∀ x β, E x β → E' x β) : W m β Q' E' := by
  unfold W at h ⊢
  split at h
  · exact hQ _ _ h
  · exact hE _ _ h
  · exact h
theorem W.of_eq {a : α} {β' : B.Env} (e : m β = .ok a β') (h : Q a β') : W m β Q E := by
  unfold W
  rw [e]
  exact h
theorem W.eq (h : W m β Q E) (hE : ∀ x β, ¬ E x β) : ∃ a β', m β = .ok a β' ∧ Q a β' := by
  unfold W at h
  split at h
  · exact ⟨_, _, by assumption, h⟩
  · exact (hE _ _ h).elim
  · exact h.elim
theorem FW.mono {x : FR} {Q Q' : Rs → List D → Prop} {E E' : Exn → List D → Prop} (h : FW x Q E) (hQ : ∀ a b, Q a b → Q' a b) (hE : ∀ a b, E a b → E' a b) : FW x Q' E' := by
  unfold FW at h ⊢
  split at h
  · exact hQ _ _ h
  · exact hE _ _ h
  · exact h
theorem FW.of_eq {x : FR} {Q : Rs → List D → Prop} {E : Exn → List D → Prop} {r : Rs} {ios : List D} (e : x = .ok r ios) (h : Q r ios) : FW x Q E := by
  rw [e]
  with_unfolding_all exact h
theorem W_congr {Q' : α → B.Env → Prop} (h : ∀ a β1, Q a β1 ↔ Q' a β1) : W m β Q E ↔ W m β Q' E := by
  have e : Q = Q' := by
    funext a β1
    exact propext (h a β1)
  rw [e]
@[simp ↓] theorem optW_some {a : α} {P : α → Prop} : optW (some a) P ↔ P a := Iff.rfl
@[simp ↓] theorem optW_none {P : α → Prop} : optW none P ↔ False := Iff.rfl
theorem optW_ite {c : Prop} [Decidable c] {a : α} {P : α → Prop} : optW (if c then some a else none) P ↔ c ∧ P a := by
  by_cases h : c <;> simp [h, optW]
theorem optW_map {f : α → α'} {o : Option α} {P : α' → Prop} : optW (o.map f) P ↔ optW o fun a => P (f a) := by cases o <;> with_unfolding_all rfl
theorem optW_bind {f : α → Option α'} {o : Option α} {P : α' → Prop} : optW (o.bind f) P ↔ optW o fun a => optW (f a) P := by cases o <;> with_unfolding_all rfl
@[simp ↓] theorem W_ret {a : α} : W (B.ret a) β Q E ↔ Q a β := by with_unfolding_all exact Iff.rfl
@[simp ↓] theorem W_stk : W (stk : M α) β Q E ↔ False := by with_unfolding_all exact Iff.rfl
@[simp ↓] theorem W_bnd {f : α → M α'} {Q : α' → B.Env → Prop} : W (bnd m f) β Q E ↔ W m β (fun a β1 => W (f a) β1 Q E) E := by
  unfold W bnd R.bnd
  cases m β <;> with_unfolding_all rfl
def nxW (f : Fl) (P P' : Prop) : Prop := match f with
  | .nx => P
  | _ => P'
@[simp ↓] theorem nxW_nx {P P' : Prop} : nxW .nx P P' ↔ P := Iff.rfl
@[simp ↓] theorem nxW_ret {r : Rs} {P P' : Prop} : nxW (.ret r) P P' ↔ P' := Iff.rfl
@[simp ↓] theorem nxW_brk {P P' : Prop} : nxW .brk P P' ↔ P' := Iff.rfl
@[simp ↓] theorem nxW_ct {P P' : Prop} : nxW .ct P P' ↔ P' := Iff.rfl
@[simp ↓] theorem W_seqF {m n : M Fl} {Q : Fl → B.Env → Prop} : W (seqF m n) β Q E ↔ W m β (fun f β1 => nxW f (W n β1 Q E) (Q f β1)) E := by
  unfold seqF
  exact W_bnd.trans (W_congr fun a β1 => by cases a <;> with_unfolding_all rfl)
@[simp ↓] theorem W_ifS {mt : M Bool} {a b : M Fl} {Q : Fl → B.Env → Prop} : W (mIfS mt a b) β Q E ↔ W mt β (fun k β1 => if k = true then W a β1 Q E else W b β1 Q E) E := by
  unfold mIfS
  refine W_bnd.trans (W_congr fun k β1 => ?_)
  cases k <;> with_unfolding_all rfl
@[simp ↓] theorem W_mIf {mt : M Bool} {a b : M Rs} {Q : Rs → B.Env → Prop} : W (mIf mt a b) β Q E ↔ W mt β (fun k β1 => if k = true then W a β1 Q E else W b β1 Q E) E := by
  unfold mIf
  refine W_bnd.trans (W_congr fun k β1 => ?_)
  cases k <;> with_unfolding_all rfl
def bW (r : Rs) (P : Bool → Prop) : Prop := match r with
  | .fz (.bl b) => P b
  | _ => False
@[simp ↓] theorem bW_bl {b : Bool} {P : Bool → Prop} : bW (.fz (.bl b)) P ↔ P b := Iff.rfl
@[simp ↓] theorem W_asB {me : M Rs} {Q : Bool → B.Env → Prop} : W (asB me) β Q E ↔ W me β (fun r β1 => bW r fun b => Q b β1) E := by
  unfold asB
  refine W_bnd.trans (W_congr fun r β1 => ?_)
  rcases r with d | d
  · cases d <;> with_unfolding_all rfl
  · with_unfolding_all rfl
@[simp ↓] theorem W_mTru {me : M Pl} {Q : Bool → B.Env → Prop} : W (mTru me) β Q E ↔ W me β (fun p β1 => optW (look β1 p) fun d => optW (truD d) fun b => Q b β1) E := by
  unfold mTru
  refine W_bnd.trans (W_congr fun p β1 => ?_)
  unfold W finT optW
  cases look β1 p with
  | none => with_unfolding_all rfl
  | some d => simp only [Option.bind_some]; cases truD d <;> with_unfolding_all rfl
@[simp ↓] theorem W_mAnd {m n : M Bool} {Q : Bool → B.Env → Prop} : W (mAnd m n) β Q E ↔ W m β (fun k β1 => if k = true then W n β1 Q E else Q false β1) E := by
  unfold mAnd
  refine W_bnd.trans (W_congr fun k β1 => ?_)
  cases k <;> with_unfolding_all rfl
@[simp ↓] theorem W_mOr {m n : M Bool} {Q : Bool → B.Env → Prop} : W (mOr m n) β Q E ↔ W m β (fun k β1 => if k = true then Q true β1 else W n β1 Q E) E := by
  unfold mOr
  refine W_bnd.trans (W_congr fun k β1 => ?_)
  cases k <;> with_unfolding_all rfl
@[simp ↓] theorem W_mNot {m : M Bool} {Q : Bool → B.Env → Prop} : W (mNot m) β Q E ↔ W m β (fun k β1 => Q (!k) β1) E := by
  unfold mNot
  rw [W_bnd]
  with_unfolding_all exact Iff.rfl
@[simp ↓] theorem W_mAndV {m n : M Rs} {Q : Rs → B.Env → Prop} : W (mAndV m n) β Q E ↔ W m β (fun r β1 => bW r fun k => if k = true then W n β1 Q E else Q (.fz (.bl false)) β1) E := by
  unfold mAndV
  refine W_bnd.trans (W_asB.trans (W_congr fun r β1 => ?_))
  rcases r with d | d
  · cases d with
    | bl k => cases k <;> with_unfolding_all rfl
    | _ => with_unfolding_all rfl
  · with_unfolding_all rfl
@[simp ↓] theorem W_mOrV {m n : M Rs} {Q : Rs → B.Env → Prop} : W (mOrV m n) β Q E ↔ W m β (fun r β1 => bW r fun k => if k = true then Q (.fz (.bl true)) β1 else W n β1 Q E) E := by
  unfold mOrV
  refine W_bnd.trans (W_asB.trans (W_congr fun r β1 => ?_))
  rcases r with d | d
  · cases d with
    | bl k => cases k <;> with_unfolding_all rfl
    | _ => with_unfolding_all rfl
  · with_unfolding_all rfl
@[simp ↓] theorem W_mNotV {m : M Rs} {Q : Rs → B.Env → Prop} : W (mNotV m) β Q E ↔ W m β (fun r β1 => bW r fun k => Q (.fz (.bl (!k))) β1) E := by
  unfold mNotV
  rw [W_bnd, W_asB]
  with_unfolding_all exact Iff.rfl
/-! names -/
def varW (s : Option Sl) (P : D → Prop) (P' : D → Prop) : Prop := match s with
  | some (.fz d) => P d
  | some (.own none d) => P' d
  | _ => False
@[simp ↓] theorem varW_fz {d : D} {P P' : D → Prop} : varW (some (.fz d)) P P' ↔ P d := Iff.rfl
@[simp ↓] theorem varW_own {d : D} {P P' : D → Prop} : varW (some (.own none d)) P P' ↔ P' d := Iff.rfl
@[simp ↓] theorem W_mVar {i : Nat} {Q : Rs → B.Env → Prop} : W (mVar i) β Q E ↔ varW β[i]? (fun d => Q (.fz d) β) (fun d => Q (.fz d) (β.set i (.fz d))) := by
  unfold W mVar varW
  rcases β[i]? with _ | _ | _ | _ | ⟨_ | _, _⟩ <;> with_unfolding_all rfl
@[simp ↓] theorem W_mMv {i : Nat} {Q : Rs → B.Env → Prop} : W (mMv i) β Q E ↔ varW β[i]? (fun d => Q (.fz d) β) (fun d => Q (.own d) (β.set i .un)) := by
  unfold W mMv varW
  rcases β[i]? with _ | _ | _ | _ | ⟨_ | _, _⟩ <;> with_unfolding_all rfl
@[simp ↓] theorem W_mRetVar {i : Nat} {Q : Fl → B.Env → Prop} : W (mRetVar i) β Q E ↔ varW β[i]? (fun d => Q (.ret (.fz d)) β) (fun d => Q (.ret (.own d)) (β.set i .un)) := by
  unfold W mRetVar varW
  rcases β[i]? with _ | _ | _ | _ | ⟨_ | _, _⟩ <;> with_unfolding_all rfl
def isSet : Option Sl → Prop
  | some (.fz _) => True
  | some (.own _ _) => True
  | _ => False
@[simp] theorem isSet_fz {d : D} : isSet (some (.fz d)) ↔ True := Iff.rfl
@[simp] theorem isSet_own {k : Option Nat} {d : D} : isSet (some (.own k d)) ↔ True := Iff.rfl
@[simp ↓] theorem W_mPl {i : Nat} {Q : Pl → B.Env → Prop} : W (mPl i) β Q E ↔ isSet β[i]? ∧ Q (.sl i) β := by
  unfold W mPl isSet
  rcases β[i]? with _ | _ | _ | _ | ⟨_, _⟩ <;> simp
@[simp ↓] theorem W_mC {d : D} {Q : Rs → B.Env → Prop} : W (mC d) β Q E ↔ Q (.fz d) β := by with_unfolding_all exact Iff.rfl
@[simp ↓] theorem W_mP {me : M Rs} {Q : Pl → B.Env → Prop} : W (mP me) β Q E ↔ W me β (fun r β1 => Q (.d r.d) β1) E := by
  unfold mP
  rw [W_bnd]
  with_unfolding_all exact Iff.rfl
@[simp] theorem Rs_d_fz {d : D} : (Rs.fz d).d = d := rfl
@[simp] theorem Rs_d_own {d : D} : (Rs.own d).d = d := rfl
@[simp] theorem look_d {d : D} : look β (.d d) = some d := rfl
def slD : Option Sl → Option D
  | some (.fz d) => some d
  | some (.own _ d) => some d
  | _ => none
@[simp] theorem slD_fz {d : D} : slD (some (.fz d)) = some d := rfl
@[simp] theorem slD_own {k : Option Nat} {d : D} : slD (some (.own k d)) = some d := rfl
@[simp] theorem look_sl {i : Nat} : look β (.sl i) = slD β[i]? := by
  show (match β[i]? with
    | some (.fz d) => some d
    | some (.own _ d) => some d
    | _ => none) = _
  generalize β[i]? = s
  rcases s with _ | _ | _ | _ | ⟨_, _⟩ <;> with_unfolding_all rfl
/-! operations -/
@[simp ↓] theorem W_fin2 {g : D → D → Option Rs} {p q : Pl} {Q : Rs → B.Env → Prop} : W (fin2 g p q) β Q E ↔ optW (look β p) fun d => optW (look β q) fun e => optW (g d e) fun r => Q r β := by
  unfold W fin2 optW
  cases look β p with
  | none => with_unfolding_all rfl
  | some d => cases look β q with
    | none => with_unfolding_all rfl
    | some e => simp only; cases g d e <;> with_unfolding_all rfl
@[simp ↓] theorem W_mOp {g : D → D → Option Rs} {ma mb : M Pl} {Q : Rs → B.Env → Prop} : W (mOp g ma mb) β Q E ↔ W ma β (fun p β1 => W mb β1 (fun q β2 => optW (look β2 p) fun d => optW (look β2 q) fun e => optW (g d e) fun r => Q r β2) E) E :=
  W_bnd.trans (W_congr fun p β1 => W_bnd.trans (W_congr fun q β2 => W_fin2))
@[simp ↓] theorem W_fin1 {g : D → Option Rs} {p : Pl} {Q : Rs → B.Env → Prop} : W (fin1 g p) β Q E ↔ optW (look β p) fun d => optW (g d) fun r => Q r β := by
  unfold W fin1 optW
  cases look β p with
  | none => with_unfolding_all rfl
  | some d => simp only [Option.bind_some]; cases g d <;> with_unfolding_all rfl
@[simp ↓] theorem W_mUn {g : D → Option Rs} {ma : M Pl} {Q : Rs → B.Env → Prop} : W (mUn g ma) β Q E ↔ W ma β (fun p β1 => W (fin1 g p) β1 Q E) E := by
  unfold mUn
  rw [W_bnd]
@[simp ↓] theorem W_mChain {g g' : D → D → Option Rs} {ma mb mc : M Pl} {Q : Rs → B.Env → Prop} : W (mChain g g' ma mb mc) β Q E ↔ W ma β (fun p β1 => W mb β1 (fun q β2 => W (fin2 g p q) β2 (fun r β3 => bW r fun k => if k = true then W mc β3 (fun r β4 => W (fin2 g' q r) β4 Q E) E else Q (.fz (.bl false)) β3) E) E) E := by
  unfold mChain
  refine W_bnd.trans (W_congr fun p β1 => ?_)
  refine W_bnd.trans (W_congr fun q β2 => ?_)
  refine W_bnd.trans (W_asB.trans (W_congr fun r β3 => ?_))
  rcases r with d | d
  · cases d with
    | bl k =>
      cases k
      · with_unfolding_all rfl
      · exact W_bnd
    | _ => with_unfolding_all rfl
  · with_unfolding_all rfl
@[simp ↓] theorem W_mCall {g : List D → Option Rs} {ma : M (List Pl)} {Q : Rs → B.Env → Prop} : W (mCall g ma) β Q E ↔ W ma β (fun ps β1 => optW (looks β1 ps) fun ds => optW (g ds) fun r => Q r β1) E := by
  unfold mCall
  refine W_bnd.trans (W_congr fun ps β1 => ?_)
  unfold W finA optW
  cases looks β1 ps with
  | none => with_unfolding_all rfl
  | some d => simp only [Option.bind_some]; cases g d <;> with_unfolding_all rfl
@[simp ↓] theorem W_mNil {Q : List Pl → B.Env → Prop} : W mNil β Q E ↔ Q [] β := by with_unfolding_all exact Iff.rfl
@[simp ↓] theorem W_mCons {ma : M Pl} {mr : M (List Pl)} {Q : List Pl → B.Env → Prop} : W (mCons ma mr) β Q E ↔ W ma β (fun p β1 => W mr β1 (fun ps β2 => Q (p :: ps) β2) E) E := by
  unfold mCons
  refine W_bnd.trans (W_congr fun p β1 => ?_)
  rw [W_bnd]
  with_unfolding_all rfl
@[simp] theorem looks_nil : looks β [] = some [] := rfl
@[simp] theorem looks_d {d : D} {ps : List Pl} : looks β (.d d :: ps) = (looks β ps).map (d :: ·) := by
  show (match look β (.d d), looks β ps with | some d, some ds => some (d :: ds) | _, _ => none) = _
  cases looks β ps <;> with_unfolding_all rfl
@[simp] theorem looks_sl {i : Nat} {ps : List Pl} : looks β (.sl i :: ps) = (slD β[i]?).bind fun d => (looks β ps).map (d :: ·) := by
  show (match look β (.sl i), looks β ps with | some d, some ds => some (d :: ds) | _, _ => none) = _
  rw [look_sl]
  cases slD β[i]? <;> cases looks β ps <;> with_unfolding_all rfl
@[simp] theorem allD_nil : allD [] = some [] := rfl
@[simp] theorem allD_d {d : D} {ps : List Pl} : allD (.d d :: ps) = (allD ps).map (d :: ·) := rfl
/-! statements -/
@[simp] theorem slOf_fz {d : D} : slOf (.fz d) = .fz d := rfl
@[simp] theorem slOf_own {d : D} : slOf (.own d) = .own none d := rfl
@[simp ↓] theorem W_mSet {i : Nat} {me : M Rs} {Q : Fl → B.Env → Prop} : W (mSet i me) β Q E ↔ W me β (fun r β1 => Q .nx (β1.set i (slOf r))) E := by
  unfold mSet
  rw [W_bnd]
  with_unfolding_all exact Iff.rfl
@[simp ↓] theorem W_mExpr {me : M Rs} {Q : Fl → B.Env → Prop} : W (mExpr me) β Q E ↔ W me β (fun r β1 => Q .nx β1) E := by
  unfold mExpr
  rw [W_bnd]
  with_unfolding_all exact Iff.rfl
@[simp ↓] theorem W_mRet {me : M Rs} {Q : Fl → B.Env → Prop} : W (mRet me) β Q E ↔ W me β (fun r β1 => Q (.ret r) β1) E := by
  unfold mRet
  rw [W_bnd]
  with_unfolding_all exact Iff.rfl
@[simp ↓] theorem W_mTup {ma : M (List Pl)} {Q : Rs → B.Env → Prop} : W (mTup ma) β Q E ↔ W ma β (fun ps β1 => optW (allD ps) fun ds => ds.length ≤ sizeLine ∧ Q (.fz (.nd .tup ds)) β1) E := by
  unfold mTup
  refine W_bnd.trans (W_congr fun ps β1 => ?_)
  cases allD ps with
  | none => with_unfolding_all rfl
  | some ds =>
    simp only [optW_some]
    by_cases h : ds.length ≤ sizeLine
    · rw [if_pos h]; simp [h]
    · rw [if_neg h]; simp [h]
@[simp ↓] theorem W_mLst {ma : M (List Pl)} {Q : Rs → B.Env → Prop} : W (mLst ma) β Q E ↔ W ma β (fun ps β1 => optW (allD ps) fun ds => ds.length ≤ sizeLine ∧ Q (.own (.nd .lst ds)) β1) E := by
  unfold mLst
  refine W_bnd.trans (W_congr fun ps β1 => ?_)
  cases allD ps with
  | none => with_unfolding_all rfl
  | some ds =>
    simp only [optW_some]
    by_cases h : ds.length ≤ sizeLine
    · rw [if_pos h]; simp [h]
    · rw [if_neg h]; simp [h]
@[simp ↓] theorem W_mNoPart {Q : Option Int → B.Env → Prop} : W mNoPart β Q E ↔ Q none β := by with_unfolding_all exact Iff.rfl
def iW (d : D) (P : Int → Prop) : Prop := match d with
  | .int i => P i
  | _ => False
@[simp ↓] theorem iW_int {i : Int} {P : Int → Prop} : iW (.int i) P ↔ P i := Iff.rfl
@[simp ↓] theorem W_mSl {ma : M Pl} {ml mh : M (Option Int)} {Q : Rs → B.Env → Prop} : W (mSl ma ml mh) β Q E ↔ W ma β (fun p β1 => W ml β1 (fun lo β2 => W mh β2 (fun hi β3 => W (fin1 (gSl lo hi) p) β3 Q E) E) E) E := by
  unfold mSl
  refine W_bnd.trans (W_congr fun p β1 => ?_)
  refine W_bnd.trans (W_congr fun q β2 => ?_)
  rw [W_bnd]
@[simp ↓] theorem W_mMut {T : String} {i : Nat} {g : D → List D → Option (D × D)} {ma : M (List Pl)} {Q : Rs → B.Env → Prop} : W (mMut T i g ma) β Q E ↔ W (ownTy T i) β (fun _ β1 => W ma β1 (fun ps β2 => W (finM i g ps) β2 Q E) E) E := by
  unfold mMut
  refine W_bnd.trans (W_congr fun p β1 => ?_)
  rw [W_bnd]
def ownW (s : Option Sl) (P : Option Nat → D → Prop) : Prop := match s with
  | some (.own k d) => P k d
  | _ => False
@[simp ↓] theorem ownW_own {k : Option Nat} {d : D} {P : Option Nat → D → Prop} : ownW (some (.own k d)) P ↔ P k d := Iff.rfl
@[simp ↓] theorem W_ownTy {T : String} {i : Nat} {Q : Unit → B.Env → Prop} : W (ownTy T i) β Q E ↔ ownW β[i]? fun _ d => isTy T d = true ∧ Q () β := by
  unfold W ownTy ownW
  rcases β[i]? with _ | _ | _ | _ | ⟨_, d⟩ | _
  · with_unfolding_all rfl
  · with_unfolding_all rfl
  · with_unfolding_all rfl
  · with_unfolding_all rfl
  · simp only
    by_cases h : isTy T d = true
    · rw [if_pos h]; simp [h]
    · rw [if_neg h]; simp [h]
  · with_unfolding_all rfl
@[simp ↓] theorem W_finM {i : Nat} {g : D → List D → Option (D × D)} {ps : List Pl} {Q : Rs → B.Env → Prop} : W (finM i g ps) β Q E ↔ ownW β[i]? fun k d => optW (allD ps) fun ds => optW (g d ds) fun q => Q (.fz q.1) (β.set i (.own k q.2)) := by
  unfold W finM ownW
  rcases β[i]? with _ | _ | _ | _ | ⟨k, d⟩ | _
  · with_unfolding_all rfl
  · with_unfolding_all rfl
  · with_unfolding_all rfl
  · with_unfolding_all rfl
  · simp only
    cases allD ps with
    | none => with_unfolding_all rfl
    | some ds =>
      simp only [optW_some]
      cases g d ds <;> with_unfolding_all rfl
  · with_unfolding_all rfl
@[simp] theorem isTy_lst {ds : List D} : isTy "list" (.nd .lst ds) = true := rfl
@[simp ↓] theorem W_mSetIx {i : Nat} {me mk : M Rs} {Q : Fl → B.Env → Prop} : W (mSetIx i me mk) β Q E ↔ W me β (fun r β1 => isSet β1[i]? ∧ W mk β1 (fun kr β2 => W (setIx i r kr.d) β2 Q E) E) E := by
  unfold mSetIx
  refine W_bnd.trans (W_congr fun r β1 => ?_)
  rw [W_bnd, W_mPl, W_bnd]
def lstW (d : D) (P : List D → Prop) : Prop := match d with
  | .nd .lst ds => P ds
  | _ => False
@[simp ↓] theorem lstW_lst {ds : List D} {P : List D → Prop} : lstW (.nd .lst ds) P ↔ P ds := Iff.rfl
@[simp ↓] theorem W_setIx {i : Nat} {v : Rs} {kd : D} {Q : Fl → B.Env → Prop} : W (setIx i v kd) β Q E ↔ ownW β[i]? fun b d => lstW d fun ds => iW kd fun k => optW (ixN ds.length k) fun j => Q .nx (β.set i (.own b (.nd .lst (ds.set j v.d)))) := by
  unfold W setIx ownW
  rcases β[i]? with _ | _ | _ | _ | ⟨k, d⟩ | _
  · with_unfolding_all rfl
  · with_unfolding_all rfl
  · with_unfolding_all rfl
  · with_unfolding_all rfl
  · rcases d with _ | _ | _ | _ | ⟨_ | _ | _ | _ | _, ds⟩ <;> cases kd <;> try rfl
    simp only [lstW_lst, iW_int]
    cases ixN ds.length _ <;> with_unfolding_all rfl
  · with_unfolding_all rfl
@[simp ↓] theorem W_mAug {i : Nat} {f : Int → Int → Int} {me : M Rs} {Q : Fl → B.Env → Prop} : W (mAug i f me) β Q E ↔ varW β[i]? (fun d => iW d fun a => W me β (fun r β1 => iW r.d fun b => Q .nx (β1.set i (.fz (.int (f a b))))) E) (fun _ => False) := by
  have key : ∀ s : Option Sl, β[i]? = s → (W (mAug i f me) β Q E ↔ varW s (fun d => iW d fun a => W me β (fun r β1 => iW r.d fun b => Q .nx (β1.set i (.fz (.int (f a b))))) E) (fun _ => False)) := fun s e => by
    unfold W mAug
    rw [e]
    rcases s with _ | _ | d | _ | ⟨_ | _, d⟩ | _
    · with_unfolding_all exact Iff.rfl
    · with_unfolding_all exact Iff.rfl
    · cases d with
      | int a =>
        have q := (W_bnd (m := me) (β := β) (Q := Q) (E := E) (f := fun r => match r.d with | .int b => bnd (setR i (.fz (.int (f a b)))) fun _ => ret .nx | _ => stk)).trans (W_congr (Q' := fun r β1 => iW r.d fun b => Q .nx (β1.set i (.fz (.int (f a b))))) fun r β1 => by cases r.d <;> with_unfolding_all rfl)
        with_unfolding_all exact q
      | _ => with_unfolding_all exact Iff.rfl
    · with_unfolding_all exact Iff.rfl
    · with_unfolding_all exact Iff.rfl
    · with_unfolding_all exact Iff.rfl
    · with_unfolding_all exact Iff.rfl
  exact key _ rfl
@[simp ↓] theorem W_mAsg {g : D → M Unit} {me : M Rs} {Q : Fl → B.Env → Prop} : W (mAsg g me) β Q E ↔ W me β (fun r β1 => W (g r.d) β1 (fun _ β2 => Q .nx β2) (fun _ _ => False)) E := by
  unfold mAsg
  refine W_bnd.trans (W_congr fun r β1 => ?_)
  unfold W
  simp only []
  generalize g r.d β1 = x
  cases x <;> with_unfolding_all exact Iff.rfl
@[simp ↓] theorem W_gSet {i : Nat} {d : D} {Q : Unit → B.Env → Prop} : W (gSet i d) β Q E ↔ Q () (β.set i (.fz d)) := by with_unfolding_all exact Iff.rfl
@[simp ↓] theorem W_gsNil {Q : Unit → B.Env → Prop} : W (gsNil []) β Q E ↔ Q () β := by with_unfolding_all exact Iff.rfl
@[simp ↓] theorem W_gsCons {g : D → M Unit} {h : List D → M Unit} {d : D} {ds : List D} {Q : Unit → B.Env → Prop} : W (gsCons g h (d :: ds)) β Q E ↔ W (g d) β (fun _ β1 => W (h ds) β1 Q E) E := by
  show W (bnd (g d) fun _ => h ds) β Q E ↔ _
  rw [W_bnd]
@[simp ↓] theorem W_gUnp {n : Nat} {g : List D → M Unit} {ds : List D} {Q : Unit → B.Env → Prop} : W (gUnp n g (.nd .tup ds)) β Q E ↔ ds.length = n ∧ W (g ds) β Q E := by
  show W (if ds.length = n then g ds else stk) β Q E ↔ _
  by_cases h : ds.length = n
  · rw [if_pos h]; simp [h]
  · rw [if_neg h]; simp [h]
/-! calls -/
@[simp ↓] theorem W_mCallF {ks : List Bool} {f : List D → FR} {ma : M (List Pl)} {Q : Rs → B.Env → Prop} : W (mCallF ks f ma) β Q E ↔ W ma β (fun ps β1 => W (callF ks f ps) β1 Q E) E := by
  unfold mCallF
  rw [W_bnd]
@[simp ↓] theorem W_mCallD {ks : List Bool} {f : List D → FR} {dd : List D} {ma : M (List Pl)} {Q : Rs → B.Env → Prop} : W (mCallD ks f dd ma) β Q E ↔ W ma β (fun ps β1 => W (callF ks f (ps ++ dd.map Pl.d)) β1 Q E) E := by
  unfold mCallD
  rw [W_bnd]
@[simp ↓] theorem W_mCallK {ks : List Bool} {f : List D → FR} {n m : Nat} {gP : List Pl → List Pl → List Pl} {ma mk : M (List Pl)} {Q : Rs → B.Env → Prop} : W (mCallK ks f n m gP ma mk) β Q E ↔ W ma β (fun ps β1 => W mk β1 (fun qs β2 => (ps.length = n ∧ qs.length = m) ∧ W (callF ks f (gP ps qs)) β2 Q E) E) E := by
  unfold mCallK
  refine W_bnd.trans (W_congr fun ps β1 => ?_)
  refine W_bnd.trans (W_congr fun qs β2 => ?_)
  by_cases h : ps.length = n ∧ qs.length = m
  · rw [if_pos h]; simp [h]
  · rw [if_neg h]; simp [h]
@[simp ↓] theorem W_callF {ks : List Bool} {f : List D → FR} {ps : List Pl} {Q : Rs → B.Env → Prop} : W (callF ks f ps) β Q E ↔ optW (resA β ks ps) fun q => (q.2.1.Nodup ∧ ∀ j ∈ q.2.2, j ∉ q.2.1) ∧
    FW (f q.1) (fun r ios => (ios.length = q.2.1.length ∧ (q.2.2 = [] ∨ (immR r = true ∧ ios.all immK = true))) ∧ Q r (putIo β q.2.1 ios)) (fun x ios => (ios.length = q.2.1.length ∧ (q.2.2 = [] ∨ (immX x = true ∧ ios.all immK = true))) ∧ E x (putIo β q.2.1 ios)) := by
  unfold W callF
  cases resA β ks ps with
  | none => with_unfolding_all rfl
  | some q =>
    obtain ⟨ds, is, js⟩ := q
    simp only [optW_some]
    by_cases h : is.Nodup ∧ ∀ j ∈ js, j ∉ is
    · rw [if_pos h]
      cases f ds with
      | stuck => exact ⟨fun h => h.elim, fun h => by have h := h.2; unfold FW at h; exact h⟩
      | ok r ios =>
        unfold FW
        simp only
        by_cases h2 : ios.length = is.length ∧ (js = [] ∨ (immR r = true ∧ ios.all immK = true))
        · rw [if_pos h2]
          exact ⟨fun q => ⟨h, h2, q⟩, fun q => q.2.2⟩
        · rw [if_neg h2]
          exact ⟨fun q => q.elim, fun q => h2 q.2.1⟩
      | exc x ios =>
        unfold FW
        simp only
        by_cases h2 : ios.length = is.length ∧ (js = [] ∨ (immX x = true ∧ ios.all immK = true))
        · rw [if_pos h2]
          exact ⟨fun q => ⟨h, h2, q⟩, fun q => q.2.2⟩
        · rw [if_neg h2]
          exact ⟨fun q => q.elim, fun q => h2 q.2.1⟩
    · rw [if_neg h]
      exact ⟨fun h => h.elim, fun h' => h h'.1⟩
@[simp] theorem resA_nil : resA β [] [] = some ([], [], []) := rfl
@[simp] theorem resA_d {d : D} {ks : List Bool} {ps : List Pl} : resA β (false :: ks) (.d d :: ps) = (resA β ks ps).map (fun r : List D × List Nat × List Nat => (d :: r.1, r.2.1, r.2.2)) := rfl
def slRes (i : Nat) (s : Option Sl) : Option (D × List Nat) := match s with
  | some (.fz d) => some (d, [])
  | some (.own _ d) => some (d, [i])
  | _ => none
@[simp] theorem slRes_fz {i : Nat} {d : D} : slRes i (some (.fz d)) = some (d, []) := rfl
@[simp] theorem slRes_own {i : Nat} {k : Option Nat} {d : D} : slRes i (some (.own k d)) = some (d, [i]) := rfl
@[simp] theorem resA_sl {i : Nat} {ks : List Bool} {ps : List Pl} : resA β (false :: ks) (.sl i :: ps) = (slRes i β[i]?).bind fun q => (resA β ks ps).map (fun r : List D × List Nat × List Nat => (q.1 :: r.1, r.2.1, q.2 ++ r.2.2)) := by
  show (match β[i]? with
    | some (.fz d) => (resA β ks ps).map (fun r : List D × List Nat × List Nat => (d :: r.1, r.2.1, r.2.2))
    | some (.own _ d) => (resA β ks ps).map (fun r : List D × List Nat × List Nat => (d :: r.1, r.2.1, i :: r.2.2))
    | _ => none) = _
  rcases β[i]? with _ | _ | _ | _ | ⟨_, _⟩ <;> with_unfolding_all rfl
def slIo (s : Option Sl) : Option D := match s with
  | some (.own _ d) => some d
  | _ => none
@[simp] theorem slIo_own {k : Option Nat} {d : D} : slIo (some (.own k d)) = some d := rfl
@[simp] theorem resA_io {i : Nat} {ks : List Bool} {ps : List Pl} : resA β (true :: ks) (.sl i :: ps) = (slIo β[i]?).bind fun d => (resA β ks ps).map (fun r : List D × List Nat × List Nat => (d :: r.1, i :: r.2.1, r.2.2)) := by
  show (match β[i]? with
    | some (.own _ d) => (resA β ks ps).map (fun r : List D × List Nat × List Nat => (d :: r.1, i :: r.2.1, r.2.2))
    | _ => none) = _
  rcases β[i]? with _ | _ | _ | _ | ⟨_, _⟩ <;> with_unfolding_all rfl
@[simp] theorem putIo_nil {ds : List D} : putIo β [] ds = β := by cases ds <;> with_unfolding_all rfl
def slPut (β : B.Env) (i : Nat) (d : D) : Option Sl → B.Env
  | some (.own b _) => β.set i (.own b d)
  | _ => β
@[simp] theorem slPut_own {i : Nat} {d d' : D} {b : Option Nat} : slPut β i d (some (.own b d')) = β.set i (.own b d) := rfl
@[simp] theorem putIo_cons {i : Nat} {is : List Nat} {d : D} {ds : List D} : putIo β (i :: is) (d :: ds) = putIo (slPut β i d β[i]?) is ds := by
  show putIo (match β[i]? with
    | some (.own b _) => β.set i (.own b d)
    | _ => β) is ds = _
  rcases β[i]? with _ | _ | _ | _ | ⟨_, _⟩ <;> with_unfolding_all rfl
end
/-! defs -/
def retW (ks : List Bool) (Q : Rs → List D → Prop) (f : Fl) (β : B.Env) : Prop := match f with
  | .ret r => optW (endIo ks 0 β) (Q r)
  | .nx => optW (endIo ks 0 β) (Q (.fz .non))
  | _ => False
@[simp ↓] theorem retW_ret {ks : List Bool} {Q : Rs → List D → Prop} {r : Rs} {β : B.Env} : retW ks Q (.ret r) β ↔ optW (endIo ks 0 β) (Q r) := Iff.rfl
@[simp ↓] theorem retW_nx {ks : List Bool} {Q : Rs → List D → Prop} {β : B.Env} : retW ks Q .nx β ↔ optW (endIo ks 0 β) (Q (.fz .non)) := Iff.rfl
theorem FW_run {ks : List Bool} {n : Nat} {m : M Fl} {ds : List D} {Q : Rs → List D → Prop} {E : Exn → List D → Prop} : FW (runB ks n m ds) Q E ↔ W m (start0 ks n ds) (retW ks Q) (fun x β => optW (endIo ks 0 β) (E x)) := by
  unfold FW runB finF W retW
  cases m (start0 ks n ds) with
  | stuck => with_unfolding_all rfl
  | ok f β => cases f <;> first | with_unfolding_all rfl | (simp only; cases endIo ks 0 β <;> with_unfolding_all rfl)
  | exc x β => simp only; cases endIo ks 0 β <;> with_unfolding_all rfl
@[simp] theorem endIo_nil {j : Nat} {β : B.Env} : endIo [] j β = some [] := by cases β <;> with_unfolding_all rfl
@[simp] theorem endIo_f {ks : List Bool} {j : Nat} {s : Sl} {β : B.Env} : endIo (false :: ks) j (s :: β) = endIo ks j β := by cases s <;> with_unfolding_all rfl
@[simp] theorem endIo_t {ks : List Bool} {j : Nat} {d : D} {β : B.Env} : endIo (true :: ks) j (.own (some j) d :: β) = (endIo ks (j + 1) β).map (d :: ·) := by
  show (if j = j then _ else none) = _
  rw [if_pos rfl]
end B


set_option Elab.async false
set_option linter.all false
set_option maxRecDepth 100000
set_option maxHeartbeats 4000000
namespace B
open PySem PySem.Spec L2
/-! ## operations on data -/
def mulOk (i j : Int) : Prop := cMul i j = true ∨ cMulW i j = true
def divOk (j : Int) : Prop := cDiv 0 j = true
def powOk (i j : Int) : Prop := cPow i j = true
theorem small_of {i : Int} (h : -(2 ^ 64) < i) (h2 : i < 2 ^ 64) : smallI i = true := decide_eq_true ⟨h, h2⟩
theorem mulOk_l {i j : Int} (h : -(2 ^ 64) < i) (h2 : i < 2 ^ 64) : mulOk i j := .inl (by unfold cMul; rw [small_of h h2]; rfl)
theorem mulOk_r {i j : Int} (h : -(2 ^ 64) < j) (h2 : j < 2 ^ 64) : mulOk i j := .inl (by unfold cMul; rw [small_of h h2, Bool.or_true])
theorem log2_lt {n k : Nat} (h : n < 2 ^ k) (hk : 0 < k) : n.log2 < k := by
  by_cases hn : n = 0
  · subst hn; simpa using hk
  · exact (Nat.log2_lt hn).mpr h
theorem divOk_of {j : Int} (h : 0 < j) (h2 : j < 2 ^ 128) : divOk j := by
  unfold divOk cDiv
  rw [decide_eq_true_eq]
  refine ⟨h, ?_⟩
  have : j.natAbs < 2 ^ 128 := by omega
  have := log2_lt this (by decide)
  omega
theorem powOk_of {i j : Int} (h : 0 ≤ j) (h2 : j ≤ 1000000) (h3 : i.natAbs < 2 ^ 64) : powOk i j := decide_eq_true ⟨h, h2, h3⟩
section
variable {i j : Int} {P : Rs → Prop}
@[simp ↓] theorem w_add : optW (gAdd (.int i) (.int j)) P ↔ P (.fz (.int (i + j))) := Iff.rfl
@[simp ↓] theorem w_sub : optW (gSub (.int i) (.int j)) P ↔ P (.fz (.int (i - j))) := Iff.rfl
@[simp ↓] theorem w_mul : optW (gMul (.int i) (.int j)) P ↔ mulOk i j ∧ P (.fz (.int (i * j))) := by
  show optW (if cMul i j = true then some (.fz (.int (i * j))) else if cMulW i j = true then some (.fz (.int (i * j))) else none) P ↔ _
  unfold mulOk
  by_cases h : cMul i j = true
  · rw [if_pos h]; simp [h]
  · rw [if_neg h]
    by_cases h2 : cMulW i j = true
    · rw [if_pos h2]; simp [h2]
    · rw [if_neg h2]; simp [h, h2]
theorem w_gIc {C : Int → Int → Bool} {f : Int → Int → Int} : optW (gIc C f (.int i) (.int j)) P ↔ C i j = true ∧ P (.fz (.int (f i j))) := by
  show optW (if C i j = true then some (.fz (.int (f i j))) else none) P ↔ _
  exact optW_ite
@[simp ↓] theorem w_fdiv : optW (gFdiv (.int i) (.int j)) P ↔ divOk j ∧ P (.fz (.int (i / j))) := w_gIc
@[simp ↓] theorem w_mod : optW (gMod (.int i) (.int j)) P ↔ 0 < j ∧ P (.fz (.int (i % j))) := by
  unfold gMod
  rw [w_gIc, decide_eq_true_eq]
@[simp ↓] theorem w_pow : optW (gPow (.int i) (.int j)) P ↔ powOk i j ∧ P (.fz (.int (i ^ j.toNat))) := w_gIc
@[simp ↓] theorem w_shl : optW (gShl (.int i) (.int j)) P ↔ powOk i j ∧ P (.fz (.int (i * 2 ^ j.toNat))) := w_gIc
@[simp ↓] theorem w_lt : optW (gLt (.int i) (.int j)) P ↔ P (.fz (.bl (decide (i < j)))) := Iff.rfl
@[simp ↓] theorem w_le : optW (gLe (.int i) (.int j)) P ↔ P (.fz (.bl (decide (i ≤ j)))) := Iff.rfl
@[simp ↓] theorem w_gt : optW (gGt (.int i) (.int j)) P ↔ P (.fz (.bl (decide (j < i)))) := Iff.rfl
@[simp ↓] theorem w_ge : optW (gGe (.int i) (.int j)) P ↔ P (.fz (.bl (decide (j ≤ i)))) := Iff.rfl
theorem shp_int : shp (.int i) = true := rfl
theorem eqv_int : eqv (.int i) (.int j) = decide (i = j) := by
  show PyData.eqv (.int i) (.int j) = _
  unfold PyData.eqv
  by_cases h : i = j <;> simp [h]
@[simp ↓] theorem w_eq : optW (gEq (.int i) (.int j)) P ↔ P (.fz (.bl (decide (i = j)))) := by
  unfold gEq
  rw [if_pos ⟨shp_int, shp_int⟩, eqv_int]
  with_unfolding_all exact Iff.rfl
@[simp ↓] theorem w_ne : optW (gNe (.int i) (.int j)) P ↔ P (.fz (.bl (!decide (i = j)))) := by
  unfold gNe
  rw [if_pos ⟨shp_int, shp_int⟩, eqv_int]
  with_unfolding_all exact Iff.rfl
@[simp ↓] theorem w_neg : optW (gNeg (.int i)) P ↔ P (.fz (.int (-i))) := Iff.rfl
@[simp ↓] theorem w_int : optW (gInt [.int i]) P ↔ P (.fz (.int i)) := Iff.rfl
@[simp ↓] theorem w_intB {b : Bool} : optW (gInt [.bl b]) P ↔ P (.fz (.int (if b then 1 else 0))) := Iff.rfl
@[simp ↓] theorem w_max2 : optW (gMax2 [.int i, .int j]) P ↔ P (.fz (.int (if j > i then j else i))) := Iff.rfl
@[simp ↓] theorem w_min2 : optW (gMin2 [.int i, .int j]) P ↔ P (.fz (.int (if j < i then j else i))) := Iff.rfl
end
section
variable {ds es : List D} {P : Rs → Prop} {i : Int}
theorem ixN_of {n : Nat} (h : 0 ≤ i) (h2 : i < n) : ixN n i = some i.toNat := by unfold ixN; rw [if_pos h, if_pos h2]
theorem ixN_neg {n : Nat} (h : i < 0) (h2 : 0 ≤ i + n) : ixN n i = some (i + n).toNat := by
  unfold ixN
  rw [if_neg (by omega)]
  first
    | rw [if_pos (by omega)]
    | simp [h2]
theorem atI_of {α : Type} {l : List α} (h : 0 ≤ i) (h2 : i < l.length) : atI l i = l[i.toNat]? := by unfold atI; rw [ixN_of h h2]; rfl
theorem atI_neg {α : Type} {l : List α} (h : i < 0) (h2 : 0 ≤ i + l.length) : atI l i = l[(i + l.length).toNat]? := by unfold atI; rw [ixN_neg h h2]; rfl
theorem atI_nat' {α : Type} {l : List α} (k : Nat) : atI l (k : Int) = l[k]? := by
  by_cases h : k < l.length
  · rw [atI_of (by omega) (by omega)]; simp
  · unfold atI ixN
    rw [if_pos (by omega), if_neg (by omega), List.getElem?_eq_none (by omega)]
    with_unfolding_all rfl
@[simp] theorem atI_0 {α : Type} {l : List α} : atI l 0 = l[0]? := atI_nat' 0
@[simp] theorem atI_1 {α : Type} {l : List α} : atI l 1 = l[1]? := atI_nat' 1
@[simp] theorem atI_2 {α : Type} {l : List α} : atI l 2 = l[2]? := atI_nat' 2
@[simp ↓] theorem w_ixL : optW (gIx (.nd .lst ds) (.int i)) P ↔ optW (atI ds i) fun d => P (.fz d) := optW_map
@[simp ↓] theorem w_ixS : optW (gIx (.nd .scr ds) (.int i)) P ↔ optW (atI ds i) fun d => P (.fz d) := optW_map
@[simp ↓] theorem w_ixT : optW (gIx (.nd .tup ds) (.int i)) P ↔ optW (atI ds i) fun d => P (.fz d) := optW_map
@[simp ↓] theorem w_lenL : optW (gLen [.nd .lst ds]) P ↔ P (.fz (.int ds.length)) := Iff.rfl
@[simp ↓] theorem w_lenS : optW (gLen [.nd .scr ds]) P ↔ P (.fz (.int ds.length)) := Iff.rfl
@[simp ↓] theorem w_lenT : optW (gLen [.nd .tup ds]) P ↔ P (.fz (.int ds.length)) := Iff.rfl
@[simp ↓] theorem w_listL : optW (gList [.nd .lst ds]) P ↔ P (.own (.nd .lst ds)) := Iff.rfl
@[simp ↓] theorem w_listT : optW (gList [.nd .tup ds]) P ↔ P (.own (.nd .lst ds)) := Iff.rfl
@[simp ↓] theorem w_tupL : optW (gTuple [.nd .lst ds]) P ↔ P (.fz (.nd .tup ds)) := Iff.rfl
@[simp ↓] theorem w_cat : optW (gAdd (.nd .lst ds) (.nd .lst es)) P ↔ ds.length + es.length ≤ sizeLine ∧ P (.own (.nd .lst (ds ++ es))) := optW_ite
@[simp ↓] theorem w_catT : optW (gAdd (.nd .tup ds) (.nd .tup es)) P ↔ ds.length + es.length ≤ sizeLine ∧ P (.fz (.nd .tup (ds ++ es))) := optW_ite
@[simp ↓] theorem w_revL : optW (gRevL (.nd .lst ds)) P ↔ P (.own (.nd .lst ds.reverse)) := Iff.rfl
@[simp ↓] theorem w_slL {lo hi : Option Int} : optW (gSl lo hi (.nd .lst ds)) P ↔ P (.own (.nd .lst (cut ds lo hi))) := Iff.rfl
@[simp ↓] theorem w_slS {lo hi : Option Int} : optW (gSl lo hi (.nd .scr ds)) P ↔ P (.own (.nd .lst (cut ds lo hi))) := Iff.rfl
@[simp ↓] theorem w_slT {lo hi : Option Int} : optW (gSl lo hi (.nd .tup ds)) P ↔ P (.fz (.nd .tup (cut ds lo hi))) := Iff.rfl
@[simp ↓] theorem w_append {d : D} {P : D × D → Prop} : optW (gAppend (.nd .lst ds) [d]) P ↔ ds.length < sizeLine ∧ P (.non, .nd .lst (ds ++ [d])) := optW_ite
@[simp ↓] theorem w_extend {P : D × D → Prop} : optW (gExtend (.nd .lst ds) [.nd .lst es]) P ↔ ds.length + es.length ≤ sizeLine ∧ P (.non, .nd .lst (ds ++ es)) := optW_ite
@[simp ↓] theorem w_reverse {P : D × D → Prop} : optW (gReverse (.nd .lst ds) []) P ↔ P (.non, .nd .lst ds.reverse) := Iff.rfl
theorem w_isi {T : String} {d : D} {b : Bool} (h : isiD T d = some b) : optW (gIsi T d) P ↔ P (.fz (.bl b)) := by
  unfold gIsi
  rw [h]
  with_unfolding_all exact Iff.rfl
@[simp ↓] theorem w_truB {b : Bool} {P : Bool → Prop} : optW (truD (.bl b)) P ↔ P b := Iff.rfl
def fiW (r : Rs) (P : Int → Prop) : Prop := match r with
  | .fz (.int i) => P i
  | _ => False
@[simp ↓] theorem fiW_int {i : Int} {P : Int → Prop} : fiW (.fz (.int i)) P ↔ P i := Iff.rfl
@[simp ↓] theorem W_mPart {me : M Rs} {β : B.Env} {Q : Option Int → B.Env → Prop} {E : Exn → B.Env → Prop} : W (mPart me) β Q E ↔ W me β (fun r β1 => fiW r fun i => Q (some i) β1) E := by
  unfold mPart
  refine W_bnd.trans (W_congr fun r β1 => ?_)
  rcases r with d | d
  · cases d <;> with_unfolding_all exact Iff.rfl
  · with_unfolding_all exact Iff.rfl
end
/-! ## what is walked -/
section
variable {β : B.Env} {E : Exn → B.Env → Prop} {Q : List D → B.Env → Prop}
@[simp ↓] theorem W_mIter {me : M Rs} : W (mIter me) β Q E ↔ W me β (fun r β1 => optW (items r.d) fun ds => Q ds β1) E := by
  unfold mIter
  refine W_bnd.trans (W_congr fun r β1 => ?_)
  unfold liftO W
  cases items r.d <;> with_unfolding_all exact Iff.rfl
@[simp] theorem items_l {ds : List D} : items (.nd .lst ds) = some ds := rfl
@[simp] theorem items_s {ds : List D} : items (.nd .scr ds) = some ds := rfl
@[simp] theorem items_t {ds : List D} : items (.nd .tup ds) = some ds := rfl
def r1W (l : List D) (P : Int → Prop) : Prop := match l with
  | [.int j] => P j
  | _ => False
def r2W (l : List D) (P : Int → Int → Prop) : Prop := match l with
  | [.int i, .int j] => P i j
  | _ => False
@[simp ↓] theorem r1W_int {j : Int} {P : Int → Prop} : r1W [.int j] P ↔ P j := Iff.rfl
@[simp ↓] theorem r2W_int {i j : Int} {P : Int → Int → Prop} : r2W [.int i, .int j] P ↔ P i j := Iff.rfl
theorem inR_iff {i : Int} : inR i = true ↔ -(2 ^ 62) ≤ i ∧ i < 2 ^ 62 := by unfold inR; rw [decide_eq_true_eq]
@[simp ↓] theorem W_rngA {ps : List Pl} : W (rngA ps) β Q E ↔ optW (looks β ps) fun l => r1W l fun j => inR j = true ∧ Q (rng 0 j) β := by
  unfold W rngA
  cases looks β ps with
  | none => with_unfolding_all exact Iff.rfl
  | some l =>
    rcases l with _ | ⟨d, _ | ⟨d2, l⟩⟩
    · with_unfolding_all exact Iff.rfl
    · cases d with
      | int j =>
        simp only [optW_some, r1W_int]
        by_cases h : inR j = true
        · rw [if_pos h]; simp [h]
        · rw [if_neg h]; simp [h]
      | _ => with_unfolding_all exact Iff.rfl
    · cases d <;> with_unfolding_all exact Iff.rfl
@[simp ↓] theorem W_rngB {ps : List Pl} : W (rngB ps) β Q E ↔ optW (looks β ps) fun l => r2W l fun i j => (inR i = true ∧ inR j = true) ∧ Q (rng i j) β := by
  unfold W rngB
  cases looks β ps with
  | none => with_unfolding_all exact Iff.rfl
  | some l =>
    rcases l with _ | ⟨d, _ | ⟨d2, _ | ⟨d3, l⟩⟩⟩
    · with_unfolding_all exact Iff.rfl
    · cases d <;> with_unfolding_all exact Iff.rfl
    · cases d with
      | int i =>
        cases d2 with
        | int j =>
          simp only [optW_some, r2W_int]
          by_cases h : inR i = true ∧ inR j = true
          · rw [if_pos h]; simp [h]
          · rw [if_neg h]
            exact ⟨fun q => q.elim, fun q => h q.1⟩
        | _ => with_unfolding_all exact Iff.rfl
      | _ => with_unfolding_all exact Iff.rfl
    · cases d <;> cases d2 <;> with_unfolding_all exact Iff.rfl
@[simp ↓] theorem W_zipLL {ds es : List D} : W (zipA [.d (.nd .lst ds), .d (.nd .lst es)]) β Q E ↔ Q (zipD ds es) β := by with_unfolding_all exact Iff.rfl
@[simp ↓] theorem W_zipTT {ds es : List D} : W (zipA [.d (.nd .tup ds), .d (.nd .tup es)]) β Q E ↔ Q (zipD ds es) β := by with_unfolding_all exact Iff.rfl
end
/-! ## loops -/
section
variable {β : B.Env} {E : Exn → B.Env → Prop}
/-- how a turn ends -/
def flW (f : Fl) (N B : Prop) (R : Rs → Prop) : Prop := match f with
  | .nx => N
  | .ct => N
  | .brk => B
  | .ret r => R r
@[simp ↓] theorem flW_nx {N B : Prop} {R : Rs → Prop} : flW .nx N B R ↔ N := Iff.rfl
@[simp ↓] theorem flW_ct {N B : Prop} {R : Rs → Prop} : flW .ct N B R ↔ N := Iff.rfl
@[simp ↓] theorem flW_brk {N B : Prop} {R : Rs → Prop} : flW .brk N B R ↔ B := Iff.rfl
@[simp ↓] theorem flW_ret {N B : Prop} {R : Rs → Prop} {r : Rs} : flW (.ret r) N B R ↔ R r := Iff.rfl
@[simp ↓] theorem W_mFor {mi : M (List D)} {g : D → M Unit} {b : M Fl} {Q : Fl → B.Env → Prop} : W (mFor mi g b) β Q E ↔ W mi β (fun ds β1 => W (forL g b ds) β1 Q E) E := by
  unfold mFor
  exact W_bnd
theorem forL_nil {g : D → M Unit} {b : M Fl} {Q : Fl → B.Env → Prop} : W (forL g b []) β Q E ↔ Q .nx β := by with_unfolding_all exact Iff.rfl
theorem forL_cons {g : D → M Unit} {b : M Fl} {Q : Fl → B.Env → Prop} {d : D} {ds : List D} (h : W (g d) β (fun _ β1 => W b β1 (fun f β2 => flW f (W (forL g b ds) β2 Q E) (Q .nx β2) fun r => Q (.ret r) β2) E) fun _ _ => False) : W (forL g b (d :: ds)) β Q E := by
  unfold W at h ⊢
  simp only [forL]
  cases e : g d β with
  | stuck => rw [e] at h; exact h.elim
  | exc x β1 => rw [e] at h; exact h.elim
  | ok u β1 =>
    rw [e] at h
    simp only at h ⊢
    cases e2 : b β1 with
    | stuck => rw [e2] at h; exact h.elim
    | exc x β2 => rw [e2] at h; exact h
    | ok f β2 =>
      rw [e2] at h
      cases f <;> exact h
theorem W_forL {g : D → M Unit} {b : M Fl} {Q : Fl → B.Env → Prop} {ds : List D} (I : Nat → B.Env → Prop) (h0 : I 0 β)
    (step : ∀ i d β, ds[i]? = some d → I i β → W (g d) β (fun _ β1 => W b β1 (fun f β2 => flW f (I (i + 1) β2) (Q .nx β2) fun r => Q (.ret r) β2) E) fun _ _ => False) (fin : ∀ β, I ds.length β → Q .nx β) : W (forL g b ds) β Q E := by
  have key : ∀ (n i : Nat) (β : B.Env), i + n = ds.length → I i β → W (forL g b (ds.drop i)) β Q E := by
    intro n
    induction n with
    | zero =>
      intro i β hi h
      rw [List.drop_of_length_le (by omega)]
      have : i = ds.length := by omega
      subst this
      exact forL_nil.mpr (fin β h)
    | succ n ih =>
      intro i β hi h
      have hlt : i < ds.length := by omega
      rw [List.drop_eq_getElem_cons hlt]
      refine forL_cons ((step i _ β (List.getElem?_eq_getElem hlt) h).mono (fun _ β1 h1 => h1.mono (fun f β2 h2 => ?_) fun _ _ h => h) fun _ _ h => h)
      cases f with
      | nx => exact ih (i + 1) β2 (by omega) h2
      | ct => exact ih (i + 1) β2 (by omega) h2
      | brk => exact h2
      | ret r => exact h2
  have := key ds.length 0 β (by omega) h0
  rwa [List.drop_zero] at this
theorem whileN_more {c : M Bool} {b : M Fl} : ∀ {n m : Nat} {β : B.Env}, whileN c b n β ≠ .stuck → n ≤ m → whileN c b m β = whileN c b n β
  | 0, _, _, h, _ => absurd rfl h
  | n + 1, 0, _, _, hm => absurd hm (by omega)
  | n + 1, m + 1, β, h, hm => by
    simp only [whileN] at h ⊢
    cases e : c β with
    | stuck => with_unfolding_all rfl
    | exc x β1 => with_unfolding_all rfl
    | ok k β1 =>
      cases k with
      | false => with_unfolding_all rfl
      | true =>
        rw [e] at h
        simp only at h ⊢
        cases e2 : b β1 with
        | stuck => with_unfolding_all rfl
        | exc x β2 => with_unfolding_all rfl
        | ok f β2 =>
          rw [e2] at h
          cases f with
          | nx => exact whileN_more h (by omega)
          | ct => exact whileN_more h (by omega)
          | brk => with_unfolding_all rfl
          | ret r => with_unfolding_all rfl
theorem mWhile_eq {c : M Bool} {b : M Fl} {n : Nat} (h : whileN c b n β ≠ .stuck) : mWhile c b β = whileN c b n β := by
  unfold mWhile
  have hx : ∃ n, whileN c b n β ≠ .stuck := ⟨n, h⟩
  rw [dif_pos hx]
  rcases Nat.le_total n hx.choose with q | q
  · exact whileN_more h q
  · exact (whileN_more hx.choose_spec q).symm
theorem W_while {c : M Bool} {b : M Fl} {Q : Fl → B.Env → Prop} (I : Nat → B.Env → Prop)
    (step : ∀ n β, I n β → W c β (fun k β1 => if k = true then W b β1 (fun f β2 => flW f (∃ m, m < n ∧ I m β2) (Q .nx β2) fun r => Q (.ret r) β2) E else Q .nx β1) E) : ∀ {n : Nat} {β : B.Env}, I n β → W (mWhile c b) β Q E := by
  have key : ∀ (n : Nat) (β : B.Env), I n β → ∃ k, W (whileN c b k) β Q E := by
    intro n
    induction n using Nat.strongRecOn with
    | _ n ih =>
      intro β h
      have h := step n β h
      unfold W at h
      cases e : c β with
      | stuck => rw [e] at h; exact h.elim
      | exc x β1 =>
        rw [e] at h
        refine ⟨1, ?_⟩
        unfold W whileN
        rw [e]
        exact h
      | ok k β1 =>
        rw [e] at h
        cases k with
        | false =>
          refine ⟨1, ?_⟩
          unfold W whileN
          rw [e]
          simpa using h
        | true =>
          simp only [if_true] at h
          cases e2 : b β1 with
          | stuck => rw [e2] at h; exact h.elim
          | exc x β2 =>
            rw [e2] at h
            refine ⟨1, ?_⟩
            unfold W whileN
            rw [e]
            simp only
            rw [e2]
            exact h
          | ok f β2 =>
            rw [e2] at h
            cases f with
            | nx =>
              obtain ⟨m, hm, h⟩ := h
              obtain ⟨k, hk⟩ := ih m hm β2 h
              refine ⟨k + 1, ?_⟩
              unfold W whileN
              rw [e]
              simp only
              rw [e2]
              unfold W at hk
              exact hk
            | ct =>
              obtain ⟨m, hm, h⟩ := h
              obtain ⟨k, hk⟩ := ih m hm β2 h
              refine ⟨k + 1, ?_⟩
              unfold W whileN
              rw [e]
              simp only
              rw [e2]
              unfold W at hk
              exact hk
            | brk =>
              refine ⟨1, ?_⟩
              unfold W whileN
              rw [e]
              simp only
              rw [e2]
              exact h
            | ret r =>
              refine ⟨1, ?_⟩
              unfold W whileN
              rw [e]
              simp only
              rw [e2]
              exact h
  intro n β h
  obtain ⟨k, hk⟩ := key n β h
  have ns : whileN c b k β ≠ .stuck := fun z => by
    unfold W at hk
    rw [z] at hk
    exact hk
  unfold W at hk ⊢
  rw [mWhile_eq ns]
  exact hk
/-! comprehensions -/
abbrev noE : Exn → B.Env → Prop := fun _ _ => False
@[simp ↓] theorem W_mComp {vs : List Nat} {mi : M (List D)} {g : D → M Unit} {mt : M Bool} {me : M Rs} {Q : Rs → B.Env → Prop} : W (mComp vs mi g mt me) β Q E ↔ W mi β (fun ds β1 => W (compV g mt me vs ds) β1 Q E) E := by
  unfold mComp
  exact W_bnd
@[simp ↓] theorem W_mYes {Q : Bool → B.Env → Prop} : W mYes β Q E ↔ Q true β := by with_unfolding_all exact Iff.rfl
theorem compL_cons {g : D → M Unit} {mt : M Bool} {me : M Rs} {vs : List Nat} {d : D} {ds acc : List D} {Q : List D → B.Env → Prop}
    (h : W (g d) β (fun _ β1 => W mt β1 (fun k β2 => if k = true then W me β2 (fun r β3 => acc.length < sizeLine ∧ W (compL g mt me vs ds (acc ++ [r.d])) (wipeB β3 vs) Q noE) noE else W (compL g mt me vs ds acc) (wipeB β2 vs) Q noE) noE) noE) : W (compL g mt me vs (d :: ds) acc) β Q noE := by
  unfold W at h ⊢
  simp only [compL]
  cases e : g d β with
  | stuck => rw [e] at h; exact h.elim
  | exc x β1 => rw [e] at h; exact h.elim
  | ok u β1 =>
    rw [e] at h
    simp only at h ⊢
    cases e2 : mt β1 with
    | stuck => rw [e2] at h; exact h.elim
    | exc x β2 => rw [e2] at h; exact h.elim
    | ok k β2 =>
      rw [e2] at h
      cases k with
      | false => simpa using h
      | true =>
        simp only [if_true] at h ⊢
        cases e3 : me β2 with
        | stuck => rw [e3] at h; exact h.elim
        | exc x β3 => rw [e3] at h; exact h.elim
        | ok r β3 =>
          rw [e3] at h
          simp only at h ⊢
          rw [if_pos h.1]
          exact h.2
theorem W_compV {g : D → M Unit} {mt : M Bool} {me : M Rs} {vs : List Nat} {ds : List D} {Q : Rs → B.Env → Prop} (I : Nat → List D → B.Env → Prop) (hno : noOwn β vs = true) (h0 : I 0 [] (wipeB β vs))
    (step : ∀ i d acc β1, ds[i]? = some d → I i acc β1 → W (g d) β1 (fun _ β2 => W mt β2 (fun k β3 => if k = true then W me β3 (fun r β4 => acc.length < sizeLine ∧ I (i + 1) (acc ++ [r.d]) (wipeB β4 vs)) noE else I (i + 1) acc (wipeB β3 vs)) noE) noE)
    (fin : ∀ acc β1, I ds.length acc β1 → Q (.own (.nd .lst acc)) (backB β β1 vs)) : W (compV g mt me vs ds) β Q E := by
  have key : ∀ (n i : Nat) (acc : List D) (β1 : B.Env), i + n = ds.length → I i acc β1 → W (compL g mt me vs (ds.drop i) acc) β1 (fun acc β2 => I ds.length acc β2) noE := by
    intro n
    induction n with
    | zero =>
      intro i acc β1 hi h
      rw [List.drop_of_length_le (by omega)]
      have : i = ds.length := by omega
      subst this
      with_unfolding_all exact h
    | succ n ih =>
      intro i acc β1 hi h
      have hlt : i < ds.length := by omega
      rw [List.drop_eq_getElem_cons hlt]
      refine compL_cons ((step i _ acc β1 (List.getElem?_eq_getElem hlt) h).mono (fun _ β2 h2 => h2.mono (fun k β3 h3 => ?_) fun _ _ h => h) fun _ _ h => h)
      cases k with
      | false =>
        simp only [Bool.false_eq_true, if_false] at h3 ⊢
        exact ih (i + 1) acc _ (by omega) h3
      | true =>
        simp only [if_true] at h3 ⊢
        exact h3.mono (fun r β4 h4 => ⟨h4.1, ih (i + 1) _ _ (by omega) h4.2⟩) fun _ _ h => h
  have h := key ds.length 0 [] _ (by omega) h0
  rw [List.drop_zero] at h
  obtain ⟨acc, β1, e, hI⟩ := h.eq fun _ _ h => h
  unfold W compV
  rw [if_pos hno, e]
  exact fin acc β1 hI
/-- where all is told by functions and the slots stay -/
theorem W_compF {g : D → M Unit} {mt : M Bool} {me : M Rs} {vs : List Nat} {ds : List D} {Q : Rs → B.Env → Prop} (p : D → Bool) (f : D → D) (hno : noOwn β vs = true) (hlen : ds.length < sizeLine)
    (step : ∀ d, d ∈ ds → W (g d) (wipeB β vs) (fun _ β2 => W mt β2 (fun k β3 => k = p d ∧ if p d = true then W me β3 (fun r β4 => r.d = f d ∧ wipeB β4 vs = wipeB β vs) noE else wipeB β3 vs = wipeB β vs) noE) noE)
    (fin : Q (.own (.nd .lst ((ds.filter p).map f))) (backB β (wipeB β vs) vs)) : W (compV g mt me vs ds) β Q E := by
  refine W_compV (fun i acc β1 => acc = ((ds.take i).filter p).map f ∧ β1 = wipeB β vs) hno ⟨by simp, rfl⟩ (fun i d acc β1 hd ⟨ea, eb⟩ => ?_) fun acc β1 ⟨ea, eb⟩ => ?_
  · subst eb
    have hm : d ∈ ds := List.mem_of_getElem? hd
    have et : ds.take (i + 1) = ds.take i ++ [d] := by rw [List.take_add_one, hd]; rfl
    refine (step d hm).mono (fun _ β2 h2 => h2.mono (fun k β3 h3 => ?_) fun _ _ h => h) fun _ _ h => h
    obtain ⟨rfl, h3⟩ := h3
    by_cases hp : p d = true
    · rw [if_pos hp] at h3 ⊢
      refine h3.mono (fun r β4 h4 => ⟨?_, ?_, h4.2⟩) fun _ _ h => h
      · rw [ea, List.length_map]
        exact Nat.lt_of_le_of_lt (Nat.le_trans (List.length_filter_le _ _) (List.length_take_le' _ _)) hlen
      · rw [et, List.filter_append, List.map_append, ea, h4.1]
        simp [hp]
    · rw [if_neg hp] at h3 ⊢
      refine ⟨?_, h3⟩
      rw [et, List.filter_append, ea]
      simp [hp]
  · rw [List.take_length] at ea
    rw [ea, eb]
    exact fin
end
end B


set_option Elab.async false
set_option linter.all false
set_option maxRecDepth 100000
set_option maxHeartbeats 4000000
namespace B
open PySem PySem.Spec L2
/-! ## try with clauses of both kinds: with a name, without -/
abbrev Suite := Addr → Value → Option Addr → TS
inductive HdX (X : Cx) : List ExceptHandler → List (Value × Option Nat × Suite) → Prop
  | nil : HdX X [] []
  | cons {x : Str} {c : Value} {ts : Suite} {b₀ : Stmt} {suite : List Stmt} {np pos' : Pos} {hds : List ExceptHandler} {l : List (Value × Option Nat × Suite)} (hc : Names X x c)
      (hsu : ∀ (a : Addr) (oe : Obj) (cls : Value) (d : Option Addr) (pn : List (Addr × Obj)), Zc cls d oe → (∃ vs, oe.data = .fields vs) → PSs (X.suite a ((a, oe) :: pn)) (b₀ :: suite) (ts a cls d)) (r : HdX X hds l) :
      HdX X (.ExceptHandler (some (.Name x np)) none (b₀ :: suite) pos' :: hds) ((c, none, ts) :: l)
  | named {x n : Str} {i : Nat} {c : Value} {ts : Suite} {b₀ : Stmt} {suite : List Stmt} {np pos' : Pos} {hds : List ExceptHandler} {l : List (Value × Option Nat × Suite)} (hc : Names X x c) (hN : X.N.Nodup) (hi : X.N[i]? = some n) (hln : X.env.kindOf n = some .local)
      (hsu : ∀ (a : Addr) (oe : Obj) (cls : Value) (d : Option Addr) (pn : List (Addr × Obj)), Zc cls d oe → (∃ vs, oe.data = .fields vs) → PSs (X.suite a ((a, oe) :: pn)) (b₀ :: suite) (ts a cls d)) (r : HdX X hds l) :
      HdX X (.ExceptHandler (some (.Name x np)) (some n) (b₀ :: suite) pos' :: hds) ((c, some i, ts) :: l)
section
variable {X : Cx} {body : List Stmt} {h₀ : ExceptHandler} {hds : List ExceptHandler} {l : List (Value × Option Nat × Suite)} {pos : Pos} {tb : WX → TS} {Wout : WX}
/-- an exception on the ground of this frame -/
structure Fell (X : Cx) (pins : List (Addr × Obj)) (a : Addr) (B : Heap) (sI : Shared) (σ : L2.St) (H : Hp) (cls : Value) (d : Option Addr) (s' : Shared) : Prop where
  J : Inv X pins σ H sI
  nb : ∀ b o, sI.heap.get? b = some o → b ∉ frs X.stack → B.get? b = some o
  na : H a = none
  up : sI.heap.UpToSlots s'.heap
  os : s'.os = sI.os
  ag : PyProof.Rows.AllBare s'.gens
  fl : HandSPX.FlyingZ B (X.env :: X.outer) a (Zc cls d) s'.heap
theorem Fell.on {pins : List (Addr × Obj)} {a : Addr} {B : Heap} {sI s' : Shared} {σ : L2.St} {H : Hp} {cls : Value} {d : Option Addr} {h' : Heap} (f : Fell X pins a B sI σ H cls d s') (fl : HandSPX.FlyingZ B (X.env :: X.outer) a (Zc cls d) h') (up : s'.heap.UpToSlots h') :
    Fell X pins a B sI σ H cls d { s' with heap := h' } := ⟨f.J, f.nb, f.na, f.up.trans up, f.os, f.ag, fl⟩
/-- the suite's context -/
theorem Fell.suite {pins : List (Addr × Obj)} {a : Addr} {B : Heap} {sI s' : Shared} {σ : L2.St} {H : Hp} {cls : Value} {d : Option Addr} (f : Fell X pins a B sI σ H cls d s') (hf : X.env.frame = some X.env.locals) :
    Inv X pins σ H s' ∧ ∃ (oe : Obj) (vs : Array Value), s'.heap.get? a = some oe ∧ Zc cls d oe ∧ oe.data = .fields vs ∧ Inv (X.suite a ((a, oe) :: (X.pn ++ pins))) [] σ H s' := by
  have J := f.J.landed f.nb f.fl.1 f.up f.os f.ag
  obtain ⟨oe, vs, he, hz, hd⟩ := f.fl.there
  have out : a ∉ frs (X.env :: X.outer) := fun m => by
    obtain ⟨_, o, e, n⟩ := f.fl.2.2.1.mem m
    rw [he] at e
    cases e
    exact n _ hd
  refine ⟨J, oe, vs, he, hz, hd, J.suite he hd f.na (fun z => out (List.mem_filterMap.mpr ⟨X.env, List.mem_cons_self, by rw [hf, z]⟩)) fun m => ?_⟩
  obtain ⟨e, h1, h2⟩ := List.mem_filterMap.mp m
  exact out (List.mem_filterMap.mpr ⟨e, List.mem_cons_of_mem _ h1, h2⟩)
end
end B


set_option Elab.async false
set_option linter.all false
set_option maxRecDepth 100000
set_option maxHeartbeats 4000000
namespace B
open PySem PySem.Spec L2
/-! ## raise -/
abbrev veTail : List Value := [.type "ValueError", .type "Exception", .type "BaseException", .type "object"]
/-- what the written part says of an exception's class without an __init__ of the program -/
structure XCls (K : PySem.W.Frag) (mg : Str → Option Value) (c : Str) : Prop where
  ex : ∃ C : Addr, mg c = some (.ref C) ∧ PySem.W.excIn K C veTail "ValueError.__new__" = true ∧ PySem.W.keepIn K (.ref C) = true ∧ PySem.W.subIn K (.ref C) (.type "BaseException") = some true ∧ PySem.W.typeIn K (.ref C) = some (.type "type")
def mRaise0 (c : Str) : M Fl := fun β => .exc ⟨c, []⟩ β
section
variable {X : Cx} {x : Str} {p p2 pos pos' : Pos}
/-! with an __init__ that calls the base's and stores one field -/
/-- RuleError.__init__(self, ..): the base's, found through an own class -/
structure ReC (K : PySem.W.Frag) (mg : Str → Option Value) (c : Str) : Prop where
  ex : ∃ C : Addr, mg c = some (.ref C) ∧ PySem.W.readsIn K C (.type "type") = true ∧ PySem.W.specialIn K (.ref C) "__getattribute__" = some (some (.builtin "type.__getattribute__")) ∧ PySem.W.findCls K (.ref C) (.type "type") "__init__" = some (.val (.builtin "ValueError.__init__"))
theorem pe_reinit {e : Expr} {es : List Expr} {ta : TA} {p1 : Pos} (Z : ReC X.K X.mg x) (ha : PA X (e :: es) ta) (hg : Gl X x := by rfl) (hdb : (x == ("__debug__" : Str)) = false := by decide) {pl : Sem Bool}
    (hc : eval (.Call (.Attribute (.Name x p1) "__init__" p2) (e :: es) [] pos) X.env = (do
      let ov ← eval (.Name x p1) X.env
      standAt p2.atName
      let (f, first) ← holding [ov] (getMethod ov "__init__" pl)
      callWith pos f first (backTo pos (starEach (e :: es) X.env)) (backToKw pos (keywordEach [] X.env))) := by rfl)
    (he : starEach (e :: es) X.env = (false, eval e X.env) :: starEach es X.env := by rfl) (hpl : (backTo pos (starEach es X.env)).any (·.1) = false := by rfl) :
    PE X (.Call (.Attribute (.Name x p1) "__init__" p2) (e :: es) [] pos) (tVeI X.K ta) := by
  obtain ⟨C0, gC, rd, ga, vV⟩ := Z.ex
  refine ⟨fun pins s σ H Q I h => PySem.W.methodCall_KW (ld_glob I hg gC ?_ hdb) hc⟩
  refine PySem.W.method_cls I.kIn ga (PySem.W.cls_value I.kIn rd vV (by decide +kernel) ?_)
  show wpAny _ _ (callWith pos (Value.builtin "ValueError.__init__") [] (backTo pos (starEach (e :: es) X.env)) []) _ _ _
  refine PyProof.Rows.callWith_method1 (thn (ha.run pos pins _ σ H _ (I.tok _) h) fun us s1 ⟨vs, H1, I1, r1, a, C, ws, ev, hl, T, ea, q⟩ => ?_) he hpl
  subst ev
  cases r1 with
  | @cons _ u0 _ ur ra rw' =>
    cases (show u0 = Value.ref a from ra)
    exact oinit_ok T I1 ea (by rw [← Paired.length rw', sizeLine_eq]; omega) fun s' J => ⟨.non, H1, J, rfl, q⟩
/-- the promise of such an __init__, the field f -/
def spXI (K : PySem.W.Frag) (f : Str) : Sp := fun vs H Q E => ∃ a C y, vs = [.ref a, y] ∧ OexC K C ∧ H a = some (exo a C none) ∧ PySem.W.findIn K (.ref C) f = some none ∧
  ∀ dx, H dx = none → dx ≠ a → Q .non (upd (upd H dx (exd dx [(f, y)])) a (exo a C (some dx)))
/-- what the written part says of an exception's class with such an __init__ -/
structure XClsI (K : PySem.W.Frag) (mg : Str → Option Value) (c f : Str) (st : Stmt) (qual : Str) : Prop where
  ex : ∃ (C fI : Addr) (fd : FuncData), mg c = some (.ref C) ∧ OexC K C ∧ PySem.W.findIn K (.ref C) "__init__" = some (some (.ref fI)) ∧ PySem.W.typeIn K (.ref fI) = some (.type "function") ∧ L2.Fun K "__init__" qual st fI fd ∧ Binds K fd ["self", f] ([] : List Value) ∧ PySem.W.findIn K (.ref C) f = some none
def OkXI (P : Program) (w : World) (K : PySem.W.Frag) (mg : Str → Option Value) (base : Heap) (c f : Str) : Prop :=
  ∃ (C fI : Addr) (fd : FuncData), mg c = some (.ref C) ∧ OexC K C ∧ PySem.W.findIn K (.ref C) "__init__" = some (some (.ref fI)) ∧ PySem.W.typeIn K (.ref fI) = some (.type "function") ∧ Binds K fd ["self", f] ([] : List Value) ∧ PySem.W.findIn K (.ref C) f = some none ∧
    FnOk P w K mg base CX0 1 fI fd ["self", f] (spXI K f)
end
def tXI (K : PySem.W.Frag) (f tm : Str) : TS := fun D σ H => tVeI K (tCons (tVar 0) (tCons (tC (.str tm)) tNil)) σ H fun _ H1 => tOst K f (tVar 0) (tVar 1) D σ H1
theorem okXI_of {P : Program} {w : World} {K : PySem.W.Frag} {mg : Str → Option Value} {base : Heap} {c f qual tm : Str} {st : Stmt} (Z : XClsI K mg c f st qual) (S : FnScope ["self", f] ["self", f] (defScope st))
    (hb : ∀ (fI : Addr) (cdv : Value) (A : Around) (outer : List PySem.Env) (s : Shared) (H : Hp) (E : XK), PSs (cxOf CX0 P w K mg base ["self", f] qual (defScope st) fI cdv A outer s H E).nox (defBody st) (tXI K f tm)) : OkXI P w K mg base c f := by
  obtain ⟨C, fI, fd, gC, O, iC, tI, F, hbi, nf⟩ := Z.ex
  refine ⟨C, fI, fd, gC, O, iC, tI, hbi, nf, F.ok S (fun vs H Q E h => by obtain ⟨a, C, y, rfl, _⟩ := h; rfl) fun cdv A outer s H vs Q E hr hsp => ?_⟩
  obtain ⟨a, C', y, rfl, O', ea, nf', q⟩ := hsp
  refine ⟨_, hb fI cdv A outer s H E, ?_⟩
  refine ⟨_, rfl, a, C', [.str tm], rfl, by simp, O', ea, ?_⟩
  exact ⟨_, rfl, _, rfl, a, C', rfl, O', nf', .inl ⟨ea, fun dx h1 h2 => q dx h1 h2⟩⟩
section
variable {X : Cx} {x : Str} {p p2 pos pos' : Pos}
/-- raise C(e), C with such an __init__ -/
def mRaiseI (c f : Str) (ma : M Pl) : M Fl := bnd ma fun q => fun β => match q with
  | .d d => .exc ⟨c, [(f, d)]⟩ β
  | _ => .stuck
theorem bs_raiseI {e : Expr} {f : Str} {k : Nat} {ma : M Pl} (O : OkXI X.prog X.w X.K X.mg X.base x f) (hr : RoomG (k + 2) X.A) (hc : X.calm = true) (ha : BP X e ma) (hg : Gl X x := by rfl) (hdb : (x == ("__debug__" : Str)) = false := by decide)
    (he : starEach [e] X.env = (false, eval e X.env) :: starEach [] X.env := by rfl) (hpl : (backTo pos (starEach ([] : List Expr) X.env)).any (·.1) = false := by rfl) :
    BS X (.Raise (some (.Call (.Name x p) [e] [] pos)) none pos') (mRaiseI x f ma) := by
  obtain ⟨C, fI, fd, gC, O, iC, tI, hb, nf, Fn⟩ := O
  refine fun W tk => (ps_raise hc tk (pmk_oex (ds := []) (dvs := []) O iC tI Fn (hr.r.mono (by omega)) hb .nil pass0 hg gC (pa_cons (ha W tk) pa_nil he) hdb he hpl)).imp fun D σ H ⟨G, io, F, β, I, h⟩ => ?_
  refine ⟨G, io, F, β, I, h.of fun q β1 v H1 F1 fe1 I1 r1 h1 => ?_⟩
  refine ⟨by simp, fun a na => ⟨a, C, v, rfl, O, upd_same, nf, fun dx nd nda => ⟨rfl, dx, [(f, v)], upd_same, ?_, ?_, ?_⟩⟩⟩
  · rw [upd_ne nda, upd_same]
  · rwa [upd_ne nda] at nd
  · have eH : upd (del (upd (upd (upd H1 a (exo a C none)) dx (exd dx [(f, v)])) a (exo a C (some dx))) a) dx (.xd [(f, v)]) = upd H1 dx (.xd [(f, v)]) := by
      funext b
      by_cases h1 : b = dx
      · rw [h1, upd_same, upd_same]
      · rw [upd_ne h1, upd_ne h1]
        by_cases h2 : b = a
        · rw [h2, del_same, na]
        · rw [del_ne h2, upd_ne h2, upd_ne h1, upd_ne h2]
    rw [eH]
    have nd1 : H1 dx = none := by rwa [upd_ne nda] at nd
    cases q with
    | sl i => exact h1.elim
    | d d =>
      have sm : Same F1 (upd F1 dx (.xd [(f, v)])) := fun b u h => by
        rw [upd_ne (ne_of_none h (Same.free I1.sf nd1))]
        exact h
      obtain ⟨fe2, I2⟩ := I1.grow (H' := upd H1 dx (.xd [(f, v)])) (F' := upd F1 dx (.xd [(f, v)])) (fun b u h => by rw [upd_ne (ne_of_none h nd1)]; exact h) sm (fun b u h => by
        by_cases hb : b = dx
        · subst hb
          exact .inr nd1
        · rw [upd_ne hb] at h
          exact .inl h) (fun b u h => by
        by_cases hb : b = dx
        · subst hb
          rw [upd_same] at h ⊢
          exact h
        · rw [upd_ne hb] at h ⊢
          exact I1.sf _ _ h)
      exact h1 σ (.ref C) (some dx) _ _ fe2 I2 ⟨gC, .inr ⟨dx, [(f, v)], [d], rfl, upd_same, rfl, .cons (DR.mono sm r1) .nil, rfl⟩⟩
end
/-! ## try -/
abbrev Su := Addr → Value → Option Addr → M Fl
/-- a clause: which classes it takes, its name's slot, its suite -/
structure Hd where
  t : Str → Option Bool
  i : Option Nat
  m : Su
/-- a slot let go, in the state too -/
theorem BI.gone {K : PySem.W.Frag} {mg : Str → Option Value} {G : GT} {F H : Hp} {io : List Addr} {β : B.Env} {σ : L2.St} (I : BI K mg G F io β σ H) (i : Nat) : BI K mg G F io (β.set i .un) (σ.set i none) H := by
  have J := I.unset i
  have nh : ∀ {l : Nat} {u : Sl}, (β.set i .un)[l]? = some u → isOwn u = true → i ≠ l := fun {l u} e h hl => by
    subst hl
    by_cases hi : i < β.length
    · rw [List.getElem?_set_self hi] at e
      cases e
      cases h
    · rw [List.getElem?_eq_none (by rw [List.length_set]; omega)] at e
      cases e
  refine ⟨J.sg, J.sf, J.ioF, J.ioH, by rw [List.length_set, List.length_set]; exact I.len, fun j s ej => ?_, fun j k s t b ej ek hj hk zj zk => ?_⟩
  · by_cases hj : i = j
    · subst hj
      obtain ⟨o, eo, _⟩ := J.sl i s ej
      have hi : i < β.length := by
        have := (List.getElem?_eq_some_iff.mp ej).1
        rwa [List.length_set] at this
      rw [List.getElem?_set_self hi] at ej
      cases ej
      exact ⟨none, List.getElem?_set_self (by rw [← I.len]; exact hi), trivial⟩
    · rw [List.getElem?_set_ne hj]
      exact J.sl j s ej
  · rw [List.getElem?_set_ne (nh ej hj)] at zj
    rw [List.getElem?_set_ne (nh ek hk)] at zk
    exact J.apart j k s t b ej ek hj hk zj zk
/-- the clauses -/
inductive HdB (X : Cx) : List ExceptHandler → List Hd → Prop
  | nil : HdB X [] []
  | cons {x : Str} {c : Value} {h : Hd} {b₀ : Stmt} {suite : List Stmt} {np pos' : Pos} {hds : List ExceptHandler} {l : List Hd} (hi : h.i = none) (hc : Names X x c) (ht : ∀ nm cls b, h.t nm = some b → X.mg nm = some cls → PySem.W.exmOne X.K cls c = some b)
      (hsu : ∀ (a : Addr) (oe : Obj) (cls : Value) (d : Option Addr) (pn : List (Addr × Obj)), Zc cls d oe → (∃ vs, oe.data = .fields vs) → BSs (X.suite a ((a, oe) :: pn)) (b₀ :: suite) (h.m a cls d)) (r : HdB X hds l) :
      HdB X (.ExceptHandler (some (.Name x np)) none (b₀ :: suite) pos' :: hds) (h :: l)
  | named {x n : Str} {i : Nat} {c : Value} {h : Hd} {b₀ : Stmt} {suite : List Stmt} {np pos' : Pos} {hds : List ExceptHandler} {l : List Hd} (hi : h.i = some i) (hc : Names X x c) (ht : ∀ nm cls b, h.t nm = some b → X.mg nm = some cls → PySem.W.exmOne X.K cls c = some b)
      (hN : X.N.Nodup) (hn : X.N[i]? = some n) (hln : X.env.kindOf n = some .local)
      (hsu : ∀ (a : Addr) (oe : Obj) (cls : Value) (d : Option Addr) (pn : List (Addr × Obj)), Zc cls d oe → (∃ vs, oe.data = .fields vs) → BSs (X.suite a ((a, oe) :: pn)) (b₀ :: suite) (h.m a cls d)) (r : HdB X hds l) :
      HdB X (.ExceptHandler (some (.Name x np)) (some n) (b₀ :: suite) pos' :: hds) (h :: l)
section
variable {X : Cx}
variable {body : List Stmt} {h₀ : ExceptHandler} {hds : List ExceptHandler} {hs : List Hd} {pos : Pos} {mb : M Fl}
end
/-! ## in a suite -/
/-- what the written part says of an exception's class, so that isinstance answers -/
structure XIs (K : PySem.W.Frag) (mg : Str → Option Value) (c : Str) : Prop where
  ex : ∃ C : Addr, mg c = some (.ref C) ∧ (PySem.W.clsIn K C).isSome = true ∧ PySem.W.findIn K (.ref C) "__getattribute__" = some (some (.builtin "BaseException.__getattribute__")) ∧ PySem.W.findIn K (.ref C) "__getattr__" = some none ∧
    PySem.W.subIn K (.ref C) (.type "BaseException") = some true ∧ PySem.W.findIn K (.ref C) "__class__" = some (some (.builtin "object.__class__")) ∧ PySem.W.hasDictIn K C = true ∧ PySem.W.mroIn K C (.type "object") = some true
structure XObj (K : PySem.W.Frag) : Prop where
  hn : PySem.W.specialIn K (.builtin "object.__class__") "__get__" = some (some (.builtin "getset_descriptor.__get__"))
  ht : PySem.W.takesIn K (.builtin "object.__class__") = some true
section
variable {X : Cx} {a : Addr} {oe : Obj} {pn : List (Addr × Obj)} {cls : Value} {d : Option Addr} {c : Str}
open Classical in
/-- isinstance(e, T), in the suite: by a table -/
noncomputable def mIsE (i : Nat) (tab : Str → Option Bool) (a : Addr) (cls : Value) (d : Option Addr) : M Rs := fun β => match β[i]? with
  | some (.ex z) => if z.a = a ∧ z.cls = cls ∧ z.dd = d then (match tab z.x.cls with
    | some b => .ok (.fz (.bl b)) β
    | none => .stuck) else .stuck
  | _ => .stuck
open Classical in
/-- e.f -/
noncomputable def mXf (i : Nat) (f : Str) (ok : Str → Bool) (a : Addr) (cls : Value) (d : Option Addr) : M Rs := fun β => match β[i]? with
  | some (.ex z) => if (z.a = a ∧ z.cls = cls ∧ z.dd = d) ∧ ok z.x.cls = true then (match z.x.fs.lookup f with
    | some v => .ok (.fz v) β
    | none => .stuck) else .stuck
  | _ => .stuck
/-- a class, by its name -/
inductive ClsNm (X : Cx) (y : Str) : V → Value → Prop
  | own (C : Addr) (hg : Gl X y) (hm : X.mg y = some (.ref C)) (hd : (y == ("__debug__" : Str)) = false) : ClsNm X y (.ref C) (.ref C)
  | ty (n : String) (hg : Gl X y) (hm : X.mg y = none) (hb : bootBuiltins y = some (.type n)) (hn : y ≠ "__name__") (hd : (y == ("__debug__" : Str)) = false) : ClsNm X y (.ty n) (.type n)
theorem ClsNm.suite {y : Str} {v : V} {cv : Value} (h : ClsNm X y v cv) : ClsNm (X.suite a pn) y v cv := by
  cases h with
  | own C hg hm hd => exact .own C hg hm hd
  | ty n hg hm hb hn hd => exact .ty n hg hm hb hn hd
theorem pe_clsnm {y : Str} {v : V} {cv : Value} {pos : Pos} (h : ClsNm X y v cv) : PE X (.Name y pos) (tC v) := by
  cases h with
  | own C hg hm hd => exact pe_glob hg hm rfl hd
  | ty n hg hm hb hn hd => exact pe_bltn (v := .ty n) hg hm hb rfl hn hd
theorem XR.xd {K : PySem.W.Frag} {mg : Str → Option Value} {F H : Hp} {x : Exn} (h : XR K mg F cls d x) (sf : Same F H) : ∀ dd, d = some dd → ∃ fs, H dd = some (.xd fs) := fun dd e => by
  obtain ⟨_, ⟨_, h⟩ | ⟨dd', fs, ds, h, h2, _⟩⟩ := h
  · rw [h] at e
    cases e
  · rw [h] at e
    cases e
    exact ⟨fs, sf _ _ h2⟩
section
variable {x y : Str} {i : Nat} {p px py pos : Pos} {tab : Str → Option Bool} {v : V} {cv : Value}
/-- the items' classes -/
inductive ClsNms (X : Cx) : List Str → List V → List Value → Prop
  | nil : ClsNms X [] [] []
  | cons {y : Str} {ys : List Str} {v : V} {vs : List V} {c : Value} {cs : List Value} : ClsNm X y v c → ClsNms X ys vs cs → ClsNms X (y :: ys) (v :: vs) (c :: cs)
def tCs : List V → TA
  | [] => tNil
  | v :: vs => tCons (tC v) (tCs vs)
/-- an exception's field may be read -/
structure XFld (K : PySem.W.Frag) (mg : Str → Option Value) (c f : Str) : Prop where
  ex : ∃ C : Addr, mg c = some (.ref C) ∧ XfC K C ∧ PySem.W.findIn K (.ref C) f = some none
/-! operations there -/
end
end
/-! ## by what is wished for -/
section
variable {β : B.Env} {Q : Fl → B.Env → Prop} {E : Exn → B.Env → Prop}
@[simp ↓] theorem W_raise0 {c : Str} : W (mRaise0 c) β Q E ↔ E ⟨c, []⟩ β := by with_unfolding_all exact Iff.rfl
def plD (q : Pl) (P : D → Prop) : Prop := match q with
  | .d d => P d
  | _ => False
@[simp ↓] theorem plD_d {d : D} {P : D → Prop} : plD (.d d) P ↔ P d := Iff.rfl
@[simp ↓] theorem W_raiseI {c f : Str} {ma : M Pl} : W (mRaiseI c f ma) β Q E ↔ W ma β (fun q β1 => plD q fun d => E ⟨c, [(f, d)]⟩ β1) E := by
  unfold mRaiseI
  refine W_bnd.trans (W_congr fun q β1 => ?_)
  cases q <;> with_unfolding_all exact Iff.rfl
def exW (s : Option Sl) (P : Ez → Prop) : Prop := match s with
  | some (.ex z) => P z
  | _ => False
@[simp ↓] theorem exW_ex {z : Ez} {P : Ez → Prop} : exW (some (.ex z)) P ↔ P z := Iff.rfl
@[simp ↓] theorem W_mIsE {i : Nat} {tab : Str → Option Bool} {a : Addr} {cls : Value} {d : Option Addr} {Q : Rs → B.Env → Prop} : W (mIsE i tab a cls d) β Q E ↔ exW β[i]? fun z => (z.a = a ∧ z.cls = cls ∧ z.dd = d) ∧ optW (tab z.x.cls) fun b => Q (.fz (.bl b)) β := by
  unfold W mIsE exW
  rcases β[i]? with _ | _ | _ | z | ⟨_, _⟩ | _
  · with_unfolding_all rfl
  · with_unfolding_all rfl
  · with_unfolding_all rfl
  · simp only
    by_cases h : z.a = a ∧ z.cls = cls ∧ z.dd = d
    · rw [if_pos h]
      cases tab z.x.cls with
      | none => simp [h]
      | some b => simp [h]
    · rw [if_neg h]
      simp [h]
  · with_unfolding_all rfl
  · with_unfolding_all rfl
@[simp ↓] theorem W_mXf {i : Nat} {f : Str} {ok : Str → Bool} {a : Addr} {cls : Value} {d : Option Addr} {Q : Rs → B.Env → Prop} : W (mXf i f ok a cls d) β Q E ↔ exW β[i]? fun z => ((z.a = a ∧ z.cls = cls ∧ z.dd = d) ∧ ok z.x.cls = true) ∧ optW (z.x.fs.lookup f) fun w => Q (.fz w) β := by
  unfold W mXf exW
  rcases β[i]? with _ | _ | _ | z | ⟨_, _⟩ | _
  · with_unfolding_all rfl
  · with_unfolding_all rfl
  · with_unfolding_all rfl
  · simp only
    by_cases h : (z.a = a ∧ z.cls = cls ∧ z.dd = d) ∧ ok z.x.cls = true
    · rw [if_pos h]
      cases z.x.fs.lookup f with
      | none => simp [h]
      | some b => simp [h]
    · rw [if_neg h]
      simp [h]
  · with_unfolding_all rfl
  · with_unfolding_all rfl
end
end B


set_option Elab.async false
set_option linter.all false
set_option maxRecDepth 100000
set_option maxHeartbeats 4000000
namespace B
open PySem PySem.Spec L2
open PySem.W (dataLt alike dataLe AllAlike Sortable)
/-! ## order of data -/
def cmpOk (d e : D) : Bool := ((toPy d).canLay0 && (toPy e).canLay0) && (alike (toPy d) (toPy e) && !isN d) && decide ((toPy d).depth ≤ 64)
def gLtX : D → D → Option Rs
  | .int i, .int j => some (.fz (.bl (decide (i < j))))
  | d, e => if cmpOk d e = true then some (.fz (.bl (dataLt (toPy d) (toPy e)))) else none
def gGtX : D → D → Option Rs
  | .int i, .int j => some (.fz (.bl (decide (j < i))))
  | d, e => if cmpOk d e = true then some (.fz (.bl (dataLt (toPy e) (toPy d)))) else none
def gLtD (d e : D) : Option Rs := if cmpOk d e = true then some (.fz (.bl (dataLt (toPy d) (toPy e)))) else none
def gGtD (d e : D) : Option Rs := if cmpOk d e = true then some (.fz (.bl (dataLt (toPy e) (toPy d)))) else none
theorem isN_py {d : D} (h : isN d = false) : toPy d ≠ .none := by
  cases d with
  | nd t ds => rcases t with _ | _ | _ | _ | _ <;> (intro q; cases q)
  | non => cases h
  | bl b => intro q; cases q
  | int b => intro q; cases q
  | str b => intro q; cases q
section
variable {X : Cx}
theorem opd_ltD (hu : X.A.units + 64 < cLine) : OpD X (compareOp .Lt) gLtD := by
  intro pins s σ H x y v u Q I rx ry ⟨F, d, e, rs, sf, hx, hy, hg, q⟩
  unfold gLtD at hg
  split at hg
  · rename_i hc
    cases hg
    unfold cmpOk at hc
    simp only [Bool.and_eq_true, decide_eq_true_eq, Bool.not_eq_true'] at hc
    obtain ⟨⟨⟨h1, h2⟩, h3, h4⟩, h5⟩ := hc
    obtain ⟨as, ra⟩ := Dp.reads I _ _ _ ((hx.dr sf).dp h1) rx
    obtain ⟨bs, rb⟩ := Dp.reads I _ _ _ ((hy.dr sf).dp h2) ry
    exact PySem.W.lt_data ra rb h3 (isN_py h4) (by omega) ⟨.bl _, H, I, rfl, q _ _ (NR.val sf (.bl _))⟩
  · cases hg
theorem opd_gtD (hu : X.A.units + 64 < cLine) : OpD X (compareOp .Gt) gGtD := by
  intro pins s σ H x y v u Q I rx ry ⟨F, d, e, rs, sf, hx, hy, hg, q⟩
  unfold gGtD at hg
  split at hg
  · rename_i hc
    cases hg
    unfold cmpOk at hc
    simp only [Bool.and_eq_true, decide_eq_true_eq, Bool.not_eq_true'] at hc
    obtain ⟨⟨⟨h1, h2⟩, h3, h4⟩, h5⟩ := hc
    obtain ⟨as, ra⟩ := Dp.reads I _ _ _ ((hx.dr sf).dp h1) rx
    obtain ⟨bs, rb⟩ := Dp.reads I _ _ _ ((hy.dr sf).dp h2) ry
    exact PySem.W.gt_data ra rb h3 (isN_py h4) (by omega) ⟨.bl _, H, I, rfl, q _ _ (NR.val sf (.bl _))⟩
  · cases hg
theorem od_ltX {k : Nat} (r : RoomG k X.A) : OpD X (compareOp .Lt) gLtX := by
  refine ((od_lt).alt (opd_ltD r.u64)).congr fun d e rs h => ?_
  unfold gLtX at h
  split at h
  · exact h
  · rename_i hn
    have e0 : gLt d e = none := by
      unfold gLt gC
      split
      · exact (hn _ _ rfl rfl).elim
      · rfl
    rw [e0]
    exact h
theorem od_gtX {k : Nat} (r : RoomG k X.A) : OpD X (compareOp .Gt) gGtX := by
  refine ((od_gt).alt (opd_gtD r.u64)).congr fun d e rs h => ?_
  unfold gGtX at h
  split at h
  · exact h
  · rename_i hn
    have e0 : gGt d e = none := by
      unfold gGt gC
      split
      · exact (hn _ _ rfl rfl).elim
      · rfl
    rw [e0]
    exact h
end
@[simp ↓] theorem w_ltX {i j : Int} {P : Rs → Prop} : optW (gLtX (.int i) (.int j)) P ↔ P (.fz (.bl (decide (i < j)))) := Iff.rfl
@[simp ↓] theorem w_gtX {i j : Int} {P : Rs → Prop} : optW (gGtX (.int i) (.int j)) P ↔ P (.fz (.bl (decide (j < i)))) := Iff.rfl
/-! ## sorted -/
def leD (a b : D) : Bool := dataLe false toPy a b
def sortD (ds : List D) : List D := ds.mergeSort leD
/-- what sorted asks of the items -/
def sortOk (ds : List D) : Prop := (∀ d ∈ ds, (toPy d).canLay0 = true ∧ (toPy d).depth ≤ 50) ∧ AllAlike (ds.map toPy) ∧ Sortable (ds.map toPy)
open Classical in
noncomputable def gSorted : List D → Option Rs
  | [.nd .lst ds] => if sortOk ds then some (.own (.nd .lst (sortD ds))) else none
  | [.nd .tup ds] => none
  | _ => none
theorem DRs.zip {K : PySem.W.Frag} {mg : Str → Option Value} {F : Hp} : ∀ {vs : List V} {ds : List D}, DRs K mg F vs ds → ∀ p ∈ vs.zip ds, DR K mg F p.1 p.2
  | _, _, .nil, p, h => by cases h
  | _, _, .cons a b, p, h => by
    rw [List.zip_cons_cons] at h
    rcases List.mem_cons.mp h with rfl | h
    · exact a
    · exact DRs.zip b p h
section
variable {X : Cx}
end
/-! ## methods that read -/
def isTyP : String → D → Bool
  | "list", .nd .lst _ => true
  | "dict", .nd .dct _ => true
  | "str", .str _ => true
  | "list", .nd .scr _ => true
  | _, _ => false
def tyP (T : String) (p : Pl) : M Unit := fun β => match look β p with
  | some d => if isTyP T d = true then .ok () β else .stuck
  | none => .stuck
def finMet (T : String) (g : D → List D → Option Rs) (p : Pl) (ps : List Pl) : M Rs := fun β => match look β p, looks β ps with
  | some d, some ds => if isTyP T d = true then (match g d ds with
    | some r => .ok r β
    | none => .stuck) else .stuck
  | _, _ => .stuck
def mMet (T : String) (g : D → List D → Option Rs) (mo : M Pl) (ma : M (List Pl)) : M Rs := bnd mo fun p => bnd (tyP T p) fun _ => bnd ma fun ps => finMet T g p ps
section
variable {X : Cx} {apos cpos : Pos} {o e : Expr} {es : List Expr} {mo : M Pl} {ma : M (List Pl)} {T id' : String} {name : Str} {g : D → List D → Option Rs}
/-! list.count, list.index -/
def gIndex : D → List D → Option Rs
  | .nd .lst ds, [d] => if shp d = true ∧ shp (.nd .lst ds) = true then (ds.findIdx? fun z => eqv z d).map fun j => .fz (.int (j : Nat)) else none
  | _, _ => none
/-! ## clear, insert -/
def gClear : D → List D → Option (D × D)
  | .nd .lst ds, [] => some (.non, .nd .lst [])
  | _, _ => none
end
/-! ## sorted(set(..)) of tuples of ints -/
def tupI? : D → Option (List Int)
  | .nd .tup ds => ints? ds
  | _ => none
def tups? : List D → Option (List (List Int))
  | [] => some []
  | d :: ds => match tupI? d, tups? ds with
    | some k, some ks => some (k :: ks)
    | _, _ => none
def tupD (ns : List Int) : D := .nd .tup (ns.map D.int)
theorem tups_of : ∀ {ds : List D} {ks : List (List Int)}, tups? ds = some ks → ds = ks.map tupD
  | [], ks, h => by cases h; rfl
  | d :: ds, ks, h => by
    unfold tups? at h
    cases e1 : tupI? d with
    | none => rw [e1] at h; cases h
    | some k =>
      cases e2 : tups? ds with
      | none => rw [e1, e2] at h; cases h
      | some l =>
        rw [e1, e2] at h
        cases h
        unfold tupI? at e1
        split at e1
        · rw [ints_of e1, tups_of e2]
          rfl
        · cases e1
theorem tups_map : ∀ ks : List (List Int), tups? (ks.map tupD) = some ks
  | [] => rfl
  | k :: ks => by
    show (match ints? (k.map D.int), tups? (ks.map tupD) with
      | some k, some ks => some (k :: ks)
      | _, _ => none) = _
    rw [ints_map, tups_map ks]
/-- put in its place, once -/
def tins (x : List Int) : List (List Int) → List (List Int)
  | [] => [x]
  | y :: ys => if x = y then y :: ys else if x < y then x :: y :: ys else y :: tins x ys
def tset (ks : List (List Int)) : List (List Int) := ks.foldr tins []
theorem mem_tins {x z : List Int} : ∀ {ys : List (List Int)}, z ∈ tins x ys ↔ z = x ∨ z ∈ ys
  | [] => by simp [tins]
  | y :: ys => by
    unfold tins
    split
    · rename_i h
      subst h
      simp
    · split
      · simp
      · rw [List.mem_cons, mem_tins, List.mem_cons]
        constructor
        · rintro (h | h | h)
          · exact .inr (.inl h)
          · exact .inl h
          · exact .inr (.inr h)
        · rintro (h | h | h)
          · exact .inr (.inl h)
          · exact .inl h
          · exact .inr (.inr h)
theorem mem_tset {z : List Int} : ∀ {ks : List (List Int)}, z ∈ tset ks ↔ z ∈ ks
  | [] => by simp [tset]
  | k :: ks => by
    show z ∈ tins k (tset ks) ↔ _
    rw [mem_tins, mem_tset, List.mem_cons]
theorem lt_asymm' {a b : List Int} (h : a < b) : ¬ b < a := fun q => List.lt_irrefl a (List.lt_trans h q)
theorem tins_sorted {x : List Int} : ∀ {ys : List (List Int)}, ys.Pairwise (· < ·) → (tins x ys).Pairwise (· < ·)
  | [], _ => by simp [tins]
  | y :: ys, h => by
    obtain ⟨h1, h2⟩ := List.pairwise_cons.mp h
    unfold tins
    split
    · exact h
    · rename_i hne
      split
      · rename_i hlt
        exact List.pairwise_cons.mpr ⟨fun z hz => (List.mem_cons.mp hz).elim (fun e => e ▸ hlt) fun hz => List.lt_trans hlt (h1 z hz), h⟩
      · rename_i hnlt
        have hyx : y < x := by
          rcases List.le_iff_lt_or_eq.mp (List.not_lt.mp hnlt) with h | h
          · exact h
          · exact absurd h.symm hne
        refine List.pairwise_cons.mpr ⟨fun z hz => ?_, tins_sorted h2⟩
        rcases mem_tins.mp hz with e | hz
        · exact e ▸ hyx
        · exact h1 z hz
theorem tset_sorted : ∀ ks : List (List Int), (tset ks).Pairwise (· < ·)
  | [] => .nil
  | k :: ks => tins_sorted (tset_sorted ks)
/-- two strictly rising lists with the same members -/
theorem rising_eq : ∀ {a b : List (List Int)}, a.Pairwise (· < ·) → b.Pairwise (· < ·) → (∀ z, z ∈ a ↔ z ∈ b) → a = b
  | [], [], _, _, _ => rfl
  | [], y :: b, _, _, h => absurd ((h y).mpr List.mem_cons_self) (by simp)
  | x :: a, [], _, _, h => absurd ((h x).mp List.mem_cons_self) (by simp)
  | x :: a, y :: b, ha, hb, h => by
    obtain ⟨a1, a2⟩ := List.pairwise_cons.mp ha
    obtain ⟨b1, b2⟩ := List.pairwise_cons.mp hb
    have e : x = y := by
      rcases List.mem_cons.mp ((h x).mp List.mem_cons_self) with e | m
      · exact e
      · rcases List.mem_cons.mp ((h y).mpr List.mem_cons_self) with e | m'
        · exact e.symm
        · exact absurd (a1 y m') (lt_asymm' (b1 x m))
    subst e
    rw [rising_eq a2 b2 fun z => ?_]
    constructor
    · intro hz
      rcases List.mem_cons.mp ((h z).mp (List.mem_cons_of_mem _ hz)) with e | m
      · exact absurd (e ▸ a1 z hz) (List.lt_irrefl x)
      · exact m
    · intro hz
      rcases List.mem_cons.mp ((h z).mpr (List.mem_cons_of_mem _ hz)) with e | m
      · exact absurd (e ▸ b1 z hz) (List.lt_irrefl x)
      · exact m
end B


set_option Elab.async false
set_option linter.all false
set_option maxRecDepth 100000
set_option maxHeartbeats 4000000
namespace B
open PySem PySem.Spec L2
theorem DRs.tups {K : PySem.W.Frag} {mg : Str → Option Value} {F : Hp} : ∀ {ks : List (List Int)} {vs : List V}, DRs K mg F vs (ks.map tupD) → ∃ ps : List (Addr × List Int), vs = ps.map (fun p => V.ref p.1) ∧ ps.map (·.2) = ks ∧ ∀ p ∈ ps, F p.1 = some (.tup (p.2.map V.int)) ∧ DR K mg F (.ref p.1) (tupD p.2)
  | [], _, .nil => ⟨[], rfl, rfl, fun _ h => nomatch h⟩
  | k :: ks, _, .cons (v := v) a b => by
    obtain ⟨ps, e1, e2, e3⟩ := DRs.tups b
    have ha := a
    cases a with
    | @tup t ws _ h r =>
      have := r.int_of
      subst this
      exact ⟨(t, k) :: ps, by rw [e1]; rfl, by rw [List.map_cons, e2], fun p hp => by
        rcases List.mem_cons.mp hp with e | hp
        · subst e
          exact ⟨h, ha⟩
        · exact e3 p hp⟩
section
variable {X : Cx} {a : Expr} {ma : M Pl} {p p2 q pos : Pos}
end
end B


set_option Elab.async false
set_option linter.all false
set_option maxRecDepth 100000
set_option maxHeartbeats 4000000
namespace B
open PySem PySem.Spec L2
/-! ## own classes -/
/-- what the written part says of a class with an __init__ (st: its def) -/
structure ICls (K : PySem.W.Frag) (mg : Str → Option Value) (c : Str) (flds : List Str) (st : Stmt) (qual : Str) (ps : List Str) : Prop where
  ex : ∃ (C fi : Addr) (fd : FuncData), mg c = some (.ref C) ∧ Cls K C ∧ (∀ f ∈ flds, NoAttr K C f) ∧ Mk K C fi ∧ L2.Fun K "__init__" qual st fi fd ∧ Binds K fd ps []
theorem ICls.fld {X : Cx} {c : Str} {flds : List Str} {st : Stmt} {qual : Str} {ps : List Str} (Z : ICls X.K X.mg c flds st qual ps) {f : Str} (hf : f ∈ flds) : FldOk X c f := fun C e => by
  obtain ⟨C', fi, fd, g, cl, na, _⟩ := Z.ex
  cases g.symm.trans e
  exact ⟨cl, na f hf⟩
/-- a method: __eq__ -/
structure MCls (K : PySem.W.Frag) (mg : Str → Option Value) (c m : Str) (st : Stmt) (qual : Str) (ps : List Str) : Prop where
  ex : ∃ (C fi : Addr) (fd : FuncData), mg c = some (.ref C) ∧ PySem.W.findIn K (.ref C) m = some (some (.ref fi)) ∧ PySem.W.isFn K (.ref fi) = true ∧ L2.Fun K m qual st fi fd ∧ Binds K fd ps []
/-- a def's promise, wherever it is found -/
def OkM (P : Program) (w : World) (K : PySem.W.Frag) (mg : Str → Option Value) (base : Heap) (k : Nat) (c m : Str) (ps : List Str) (ks : List Bool) (r : List D → FR) : Prop :=
  ∃ (C fi : Addr) (fd : FuncData), mg c = some (.ref C) ∧ PySem.W.findIn K (.ref C) m = some (some (.ref fi)) ∧ PySem.W.isFn K (.ref fi) = true ∧ PySem.W.keepIn K (.ref fi) = true ∧ FnG P w K mg base k fi fd ps (spB K mg ks r) ∧ Binds K fd ps []
def OkI (P : Program) (w : World) (K : PySem.W.Frag) (mg : Str → Option Value) (base : Heap) (k : Nat) (c : Str) (ps : List Str) (ks : List Bool) (r : List D → FR) : Prop :=
  ∃ (C fi : Addr) (fd : FuncData), mg c = some (.ref C) ∧ Mk K C fi ∧ FnG P w K mg base k fi fd ps (spB K mg ks r) ∧ Binds K fd ps []
section
variable {P : Program} {w : World} {K : PySem.W.Frag} {mg : Str → Option Value} {base : Heap} {k : Nat} {c m qual : Str} {st : Stmt} {N ps flds : List Str} {mf : M Fl}
theorem okM_of (ks : List Bool) (L : MCls K mg c m st qual ps) (S : FnScope N ps (defScope st)) (hk : ks.length = ps.length)
    (hb : ∀ (f : Addr) (cdv : Value) (A : Around) (outer : List PySem.Env) (s : Shared) (H : Hp) (E : XK), RoomG k (A.deeper (PyProof.Rows.envOfC qual (defScope st) s.heap.objs.size f cdv)) → BSs (cxOf (L2.CX P w) P w K mg base N qual (defScope st) f cdv A outer s H E) (defBody st) mf) :
    OkM P w K mg base (k + 1) c m ps ks (runB ks N.length mf) := by
  obtain ⟨C, fi, fd, g, h1, h2, F, b⟩ := L.ex
  exact ⟨C, fi, fd, g, h1, h2, F.kp, fnB ks F S hk fun cdv A outer s H E => hb fi cdv A outer s H E, b⟩
theorem okI_of (ks : List Bool) (L : ICls K mg c flds st qual ps) (S : FnScope N ps (defScope st)) (hk : ks.length = ps.length)
    (hb : ∀ (f : Addr) (cdv : Value) (A : Around) (outer : List PySem.Env) (s : Shared) (H : Hp) (E : XK), RoomG k (A.deeper (PyProof.Rows.envOfC qual (defScope st) s.heap.objs.size f cdv)) → BSs (cxOf (L2.CX P w) P w K mg base N qual (defScope st) f cdv A outer s H E) (defBody st) mf) :
    OkI P w K mg base (k + 1) c ps ks (runB ks N.length mf) := by
  obtain ⟨C, fi, fd, g, _, _, M, F, b⟩ := L.ex
  exact ⟨C, fi, fd, g, M, fnB ks F S hk fun cdv A outer s H E => hb fi cdv A outer s H E, b⟩
end
theorem FnG.imp {P : Program} {w : World} {K : PySem.W.Frag} {mg : Str → Option Value} {base : Heap} {k : Nat} {f : Addr} {fd : FuncData} {ps : List Str} {sp sp' : Sp} (F : FnG P w K mg base k f fd ps sp) (h : ∀ vs H Q E, sp' vs H Q E → sp vs H Q E) : FnG P w K mg base k f fd ps sp' :=
  ⟨fun vs H Q E q => F.len vs H Q E (h _ _ _ _ q), fun hr e0 b r q => F.run hr e0 b r (h _ _ _ _ q)⟩
def lenN (n : Nat) (f : List D → FR) (ds : List D) : FR := if ds.length = n then f ds else .stuck
theorem spB_lenN {K : PySem.W.Frag} {mg : Str → Option Value} {ks : List Bool} {n : Nat} {f : List D → FR} {vs : List V} {H : Hp} {Q : VK} {E : XK} (h : spB K mg ks (lenN n f) vs H Q E) : spB K mg ks f vs H Q E := by
  obtain ⟨T, F, io, ds, h0, h1, h2, h3, h4, h5⟩ := h
  refine ⟨T, F, io, ds, h0, h1, h2, h3, h4, ?_⟩
  unfold lenN at h5
  by_cases hl : ds.length = n
  · rwa [if_pos hl] at h5
  · rw [if_neg hl] at h5
    exact h5.elim
def mMk (c : Str) (n : Nat) (f : List D → FR) (ma : M (List Pl)) : M Rs := mMake c (lenN (n + 1) f) ma
section
variable {X : Cx} {k j : Nat} {x c : Str} {p pos : Pos} {e : Expr} {es : List Expr} {ma : M (List Pl)} {prm : List Str} {g : List D → FR}
theorem be_mk (n : Nat) (O : OkI X.prog X.w X.K X.mg X.base j x prm (true :: List.replicate n false) g) (hr : RoomG k X.A) (hjk : j + 1 ≤ k) (ha : BA X (e :: es) ma) (hg : Gl X x := by rfl) (hdb : (x == ("__debug__" : Str)) = false := by decide)
    (he : starEach (e :: es) X.env = (false, eval e X.env) :: starEach es X.env := by rfl) (hpl : (backTo pos (starEach es X.env)).any (·.1) = false := by rfl) :
    BE X (.Call (.Name x p) (e :: es) [] pos) (mMk x n g ma) := by
  obtain ⟨C, fi, fd, gC, M, F, b⟩ := O
  refine be_make n M (F.imp fun _ _ _ _ => spB_lenN (n := n + 1)) (hr.mono hjk) gC b (fun ps ds _ h => Decidable.byContradiction fun q => h ?_) ha hg hdb he hpl
  unfold lenN
  rw [if_neg]
  rw [List.length_cons]
  omega
/-! ### == and != by the class's own __eq__ -/
def eqRun (c : Str) (g : List D → FR) : D → D → Option Bool
  | .nd (.ins c1 n1) d1, .nd (.ins c2 n2) d2 => if c1 = c ∧ c2 = c then (match g [.nd (.ins c1 n1) d1, .nd (.ins c2 n2) d2] with
    | .ok (.fz (.bl b)) [] => some b
    | _ => none) else none
  | _, _ => none
def gOwnEq (c : Str) (g : List D → FR) (d e : D) : Option Rs := (eqRun c g d e).map fun b => .fz (.bl b)
def gOwnNe (c : Str) (g : List D → FR) (d e : D) : Option Rs := (eqRun c g d e).map fun b => .fz (.bl (!b))
theorem eqRun_some {c : Str} {g : List D → FR} {d e : D} {b : Bool} (h : eqRun c g d e = some b) : ∃ n1 d1 n2 d2, d = .nd (.ins c n1) d1 ∧ e = .nd (.ins c n2) d2 ∧ g [d, e] = .ok (.fz (.bl b)) [] := by
  unfold eqRun at h
  split at h
  · split at h
    · rename_i hc
      obtain ⟨h1, h2⟩ := hc
      subst h1 h2
      split at h
      · rename_i hb
        cases h
        exact ⟨_, _, _, _, rfl, rfl, hb⟩
      · cases h
    · cases h
  · cases h
/-- the run of the class's own __eq__ -/
theorem eq_code {pins : List (Addr × Obj)} {σ : L2.St} {s : Shared} {H : Hp} {f a b : Addr} {fd : FuncData} {ps : List Str} {g : List D → FR} {d e : D} {r : Bool} {A : PySem.Around} (Fn : FnG X.prog X.w X.K X.mg X.base j f fd ps (spB X.K X.mg [false, false] g)) (hr : RoomG j A) (hA : A.frames = X.A.frames) (hb : Binds X.K fd ps [])
    (I : Inv X pins σ H s) (hx : DR X.K X.mg H (.ref a) d) (hy : DR X.K X.mg H (.ref b) e) (hg : g [d, e] = .ok (.fz (.bl r)) []) :
    codeAny (model X.prog X.w) A (.call (.ref f) ⟨[.ref a, .ref b], []⟩) (fun q s' => q = .ok (.ret (.bool r)) ∧ ∃ H', Inv X pins σ H' s' ∧ Same H H') s := by
  have hsp : spB X.K X.mg [false, false] g [.ref a, .ref b] H (fun v H' => v = .bl r ∧ Same H H') (fun _ _ _ => False) := by
    refine ⟨fun _ => none, H, [], [d, e], ⟨fun _ _ z => (nomatch z), fun _ _ => rfl⟩, Same.refl _, (fun _ h => nomatch h), .nil, .fz hx (.fz hy .nil), ?_⟩
    rw [hg]
    intro v H' F' A' rr
    cases (show DR X.K X.mg F' v (.bl r) from rr)
    exact ⟨rfl, fun b o h => A'.keep b o h (by simp) rfl⟩
  have r2 : Vals [V.ref a, V.ref b] [Value.ref a, Value.ref b] := .cons rfl (.cons rfl .nil)
  have hl := Fn.len _ _ _ _ hsp
  have e0 : Env0 X.prog X.w X.K X.mg X.base A X.stack s H := by
    have e := I.env0
    exact ⟨by rw [hA]; exact e.frames, e.mod, e.bs, e.bsz, e.funs, e.frf, e.hok, e.bare⟩
  refine codeAny_mono (Fn.run hr e0 (us := [.ref a, .ref b]) (by
    have := hb s [.ref a, .ref b] I.kIn (by simpa using hl)
    simpa using this) r2 hsp) fun q s' hq => ?_
  cases q with
  | error er =>
    obtain ⟨_, _, _, _, _, _, _, _, _, _, _, _, q⟩ := hq
    exact q.elim
  | ok fl =>
    cases fl with
    | ret w =>
      obtain ⟨z, H', I', rz, ez, ex⟩ := I.after hq
      subst ez
      cases rz
      exact ⟨rfl, H', I', ex⟩
    | next => exact False.elim hq
    | brk => exact False.elim hq
    | cont => exact False.elim hq
theorem opd_ownEq (O : OkM X.prog X.w X.K X.mg X.base j c "__eq__" prm [false, false] g) (hr : RoomG k X.A) (hjk : j ≤ k) : OpD X (compareOp .Eq) (gOwnEq c g) := by
  obtain ⟨C, f, fd, gC, hs, hf, kp, Fn, hb⟩ := O
  intro pins s σ H x y v u Q I rx ry ⟨F, d, e, rs, sf, hx, hy, hg, q⟩
  obtain ⟨b, eb, hrs⟩ := Option.map_eq_some_iff.mp hg
  subst hrs
  obtain ⟨n1, d1, n2, d2, ed, ee, hrun⟩ := eqRun_some eb
  have dx := hx.dr sf
  have dy := hy.dr sf
  subst ed ee
  cases hx with
  | @ins a C1 dxa _ fs _ ha g1 r1 =>
    cases hy with
    | @ins b' C2 dxb _ fs2 _ hb' g2 r2 =>
      cases g1.symm.trans gC
      cases g2.symm.trans gC
      cases rx
      cases ry
      obtain ⟨mA, J, _⟩ := ins_get I.hok ha
      obtain ⟨mB, J', _⟩ := ins_get I.hok hb'
      obtain ⟨od, J, _⟩ := J.look
      obtain ⟨od', J', _⟩ := J'.look
      obtain ⟨m, hF⟩ := I.fr
      refine PySem.W.cmp_K (op := .Eq) (tb := .ref C) hr.r.units0 hF I.ok.mod.kin J J'.type (by simp [PySem.W.notFirst]) hs hf ?_
      refine wpAny_call (codeAny_mono (eq_code Fn (hr.mono hjk) rfl hb I dx dy hrun) fun q1 s1 ⟨e1, H1, I1, sh⟩ => ?_)
      subst e1
      exact ⟨.bl b, H1, I1, rfl, q _ _ ⟨sh, F, Same.refl _, fun _ _ h => .inl h, sf.trans sh, .bl b⟩⟩
/-- what the written part says for != by == -/
structure NeCls (K : PySem.W.Frag) (C f : Addr) : Prop where
  ex : ∃ nm q N bs hdct sn sub ab col dd k0 k1 k2 k3 k5 newId, K.lookup C = some (excClassObj nm q C N bs [.type "object"] hdct sn sub ab col dd k0 k1 k2 k3 k5 newId) ∧ PySem.W.nsOkIn K N = true ∧ PySem.W.nsIn K N "__eq__" = some (some (.ref f)) ∧ PySem.W.nsIn K N "__ne__" = some none
theorem ns_at {K : PySem.W.Frag} {h : Heap} {N : Addr} {m1 : Str → Option Value} {nm : Str} {v : Value} (KX : K.In h) (Gn : h.Ns N m1) (q : PySem.W.nsIn K N nm = some (some v)) : m1 nm = some v := by
  obtain ⟨ob, ens, epx, gt, dt, _, fd⟩ := Gn
  unfold PySem.W.nsIn at q
  split at q
  · rename_i c1 d1 e1 n1 s1 lk
    have z := KX _ _ lk
    rw [gt] at z
    cases z
    cases dt
    split at q
    · rename_i en hen
      cases q
      rw [← fd]
      unfold nsFind findBy
      rw [← Array.find?_toList, hen]
      rfl
    · split at q <;> cases q
  · cases q
theorem NeCls.own {K : PySem.W.Frag} {C f a : Addr} {h : Heap} {ox : Obj} (Z : NeCls K C f) (KX : K.In h) (hf : PySem.W.isFn K (.ref f) = true) (hx : h.get? a = some ox) (hc : ox.cls = .ref C) : h.OwnEqNoNe a C f "object" [.type "object"] := by
  obtain ⟨nm, q, N, bs, hdct, sn, sub, ab, col, dd, k0, k1, k2, k3, k5, newId, l1, l2, l3, l4⟩ := Z.ex
  have ns := Heap.Ns.of_isNs (PySem.W.isNs_of_in KX l2)
  have tf := beq_iff_eq.mp hf
  obtain ⟨of, ef, ec⟩ : ∃ of, h.get? f = some of ∧ of.cls = .type "function" := by
    have tf : Option.map (fun x : Obj => x.cls) (List.lookup f K) = some (.type "function") := tf
    cases e : List.lookup f K with
    | none => rw [e] at tf; cases tf
    | some o =>
      rw [e] at tf
      exact ⟨o, KX _ _ e, Option.some.inj tf⟩
  exact ⟨ox, of, nm, q, N, bs, hdct, sn, sub, ab, col, dd, k0, k1, k2, k3, k5, newId, _, _, hx, hc, KX _ _ l1, ns, ns_at KX ns l3, ef, ec, PySem.F.cmp_object.mro, PySem.F.cmp_object.eq.lookup, PySem.W.nsMap_none_of_in KX l2 l4⟩
theorem opd_ownNe (O : OkM X.prog X.w X.K X.mg X.base j c "__eq__" prm [false, false] g) (Z : ∀ C f, X.mg c = some (.ref C) → PySem.W.findIn X.K (.ref C) "__eq__" = some (some (.ref f)) → NeCls X.K C f) (hr : RoomG k X.A) (hjk : j + 1 ≤ k) : OpD X (compareOp .NotEq) (gOwnNe c g) := by
  obtain ⟨C, f, fd, gC, hs, hf, kp, Fn, hb⟩ := O
  intro pins s σ H x y v u Q I rx ry ⟨F, d, e, rs, sf, hx, hy, hg, q⟩
  obtain ⟨b, eb, hrs⟩ := Option.map_eq_some_iff.mp hg
  subst hrs
  obtain ⟨n1, d1, n2, d2, ed, ee, hrun⟩ := eqRun_some eb
  have dx := hx.dr sf
  have dy := hy.dr sf
  subst ed ee
  cases hx with
  | @ins a C1 dxa _ fs _ ha g1 r1 =>
    cases hy with
    | @ins b' C2 dxb _ fs2 _ hb' g2 r2 =>
      cases g1.symm.trans gC
      cases g2.symm.trans gC
      cases rx
      cases ry
      obtain ⟨mA, J, _⟩ := ins_get I.hok ha
      obtain ⟨mB, J', _⟩ := ins_get I.hok hb'
      obtain ⟨od, J, _⟩ := J.look
      obtain ⟨od', J', _⟩ := J'.look
      have OW := (Z C f gC hs).own I.kIn hf J.at_ J.cls
      have hu := hr.r.un
      obtain ⟨hp, gg, dd, tt, os⟩ := s
      refine compareOp_ne_ownEq PySem.F.cmp_object OW J'.at_ J'.cls (by omega) ?_
      have hr1 : RoomG j X.A.in1 := ⟨(hr.r.mono hjk).in1, hr.g⟩
      refine wpAny_call (codeAny_mono (eq_code Fn hr1 rfl hb I dx dy hrun) fun q1 s1 ⟨e1, H1, I1, sh⟩ => ?_)
      subst e1
      exact ⟨b, rfl, .bl (!b), H1, I1, rfl, q _ _ ⟨sh, F, Same.refl _, fun _ _ h => .inl h, sf.trans sh, .bl _⟩⟩
/-! ### isinstance(x, C) -/
structure IsiC (K : PySem.W.Frag) (mg : Str → Option Value) (c : Str) : Prop where
  ex : ∃ C : Addr, mg c = some (.ref C) ∧ Cls K C ∧ PySem.W.findIn K (.ref C) "__class__" = some (some (.builtin "object.__class__")) ∧ PySem.W.specialIn K (.builtin "object.__class__") "__get__" = some (some (.builtin "getset_descriptor.__get__")) ∧
    PySem.W.takesIn K (.builtin "object.__class__") = some true ∧ PySem.W.mroIn K C (.type "object") = some true ∧ PySem.W.kitOne K (.ref C) (.ref C) = some true ∧ ∀ t ∈ ["NoneType", "bool", "int", "str", "tuple", "list", "dict"], PySem.W.kitOne K (.type t) (.ref C) = some false
def gIsiC (c : Str) : D → Option Rs
  | .nd (.ins c' ns) ds => if c' = c then some (.fz (.bl true)) else none
  | d => (tyD d).map fun _ => .fz (.bl false)
theorem tyD_mem {d : D} {t : String} (h : tyD d = some t) : t ∈ ["NoneType", "bool", "int", "str", "tuple", "list", "dict"] := by
  cases d with
  | nd tg ds => cases tg <;> cases h <;> decide
  | non => cases h; decide
  | bl b => cases h; decide
  | int b => cases h; decide
  | str b => cases h; decide
theorem be_isiC {y : Str} {a : Expr} {ma : M Pl} {p2 : Pos} (Z : IsiC X.K X.mg y) (hm : X.mg "isinstance" = none) (ha : BP X a ma) (hg : Gl X "isinstance" := by rfl) (hg2 : Gl X y := by rfl) (hd : (y == ("__debug__" : Str)) = false := by decide)
    (hs : starEach [a, .Name y p2] X.env = (false, eval a X.env) :: starEach [.Name y p2] X.env := by rfl) : BE X (.Call (.Name "isinstance" p) [a, .Name y p2] [] pos) (mUn (gIsiC y) ma) := by
  obtain ⟨C, gC, cl, h1, h2, h3, h4, h5, h6⟩ := Z.ex
  refine fun W tk => (pe_callB call_isi hg hm boot_isinstance (pa_cons (ha W tk) (pa_cons (pe_glob (v := .ref C) hg2 gC rfl hd) pa_nil) hs) (by decide) (by decide) hs).imp fun σ H Q ⟨G, io, F, β, I, h⟩ => ?_
  refine ⟨G, io, F, β, I, h.bnd fun pl β1 v H1 F1 fe1 I1 r1 hh => ?_⟩
  obtain ⟨F, d, r, sf, hx, hgr, q⟩ := fin1_post I1 r1 (hh.mono fe1)
  unfold gIsiC at hgr
  split at hgr
  · split at hgr
    · rename_i ec
      cases hgr
      subst ec
      cases hx with
      | ins e g1 rr =>
        cases g1.symm.trans gC
        exact ⟨_, _, _, _, true, rfl, .own C, .base (.ins e cl h1 h2 h3 h4), h5, q _ _ (NR.val sf (.bl true))⟩
    · cases hgr
  · obtain ⟨t, et, er⟩ := Option.map_eq_some_iff.mp hgr
    cases er
    exact ⟨_, _, _, _, false, rfl, .own C, hx.tyx sf et, h6 t (tyD_mem et), q _ _ (NR.val sf (.bl false))⟩
end
/-! ## by what is wished for -/
section
variable {β : B.Env} {E : Exn → B.Env → Prop}
def mkW (r : Rs) (ios : List D) (P : D → Prop) : Prop := match r, ios with
  | .fz .non, [d] => P d
  | _, _ => False
@[simp ↓] theorem mkW_mk {d : D} {P : D → Prop} : mkW (.fz .non) [d] P ↔ P d := Iff.rfl
@[simp ↓] theorem W_mMk {c : Str} {n : Nat} {f : List D → FR} {ma : M (List Pl)} {Q : Rs → B.Env → Prop} : W (mMk c n f ma) β Q E ↔ W ma β (fun ps β1 => optW (allD ps) fun ds => ds.length = n ∧ FW (f (insD c [] :: ds)) (fun r ios => mkW r ios fun d => Q (.fz d) β1) (fun x _ => E x β1)) E := by
  unfold mMk mMake
  refine W_bnd.trans (W_congr fun ps β1 => ?_)
  unfold W makeF
  cases allD ps with
  | none => with_unfolding_all rfl
  | some ds =>
    simp only [optW_some]
    unfold lenN
    rw [List.length_cons]
    by_cases h : ds.length = n
    · rw [if_pos (by omega)]
      unfold FW
      cases f (insD c [] :: ds) with
      | stuck => simp [h]
      | exc x ios => simp [h]
      | ok r ios =>
        simp only [h, true_and]
        unfold mkW
        rcases r with d | d
        · cases d with
          | non =>
            rcases ios with _ | ⟨d, _ | ⟨d2, l⟩⟩ <;> with_unfolding_all exact Iff.rfl
          | _ => with_unfolding_all exact Iff.rfl
        · with_unfolding_all exact Iff.rfl
    · rw [if_neg (by omega)]
      simp [h]
end
end B


set_option Elab.async false
set_option linter.all false
set_option maxRecDepth 100000
set_option maxHeartbeats 4000000
namespace B
open PySem PySem.Spec L2
/-! ## tables of exceptions' classes -/
/-- a clause's class -/
structure XExm (K : PySem.W.Frag) (mg : Str → Option Value) (x : Str) (l : List (Str × Bool)) : Prop where
  ex : ∃ C : Addr, mg x = some (.ref C) ∧ ∀ p ∈ l, ∀ cls, mg p.1 = some cls → PySem.W.exmOne K cls (.ref C) = some p.2
structure XKit (K : PySem.W.Frag) (mg : Str → Option Value) (y : Str) (l : List (Str × Bool)) : Prop where
  ex : ∃ C : Addr, mg y = some (.ref C) ∧ ∀ p ∈ l, XIs K mg p.1 ∧ ∀ cls, mg p.1 = some cls → PySem.W.kitOne K cls (.ref C) = some p.2
structure XKitB (K : PySem.W.Frag) (mg : Str → Option Value) (y : Str) (n : String) (l : List (Str × Bool)) : Prop where
  ex : mg y = none ∧ bootBuiltins y = some (.type n) ∧ ∀ p ∈ l, XIs K mg p.1 ∧ ∀ cls, mg p.1 = some cls → PySem.W.kitOne K cls (.type n) = some p.2
inductive NmAt (mg : Str → Option Value) : List Str → List Addr → Prop
  | nil : NmAt mg [] []
  | cons {y : Str} {C : Addr} {ys : List Str} {cs : List Addr} : mg y = some (.ref C) → NmAt mg ys cs → NmAt mg (y :: ys) (C :: cs)
structure XKitT (K : PySem.W.Frag) (mg : Str → Option Value) (ys : List Str) (l : List (Str × Bool)) : Prop where
  ex : ∃ cs : List Addr, NmAt mg ys cs ∧ ∀ p ∈ l, XIs K mg p.1 ∧ ∀ cls, mg p.1 = some cls → PySem.W.kitAny K cls (cs.map Value.ref) = some p.2
section
variable {X : Cx} {x n : Str} {i : Nat} {m : Su} {b₀ : Stmt} {suite : List Stmt} {np pos' : Pos} {hds : List ExceptHandler} {hs : List Hd} {l : List (Str × Bool)}
end
section
variable {X : Cx} {a : Addr} {oe : Obj} {pn : List (Addr × Obj)} {cls : Value} {d : Option Addr} {x y : Str} {i : Nat} {p px py pos : Pos} {l : List (Str × Bool)}
/-- the names of a tuple of classes -/
inductive NmsE (X : Cx) : List Str → List Expr → Prop
  | nil : NmsE X [] []
  | cons {y : Str} {py : Pos} {ys : List Str} {es : List Expr} (hg : Gl X y) (hd : (y == ("__debug__" : Str)) = false) (hs : starEach (.Name y py :: es) X.env = (false, eval (.Name y py) X.env) :: starEach es X.env) : NmsE X ys es → NmsE X (y :: ys) (.Name y py :: es)
theorem NmsE.all {ys : List Str} {es : List Expr} {cs : List Addr} (h : NmsE X ys es) (hc : NmAt X.mg ys cs) : ClsNms X ys (cs.map V.ref) (cs.map Value.ref) ∧ PA (X.suite a ((a, oe) :: pn)) es (tCs (cs.map V.ref)) := by
  induction h generalizing cs with
  | nil =>
    cases hc
    exact ⟨.nil, pa_nil⟩
  | cons hg hd hs _ ih =>
    cases hc with
    | cons g r =>
      obtain ⟨h1, h2⟩ := ih r
      exact ⟨.cons (.own _ hg g hd) h1, pa_cons (pe_clsnm (.own _ hg g hd)) h2 hs⟩
end
/-! ## how these are told from the written part -/
theorem XIs.of {K : PySem.W.Frag} {mg : Str → Option Value} {c : Str} {C : Addr} (g : mg c = some (.ref C)) (h1 : PySem.W.findIn K (.ref C) "__getattribute__" = some (some (.builtin "BaseException.__getattribute__"))) (h2 : PySem.W.findIn K (.ref C) "__getattr__" = some none) (h3 : PySem.W.subIn K (.ref C) (.type "BaseException") = some true)
    (h4 : PySem.W.findIn K (.ref C) "__class__" = some (some (.builtin "object.__class__"))) (h5 : PySem.W.hasDictIn K C = true) (h6 : PySem.W.mroIn K C (.type "object") = some true) : XIs K mg c := by
  obtain ⟨cd, hc, _⟩ := PySem.W.any_some h5
  exact ⟨C, g, by rw [hc]; rfl, h1, h2, h3, h4, h5, h6⟩
theorem all_cons {P : Str × Bool → Prop} {q : Str × Bool} {l : List (Str × Bool)} (h : P q) (r : ∀ p ∈ l, P p) : ∀ p ∈ q :: l, P p := fun p hp => by
  rcases List.mem_cons.mp hp with e | hp
  · exact e ▸ h
  · exact r p hp
theorem mem_nil {α : Type} {P : α → Prop} : ∀ p ∈ ([] : List α), P p := fun _ h => nomatch h
theorem mem_cons {α : Type} {P : α → Prop} {q : α} {l : List α} (h : P q) (r : ∀ p ∈ l, P p) : ∀ p ∈ q :: l, P p := fun p hp => by
  rcases List.mem_cons.mp hp with e | hp
  · exact e ▸ h
  · exact r p hp
/-! methods in a suite -/
end B


set_option Elab.async false
set_option linter.all false
set_option maxRecDepth 100000
set_option maxHeartbeats 4000000
namespace B
open PySem PySem.Spec L2
/-! ## list(range(n)) -/
section
variable {X : Cx}
def gListRng : D → Option Rs
  | .int n => if 0 ≤ n ∧ n ≤ 1000000 then some (.own (.nd .lst ((List.range n.toNat).map fun i : Nat => D.int (i : Int)))) else none
  | _ => none
theorem DRs.rng {K : PySem.W.Frag} {mg : Str → Option Value} {F : Hp} (l : List Nat) : DRs K mg F (l.map fun i : Nat => V.int (i : Int)) (l.map fun i : Nat => D.int (i : Int)) := by
  induction l with
  | nil => exact .nil
  | cons a l ih => exact .cons (.int _) ih
end
/-! ## a op b op c, as a test -/
@[simp ↓] theorem W_mPar {i j : Nat} {ma : M (List Pl)} {β : B.Env} {Q : Fl → B.Env → Prop} {E : Exn → B.Env → Prop} : W (mPar i j ma) β Q E ↔ W ma β (fun ps β1 => optW (allD ps) fun ds => match ds with
  | [d, e] => Q .nx ((β1.set i (.fz d)).set j (.fz e))
  | _ => False) E := by
  unfold mPar
  refine W_bnd.trans (W_congr fun ps β1 => ?_)
  unfold W
  cases allD ps with
  | none => with_unfolding_all rfl
  | some ds =>
    rcases ds with _ | ⟨d, _ | ⟨e, _ | ⟨f, l⟩⟩⟩ <;> with_unfolding_all exact Iff.rfl
end B


set_option Elab.async false
set_option linter.all false
set_option maxRecDepth 100000
set_option maxHeartbeats 4000000
namespace B
open PySem PySem.Spec L2
/-! ## repr, of a number too -/
section
variable {X : Cx} {p pos : Pos} {a : Expr} {ma : M Pl}
end
/-! ## by what is wished for -/
section
variable {P : Rs → Prop} {ds : List D}
theorem w_sorted (ok : sortOk ds) : optW (gSorted [.nd .lst ds]) P ↔ P (.own (.nd .lst (sortD ds))) := by
  have e : gSorted [.nd .lst ds] = some (.own (.nd .lst (sortD ds))) := by
    unfold gSorted
    exact if_pos ok
  rw [e]
  exact Iff.rfl
@[simp ↓] theorem w_listRng {n : Nat} : optW (gListRng (.int (n : Int))) P ↔ n ≤ 1000000 ∧ P (.own (.nd .lst ((List.range n).map fun i : Nat => D.int (i : Int)))) := by
  show optW (if 0 ≤ (n : Int) ∧ (n : Int) ≤ 1000000 then some (Rs.own (.nd .lst ((List.range (n : Int).toNat).map fun i : Nat => D.int (i : Int)))) else none) P ↔ _
  rw [optW_ite, Int.toNat_natCast]
  constructor
  · rintro ⟨⟨_, h⟩, q⟩
    exact ⟨by omega, q⟩
  · rintro ⟨h, q⟩
    exact ⟨⟨by omega, by omega⟩, q⟩
@[simp ↓] theorem w_clear {P : D × D → Prop} : optW (gClear (.nd .lst ds) []) P ↔ P (.non, .nd .lst []) := Iff.rfl
end
end B


set_option Elab.async false
set_option linter.all false
set_option maxRecDepth 100000
set_option maxHeartbeats 4000000
namespace B
open PySem PySem.Spec L2
/-! ## lambdas handed to a def -/
/-- a code object more, if it is new -/
def Grown (H : Hp) (P c : Addr) (q : Str) (H1 : Hp) : Prop := H1 = H ∨ ∃ ps, H c = none ∧ c ≠ P ∧ LamX.TabS H1 P q ∧ H1 = upd (upd H P (.tbl ps)) c (LamX.CodeO c q)
section
variable {X : Cx} {pins : List (Addr × Obj)} {σ : L2.St} {H : Hp} {s : Shared}
end
end B


set_option Elab.async false
set_option linter.all false
set_option maxRecDepth 100000
set_option maxHeartbeats 4000000
namespace B
open PySem PySem.Spec L2
/-! ## lambdas: what they mean -/
/-- while a lambda runs, all of its maker's names are data that stays -/
def lendS : Sl → Sl
  | .own _ d => .fz d
  | .fz d => .fz d
  | _ => .un
def lendB (β : B.Env) : B.Env := β.map lendS
/-- the outcome o of what was handed in, that the slot i tells of -/
noncomputable def mAsk (i : Nat) (z : Ez) (o : R Rs) : M Rs := open Classical in fun β => match β[i]? with
  | some (.ex z') => if z' = z then (match o with
    | .ok r _ => .ok r β
    | .exc x _ => .exc x β
    | .stuck => .stuck) else .stuck
  | _ => .stuck
def z0 : Ez := ez 0 .none none ⟨"", []⟩
def ownIx (β : B.Env) : List Nat := (List.range β.length).filter fun i => match β[i]? with
  | some (.own _ _) => true
  | _ => false
section
variable {K : PySem.W.Frag} {mg : Str → Option Value} {G : GT} {F F' H H' : Hp} {io : List Addr} {β : B.Env} {σ : L2.St}
theorem own_ix : OwnS β (ownIx β) := fun j hj => by
  have := (List.mem_filter.mp hj).2
  cases e : β[j]? with
  | none => rw [e] at this; cases this
  | some s =>
    rw [e] at this
    cases s with
    | own b d => exact ⟨b, d, rfl⟩
    | un => cases this
    | fz _ => cases this
    | ex _ => cases this
    | gh _ => cases this
theorem ix_own {i : Nat} {b : Option Nat} {d : D} (e : β[i]? = some (.own b d)) : i ∈ ownIx β := List.mem_filter.mpr ⟨List.mem_range.mpr (List.getElem?_eq_some_iff.mp e).1, by rw [e]⟩
/-- what the names hold, as data -/
theorem BI.lent (I : BI K mg G F io β σ H) : ∃ vs ds, DRs K mg (withL F H σ (ownIx β)) vs ds ∧ ∀ (i : Nat) (d : D), (lendB β)[i]? = some (Sl.fz d) → ∃ (j : Nat) (v : V), σ[i]? = some (some v) ∧ vs[j]? = some v ∧ ds[j]? = some d := by
  have one : ∀ (i : Nat) (d : D), (lendB β)[i]? = some (Sl.fz d) → ∃ v, σ[i]? = some (some v) ∧ DR K mg (withL F H σ (ownIx β)) v d := fun i d e => by
    unfold lendB at e
    rw [List.getElem?_map] at e
    obtain ⟨s, es, e2⟩ := Option.map_eq_some_iff.mp e
    obtain ⟨o, eo, r⟩ := I.sl i s es
    cases s with
    | un => cases e2
    | ex _ => cases e2
    | gh _ => cases e2
    | fz d' =>
      cases e2
      obtain ⟨v, ev, dr⟩ := r
      exact ⟨v, by rw [eo, ev], dr.mono (withL_same I own_ix).1⟩
    | own b d' =>
      cases e2
      obtain ⟨a, ea, _, _, _, _, ow⟩ := r
      refine ⟨.ref a, by rw [eo, ea], ow.dr (withL_same I own_ix).1 ?_⟩
      unfold withL
      rw [if_pos ⟨i, ix_own es, by rw [eo, ea]⟩]
  have all : ∀ n : Nat, ∃ vs ds, DRs K mg (withL F H σ (ownIx β)) vs ds ∧ ∀ (i : Nat) (d : D), i < n → (lendB β)[i]? = some (Sl.fz d) → ∃ (j : Nat) (v : V), σ[i]? = some (some v) ∧ vs[j]? = some v ∧ ds[j]? = some d := fun n => by
    induction n with
    | zero => exact ⟨[], [], .nil, fun i d h => by omega⟩
    | succ n ih =>
      obtain ⟨vs, ds, r, k⟩ := ih
      by_cases h : ∃ d, (lendB β)[n]? = some (Sl.fz d)
      · obtain ⟨d, e⟩ := h
        obtain ⟨v, ev, dr⟩ := one n d e
        refine ⟨vs ++ [v], ds ++ [d], r.append (.cons dr .nil), fun i d2 hi e2 => ?_⟩
        by_cases hn : i = n
        · subst hn
          rw [e] at e2
          cases e2
          exact ⟨vs.length, v, ev, by simp, by rw [r.length]; simp⟩
        · obtain ⟨j, v2, q1, q2, q3⟩ := k i d2 (by omega) e2
          have l1 := (List.getElem?_eq_some_iff.mp q2).1
          have l2 := (List.getElem?_eq_some_iff.mp q3).1
          exact ⟨j, v2, q1, by rw [List.getElem?_append_left l1]; exact q2, by rw [List.getElem?_append_left l2]; exact q3⟩
      · refine ⟨vs, ds, r, fun i d2 hi e2 => ?_⟩
        by_cases hn : i = n
        · subst hn
          exact absurd ⟨d2, e2⟩ h
        · exact k i d2 (by omega) e2
  obtain ⟨vs, ds, r, k⟩ := all β.length
  refine ⟨vs, ds, r, fun i d e => k i d ?_ e⟩
  have := (List.getElem?_eq_some_iff.mp e).1
  unfold lendB at this
  simpa using this
end
section
variable {X : Cx}
end
end B


set_option Elab.async false
set_option linter.all false
set_option maxRecDepth 100000
set_option maxHeartbeats 4000000
namespace B
open PySem PySem.Spec L2
/-! ## a lambda handed to a def -/
/-- a def of one parameter that calls it -/
structure LamFn (P : Program) (w : World) (K : PySem.W.Frag) (mg : Str → Option Value) (base : Heap) (k : Nat) (x a : Str) (n : Nat) (m : Ez → R Rs → M Fl) : Prop where
  ex : ∃ (fa : Addr) (fd : FuncData) (st : Stmt) (N : List Str), Fun K x x st fa fd ∧ FnScope N [a] (defScope st) ∧ N.length = n ∧ N[0]? = some a ∧ Vis (defScope st) a ∧ mg x = some (.ref fa) ∧ PySem.W.keepIn K (.ref fa) = true ∧ Binds K fd [a] [] ∧
    ∀ (cdv : Value) (A : Around) (outer : List PySem.Env) (s : Shared) (H : Hp) (E : XK) (z : Ez) (o : R Rs), RoomG k (A.deeper (PyProof.Rows.envOfC x (defScope st) s.heap.objs.size fa cdv)) →
      (∀ (pn : List (Addr × Obj)) (xe : Value → Shared → Prop) (p1 p2 : Pos), BE ((cxOf (L2.CX P w) P w K mg base N x (defScope st) fa cdv A outer s H E).tr pn xe) (.Call (.Name a p1) [] [] p2) (mAsk 0 z o)) →
      BSs (cxOf (L2.CX P w) P w K mg base N x (defScope st) fa cdv A outer s H E) (defBody st) (m z o)
section
variable {K : PySem.W.Frag} {mg : Str → Option Value} {G : GT} {F F' H H' : Hp} {io : List Addr} {β : B.Env} {σ : L2.St}
open Classical in
/-- F without the new code object -/
noncomputable def noCode (F Fl : Hp) (c : Addr) : Hp := fun b => if b = c ∧ Fl c = none then none else F b
/-- behind the lambda -/
theorem BI.behind {c P : Addr} {q : Str} {H1 : Hp} (I : BI K mg G F io β σ H) (hP : G.t P = some q) (gr : Grown H P c q H1) (hc : H1 c = some (LamX.CodeO c q)) (fe : FE (butIo G.t H1 []) [] (upd (withL F H σ (ownIx β)) c (LamX.CodeO c q)) F') {β' : B.Env} {σ' : L2.St} (J : BI K mg (butIo G.t H1 []) F' [] β' σ' H') :
    ∃ F2, FE G io F F2 ∧ BI K mg G F2 io β σ H' ∧ Tups F' F2 ∧ Frzs F' F2 ∧ ∀ a, (F' a = none → F2 a = none) ∧ (H1 a = none → H a = none) := by
  have tabP := (I.sg.t P q hP).2
  have grow : ∀ b o, H b = some o → b ≠ P → H1 b = some o := fun b o h n => by
    rcases gr with rfl | ⟨ps, hc0, _, _, rfl⟩
    · exact h
    · rw [upd_ne (ne_of_none h hc0), upd_ne n]
      exact h
  have back : ∀ a, H1 a = none → H a = none := fun a h => by
    cases e : H a with
    | none => rfl
    | some o =>
      by_cases hb : a = P
      · obtain ⟨ps, h1, _⟩ := tabP
        rcases gr with rfl | ⟨ps2, hc2, ne, _, rfl⟩
        · rw [h] at e; cases e
        · rw [hb, upd_ne ne.symm, upd_same] at h
          cases h
      · rw [grow a o e hb] at h
        cases h
  have ow := own_ix (β := β)
  have wl := withL_same I ow
  have wc : ∀ o, withL F H σ (ownIx β) c = some o → o = LamX.CodeO c q := fun o e => by
    have h := wl.2 c o e
    have cP : c ≠ P := fun z => by
      obtain ⟨ps, h1, _⟩ := tabP
      rcases gr with rfl | ⟨_, hc2, ne, _, _⟩
      · rw [z, h1] at hc
        exact LamX.codeO_ne ps (Option.some.inj hc).symm
      · exact ne z
    have := grow c o h cP
    rw [hc] at this
    exact (Option.some.inj this).symm
  have A : After K mg G.t (withL F H σ (ownIx β)) H [] [] (noCode F' (withL F H σ (ownIx β)) c) H' := by
    refine ⟨fun b o e => ?_, fun b o e => ?_, fun b o e => ?_, fun _ h => (nomatch h), fun b o e _ tb => ?_, fun b q2 e => ?_, .nil⟩
    · unfold noCode
      rw [if_neg fun z => by rw [z.1, z.2] at e; cases e]
      refine fe.same b o ?_
      by_cases hb : b = c
      · subst hb
        rw [upd_same, wc o e]
      · rw [upd_ne hb]
        exact e
    · unfold noCode at e
      split at e
      · cases e
      · rename_i n
        rcases fe.new b o e with h | ⟨h, _⟩
        · by_cases hb : b = c
          · subst hb
            cases z : withL F H σ (ownIx β) b with
            | none => exact absurd ⟨rfl, z⟩ n
            | some u =>
              rw [upd_same] at h
              rw [← Option.some.inj h, wc u z]
              exact .inl rfl
          · rw [upd_ne hb] at h
            exact .inl h
        · exact .inr (back b (butIo_none h (fun z => nomatch z)).2)
    · unfold noCode at e
      split at e
      · cases e
      · exact J.sf b o e
    · refine J.sg.g b o ?_
      unfold butIo
      simp only
      rw [if_neg fun z => z.elim (fun z => nomatch z) fun z => z tb]
      exact grow b o e fun z => by rw [z, hP] at tb; cases tb
    · obtain ⟨f1, t1⟩ := J.sg.t b q2 e
      refine ⟨?_, t1⟩
      unfold noCode
      split
      · rfl
      · exact f1
  obtain ⟨fe2, J2, tp, fz, _⟩ := I.call .nil .nil ow (fun _ _ h => nomatch h) rfl A (.inr rfl)
  refine ⟨_, fe2, J2, fun a xs e => tp a xs ?_, fun a ob u e => fz a ob u ?_, fun a => ⟨fun e => ?_, back a⟩⟩
  · unfold noCode
    rw [if_neg fun z => ?_]
    · exact e
    · have := fe.same c _ upd_same
      rw [← z.1, e] at this
      unfold LamX.CodeO at this
      cases this
  · unfold noCode
    rw [if_neg fun z => ?_]
    · exact e
    · have := fe.same c _ upd_same
      rw [← z.1, e] at this
      unfold LamX.CodeO at this
      cases this
  · unfold cutL noCode
    split
    · rfl
    · split
      · rfl
      · exact e
end
section
variable {X : Cx}
end
end B


set_option Elab.async false
set_option linter.all false
set_option maxRecDepth 100000
set_option maxHeartbeats 4000000
namespace B
open PySem PySem.Spec L2
/-! ## defs that make lambdas: a slot more tells of the tables of code objects -/
/-- a def whose code object is known -/
structure FunC (K : PySem.W.Frag) (x : Str) (st : Stmt) (f c : Addr) (fd : FuncData) : Prop where
  ex : ∃ (oc : Value) (od : Option Addr) (kV doc pm : Value) (an : Option Addr) (ct : Value) (osl : Array (Option Value)),
    fd = PySem.W.fnOf x x (defArgs st) (defBody st) (defScope st) .none kV doc pm an (.ref c) ct ∧ K.lookup f = some ⟨oc, od, .func fd, osl⟩ ∧ PySem.W.codeIn K (.ref c) x = true
section
variable {K : PySem.W.Frag} {mg : Str → Option Value} {G : GT} {F F' H H' : Hp} {io : List Addr} {β : B.Env} {σ : L2.St}
end
section
variable {P : Program} {w : World} {K : PySem.W.Frag} {mg : Str → Option Value} {base : Heap}
end
end B


set_option Elab.async false
set_option linter.all false
set_option maxRecDepth 100000
set_option maxHeartbeats 4000000
namespace B
open PySem PySem.Spec L2
/-! ## the law's end, with tables -/
section
variable {P : Program} {w : World} {K : PySem.W.Frag} {mg mb : Str → Option Value} {k : Nat} {fa a : Addr} {fd : FuncData} {x : Str} {sp : Sp} {s₁ : Shared} {vs : List Value} {ns : List Int}
end
end B


set_option Elab.async false
set_option linter.all false
set_option maxRecDepth 100000
set_option maxHeartbeats 4000000
namespace B
open PySem PySem.Spec L2
/-! ## len(set(..)) of ints, doubles among them -/
section
variable {X : Cx} {a : Expr} {p p2 q pos : Pos}
/-! ## {} -/
def mDict0 : M Rs := ret (.own (.nd .dct []))
/-! ## a def that takes a lambda -/
end
end B


set_option Elab.async false
set_option linter.all false
set_option maxRecDepth 100000
set_option maxHeartbeats 4000000
namespace B
open PySem PySem.Spec L2
/-! ## what is wished for behind lambdas -/
theorem FW_is {x : FR} {r : Rs} {ios : List D} (h : FW x (fun r' ios' => r' = r ∧ ios' = ios) fun _ _ => False) : x = .ok r ios := by
  unfold FW at h
  cases x with
  | stuck => exact h.elim
  | exc _ _ => exact h.elim
  | ok r' ios' => rw [h.1, h.2]
section
variable {β : B.Env} {E : Exn → B.Env → Prop} {Q : Rs → B.Env → Prop}
/-! len(set(..)) -/
@[simp ↓] theorem W_mDict0 : W mDict0 β Q E ↔ Q (.own (.nd .dct [])) β := by with_unfolding_all exact Iff.rfl
@[simp ↓] theorem W_tyP {T : String} {p : Pl} {Q : Unit → B.Env → Prop} : W (tyP T p) β Q E ↔ optW (look β p) fun d => isTyP T d = true ∧ Q () β := by
  unfold W tyP optW
  cases look β p with
  | none => with_unfolding_all rfl
  | some d =>
    simp only
    by_cases h : isTyP T d = true
    · rw [if_pos h]; simp [h]
    · rw [if_neg h]; simp [h]
@[simp ↓] theorem W_mMet {T : String} {g : D → List D → Option Rs} {mo : M Pl} {ma : M (List Pl)} : W (mMet T g mo ma) β Q E ↔ W mo β (fun p β1 => W (tyP T p) β1 (fun _ β2 => W ma β2 (fun ps β3 => optW (look β3 p) fun d => optW (looks β3 ps) fun ds => isTyP T d = true ∧ optW (g d ds) fun r => Q r β3) E) E) E := by
  unfold mMet
  refine W_bnd.trans (W_congr fun p β1 => W_bnd.trans (W_congr fun _ β2 => W_bnd.trans (W_congr fun ps β3 => ?_)))
  unfold W finMet optW
  cases look β3 p with
  | none => with_unfolding_all rfl
  | some d =>
    cases looks β3 ps with
    | none => with_unfolding_all rfl
    | some ds =>
      simp only
      by_cases h : isTyP T d = true
      · rw [if_pos h]
        cases g d ds <;> simp [h]
      · rw [if_neg h]; simp [h]
@[simp] theorem isTyP_lst {ds : List D} : isTyP "list" (.nd .lst ds) = true := rfl
/-! rows of truths -/
end
end B


set_option Elab.async false
set_option linter.all false
set_option maxRecDepth 100000
set_option maxHeartbeats 4000000
namespace B
open PySem PySem.Spec L2
/-! ## repr of a tuple that may hold empty dicts -/
section
variable {X : Cx} {pins : List (Addr × Obj)} {σ : L2.St} {H : Hp} {s : Shared}
end
section
variable {X : Cx} {p pos : Pos} {a : Expr} {ma : M Pl}
end
end B


set_option Elab.async false
set_option linter.all false
set_option maxRecDepth 100000
set_option maxHeartbeats 4000000
namespace B
open PySem PySem.Spec L2 PyProof.Rows
/-! # sets of tuples of ints, of any table: the probing -/
/-- the masks: 2^k - 1 -/
def Mk (m : Nat) : Prop := ∃ k, 3 ≤ k ∧ k ≤ 11 ∧ m + 1 = 2 ^ k
theorem Mk.seven : Mk 7 := ⟨3, by decide, by decide, by decide⟩
theorem Mk.odd {m : Nat} (h : Mk m) : m % 2 = 1 := by
  obtain ⟨k, h1, _, e⟩ := h
  obtain ⟨j, rfl⟩ : ∃ j, k = j + 1 := ⟨k - 1, by omega⟩
  rw [Nat.pow_succ] at e
  omega
theorem Mk.le {m : Nat} (h : Mk m) : 7 ≤ m ∧ m ≤ 2047 := by
  obtain ⟨k, h1, h2, e⟩ := h
  have a : 2 ^ 3 ≤ 2 ^ k := Nat.pow_le_pow_right (by decide) h1
  have b : 2 ^ k ≤ 2 ^ 11 := Nat.pow_le_pow_right (by decide) h2
  have c : (2 : Nat) ^ 3 = 8 := by decide
  have d : (2 : Nat) ^ 11 = 2048 := by decide
  omega
/-- (5^n - 1) / 4 -/
def s5 : Nat → Nat
  | 0 => 0
  | n + 1 => 5 * s5 n + 1
theorem s5_add (a : Nat) : ∀ b, s5 (a + b) = 5 ^ b * s5 a + s5 b
  | 0 => by simp [s5]
  | b + 1 => by
    show 5 * s5 (a + b) + 1 = 5 ^ (b + 1) * s5 a + (5 * s5 b + 1)
    rw [s5_add a b, Nat.pow_succ, Nat.mul_add, Nat.mul_comm (5 ^ b) 5, Nat.mul_assoc]
    omega
theorem s5_par : ∀ n, s5 n % 2 = n % 2
  | 0 => rfl
  | n + 1 => by
    have := s5_par n
    show (5 * s5 n + 1) % 2 = _
    omega
theorem p5_s5 : ∀ n, 5 ^ n = 4 * s5 n + 1
  | 0 => rfl
  | n + 1 => by
    have := p5_s5 n
    rw [Nat.pow_succ]
    show _ = 4 * (5 * s5 n + 1) + 1
    omega
theorem two_odd {k c : Nat} {x : Nat} (h : 2 ^ k ∣ x * (2 * c + 1)) : 2 ^ k ∣ x := by
  have co : Nat.Coprime (2 ^ k) (2 * c + 1) := by
    refine Nat.Coprime.pow_left k ?_
    show Nat.gcd 2 (2 * c + 1) = 1
    rw [Nat.gcd_rec]
    have : (2 * c + 1) % 2 = 1 := by omega
    rw [this]
    rfl
  exact co.dvd_of_dvd_mul_right h
theorem s5_dvd : ∀ k n, 2 ^ k ∣ s5 n → 2 ^ k ∣ n
  | 0, n, _ => by simp
  | k + 1, n, h => by
    have h2 : 2 ∣ s5 n := Nat.dvd_trans ⟨2 ^ k, by rw [Nat.pow_succ, Nat.mul_comm]⟩ h
    have hp := s5_par n
    obtain ⟨e, rfl⟩ : ∃ e, n = e + e := ⟨n / 2, by omega⟩
    rw [s5_add] at h
    have e1 : 5 ^ e * s5 e + s5 e = 2 * (s5 e * (2 * s5 e + 1)) := by
      rw [p5_s5]
      have : (4 * s5 e + 1) * s5 e = 4 * (s5 e * s5 e) + s5 e := by rw [Nat.add_mul, Nat.mul_assoc, Nat.one_mul]
      rw [this, Nat.mul_add, Nat.mul_one, Nat.mul_left_comm (s5 e) 2]
      omega
    rw [e1, Nat.pow_succ, Nat.mul_comm (2 ^ k) 2] at h
    have h3 : 2 ^ k ∣ s5 e * (2 * s5 e + 1) := Nat.dvd_of_mul_dvd_mul_left (by decide) h
    obtain ⟨q, hq⟩ := s5_dvd k e (two_odd h3)
    exact ⟨q, by rw [Nat.pow_succ, Nat.mul_assoc, Nat.mul_left_comm, ← hq]; omega⟩
theorem mod5 {n a b : Nat} (h : a % n = b % n) : (a * 5 + 1) % n = (b * 5 + 1) % n := by
  rw [Nat.add_mod, Nat.mul_mod, h, ← Nat.mul_mod, ← Nat.add_mod]
theorem lcg_val (m i : Nat) : ∀ n, lcgI m i n % (m + 1) = (5 ^ n * i + s5 n) % (m + 1)
  | 0 => by simp [lcgI, s5]
  | n + 1 => by
    show (lcgI m i n * 5 + 1) % (m + 1) % (m + 1) = (5 ^ (n + 1) * i + (5 * s5 n + 1)) % (m + 1)
    rw [Nat.mod_mod, mod5 (lcg_val m i n)]
    congr 1
    rw [Nat.pow_succ, Nat.add_mul, Nat.mul_right_comm]
    omega
theorem lcg_lt {m i : Nat} (hi : i ≤ m) : ∀ n, lcgI m i n ≤ m
  | 0 => hi
  | n + 1 => Nat.le_of_lt_succ (Nat.mod_lt _ (Nat.succ_pos _))
theorem lcg_inj {m k i a d : Nat} (e : m + 1 = 2 ^ k) (h : lcgI m i a % (m + 1) = lcgI m i (a + d) % (m + 1)) : 2 ^ k ∣ d := by
  rw [lcg_val, lcg_val, e] at h
  have h1 := Nat.sub_mod_eq_zero_of_mod_eq h.symm
  have ed : 5 ^ (a + d) * i + s5 (a + d) = 5 ^ a * i + s5 a + 5 ^ a * s5 d * (2 * (2 * i) + 1) := by
    rw [Nat.add_comm a d, s5_add, Nat.pow_add, p5_s5 d]
    have q1 : (4 * s5 d + 1) * 5 ^ a * i = 4 * (5 ^ a * s5 d * i) + 5 ^ a * i := by
      rw [Nat.add_mul, Nat.add_mul, Nat.one_mul, Nat.mul_assoc 4, Nat.mul_comm (s5 d), Nat.mul_assoc 4]
    have q2 : 5 ^ a * s5 d * (2 * (2 * i) + 1) = 4 * (5 ^ a * s5 d * i) + 5 ^ a * s5 d := by
      rw [Nat.mul_add, Nat.mul_one, ← Nat.mul_assoc 2 2, Nat.mul_left_comm _ (2 * 2)]
    rw [q1, q2]
    omega
  rw [ed, Nat.add_sub_cancel_left] at h1
  have h2 := two_odd (Nat.dvd_of_mod_eq_zero h1)
  rw [p5_s5 a, Nat.mul_comm, show 4 * s5 a + 1 = 2 * (2 * s5 a) + 1 by omega] at h2
  exact s5_dvd k d (two_odd h2)
/-- each slot comes within a round -/
theorem lcg_onto {m i j : Nat} (hm : Mk m) (hi : i ≤ m) (hj : j ≤ m) : ∃ n, n ≤ m ∧ lcgI m i n = j := by
  obtain ⟨k, _, _, e⟩ := hm
  have nd : ((List.range (m + 1)).map (lcgI m i)).Nodup := by
    refine List.pairwise_map.mpr (List.Pairwise.imp_of_mem (fun {a b} ha hb hlt q => ?_) List.pairwise_lt_range)
    have hb' := List.mem_range.mp hb
    have h1 : 2 ^ k ∣ b - a := lcg_inj (i := i) (a := a) e (by rw [show a + (b - a) = b by omega, q])
    have h2 := Nat.le_of_dvd (by omega) h1
    omega
  rcases Classical.em (∃ n, n ≤ m ∧ lcgI m i n = j) with c | c
  · exact c
  · have hl := nat_nodup_len _ ((List.range (m + 1)).erase j) nd fun x hx => by
      obtain ⟨n, hn, rfl⟩ := List.mem_map.mp hx
      have hn' := Nat.le_of_lt_succ (List.mem_range.mp hn)
      refine (List.mem_erase_of_ne fun q => c ⟨n, hn', q⟩).mpr (List.mem_range.mpr (Nat.lt_succ_of_le (lcg_lt hi n)))
    rw [List.length_map, List.length_range, List.length_erase_of_mem (List.mem_range.mpr (Nat.lt_succ_of_le hj)), List.length_range] at hl
    omega
/-- a search's run begins at each slot, early enough -/
theorem run_all {m : Nat} (hm : Mk m) (h : Int) {j : Nat} (hj : j ≤ m) : ∃ n, n ≤ m + 12 ∧ runI m (SetTable.bits h) n = j := by
  obtain ⟨n, hn, e⟩ := lcg_onto hm (runI_le m (SetTable.bits h) 12) hj
  exact ⟨12 + n, by omega, (runI_tail (bits_lt h) n).trans e⟩
theorem way_all {m : Nat} (hm : Mk m) (h : Int) {j : Nat} (hj : j ≤ m) : ∃ n, n < 10 * SetTable.turns m ∧ way m h n = j := by
  obtain ⟨n, hn, e⟩ := run_all hm h hj
  obtain ⟨q, hq, e2⟩ := run_nth m (SetTable.bits h) n
  refine ⟨q, by unfold SetTable.turns; omega, ?_⟩
  show (nth m _ q).j = j
  rw [e2, ← e]
  rfl
theorem way_in {m : Nat} {h : Int} {n : Nat} : way m h n ≤ m := by
  have h0 : SetTable.bits h % (m + 1) ≤ m := Nat.le_of_lt_succ (Nat.mod_lt _ (Nat.succ_pos _))
  have h1 := runEnd_bd h0
  have h2 : (runAt m (SetTable.bits h % (m + 1)) (SetTable.bits h)).j + (runAt m (SetTable.bits h % (m + 1)) (SetTable.bits h)).more ≤ m := by
    unfold runAt
    simp only
    omega
  exact Nat.le_trans (Nat.le_add_right _ _) (nth_in n _ h2)
/-! ## tables -/
/-- each entry is met on its hash's way, ahead of any empty slot -/
structure TbG (t : SetTable) (hs : List Int) : Prop where
  ris : Ris t.place.toList
  dm : t.dummies = #[]
  sz : t.place.size = hs.length
  mko : Mk t.mask
  bd : ∀ x ∈ t.place.toList, x ≤ t.mask
  met : ∀ (i : Nat) (h : Int) (j : Nat), hs[i]? = some h → t.place.toList[i]? = some j → ∃ n, way t.mask h n = j ∧ ∀ c, c < n → way t.mask h c ∈ t.place.toList
section
variable {t : SetTable} {hs : List Int}
theorem TbG.empty (T : TbG t hs) (hl : hs.length ≤ t.mask) (h : Int) : ∃ n, n < 10 * SetTable.turns t.mask ∧ way t.mask h n ∉ t.place.toList ∧ ∀ c, c < n → way t.mask h c ∈ t.place.toList := by
  obtain ⟨j, hj, hn⟩ := st_missing t.place.toList (t.mask + 1) (by rw [Array.length_toList, T.sz]; omega)
  obtain ⟨k, hk, rfl⟩ := way_all T.mko h (Nat.le_of_lt_succ hj)
  obtain ⟨n, h1, h2, h3⟩ := st_least (p := fun c => way t.mask h c ∉ t.place.toList) k hn
  exact ⟨n, by omega, h2, fun c hc => Classical.byContradiction (h3 c hc)⟩
theorem TbG.ahead (T : TbG t hs) {h : Int} {n i j : Nat} (hn : way t.mask h n ∉ t.place.toList) (hi : hs[i]? = some h) (hj : t.place.toList[i]? = some j) : ∃ c, c < n ∧ way t.mask h c = j := by
  obtain ⟨c, e, hc⟩ := T.met i h j hi hj
  refine ⟨c, Nat.lt_of_not_le fun q => ?_, e⟩
  rcases Nat.lt_or_eq_of_le q with q | q
  · exact hn (hc n q)
  · rw [q, e] at hn
    exact hn (List.mem_of_getElem? hj)
/-- one put in at the first empty slot of its way -/
theorem TbG.put (T : TbG t hs) {h : Int} {n : Nat} (hn : way t.mask h n ∉ t.place.toList) (hb : ∀ c, c < n → way t.mask h c ∈ t.place.toList) :
    SetTable.below t.place (way t.mask h n) ≤ hs.length ∧ TbG (t.put (way t.mask h n)).1 (hs.take (SetTable.below t.place (way t.mask h n)) ++ h :: hs.drop (SetTable.below t.place (way t.mask h n))) := by
  generalize hj : way t.mask h n = j at hn ⊢
  have ps := put_place t j
  have cut := (below_cut T.ris j).1
  generalize hp : SetTable.below t.place j = p at ps cut ⊢
  have lp : p ≤ t.place.toList.length := by rw [Array.length_toList]; exact cut
  have lh : p ≤ hs.length := by rw [← T.sz]; exact cut
  have grow : ∀ x, x ∈ t.place.toList → x ∈ (t.put j).1.place.toList := fun x hx => by rw [ps]; exact mem_ins.mpr (.inr hx)
  have mem : j ∈ (t.put j).1.place.toList := by rw [ps]; exact mem_ins.mpr (.inl rfl)
  refine ⟨lh, ?_, put_dm T.dm j, ?_, T.mko, fun x hx => ?_, fun i h' j' e1 e2 => ?_⟩
  · refine ris_insert T.ris fun q => hn ?_
    rw [← Array.getElem?_toList] at q
    exact List.mem_of_getElem? q
  · rw [len_ins _ lh, ← T.sz, ← Array.length_toList, ps, len_ins _ lp, Array.length_toList]
  · rw [ps] at hx
    rcases mem_ins.mp hx with rfl | hx
    · rw [← hj]
      exact way_in
    · exact T.bd x hx
  · show ∃ c, way t.mask h' c = j' ∧ ∀ d, d < c → way t.mask h' d ∈ (t.put j).1.place.toList
    rw [tins_get hs lh] at e1
    rw [ps, tins_get _ lp] at e2
    have old : ∀ i, hs[i]? = some h' → t.place.toList[i]? = some j' → ∃ c, way t.mask h' c = j' ∧ ∀ d, d < c → way t.mask h' d ∈ (t.put j).1.place.toList := fun i a b => by
      obtain ⟨c, e, hc⟩ := T.met i h' j' a b
      exact ⟨c, e, fun d hd => grow _ (hc d hd)⟩
    split at e1
    · rename_i c
      rw [if_pos c] at e2
      exact old i e1 e2
    · rename_i c
      rw [if_neg c] at e2
      split at e1
      · rename_i c2
        rw [if_pos c2] at e2
        cases e1
        cases e2
        exact ⟨n, hj, fun d hd => grow _ (hb d hd)⟩
      · rename_i c2
        rw [if_neg c2] at e2
        exact old (i - 1) e1 e2
end
/-! ## all laid anew -/
theorem free_some {m : Nat} (hm : Mk m) (owner : Array (Option Nat)) (h : Int) {j : Nat} (hj : j ≤ m) (hf : oAt owner j = none) :
    ∃ n, SetTable.layClean.free m owner (SetTable.turns m) (SetTable.bits h % (m + 1)) (SetTable.bits h) = some (way m h n) ∧ oAt owner (way m h n) = none ∧ ∀ c, c < n → oAt owner (way m h c) ≠ none := by
  obtain ⟨q, hq, e⟩ := run_all hm h hj
  generalize ho : off m (SetTable.bits h % (m + 1)) (SetTable.bits h) q = o
  have hw : way m h o = j := by
    rw [← ho]
    show (nth m _ _).j = j
    rw [nth_off, itL_run, ← e]
    rfl
  obtain ⟨n, n1, n2, n3⟩ := st_least (p := fun c => oAt owner (way m h c) = none) o (by show oAt owner (way m h o) = none; rw [hw, hf])
  refine ⟨n, free_spec m owner _ q _ _ n (by unfold SetTable.turns; omega) (by rw [ho]; exact n1) (fun c hc => ?_) ?_, n2, n3⟩
  · cases z : oAt owner (nth m (runAt m (SetTable.bits h % (m + 1)) (SetTable.bits h)) c).j with
    | none => exact absurd z (n3 c hc)
    | some _ => rfl
  · have n2' : oAt owner (nth m (runAt m (SetTable.bits h % (m + 1)) (SetTable.bits h)) n).j = none := n2
    rw [n2']
    rfl
theorem own_next {m : Nat} (hm : Mk m) {done : List Int} {owner : Array (Option Nat)} (W : Own m done owner) (hl : done.length ≤ m) (h : Int) :
    ∃ j, SetTable.layClean.free m owner (SetTable.turns m) (SetTable.bits h % (m + 1)) (SetTable.bits h) = some j ∧ Own m (done ++ [h]) (owner.setIfInBounds j (some done.length)) := by
  obtain ⟨ps, pl, pin⟩ := W.ps
  obtain ⟨j0, l0, n0⟩ := st_missing ps (m + 1) (by omega)
  have e0 : oAt owner j0 = none := Classical.byContradiction fun q => n0 (pin j0 (Nat.le_of_lt_succ l0) q)
  obtain ⟨n, e1, e2, e3⟩ := free_some hm owner h (Nat.le_of_lt_succ l0) e0
  have jm : way m h n ≤ m := way_in
  have js : way m h n < owner.size := by rw [W.sz]; exact Nat.lt_succ_of_le jm
  generalize hj : way m h n = j at e1 e2 jm js
  have here := oAt_set_self (some done.length) js
  have stay : ∀ i, oAt owner i ≠ none → oAt (owner.setIfInBounds j (some done.length)) i ≠ none := fun i hi => by
    by_cases c : i = j
    · rw [c, here]
      exact fun q => nomatch q
    · rw [oAt_set_ne _ c]
      exact hi
  refine ⟨j, e1, by rw [Array.size_setIfInBounds]; exact W.sz, fun i k hi e => ?_, fun k hk => ?_, j :: ps, by simp [pl], fun i hi e => ?_⟩
  · by_cases c : i = j
    · rw [c, here] at e
      cases e
      exact ⟨h, n, by simp, by rw [c]; exact hj, fun d hd => stay _ (e3 d hd)⟩
    · rw [oAt_set_ne _ c] at e
      obtain ⟨h', q, a1, a2, a3⟩ := W.at_ i k hi e
      exact ⟨h', q, by rw [List.getElem?_append_left (List.getElem?_eq_some_iff.mp a1).1]; exact a1, a2, fun d hd => stay _ (a3 d hd)⟩
  · rcases Nat.lt_or_eq_of_le (Nat.le_of_lt_succ (show k < done.length + 1 by simpa using hk)) with c | c
    · obtain ⟨i, hi, e⟩ := W.all k c
      exact ⟨i, hi, by rw [oAt_set_ne _ fun q => by rw [q, e2] at e; cases e]; exact e⟩
    · rw [c]
      exact ⟨j, jm, here⟩
  · by_cases c : i = j
    · rw [c]
      exact List.mem_cons_self
    · rw [oAt_set_ne _ c] at e
      exact List.mem_cons_of_mem _ (pin i hi e)
theorem owns {m : Nat} (hm : Mk m) : ∀ (rest done : List Int) (owner : Array (Option Nat)), Own m done owner → done.length + rest.length ≤ m →
    ∃ owner', rest.foldl (stepF m) (some (owner, done.length)) = some (owner', done.length + rest.length) ∧ Own m (done ++ rest) owner'
  | [], done, owner, W, _ => ⟨owner, rfl, by rw [List.append_nil]; exact W⟩
  | h :: rest, done, owner, W, hl => by
    rw [List.length_cons] at hl
    obtain ⟨j, e, W1⟩ := own_next hm W (by omega) h
    obtain ⟨o2, f, W2⟩ := owns hm rest (done ++ [h]) _ W1 (by rw [List.length_append]; simp only [List.length_singleton]; omega)
    rw [List.append_assoc] at W2
    refine ⟨o2, ?_, W2⟩
    rw [List.foldl_cons, stepF_some e, List.length_cons]
    rw [List.length_append, List.length_singleton] at f
    rw [f, Nat.add_assoc, Nat.add_comm 1]
theorem lay_some {m : Nat} (hm : Mk m) {hs : Array Int} (hn : hs.size ≤ m) : ∃ owner, SetTable.layClean m hs = some owner ∧ Own m hs.toList owner := by
  obtain ⟨owner, f, W⟩ := owns hm hs.toList [] _ (Own.init m) (by simpa using hn)
  refine ⟨owner, ?_, W⟩
  rw [layClean_eq]
  exact congrArg (Option.map (·.1)) f
/-- a table laid anew -/
theorem laid_some {m : Nat} (hm : Mk m) (finger mv : Nat) (led pl : Bool) {hs : Array Int} (hn : hs.size ≤ m) :
    ∃ t' order, SetTable.laid m finger mv led pl hs = some (t', order) ∧ order.toList.Perm (List.range hs.size) ∧ TbG t' (order.toList.map fun i => hs.getD i 0) ∧ t'.mask = m ∧ t'.led = led ∧ t'.plain = pl := by
  obtain ⟨owner, e, W⟩ := lay_some hm hn
  have live := ris_live (fun j => owner.getD j none) (List.range (m + 1)) List.pairwise_lt_range
  refine ⟨{ mask := m, place := ((liveOf m owner).map (·.1)).toArray, dummies := #[], finger := finger, led := led, moves := mv, plain := pl }, ((liveOf m owner).map (·.2)).toArray, ?_, ?_, ?_, rfl, rfl, rfl⟩
  · unfold SetTable.laid
    rw [e]
    rfl
  · have ml : ∀ q, q ∈ liveOf m owner ↔ q.1 ≤ m ∧ oAt owner q.1 = some q.2 := fun ⟨_, _⟩ => mem_live W.sz
    obtain ⟨ps, p1, p2⟩ := W.ps
    have l1 := nat_nodup_len _ ps (List.Pairwise.imp Nat.ne_of_lt live.1) fun x hx => by
      obtain ⟨q, hq, rfl⟩ := List.mem_map.mp hx
      obtain ⟨b1, b2⟩ := (ml q).mp hq
      exact p2 _ b1 (by rw [b2]; exact fun z => nomatch z)
    have all : ∀ k, k < hs.size → k ∈ (liveOf m owner).map (·.2) := fun k hk => by
      obtain ⟨j, b1, b2⟩ := W.all k (by rw [Array.length_toList]; exact hk)
      exact List.mem_map.mpr ⟨(j, k), (ml _).mpr ⟨b1, b2⟩, rfl⟩
    have l2 := nat_nodup_len (List.range hs.size) _ List.nodup_range fun k hk => all k (List.mem_range.mp hk)
    refine perm_range hs.size _ ?_ all
    show ((liveOf m owner).map (·.2)).length = _
    have l1 : ((liveOf m owner).map (·.1)).length ≤ ps.length := l1
    have l3 : (liveOf m owner).length ≤ hs.size := by
      rw [← Array.length_toList, ← p1, ← List.length_map (f := (·.1))]
      exact l1
    rw [List.length_map, List.length_range] at l2
    rw [List.length_map]
    omega
  · refine ⟨live.1, rfl, by simp, hm, fun x hx => Nat.le_of_lt_succ (List.mem_range.mp (live.2 x hx)), fun i h j h1 h2 => ?_⟩
    have h1 : (((liveOf m owner).map (·.2)).map fun i => hs.getD i 0)[i]? = some h := h1
    have h2 : ((liveOf m owner).map (·.1))[i]? = some j := h2
    rw [List.getElem?_map, List.getElem?_map] at h1
    rw [List.getElem?_map] at h2
    cases hq : (liveOf m owner)[i]? with
    | none => rw [hq] at h2; cases h2
    | some q =>
      obtain ⟨y, k⟩ := q
      rw [hq] at h1 h2
      obtain rfl : y = j := Option.some.inj h2
      obtain rfl : hs.getD k 0 = h := Option.some.inj h1
      obtain ⟨b1, b2⟩ := (mem_live W.sz).mp (List.mem_of_getElem? hq)
      obtain ⟨h0, n, a1, a2, a3⟩ := W.at_ y k b1 b2
      have e0 : hs.getD k 0 = h0 := by
        rw [Array.getD_eq_getD_getElem?, ← Array.getElem?_toList, a1]
        rfl
      rw [e0]
      refine ⟨n, a2, fun c hc => ?_⟩
      show way m h0 c ∈ (liveOf m owner).map (·.1)
      cases z : oAt owner (way m h0 c) with
      | none => exact absurd z (a3 c hc)
      | some k2 => exact List.mem_map.mpr ⟨(way m h0 c, k2), (mem_live W.sz).mpr ⟨way_in, z⟩, rfl⟩
/-! ## sizes -/
theorem size_go : ∀ (f k n : Nat), n < 2 ^ (k + f) → ∃ j, k ≤ j ∧ SetTable.sizeAbove.go n f (2 ^ k) = 2 ^ j ∧ n < 2 ^ j ∧ (j = k ∨ 2 ^ j ≤ 2 * n)
  | 0, k, n, h => ⟨k, Nat.le_refl _, rfl, h, .inl rfl⟩
  | f + 1, k, n, h => by
    unfold SetTable.sizeAbove.go
    by_cases c : 2 ^ k ≤ n
    · rw [if_pos c, ← Nat.pow_succ]
      obtain ⟨j, h1, h2, h3, h4⟩ := size_go f (k + 1) n (by rw [show k + 1 + f = k + (f + 1) by omega]; exact h)
      refine ⟨j, by omega, h2, h3, .inr ?_⟩
      rcases h4 with rfl | h4
      · rw [Nat.pow_succ]
        omega
      · exact h4
    · rw [if_neg c]
      exact ⟨k, Nat.le_refl _, rfl, by omega, .inl rfl⟩
theorem size_mk {n : Nat} (h : n < 2048) : Mk (SetTable.sizeAbove n - 1) ∧ n < SetTable.sizeAbove n ∧ SetTable.sizeAbove n ≤ 4096 := by
  have e0 : (2048 : Nat) = 2 ^ 11 := by decide
  obtain ⟨j, h1, h2, h3, h4⟩ := size_go 64 3 n (Nat.lt_of_lt_of_le h (by decide))
  have e1 : SetTable.sizeAbove n = 2 ^ j := h2
  rw [e1]
  have hj : j ≤ 11 := by
    rcases h4 with rfl | h4
    · decide
    · refine Nat.le_of_not_lt fun q => ?_
      have := Nat.pow_le_pow_right (n := 2) (by decide) (show 12 ≤ j from q)
      have e2 : (2 : Nat) ^ 12 = 4096 := by decide
      omega
  have hp := Nat.pow_le_pow_right (n := 2) (by decide) hj
  exact ⟨⟨j, h1, hj, by omega⟩, h3, by omega⟩
end B


set_option Elab.async false
set_option linter.all false
set_option maxRecDepth 100000
set_option maxHeartbeats 4000000
namespace B
open PySem PySem.Spec L2 PyProof.Rows
/-! # sets of tuples of ints in the heap -/
/-- at a stands the set of the tuples L (where they stand, their ints) -/
structure SG (P : Program) (w : World) (h : Heap) (a : Addr) (L : List (Addr × List Int)) (es : Array (Int × Value)) (ep : Nat) (t : SetTable) : Prop where
  ob : ∃ o, h.get? a = some o ∧ o.ExactSet ∧ o.data = .set es ep t
  rows : es.toList = rowsOf P w L
  tab : TbG t (L.map fun p => thash P w p.2)
  nd : (L.map (·.2)).Nodup
  tup : ∀ p ∈ L, IsT P w h p.2 p.1
  plain : t.plain = true
  led : w.params.followText "set-order" = true ∨ t.led = true
  room : L.length * 5 < t.mask * 3
section
variable {P : Program} {w : World} {A : Around} {E : Value → Shared → Prop} {s : Shared} {h h' : Heap} {a : Addr} {L : List (Addr × List Int)} {es : Array (Int × Value)} {ep : Nat} {t : SetTable}
theorem rows_size (e : es.toList = rowsOf P w L) : es.size = L.length := by
  rw [← Array.length_toList, e]
  unfold rowsOf
  rw [List.length_map]
theorem SG.size (R : SG P w h a L es ep t) : es.size = L.length := rows_size R.rows
theorem TbG.fits {hs : List Int} (T : TbG t hs) (e : es.size = hs.length) (r : hs.length * 5 < t.mask * 3) : t.fits es.size = true := by
  unfold SetTable.fits SetTable.fill
  have := T.sz
  simp only [T.dm, Bool.and_eq_true, beq_iff_eq, decide_eq_true_eq]
  refine ⟨by omega, ?_⟩
  show t.place.size + 0 ≤ t.mask
  omega
theorem SG.fits (R : SG P w h a L es ep t) : t.fits es.size = true := R.tab.fits (by rw [List.length_map]; exact R.size) (by rw [List.length_map]; exact R.room)
theorem SG.at_ (R : SG P w h a L es ep t) {i : Nat} {p : Addr × List Int} (e : L[i]? = some p) : es[i]? = some (thash P w p.2, Value.ref p.1) := by
  rw [← Array.getElem?_toList, R.rows]
  unfold rowsOf
  simp [e]
theorem SG.stay (R : SG P w h a L es ep t) (ha : ∀ o, h.get? a = some o → h'.get? a = some o) (ht : ∀ p ∈ L, IsT P w h' p.2 p.1) : SG P w h' a L es ep t := by
  obtain ⟨o, ho, q⟩ := R.ob
  exact ⟨⟨o, ha o ho, q⟩, R.rows, R.tab, R.nd, ht, R.plain, R.led, R.room⟩
theorem nth_quiet (m : Nat) : ∀ (n : Nat) (p : SetTable.Probe), p.dummy = none → (nth m p n).dummy = none
  | 0, _, e => e
  | n + 1, p, e => nth_quiet m n _ (by unfold adv; split <;> exact e)
/-- THE SEARCH, gone on with from the c-th step of the way -/
theorem sg_search (R : SG P w s.heap a L es ep t) {x : Addr} {k : List Int} (hx : IsT P w s.heap k x) (hu : A.units < cLine) {n : Nat} (hn : n < 10 * SetTable.turns t.mask)
    (em : way t.mask (thash P w k) n ∉ t.place.toList) (oc : ∀ c, c < n → way t.mask (thash P w k) c ∈ t.place.toList) {Q : SetFound → Shared → Prop}
    (yes : k ∈ L.map (·.2) → Q (.there none) s) (no : k ∉ L.map (·.2) → Q (.free (way t.mask (thash P w k) n) false) s) :
    ∀ (f c : Nat) (st : Option SetTable.Probe), st.getD (t.probeStart (thash P w k)) = nth t.mask (t.probeStart (thash P w k)) c → c ≤ n → n - c < f →
      (∀ (i : Nat) p, L[i]? = some p → p.2 = k → ∃ d, c ≤ d ∧ d < n ∧ t.place.toList[i]? = some (way t.mask (thash P w k) d)) →
      wpAny (model P w) A (setSearchFrom a (.ref x) (thash P w k) true f st) Q E s
  | 0, _, _, _, _, z, _ => by omega
  | f + 1, c, st, hst, hc, hf, left => by
    obtain ⟨o, o1, _, o2⟩ := R.ob
    have fit := R.fits
    generalize hH : thash P w k = hk at *
    have shift : ∀ q, nth t.mask (nth t.mask (t.probeStart hk) c) q = nth t.mask (t.probeStart hk) (c + q) := fun q => (nth_add t.mask c _ q).symm
    have slotAt : ∀ q, (nth t.mask (nth t.mask (t.probeStart hk) c) q).j = way t.mask hk (c + q) := fun q => by rw [shift]; rfl
    have quiet : (nth t.mask (t.probeStart hk) c).dummy = none := nth_quiet t.mask c _ rfl
    have spec := go_spec t R.tab.ris R.tab.dm (fun i => (es[i]?.map (·.1)).getD 0) hk (10 * SetTable.turns t.mask) (n - c) (nth t.mask (t.probeStart hk) c) quiet (by omega)
      (fun q hq => by rw [slotAt]; exact oc _ (by omega)) (by rw [slotAt, Nat.add_sub_cancel' hc]; exact em)
    have hash : ∀ {i : Nat} {p : Addr × List Int}, L[i]? = some p → ((es[i]?).map (fun z : Int × Value => z.1)).getD 0 = thash P w p.2 := fun {i p} e => by rw [R.at_ e]; rfl
    rw [setSearchFrom_succ]
    refine wpAny_bind (wpAny_setState_of o1 o2 fit ?_)
    dsimp only
    refine wp_if_neg (by unfold SetTable.gaveWay; rw [R.tab.mko.odd]; decide) ?_
    try refine wpAny_bind (wpAny_pure ?_)
    unfold SetTable.probe
    rw [hst]
    rcases spec with ⟨q, i, hq, hi, hh, nx, pr⟩ | ⟨nx, pr⟩
    · rw [pr]
      dsimp only
      rw [slotAt] at hi ⊢
      have il : i < L.length := by
        have h1 := (List.getElem?_eq_some_iff.mp hi).1
        have h2 := R.tab.sz
        simp only [List.length_map, Array.length_toList] at h1 h2
        omega
      obtain ⟨p, hp⟩ : ∃ p, L[i]? = some p := ⟨_, List.getElem?_eq_getElem il⟩
      have pL := List.mem_of_getElem? hp
      have go : wpAny (model P w) A (searchRest a (.ref x) hk true f es t (way t.mask hk (c + q)) i (nth t.mask (nth t.mask (t.probeStart hk) c) (q + 1))) Q E s := by
        unfold searchRest
        rw [R.at_ hp]
        dsimp only
        refine wpAny_bind (wpAny_holding (wpAny_eqBool_tuple hu (R.tup p pL) hx ?_))
        refine wpAny_bind (wpAny_setState_of o1 o2 fit ?_)
        dsimp only
        by_cases ek : p.2 = k
        · refine wp_if_pos (by simp [ek]) (wpAny_pure (yes (List.mem_map.mpr ⟨p, pL, ek⟩)))
        · refine wp_if_neg (by simp [ek]) ?_
          try refine wpAny_bind (wpAny_pure ?_)
          rw [sameMem]
          have live := slot_live R.tab.ris hi
          simp only [if_true, live, R.at_ hp]
          refine wpAny_bind (wpAny_isSame_ref_self (wpAny_bind (wpAny_pure ?_)))
          simp only [if_true]
          refine wp_if_neg (by simp [ek]) ?_
          subst hH
          refine sg_search R hx hu hn em oc yes no f (c + (q + 1)) (some _) (shift (q + 1)) (by omega) (by omega) fun i0 p0 e0 k0 => ?_
          obtain ⟨d, d1, d2, d3⟩ := left i0 p0 e0 k0
          refine ⟨d, ?_, d2, d3⟩
          have a1 : ¬ d < c + q := fun z => nx (d - c) i0 (by omega) (by rw [slotAt, Nat.add_sub_cancel' d1]; exact d3) (by rw [hash e0, k0])
          have a2 : d ≠ c + q := fun z => by
            rw [z] at d3
            have l0 := slot_live R.tab.ris d3
            rw [live] at l0
            cases l0
            rw [hp] at e0
            cases e0
            exact ek k0
          omega
      by_cases hl : t.led = true
      · refine wp_if_neg (by simp [hl]) ?_
        try refine wpAny_bind (wpAny_pure ?_)
        exact go
      · refine wp_if_pos (by simp [hl]) ?_
        refine wpAny_bind (seen_tup hx (fun y hy => ?_) ?_)
        · obtain ⟨e, he, rfl⟩ := List.mem_map.mp hy
          have me : e ∈ es.toList := by
            have := (Array.mem_filter.mp (Array.mem_toList_iff.mp he)).1
            exact Array.mem_toList_iff.mpr this
          rw [R.rows] at me
          obtain ⟨p2, m2, rfl⟩ := List.mem_map.mp me
          exact ⟨p2.2, p2.1, rfl, R.tup p2 m2⟩
        · refine wp_if_neg (by decide) ?_
          try refine wpAny_bind (wpAny_pure ?_)
          exact go
    · rw [pr, slotAt, Nat.add_sub_cancel' hc]
      dsimp only
      refine wpAny_pure (no fun hm => ?_)
      obtain ⟨p0, m0, k0⟩ := List.mem_map.mp hm
      obtain ⟨i0, l0, e0⟩ := List.getElem_of_mem m0
      have e1 : L[i0]? = some p0 := by rw [List.getElem?_eq_getElem l0, e0]
      obtain ⟨d, d1, d2, d3⟩ := left i0 p0 e1 k0
      exact nx (d - c) i0 (by omega) (by rw [slotAt, Nat.add_sub_cancel' d1]; exact d3) (by rw [hash e1, k0, hH])
theorem sg_look (R : SG P w s.heap a L es ep t) {x : Addr} {k : List Int} (hx : IsT P w s.heap k x) (hu : A.units < cLine) {Q : SetFound → Shared → Prop}
    (yes : k ∈ L.map (·.2) → Q (.there none) s)
    (no : ∀ n, k ∉ L.map (·.2) → way t.mask (thash P w k) n ∉ t.place.toList → (∀ c, c < n → way t.mask (thash P w k) c ∈ t.place.toList) → Q (.free (way t.mask (thash P w k) n) false) s) :
    wpAny (model P w) A (setSearch a (.ref x) (thash P w k) true) Q E s := by
  have rm := R.room
  obtain ⟨n, n1, n2, n3⟩ := R.tab.empty (by rw [List.length_map]; omega) (thash P w k)
  have big : n < 100000 := by
    have := R.tab.mko.le
    unfold SetTable.turns at n1
    omega
  unfold setSearch
  refine sg_search R hx hu n1 n2 n3 yes (fun q => no n q n2 n3) 100000 0 none rfl (Nat.zero_le _) (by omega) fun i p e ek => ?_
  have e2 : (L.map fun p => thash P w p.2)[i]? = some (thash P w k) := by rw [List.getElem?_map, e, ← ek]; rfl
  have il : i < t.place.toList.length := by
    have h1 := (List.getElem?_eq_some_iff.mp e).1
    have h2 := R.tab.sz
    simp only [List.length_map, Array.length_toList] at h2 ⊢
    omega
  obtain ⟨c, c1, c2⟩ := R.tab.ahead n2 e2 (List.getElem?_eq_getElem il)
  exact ⟨c, Nat.zero_le _, c1, by rw [List.getElem?_eq_getElem il, c2]⟩
end
end B


set_option Elab.async false
set_option linter.all false
set_option maxRecDepth 100000
set_option maxHeartbeats 4000000
namespace B
open PySem PySem.Spec L2 PyProof.Rows
/-- the same, its table perhaps too full -/
structure SW (P : Program) (w : World) (h : Heap) (a : Addr) (L : List (Addr × List Int)) (es : Array (Int × Value)) (ep : Nat) (t : SetTable) : Prop where
  ob : ∃ o, h.get? a = some o ∧ o.ExactSet ∧ o.data = .set es ep t
  rows : es.toList = rowsOf P w L
  tab : TbG t (L.map fun p => thash P w p.2)
  nd : (L.map (·.2)).Nodup
  tup : ∀ p ∈ L, IsT P w h p.2 p.1
  plain : t.plain = true
  led : w.params.followText "set-order" = true ∨ t.led = true
  fit : L.length ≤ t.mask
section
variable {P : Program} {w : World} {A : Around} {E : Value → Shared → Prop} {s : Shared} {h h' : Heap} {a : Addr} {L : List (Addr × List Int)} {es : Array (Int × Value)} {ep : Nat} {t : SetTable}
theorem SW.sg (R : SW P w h a L es ep t) (r : L.length * 5 < t.mask * 3) : SG P w h a L es ep t := ⟨R.ob, R.rows, R.tab, R.nd, R.tup, R.plain, R.led, r⟩
theorem SG.sw (R : SG P w h a L es ep t) : SW P w h a L es ep t := ⟨R.ob, R.rows, R.tab, R.nd, R.tup, R.plain, R.led, by have := R.room; omega⟩
theorem SW.fits (R : SW P w h a L es ep t) : t.fits es.size = true := by
  unfold SetTable.fits SetTable.fill
  have h1 := R.tab.sz
  have h2 := rows_size R.rows
  have h3 := R.fit
  rw [List.length_map] at h1
  simp only [R.tab.dm, Bool.and_eq_true, beq_iff_eq, decide_eq_true_eq]
  refine ⟨by omega, ?_⟩
  show t.place.size + 0 ≤ t.mask
  omega
/-- a set stored where one stood -/
theorem sg_put {o : Obj} (ho : s.heap.get? a = some o) (hx : o.ExactSet) (hd : o.data = .set es ep t) {es' : Array (Int × Value)} {t' : SetTable} {L' : List (Addr × List Int)} (rows : es'.toList = rowsOf P w L') (tab : TbG t' (L'.map fun p => thash P w p.2))
    (nd : (L'.map (·.2)).Nodup) (tup : ∀ p ∈ L', IsT P w s.heap p.2 p.1) (plain : t'.plain = true) (led : w.params.followText "set-order" = true ∨ t'.led = true) (fit : L'.length ≤ t'.mask) :
    SW P w (s.heap.update a (Obj.putSet es' t')) a L' es' (ep + 1) t' :=
  ⟨⟨_, store_at ho hd, ⟨hx.1, hx.2.1, hx.2.2⟩, rfl⟩, rows, tab, nd, fun p hp => isT_same (tup p hp) ho hd (Heap.SameBut.update ..), plain, led, fit⟩
/-- the table laid anew -/
theorem sw_relay (R : SW P w s.heap a L es ep t) {wanted : Nat} (hw : wanted < 2048) (hr : L.length * 5 < (SetTable.sizeAbove wanted - 1) * 3) {Q : Unit → Shared → Prop}
    (hQ : ∀ h' L' es' ep' t', Heap.SameBut a s.heap h' → SG P w h' a L' es' ep' t' → L'.Perm L → t'.mask = SetTable.sizeAbove wanted - 1 → Q () { s with heap := h' }) : wpAny (model P w) A (setRelay a wanted) Q E s := by
  obtain ⟨o, ho, hx, hd⟩ := R.ob
  have sz := rows_size R.rows
  obtain ⟨m1, m2, m3⟩ := size_mk hw
  obtain ⟨t', order, e, pm, T, em, el, epl⟩ := laid_some m1 t.finger (t.movedTo (SetTable.sizeAbove wanted - 1)) t.led t.plain (hs := es.map (·.1)) (by rw [Array.size_map, sz]; omega)
  rw [Array.size_map, sz] at pm
  obtain ⟨L2, r1, r2, r3⟩ := order_rows L es order R.rows pm
  rw [← r3] at T
  have sz2 : (order.filterMap (es[·]?)).size = es.size := by rw [rows_size r1, r2.length_eq, sz]
  rw [setRelay_eq]
  refine wpAny_bind (wpAny_setState_of ho hd R.fits ?_)
  dsimp only
  refine wp_if_neg (by rw [sizeLine_eq]; omega) ?_
  try refine wpAny_bind (wpAny_pure ?_)
  unfold SetTable.relaid
  rw [e]
  dsimp only
  refine wpAny_bind ?_
  refine wp_if_neg (by simp [sz2]) ?_
  try refine wpAny_bind (wpAny_pure ?_)
  refine wpAny_pure ?_
  dsimp only
  have lb : L2.length * 5 < t'.mask * 3 := by rw [r2.length_eq, em]; exact hr
  refine wpAny_storeSet_of ho hd ?_ (by rw [sz2, sz, sizeLine_eq]; omega)
  exact hQ _ L2 _ _ t' (Heap.SameBut.update ..) ((sg_put ho hx hd r1 T ((r2.map (·.2)).nodup_iff.mpr R.nd) (fun p hp => R.tup p (r2.mem_iff.mp hp)) (epl.trans R.plain) (by rw [el]; exact R.led) (by omega)).sg lb) r2 em
/-- ADDING one -/
theorem sg_add (R : SG P w s.heap a L es ep t) {x : Addr} {k : List Int} (hx : IsT P w s.heap k x) (hu : A.units < cLine) (few : L.length < 500) {Q : Bool → Shared → Prop}
    (hQ : ∀ b h' L' es' ep' t', Heap.SameBut a s.heap h' → SG P w h' a L' es' ep' t' → (k ∈ L.map (·.2) → L' = L) → (k ∉ L.map (·.2) → L'.Perm ((x, k) :: L)) → (L.length * 5 + 5 < t.mask * 3 → t'.mask = t.mask) → Q b { s with heap := h' }) :
    wpAny (model P w) A (setAddHashed a (.ref x) (thash P w k)) Q E s := by
  obtain ⟨o, ho, ox, hd⟩ := R.ob
  have sz := R.size
  have rm := R.room
  unfold setAddHashed
  refine wpAny_holding ?_
  rw [show (100000 : Nat) = 99999 + 1 from rfl, setAddHashedIn_succ]
  refine wpAny_bind (wpAny_setState_of ho hd (SG.fits R) ?_)
  dsimp only
  refine wp_if_neg (by simp [byScan, Value.scannable]) ?_
  try refine wpAny_bind (wpAny_pure ?_)
  refine wpAny_bind (sg_look R hx hu (fun hm => ?_) fun n nm n1 n2 => ?_)
  · dsimp only
    exact wpAny_pure (hQ false s.heap L es ep t (Heap.SameBut.refl a s.heap) R (fun _ => rfl) (fun z => absurd hm z) fun _ => rfl)
  · dsimp only
    refine wpAny_bind (wpAny_setState_of ho hd (SG.fits R) ?_)
    dsimp only
    obtain ⟨pl, T⟩ := R.tab.put n1 n2
    rw [List.length_map] at pl
    have pp := put_place t (way t.mask (thash P w k) n)
    generalize way t.mask (thash P w k) n = j at *
    generalize ept : t.put j = pt at T pp ⊢
    obtain ⟨t1, p⟩ := pt
    have ep2 : SetTable.below t.place j = p := congrArg Prod.snd ept
    have et1 : (t.put j).1 = t1 := congrArg Prod.fst ept
    have em : t1.mask = t.mask := by rw [← et1]; rfl
    have el : t1.led = t.led := by rw [← et1]; rfl
    have epl : t1.plain = true := by rw [← et1]; exact R.plain
    rw [ep2] at T pl
    dsimp only at T ⊢
    first
      | (refine wpAny_bind ?_; refine wp_if_pos epl ?_; refine hashBy_tup hx ?_)
      | refine wp_if_pos epl (wpAny_bind (hashBy_tup hx ?_))
    simp only [if_true]
    have rows : (SetTable.insertAt es p (thash P w k, Value.ref x)).toList = rowsOf P w (L.take p ++ (x, k) :: L.drop p) := by rw [SetTable.toList_insertAt, rows_put, R.rows]
    have pm := put_perm L p (x, k)
    rw [← List.map_take, ← List.map_drop] at T
    have T : TbG t1 ((L.take p ++ (x, k) :: L.drop p).map fun p => thash P w p.2) := by
      rw [List.map_append, List.map_cons]
      exact T
    generalize L.take p ++ (x, k) :: L.drop p = L1 at rows pm T
    generalize SetTable.insertAt es p (thash P w k, Value.ref x) = es1 at rows ⊢
    have len : L1.length = L.length + 1 := pm.length_eq
    have sz1 : es1.size = L.length + 1 := (rows_size rows).trans len
    have nd1 : (L1.map (·.2)).Nodup := (pm.map (·.2)).nodup_iff.mpr (List.nodup_cons.mpr ⟨nm, R.nd⟩)
    have tup1 : ∀ q ∈ L1, IsT P w s.heap q.2 q.1 := fun q hq => by
      rcases List.mem_cons.mp (pm.mem_iff.mp hq) with rfl | hq
      · exact hx
      · exact R.tup q hq
    refine wpAny_bind (wpAny_storeSet_of ho hd ?_ (by rw [sz1, sizeLine_eq]; omega))
    have W := sg_put ho ox hd rows T nd1 tup1 epl (by rw [el]; exact R.led) (by rw [len, em]; omega)
    have sb : Heap.SameBut a s.heap (s.heap.update a (Obj.putSet es1 t1)) := Heap.SameBut.update ..
    generalize s.heap.update a (Obj.putSet es1 t1) = h1 at W sb ⊢
    have fill : t1.fill = L.length + 1 := by
      have := T.sz
      rw [List.length_map, len] at this
      unfold SetTable.fill
      rw [T.dm, this]
      rfl
    by_cases hf : t1.tooFull = true
    · first
        | (refine wpAny_bind ?_; refine wp_if_pos (by simp [hf]) ?_)
        | (refine wp_if_pos (by simp [hf]) ?_; refine wpAny_bind ?_)
      have full : t.mask * 3 ≤ (L.length + 1) * 5 := by
        unfold SetTable.tooFull at hf
        rw [decide_eq_true_eq, fill, em] at hf
        exact hf
      rw [sz]
      have gr : SetTable.grown (L.length + 1) = (L.length + 1) * 4 := by
        unfold SetTable.grown
        rw [if_neg (by omega)]
      rw [gr]
      obtain ⟨_, m2, _⟩ := size_mk (n := (L.length + 1) * 4) (by omega)
      refine sw_relay (s := { s with heap := h1 }) W (by omega) (by omega) fun h2 L2 es2 ep3 t2 sb2 R2 pm2 _ => ?_
      exact wpAny_pure (hQ true h2 L2 es2 ep3 t2 (sb.trans sb2) R2 (fun z => absurd z nm) (fun _ => pm2.trans pm) fun z => by omega)
    · have hn : (L.length + 1) * 5 < t1.mask * 3 := by
        unfold SetTable.tooFull at hf
        rw [decide_eq_true_eq, fill] at hf
        omega
      first
        | refine wp_if_neg (by simp [hf]) ?_
        | (refine wpAny_bind ?_; refine wp_if_neg (by simp [hf]) ?_; refine wpAny_pure ?_)
      exact wpAny_pure (hQ true h1 L1 es1 _ t1 sb (W.sg (by rw [len]; exact hn)) (fun z => absurd z nm) (fun _ => pm) fun _ => em)
end
end B


set_option Elab.async false
set_option linter.all false
set_option maxRecDepth 100000
set_option maxHeartbeats 4000000
namespace B
open PySem PySem.Spec L2 PyProof.Rows
section
variable {P : Program} {w : World} {A : Around} {E : Value → Shared → Prop} {s : Shared} {h h' : Heap} {a : Addr} {L : List (Addr × List Int)} {es : Array (Int × Value)} {ep : Nat} {t : SetTable}
/-- what a set holds: of L1 and L2 -/
structure Both (L1 L2 L' : List (Addr × List Int)) : Prop where
  sub : ∀ p ∈ L', p ∈ L1 ∨ p ∈ L2
  all : ∀ p, p ∈ L1 ∨ p ∈ L2 → p.2 ∈ L'.map (·.2)
theorem nodup_len {L L2 : List (Addr × List Int)} (nd : (L.map (·.2)).Nodup) (h : ∀ p ∈ L, p ∈ L2) : L.length ≤ L2.length := by
  have nL : L.Nodup := List.Pairwise.of_map _ (fun a b ne e => ne (by rw [e])) nd
  clear nd
  induction L generalizing L2 with
  | nil => simp
  | cons x L ih =>
    obtain ⟨n1, n2⟩ := List.nodup_cons.mp nL
    have hx := h x List.mem_cons_self
    have := ih (L2 := L2.erase x) (fun p hp => (List.mem_erase_of_ne fun q => n1 (by rw [← q]; exact hp)).mpr (h p (List.mem_cons_of_mem _ hp))) n2
    rw [List.length_erase_of_mem hx] at this
    have := List.length_pos_of_mem hx
    rw [List.length_cons]
    omega
theorem perm_pre {α β : Type} {f : α → β} {l l2 : List β} (h : l.Perm l2) : ∀ L2 : List α, l2 = L2.map f → ∃ L3 : List α, L3.Perm L2 ∧ l = L3.map f := by
  induction h with
  | nil =>
    intro L2 e
    cases L2 with
    | nil => exact ⟨[], .refl _, rfl⟩
    | cons _ _ => cases e
  | cons x _ ih =>
    intro L2 e
    cases L2 with
    | nil => cases e
    | cons y L2 =>
      obtain ⟨L3, p, q⟩ := ih L2 (List.cons.inj e).2
      exact ⟨y :: L3, p.cons y, by rw [(List.cons.inj e).1, q]; rfl⟩
  | swap x y l =>
    intro L2 e
    match L2, e with
    | a :: b :: c, e =>
      obtain ⟨e1, e2⟩ := List.cons.inj e
      obtain ⟨e2, e3⟩ := List.cons.inj e2
      exact ⟨b :: a :: c, .swap _ _ _, by rw [e1, e2, e3]; rfl⟩
    | [_], e => cases (List.cons.inj e).2
    | [], e => cases e
  | trans _ _ ih1 ih2 =>
    intro L2 e
    obtain ⟨L3, p, q⟩ := ih2 L2 e
    obtain ⟨L4, p2, q2⟩ := ih1 L3 q
    exact ⟨L4, p2.trans p, q2⟩
end
end B


set_option Elab.async false
set_option linter.all false
set_option maxRecDepth 100000
set_option maxHeartbeats 4000000
namespace B
open PySem PySem.Spec L2 PyProof.Rows
section
variable {P : Program} {w : World} {A : Around} {E : Value → Shared → Prop} {s : Shared} {h h' : Heap} {a b : Addr} {L L1 L2 : List (Addr × List Int)} {es es1 es2 : Array (Int × Value)} {ep ep1 ep2 : Nat} {t t1 t2 : SetTable}
theorem SG.ty (R : SG P w s.heap a L es ep t) : s.TypeIs (.ref a) "set" := by
  obtain ⟨o, ho, hx, _⟩ := R.ob
  exact ⟨o, ho, hx.1⟩
/-- a new set -/
theorem sg_new {o : Obj} (ho : h.get? a = some o) (e : o = { cls := .type "set", dict := none, data := .set #[] 0 (.fresh 0 0 (!w.params.followText "set-order")) }) : SG P w h a [] #[] 0 (.fresh 0 0 (!w.params.followText "set-order")) := by
  subst e
  refine ⟨⟨_, ho, ⟨rfl, rfl, rfl⟩, rfl⟩, rfl, ⟨List.Pairwise.nil, rfl, rfl, Mk.seven, fun x hx => (nomatch hx), fun i h j hi => ?_⟩, List.nodup_nil, fun p hp => (nomatch hp), rfl, ?_, (show 0 * 5 < 7 * 3 by decide)⟩
  · simp at hi
  · show _ ∨ (!w.params.followText "set-order") = true
    cases w.params.followText "set-order"
    · exact .inr rfl
    · exact .inl rfl
end
end B


set_option Elab.async false
set_option linter.all false
set_option maxRecDepth 100000
set_option maxHeartbeats 4000000
namespace B
open PySem PySem.Spec L2 PyProof.Rows
/-! # comprehensions of one clause, whatever they make -/
/-- the turn's last part: from the environment and the new object, what is wished for -/
abbrev EndP := Around → PySem.Env → Addr → (Shared → Prop) → (Value → Shared → Prop) → Shared → Prop
/-- a turn, from the iterator on -/
def turnP (P : Program) (w : World) (tg : Expr) (ifs : List Expr) (en : EndP) (A : Around) (env : PySem.Env) (it : Value) (D : Addr) (stop nxt : Shared → Prop) (E : Value → Shared → Prop) (s : Shared) : Prop :=
  wpAny (model P w) A (pyNext it) (fun r s1 => match r with
    | none => stop s1
    | some v => wpAny (model P w) A (letOwnedTupleGo tg it v) (fun _ s2 => wpAny (model P w) A (assign tg env v) (fun _ s3 =>
        wpAny (model P w) A (forIn ifs true fun c r => if r = true then do let ok ← isTrue c env (eval c env); pure (ForInStep.yield ok) else pure (ForInStep.yield r)) (fun ok s4 =>
          if ok = true then en A env D nxt E s4 else nxt s4) E s3) E s2) E s1) E s
/-- a comprehension by its words: the new object ob, the turn's last part en -/
structure CompK (P : Program) (w : World) (e : Expr) (tg iter : Expr) (ifs : List Expr) (newAcc : Sem Value) (ob : Obj) (en : EndP) : Prop where
  clauses : clausesOf e = [⟨tg, iter, ifs, 0⟩]
  new : ∀ {A : Around} {E : Value → Shared → Prop} {s : Shared} {Q : Value → Shared → Prop}, Q (.ref s.heap.objs.size) { s with heap := s.heap.push ob } → wpAny (model P w) A newAcc Q E s
  loop : ∀ {A : Around} {R : Result → Shared → Prop} {s : Shared} {it : Value} {D : Addr} {env : PySem.Env} (I : Nat → Shared → Prop),
    (∀ n s, I n s → turnP P w tg ifs en A env it D (fun s' => R (.ok .next) s') (fun s' => ∃ m, m < n ∧ I m s') (notedBy (model P w) A env fun x s' => R (.error x) s') s) → ∀ n, I n s → codeAny (model P w) A (.compLoop e 0 it (.ref D) env) R s
  start : ∀ {A : Around} {R : Result → Shared → Prop} {s : Shared} {it : Value} {D : Addr} {env : PySem.Env}, codeAny (model P w) A (.compLoop e 0 it (.ref D) env) R s →
    wpAny (model P w) A (pyIter it) (fun it' s' => codeAny (model P w) A (.compLoop e 0 it' (.ref D) env) R s') (notedBy (model P w) A env fun x s' => R (.error x) s') s → codeAny (model P w) A (.compStart e 0 it (.ref D) env) R s
section
variable {X : Cx}
end
end B


set_option Elab.async false
set_option linter.all false
set_option maxRecDepth 100000
set_option maxHeartbeats 4000000
namespace B
open PySem PySem.Spec L2 PyProof.Rows
/-! # sets as tracked things -/
def SG0 (P : Program) (w : World) (h : Heap) (a : Addr) (L : List (Addr × List Int)) : Prop := ∃ (es : Array (Int × Value)) (ep : Nat) (t : SetTable), (∃ o, h.get? a = some o ∧ o.ExactSet ∧ o.data = .set es ep t) ∧ es.toList = rowsOf P w L ∧ TbG t (L.map fun p => thash P w p.2) ∧
  (L.map (·.2)).Nodup ∧ t.plain = true ∧ (w.params.followText "set-order" = true ∨ t.led = true) ∧ L.length * 5 < t.mask * 3
/-- the set at a: its tuples, where they stand -/
def SetG (P : Program) (w : World) (a : Addr) (L : List (Addr × List Int)) : HO := .ext fun h => SG0 P w h a L
section
variable {P : Program} {w : World} {h : Heap} {a : Addr} {L : List (Addr × List Int)}
theorem SG.s0 {es : Array (Int × Value)} {ep : Nat} {t : SetTable} (R : SG P w h a L es ep t) : SG0 P w h a L := ⟨es, ep, t, R.ob, R.rows, R.tab, R.nd, R.plain, R.led, R.room⟩
theorem SG0.full (R : SG0 P w h a L) (ht : ∀ p ∈ L, IsT P w h p.2 p.1) : ∃ es ep t, SG P w h a L es ep t := by
  obtain ⟨es, ep, t, h1, h2, h3, h4, h5, h6, h7⟩ := R
  exact ⟨es, ep, t, h1, h2, h3, h4, ht, h5, h6, h7⟩
theorem setG_ok {H : Hp} (R : SG0 P w h a L) : ObjOk P w H h a (SetG P w a L) := by
  refine ⟨R, ?_, fun h1 h2 p k => ?_⟩
  · obtain ⟨_, _, _, ⟨o, ho, _⟩, _⟩ := R
    exact ⟨o, ho⟩
  · obtain ⟨es, ep, t, ⟨o, ho, r⟩, q⟩ := p
    exact ⟨es, ep, t, ⟨o, k o ho, r⟩, q⟩
end
section
variable {K : PySem.W.Frag} {mg : Str → Option Value} {G : GT} {F H : Hp} {io : List Addr} {β : B.Env} {σ : L2.St}
/-- an object that must stay is another one from here on -/
theorem BI.guardG (I : BI K mg G F io β σ H) {D : Addr} {o o0 : HO} (eG : G.g D = some o0) (nc : ∀ c q, o0 ≠ LamX.CodeO c q) (fD : F D = none) (nio : D ∉ io) : BI K mg (G.upd D o) F io β σ (upd H D o) := by
  have hD := I.sg.g _ _ eG
  refine ⟨I.sg.guard (I.sg.dj _ _ eG) fun c q z => nc c q (Option.some.inj (hD.symm.trans z)), fun b u h => ?_, I.ioF, fun b hb => ?_, I.len, fun j s es => ?_, I.apart⟩
  · have hb : b ≠ D := ne_of_none h fD
    rw [upd_ne hb]
    exact I.sf b u h
  · have hb' : b ≠ D := fun z => nio (by rw [← z]; exact hb)
    rw [upd_ne hb']
    exact I.ioH b hb
  · obtain ⟨w, ew, hs⟩ := I.sl j s es
    refine ⟨w, ew, ?_⟩
    cases s with
    | own b d =>
      obtain ⟨a, q, f, g, k1, k2, r⟩ := hs
      have na : a ≠ D := fun z => by
        have := GT.gn g
        rw [z, eG] at this
        cases this
      exact ⟨a, q, f, by rw [GT.upd_ne na]; exact g, k1, k2, r.mono (Same.refl _) (upd_ne na)⟩
    | ex z0 => exact hs
    | gh _ => exact hs
    | un => trivial
    | fz d => exact hs
end
/-! ## comprehensions of any kind, by data -/
def compG {γ : Type} (g : D → M Unit) (mt : M Bool) (st : γ → M γ) (vs : List Nat) : List D → γ → M γ
  | [], acc => ret acc
  | d :: ds, acc => fun β => match g d β with
    | .ok _ β1 => (match mt β1 with
      | .ok true β2 => (match st acc β2 with
        | .ok acc' β3 => compG g mt st vs ds acc' (wipeB β3 vs)
        | _ => .stuck)
      | .ok false β2 => compG g mt st vs ds acc (wipeB β2 vs)
      | _ => .stuck)
    | _ => .stuck
def compGV {γ : Type} (g : D → M Unit) (mt : M Bool) (st : γ → M γ) (vs : List Nat) (a0 : γ) (ds : List D) : M γ := fun β1 => if noOwn β1 vs = true then (match compG g mt st vs ds a0 (wipeB β1 vs) with
  | .ok acc β => .ok acc (backB β1 β vs)
  | _ => .stuck) else .stuck
def mCompG {γ : Type} (vs : List Nat) (mi : M (List D)) (g : D → M Unit) (mt : M Bool) (st : γ → M γ) (a0 : γ) : M γ := bnd mi (compGV g mt st vs a0)
/-- how an accumulator stands to the object that it tells -/
structure AccR where
  γ : Type
  rel : Hp → Addr → HO → γ → Prop
  mono : ∀ {F F' : Hp} {D : Addr} {o : HO} {acc : γ}, Same F F' → rel F D o acc → rel F' D o acc
  nc : ∀ {F : Hp} {D : Addr} {o : HO} {acc : γ}, rel F D o acc → ∀ c q, o ≠ LamX.CodeO c q
section
variable {X : Cx}
end
end B


set_option Elab.async false
set_option linter.all false
set_option maxRecDepth 100000
set_option maxHeartbeats 4000000
namespace B
open PySem PySem.Spec L2 PyProof.Rows
open PySem.W (dataLt alike dataLe AllAlike Sortable)
/-! # sorted of a set of tuples of ints -/
abbrev encT (p : Addr × List Int) : PyData := .tuple (p.2.map .int)
theorem le_encT : dataLe false encT = fun p q => decide (p.2 ≤ q.2) := by
  funext p q
  show (!dataLt (.tuple (q.2.map .int)) (.tuple (p.2.map .int))) = _
  rw [PySem.W.dataLt_tuple]
  have e : lexLt itemOrd (PySem.W.keyToksAll (q.2.map PyData.int)) (PySem.W.keyToksAll (p.2.map PyData.int)) = decide (q.2 < p.2) := PySem.W.dataLt_ints q.2 p.2
  rw [e]
  by_cases h : q.2 < p.2
  · have h' : ¬ p.2 ≤ q.2 := fun r => List.not_lt.mpr r h
    simp [h, h']
  · have h' : p.2 ≤ q.2 := List.not_lt.mp h
    simp [h, h']
/-- the keys, rising -/
def sortK (L : List (Addr × List Int)) : List (Addr × List Int) := L.mergeSort (dataLe false encT)
theorem sortK_perm (L : List (Addr × List Int)) : (sortK L).Perm L := List.mergeSort_perm _ _
theorem sortK_rise {L : List (Addr × List Int)} (nd : (L.map (·.2)).Nodup) : ((sortK L).map (·.2)).Pairwise (· < ·) := by
  have h1 : (sortK L).Pairwise (fun p q => p.2 ≤ q.2) := by
    unfold sortK
    rw [le_encT]
    have := List.pairwise_mergeSort (le := fun p q : Addr × List Int => decide (p.2 ≤ q.2)) (fun a b c h1 h2 => by simpa using List.le_trans (by simpa using h1) (by simpa using h2)) (fun a b => by
      simp only [Bool.or_eq_true, decide_eq_true_eq]
      exact List.le_total _ _) L
    exact this.imp fun h => by simpa using h
  have h2 : ((sortK L).map (·.2)).Nodup := ((sortK_perm L).map (·.2)).nodup_iff.mpr nd
  have h3 := List.pairwise_map.mp h2
  refine List.pairwise_map.mpr (h1.imp₂ (fun a b h n => ?_) h3)
  rcases List.le_iff_lt_or_eq.mp h with q | q
  · exact q
  · exact absurd q n
section
variable {P : Program} {w : World} {A : Around} {E : Value → Shared → Prop} {s : Shared} {h h' : Heap} {a : Addr} {L : List (Addr × List Int)} {es : Array (Int × Value)} {ep : Nat} {t : SetTable}
theorem reads_tup {k : List Int} {b : Addr} (x : IsT P w h k b) : Reads h (.ref b) (.tuple (k.map .int)) [] := by
  obtain ⟨o, items, n, ho, hc, hd, hi⟩ := x
  refine .tuple ho hc hd ?_
  clear hd ho
  replace hi : ItemsAre (intKind P w) k items.toList := hi
  generalize items.toList = vs at hi
  induction hi with
  | nil => exact .nil
  | @cons k0 v ks vs h1 _ ih =>
    obtain ⟨t, rfl⟩ := Value.isInt_shape h1
    exact .cons (as := []) (.int k0 t) ih
/-- sorted(s) -/
theorem sg_sorted (R : SG P w s.heap a L es ep t) (hh : A.handled = none) (ne : ∀ p ∈ L, p.2 ≠ []) (hu : A.units + 8 < cLine) (few : L.length < 4000) {Q : Value → Shared → Prop}
    (hQ : ∀ s' p (out : Array Value) (c : Nat), (∀ b o, s.heap.get? b = some o → s'.heap.get? b = some o) → s'.gens = s.gens → s'.os = s.os → s.heap.objs.size ≤ p → s'.heap.get? p = some (seqObj "list" out c) →
      (∃ L', L'.Perm L ∧ out.toList = (sortK L').map (fun q => Value.ref q.1)) → Q (.ref p) s') :
    wpAny (model P w) A (call (.builtin "sorted") [.ref a]) Q E s := by
  obtain ⟨o, ho, hx, hd⟩ := R.ob
  have sz := R.size
  refine Calls.call_function_entry kind_sorted plain_sorted entry_sorted (args_sorted1 _) ?_
  unfold Builtin.«sorted»
  refine wpAny_bind (m := checkCount "sorted" 1 1 _) (wpAny_pure ?_)
  refine wpAny_bind (collect_set (A := A.in1) hh ⟨o, ho, hx.1, hd⟩ R.fits (by unfold scanBound; omega) R.tab.ris R.led fun s1 vs k1 z1 g1 o1 pm => ?_)
  rw [R.rows] at pm
  have e1 : (rowsOf P w L).map (·.2) = L.map fun q => Value.ref q.1 := by
    unfold rowsOf
    rw [List.map_map]
    rfl
  rw [e1] at pm
  obtain ⟨L1, p1, rfl⟩ := perm_pre pm L rfl
  have l1 := p1.length_eq
  refine wpAny_bind (wpAny_newList ?_ (by rw [List.length_map, sizeLine_eq]; omega))
  have at1 : (s1.heap.push (seqObj "list" (L1.map fun q => Value.ref q.1).toArray 0)).get? s1.heap.objs.size = some (seqObj "list" (L1.map fun q => Value.ref q.1).toArray 0) := Heap.get?_push_size _ rfl
  have keep : ∀ b u, s.heap.get? b = some u → (s1.heap.push (seqObj "list" (L1.map fun q => Value.ref q.1).toArray 0)).get? b = some u := fun b u e => Heap.get?_push_of_some _ (k1 b u e)
  have isT : ∀ q ∈ L1, IsT P w (s1.heap.push (seqObj "list" (L1.map fun q => Value.ref q.1).toArray 0)) q.2 q.1 := fun q hq => by
    obtain ⟨o', items, n, e, r⟩ := R.tup q (p1.mem_iff.mp hq)
    exact ⟨o', items, n, keep _ _ e, r⟩
  have each : ∀ (M : List (Addr × List Int)), PySem.W.EachIs (fun v (q : Addr × List Int) => v = Value.ref q.1) (M.map fun q => Value.ref q.1) M := fun M => by
    induction M with
    | nil => exact .nil
    | cons q M ih => exact .cons rfl ih
  have er : PySem.W.EachIs (fun v (q : Addr × List Int) => ∃ as, Reads (s1.heap.push (seqObj "list" (L1.map fun q => Value.ref q.1).toArray 0)) v (encT q) as ∧ s1.heap.objs.size ∉ as) (L1.map fun q => Value.ref q.1) L1 := by
    have key : ∀ M : List (Addr × List Int), (∀ q ∈ M, q ∈ L1) → PySem.W.EachIs (fun v (q : Addr × List Int) => ∃ as, Reads (s1.heap.push (seqObj "list" (L1.map fun q => Value.ref q.1).toArray 0)) v (encT q) as ∧ s1.heap.objs.size ∉ as) (M.map fun q => Value.ref q.1) M := fun M => by
      induction M with
      | nil => intro _; exact .nil
      | cons q M ih => intro hm; exact .cons ⟨[], reads_tup (isT q (hm q List.mem_cons_self)), fun z => nomatch z⟩ (ih fun r hr => hm r (List.mem_cons_of_mem _ hr))
    exact key L1 fun _ h => h
  refine wpAny_bind (wpAny_holding (PySem.W.list_sort_data (s := { s1 with heap := s1.heap.push (seqObj "list" (L1.map fun q => Value.ref q.1).toArray 0) }) (enc := encT) at1 (each L1) er (PySem.W.AllAlike.of fun b b' => ?_) (.inl fun d hd => ?_) (by rw [sizeLine_eq]; omega) (fun q hq => ?_) fun out lo eo => ?_))
  · exact PySem.W.alike_ints b.2 b'.2
  · obtain ⟨q, hq, rfl⟩ := List.mem_map.mp hd
    cases e : q.2 with
    | nil => exact absurd e (ne q (p1.mem_iff.mp hq))
    | cons x r => exact ⟨.int x, r.map .int, by simp [encT, e]⟩
  · have : (encT q).depth = 1 := by
      show PyData.depthAll (q.2.map .int) + 1 = 1
      rw [PySem.W.depth_ints]
    rw [this]
    show A.units + 1 + 1 + 1 < cLine
    omega
  · obtain ⟨c, hc⟩ := sortedHeap_at (vs := L1.map fun q => Value.ref q.1) (out := out.toArray) at1
    have eo' : out = (sortK L1).map fun q => Value.ref q.1 := by
      have key : ∀ {us : List Value} {M : List (Addr × List Int)}, PySem.W.EachIs (fun v (q : Addr × List Int) => v = Value.ref q.1) us M → us = M.map fun q => Value.ref q.1 := fun {us M} e => by
        induction e with
        | nil => rfl
        | cons a _ ih => rw [a, ih]; rfl
      exact key eo
    refine wpAny_pure ⟨_, rfl, hQ _ s1.heap.objs.size out.toArray c (fun b u e => ?_) g1 o1 z1 hc ⟨L1, p1, by simpa using eo'⟩⟩
    have lt := Heap.lt_size (k1 b u e)
    show (sortedHeap _ s1.heap.objs.size _ _).get? b = some u
    rw [sortedHeap_old (Nat.ne_of_lt lt) (by rw [size_push']; exact Nat.lt_succ_of_lt lt)]
    exact keep b u e
end
end B


set_option Elab.async false
set_option linter.all false
set_option maxRecDepth 100000
set_option maxHeartbeats 4000000
namespace B
open PySem PySem.Spec L2 PyProof.Rows
/-! # sets: the rules -/
abbrev TupAt (H : Hp) (p : Addr × List Int) : Prop := H p.1 = some (.tup (p.2.map V.int))
section
variable {X : Cx}
theorem isT_of {pins : List (Addr × Obj)} {σ : L2.St} {H : Hp} {s : Shared} {p : Addr × List Int} (I : Inv X pins σ H s) (h : TupAt H p) : IsT X.prog X.w s.heap p.2 p.1 := I.isT (.inl (.inl h))
theorem set_full {pins : List (Addr × Obj)} {σ : L2.St} {H : Hp} {s : Shared} {a : Addr} {L : List (Addr × List Int)} (I : Inv X pins σ H s) (ha : H a = some (SetG X.prog X.w a L)) (ht : ∀ p ∈ L, TupAt H p) : ∃ es ep t, SG X.prog X.w s.heap a L es ep t :=
  SG0.full (I.hok a _ ha).1 fun p hp => isT_of I (ht p hp)
/-- sorted(a) -/
def rSortG (P : Program) (w : World) : List V → Hp → VK → Prop := fun vs H Q => ∃ a L, vs = [V.ref a] ∧ H a = some (SetG P w a L) ∧ (∀ p ∈ L, TupAt H p) ∧ (∀ p ∈ L, p.2 ≠ []) ∧ L.length < 4000 ∧
  ∀ L' p, L'.Perm L → H p = none → Q (.ref p) (upd H p (.lst ((sortK L').map fun q => V.ref q.1)))
theorem cr_sortG (hc : X.calm = true) (hu : X.A.units + 64 < cLine) : CallR X (.builtin "sorted") (rSortG X.prog X.w) := by
  intro pins s σ H vs us Q I r ⟨a, L, e, ha, ht, ne, few, q⟩
  subst e
  obtain ⟨es, ep, t, R⟩ := set_full I ha ht
  rw [Vals.ref1 r]
  refine sg_sorted R (I.ok.hd hc) ne (by omega) few fun s' p out c k g o hp hg ⟨L', pm, eo⟩ => ?_
  have len : ((sortK L').map fun q => V.ref q.1).length ≤ sizeLine := by
    rw [List.length_map, (sortK_perm L').length_eq, pm.length_eq, sizeLine_eq]
    omega
  have hv : Vals ((sortK L').map fun q => V.ref q.1) out.toList := by rw [eo]; exact vals_of_refs _
  have hn : H p = none := I.hok.fresh hp
  have J : Inv X pins σ (upd H p (.lst ((sortK L').map fun q => V.ref q.1))) { s with heap := s'.heap, gens := s'.gens, drawn := s'.drawn, toks := s'.toks } :=
    I.call (ch := []) (Un.laid k hp hn) (I.hok.laid k hp ⟨len, out.toList, c, hv, hg⟩) (by rw [g]; exact I.bare) fun _ z => nomatch z
  have e : s' = { s with heap := s'.heap, gens := s'.gens, drawn := s'.drawn, toks := s'.toks } := by
    cases s'
    simp only at o
    rw [o]
  rw [e]
  exact ⟨.ref p, _, J, rfl, q L' p pm hn⟩
/-! ## {elt for target in iter if ..} -/
/-! ## by data -/
/-- how many unlike ones there are -/
def dcn : List (List Int) → Nat
  | [] => 0
  | k :: ks => dcn ks + if k ∈ ks then 0 else 1
theorem dcn_ex : ∀ ks : List (List Int), ∃ l : List (List Int), l.Nodup ∧ l.length = dcn ks ∧ ∀ k ∈ l, k ∈ ks
  | [] => ⟨[], .nil, rfl, fun _ h => (nomatch h)⟩
  | k :: ks => by
    obtain ⟨l, h1, h2, h3⟩ := dcn_ex ks
    by_cases h : k ∈ ks
    · exact ⟨l, h1, by simp [dcn, h, h2], fun x hx => List.mem_cons_of_mem _ (h3 x hx)⟩
    · refine ⟨k :: l, List.nodup_cons.mpr ⟨fun z => h (h3 k z), h1⟩, by simp [dcn, h, h2], fun x hx => ?_⟩
      rcases List.mem_cons.mp hx with rfl | hx
      · exact List.mem_cons_self
      · exact List.mem_cons_of_mem _ (h3 x hx)
theorem nodup_sub : ∀ {l T : List (List Int)}, l.Nodup → (∀ k ∈ l, k ∈ T) → l.length ≤ T.length
  | [], _, _, _ => Nat.zero_le _
  | k :: l, T, nd, h => by
    obtain ⟨n1, n2⟩ := List.nodup_cons.mp nd
    have hk := h k List.mem_cons_self
    have := nodup_sub (l := l) (T := T.erase k) n2 fun x hx => (List.mem_erase_of_ne (fun z => n1 (by rw [← z]; exact hx))).mpr (h x (List.mem_cons_of_mem _ hx))
    rw [List.length_erase_of_mem hk] at this
    have := List.length_pos_of_mem hk
    rw [List.length_cons]
    omega
theorem dcn_le {ks T : List (List Int)} (h : ∀ k ∈ ks, k ∈ T) : dcn ks ≤ T.length := by
  obtain ⟨l, h1, h2, h3⟩ := dcn_ex ks
  rw [← h2]
  exact nodup_sub h1 fun k hk => h k (h3 k hk)
def stS (me : M Rs) : List (List Int) → M (List (List Int)) := fun ks β => match me β with
  | .ok r β' => (match tupI? r.d with
    | some k => if dcn ks < 249 then .ok (ks ++ [k]) β' else .stuck
    | none => .stuck)
  | _ => .stuck
/-- an object that is there is let stay, as it is -/
theorem BI.pin {K : PySem.W.Frag} {mg : Str → Option Value} {G : GT} {F H : Hp} {io : List Addr} {β : B.Env} {σ : L2.St} {a : Addr} {o : HO} (I : BI K mg G F io β σ H) (ha : H a = some o) (gA : G a = none)
    (ns : ∀ (i : Nat) (s : Sl), β[i]? = some s → isOwn s = true → σ[i]? ≠ some (some (V.ref a))) : BI K mg (G.upd a o) F io β σ H := by
  refine ⟨⟨fun b u e => ?_, I.sg.t, fun b u e => ?_⟩, I.sf, I.ioF, I.ioH, I.len, fun i s e => ?_, I.apart⟩
  · by_cases hb : b = a
    · subst hb
      unfold GT.upd at e
      simp only [upd_same] at e
      cases e
      exact ha
    · unfold GT.upd at e
      simp only [upd_ne hb] at e
      exact I.sg.g b u e
  · by_cases hb : b = a
    · subst hb
      exact show G.t b = none from GT.tn gA
    · unfold GT.upd at e
      simp only [upd_ne hb] at e
      exact I.sg.dj b u e
  · obtain ⟨v, ev, hs⟩ := I.sl i s e
    refine ⟨v, ev, ?_⟩
    cases s with
    | own b d =>
      obtain ⟨x, q, f, g, k1, k2, r⟩ := hs
      exact ⟨x, q, f, by rw [GT.upd_ne fun z => ns i _ e rfl (by rw [ev, q, z])]; exact g, k1, k2, r⟩
    | ex z0 => exact hs
    | gh _ => exact hs
    | un => trivial
    | fz d => exact hs
end
end B


set_option Elab.async false
set_option linter.all false
set_option maxRecDepth 100000
set_option maxHeartbeats 4000000
namespace B
open PySem PySem.Spec L2 PyProof.Rows
/-! # sorted({..} | {..}) -/
section
variable {X : Cx}
def mSetC (vs : List Nat) (mi : M (List D)) (g : D → M Unit) (mt : M Bool) (me : M Rs) : M (List (List Int)) := mCompG vs mi g mt (stS me) []
def mPts (c1 c2 : M (List (List Int))) : M Rs := bnd c1 fun k1 => bnd c2 fun k2 => if (k1 ++ k2).all (fun k => !k.isEmpty) = true then ret (.own (.nd .lst ((tset (k1 ++ k2)).map tupD))) else stk
end
end B


set_option Elab.async false
set_option linter.all false
set_option maxRecDepth 100000
set_option maxHeartbeats 4000000
namespace B
open PySem PySem.Spec L2 PyProof.Rows
/-! # dicts whose keys are tuples of ints -/
abbrev Ent := List Int × Addr × V
/-- the value at a key; a value put at a key (the first key stays) -/
def getE (xs : List Ent) (k : List Int) : Option V := (xs.find? fun x => decide (x.1 = k)).map (·.2.2)
def putE (xs : List Ent) (k : List Int) (T : Addr) (v : V) : List Ent := if k ∈ xs.map (·.1) then xs.map (fun x => if x.1 = k then (x.1, x.2.1, v) else x) else xs ++ [(k, T, v)]
section
variable {X : Cx} {pins : List (Addr × Obj)} {σ : L2.St} {H : Hp} {s : Shared} {a : Addr} {xs : List Ent} {ep : Nat}
end
end B


set_option Elab.async false
set_option linter.all false
set_option maxRecDepth 100000
set_option maxHeartbeats 4000000
namespace B
open PySem PySem.Spec L2 PyProof.Rows
/-! # dicts by data -/
abbrev Dct := List (List Int × D)
def entD (p : List Int × D) : D := .nd .tup [tupD p.1, p.2]
def dcgD (l : Dct) : D := .nd .dcg (l.map entD)
def getL (l : Dct) (k : List Int) : Option D := (l.find? fun x => decide (x.1 = k)).map (·.2)
def putL (l : Dct) (k : List Int) (d : D) : Dct := if k ∈ l.map (·.1) then l.map (fun x => if x.1 = k then (x.1, d) else x) else l ++ [(k, d)]
def entOf : D → Option (List Int × D)
  | .nd .tup [kd, d] => (tupI? kd).map fun k => (k, d)
  | _ => none
/-- the entries of a dict's data -/
def entsOf : List D → Option Dct
  | [] => some []
  | e :: es => match entOf e, entsOf es with
    | some p, some l => some (p :: l)
    | _, _ => none
theorem tupI_tupD (k : List Int) : tupI? (tupD k) = some k := ints_map k
theorem entOf_entD (p : List Int × D) : entOf (entD p) = some p := by
  show (tupI? (tupD p.1)).map _ = _
  rw [tupI_tupD]
  rfl
theorem entsOf_map : ∀ l : Dct, entsOf (l.map entD) = some l
  | [] => rfl
  | p :: l => by
    show (match entOf (entD p), entsOf (l.map entD) with
      | some p, some l => some (p :: l)
      | _, _ => none) = _
    rw [entOf_entD, entsOf_map l]
section
variable {K : PySem.W.Frag} {mg : Str → Option Value} {F H : Hp}
theorem gds_map : ∀ l : Dct, GDs (l.map (·.1)) (l.map (·.2)) (l.map entD)
  | [] => .nil
  | p :: l => .cons (gds_map l)
/-- entries by data -/
def EntD (K : PySem.W.Frag) (mg : Str → Option Value) (F : Hp) (xs : List Ent) (l : Dct) : Prop := Paired (fun (x : Ent) (p : List Int × D) => x.1 = p.1 ∧ F x.2.1 = some (.tup (x.1.map V.int)) ∧ DR K mg F x.2.2 p.2) xs l
theorem EntD.parts {xs : List Ent} {l : Dct} (h : EntD K mg F xs l) : (∀ x ∈ xs, F x.2.1 = some (.tup (x.1.map V.int))) ∧ DRs K mg F (xs.map (·.2.2)) (l.map (·.2)) ∧ xs.map (·.1) = l.map (·.1) := by
  induction h with
  | nil => exact ⟨fun x hx => (nomatch hx), .nil, rfl⟩
  | @cons x p xs l r _ ih =>
    refine ⟨fun y hy => ?_, .cons r.2.2 ih.2.1, by rw [List.map_cons, List.map_cons, r.1, ih.2.2]⟩
    rcases List.mem_cons.mp hy with rfl | hy
    · exact r.2.1
    · exact ih.1 y hy
theorem EntD.mono {F' : Hp} {xs : List Ent} {l : Dct} (h : EntD K mg F xs l) (e : Same F F') : EntD K mg F' xs l := Paired.mapP h fun x p ⟨h1, h2, h3⟩ => ⟨h1, e _ _ h2, h3.mono e⟩
theorem EntD.get {xs : List Ent} {l : Dct} (h : EntD K mg F xs l) {k : List Int} {d : D} (e : getL l k = some d) : ∃ v, getE xs k = some v ∧ DR K mg F v d := by
  unfold getL at e
  unfold getE
  induction h with
  | nil => cases e
  | @cons x p xs l r _ ih =>
    rw [List.find?_cons] at e ⊢
    rw [r.1]
    by_cases c : p.1 = k
    · simp only [c, decide_true, Option.map_some] at e ⊢
      cases e
      exact ⟨_, rfl, r.2.2⟩
    · simp only [c, decide_false] at e ⊢
      exact ih e
theorem EntD.put {xs : List Ent} {l : Dct} (h : EntD K mg F xs l) {k : List Int} {T : Addr} {v : V} {d : D} (hT : F T = some (.tup (k.map V.int))) (r : DR K mg F v d) : EntD K mg F (putE xs k T v) (putL l k d) := by
  unfold putE putL
  rw [h.parts.2.2]
  by_cases c : k ∈ l.map (·.1)
  · rw [if_pos c, if_pos c]
    clear c
    unfold EntD at h ⊢
    induction h with
    | nil => exact .nil
    | @cons x p xs l q t ih =>
      refine .cons ?_ ih
      show (if x.1 = k then (x.1, x.2.1, v) else x).1 = (if p.1 = k then (p.1, d) else p).1 ∧ F (if x.1 = k then (x.1, x.2.1, v) else x).2.1 = some (.tup ((if x.1 = k then (x.1, x.2.1, v) else x).1.map V.int)) ∧ DR K mg F (if x.1 = k then (x.1, x.2.1, v) else x).2.2 (if p.1 = k then (p.1, d) else p).2
      by_cases e : p.1 = k
      · rw [if_pos e, if_pos (q.1.trans e)]
        exact ⟨q.1, q.2.1, r⟩
      · rw [if_neg e, if_neg (show ¬ x.1 = k by rw [q.1]; exact e)]
        exact q
  · rw [if_neg c, if_neg c]
    exact Paired.snoc h ⟨rfl, hT, r⟩
theorem EntD.len {xs : List Ent} {l : Dct} (h : EntD K mg F xs l) : xs.length = l.length := Paired.length h
end
section
variable {X : Cx}
/-! ## d[k], k in d -/
def gIxG : D → D → Option Rs
  | .nd .dcg es, k => (entsOf es).bind fun l => (tupI? k).bind fun k => (getL l k).map .fz
  | _, _ => none
def gIxA (d e : D) : Option Rs := (gIx d e).orElse fun _ => gIxG d e
def inDG (d e : D) : Option Bool := match e with
  | .nd .dcg es => (entsOf es).bind fun l => (tupI? d).map fun k => decide (k ∈ l.map (·.1))
  | _ => none
def gInG (d e : D) : Option Rs := (inDG d e).map fun b => .fz (.bl b)
def gNotInG (d e : D) : Option Rs := (inDG d e).map fun b => .fz (.bl (!b))
/-- in lists, tuples, texts, dicts -/
def gInA (d e : D) : Option Rs := (gIn d e).orElse fun _ => gInG d e
def gNotInA (d e : D) : Option Rs := (gNotIn d e).orElse fun _ => gNotInG d e
/-! ## walks -/
def keysOf (l : Dct) : List D := l.map fun p => tupD p.1
def mIterK (m : M Rs) : M (List D) := bnd m fun r => match r.d with
  | .nd .dcg es => liftO ((entsOf es).map keysOf)
  | _ => stk
end
end B


set_option Elab.async false
set_option linter.all false
set_option maxRecDepth 100000
set_option maxHeartbeats 4000000
namespace B
open PySem PySem.Spec L2 PyProof.Rows
/-! # {k: v for target in iter if ..}, the keys tuples of ints -/
section
variable {X : Cx}
def stD (mk mv : M Rs) : Dct → M Dct := fun l => bnd mk fun rk => bnd mv fun rv => match tupI? rk.d with
  | some k => if l.length < sizeLine then ret (putL l k rv.d) else stk
  | none => stk
def mDictC (vs : List Nat) (mi : M (List D)) (g : D → M Unit) (mt : M Bool) (mk mv : M Rs) : M Rs := bnd (mCompG vs mi g mt (stD mk mv) []) fun l => ret (.own (dcgD l))
/-- {} for tuple keys -/
def mDictG0 : M Rs := ret (.own (dcgD []))
/-! ## x[k] = e, x a name that holds a dict of one's own -/
def setIxG (i : Nat) (v : Rs) (kd : D) : M Fl := fun β => match β[i]?, tupI? kd with
  | some (.own b (.nd .dcg es)), some k => (match entsOf es with
    | some l => if l.length < sizeLine then .ok .nx (β.set i (.own b (dcgD (putL l k v.d)))) else .stuck
    | none => .stuck)
  | _, _ => .stuck
def mSetIxG (i : Nat) (me mk : M Rs) : M Fl := bnd me fun r => bnd (mPl i) fun _ => bnd mk fun kr => setIxG i r kr.d
end
end B


set_option Elab.async false
set_option linter.all false
set_option maxRecDepth 100000
set_option maxHeartbeats 4000000
namespace B
open PySem PySem.Spec L2 PyProof.Rows
/-! # a dict of lists of one's own, its lists changed where they stand -/
def orH (P F : Hp) : Hp := fun b => match P b with
  | some o => some o
  | none => F b
/-- private objects, on top of what must stay -/
def GT.many (G : GT) (P : Hp) : GT := ⟨orH P G.g, G.t⟩
/-- what is private is nobody else's -/
def Off (G : GT) (F : Hp) (io : List Addr) (P : Hp) : Prop := ∀ b o, P b = some o → F b = none ∧ G b = none ∧ b ∉ io
section
variable {K : PySem.W.Frag} {mg : Str → Option Value} {G : GT} {F F' H P : Hp} {io : List Addr} {β : B.Env} {σ : L2.St} {a Da : Addr} {o : HO}
theorem orH_some (h : P a = some o) : orH P F a = some o := by unfold orH; rw [h]
theorem orH_none (h : P a = none) : orH P F a = F a := by unfold orH; rw [h]
theorem GT.many_upd : G.many (L2.upd P Da o) = (G.many P).upd Da o := by
  unfold GT.many GT.upd
  congr 1
  funext b
  by_cases hb : b = Da
  · subst hb
    rw [upd_same, orH_some upd_same]
  · rw [L2.upd_ne hb]
    unfold orH
    rw [L2.upd_ne hb]
theorem GT.many_none (h : (G.many P) a = none) : P a = none ∧ G a = none := by
  obtain ⟨h1, h2⟩ := GT.none_iff.mp h
  have h2 : orH P G.g a = none := h2
  cases e : P a with
  | some o => rw [orH_some e] at h2; cases h2
  | none =>
    rw [orH_none e] at h2
    exact ⟨rfl, GT.none_iff.mpr ⟨h1, h2⟩⟩
theorem GT.many_of (h1 : P a = none) (h2 : G a = none) : (G.many P) a = none := GT.none_iff.mpr ⟨GT.tn (G := G) h2, by show orH P G.g a = none; rw [orH_none h1]; exact GT.gn h2⟩
theorem FE.one (fe : FE (G.many P) io F F') : FE G io F F' := ⟨fe.same, fun a o h => (fe.new a o h).imp id fun ⟨g, n⟩ => ⟨(GT.many_none g).2, n⟩⟩
theorem Off.fe (h : Off G F io P) (fe : FE (G.many P) io F F') : Off G F' io P := fun b o e => by
  obtain ⟨h1, h2, h3⟩ := h b o e
  refine ⟨?_, h2, h3⟩
  cases q : F' b with
  | none => rfl
  | some u =>
    rcases fe.new b u q with z | ⟨z, _⟩
    · rw [h1] at z; cases z
    · rw [(GT.many_none z).1] at e; cases e
theorem BI.many (I : BI K mg G F io β σ H) (of : Off G F io P) (sp : Same P H) (ap : ∀ (i : Nat) (s : Sl) (b : Addr), β[i]? = some s → isOwn s = true → σ[i]? = some (some (V.ref b)) → P b = none) : BI K mg (G.many P) F io β σ H := by
  refine ⟨⟨fun b u h => ?_, I.sg.t, fun b u h => ?_⟩, I.sf, I.ioF, I.ioH, I.len, fun j s es => ?_, I.apart⟩
  · have h : orH P G.g b = some u := h
    cases e : P b with
    | some q => rw [orH_some e] at h; cases h; exact sp _ _ e
    | none => rw [orH_none e] at h; exact I.sg.g _ _ h
  · have h : orH P G.g b = some u := h
    show G.t b = none
    cases e : P b with
    | some q => exact GT.tn (of b q e).2.1
    | none => rw [orH_none e] at h; exact I.sg.dj _ _ h
  · obtain ⟨w, ew, hs⟩ := I.sl j s es
    refine ⟨w, ew, ?_⟩
    cases s with
    | own b d =>
      obtain ⟨x, q, f, g, k1, k2, r⟩ := hs
      subst q
      exact ⟨x, rfl, f, GT.many_of (ap j _ x es rfl ew) g, k1, k2, r⟩
    | ex z0 => exact hs
    | gh _ => exact hs
    | un => trivial
    | fz d => exact hs
theorem BI.unmany (I : BI K mg (G.many P) F io β σ H) (of : Off G F io P) : BI K mg G F io β σ H := by
  refine ⟨⟨fun b u h => I.sg.g b u ?_, I.sg.t, fun b u h => I.sg.dj b u ?_⟩, I.sf, I.ioF, I.ioH, I.len, fun j s es => ?_, I.apart⟩
  · show orH P G.g b = some u
    cases e : P b with
    | some q =>
      have := GT.gn (of b q e).2.1
      rw [this] at h
      cases h
    | none => rw [orH_none e]; exact h
  · show orH P G.g b = some u
    cases e : P b with
    | some q =>
      have := GT.gn (of b q e).2.1
      rw [this] at h
      cases h
    | none => rw [orH_none e]; exact h
  · obtain ⟨w, ew, hs⟩ := I.sl j s es
    refine ⟨w, ew, ?_⟩
    cases s with
    | own b d =>
      obtain ⟨x, q, f, g, k1, k2, r⟩ := hs
      exact ⟨x, q, f, (GT.many_none g).2, k1, k2, r⟩
    | ex z0 => exact hs
    | gh _ => exact hs
    | un => trivial
    | fz d => exact hs
/-- a slot let go, whatever the state has there -/
theorem BI.setUn (I : BI K mg G F io β σ H) (i : Nat) (o : Option V) : BI K mg G F io (β.set i .un) (σ.set i o) H := by
  have J := I.unset i
  have nh : ∀ {l : Nat} {u : Sl}, (β.set i .un)[l]? = some u → isOwn u = true → i ≠ l := fun {l u} e h hl => by
    subst hl
    by_cases hi : i < β.length
    · rw [List.getElem?_set_self hi] at e
      cases e
      cases h
    · rw [List.getElem?_eq_none (by rw [List.length_set]; omega)] at e
      cases e
  refine ⟨J.sg, J.sf, J.ioF, J.ioH, by rw [List.length_set, List.length_set]; exact I.len, fun j s ej => ?_, fun j k s t b ej ek hj hk zj zk => ?_⟩
  · by_cases hj : i = j
    · subst hj
      obtain ⟨w, eo, _⟩ := J.sl i s ej
      have hi : i < β.length := by
        have := (List.getElem?_eq_some_iff.mp ej).1
        rwa [List.length_set] at this
      rw [List.getElem?_set_self hi] at ej
      cases ej
      exact ⟨o, List.getElem?_set_self (by rw [← I.len]; exact hi), trivial⟩
    · rw [List.getElem?_set_ne hj]
      exact J.sl j s ej
  · rw [List.getElem?_set_ne (nh ej hj)] at zj
    rw [List.getElem?_set_ne (nh ek hk)] at zk
    exact J.apart j k s t b ej ek hj hk zj zk
end
/-! ## the dict's entries -/
abbrev KL := List (List Int × List D)
def KAt (K : PySem.W.Frag) (mg : Str → Option Value) (F P : Hp) (x : Ent) (p : List Int × List D) : Prop := x.1 = p.1 ∧ F x.2.1 = some (.tup (x.1.map V.int)) ∧ ∃ c vs, x.2.2 = .ref c ∧ P c = some (.lst vs) ∧ DRs K mg F vs p.2
structure KEnt (K : PySem.W.Frag) (mg : Str → Option Value) (F P : Hp) (xs : List Ent) (l : KL) : Prop where
  len : xs.length = l.length
  at_ : ∀ (i : Nat) (x : Ent) (p : List Int × List D), xs[i]? = some x → l[i]? = some p → KAt K mg F P x p
  keys : ∀ (i j : Nat) (x y : Ent), xs[i]? = some x → xs[j]? = some y → x.1 = y.1 → i = j
  refs : ∀ (i j : Nat) (x y : Ent), xs[i]? = some x → xs[j]? = some y → x.2.2 = y.2.2 → i = j
def KDp (K : PySem.W.Frag) (mg : Str → Option Value) (F P : Hp) (a : Addr) (l : KL) : Prop := ∃ xs ep, P a = some (DicG a xs ep) ∧ KEnt K mg F P xs l
section
variable {K : PySem.W.Frag} {mg : Str → Option Value} {G : GT} {F F' H P P' : Hp} {io : List Addr} {β : B.Env} {σ : L2.St} {a Da : Addr} {o : HO} {xs : List Ent} {l : KL}
theorem KAt.mono {x : Ent} {p : List Int × List D} (h : KAt K mg F P x p) (e : Same F F') : KAt K mg F' P x p := by
  obtain ⟨h1, h2, c, vs, h3, h4, h5⟩ := h
  exact ⟨h1, e _ _ h2, c, vs, h3, h4, h5.mono e⟩
theorem KEnt.mono (h : KEnt K mg F P xs l) (e : Same F F') : KEnt K mg F' P xs l := ⟨h.len, fun i x p h1 h2 => (h.at_ i x p h1 h2).mono e, h.keys, h.refs⟩
theorem KDp.mono (h : KDp K mg F P a l) (e : Same F F') : KDp K mg F' P a l := by
  obtain ⟨xs, ep, h1, h2⟩ := h
  exact ⟨xs, ep, h1, h2.mono e⟩
theorem KEnt.key (h : KEnt K mg F P xs l) : ∀ x ∈ xs, F x.2.1 = some (.tup (x.1.map V.int)) := fun x hx => by
  obtain ⟨i, hi⟩ := List.mem_iff_getElem?.mp hx
  have il : i < l.length := by rw [← h.len]; exact (List.getElem?_eq_some_iff.mp hi).1
  exact (h.at_ i x _ hi (List.getElem?_eq_getElem il)).2.1
/-- one more in the list at a key -/
def appL (l : KL) (k : List Int) (d : D) : KL := l.map fun p => if p.1 = k then (p.1, p.2 ++ [d]) else p
/-- a key more -/
theorem KEnt.snoc (h : KEnt K mg F P xs l) {k : List Int} {T c : Addr} (hT : F T = some (.tup (k.map V.int))) (nk : k ∉ l.map (·.1)) (hc : P c = none) : KEnt K mg F (L2.upd P c (.lst [])) (xs ++ [(k, T, .ref c)]) (l ++ [(k, [])]) := by
  have old : ∀ (i : Nat) (x : Ent), (xs ++ [(k, T, V.ref c)])[i]? = some x → (i < xs.length ∧ xs[i]? = some x) ∨ (i = xs.length ∧ x = (k, T, .ref c)) := fun i x e => by
    by_cases hi : i < xs.length
    · rw [List.getElem?_append_left hi] at e
      exact .inl ⟨hi, e⟩
    · rw [List.getElem?_append_right (by omega)] at e
      have : i - xs.length = 0 := by
        have := (List.getElem?_eq_some_iff.mp e).1
        simp only [List.length_singleton] at this
        omega
      rw [this] at e
      cases e
      exact .inr ⟨by omega, rfl⟩
  have part : ∀ (i : Nat) (x : Ent), xs[i]? = some x → ∃ p, l[i]? = some p ∧ KAt K mg F P x p := fun i x e => by
    have il : i < l.length := by rw [← h.len]; exact (List.getElem?_eq_some_iff.mp e).1
    exact ⟨_, List.getElem?_eq_getElem il, h.at_ i x _ e (List.getElem?_eq_getElem il)⟩
  have nkx : ∀ (i : Nat) (x : Ent), xs[i]? = some x → x.1 ≠ k := fun i x e z => by
    obtain ⟨p, hp, h1, _⟩ := part i x e
    exact nk (List.mem_map.mpr ⟨p, List.mem_iff_getElem?.mpr ⟨i, hp⟩, by rw [← h1, z]⟩)
  have nrx : ∀ (i : Nat) (x : Ent), xs[i]? = some x → x.2.2 ≠ .ref c := fun i x e z => by
    obtain ⟨p, hp, h1, h2, c', vs, h3, h4, _⟩ := part i x e
    rw [h3] at z
    cases z
    rw [hc] at h4
    cases h4
  refine ⟨by simp [h.len], fun i x p hx hp => ?_, fun i j x y hx hy e => ?_, fun i j x y hx hy e => ?_⟩
  · rcases old i x hx with ⟨hi, hx'⟩ | ⟨hi, ex⟩
    · rw [List.getElem?_append_left (by rw [← h.len]; exact hi)] at hp
      obtain ⟨h1, h2, c', vs, h3, h4, h5⟩ := h.at_ i x p hx' hp
      refine ⟨h1, h2, c', vs, h3, ?_, h5⟩
      rw [upd_ne (ne_of_none h4 hc)]
      exact h4
    · subst ex
      rw [hi, List.getElem?_append_right (by rw [h.len]; exact Nat.le_refl _), h.len, Nat.sub_self] at hp
      cases hp
      exact ⟨rfl, hT, c, [], rfl, upd_same, .nil⟩
  · rcases old i x hx with ⟨hi, hx'⟩ | ⟨hi, ex⟩ <;> rcases old j y hy with ⟨hj, hy'⟩ | ⟨hj, ey⟩
    · exact h.keys i j x y hx' hy' e
    · subst ey; exact absurd e (nkx i x hx')
    · subst ex; exact absurd e.symm (nkx j y hy')
    · omega
  · rcases old i x hx with ⟨hi, hx'⟩ | ⟨hi, ex⟩ <;> rcases old j y hy with ⟨hj, hy'⟩ | ⟨hj, ey⟩
    · exact h.refs i j x y hx' hy' e
    · subst ey; exact absurd e (nrx i x hx')
    · subst ex; exact absurd e.symm (nrx j y hy')
    · omega
/-- the end: all of it as data -/
def kData (l : KL) : Dct := l.map fun p => (p.1, .nd .lst p.2)
theorem paired_of {α β : Type} {R : α → β → Prop} : ∀ {xs : List α} {l : List β}, xs.length = l.length → (∀ (i : Nat) x p, xs[i]? = some x → l[i]? = some p → R x p) → Paired R xs l
  | [], [], _, _ => .nil
  | [], _ :: _, e, _ => by cases e
  | _ :: _, [], e, _ => by cases e
  | x :: xs, p :: l, e, h => .cons (h 0 x p rfl rfl) (paired_of (Nat.succ.inj e) fun i y q h1 h2 => h (i + 1) y q h1 h2)
theorem KDp.data (h : KDp K mg F P a l) (of : ∀ b o, P b = some o → F b = none) : DR K mg (orH P F) (.ref a) (dcgD (kData l)) := by
  obtain ⟨xs, ep, h1, h2⟩ := h
  have sm : Same F (orH P F) := fun b u h => by
    cases e : P b with
    | some q => rw [of b q e] at h; cases h
    | none => rw [orH_none e]; exact h
  have ed : EntD K mg (orH P F) xs (kData l) := by
    refine paired_of (by unfold kData; rw [List.length_map]; exact h2.len) fun i x p hx hp => ?_
    unfold kData at hp
    rw [List.getElem?_map] at hp
    obtain ⟨q, hq, e⟩ := Option.map_eq_some_iff.mp hp
    subst e
    obtain ⟨e1, e2, c, vs, e3, e4, e5⟩ := h2.at_ i x q hx hq
    refine ⟨e1, sm _ _ e2, ?_⟩
    rw [e3]
    exact .lst (orH_some e4) (e5.mono sm)
  obtain ⟨p1, p2, p3⟩ := ed.parts
  exact .dg (orH_some h1) p1 p2 (by rw [p3]; exact gds_map _)
end
end B


set_option Elab.async false
set_option linter.all false
set_option maxRecDepth 100000
set_option maxHeartbeats 4000000
namespace B
open PySem PySem.Spec L2 PyProof.Rows
/-! # {k: [] for target in iter}, its lists one's own -/
def stK (mk : M Rs) : KL → M KL := fun l => bnd mk fun rk => match tupI? rk.d with
  | some k => if l.length < sizeLine ∧ k ∉ l.map (·.1) then ret (l ++ [(k, [])]) else stk
  | none => stk
section
variable {K : PySem.W.Frag} {mg : Str → Option Value} {G : GT} {F F' H P P' : Hp} {io : List Addr} {β : B.Env} {σ : L2.St} {a Da : Addr} {o : HO} {xs : List Ent} {l : KL}
theorem Off.upd (h : Off G F io P) (h1 : F Da = none) (h2 : G Da = none) (h3 : Da ∉ io) : Off G F io (L2.upd P Da o) := fun b u e => by
  by_cases hb : b = Da
  · subst hb
    exact ⟨h1, h2, h3⟩
  · rw [L2.upd_ne hb] at e
    exact h b u e
theorem BI.nio (I : BI K mg G F io β σ H) (h : H a = none) : a ∉ io := fun z => by
  obtain ⟨u, hu⟩ := I.ioH a z
  rw [hu] at h
  cases h
end
section
variable {X : Cx}
def mKd (vs : List Nat) (mi : M (List D)) (g : D → M Unit) (mt : M Bool) (mk : M Rs) : M KL := mCompG vs mi g mt (stK mk) []
end
end B


set_option Elab.async false
set_option linter.all false
set_option maxRecDepth 100000
set_option maxHeartbeats 4000000
namespace B
open PySem PySem.Spec L2 PyProof.Rows
/-! # statements that change the lists of such a dict -/
def KPost (K : PySem.W.Frag) (mg : Str → Option Value) (W : WX) (G : GT) (F : Hp) (io : List Addr) (i : Nat) (a : Addr) (r : B.R KL) (D : Ends) : Prop := match r with
  | .stuck => False
  | .ok l β => ∀ σ H' F' P', FE G io F F' → Off G F' io P' → KDp K mg F' P' a l → BI K mg (G.many P') F' io β σ H' → σ[i]? = some (some (V.ref a)) → D.nx σ H'
  | .exc x β => ∀ σ cls d H' F', FE G io F F' → BI K mg G F' io β σ H' → XR K mg F' cls d x → W cls d σ H'
section
variable {K : PySem.W.Frag} {mg : Str → Option Value} {W : WX} {G : GT} {F F1 P : Hp} {io : List Addr} {σ : L2.St} {D : Ends} {i : Nat} {a : Addr}
theorem KPost.mono {r : B.R KL} (h : KPost K mg W G F io i a r D) (fe : FE G io F F1) : KPost K mg W G F1 io i a r D := by
  cases r with
  | stuck => exact h
  | ok l β => exact fun σ H' F' P' fe' => h σ H' F' P' (fe.trans fe')
  | exc x β => exact fun σ c d H' F' fe' => h σ c d H' F' (fe.trans fe')
theorem KPost.of {α γ : Type} {Rel : GT → Hp → List Addr → Hp → B.Env → L2.St → γ → α → Prop} {r : B.R α} {f : α → B.Env → B.R KL} {Q : γ → Hp → Prop} (of : Off G F io P) (h : KPost K mg W G F io i a (r.bnd f) D)
    (k : ∀ x β v H' F', FE (G.many P) io F F' → Off G F' io P → BI K mg (G.many P) F' io β σ H' → Rel (G.many P) F' io H' β σ v x → KPost K mg W G F' io i a (f x β) D → Q v H') : Post K mg W Rel (G.many P) F io σ r Q := by
  cases r with
  | stuck => exact h
  | ok x β => exact fun v H' F' fe I r => k x β v H' F' fe (of.fe fe) I r (KPost.mono h fe.one)
  | exc x β => exact fun cls d H' F' fe I xr => h σ cls d H' F' fe.one (I.unmany (of.fe fe)) xr
end
section
variable {X : Cx} {i : Nat} {st : Stmt} {rest : List Stmt} {m n : KL → M KL} {pos : Pos}
def seqK (m n : KL → M KL) : KL → M KL := fun l => bnd (m l) n
/-- x[k].append(v) -/
def finApp (l : KL) (k : List Int) (rv : Rs) : M KL := if (l.all fun p => decide (p.1 ≠ k) || decide (p.2.length < sizeLine)) = true then ret (appL l k rv.d) else stk
def midApp (l : KL) (mv : M Rs) (rk : Rs) : M KL := match tupI? rk.d with
  | some k => if k ∈ l.map (·.1) then bnd mv fun rv => finApp l k rv else stk
  | none => stk
def mApp (mk mv : M Rs) : KL → M KL := fun l => bnd mk fun rk => midApp l mv rk
end
end B


set_option Elab.async false
set_option linter.all false
set_option maxRecDepth 100000
set_option maxHeartbeats 4000000
namespace B
open PySem PySem.Spec L2 PyProof.Rows
/-! # loops over such statements; the block -/
def forK (g : D → M Unit) (b : KL → M KL) : List D → KL → M KL
  | [], l => ret l
  | d :: ds, l => fun β => match g d β with
    | .ok _ β' => (match b l β' with
      | .ok l' β'' => forK g b ds l' β''
      | .exc x β'' => .exc x β''
      | .stuck => .stuck)
    | _ => .stuck
def mForK (mi : M (List D)) (g : D → M Unit) (b : KL → M KL) : KL → M KL := fun l => bnd mi fun ds => forK g b ds l
section
variable {X : Cx} {i : Nat} {st : Stmt} {rest : List Stmt} {m n : KL → M KL} {pos : Pos}
/-- x = {..}; st; rest -/
def inK (i : Nat) (ms : KL → M KL) (l : KL) : M KL := fun β => if i < β.length then ms l (β.set i .un) else .stuck
def outK (i : Nat) (n : M Fl) (l : KL) : M Fl := fun β => n (β.set i (.fz (dcgD (kData l))))
def mBlkK (i : Nat) (me : M KL) (ms : KL → M KL) (n : M Fl) : M Fl := bnd me fun l => bnd (inK i ms l) (outK i n)
end
end B


set_option Elab.async false
set_option linter.all false
set_option maxRecDepth 100000
set_option maxHeartbeats 4000000
namespace B
open PySem PySem.Spec L2 PyProof.Rows
/-! # list comprehensions of two clauses -/
def comp2L (g : D → M Unit) (mt : M Bool) (mi1 : M (List D)) (g1 : D → M Unit) (mt1 : M Bool) (me : M Rs) (vs vs1 : List Nat) : List D → List D → M (List D)
  | [], acc => ret acc
  | d :: ds, acc => fun β => match g d β with
    | .ok _ β1 => (match mt β1 with
      | .ok true β2 => (match mi1 β2 with
        | .ok ds1 β3 => (match compL g1 mt1 me vs1 ds1 acc (wipeB β3 vs1) with
          | .ok acc' β4 => comp2L g mt mi1 g1 mt1 me vs vs1 ds acc' (wipeB β4 vs)
          | _ => .stuck)
        | _ => .stuck)
      | .ok false β2 => comp2L g mt mi1 g1 mt1 me vs vs1 ds acc (wipeB β2 vs)
      | _ => .stuck)
    | _ => .stuck
def comp2V (g : D → M Unit) (mt : M Bool) (mi1 : M (List D)) (g1 : D → M Unit) (mt1 : M Bool) (me : M Rs) (vs vs1 : List Nat) (ds : List D) : M Rs := fun β1 => if noOwn β1 vs = true then (match comp2L g mt mi1 g1 mt1 me vs vs1 ds [] (wipeB β1 vs) with
  | .ok acc β => .ok (.own (.nd .lst acc)) (backB β1 β vs)
  | _ => .stuck) else .stuck
def mComp2 (vs vs1 : List Nat) (mi : M (List D)) (g : D → M Unit) (mt : M Bool) (mi1 : M (List D)) (g1 : D → M Unit) (mt1 : M Bool) (me : M Rs) : M Rs := bnd mi (comp2V g mt mi1 g1 mt1 me vs vs1)
section
variable {X : Cx}
end
end B


set_option Elab.async false
set_option linter.all false
set_option maxRecDepth 100000
set_option maxHeartbeats 4000000
namespace B
open PySem PySem.Spec L2 PyProof.Rows
/-! # more of targets, enumerate, x[k] op= e -/
theorem But.sub {vs ws : List Nat} {σ σ' : L2.St} (b : But vs σ σ') (h : ∀ i ∈ vs, i ∈ ws) : But ws σ σ' := ⟨b.1, fun j hj => b.2 j fun z => hj (h j z)⟩
section
variable {X : Cx}
def enumD (ds : List D) : List D := zipD ((List.range ds.length).map fun i => .int (i : Nat)) ds
def enumA (ps : List Pl) : M (List D) := fun β => match allD ps with
  | some [.nd .lst ds] => .ok (enumD ds) β
  | _ => .stuck
/-! ## x[k] op= e -/
def augFin (i : Nat) (f : Int → Int → Int) (k a : Int) (r : Rs) : M Fl := fun β => match r.d, β[i]? with
  | .int c, some (.own b (.nd .lst ds)) => (match ixN ds.length k with
    | some j => .ok .nx (β.set i (.own b (.nd .lst (ds.set j (.int (f a c))))))
    | none => .stuck)
  | _, _ => .stuck
def augMid (i : Nat) (f : Int → Int → Int) (me : M Rs) (kr : Rs) : M Fl := fun β => match β[i]?, kr.d with
  | some (.own b (.nd .lst ds)), .int k => (match L2.atI ds k with
    | some (.int a) => (bnd me (augFin i f k a)) β
    | _ => .stuck)
  | _, _ => .stuck
def mAugIx (i : Nat) (f : Int → Int → Int) (mk me : M Rs) : M Fl := bnd (mPl i) fun _ => bnd mk (augMid i f me)
end
end B


set_option Elab.async false
set_option linter.all false
set_option maxRecDepth 100000
set_option maxHeartbeats 4000000
namespace B
open PySem PySem.Spec L2 PyProof.Rows
/-! # y = {k: v for ..}, y a plain local name that the comprehension does not read -/
section
variable {X : Cx}
end
end B


set_option Elab.async false
set_option linter.all false
set_option maxRecDepth 100000
set_option maxHeartbeats 4000000
namespace B
open PySem PySem.Spec L2 PyProof.Rows
/-! # f(e), e a new object that the call changes and that is forgotten then -/
def callT (f : List D → FR) (r : Rs) : M Rs := fun β => match r with
  | .own d => (match f [d] with
    | .ok r [_] => .ok r β
    | .exc x [_] => .exc x β
    | _ => .stuck)
  | .fz _ => .stuck
def mCallT (f : List D → FR) (me : M Rs) : M Rs := bnd me (callT f)
section
variable {K : PySem.W.Frag} {mg : Str → Option Value} {G : GT} {F H : Hp} {io : List Addr} {β : B.Env} {σ : L2.St} {v : V} {d : D}
theorem BI.snoc (I : BI K mg G F io β σ H) (rr : RR K mg G F io H β σ v (.own d)) : BI K mg G F io (β ++ [.own none d]) (σ ++ [some v]) H := by
  obtain ⟨a, rfl, fa, ga, nia, o, ap⟩ := rr
  have old : ∀ (i : Nat) (s : Sl), (β ++ [.own none d])[i]? = some s → (i < β.length ∧ β[i]? = some s) ∨ (i = β.length ∧ s = .own none d) := fun i s e => by
    by_cases hi : i < β.length
    · rw [List.getElem?_append_left hi] at e
      exact .inl ⟨hi, e⟩
    · rw [List.getElem?_append_right (by omega)] at e
      have : i - β.length = 0 := by
        have := (List.getElem?_eq_some_iff.mp e).1
        simp only [List.length_singleton] at this
        omega
      rw [this] at e
      cases e
      exact .inr ⟨by omega, rfl⟩
  have os : ∀ (i : Nat), i < β.length → (σ ++ [some (V.ref a)])[i]? = σ[i]? := fun i hi => List.getElem?_append_left (by rw [← I.len]; exact hi)
  have on : (σ ++ [some (V.ref a)])[β.length]? = some (some (V.ref a)) := by
    rw [I.len, List.getElem?_append_right (Nat.le_refl _), Nat.sub_self]
    rfl
  refine ⟨I.sg, I.sf, I.ioF, I.ioH, by simp [I.len], fun i s e => ?_, fun i j s t b e1 e2 h1 h2 z1 z2 => ?_⟩
  · rcases old i s e with ⟨hi, e'⟩ | ⟨hi, es⟩
    · rw [os i hi]
      exact I.sl i s e'
    · subst hi
      subst es
      exact ⟨_, on, a, rfl, fa, ga, fun _ => nia, (fun k hk => by cases hk), o⟩
  · rcases old i s e1 with ⟨hi, e1'⟩ | ⟨hi, es⟩ <;> rcases old j t e2 with ⟨hj, e2'⟩ | ⟨hj, et⟩
    · rw [os i hi] at z1
      rw [os j hj] at z2
      exact I.apart i j s t b e1' e2' h1 h2 z1 z2
    · subst hj
      rw [on] at z2
      cases z2
      rw [os i hi] at z1
      exact absurd z1 (ap i s e1' h1)
    · subst hi
      rw [on] at z1
      cases z1
      rw [os j hj] at z2
      exact absurd z2 (ap j t e2' h2)
    · omega
end
section
variable {X : Cx} {f : List D → FR}
end
end B


set_option Elab.async false
set_option linter.all false
set_option maxRecDepth 100000
set_option maxHeartbeats 4000000
namespace B
open PySem PySem.Spec L2 PyProof.Rows
/-! # what is wished for behind the new things -/
section
variable {α : Type} {β : B.Env} {E : Exn → B.Env → Prop}
def dicW (d : D) (P : Dct → Prop) : Prop := match d with
  | .nd .dcg es => optW (entsOf es) P
  | _ => False
@[simp ↓] theorem dicW_dcg {l : Dct} {P : Dct → Prop} : dicW (dcgD l) P ↔ P l := by
  unfold dicW dcgD
  simp only [entsOf_map]
  exact Iff.rfl
@[simp ↓] theorem W_mIterK {me : M Rs} {Q : List D → B.Env → Prop} : W (mIterK me) β Q E ↔ W me β (fun r β1 => dicW r.d fun l => Q (keysOf l) β1) E := by
  unfold mIterK
  refine W_bnd.trans (W_congr fun r β1 => ?_)
  unfold dicW
  cases r.d with
  | nd t es =>
    cases t with
    | dcg =>
      simp only
      cases entsOf es with
      | none => exact W_stk
      | some l => exact W_ret
    | _ => exact W_stk
  | _ => exact W_stk
@[simp] theorem gIxA_dic {l : Dct} {k : List Int} : gIxA (dcgD l) (tupD k) = (getL l k).map .fz := by
  unfold gIxA
  have e : gIx (dcgD l) (tupD k) = none := rfl
  rw [e]
  show gIxG (dcgD l) (tupD k) = _
  unfold gIxG dcgD
  simp only [entsOf_map, tupI_tupD, Option.bind_some]
@[simp] theorem gIxA_lst {ds : List D} {i : Int} : gIxA (.nd .lst ds) (.int i) = (L2.atI ds i).map .fz := by
  unfold gIxA
  have e : gIx (.nd .lst ds) (.int i) = (L2.atI ds i).map .fz := rfl
  rw [e]
  cases L2.atI ds i with
  | some d => rfl
  | none => rfl
theorem inDG_dic {l : Dct} {k : List Int} : inDG (tupD k) (dcgD l) = some (decide (k ∈ l.map (·.1))) := by
  unfold inDG dcgD
  simp only [entsOf_map, tupI_tupD, Option.bind_some, Option.map_some]
@[simp] theorem gInA_dic {l : Dct} {k : List Int} : gInA (tupD k) (dcgD l) = some (.fz (.bl (decide (k ∈ l.map (·.1))))) := by
  unfold gInA
  have e : gIn (tupD k) (dcgD l) = none := rfl
  rw [e]
  show gInG (tupD k) (dcgD l) = _
  unfold gInG
  rw [inDG_dic]
  rfl
@[simp] theorem gNotInA_dic {l : Dct} {k : List Int} : gNotInA (tupD k) (dcgD l) = some (.fz (.bl (!decide (k ∈ l.map (·.1))))) := by
  unfold gNotInA
  have e : gNotIn (tupD k) (dcgD l) = none := rfl
  rw [e]
  show gNotInG (tupD k) (dcgD l) = _
  unfold gNotInG
  rw [inDG_dic]
  rfl
/-! comprehensions of any kind -/
@[simp ↓] theorem W_mCompG {γ : Type} {vs : List Nat} {mi : M (List D)} {g : D → M Unit} {mt : M Bool} {st : γ → M γ} {a0 : γ} {Q : γ → B.Env → Prop} : W (mCompG vs mi g mt st a0) β Q E ↔ W mi β (fun ds β1 => W (compGV g mt st vs a0 ds) β1 Q E) E := by
  unfold mCompG
  exact W_bnd
theorem compG_cons {γ : Type} {g : D → M Unit} {mt : M Bool} {st : γ → M γ} {vs : List Nat} {d : D} {ds : List D} {acc : γ} {Q : γ → B.Env → Prop}
    (h : W (g d) β (fun _ β1 => W mt β1 (fun k β2 => if k = true then W (st acc) β2 (fun acc' β3 => W (compG g mt st vs ds acc') (wipeB β3 vs) Q noE) noE else W (compG g mt st vs ds acc) (wipeB β2 vs) Q noE) noE) noE) : W (compG g mt st vs (d :: ds) acc) β Q noE := by
  unfold W at h ⊢
  simp only [compG]
  cases e : g d β with
  | stuck => rw [e] at h; exact h.elim
  | exc x β1 => rw [e] at h; exact h.elim
  | ok u β1 =>
    rw [e] at h
    simp only at h ⊢
    cases e2 : mt β1 with
    | stuck => rw [e2] at h; exact h.elim
    | exc x β2 => rw [e2] at h; exact h.elim
    | ok k β2 =>
      rw [e2] at h
      cases k with
      | false => simpa using h
      | true =>
        simp only [if_true] at h ⊢
        cases e3 : st acc β2 with
        | stuck => rw [e3] at h; exact h.elim
        | exc x β3 => rw [e3] at h; exact h.elim
        | ok r β3 =>
          rw [e3] at h
          exact h
theorem W_compGV {γ : Type} {g : D → M Unit} {mt : M Bool} {st : γ → M γ} {vs : List Nat} {ds : List D} {a0 : γ} {Q : γ → B.Env → Prop} (I : Nat → γ → B.Env → Prop) (hno : noOwn β vs = true) (h0 : I 0 a0 (wipeB β vs))
    (step : ∀ i d acc β1, ds[i]? = some d → I i acc β1 → W (g d) β1 (fun _ β2 => W mt β2 (fun k β3 => if k = true then W (st acc) β3 (fun acc' β4 => I (i + 1) acc' (wipeB β4 vs)) noE else I (i + 1) acc (wipeB β3 vs)) noE) noE)
    (fin : ∀ acc β1, I ds.length acc β1 → Q acc (backB β β1 vs)) : W (compGV g mt st vs a0 ds) β Q E := by
  have key : ∀ (n i : Nat) (acc : γ) (β1 : B.Env), i + n = ds.length → I i acc β1 → W (compG g mt st vs (ds.drop i) acc) β1 (fun acc β2 => I ds.length acc β2) noE := by
    intro n
    induction n with
    | zero =>
      intro i acc β1 hi h
      rw [List.drop_of_length_le (by omega)]
      have : i = ds.length := by omega
      subst this
      with_unfolding_all exact h
    | succ n ih =>
      intro i acc β1 hi h
      have hlt : i < ds.length := by omega
      rw [List.drop_eq_getElem_cons hlt]
      refine compG_cons ((step i _ acc β1 (List.getElem?_eq_getElem hlt) h).mono (fun _ β2 h2 => h2.mono (fun k β3 h3 => ?_) fun _ _ h => h) fun _ _ h => h)
      cases k with
      | false =>
        simp only [Bool.false_eq_true, if_false] at h3 ⊢
        exact ih (i + 1) acc _ (by omega) h3
      | true =>
        simp only [if_true] at h3 ⊢
        exact h3.mono (fun r β4 h4 => ih (i + 1) _ _ (by omega) h4) fun _ _ h => h
  have h := key ds.length 0 a0 _ (by omega) h0
  rw [List.drop_zero] at h
  obtain ⟨acc, β1, e, hI⟩ := h.eq fun _ _ h => h
  unfold W compGV
  rw [if_pos hno, e]
  exact fin acc β1 hI
/-- where the slots stay and what is gathered is told by a function -/
theorem W_compGF {γ : Type} {g : D → M Unit} {mt : M Bool} {st : γ → M γ} {vs : List Nat} {ds : List D} {a0 : γ} {Q : γ → B.Env → Prop} (p : D → Bool) (f : List D → γ) (hno : noOwn β vs = true) (h0 : f [] = a0)
    (step : ∀ (i : Nat) d, ds[i]? = some d → W (g d) (wipeB β vs) (fun _ β2 => W mt β2 (fun k β3 => k = p d ∧ if p d = true then W (st (f ((ds.take i).filter p))) β3 (fun acc' β4 => acc' = f ((ds.take i).filter p ++ [d]) ∧ wipeB β4 vs = wipeB β vs) noE else wipeB β3 vs = wipeB β vs) noE) noE)
    (fin : Q (f (ds.filter p)) (backB β (wipeB β vs) vs)) : W (compGV g mt st vs a0 ds) β Q E := by
  refine W_compGV (fun i acc β1 => acc = f ((ds.take i).filter p) ∧ β1 = wipeB β vs) hno ⟨by simp [h0], rfl⟩ (fun i d acc β1 hd ⟨ea, eb⟩ => ?_) fun acc β1 ⟨ea, eb⟩ => ?_
  · subst eb
    have et : ds.take (i + 1) = ds.take i ++ [d] := by rw [List.take_add_one, hd]; rfl
    refine (step i d hd).mono (fun _ β2 h2 => h2.mono (fun k β3 h3 => ?_) fun _ _ h => h) fun _ _ h => h
    obtain ⟨rfl, h3⟩ := h3
    by_cases hp : p d = true
    · rw [if_pos hp] at h3 ⊢
      subst ea
      refine h3.mono (fun r β4 h4 => ⟨?_, h4.2⟩) fun _ _ h => h
      rw [et, List.filter_append, h4.1]
      simp [hp]
    · rw [if_neg hp] at h3 ⊢
      refine ⟨?_, h3⟩
      rw [et, List.filter_append, ea]
      simp [hp]
  · rw [List.take_length] at ea
    rw [ea, eb]
    exact fin
@[simp ↓] theorem W_mDictC {vs : List Nat} {mi : M (List D)} {g : D → M Unit} {mt : M Bool} {mk mv : M Rs} {Q : Rs → B.Env → Prop} : W (mDictC vs mi g mt mk mv) β Q E ↔ W (mCompG vs mi g mt (stD mk mv) []) β (fun l β1 => Q (.own (dcgD l)) β1) E := by
  unfold mDictC
  refine W_bnd.trans (W_congr fun l β1 => ?_)
  exact W_ret
@[simp ↓] theorem W_mDictG0 {Q : Rs → B.Env → Prop} : W mDictG0 β Q E ↔ Q (.own (dcgD [])) β := by with_unfolding_all exact Iff.rfl
@[simp ↓] theorem W_stD {mk mv : M Rs} {l : Dct} {Q : Dct → B.Env → Prop} : W (stD mk mv l) β Q E ↔ W mk β (fun rk β1 => W mv β1 (fun rv β2 => optW (tupI? rk.d) fun k => l.length < sizeLine ∧ Q (putL l k rv.d) β2) E) E := by
  unfold stD
  refine W_bnd.trans (W_congr fun rk β1 => W_bnd.trans (W_congr fun rv β2 => ?_))
  cases tupI? rk.d with
  | none => exact W_stk
  | some k =>
    simp only [optW]
    by_cases h : l.length < sizeLine
    · rw [if_pos h]
      exact W_ret.trans ⟨fun q => ⟨h, q⟩, fun q => q.2⟩
    · rw [if_neg h]
      exact W_stk.trans ⟨fun q => q.elim, fun q => h q.1⟩
@[simp ↓] theorem W_stK {mk : M Rs} {l : KL} {Q : KL → B.Env → Prop} : W (stK mk l) β Q E ↔ W mk β (fun rk β1 => optW (tupI? rk.d) fun k => (l.length < sizeLine ∧ k ∉ l.map (·.1)) ∧ Q (l ++ [(k, [])]) β1) E := by
  unfold stK
  refine W_bnd.trans (W_congr fun rk β1 => ?_)
  cases tupI? rk.d with
  | none => exact W_stk
  | some k =>
    simp only [optW]
    by_cases h : l.length < sizeLine ∧ k ∉ l.map (·.1)
    · rw [if_pos h]
      exact W_ret.trans ⟨fun q => ⟨h, q⟩, fun q => q.2⟩
    · rw [if_neg h]
      exact W_stk.trans ⟨fun q => q.elim, fun q => h q.1⟩
@[simp ↓] theorem W_mKd {vs : List Nat} {mi : M (List D)} {g : D → M Unit} {mt : M Bool} {mk : M Rs} {Q : KL → B.Env → Prop} : W (mKd vs mi g mt mk) β Q E ↔ W mi β (fun ds β1 => W (compGV g mt (stK mk) vs [] ds) β1 Q E) E := by
  unfold mKd
  exact W_mCompG
@[simp ↓] theorem W_mSetC {vs : List Nat} {mi : M (List D)} {g : D → M Unit} {mt : M Bool} {me : M Rs} {Q : List (List Int) → B.Env → Prop} : W (mSetC vs mi g mt me) β Q E ↔ W mi β (fun ds β1 => W (compGV g mt (stS me) vs [] ds) β1 Q E) E := by
  unfold mSetC
  exact W_mCompG
@[simp ↓] theorem W_stS {me : M Rs} {ks : List (List Int)} {Q : List (List Int) → B.Env → Prop} : W (stS me ks) β Q E ↔ W me β (fun r β1 => optW (tupI? r.d) fun k => dcn ks < 249 ∧ Q (ks ++ [k]) β1) noE := by
  unfold W stS
  cases me β with
  | stuck => exact Iff.rfl
  | exc x β1 => exact Iff.rfl
  | ok r β1 =>
    simp only
    cases tupI? r.d with
    | none => exact Iff.rfl
    | some k =>
      simp only [optW]
      by_cases h : dcn ks < 249
      · rw [if_pos h]
        exact ⟨fun q => ⟨h, q⟩, fun q => q.2⟩
      · rw [if_neg h]
        exact ⟨fun q => q.elim, fun q => h q.1⟩
@[simp ↓] theorem W_mPts {c1 c2 : M (List (List Int))} {Q : Rs → B.Env → Prop} : W (mPts c1 c2) β Q E ↔ W c1 β (fun k1 β1 => W c2 β1 (fun k2 β2 => (∀ k ∈ k1 ++ k2, k ≠ []) ∧ Q (.own (.nd .lst ((tset (k1 ++ k2)).map tupD))) β2) E) E := by
  unfold mPts
  refine W_bnd.trans (W_congr fun k1 β1 => W_bnd.trans (W_congr fun k2 β2 => ?_))
  by_cases h : (k1 ++ k2).all (fun k => !k.isEmpty) = true
  · rw [if_pos h]
    refine W_ret.trans ⟨fun q => ⟨fun k hk e => ?_, q⟩, fun q => q.2⟩
    have := List.all_eq_true.mp h k hk
    rw [e] at this
    cases this
  · rw [if_neg h]
    refine W_stk.trans ⟨fun q => q.elim, fun q => h (List.all_eq_true.mpr fun k hk => ?_)⟩
    have := q.1 k hk
    cases k with
    | nil => exact absurd rfl this
    | cons _ _ => rfl
/-! the block -/
@[simp ↓] theorem W_mBlkK {i : Nat} {me : M KL} {ms : KL → M KL} {n : M Fl} {Q : Fl → B.Env → Prop} : W (mBlkK i me ms n) β Q E ↔ W me β (fun l β1 => i < β1.length ∧ W (ms l) (β1.set i .un) (fun l' β2 => W n (β2.set i (.fz (dcgD (kData l')))) Q E) E) E := by
  unfold mBlkK
  refine W_bnd.trans (W_congr fun l β1 => W_bnd.trans ?_)
  unfold W inK outK
  by_cases h : i < β1.length
  · rw [if_pos h]
    exact ⟨fun q => ⟨h, q⟩, fun q => q.2⟩
  · rw [if_neg h]
    exact ⟨fun q => q.elim, fun q => h q.1⟩
@[simp ↓] theorem W_mForK {mi : M (List D)} {g : D → M Unit} {b : KL → M KL} {l : KL} {Q : KL → B.Env → Prop} : W (mForK mi g b l) β Q E ↔ W mi β (fun ds β1 => W (forK g b ds l) β1 Q E) E := by
  unfold mForK
  exact W_bnd
@[simp ↓] theorem W_seqK {m n : KL → M KL} {l : KL} {Q : KL → B.Env → Prop} : W (seqK m n l) β Q E ↔ W (m l) β (fun l' β1 => W (n l') β1 Q E) E := by
  unfold seqK
  exact W_bnd
theorem forK_cons {g : D → M Unit} {b : KL → M KL} {d : D} {ds : List D} {l : KL} {Q : KL → B.Env → Prop} (h : W (g d) β (fun _ β1 => W (b l) β1 (fun l' β2 => W (forK g b ds l') β2 Q E) E) noE) : W (forK g b (d :: ds) l) β Q E := by
  unfold W at h ⊢
  simp only [forK]
  cases e : g d β with
  | stuck => rw [e] at h; exact h.elim
  | exc x β1 => rw [e] at h; exact h.elim
  | ok u β1 =>
    rw [e] at h
    simp only at h ⊢
    cases e2 : b l β1 with
    | stuck => rw [e2] at h; exact h.elim
    | exc x β2 => rw [e2] at h; exact h
    | ok l' β2 => rw [e2] at h; exact h
theorem W_forK {g : D → M Unit} {b : KL → M KL} {Q : KL → B.Env → Prop} {ds : List D} {l0 : KL} (I : Nat → KL → B.Env → Prop) (h0 : I 0 l0 β)
    (step : ∀ i d l β, ds[i]? = some d → I i l β → W (g d) β (fun _ β1 => W (b l) β1 (fun l' β2 => I (i + 1) l' β2) E) noE) (fin : ∀ l β, I ds.length l β → Q l β) : W (forK g b ds l0) β Q E := by
  have key : ∀ (n i : Nat) (l : KL) (β : B.Env), i + n = ds.length → I i l β → W (forK g b (ds.drop i) l) β Q E := by
    intro n
    induction n with
    | zero =>
      intro i l β hi h
      rw [List.drop_of_length_le (by omega)]
      have : i = ds.length := by omega
      subst this
      have := fin l β h
      with_unfolding_all exact this
    | succ n ih =>
      intro i l β hi h
      have hlt : i < ds.length := by omega
      rw [List.drop_eq_getElem_cons hlt]
      exact forK_cons ((step i _ l β (List.getElem?_eq_getElem hlt) h).mono (fun _ β1 h1 => h1.mono (fun l' β2 h2 => ih (i + 1) l' β2 (by omega) h2) fun _ _ h => h) fun _ _ h => h)
  have := key ds.length 0 l0 β (by omega) h0
  rwa [List.drop_zero] at this
@[simp ↓] theorem W_mApp {mk mv : M Rs} {l : KL} {Q : KL → B.Env → Prop} : W (mApp mk mv l) β Q E ↔ W mk β (fun rk β1 => optW (tupI? rk.d) fun k => k ∈ l.map (·.1) ∧ W mv β1 (fun rv β2 => (∀ p ∈ l, p.1 = k → p.2.length < sizeLine) ∧ Q (appL l k rv.d) β2) E) E := by
  unfold mApp
  refine W_bnd.trans (W_congr fun rk β1 => ?_)
  unfold midApp
  cases tupI? rk.d with
  | none => exact W_stk
  | some k =>
    simp only [optW]
    by_cases h : k ∈ l.map (·.1)
    · rw [if_pos h]
      refine (W_bnd.trans (W_congr fun rv β2 => ?_)).trans ⟨fun q => ⟨h, q⟩, fun q => q.2⟩
      unfold finApp
      by_cases h2 : (l.all fun p => decide (p.1 ≠ k) || decide (p.2.length < sizeLine)) = true
      · rw [if_pos h2]
        refine W_ret.trans ⟨fun q => ⟨fun p hp e => ?_, q⟩, fun q => q.2⟩
        have := List.all_eq_true.mp h2 p hp
        simpa [e] using this
      · rw [if_neg h2]
        refine W_stk.trans ⟨fun q => q.elim, fun q => h2 (List.all_eq_true.mpr fun p hp => ?_)⟩
        by_cases e : p.1 = k
        · simp [e, q.1 p hp e]
        · simp [e]
    · rw [if_neg h]
      exact W_stk.trans ⟨fun q => q.elim, fun q => h q.1⟩
/-! x[k] op= e, enumerate, calls with a new object -/
@[simp ↓] theorem W_enumA {ds : List D} {Q : List D → B.Env → Prop} : W (enumA [.d (.nd .lst ds)]) β Q E ↔ Q (enumD ds) β := by with_unfolding_all exact Iff.rfl
@[simp ↓] theorem W_augFin {i : Nat} {f : Int → Int → Int} {k a : Int} {r : Rs} {Q : Fl → B.Env → Prop} : W (augFin i f k a r) β Q E ↔ iW r.d fun c => ownW β[i]? fun b d => lstW d fun ds => optW (ixN ds.length k) fun j => Q .nx (β.set i (.own b (.nd .lst (ds.set j (.int (f a c)))))) := by
  unfold W augFin iW ownW
  cases r.d with
  | int c =>
    simp only
    rcases β[i]? with _ | _ | _ | _ | ⟨b, d⟩ | _ <;> try exact Iff.rfl
    unfold lstW
    rcases d with _ | _ | _ | _ | ⟨t, ds⟩ <;> try exact Iff.rfl
    cases t <;> try exact Iff.rfl
    simp only
    cases ixN ds.length k <;> exact Iff.rfl
  | _ => exact Iff.rfl
@[simp ↓] theorem W_augMid {i : Nat} {f : Int → Int → Int} {me : M Rs} {kr : Rs} {Q : Fl → B.Env → Prop} : W (augMid i f me kr) β Q E ↔ ownW β[i]? fun b d => lstW d fun ds => iW kr.d fun k => optW (L2.atI ds k) fun a => iW a fun a => W me β (fun r β1 => W (augFin i f k a r) β1 Q E) E := by
  have key : ∀ (b : Option Nat) (ds : List D) (k : Int), β[i]? = some (.own b (.nd .lst ds)) → kr.d = .int k → (W (augMid i f me kr) β Q E ↔ optW (L2.atI ds k) fun a => iW a fun a => W me β (fun r β1 => W (augFin i f k a r) β1 Q E) E) := fun b ds k e1 e2 => by
    have e : augMid i f me kr β = match L2.atI ds k with
      | some (.int a) => (bnd me (augFin i f k a)) β
      | _ => .stuck := by
      unfold augMid
      rw [e1, e2]
      try rfl
    cases e3 : L2.atI ds k with
    | none =>
      unfold W
      rw [e, e3]
      try exact Iff.rfl
    | some a =>
      cases a with
      | int a =>
        rw [e3] at e
        have : W (augMid i f me kr) β Q E ↔ W (bnd me (augFin i f k a)) β Q E := by
          unfold W
          rw [e]
        exact this.trans W_bnd
      | _ =>
        unfold W
        rw [e, e3]
        try exact Iff.rfl
  unfold ownW
  cases e1 : β[i]? with
  | none =>
    unfold W augMid
    rw [e1]
    try exact Iff.rfl
  | some s =>
    cases s with
    | own b d =>
      simp only
      unfold lstW
      cases d with
      | nd t ds =>
        cases t with
        | lst =>
          simp only
          unfold iW
          cases e2 : kr.d with
          | int k => exact key b ds k e1 e2
          | _ =>
            unfold W augMid
            rw [e1, e2]
            try exact Iff.rfl
        | _ =>
          unfold W augMid
          rw [e1]
          try exact Iff.rfl
      | _ =>
        unfold W augMid
        rw [e1]
        try exact Iff.rfl
    | _ =>
      unfold W augMid
      rw [e1]
      try exact Iff.rfl
@[simp ↓] theorem W_mAugIx {i : Nat} {f : Int → Int → Int} {mk me : M Rs} {Q : Fl → B.Env → Prop} : W (mAugIx i f mk me) β Q E ↔ isSet β[i]? ∧ W mk β (fun kr β1 => W (augMid i f me kr) β1 Q E) E := by
  unfold mAugIx
  refine W_bnd.trans (W_mPl.trans ?_)
  exact and_congr Iff.rfl W_bnd
@[simp ↓] theorem W_mCallT {f : List D → FR} {me : M Rs} {Q : Rs → B.Env → Prop} : W (mCallT f me) β Q E ↔ W me β (fun r β1 => W (callT f r) β1 Q E) E := by
  unfold mCallT
  exact W_bnd
end
end B


set_option Elab.async false
set_option linter.all false
set_option maxRecDepth 100000
set_option maxHeartbeats 4000000
namespace B
open PySem PySem.Spec L2 PyProof.Rows
section
variable {β : B.Env} {E : Exn → B.Env → Prop}
@[simp ↓] theorem W_mComp2 {vs vs1 : List Nat} {mi mi1 : M (List D)} {g g1 : D → M Unit} {mt mt1 : M Bool} {me : M Rs} {Q : Rs → B.Env → Prop} : W (mComp2 vs vs1 mi g mt mi1 g1 mt1 me) β Q E ↔ W mi β (fun ds β1 => W (comp2V g mt mi1 g1 mt1 me vs vs1 ds) β1 Q E) E := by
  unfold mComp2
  exact W_bnd
end
end B


set_option Elab.async false
set_option linter.all false
set_option maxRecDepth 100000
set_option maxHeartbeats 4000000
namespace B
open PySem PySem.Spec L2 PyProof.Rows
/-! # f() -/
section
variable {X : Cx} {k : Nat} {f : Addr} {fd : FuncData} {ps : List Str} {sp : Sp} {ds : List Value} {dvs : List V} {E : L2.St → XK} {x : Str} {p pos : Pos}
end
end B


set_option Elab.async false
set_option linter.all false
set_option maxRecDepth 100000
set_option maxHeartbeats 4000000
namespace B
open PySem PySem.Spec L2 PyProof.Rows
section
variable {β : B.Env} {E : Exn → B.Env → Prop}
def insW (d : D) (P : Str → List Str → List D → Prop) : Prop := match d with
  | .nd (.ins c ns) ds => P c ns ds
  | _ => False
@[simp ↓] theorem insW_ins {c : Str} {ns : List Str} {ds : List D} {P : Str → List Str → List D → Prop} : insW (.nd (.ins c ns) ds) P ↔ P c ns ds := Iff.rfl
@[simp ↓] theorem W_mSetFld {c f : Str} {i : Nat} {me : M Rs} {Q : Fl → B.Env → Prop} : W (mSetFld c f i me) β Q E ↔ W me β (fun r β1 => ownW β1[i]? fun b d => insW d fun c' ns ds => (c' = c ∧ ns.length < 1000) ∧ Q .nx (β1.set i (.own b (insD c' (putFD f r.d (ns.zip ds)))))) E := by
  unfold mSetFld
  refine W_bnd.trans (W_congr fun r β1 => ?_)
  unfold W ownW insW
  dsimp only
  rcases β1[i]? with _ | _ | _ | _ | ⟨b, d⟩ | _ <;> try exact Iff.rfl
  rcases d with _ | _ | _ | _ | ⟨t, ds⟩ <;> try exact Iff.rfl
  cases t with
  | ins c' ns =>
    simp only
    by_cases h : c' = c ∧ ns.length < 1000
    · rw [if_pos h]
      exact ⟨fun q => ⟨h, q⟩, fun q => q.2⟩
    · rw [if_neg h]
      exact ⟨fun q => q.elim, fun q => h q.1⟩
  | _ => exact Iff.rfl
end
end B


set_option Elab.async false
set_option linter.all false
set_option maxRecDepth 100000
set_option maxHeartbeats 4000000
namespace B
open PySem PySem.Spec L2
/-! ## a list of ints that a def tells, that no argument holds: it is new -/
def intsOf : List D → Option (List Int)
  | [] => some []
  | .int i :: ds => (intsOf ds).map (i :: ·)
  | _ :: _ => none
theorem intsOf_ints : ∀ ns : List Int, intsOf (ns.map D.int) = some ns
  | [] => rfl
  | n :: ns => by
    show (intsOf (ns.map D.int)).map (n :: ·) = _
    rw [intsOf_ints ns]
    rfl
theorem intsOf_some : ∀ {ds : List D} {ns : List Int}, intsOf ds = some ns → ds = ns.map D.int
  | [], ns, h => by cases h; rfl
  | d :: ds, ns, h => by
    cases d with
    | int i =>
      obtain ⟨ms, e, rfl⟩ := Option.map_eq_some_iff.mp (show (intsOf ds).map (i :: ·) = some ns from h)
      rw [intsOf_some e]
      rfl
    | _ => simp [intsOf] at h
mutual
def freeOf (is : List Int) : D → Bool
  | .nd t ds => (match t with
    | .lst => intsOf ds != some is
    | .scr => intsOf ds != some is
    | .dct => false
    | .dcg => false
    | _ => true) && freesOf is ds
  | _ => true
def freesOf (is : List Int) : List D → Bool
  | [] => true
  | d :: ds => freeOf is d && freesOf is ds
end
section
variable {K : PySem.W.Frag} {mg : Str → Option Value} {F F0 H : Hp} {is : List Int}
theorem DRs.ofInts : ∀ {is : List Int} {ds : List D}, DRs K mg F (is.map V.int) ds → ds = is.map D.int
  | [], _, .nil => rfl
  | i :: is, _, .cons a b => by
    cases a
    rw [DRs.ofInts b]
    rfl
theorem ne_of_free {vs : List V} {ds : List D} (r : DRs K mg F vs ds) (h : intsOf ds ≠ some is) : HO.lst vs ≠ .lst (is.map V.int) := fun e => by
  cases e
  rw [DRs.ofInts r, intsOf_ints] at h
  exact h rfl
mutual
theorem DR.but (k : ∀ a o, F a = some o → o ≠ .lst (is.map V.int) → F0 a = some o) : ∀ {v : V} {d : D}, DR K mg F v d → freeOf is d = true → DR K mg F0 v d
  | _, _, .non, _ => .non
  | _, _, .bl b, _ => .bl b
  | _, _, .int i, _ => .int i
  | _, _, .str x, _ => .str x
  | _, _, .tup h r, e => .tup (k _ _ h nofun) (DRs.but k r (by simpa [freeOf] using e))
  | _, _, .wtp h r, e => by
    refine .wtp ?_ (DRs.but k r (by simpa [freeOf] using e))
    rcases h with (h | ⟨o, h⟩) | h
    · exact .inl (.inl (k _ _ h nofun))
    · exact .inl (.inr ⟨o, k _ _ h nofun⟩)
    · exact .inr h
  | _, _, .lst h r, e => by
    simp only [freeOf, Bool.and_eq_true, bne_iff_ne] at e
    exact .lst (k _ _ h (ne_of_free r e.1)) (DRs.but k r e.2)
  | _, _, .scr h r, e => by
    simp only [freeOf, Bool.and_eq_true, bne_iff_ne] at e
    refine .scr ?_ (DRs.but k r e.2)
    rcases h with (h | ⟨o, h⟩) | h
    · exact .inl (.inl (k _ _ h (ne_of_free r e.1)))
    · exact .inl (.inr ⟨o, k _ _ h nofun⟩)
    · exact .inr h
  | _, _, .dK h r q, e => by simp [freeOf] at e
  | _, _, .dT h r q, e => by simp [freeOf] at e
  | _, _, .dg h _ r q, e => by simp [freeOf] at e
  | _, _, .ins h g r, e => .ins (k _ _ h nofun) g (DRs.but k r (by simpa [freeOf] using e))
  | _, _, .xc h g r, e => .xc (by
      rcases h with ⟨h1, h2⟩ | ⟨dx, h1, h2⟩
      · exact .inl ⟨h1, k _ _ h2 (by unfold ExO; nofun)⟩
      · exact .inr ⟨dx, k _ _ h1 (by unfold exo; nofun), k _ _ h2 (by unfold exd; nofun)⟩) g (DRs.but k r (by simpa [freeOf] using e))
theorem DRs.but (k : ∀ a o, F a = some o → o ≠ .lst (is.map V.int) → F0 a = some o) : ∀ {vs : List V} {ds : List D}, DRs K mg F vs ds → freesOf is ds = true → DRs K mg F0 vs ds
  | _, _, .nil, _ => .nil
  | _, _, .cons a b, e => by
    simp only [freesOf, Bool.and_eq_true] at e
    exact .cons (DR.but k a e.1) (DRs.but k b e.2)
end
end
def newR (ks : List Bool) (f : List D → FR) (ds : List D) : FR := match f ds with
  | .ok (.fz (.nd .lst es)) ios => (match intsOf es with
    | some is => if ks.all (fun k => !k) = true ∧ freesOf is ds = true then .ok (.own (.nd .lst es)) ios else .stuck
    | none => .stuck)
  | .ok (.own d) ios => .ok (.own d) ios
  | .exc x ios => .exc x ios
  | _ => .stuck
section
variable {K : PySem.W.Frag} {mg : Str → Option Value}
theorem AR.allF {F H : Hp} : ∀ {ks : List Bool} {io : List Addr} {vs : List V} {ds : List D}, AR K mg F H ks io vs ds → ks.all (fun k => !k) = true → io = [] ∧ DRs K mg F vs ds
  | _, _, _, _, .nil, _ => ⟨rfl, .nil⟩
  | _, _, _, _, .fz a b, e => by
    have e' := (List.all_cons ▸ e)
    simp only [Bool.not_false, Bool.true_and] at e'
    obtain ⟨h1, h2⟩ := AR.allF b e'
    exact ⟨h1, .cons a h2⟩
  | _, _, _, _, .io a b, e => by simp at e
theorem AR.ofF {F H : Hp} : ∀ {ks : List Bool} {vs : List V} {ds : List D}, ks.all (fun k => !k) = true → ks.length = vs.length → DRs K mg F vs ds → AR K mg F H ks [] vs ds
  | [], _, _, _, _, .nil => .nil
  | false :: ks, _, _, e, hl, .cons a b => .fz a (AR.ofF (by simpa using e) (by simpa using hl) b)
  | true :: ks, _, _, e, hl, .cons a b => by simp at e
  | [], _, _, _, hl, .cons a b => by cases hl
  | _ :: _, _, _, _, hl, .nil => by cases hl
open Classical in
theorem newR_sp {ks : List Bool} {f : List D → FR} {vs : List V} {H : Hp} {Q : VK} {E : XK} (h : spB K mg ks (newR ks f) vs H Q E) : spB K mg ks f vs H Q E := by
  obtain ⟨T, F, io, ds, t1, sf, fi, nd, ar, h⟩ := h
  unfold newR at h
  cases e : f ds with
  | stuck => rw [e] at h; exact h.elim
  | exc x ios =>
    rw [e] at h
    exact ⟨T, F, io, ds, t1, sf, fi, nd, ar, by rw [e]; exact h⟩
  | ok r ios =>
    rw [e] at h
    cases r with
    | own d => exact ⟨T, F, io, ds, t1, sf, fi, nd, ar, by rw [e]; exact h⟩
    | fz d =>
      obtain ⟨es, is, rfl, he, hc, h⟩ : ∃ es is, d = .nd .lst es ∧ intsOf es = some is ∧ (ks.all (fun k => !k) = true ∧ freesOf is ds = true) ∧ (∀ v H' F', After K mg T F H io ios F' H' → (∃ a, v = .ref a ∧ H a = none ∧ F' a = none ∧ OwnR K mg F' H' a (.nd .lst es)) → Q v H') := by
        cases d with
        | nd t es =>
          cases t with
          | lst =>
            simp only at h
            cases he : intsOf es with
            | none => rw [he] at h; exact h.elim
            | some is =>
              rw [he] at h
              simp only at h
              by_cases hc : ks.all (fun k => !k) = true ∧ freesOf is ds = true
              · rw [if_pos hc] at h
                exact ⟨es, is, rfl, he, hc, h⟩
              · rw [if_neg hc] at h
                exact h.elim
          | _ => exact h.elim
        | _ => exact h.elim
      obtain ⟨hk, hf⟩ := hc
      obtain ⟨rfl, dr⟩ := ar.allF hk
      have hes := intsOf_some he
      have kk : ∀ a o, F a = some o → o ≠ .lst (is.map V.int) → (fun b => if F b = some (.lst (is.map V.int)) then none else F b) a = some o := fun a o ha ho => by
        simp only
        rw [if_neg (fun z => ho (by rw [ha] at z; exact Option.some.inj z))]
        exact ha
      refine ⟨T, fun b => if F b = some (.lst (is.map V.int)) then none else F b, [], ds, ⟨fun a q z => ⟨?_, (t1.1 a q z).2⟩, fun a ha => nomatch ha⟩, fun a o z => ?_, fun a ha => (nomatch ha), .nil, AR.ofF hk ar.len.1.symm (DRs.but kk dr hf), ?_⟩
      · simp only
        split
        · rfl
        · exact (t1.1 a q z).1
      · simp only at z
        split at z
        · cases z
        · exact sf a o z
      · rw [e]
        simp only
        intro v H' F' A rr
        cases rr with
        | lst hF r =>
          rename_i a us
          rw [hes] at r
          have hus := DRs.intsV r
          subst hus
          have hn : H a = none := by
            rcases A.new _ _ hF with z | z
            · skip
              split at z
              · cases z
              · rename_i hz; exact absurd z hz
            · exact z
          have fn : F a = none := by
            cases q : F a with
            | none => rfl
            | some o =>
              have := sf _ _ q
              rw [hn] at this
              cases this
          refine h (.ref a) H' F ⟨Same.refl _, fun _ _ z => .inl z, fun b o z => ?_, fun a ha => (nomatch ha), A.keep, fun a q z => ⟨(t1.1 a q z).1, (A.tab a q z).2⟩, ?_⟩ ⟨a, rfl, hn, fn, ?_⟩
          · refine A.keep b o (sf b o z) (fun m => nomatch m) ?_
            cases q : T b with
            | none => rfl
            | some w =>
              have := (t1.1 b w q).1
              rw [z] at this
              cases this
          · have := A.ios
            cases this
            exact .nil
          · rw [hes]
            exact .lst (A.sf _ _ hF) (DRs.ints is)
end
theorem Ok.new {P : Program} {w : World} {K : PySem.W.Frag} {mg : Str → Option Value} {base : Heap} {k : Nat} {x : Str} {ps : List Str} {ks : List Bool} {r : List D → FR} (O : Ok P w K mg base k x ps ks r) : Ok P w K mg base k x ps ks (newR ks r) := by
  obtain ⟨f, fd, F, hm, hk, hb⟩ := O
  exact ⟨f, fd, F.imp fun _ _ _ _ => newR_sp, hm, hk, hb⟩
end B


set_option Elab.async false
set_option linter.all false
set_option maxRecDepth 100000
set_option maxHeartbeats 4000000
namespace B
open PySem PySem.Spec L2 PyProof.Rows
/-! # calls of defs that make lambdas (or call such): the tables handed on -/
structure LkC (K : PySem.W.Frag) (mg : Str → Option Value) (x : Str) (st : Stmt) (ps : List Str) (fa c : Addr) (fd : FuncData) : Prop where
  f : FunC K x st fa c fd
  m : mg x = some (.ref fa)
  k : PySem.W.keepIn K (.ref fa) = true
  b : Binds K fd ps []
def atG (gi : Nat) (ts : List (Addr × Str)) (β : B.Env) : Prop := β[gi]? = some (.gh ts)
open Classical in
noncomputable def onT {α : Type} (gi : Nat) (ts : List (Addr × Str)) (m : M α) : M α := fun β => if atG gi ts β then m β else .stuck
noncomputable def mCallFT (gi : Nat) (ts : List (Addr × Str)) (ks : List Bool) (f : List D → FR) (ma : M (List Pl)) : M Rs := bnd ma fun ps => onT gi ts (callF ks f ps)
noncomputable def mCallTT (gi : Nat) (ts : List (Addr × Str)) (f : List D → FR) (me : M Rs) : M Rs := bnd me fun r => onT gi ts (callT f r)
section
variable {X : Cx} {ks : List Bool} {f : List D → FR} {ma : M (List Pl)} {ts : List (Addr × Str)}
end
section
variable {P : Program} {w : World} {K : PySem.W.Frag} {mg : Str → Option Value} {base : Heap}
end
section
variable {α : Type} {β : B.Env} {E : Exn → B.Env → Prop}
theorem W_onT {gi : Nat} {ts : List (Addr × Str)} {m : M α} {Q : α → B.Env → Prop} : W (onT gi ts m) β Q E ↔ β[gi]? = some (.gh ts) ∧ W m β Q E := by
  unfold W onT atG
  by_cases h : β[gi]? = some (.gh ts)
  · rw [if_pos h]
    exact ⟨fun z => ⟨h, z⟩, fun z => z.2⟩
  · rw [if_neg h]
    exact ⟨fun z => z.elim, fun z => absurd z.1 h⟩
@[simp ↓] theorem W_mCallFT {gi : Nat} {ts : List (Addr × Str)} {ks : List Bool} {f : List D → FR} {ma : M (List Pl)} {Q : Rs → B.Env → Prop} : W (mCallFT gi ts ks f ma) β Q E ↔ W ma β (fun ps β1 => β1[gi]? = some (.gh ts) ∧ W (callF ks f ps) β1 Q E) E := by
  unfold mCallFT
  exact W_bnd.trans (W_congr fun ps β1 => W_onT)
@[simp ↓] theorem W_mCallTT {gi : Nat} {ts : List (Addr × Str)} {f : List D → FR} {me : M Rs} {Q : Rs → B.Env → Prop} : W (mCallTT gi ts f me) β Q E ↔ W me β (fun r β1 => β1[gi]? = some (.gh ts) ∧ W (callT f r) β1 Q E) E := by
  unfold mCallTT
  exact W_bnd.trans (W_congr fun r β1 => W_onT)
end
end B


set_option Elab.async false
set_option linter.all false
set_option maxRecDepth 100000
set_option maxHeartbeats 4000000
namespace B
open PySem PySem.Spec L2 PyProof.Rows PySem.W
/-! # min(x), x a list of lists of ints -/
def leastL (x : List Int) (l : List (List Int)) : List Int := l.foldl (fun a y => if y < a then y else a) x
section
variable {X : Cx}
theorem CallD.alt {f : Value} {g1 g2 : List D → Option Rs} (h1 : CallD X f g1) (h2 : CallD X f g2) : CallD X f (fun ds => (g1 ds).orElse fun _ => g2 ds) := by
  intro pins s σ H xs us Q I r ⟨F, ds, rs, sf, hx, hg, q⟩
  simp only at hg
  cases e : g1 ds with
  | some rs' =>
    rw [e] at hg
    exact h1 pins s σ H xs us Q I r ⟨F, ds, rs, sf, hx, by rw [e]; exact hg, q⟩
  | none =>
    rw [e] at hg
    exact h2 pins s σ H xs us Q I r ⟨F, ds, rs, sf, hx, hg, q⟩
end
end B


set_option Elab.async false
set_option linter.all false
set_option maxRecDepth 100000
set_option maxHeartbeats 4000000
namespace B
open PySem PySem.Spec L2 PyProof.Rows
/-! # set(xs), xs a list of tuples of ints, up to 499 of them -/
section
variable {P : Program} {w : World} {A : Around} {E : Value → Shared → Prop} {s : Shared}
abbrev set0 (w : World) : Obj := { cls := .type "set", dict := none, data := .set #[] 0 (.fresh 0 0 (!w.params.followText "set-order")) }
/-- what is walked is put in, one by one -/
theorem sg_fill {I S : Addr} {fp wr : List Addr} {G : Array GenState → Array GenState → Prop} {n : Nat} {Pv : Nat → Value → Prop} {St : Nat → Shared → Prop} {R : Result → Shared → Prop} (W : WalksS P w A.in1 I fp wr G n Pv St) (nS : S ∉ fp)
    {ks : List (Addr × List Int)} (en : ks.length = n) (few : ks.length < 500) (pick : ∀ i v, Pv i v → ∃ p, ks[i]? = some p ∧ v = .ref p.1) {h0 : Heap} (old : ∀ p ∈ ks, IsT P w h0 p.2 p.1) (newS : h0.get? S = none) (newW : ∀ b ∈ wr, h0.get? b = none) (hu : A.in1.units < cLine) :
    ∀ (left i : Nat) (s : Shared), i + left = n → St i s → (∀ b o, h0.get? b = some o → s.heap.get? b = some o) → (∃ L es ep t, SG P w s.heap S L es ep t ∧ Got ks i L) →
      (∀ s' L es ep t, Moved (S :: wr) G s s' → SG P w s'.heap S L es ep t → Got ks n L → (∀ b o, h0.get? b = some o → s'.heap.get? b = some o) → R (.ok (.ret .none)) s') → codeAny (model P w) A (.builtin "set.update.loop" ⟨[.ref S, .ref I], []⟩) R s := by
  have sw : S ∉ wr := fun z => nS (W.sub _ z)
  have wide : ∀ b ∈ wr, b ∈ S :: wr := fun b z => .tail _ z
  have stand : ∀ {s s' : Shared}, Moved wr G s s' → (∀ b o, h0.get? b = some o → s.heap.get? b = some o) → ∀ b o, h0.get? b = some o → s'.heap.get? b = some o := fun m k b o e => m.heap b o (fun z => by have := newW b z; rw [e] at this; cases this) (k b o e)
  intro left
  induction left with
  | zero =>
    intro i s hi st k ⟨L, es, ep, t, r, g⟩ q
    obtain rfl : i = n := hi
    refine codeAny_builtin F.entry_set_update_loop (by
      rw [Around.under_plainId F.plain_set_update_loop _]
      refine wpAny_bind (W.done s _ _ st fun s1 m => ?_) <;> skip
      have k1 := stand m k
      have le : ∀ p ∈ L, p ∈ ks := fun p hp => List.mem_of_mem_take (g.sub p hp)
      exact wpAny_pure (q s1 L es ep t (m.mono wide) (r.stay (fun o e => m.heap S o sw e) fun p hp => isT_keep (old p (le p hp)) k1) g k1))
  | succ left ih =>
    intro i s hi st k ⟨L, es, ep, t, r, g⟩ q
    refine codeAny_builtin F.entry_set_update_loop (by
      rw [Around.under_plainId F.plain_set_update_loop _]
      refine wpAny_bind (W.item i s _ _ (by omega) st fun v s1 pv st1 m => ?_) <;> skip
      obtain ⟨p, ep', rfl⟩ := pick i v pv
      have k1 := stand m k
      have le : ∀ p ∈ L, p ∈ ks := fun p hp => List.mem_of_mem_take (g.sub p hp)
      have r1 : SG P w s1.heap S L es ep t := r.stay (fun o e => m.heap S o sw e) fun p hp => isT_keep (old p (le p hp)) k1
      have tp : IsT P w s1.heap p.2 p.1 := isT_keep (old p (List.mem_of_getElem? ep')) k1
      have len := g.len
      refine wpAny_bind (wpAny_holding (by
        unfold setAdd
        refine wpAny_holding (wpAny_bind (wpAny_pyHash_tuple hu tp ?_)) <;> skip
        refine sg_add (s := { s1 with toks := s1.toks + (p.2.length + 1) }) r1 tp hu (by omega) fun b h2 L2 es2 ep2 t2 sb r2 c1 c2 _ => ?_
        have g2 : Got ks (i + 1) L2 := by
          by_cases c : p.2 ∈ L.map (·.2)
          · exact c1 c ▸ g.same ep' c
          · exact g.more ep' (c2 c)
        have k2 : ∀ b o, h0.get? b = some o → h2.get? b = some o := fun b o e => by
          rw [sb.2 b fun z => by rw [z, newS] at e; cases e]
          exact k1 b o e
        refine wpAny_pure ⟨plainId_quiet F.plain_set_update_loop _, ih (i + 1) _ (by omega) (W.frame _ s1 _ _ st1 (Nat.le_add_right _ _) fun b hb o e => ?_) k2 ⟨L2, es2, ep2, t2, r2, g2⟩ fun s3 L3 es3 ep3 t3 m3 r3 g3 k3 => q s3 L3 es3 ep3 t3 (Moved.trans W.gtrans ((m.mono wide).then_heap (Nat.le_add_right _ _) fun b o hb e => ?_) m3) r3 g3 k3⟩
        · rw [sb.2 b fun z => nS (z ▸ hb)]
          exact e
        · rw [sb.2 b fun z => hb (z ▸ List.mem_cons_self)]
          exact e)))
/-- the whole call -/
theorem sg_make {l : Addr} {its : Array Value} {ks : List (Addr × List Int)} {Q : Value → Shared → Prop} (hh : A.handled = none) (hl : s.heap.IsList l its) (eq : its.toList = ks.map fun p => Value.ref p.1) (tp : ∀ p ∈ ks, IsT P w s.heap p.2 p.1) (few : ks.length < 500) (hu : A.units + 3 < cLine)
    (q : ∀ (h' : Heap) (tk : Nat) L es ep t, SG P w h' s.heap.objs.size L es ep t → Got ks ks.length L → (∀ b o, s.heap.get? b = some o → h'.get? b = some o) → Q (.ref s.heap.objs.size) { s with heap := h', toks := tk }) : wpAny (model P w) A (call (.type "set") [.ref l]) Q E s := by
  have size : ks.length = its.size := by rw [← Array.length_toList, eq, List.length_map]
  obtain ⟨c, tl, mro⟩ := F.called_set.mro
  have a1 := F.called_set.made
  have a2 := F.called_set.sub
  have a3 := F.called_set.notType
  have a4 := F.called_set.canCreate
  have a5 := F.typeCall_set_1 (.ref l)
  refine wpAny_call (codeAny_of_tree (wpAny_pure ⟨Code.quiet_builtin _ (by decide +kernel), codeAny_builtin F.entry_type_call ?_⟩))
  rw [Around.under_plain (weight_type_call_type "set" [.ref l] []) (by rfl)]
  repeat (any_goals first | wp_step | assumption)
  refine codeAny_mono (code_set_led1 (.ref l) (E := E) (Q₁ := fun x s1 => x = .ref s.heap.objs.size ∧ s1 = { s with heap := s.heap.push (set0 w) }) ⟨rfl, rfl⟩) fun r s1 hr => ?_
  cases r with
  | error e => exact hr
  | ok fl =>
    cases fl with
    | ret x =>
      obtain ⟨rfl, rfl⟩ := hr
      have S0 : (s.heap.push (set0 w)).get? s.heap.objs.size = some (set0 w) := Heap.get?_push_size _ rfl
      have S1 : Shared.TypeIs { s with heap := s.heap.push (set0 w) } (.ref s.heap.objs.size) "set" := ⟨_, S0, rfl⟩
      have b1 := F.called_set.init.lookup
      have b2 := F.called_set.init.bind (.ref s.heap.objs.size)
      repeat (any_goals first | wp_step | assumption)
      refine codeAny_mono (codeAny_call_builtin (R := wants (fun r s2 => r = .none ∧ ∃ h' tk L es ep t, s2 = { s with heap := h', toks := tk } ∧ SG P w h' s.heap.objs.size L es ep t ∧ Got ks ks.length L ∧ ∀ b o, s.heap.get? b = some o → h'.get? b = some o) E)
        F.called_set.init.plain F.entry_set_init (check_set_init_1 S1 (by
          obtain ⟨⟨lc, ld, lt, lsl⟩, e1, e2, nl, e3⟩ := hl
          simp only at e2 e3
          subst e2
          subst e3
          have l0 : (s.heap.push (set0 w)).get? l = some { cls := .type "list", dict := ld, data := .seq its nl, slots := lsl } := Heap.get?_push_of_some _ e1
          have l1 : (s.heap.push (set0 w)).IsList l its := ⟨_, l0, rfl, nl, rfl⟩
          have f1 := F.sub_list_set
          have f2 := F.sub_list_frozenset
          have f3 : (Value.type "list" == Value.type "dict") = false := by decide
          have l2 : l < s.heap.objs.size := Heap.lt_size e1
          have z1 : (s.heap.push (set0 w)).objs.size = s.heap.objs.size + 1 := Heap.size_push ..
          unfold Builtin.«set.__init__» noKeywords Builtin.Frozenset.updateFrom
          generalize hI : pyIter = J
          wp_walk
          subst hI
          have hI2 : A.in1.in1.in1.handled = none := by simp [hh]
          have ne : l ≠ (s.heap.push (set0 w)).objs.size := by
            rw [Heap.size_push]
            exact Nat.ne_of_lt (Nat.lt_succ_of_lt l2)
          have gone : ∀ b, s.heap.objs.size ≤ b → s.heap.get? b = none := fun b hb => by
            cases q : s.heap.get? b with
            | none => rfl
            | some o => exact absurd (Nat.lt_of_lt_of_le (Heap.lt_size q) hb) (Nat.lt_irrefl _)
          refine wpAny_pyIter_list l1 (wpAny_bind (wpAny_runValue ?_))
          refine sg_fill ((Walks.list hI2 _ l ne its).toS) (S := s.heap.objs.size) (ks := ks) (fun z => ?_) size few (fun i v hv => ?_) tp (gone _ (Nat.le_refl _)) (fun b hb => gone b (by rw [List.mem_singleton.mp hb, Heap.size_push]; exact Nat.le_succ _)) hu its.size 0 _ (by omega) ⟨⟨_, Heap.get?_push_size _ rfl, rfl, rfl⟩, l1.push _⟩
            (fun b o e => Heap.get?_push_of_some _ (Heap.get?_push_of_some _ e)) ⟨[], #[], 0, _, sg_new (Heap.get?_push_of_some _ S0) rfl, Got.zero ks⟩ fun s3 L es ep t m r g k => ?_
          · rcases List.mem_cons.mp z with z | z
            · rw [Heap.size_push] at z
              exact absurd z (Nat.ne_of_lt (Nat.lt_succ_self _))
            · have := List.mem_singleton.mp z
              rw [this] at l2
              exact absurd l2 (Nat.lt_irrefl _)
          · have e5 : its.toList[i]? = some v := by rw [Array.getElem?_toList]; exact hv
            rw [eq, List.getElem?_map] at e5
            obtain ⟨p, e6, rfl⟩ := Option.map_eq_some_iff.mp e5
            exact ⟨p, e6, rfl⟩
          · obtain ⟨hp, g2, d2, tk2, os2⟩ := s3
            have m1 : g2 = s.gens := m.gens
            have m2 : d2 = s.drawn := m.drawn
            have m3 : os2 = s.os := m.os
            subst m1
            subst m2
            subst m3
            rw [← size] at g
            exact wpAny_pure (wpAny_pure ⟨rfl, hp, tk2, L, es, ep, t, rfl, r, g, k⟩)))) fun r2 s2 h2 => ?_
      cases r2 with
      | error e => exact h2
      | ok f2 =>
        cases f2 with
        | ret r =>
          obtain ⟨rfl, h', tk, L, es, ep, t, rfl, r, g, k⟩ := h2
          repeat (any_goals first | wp_step | assumption)
          exact q _ _ _ _ _ _ r g k
        | _ => exact h2.elim
    | _ => exact hr.elim
end
end B


set_option Elab.async false
set_option linter.all false
set_option maxRecDepth 100000
set_option maxHeartbeats 4000000
namespace B
open PySem PySem.Spec L2 PyProof.Rows
/-! # sorted(set(xs)), xs a list of up to 499 tuples of ints -/
section
variable {X : Cx}
def rSetU (K : PySem.W.Frag) (P : Program) (w : World) : List V → Hp → VK → Prop := fun xs H Q => ∃ (l : Addr) (ks : List (Addr × List Int)), xs = [V.ref l] ∧ SqL K H l (ks.map fun p => V.ref p.1) ∧ (∀ p ∈ ks, TupAt H p) ∧ ks.length < 500 ∧
  ∀ a L, H a = none → (∀ p ∈ L, p ∈ ks) → (∀ p ∈ ks, p.2 ∈ L.map (·.2)) → (L.map (·.2)).Nodup → L.length ≤ ks.length → Q (.ref a) (upd H a (SetG P w a L))
theorem cr_setU (hc : X.calm = true) (hu : X.A.units + 64 < cLine) : CallR X (.type "set") (rSetU X.K X.prog X.w) := fun pins s σ H xs us Q I r ⟨l, ks, ex, hl, ht, few, q⟩ => by
  subst ex
  obtain ⟨its, rv, pl, _⟩ := I.list hl
  rw [Vals.ref1 r]
  refine sg_make (ks := ks) (I.ok.hd hc) pl.isList (by simpa using refs_of_vals rv) (fun p hp => isT_of I (ht p hp)) few (by omega) fun h' tk L es ep t R g k => ?_
  exact ⟨.ref s.heap.objs.size, upd H s.heap.objs.size (SetG X.prog X.w s.heap.objs.size L), I.laid (t' := tk) k (Nat.le_refl _) (setG_ok R.s0), rfl, q _ L (I.hok.fresh (Nat.le_refl _)) (fun p hp => List.mem_of_mem_take (g.sub p hp)) (fun p hp => g.all p (by rw [List.take_length]; exact hp)) R.nd g.len⟩
open Classical in
noncomputable def gSortSetG : D → Option Rs
  | .nd .lst ds => (tups? ds).bind fun ks => if ks.length < 500 ∧ ∀ k ∈ ks, k ≠ [] then some (.own (.nd .lst ((tset ks).map tupD))) else none
  | _ => none
variable {a : Expr} {ma : M Pl} {p p2 q pos : Pos}
theorem be_sortSetG (hg : Gl X "sorted") (hm : X.mg "sorted" = none) (hg2 : Gl X "set") (hm2 : X.mg "set" = none) (hc : X.calm = true) (hu : X.A.units + 64 < cLine) (ha : BP X a ma) (na : starEach [a] X.env = (false, eval a X.env) :: starEach [] X.env := by rfl)
    (nb : starEach [.Call (.Name "set" p2) [a] [] q] X.env = (false, eval (.Call (.Name "set" p2) [a] [] q) X.env) :: starEach [] X.env := by rfl) :
    BE X (.Call (.Name "sorted" p) [.Call (.Name "set" p2) [a] [] q] [] pos) (mUn gSortSetG ma) := by
  refine fun W tk => (pe_callB (cr_sortG hc hu) hg hm boot_sorted (pa_cons (pe_callTy (cr_setU hc hu) hg2 hm2 boot_set (pa_cons (ha W tk) pa_nil na) (by decide) (by decide) na) pa_nil nb) (by decide) (by decide) nb).imp fun σ H Q ⟨G, io, F, β, I, h⟩ => ?_
  refine ⟨G, io, F, β, I, h.bnd fun pl β1 v H1 F1 fe1 I1 r1 h1 => ?_⟩
  obtain ⟨F, d, r, sf, hx, hgr, q⟩ := fin1_post I1 r1 (h1.mono fe1)
  unfold gSortSetG at hgr
  split at hgr
  · rename_i ds
    obtain ⟨ks, e1, e2⟩ := Option.bind_eq_some_iff.mp hgr
    split at e2
    · rename_i ok
      cases e2
      obtain ⟨k1, k3⟩ := ok
      have e3 := tups_of e1
      subst e3
      cases hx with
      | @lst l vs _ hl rd =>
        obtain ⟨ps, rfl, hks, hps⟩ := rd.tups
        have bd : ∀ p ∈ ps, p.2 ∈ ks := fun p hp => hks ▸ List.mem_map.mpr ⟨p, hp, rfl⟩
        have few : ps.length < 500 := by
          rw [← hks, List.length_map] at k1
          exact k1
        refine ⟨l, ps, rfl, .inl (.inl hl), fun p hp => sf _ _ (hps p hp).1, few, fun s L hs sub all nd len => ?_⟩
        have sub2 : ∀ p ∈ L, p.2 ∈ ks := fun p hp => bd p (sub p hp)
        have sh : Same H1 (upd H1 s (SetG X.prog X.w s L)) := fun b u hb => by
          rw [upd_ne (ne_of_none hb hs)]
          exact hb
        refine ⟨s, L, rfl, upd_same, fun p hp => sh _ _ (sf _ _ (hps p (sub p hp)).1), fun p hp => k3 _ (sub2 p hp), by omega, fun L' z pm hz => ?_⟩
        have hz1 : H1 z = none := by
          by_cases e : z = s
          · subst e
            rw [upd_same] at hz
            cases hz
          · rwa [upd_ne e] at hz
        have eK : (sortK L').map (·.2) = tset ks := by
          refine rising_eq (sortK_rise ((pm.map (·.2)).nodup_iff.mpr nd)) (tset_sorted _) fun k => ?_
          rw [mem_tset, ((sortK_perm L').map (·.2)).mem_iff, (pm.map (·.2)).mem_iff]
          constructor
          · intro hk
            obtain ⟨p, hp, rfl⟩ := List.mem_map.mp hk
            exact sub2 p hp
          · intro hk
            rw [← hks] at hk
            obtain ⟨p, hp, rfl⟩ := List.mem_map.mp hk
            exact all p hp
        have dr : DRs X.K X.mg F ((sortK L').map fun q => V.ref q.1) ((tset ks).map tupD) := by
          rw [← eK, List.map_map]
          have key : ∀ l : List (Addr × List Int), (∀ p ∈ l, DR X.K X.mg F (.ref p.1) (tupD p.2)) → DRs X.K X.mg F (l.map fun q => V.ref q.1) (l.map (tupD ∘ fun x => x.2)) := by
            intro l
            induction l with
            | nil => intro _; exact .nil
            | cons p l ih => intro h; exact .cons (h p List.mem_cons_self) (ih fun q hq => h q (List.mem_cons_of_mem _ hq))
          exact key _ fun p hp => (hps p (sub p (pm.mem_iff.mp ((sortK_perm L').mem_iff.mp hp)))).2
        refine q _ _ ⟨fun b u hb => ?_, z, rfl, hz1, .lst upd_same dr⟩
        rw [upd_ne (ne_of_none (sh b u hb) hz)]
        exact sh b u hb
    · cases e2
  · cases hgr
end
theorem w_sortSetG {ks : List (List Int)} (h : ks.length < 500) (h2 : ∀ k ∈ ks, k ≠ []) {P : Rs → Prop} : optW (gSortSetG (.nd .lst (ks.map tupD))) P ↔ P (.own (.nd .lst ((tset ks).map tupD))) := by
  have e : gSortSetG (.nd .lst (ks.map tupD)) = some (.own (.nd .lst ((tset ks).map tupD))) := by
    unfold gSortSetG
    show (tups? (ks.map tupD)).bind _ = _
    rw [tups_map]
    exact if_pos ⟨h, h2⟩
  rw [e]
  exact Iff.rfl
end B


set_option Elab.async false
set_option linter.all false
set_option maxRecDepth 100000
set_option maxHeartbeats 4000000
namespace B
open PySem PySem.Spec L2 PyProof.Rows
/-! # t[::-1], t a tuple -/
section
variable {prog : Program} {w : World} {A : Around} {E : Value → Shared → Prop} {s : Shared}
end
section
variable {X : Cx}
def gRevT : D → Option Rs
  | .nd .tup ds => some (.fz (.nd .tup ds.reverse))
  | _ => none
end
end B


set_option Elab.async false
set_option linter.all false
set_option maxRecDepth 100000
set_option maxHeartbeats 4000000
namespace B
open PySem PySem.Spec L2 PyProof.Rows PySem.SeqAt
/-! # xs != ys, lists of whatever, of other lengths -/
section
variable {X : Cx}
end
end B


set_option Elab.async false
set_option linter.all false
set_option maxRecDepth 100000
set_option maxHeartbeats 4000000
namespace B
open PySem PySem.Spec L2 PyProof.Rows
/-! # >= of data; a tuple taken once; texts times a number -/
def gGeD (d e : D) : Option Rs := if cmpOk d e = true then some (.fz (.bl (!PySem.W.dataLt (toPy d) (toPy e)))) else none
def gGeA (d e : D) : Option Rs := (gGe d e).orElse fun _ => gGeD d e
def gRep1 : D → D → Option Rs
  | .nd .tup ds, .int k => if k = 1 then some (.fz (.nd .tup ds)) else none
  | _, _ => none
def gMulS : D → D → Option Rs
  | .str x, .int k => if 1 < k ∧ k ≤ 1000 ∧ x.length = 1 then some (.fz (.str (Txt.mul x k))) else none
  | _, _ => none
def gMulA (d e : D) : Option Rs := (gMul d e).orElse fun _ => (gRep1 d e).orElse fun _ => gMulS d e
section
variable {X : Cx}
end
@[simp ↓] theorem w_mulA {i j : Int} {P : Rs → Prop} : optW (gMulA (.int i) (.int j)) P ↔ mulOk i j ∧ P (.fz (.int (i * j))) := by
  have e : gMulA (.int i) (.int j) = gMul (.int i) (.int j) := by
    unfold gMulA
    cases gMul (.int i) (.int j) <;> rfl
  rw [e]
  exact w_mul
@[simp ↓] theorem w_geA {i j : Int} {P : Rs → Prop} : optW (gGeA (.int i) (.int j)) P ↔ P (.fz (.bl (decide (j ≤ i)))) := Iff.rfl
end B


set_option Elab.async false
set_option linter.all false
set_option maxRecDepth 100000
set_option maxHeartbeats 4000000
namespace B
open PySem PySem.Spec L2 PyProof.Rows PySem.W
/-! # texts -/
section
variable {X : Cx}
/-! ## a, b = a list -/
def gUnpL (n : Nat) (g : List D → M Unit) : D → M Unit
  | .nd .lst ds => if ds.length = n then g ds else stk
  | _ => stk
end
end B


set_option Elab.async false
set_option linter.all false
set_option maxRecDepth 100000
set_option maxHeartbeats 4000000
namespace B
open PySem PySem.Spec L2 PyProof.Rows PySem.W
/-! # a, *b = a list -/
section
variable {X : Cx} {pos : Pos}
def gUnpS (g : List D → M Unit) : D → M Unit
  | .nd .lst (d :: ds) => if ds.length ≤ 16000 then g [d, .nd .lst ds] else stk
  | _ => stk
end
section
variable {X : Cx} {x : Str} {pos : Pos}
end
@[simp ↓] theorem W_gUnpS {g : List D → M Unit} {d : D} {ds : List D} {β : B.Env} {Q : Unit → B.Env → Prop} {E : Exn → B.Env → Prop} : W (gUnpS g (.nd .lst (d :: ds))) β Q E ↔ ds.length ≤ 16000 ∧ W (g [d, .nd .lst ds]) β Q E := by
  show W (if ds.length ≤ 16000 then g [d, .nd .lst ds] else stk) β Q E ↔ _
  by_cases h : ds.length ≤ 16000
  · rw [if_pos h]
    exact ⟨fun k => ⟨h, k⟩, fun k => k.2⟩
  · rw [if_neg h]
    exact ⟨fun k => (W_stk.mp k).elim, fun k => absurd k.1 h⟩
@[simp ↓] theorem W_gUnpL {n : Nat} {g : List D → M Unit} {ds : List D} {β : B.Env} {Q : Unit → B.Env → Prop} {E : Exn → B.Env → Prop} : W (gUnpL n g (.nd .lst ds)) β Q E ↔ ds.length = n ∧ W (g ds) β Q E := by
  show W (if ds.length = n then g ds else stk) β Q E ↔ _
  by_cases h : ds.length = n
  · rw [if_pos h]
    exact ⟨fun k => ⟨h, k⟩, fun k => k.2⟩
  · rw [if_neg h]
    exact ⟨fun k => (W_stk.mp k).elim, fun k => absurd k.1 h⟩
end B


set_option Elab.async false
set_option linter.all false
set_option maxRecDepth 100000
set_option maxHeartbeats 4000000
namespace B
open PySem PySem.Spec L2 PyProof.Rows PySem.W
/-! # calls that hand in all by name -/
section
variable {X : Cx} {k n : Nat} {x : Str} {p pos : Pos} {ks : List Str} {kws : List Keyword} {tk : TA} {f : Addr} {fd : FuncData} {ps : List Str} {sp : Sp} {E : L2.St → XK} {g : List Value → List Value → List Value} {gV : List V → List V → List V}
end
/-- the parameters in their order: what is handed in by place, by name, what is left out -/
def kpd (ix : List Nat) (dd : List D) (us ws : List Pl) : List Pl := pick ix (us ++ ws ++ dd.map Pl.d)
abbrev PatK := Nat × List Str × List Nat × List D
def PatsK (K : PySem.W.Frag) (mg : Str → Option Value) (fd : FuncData) (ps : List Str) (pats : List PatK) : Prop := ∀ q ∈ pats, KwOk K mg fd ps q.1 q.2.1 (kpd q.2.2.1 q.2.2.2)
structure LkK (K : PySem.W.Frag) (mg : Str → Option Value) (x : Str) (st : Stmt) (ps : List Str) (dd : List D) (pats : List PatK) : Prop where
  ex : ∃ f fd, L2.Fun K x x st f fd ∧ mg x = some (.ref f) ∧ Dfl K mg fd ps dd ∧ PatsK K mg fd ps pats
def OkK (P : Program) (w : World) (K : PySem.W.Frag) (mg : Str → Option Value) (base : Heap) (k : Nat) (x : Str) (ps : List Str) (ks : List Bool) (r : List D → FR) (dd : List D) (pats : List PatK) : Prop :=
  ∃ f fd, FnG P w K mg base k f fd ps (spB K mg ks r) ∧ mg x = some (.ref f) ∧ PySem.W.keepIn K (.ref f) = true ∧ Dfl K mg fd ps dd ∧ PatsK K mg fd ps pats
section
variable {P : Program} {w : World} {K : PySem.W.Frag} {mg : Str → Option Value} {base : Heap} {k : Nat} {x : Str} {st : Stmt} {N ps : List Str} {m : M Fl} {dd : List D} {pats : List PatK}
/-- without defaults: as handed in by place -/
theorem OkK.ok {ks : List Bool} {r : List D → FR} (O : OkK P w K mg base k x ps ks r [] pats) : Ok P w K mg base k x ps ks r := by
  obtain ⟨fa, fd, Fn, hm, hk, ⟨dvs, dv, hb, hd, hdd⟩, _⟩ := O
  have : dvs = [] := by cases hdd (fun _ => none); rfl
  subst this
  cases hd
  exact ⟨fa, fd, Fn, hm, hk, hb⟩
end
def mCallK0 (ks : List Bool) (f : List D → FR) (m : Nat) (ix : List Nat) (dd : List D) (mk : M (List Pl)) : M Rs := bnd mk fun qs => if qs.length = m then callF ks f (kpd ix dd [] qs) else stk
section
variable {X : Cx} {k j : Nat} {x : Str} {prm : List Str} {ks : List Bool} {f : List D → FR} {p pos : Pos} {mk ma : M (List Pl)} {dd dk : List D} {pats : List PatK} {kn : List Str} {ix : List Nat} {kws : List Keyword}
end
/-! ## C(y = k, ..) -/
def IPats (K : PySem.W.Frag) (mg : Str → Option Value) (fd : FuncData) (ps : List Str) (pats : List (List Str × List Nat)) : Prop := ∀ q ∈ pats, KBn K fd ps 1 q.1 (fun us ws => us ++ pick q.2 ws) (fun vs zs => vs ++ pick q.2 zs)
/-- what the written part says of a class whose __init__ is handed its things by their names -/
structure IClsK (K : PySem.W.Frag) (mg : Str → Option Value) (c : Str) (flds : List Str) (st : Stmt) (qual : Str) (ps : List Str) (pats : List (List Str × List Nat)) : Prop where
  ex : ∃ (C fi : Addr) (fd : FuncData), mg c = some (.ref C) ∧ Cls K C ∧ (∀ f ∈ flds, NoAttr K C f) ∧ L2.Mk K C fi ∧ L2.Fun K "__init__" qual st fi fd ∧ Binds K fd ps [] ∧ IPats K mg fd ps pats
theorem IClsK.fld {X : Cx} {c : Str} {flds : List Str} {st : Stmt} {qual : Str} {ps : List Str} {pats : List (List Str × List Nat)} (Z : IClsK X.K X.mg c flds st qual ps pats) {f : Str} (hf : f ∈ flds) : FldOk X c f := fun C e => by
  obtain ⟨C', fi, fd, g, cl, na, _⟩ := Z.ex
  cases g.symm.trans e
  exact ⟨cl, na f hf⟩
def OkIK (P : Program) (w : World) (K : PySem.W.Frag) (mg : Str → Option Value) (base : Heap) (k : Nat) (c : Str) (ps : List Str) (ks : List Bool) (r : List D → FR) (pats : List (List Str × List Nat)) : Prop :=
  ∃ (C fi : Addr) (fd : FuncData), mg c = some (.ref C) ∧ L2.Mk K C fi ∧ FnG P w K mg base k fi fd ps (spB K mg ks r) ∧ Binds K fd ps [] ∧ IPats K mg fd ps pats
section
variable {P : Program} {w : World} {K : PySem.W.Frag} {mg : Str → Option Value} {base : Heap} {k : Nat} {c qual : Str} {st : Stmt} {N ps flds : List Str} {mf : M Fl} {pats : List (List Str × List Nat)}
theorem OkIK.ok {ks : List Bool} {r : List D → FR} (O : OkIK P w K mg base k c ps ks r pats) : OkI P w K mg base k c ps ks r := by
  obtain ⟨C, fi, fd, g, M, F, b, _⟩ := O
  exact ⟨C, fi, fd, g, M, F, b⟩
end
section
variable {X : Cx} {x : Str} {p pos : Pos}
end
section
variable {X : Cx} {x : Str} {p pos : Pos}
/-- the object that __init__ leaves, let stay -/
def mMkK (c : Str) (n : Nat) (f : List D → FR) (ix : List Nat) (mk : M (List Pl)) : M Rs := bnd mk fun qs => if qs.length = n then makeF c (lenN (n + 1) f) (pick ix qs) else stk
end
section
variable {β : B.Env} {E : Exn → B.Env → Prop}
@[simp ↓] theorem W_mCallK0 {ks : List Bool} {f : List D → FR} {m : Nat} {ix : List Nat} {dd : List D} {mk : M (List Pl)} {Q : Rs → B.Env → Prop} : W (mCallK0 ks f m ix dd mk) β Q E ↔ W mk β (fun qs β2 => qs.length = m ∧ W (callF ks f (kpd ix dd [] qs)) β2 Q E) E := by
  unfold mCallK0
  refine W_bnd.trans (W_congr fun qs β2 => ?_)
  by_cases h : qs.length = m
  · rw [if_pos h]; simp [h]
  · rw [if_neg h]; simp [h]
theorem W_makeF {c : Str} {n : Nat} {f : List D → FR} {ps : List Pl} {Q : Rs → B.Env → Prop} : W (makeF c (lenN (n + 1) f) ps) β Q E ↔ optW (allD ps) fun ds => ds.length = n ∧ FW (f (insD c [] :: ds)) (fun r ios => mkW r ios fun d => Q (.fz d) β) (fun x _ => E x β) := by
  have h := W_mMk (c := c) (n := n) (f := f) (ma := ret ps) (Q := Q) (β := β) (E := E)
  rw [W_ret] at h
  rw [← h]
  unfold mMk mMake
  rw [W_bnd, W_ret]
@[simp ↓] theorem W_mMkK {c : Str} {n : Nat} {f : List D → FR} {ix : List Nat} {mk : M (List Pl)} {Q : Rs → B.Env → Prop} : W (mMkK c n f ix mk) β Q E ↔ W mk β (fun qs β1 => qs.length = n ∧ optW (allD (pick ix qs)) fun ds => ds.length = n ∧ FW (f (insD c [] :: ds)) (fun r ios => mkW r ios fun d => Q (.fz d) β1) (fun x _ => E x β1)) E := by
  unfold mMkK
  refine W_bnd.trans (W_congr fun qs β2 => ?_)
  by_cases h : qs.length = n
  · rw [if_pos h, W_makeF]; simp [h]
  · rw [if_neg h]; simp [h]
end
/-! a class's own names are texts -/
def nsStr (es : Array DictEntry) : Bool := es.toList.all fun e => match e.key with | .str _ _ => true | _ => false
theorem nsOk_of {K : PySem.W.Frag} {N : Addr} {c : Value} {d : Option Addr} {es : Array DictEntry} {ep : Nat} {sl : Array (Option Value)} (h : K.lookup N = some ⟨c, d, .dict es ep, sl⟩) (q : nsStr es = true) : PySem.W.nsOkIn K N = true := by
  unfold PySem.W.nsOkIn
  rw [h]
  unfold nsStr at q
  simp only
  rw [← Array.all_toList]
  exact q
end B


set_option Elab.async false
set_option linter.all false
set_option maxRecDepth 100000
set_option maxHeartbeats 4000000
namespace B
open PySem PySem.Spec L2 PyProof.Rows PySem.W
/-! # for k, v in d.items(), the keys tuples of ints -/
section
variable {X : Cx} {pins : List (Addr × Obj)} {σ : L2.St} {H : Hp} {s : Shared} {a : Addr} {xs : List Ent} {ep : Nat}
/-- the pairs -/
def mItems (m : M Rs) : M (List D) := bnd m fun r => match r.d with
  | .nd .dcg es => liftO ((entsOf es).map fun l => l.map entD)
  | _ => stk
end
section
variable {β : B.Env} {E : Exn → B.Env → Prop}
@[simp ↓] theorem W_mItems {me : M Rs} {Q : List D → B.Env → Prop} : W (mItems me) β Q E ↔ W me β (fun r β1 => dicW r.d fun l => Q (l.map entD) β1) E := by
  unfold mItems
  refine W_bnd.trans (W_congr fun r β1 => ?_)
  unfold dicW
  cases r.d with
  | nd t es =>
    cases t with
    | dcg =>
      simp only
      cases entsOf es with
      | none => exact W_stk
      | some l => exact W_ret
    | _ => exact W_stk
  | _ => exact W_stk
end
end B


set_option Elab.async false
set_option linter.all false
set_option maxRecDepth 100000
set_option maxHeartbeats 4000000
namespace B
open PySem PySem.Spec L2 PyProof.Rows
/-! # comprehensions of two clauses, whatever they make -/
/-- a turn of the outer loop: go: the inner one's start -/
def turnO (P : Program) (w : World) (tg : Expr) (ifs : List Expr) (iter1 : Expr) (A : Around) (env : PySem.Env) (it : Value) (go : Value → Shared → Prop) (stop nxt : Shared → Prop) (E : Value → Shared → Prop) (s : Shared) : Prop :=
  wpAny (model P w) A (pyNext it) (fun r s1 => match r with
    | none => stop s1
    | some v => wpAny (model P w) A (letOwnedTupleGo tg it v) (fun _ s2 => wpAny (model P w) A (assign tg env v) (fun _ s3 =>
        wpAny (model P w) A (forIn ifs true fun c r => if r = true then do let ok ← isTrue c env (eval c env); pure (ForInStep.yield ok) else pure (ForInStep.yield r)) (fun ok s4 =>
          if ok = true then wpAny (model P w) A (eval iter1 env) (fun x s5 => wpAny (model P w) A (pyIter x) (fun i1 s6 => go i1 s6) E s5) E s4 else nxt s4) E s3) E s2) E s1) E s
structure CompK2 (P : Program) (w : World) (e : Expr) (tg iter : Expr) (ifs : List Expr) (tg1 iter1 : Expr) (ifs1 : List Expr) (newAcc : Sem Value) (ob : Obj) (en : EndP) : Prop where
  clauses : clausesOf e = [⟨tg, iter, ifs, 0⟩, ⟨tg1, iter1, ifs1, 0⟩]
  new : ∀ {A : Around} {E : Value → Shared → Prop} {s : Shared} {Q : Value → Shared → Prop}, Q (.ref s.heap.objs.size) { s with heap := s.heap.push ob } → wpAny (model P w) A newAcc Q E s
  out : ∀ {A : Around} {R : Result → Shared → Prop} {s : Shared} {it : Value} {D : Addr} {env : PySem.Env} (_ : ∀ x, foldedSetIterable iter1 env x = pure x) (I : Nat → Shared → Prop),
    (∀ n s, I n s → turnO P w tg ifs iter1 A env it (fun i1 s6 => codeAny (model P w) A (.compStart e 1 i1 (.ref D) env) (fun r s' => match r with
      | .ok _ => ∃ m, m < n ∧ I m s'
      | .error _ => False) s6) (fun s' => R (.ok .next) s') (fun s' => ∃ m, m < n ∧ I m s') (notedBy (model P w) A env fun x s' => R (.error x) s') s) → ∀ n, I n s → codeAny (model P w) A (.compLoop e 0 it (.ref D) env) R s
  inn : ∀ {A : Around} {R : Result → Shared → Prop} {s : Shared} {it : Value} {D : Addr} {env : PySem.Env} (I : Nat → Shared → Prop),
    (∀ n s, I n s → turnP P w tg1 ifs1 en A env it D (fun s' => R (.ok .next) s') (fun s' => ∃ m, m < n ∧ I m s') (notedBy (model P w) A env fun x s' => R (.error x) s') s) → ∀ n, I n s → codeAny (model P w) A (.compLoop e 1 it (.ref D) env) R s
  start : ∀ {A : Around} {R : Result → Shared → Prop} {s : Shared} {it : Value} {D : Addr} {env : PySem.Env} (c : Nat), c < 2 → codeAny (model P w) A (.compLoop e c it (.ref D) env) R s →
    wpAny (model P w) A (pyIter it) (fun it' s' => codeAny (model P w) A (.compLoop e c it' (.ref D) env) R s') (notedBy (model P w) A env fun x s' => R (.error x) s') s → codeAny (model P w) A (.compStart e c it (.ref D) env) R s
section
variable {X : Cx}
end
end B


set_option Elab.async false
set_option linter.all false
set_option maxRecDepth 100000
set_option maxHeartbeats 4000000
namespace B
open PySem PySem.Spec L2 PyProof.Rows
/-! # {k: v for .. in .. for .. in ..}, the keys tuples of ints -/
section
variable {P : Program} {w : World} {A : Around} {R : Result → Shared → Prop} {s : Shared} {kx vx a0 b0 a1 b1 : Expr} {f0 f1 : List Expr} {sc : Scope} {po : Pos} {iv : Value} {D : Addr} {ce : PySem.Env}
end
/-! ## by data -/
def onG {γ : Type} (r : R γ) (k : γ → B.Env → R γ) : R γ := match r with
  | .ok a β => k a β
  | _ => .stuck
def comp2G {γ : Type} (g : D → M Unit) (mt : M Bool) (mi1 : M (List D)) (g1 : D → M Unit) (mt1 : M Bool) (st : γ → M γ) (vs vs1 : List Nat) : List D → γ → M γ
  | [], acc => ret acc
  | d :: ds, acc => fun β => match g d β with
    | .ok _ β1 => (match mt β1 with
      | .ok true β2 => (match mi1 β2 with
        | .ok ds1 β3 => onG (compG g1 mt1 st vs1 ds1 acc (wipeB β3 vs1)) fun acc' β4 => comp2G g mt mi1 g1 mt1 st vs vs1 ds acc' (wipeB β4 vs)
        | _ => .stuck)
      | .ok false β2 => comp2G g mt mi1 g1 mt1 st vs vs1 ds acc (wipeB β2 vs)
      | _ => .stuck)
    | _ => .stuck
def comp2GV {γ : Type} (g : D → M Unit) (mt : M Bool) (mi1 : M (List D)) (g1 : D → M Unit) (mt1 : M Bool) (st : γ → M γ) (vs vs1 : List Nat) (a0 : γ) (ds : List D) : M γ := fun β1 => if noOwn β1 vs = true then (match comp2G g mt mi1 g1 mt1 st vs vs1 ds a0 (wipeB β1 vs) with
  | .ok acc β => .ok acc (backB β1 β vs)
  | _ => .stuck) else .stuck
def mComp2G {γ : Type} (vs vs1 : List Nat) (mi : M (List D)) (g : D → M Unit) (mt : M Bool) (mi1 : M (List D)) (g1 : D → M Unit) (mt1 : M Bool) (st : γ → M γ) (a0 : γ) : M γ := bnd mi (comp2GV g mt mi1 g1 mt1 st vs vs1 a0)
section
variable {X : Cx}
def mDictC2 (vs vs1 : List Nat) (mi : M (List D)) (g : D → M Unit) (mt : M Bool) (mi1 : M (List D)) (g1 : D → M Unit) (mt1 : M Bool) (mk mv : M Rs) : M Rs := bnd (mComp2G vs vs1 mi g mt mi1 g1 mt1 (stD mk mv) []) fun l => ret (.own (dcgD l))
end
end B


set_option Elab.async false
set_option linter.all false
set_option maxRecDepth 100000
set_option maxHeartbeats 4000000
namespace B
open PySem PySem.Spec L2 PyProof.Rows
/-! # range(i, j, -1); abs; {k: v} -/
def rngC (ps : List Pl) : M (List D) := fun β => match looks β ps with
  | some [.int i, .int j, .int c] => if inR i = true ∧ inR j = true ∧ c = -1 then .ok ((List.range (i - j).toNat).map fun k : Nat => D.int (i - (k : Int))) β else .stuck
  | _ => .stuck
section
variable {X : Cx}
def gAbs : List D → Option Rs
  | [.int i] => some (.fz (.int (if i < 0 then -i else i)))
  | _ => none
/-! ## {k: v}, k a tuple of ints -/
def mDict1 (mk mv : M Rs) : M Rs := bnd mk fun rk => bnd mv fun rv => match tupI? rk.d with
  | some k => ret (.own (dcgD [(k, rv.d)]))
  | none => stk
end
end B


set_option Elab.async false
set_option linter.all false
set_option maxRecDepth 100000
set_option maxHeartbeats 4000000
namespace B
open PySem PySem.Spec L2
/-! # what is wished for behind these -/
section
variable {α : Type} {β : B.Env} {E : Exn → B.Env → Prop}
@[simp ↓] theorem W_mDict1 {mk mv : M Rs} {Q : Rs → B.Env → Prop} : W (mDict1 mk mv) β Q E ↔ W mk β (fun rk β1 => W mv β1 (fun rv β2 => optW (tupI? rk.d) fun k => Q (.own (dcgD [(k, rv.d)])) β2) E) E := by
  unfold mDict1
  refine W_bnd.trans (W_congr fun rk β1 => W_bnd.trans (W_congr fun rv β2 => ?_))
  cases tupI? rk.d with
  | none => exact W_stk
  | some k => exact W_ret
@[simp ↓] theorem w_abs {i : Int} {P : Rs → Prop} : optW (gAbs [.int i]) P ↔ P (.fz (.int (if i < 0 then -i else i))) := Iff.rfl
@[simp ↓] theorem W_mDictC2 {vs vs1 : List Nat} {mi mi1 : M (List D)} {g g1 : D → M Unit} {mt mt1 : M Bool} {mk mv : M Rs} {Q : Rs → B.Env → Prop} : W (mDictC2 vs vs1 mi g mt mi1 g1 mt1 mk mv) β Q E ↔ W mi β (fun ds β1 => W (comp2GV g mt mi1 g1 mt1 (stD mk mv) vs vs1 [] ds) β1 (fun l β2 => Q (.own (dcgD l)) β2) E) E := by
  unfold mDictC2
  refine W_bnd.trans ?_
  unfold mComp2G
  refine W_bnd.trans (W_congr fun ds β1 => W_congr fun l β2 => ?_)
  exact W_ret
def r3W (l : List D) (P : Int → Int → Int → Prop) : Prop := match l with
  | [.int i, .int j, .int c] => P i j c
  | _ => False
@[simp ↓] theorem r3W_mk {i j c : Int} {P : Int → Int → Int → Prop} : r3W [.int i, .int j, .int c] P ↔ P i j c := Iff.rfl
@[simp ↓] theorem W_rngC {ps : List Pl} {Q : List D → B.Env → Prop} : W (rngC ps) β Q E ↔ optW (looks β ps) fun l => r3W l fun i j c => (inR i = true ∧ inR j = true ∧ c = -1) ∧ Q ((List.range (i - j).toNat).map fun k : Nat => D.int (i - (k : Int))) β := by
  unfold W rngC
  cases looks β ps with
  | none => with_unfolding_all exact Iff.rfl
  | some l =>
    rcases l with _ | ⟨d, _ | ⟨d2, _ | ⟨d3, _ | ⟨d4, l⟩⟩⟩⟩
    · with_unfolding_all exact Iff.rfl
    · cases d <;> with_unfolding_all exact Iff.rfl
    · cases d <;> cases d2 <;> with_unfolding_all exact Iff.rfl
    · cases d with
      | int i =>
        cases d2 with
        | int j =>
          cases d3 with
          | int c =>
            simp only [optW_some, r3W_mk]
            by_cases h : inR i = true ∧ inR j = true ∧ c = -1
            · rw [if_pos h]; simp [h]
            · rw [if_neg h]
              exact ⟨fun q => q.elim, fun q => h q.1⟩
          | _ => with_unfolding_all exact Iff.rfl
        | _ => cases d3 <;> with_unfolding_all exact Iff.rfl
      | _ => cases d2 <;> cases d3 <;> with_unfolding_all exact Iff.rfl
    · cases d <;> cases d2 <;> cases d3 <;> with_unfolding_all exact Iff.rfl
end
/-! ## e or f, as values -/
def orT (n : M Rs) (r : Rs) : M Rs := fun β => match truD r.d with
  | some true => .ok r β
  | some false => n β
  | none => .stuck
def mOrT (m n : M Rs) : M Rs := bnd m (orT n)
section
variable {X : Cx}
end
section
variable {β : B.Env} {E : Exn → B.Env → Prop}
def orW (o : Option Bool) (P : Bool → Prop) : Prop := match o with
  | some b => P b
  | none => False
@[simp ↓] theorem W_mOrT {m n : M Rs} {Q : Rs → B.Env → Prop} : W (mOrT m n) β Q E ↔ W m β (fun r β1 => orW (truD r.d) fun k => if k = true then Q r β1 else W n β1 Q E) E := by
  unfold mOrT
  refine W_bnd.trans (W_congr fun r β1 => ?_)
  unfold W orT orW
  cases truD r.d with
  | none => with_unfolding_all exact Iff.rfl
  | some k => cases k <;> with_unfolding_all simp
end
end B


set_option Elab.async false
set_option linter.all false
set_option maxRecDepth 100000
set_option maxHeartbeats 4000000
namespace B
open PySem PySem.Spec L2 PyProof.Rows
/-! # a new object, with a list of its own, that nobody else holds: read, changed, forgotten -/
def hideS : Sl → Sl
  | .own _ _ => .un
  | s => s
def hideB (β : B.Env) : B.Env := β.map hideS
open Classical in
/-- what slots hold as their own, and what was handed in -/
noncomputable def ownH (β : B.Env) (σ : L2.St) (io : List Addr) (G : GT) (H : Hp) : Hp := fun b =>
  if (∃ (j : Nat) (s : Sl), β[j]? = some s ∧ isOwn s = true ∧ σ[j]? = some (some (V.ref b))) ∨ (b ∈ io ∧ G.t b = none) then H b else none
section
variable {K : PySem.W.Frag} {mg : Str → Option Value} {G : GT} {F F' F1 H H1 P : Hp} {io : List Addr} {β β1 : B.Env} {σ : L2.St} {a : Addr} {d : D} {i : Nat}
theorem ownH_some {b : Addr} {o : HO} (h : ownH β σ io G H b = some o) : H b = some o := by
  unfold ownH at h
  split at h
  · exact h
  · cases h
theorem ownH_own {b : Addr} {j : Nat} {s : Sl} (h1 : β[j]? = some s) (h2 : isOwn s = true) (h3 : σ[j]? = some (some (V.ref b))) : ownH β σ io G H b = H b := by
  unfold ownH
  rw [if_pos (.inl ⟨j, s, h1, h2, h3⟩)]
theorem ownH_io {b : Addr} (h1 : b ∈ io) (h2 : G.t b = none) : ownH β σ io G H b = H b := by
  unfold ownH
  rw [if_pos (.inr ⟨h1, h2⟩)]
theorem BI.hide (I : BI K mg (G.many P) F io β σ H) (of : Off G F io P) (ei : β[i]? = some .un) (es : σ[i]? = some (some (.ref a))) (dr : DR K mg (orH P F) (.ref a) d) : BI K mg (G.many (ownH β σ io G H)) (orH P F) [] ((hideB β).set i (.fz d)) σ H := by
  have sf : Same F (orH P F) := fun b u h => by
    cases e : P b with
    | some q => rw [(of b q e).1] at h; cases h
    | none => rw [orH_none e]; exact h
  have lb : i < (hideB β).length := by
    unfold hideB
    rw [List.length_map]
    exact (List.getElem?_eq_some_iff.mp ei).1
  have get : ∀ (j : Nat) (s : Sl), ((hideB β).set i (.fz d))[j]? = some s → (j = i ∧ s = .fz d) ∨ (j ≠ i ∧ ∃ s0, β[j]? = some s0 ∧ s = hideS s0) := fun j s e => by
    by_cases hj : i = j
    · subst hj
      rw [List.getElem?_set_self lb] at e
      cases e
      exact .inl ⟨rfl, rfl⟩
    · rw [List.getElem?_set_ne hj] at e
      unfold hideB at e
      rw [List.getElem?_map] at e
      obtain ⟨s0, h1, h2⟩ := Option.map_eq_some_iff.mp e
      exact .inr ⟨fun z => hj z.symm, s0, h1, h2.symm⟩
  have noown : ∀ (j : Nat) (s : Sl), ((hideB β).set i (.fz d))[j]? = some s → isOwn s = false := fun j s e => by
    rcases get j s e with ⟨_, rfl⟩ | ⟨_, s0, _, rfl⟩
    · rfl
    · cases s0 <;> rfl
  refine ⟨⟨fun b o h => ?_, fun b q h => ?_, fun b o h => ?_⟩, fun b o h => ?_, fun b hb => (nomatch hb), fun b hb => (nomatch hb), ?_, fun j s e => ?_, fun j k s t b e1 e2 h1 h2 => ?_⟩
  · have h : orH (ownH β σ io G H) G.g b = some o := h
    cases e : ownH β σ io G H b with
    | some q =>
      rw [orH_some e] at h
      cases h
      exact ownH_some e
    | none =>
      rw [orH_none e] at h
      refine I.sg.g b o ?_
      show orH P G.g b = some o
      cases e2 : P b with
      | some q =>
        have := GT.gn (of b q e2).2.1
        rw [this] at h
        cases h
      | none => rw [orH_none e2]; exact h
  · obtain ⟨h1, h2⟩ := I.sg.t b q h
    refine ⟨?_, h2⟩
    cases e : P b with
    | some o =>
      have := GT.tn (of b o e).2.1
      have h : G.t b = some q := h
      rw [this] at h
      cases h
    | none => rw [orH_none e]; exact h1
  · have h : orH (ownH β σ io G H) G.g b = some o := h
    show G.t b = none
    cases e : ownH β σ io G H b with
    | some q =>
      unfold ownH at e
      split at e
      · rename_i hc
        rcases hc with ⟨j, s, e1, e2, e3⟩ | ⟨_, hc⟩
        · obtain ⟨w, ew, hs⟩ := I.sl j s e1
          cases s with
          | own b' d' =>
            obtain ⟨x, q1, _, g, _⟩ := hs
            rw [e3] at ew
            cases ew
            cases q1
            exact GT.tn (G := G.many P) g
          | ex z0 => cases e2
          | gh _ => cases e2
          | un => cases e2
          | fz _ => cases e2
        · exact hc
      · cases e
    | none =>
      rw [orH_none e] at h
      refine I.sg.dj b o ?_
      show orH P G.g b = some o
      cases e2 : P b with
      | some q =>
        have := GT.gn (of b q e2).2.1
        rw [this] at h
        cases h
      | none => rw [orH_none e2]; exact h
  · cases e : P b with
    | some q =>
      rw [orH_some e] at h
      cases h
      exact I.sg.g b _ (orH_some e)
    | none => rw [orH_none e] at h; exact I.sf b o h
  · rw [List.length_set]
    unfold hideB
    rw [List.length_map]
    exact I.len
  · rcases get j s e with ⟨rfl, rfl⟩ | ⟨_, s0, e0, rfl⟩
    · exact ⟨_, es, _, rfl, dr⟩
    · obtain ⟨w, ew, hs⟩ := I.sl j s0 e0
      refine ⟨w, ew, ?_⟩
      cases s0 with
      | own b' d' => trivial
      | ex z0 => exact ⟨hs.1, hs.2.mono sf⟩
      | gh _ => exact hs
      | un => trivial
      | fz d =>
        obtain ⟨v, q, r⟩ := hs
        exact ⟨v, q, r.mono sf⟩
  · rw [noown j s e1] at h1
    cases h1
theorem BI.back2 (I : BI K mg (G.many P) F io β σ H) (of : Off G F io P) {io2 : List Addr} (J : BI K mg (G.many (ownH β σ io G H)) F1 io2 β1 σ H1) (sm : Same (orH P F) F1) : BI K mg (G.many P) F io β σ H1 := by
  have sf : Same F (orH P F) := fun b u h => by
    cases e : P b with
    | some q => rw [(of b q e).1] at h; cases h
    | none => rw [orH_none e]; exact h
  have own1 : ∀ b o, ownH β σ io G H b = some o → H1 b = some o := fun b o h => J.sg.g b o (orH_some h)
  refine ⟨⟨fun b o h => ?_, fun b q h => ⟨(I.sg.t b q h).1, (J.sg.t b q h).2⟩, I.sg.dj⟩, sf.trans (sm.trans J.sf), I.ioF, fun b hb => ?_, I.len, fun j s e => ?_, I.apart⟩
  · have h : orH P G.g b = some o := h
    cases e : P b with
    | some q =>
      rw [orH_some e] at h
      cases h
      exact J.sf b _ (sm b _ (orH_some e))
    | none =>
      rw [orH_none e] at h
      cases e2 : ownH β σ io G H b with
      | some q =>
        have h3 : H b = some o := I.sg.g b o (by show orH P G.g b = some o; rw [orH_none e]; exact h)
        have := own1 b q e2
        rw [ownH_some e2] at h3
        cases h3
        exact this
      | none =>
        refine J.sg.g b o ?_
        show orH (ownH β σ io G H) G.g b = some o
        rw [orH_none e2]
        exact h
  · obtain ⟨o, ho⟩ := I.ioH b hb
    cases e : G.t b with
    | none => exact ⟨o, own1 b o (by rw [ownH_io hb e]; exact ho)⟩
    | some q =>
      obtain ⟨ps, h, _⟩ := (J.sg.t b q e).2
      exact ⟨_, h⟩
  · obtain ⟨w, ew, hs⟩ := I.sl j s e
    refine ⟨w, ew, ?_⟩
    cases s with
    | own b' d' =>
      obtain ⟨x, q1, f, g, k1, k2, o⟩ := hs
      subst q1
      obtain ⟨u, hu, _⟩ := o.there
      refine ⟨x, rfl, f, g, k1, k2, o.mono (Same.refl _) ?_⟩
      rw [hu]
      exact own1 x u (by rw [ownH_own e rfl ew]; exact hu)
    | ex z0 => exact hs
    | gh _ => exact hs
    | un => trivial
    | fz d => exact hs
/-- the instance at a whose field fn is a list that nobody else holds -/
structure Pv (K : PySem.W.Frag) (mg : Str → Option Value) (F P : Hp) (a : Addr) (fn c : Str) (d : D) : Prop where
  dr : DR K mg (orH P F) (.ref a) d
  ex : ∃ C dx fs b vs, orH P F a = some (.ins C dx fs) ∧ mg c = some (.ref C) ∧ fs.lookup fn = some (V.ref b) ∧ P b = some (.lst vs) ∧ b ≠ a
theorem orH_mono (e : Same F F') : Same (orH P F) (orH P F') := fun b o q => by
  cases z : P b with
  | some u => rw [orH_some z] at q ⊢; exact q
  | none => rw [orH_none z] at q ⊢; exact e b o q
theorem Pv.mono {fn c : Str} (h : Pv K mg F P a fn c d) (e : Same F F') : Pv K mg F' P a fn c d := by
  obtain ⟨C, dx, fs, b, vs, h1, h2⟩ := h.ex
  exact ⟨h.dr.mono (orH_mono e), C, dx, fs, b, vs, orH_mono e _ _ h1, h2⟩
end
end B


set_option Elab.async false
set_option linter.all false
set_option maxRecDepth 100000
set_option maxHeartbeats 4000000
namespace B
open PySem PySem.Spec L2 PyProof.Rows
/-! # a call of what needs no heap: its instance is nobody else's -/
def atom : D → Bool
  | .non => true
  | .bl _ => true
  | .int _ => true
  | .str _ => true
  | _ => false
def atoms : List Pl → Option (List D)
  | [] => some []
  | .d d :: ps => if atom d = true then (atoms ps).map (d :: ·) else none
  | .sl _ :: _ => none
def hasL (fn c : Str) : D → Bool
  | .nd (.ins c' ns) ds => c' == c && match (ns.zip ds).lookup fn with
    | some (.nd .lst _) => true
    | _ => false
  | _ => false
def newF (fn c : Str) (ks : List Bool) (f : List D → FR) (ps : List Pl) : M D := fun β => match atoms ps with
  | none => .stuck
  | some ds => if ks = ps.map (fun _ => false) then match f ds with
    | .ok r [] => if hasL fn c r.d = true then .ok r.d β else .stuck
    | _ => .stuck
    else .stuck
abbrev relN (K : PySem.W.Frag) (mg : Str → Option Value) (fn c : Str) : GT → Hp → List Addr → Hp → B.Env → L2.St → V → D → Prop := fun G F io H β σ v d => ∃ (a : Addr) (P : Hp), v = .ref a ∧ Off G F io P ∧ Pv K mg F P a fn c d ∧ Same P H ∧ ∀ (i : Nat) (s : Sl) (b : Addr), β[i]? = some s → isOwn s = true → σ[i]? = some (some (V.ref b)) → P b = none
section
variable {K : PySem.W.Frag} {mg : Str → Option Value} {G : GT} {F F' F1 H H1 P : Hp} {io : List Addr} {β β1 : B.Env} {σ : L2.St} {a : Addr} {d : D} {i : Nat}
theorem hasL_ins {fn c : Str} (h : hasL fn c d = true) : ∃ ns ds xs, d = .nd (.ins c ns) ds ∧ (ns.zip ds).lookup fn = some (.nd .lst xs) := by
  unfold hasL at h
  split at h
  · rename_i c' ns ds
    rw [Bool.and_eq_true] at h
    obtain ⟨h1, h2⟩ := h
    have := eq_of_beq h1
    subst this
    split at h2
    · rename_i xs e
      exact ⟨_, _, _, rfl, e⟩
    · cases h2
  · cases h
end
def BN (X : Cx) (fn c : Str) (e : Expr) (m : M D) : Prop := ∀ W, Takes X W → PE X e (gOf X.K X.mg W (relN X.K X.mg fn c) m)
def mNewF (fn c : Str) (ks : List Bool) (f : List D → FR) (ma : M (List Pl)) : M D := bnd ma (newF fn c ks f)
/-- how a block stands, the instance in slot i being nobody else's -/
def nOf (K : PySem.W.Frag) (mg : Str → Option Value) (W : WX) (i : Nat) (fn c : Str) (m : D → M Fl) : TS := fun D σ H => ∃ G io F β P a d, BI K mg (G.many P) F io β σ H ∧ Off G F io P ∧ Pv K mg F P a fn c d ∧ β[i]? = some .un ∧ σ[i]? = some (some (.ref a)) ∧ SPost K mg W G F io (m d β) D
def BNs (X : Cx) (i : Nat) (fn c : Str) (st : List Stmt) (m : D → M Fl) : Prop := ∀ W, Takes X W → PSs X st (nOf X.K X.mg W i fn c m)
def mNew (i : Nat) (mn : M D) (k : D → M Fl) : M Fl := bnd mn fun d β => if i < β.length then k d (β.set i .un) else .stuck
def mNIf (i : Nat) (mt : M Bool) (mb : M Fl) (k : D → M Fl) : D → M Fl := fun d β => match mt ((hideB β).set i (.fz d)) with
  | .ok true _ => (match mb β with
    | .ok .nx _ => .stuck
    | r => r)
  | .ok false _ => k d β
  | _ => .stuck
section
variable {X : Cx} {k j i : Nat} {x fn c : Str} {prm : List Str} {ks : List Bool} {f : List D → FR} {p p1 pos apos cpos : Pos} {e : Expr} {es : List Expr} {ma : M (List Pl)} {mn : M D} {kk : D → M Fl} {rest body : List Stmt} {m n : M Fl} {mt : M Bool}
theorem bss_new {pos' : Pos} (hN : X.N.Nodup) (hi : X.N[i]? = some x) (hx : Loc X.env.scope x) (h : BN X fn c e mn) (hr : BNs X i fn c rest kk) (hs : swapsWith e (some (.Name x pos')) pos.line X.env = pure false := by rfl)
    (hf : X.fn x = true ∨ X.env.scope.names.lookup x = some .local := by first | exact .inl rfl | exact .inr rfl | assumption) : BSs X (.Assign [.Name x pos'] e pos :: rest) (mNew i mn kk) := by
  refine fun W tk => (pss_cons (ps_set hN hi hx (h W tk) hs hf) (hr W tk)).imp fun D σ H ⟨G, io, F, β, I, hq⟩ => ⟨G, io, F, β, I, hq.of fun d β1 v H1 F1 fe1 I1 ⟨a, P, ev, of, pv, sp, ap⟩ h1 => ?_⟩
  by_cases hl : i < β1.length
  · rw [if_pos hl] at h1
    refine ⟨G, io, F1, β1.set i .un, P, a, d, (I1.many of sp ap).setUn i (some v), of, pv, List.getElem?_set_self hl, ?_, h1⟩
    rw [ev]
    exact List.getElem?_set_self (by rw [← I1.len]; exact hl)
  · rw [if_neg hl] at h1
    exact h1.elim
theorem bns_if (hc : BT X e mt) (hp : BSs X body m) (hr : BNs X i fn c rest kk) : BNs X i fn c (.If e body [] pos :: rest) (mNIf i mt m kk) := by
  refine fun W tk => (pss_cons (ps_if (hc W tk) (hp W tk) pss_nil) (hr W tk)).imp fun D σ H ⟨G, io, F, β, P, a, d, I, of, pv, eb, es, h⟩ => ⟨G.many (ownH β σ io G H), [], orH P F, (hideB β).set i (.fz d), I.hide of eb es pv.dr, ?_⟩
  unfold mNIf at h
  cases e1 : mt ((hideB β).set i (.fz d)) with
  | stuck => rw [e1] at h; exact h.elim
  | exc x β1 => rw [e1] at h; exact h.elim
  | ok b β1 =>
    rw [e1] at h
    intro v H1 F1 fe1 J r1
    cases (show v = b from r1)
    have I2 := I.back2 of J fe1.same
    cases b with
    | true =>
      simp only at h
      refine ⟨G, io, F, β, I2.unmany of, ?_⟩
      cases e2 : m β with
      | stuck => rw [e2] at h; exact h.elim
      | exc x β2 => rw [e2] at h; exact h
      | ok fl β2 =>
        rw [e2] at h
        cases fl with
        | nx => exact h.elim
        | brk => exact h
        | ct => exact h
        | ret r => exact h
    | false => exact ⟨G, io, F, β, P, a, d, I2, of, pv, eb, es, h⟩
end
/-! ## what is wished for -/
section
variable {β : B.Env} {E : Exn → B.Env → Prop} {i : Nat} {fn c : Str} {ks : List Bool} {f : List D → FR} {ma : M (List Pl)} {mn : M D} {kk : D → M Fl} {m : M Fl} {mt : M Bool}
@[simp ↓] theorem W_mNewF {Q : D → B.Env → Prop} : W (mNewF fn c ks f ma) β Q E ↔ W ma β (fun ps β1 => W (newF fn c ks f ps) β1 Q E) E := W_bnd
@[simp ↓] theorem W_mNew {Q : Fl → B.Env → Prop} : W (mNew i mn kk) β Q E ↔ W mn β (fun d β1 => i < β1.length ∧ W (kk d) (β1.set i .un) Q E) E := by
  unfold mNew
  refine W_bnd.trans (W_congr fun d β1 => ?_)
  by_cases hl : i < β1.length
  · simp only [hl, true_and]
    unfold W
    simp only [if_pos hl]
  · simp only [hl, false_and, iff_false]
    unfold W
    simp only [if_neg hl]
    exact id
theorem W_mNIf {Q : Fl → B.Env → Prop} {d : D} (h : W mt ((hideB β).set i (.fz d)) (fun b _ => if b = true then W m β (fun f β1 => f ≠ .nx ∧ Q f β1) E else W (kk d) β Q E) noE) : W (mNIf i mt m kk d) β Q E := by
  unfold W at h
  unfold W mNIf
  cases e1 : mt ((hideB β).set i (.fz d)) with
  | stuck => rw [e1] at h; exact h.elim
  | exc x β1 => rw [e1] at h; exact h.elim
  | ok b β1 =>
    rw [e1] at h
    cases b with
    | false => exact h
    | true =>
      simp only [if_true] at h ⊢
      cases e2 : m β with
      | stuck => rw [e2] at h; exact h.elim
      | exc x β2 => rw [e2] at h; exact h
      | ok fl β2 =>
        rw [e2] at h
        obtain ⟨h1, h2⟩ := h
        cases fl with
        | nx => exact absurd rfl h1
        | brk => exact h2
        | ct => exact h2
        | ret r => exact h2
end
end B


set_option Elab.async false
set_option linter.all false
set_option maxRecDepth 100000
set_option maxHeartbeats 4000000
namespace B
open PySem PySem.Spec L2
/-! # a, b, c = e1, e2, e3: plain local names -/
def mPar3 (i j l : Nat) (ma : M (List Pl)) : M Fl := bnd ma fun ps => fun β => match allD ps with
  | some [d, e, f] => .ok .nx (((β.set i (.fz d)).set j (.fz e)).set l (.fz f))
  | _ => .stuck
section
variable {X : Cx} {i j l : Nat} {x y z : Str} {a b c : Expr} {px py pz pt pos pt2 : Pos} {kt k2 : Nat} {ma : M (List Pl)}
end
def par3W (l : List D) (P : D → D → D → Prop) : Prop := match l with
  | [a, b, c] => P a b c
  | _ => False
@[simp ↓] theorem par3W_3 {a b c : D} {P : D → D → D → Prop} : par3W [a, b, c] P ↔ P a b c := Iff.rfl
@[simp ↓] theorem W_mPar3 {i j l : Nat} {ma : M (List Pl)} {β : B.Env} {Q : Fl → B.Env → Prop} {E : Exn → B.Env → Prop} : W (mPar3 i j l ma) β Q E ↔ W ma β (fun ps β1 => optW (allD ps) fun ds => par3W ds fun d e f => Q .nx (((β1.set i (.fz d)).set j (.fz e)).set l (.fz f))) E := by
  unfold mPar3
  refine W_bnd.trans (W_congr fun ps β1 => ?_)
  unfold W optW par3W
  cases allD ps with
  | none => exact Iff.rfl
  | some ds =>
    match ds with
    | [] => exact Iff.rfl
    | [_] => exact Iff.rfl
    | [_, _] => exact Iff.rfl
    | [_, _, _] => exact Iff.rfl
    | _ :: _ :: _ :: _ :: _ => exact Iff.rfl
end B


set_option Elab.async false
set_option linter.all false
set_option maxRecDepth 100000
set_option maxHeartbeats 4000000
namespace B
open PySem PySem.Spec L2 PyProof.Rows
/-! # an expression is run while lists are locked: what it makes is none of them -/
open Classical in
/-- what stood there is put back -/
noncomputable def unlk (S : List Addr) (H H' : Hp) : Hp := fun b => if b ∈ S then H b else H' b
def Lkd (S : List Addr) (H Hs : Hp) : Prop := (∀ b, b ∉ S → Hs b = H b) ∧ ∀ a ∈ S, ∃ od vs, H a = some (.lst vs) ∧ Hs a = some (.frz od (.lst vs))
noncomputable def tLk (t : TE) : TE := fun σ H Q => ∃ S : List Addr, S.Nodup ∧ (∀ a ∈ S, ∃ vs, H a = some (.lst vs)) ∧ ∀ Hs, Lkd S H Hs → t σ Hs (fun v H' => (∀ a ∈ S, H' a = Hs a) ∧ Q v (unlk S H H'))
theorem pe_lk {X : Cx} {e : Expr} {t : TE} (h : PE X e t) : PE X e (tLk t) := by
  have key : ∀ (S : List Addr), PE X e (fun σ H Q => S.Nodup ∧ (∀ a ∈ S, ∃ vs, H a = some (.lst vs)) ∧ ∀ Hs, Lkd S H Hs → t σ Hs (fun v H' => (∀ a ∈ S, H' a = Hs a) ∧ Q v (unlk S H H'))) := by
    intro S
    induction S with
    | nil =>
      refine h.imp fun σ H Q ⟨_, _, k⟩ => ?_
      have e1 : ∀ H', unlk [] H H' = H' := fun H' => by
        funext b
        unfold unlk
        rw [if_neg (by simp)]
      have := k H ⟨fun _ _ => rfl, fun a ha => (nomatch ha)⟩
      refine cast (congrArg (t σ H) ?_) this
      funext v H'
      rw [e1]
      simp
    | cons d S ih =>
      refine (pe_lock ih).imp fun σ H Q ⟨nd, hl, k⟩ => ?_
      obtain ⟨nd1, nd2⟩ := List.nodup_cons.mp nd
      obtain ⟨vs, hd⟩ := hl d List.mem_cons_self
      refine ⟨d, .lst vs, hd, trivial, fun od => ⟨nd2, fun a ha => ?_, fun Hs hs => ?_⟩⟩
      · obtain ⟨ws, hw⟩ := hl a (List.mem_cons_of_mem _ ha)
        refine ⟨ws, ?_⟩
        rw [upd_ne (fun z => by subst z; exact nd1 ha)]
        exact hw
      · have hsd : Hs d = some (.frz od (.lst vs)) := by rw [hs.1 d nd1, upd_same]
        have hk : Lkd (d :: S) H Hs := ⟨fun b hb => by
          have h1 : b ≠ d := fun z => hb (z ▸ List.mem_cons_self)
          rw [hs.1 b fun z => hb (List.mem_cons_of_mem _ z), upd_ne h1], fun a ha => by
          rcases List.mem_cons.mp ha with rfl | ha
          · exact ⟨od, vs, hd, hsd⟩
          · obtain ⟨od', ws, h1, h2⟩ := hs.2 a ha
            have nad : a ≠ d := fun z => nd1 (by rw [← z]; exact ha)
            rw [upd_ne nad] at h1
            exact ⟨od', ws, h1, h2⟩⟩
        refine cast (congrArg (t σ Hs) ?_) (k Hs hk)
        funext v H'
        have e1 : upd (unlk S (upd H d (.frz od (.lst vs))) H') d (.lst vs) = unlk (d :: S) H H' := by
          funext b
          by_cases hb : b = d
          · subst hb
            rw [upd_same]
            unfold unlk
            rw [if_pos List.mem_cons_self, hd]
          · rw [upd_ne hb]
            unfold unlk
            by_cases hS : b ∈ S
            · rw [if_pos hS, if_pos (List.mem_cons_of_mem _ hS), upd_ne hb]
            · rw [if_neg hS, if_neg fun z => (List.mem_cons.mp z).elim hb hS]
        have e2 : unlk S (upd H d (.frz od (.lst vs))) H' d = H' d := by
          unfold unlk
          rw [if_neg nd1]
        apply propext
        constructor
        · rintro ⟨h1, h2⟩
          refine ⟨fun a ha => h1 a (List.mem_cons_of_mem _ ha), ?_, ?_⟩
          · rw [e2, h1 d List.mem_cons_self, hsd]
          · rw [e1]
            exact h2
        · rintro ⟨h1, h2, h3⟩
          rw [e2] at h2
          rw [e1] at h3
          refine ⟨fun a ha => ?_, h3⟩
          rcases List.mem_cons.mp ha with rfl | ha
          · rw [h2, hsd]
          · exact h1 a ha
  refine ⟨fun pins s σ H Q I ⟨S, q⟩ => (key S).run pins s σ H Q I q⟩
/-! ## what is seen, its lists locked -/
mutual
def visD : D → Bool
  | .non => true
  | .bl _ => true
  | .int _ => true
  | .str _ => true
  | .nd .tup ds => visDs ds
  | .nd .lst ds => visDs ds
  | .nd (.ins _ _) ds => visDs ds
  | .nd _ _ => false
def visDs : List D → Bool
  | [] => true
  | d :: ds => visD d && visDs ds
end
mutual
def rl : D → D
  | .nd .lst ds => .nd .scr (rls ds)
  | .nd .tup ds => .nd .tup (rls ds)
  | .nd (.ins c ns) ds => .nd (.ins c ns) (rls ds)
  | d => d
def rls : List D → List D
  | [] => []
  | d :: ds => rl d :: rls ds
end
/-- all but the lists of F is in Fs; the lists at S are locked in Fs -/
structure Vw (F H Fs : Hp) (S : List Addr) : Prop where
  all : ∀ b o, F b = some o → (∀ vs, o ≠ .lst vs) → Fs b = some o
  lk : ∀ a ∈ S, ∃ od vs, H a = some (.lst vs) ∧ Fs a = some (.frz od (.lst vs))
section
variable {K : PySem.W.Frag} {mg : Str → Option Value} {G : GT} {F F' F1 H H1 P Fs Hs : Hp} {io : List Addr} {β β1 : B.Env} {σ : L2.St} {a : Addr} {d : D} {i : Nat}
def Lists (H : Hp) (S : List Addr) : Prop := ∀ a ∈ S, ∃ vs, H a = some (.lst vs)
theorem Vw.sub {S T : List Addr} (h : Vw F H Fs T) (sub : ∀ a ∈ S, a ∈ T) : Vw F H Fs S := ⟨h.all, fun a ha => h.lk a (sub a ha)⟩
mutual
theorem dr_vis (sf : Same F H) : ∀ {v : V} {d : D}, DR K mg F v d → visD d = true → ∃ S, Lists H S ∧ ∀ Fs, Vw F H Fs S → DR K mg Fs v (rl d)
  | _, _, .non, _ => ⟨[], fun _ h => (nomatch h), fun _ _ => by simp only [rl]; exact .non⟩
  | _, _, .bl b, _ => ⟨[], fun _ h => (nomatch h), fun _ _ => by simp only [rl]; exact .bl b⟩
  | _, _, .int i, _ => ⟨[], fun _ h => (nomatch h), fun _ _ => by simp only [rl]; exact .int i⟩
  | _, _, .str x, _ => ⟨[], fun _ h => (nomatch h), fun _ _ => by simp only [rl]; exact .str x⟩
  | _, _, .tup h r, e => by
    rw [visD] at e
    obtain ⟨S, h1, h2⟩ := drs_vis sf r e
    exact ⟨S, h1, fun Fs w => by rw [rl]; exact .tup (w.all _ _ h fun _ z => by cases z) (h2 Fs w)⟩
  | _, _, .lst (a := a) h r, e => by
    rw [visD] at e
    obtain ⟨S, h1, h2⟩ := drs_vis sf r e
    refine ⟨a :: S, fun b hb => ?_, fun Fs w => ?_⟩
    · rcases List.mem_cons.mp hb with rfl | hb
      · exact ⟨_, sf _ _ h⟩
      · exact h1 b hb
    · rw [rl]
      obtain ⟨od, ws, k1, k2⟩ := w.lk a List.mem_cons_self
      have := sf _ _ h
      rw [k1] at this
      cases this
      exact .scr (.inl (.inr ⟨od, k2⟩)) (h2 Fs (w.sub fun b hb => List.mem_cons_of_mem _ hb))
  | _, _, .ins h g r, e => by
    rw [visD] at e
    obtain ⟨S, h1, h2⟩ := drs_vis sf r e
    exact ⟨S, h1, fun Fs w => by rw [rl]; exact .ins (w.all _ _ h fun _ z => by cases z) g (h2 Fs w)⟩
  | _, _, .wtp _ _, e => by simp [visD] at e
  | _, _, .xc _ _ _, e => by simp [visD] at e
  | _, _, .scr _ _, e => by simp [visD] at e
  | _, _, .dK _ _ _, e => by simp [visD] at e
  | _, _, .dT _ _ _, e => by simp [visD] at e
  | _, _, .dg _ _ _ _, e => by simp [visD] at e
theorem drs_vis (sf : Same F H) : ∀ {vs : List V} {ds : List D}, DRs K mg F vs ds → visDs ds = true → ∃ S, Lists H S ∧ ∀ Fs, Vw F H Fs S → DRs K mg Fs vs (rls ds)
  | _, _, .nil, _ => ⟨[], fun _ h => (nomatch h), fun _ _ => by rw [rls]; exact .nil⟩
  | _, _, .cons r rs, e => by
    rw [visDs, Bool.and_eq_true] at e
    obtain ⟨S, h1, h2⟩ := dr_vis sf r e.1
    obtain ⟨T, k1, k2⟩ := drs_vis sf rs e.2
    refine ⟨S ++ T, fun b hb => (List.mem_append.mp hb).elim (h1 b) (k1 b), fun Fs w => ?_⟩
    rw [rls]
    exact .cons (h2 Fs (w.sub fun b hb => List.mem_append_left _ hb)) (k2 Fs (w.sub fun b hb => List.mem_append_right _ hb))
end
mutual
/-- data without locked things stays, where all other things stay -/
theorem dr_unl (w : ∀ b o, F b = some o → (∀ od u, o ≠ .frz od u) → F' b = some o) : ∀ {v : V} {d : D}, DR K mg F v d → visD d = true → DR K mg F' v d
  | _, _, .non, _ => .non
  | _, _, .bl b, _ => .bl b
  | _, _, .int i, _ => .int i
  | _, _, .str x, _ => .str x
  | _, _, .tup h r, e => by
    rw [visD] at e
    exact .tup (w _ _ h fun _ _ z => by cases z) (drs_unl w r e)
  | _, _, .lst h r, e => by
    rw [visD] at e
    exact .lst (w _ _ h fun _ _ z => by cases z) (drs_unl w r e)
  | _, _, .ins h g r, e => by
    rw [visD] at e
    exact .ins (w _ _ h fun _ _ z => by cases z) g (drs_unl w r e)
  | _, _, .wtp _ _, e => by simp [visD] at e
  | _, _, .xc _ _ _, e => by simp [visD] at e
  | _, _, .scr _ _, e => by simp [visD] at e
  | _, _, .dK _ _ _, e => by simp [visD] at e
  | _, _, .dT _ _ _, e => by simp [visD] at e
  | _, _, .dg _ _ _ _, e => by simp [visD] at e
theorem drs_unl (w : ∀ b o, F b = some o → (∀ od u, o ≠ .frz od u) → F' b = some o) : ∀ {vs : List V} {ds : List D}, DRs K mg F vs ds → visDs ds = true → DRs K mg F' vs ds
  | _, _, .nil, _ => .nil
  | _, _, .cons r rs, e => by
    rw [visDs, Bool.and_eq_true] at e
    exact .cons (dr_unl w r e.1) (drs_unl w rs e.2)
end
end

def visS : Sl → Sl
  | .fz d => .fz (rl d)
  | .own _ d => .fz (rl d)
  | _ => .un
def okS : Sl → Bool
  | .fz d => visD d
  | .own none (.nd .lst ds) => visDs ds
  | _ => false
def visB (vis : List Nat) (β : B.Env) : B.Env := β.mapIdx fun k s => if k ∈ vis then visS s else .un
def okB (vis : List Nat) (β : B.Env) : Bool := vis.all fun k => match β[k]? with
  | some s => okS s
  | none => false
open Classical in
noncomputable def gKeep (H Fs : Hp) (t : Addr → Option Str) : GT := ⟨fun b => if Fs b = none ∧ t b = none then H b else none, t⟩
open Classical in
noncomputable def fSee (S : List Addr) (Hs F : Hp) : Hp := fun b => if b ∈ S then Hs b else match F b with
  | some (.lst _) => none
  | o => o
def mNewE (fn c : Str) (vis : List Nat) (me : M Rs) : M D := fun β => if okB vis β = true then (match me (visB vis β) with
  | .ok r _ => if hasL fn c r.d = true ∧ visD r.d = true then .ok r.d β else .stuck
  | _ => .stuck) else .stuck
section
variable {K : PySem.W.Frag} {mg : Str → Option Value} {G : GT} {F F' F1 H H' H1 P Fs Hs : Hp} {io S : List Addr} {β β1 : B.Env} {σ : L2.St} {a : Addr} {d : D} {i : Nat} {vis : List Nat}
theorem okB_at (h : okB vis β = true) {k : Nat} (hk : k ∈ vis) : ∃ s, β[k]? = some s ∧ okS s = true := by
  have := List.all_eq_true.mp h k hk
  cases e : β[k]? with
  | none => rw [e] at this; cases this
  | some s => rw [e] at this; exact ⟨s, rfl, this⟩
theorem nodup_of (S : List Addr) : ∃ T : List Addr, T.Nodup ∧ ∀ a, a ∈ T ↔ a ∈ S := by
  induction S with
  | nil => exact ⟨[], .nil, fun _ => Iff.rfl⟩
  | cons a S ih =>
    obtain ⟨T, h1, h2⟩ := ih
    by_cases ha : a ∈ T
    · refine ⟨T, h1, fun b => ⟨fun h => List.mem_cons_of_mem _ ((h2 b).mp h), fun h => ?_⟩⟩
      rcases List.mem_cons.mp h with rfl | h
      · exact ha
      · exact (h2 b).mpr h
    · refine ⟨a :: T, List.nodup_cons.mpr ⟨ha, h1⟩, fun b => ?_⟩
      rw [List.mem_cons, List.mem_cons, h2]
theorem vis_S (I : BI K mg G F io β σ H) (h : okB vis β = true) : ∃ S, Lists H S ∧ ∀ Fs, Vw F H Fs S → ∀ k ∈ vis, ∀ s, β[k]? = some s → ∃ v d, σ[k]? = some (some v) ∧ visS s = .fz d ∧ DR K mg Fs v d := by
  have key : ∀ l : List Nat, (∀ k ∈ l, k ∈ vis) → ∃ S, Lists H S ∧ ∀ Fs, Vw F H Fs S → ∀ k ∈ l, ∀ s, β[k]? = some s → ∃ v d, σ[k]? = some (some v) ∧ visS s = .fz d ∧ DR K mg Fs v d := by
    intro l
    induction l with
    | nil => exact fun _ => ⟨[], fun _ h => (nomatch h), fun _ _ k hk => (nomatch hk)⟩
    | cons k l ih =>
      intro hl
      obtain ⟨T, k1, k2⟩ := ih fun j hj => hl j (List.mem_cons_of_mem _ hj)
      obtain ⟨s, es, ok⟩ := okB_at h (hl k List.mem_cons_self)
      have one : ∃ S, Lists H S ∧ ∀ Fs, Vw F H Fs S → ∃ v d, σ[k]? = some (some v) ∧ visS s = .fz d ∧ DR K mg Fs v d := by
        obtain ⟨w, ew, hs⟩ := I.sl k s es
        cases s with
        | fz d =>
          obtain ⟨v, rfl, r⟩ := hs
          obtain ⟨S, h1, h2⟩ := dr_vis I.sf r ok
          exact ⟨S, h1, fun Fs w => ⟨v, _, ew, rfl, h2 Fs w⟩⟩
        | own b d =>
          obtain ⟨a, rfl, _, _, _, _, o⟩ := hs
          cases o with
          | lst hH r =>
            cases b with
            | some _ => cases ok
            | none =>
              obtain ⟨S, h1, h2⟩ := drs_vis I.sf r ok
              refine ⟨a :: S, fun b hb => ?_, fun Fs w => ⟨.ref a, _, ew, rfl, ?_⟩⟩
              · rcases List.mem_cons.mp hb with rfl | hb
                · exact ⟨_, hH⟩
                · exact h1 b hb
              · rw [rl]
                obtain ⟨od, ws, q1, q2⟩ := w.lk a List.mem_cons_self
                rw [hH] at q1
                cases q1
                exact .scr (.inl (.inr ⟨od, q2⟩)) (h2 Fs (w.sub fun b hb => List.mem_cons_of_mem _ hb))
          | dK _ _ _ => cases b <;> cases ok
          | dT _ _ _ => cases b <;> cases ok
          | dg _ _ _ _ => cases b <;> cases ok
          | ins _ _ _ => cases b <;> cases ok
        | ex _ => cases ok
        | gh _ => cases ok
        | un => cases ok
      obtain ⟨S, h1, h2⟩ := one
      refine ⟨S ++ T, fun b hb => (List.mem_append.mp hb).elim (h1 b) (k1 b), fun Fs w j hj s' es' => ?_⟩
      rcases List.mem_cons.mp hj with rfl | hj
      · rw [es] at es'
        cases es'
        exact h2 Fs (w.sub fun b hb => List.mem_append_left _ hb)
      · exact k2 Fs (w.sub fun b hb => List.mem_append_right _ hb) j hj s' es'
  exact key vis fun _ h => h
theorem fSee_vw (I : BI K mg G F io β σ H) (hl : Lists H S) (hs : Lkd S H Hs) : Vw F H (fSee S Hs F) S := by
  refine ⟨fun b o e n => ?_, fun a ha => ?_⟩
  · unfold fSee
    by_cases hb : b ∈ S
    · obtain ⟨vs, q⟩ := hl b hb
      rw [I.sf b o e] at q
      cases q
      exact absurd rfl (n _)
    · rw [if_neg hb, e]
      cases o with
      | lst vs => exact absurd rfl (n vs)
      | _ => rfl
  · obtain ⟨od, vs, h1, h2⟩ := hs.2 a ha
    exact ⟨od, vs, h1, by unfold fSee; rw [if_pos ha]; exact h2⟩
theorem fSee_sf (I : BI K mg G F io β σ H) (hs : Lkd S H Hs) : Same (fSee S Hs F) Hs := fun b o e => by
  unfold fSee at e
  by_cases hb : b ∈ S
  · rw [if_pos hb] at e
    exact e
  · rw [if_neg hb] at e
    rw [hs.1 b hb]
    cases q : F b with
    | none => rw [q] at e; cases e
    | some u =>
      rw [q] at e
      have := I.sf b u q
      cases u <;> first | (cases e; done) | (cases e; exact this)
theorem fSee_some {b : Addr} {o : HO} (h : fSee S Hs F b = some o) : (b ∈ S ∧ Hs b = some o) ∨ (b ∉ S ∧ F b = some o ∧ ∀ vs, o ≠ .lst vs) := by
  unfold fSee at h
  by_cases hb : b ∈ S
  · rw [if_pos hb] at h
    exact .inl ⟨hb, h⟩
  · rw [if_neg hb] at h
    cases q : F b with
    | none => rw [q] at h; cases h
    | some u =>
      rw [q] at h
      refine .inr ⟨hb, ?_⟩
      cases u <;> first | (cases h; done) | (cases h; exact ⟨rfl, fun _ z => by cases z⟩)
theorem tab_lk (hs : ∀ b, b ∉ S → H' b = H b) (n : ∀ a ∈ S, ∀ o, H a = some o → (∀ ps, o ≠ .tbl ps) ∧ ∀ c q, o ≠ LamX.CodeO c q) {b : Addr} {q : Str} (t : LamX.TabS H b q) : LamX.TabS H' b q := by
  obtain ⟨ps, h1, h2, h3⟩ := t
  refine ⟨ps, ?_, h2, fun pos cv hc => ?_⟩
  · rw [hs b fun z => (n b z _ h1).1 ps rfl]
    exact h1
  · obtain ⟨c, e, hH⟩ := h3 pos cv hc
    exact ⟨c, e, by rw [hs c fun z => (n c z _ hH).2 c q rfl]; exact hH⟩
theorem lst_nc {vs : List V} (c : Addr) (q : Str) : (HO.lst vs) ≠ LamX.CodeO c q := fun e => by
  unfold LamX.CodeO at e
  cases e
theorem frz_nc {od : Obj} {u : HO} (c : Addr) (q : Str) : (HO.frz od u) ≠ LamX.CodeO c q := fun e => by
  unfold LamX.CodeO at e
  cases e
/-- only this is seen -/
theorem BI.see (I : BI K mg G F io β σ H) (hl : Lists H S) (hs : Lkd S H Hs) (hv : ∀ k ∈ vis, ∀ s, β[k]? = some s → ∃ v d, σ[k]? = some (some v) ∧ visS s = .fz d ∧ DR K mg (fSee S Hs F) v d) : BI K mg (gKeep Hs (fSee S Hs F) G.t) (fSee S Hs F) [] (visB vis β) σ Hs := by
  have get : ∀ (j : Nat) (s : Sl), (visB vis β)[j]? = some s → ∃ s0, β[j]? = some s0 ∧ s = if j ∈ vis then visS s0 else .un := fun j s e => by
    unfold visB at e
    rw [List.getElem?_mapIdx] at e
    obtain ⟨s0, h1, h2⟩ := Option.map_eq_some_iff.mp e
    exact ⟨s0, h1, h2.symm⟩
  have noown : ∀ (j : Nat) (s : Sl), (visB vis β)[j]? = some s → isOwn s = false := fun j s e => by
    obtain ⟨s0, _, rfl⟩ := get j s e
    split
    · cases s0 <;> rfl
    · rfl
  refine ⟨⟨fun b o h => ?_, fun b q h => ⟨?_, ?_⟩, fun b o h => ?_⟩, fSee_sf I hs, fun b hb => (nomatch hb), fun b hb => (nomatch hb), ?_, fun j s e => ?_, fun j k s t b e1 e2 h1 h2 => ?_⟩
  · have h : (if fSee S Hs F b = none ∧ G.t b = none then Hs b else none) = some o := h
    split at h
    · exact h
    · cases h
  · have h : G.t b = some q := h
    obtain ⟨h1, ps, h2, _⟩ := I.sg.t b q h
    cases e : fSee S Hs F b with
    | none => rfl
    | some o =>
      rcases fSee_some e with ⟨hb, _⟩ | ⟨_, hb, _⟩
      · obtain ⟨vs, q⟩ := hl b hb
        rw [h2] at q
        cases q
      · rw [h1] at hb
        cases hb
  · exact tab_lk hs.1 (fun a ha o e => by
      obtain ⟨vs, q⟩ := hl a ha
      rw [e] at q
      cases q
      exact ⟨fun _ z => (by cases z), lst_nc⟩) (I.sg.t b q h).2
  · have h : (if fSee S Hs F b = none ∧ G.t b = none then Hs b else none) = some o := h
    split at h
    · rename_i hc
      exact hc.2
    · cases h
  · unfold visB
    rw [List.length_mapIdx]
    exact I.len
  · obtain ⟨s0, e0, rfl⟩ := get j s e
    by_cases hj : j ∈ vis
    · rw [if_pos hj]
      obtain ⟨v, d, h1, h2, h3⟩ := hv j hj s0 e0
      rw [h2]
      exact ⟨_, h1, v, rfl, h3⟩
    · rw [if_neg hj]
      obtain ⟨w, ew, _⟩ := I.sl j s0 e0
      exact ⟨w, ew, trivial⟩
  · rw [noown j s e1] at h1
    cases h1
/-- and then all is seen again -/
theorem BI.unsee (I : BI K mg G F io β σ H) (hl : Lists H S) (hs : Lkd S H Hs) (J : BI K mg (gKeep Hs (fSee S Hs F) G.t) F1 [] β1 σ H') (fe : Same (fSee S Hs F) F1) : BI K mg G F io β σ (unlk S H H') := by
  have st : ∀ b o, H b = some o → G.t b = none → unlk S H H' b = some o := fun b o e ht => by
    unfold unlk
    by_cases hb : b ∈ S
    · rw [if_pos hb]
      exact e
    · rw [if_neg hb]
      have e2 : Hs b = some o := by rw [hs.1 b hb]; exact e
      cases q : fSee S Hs F b with
      | some u =>
        have := fSee_sf I hs b u q
        rw [e2] at this
        cases this
        exact J.sf _ _ (fe _ _ q)
      | none =>
        refine J.sg.g b o ?_
        show (if fSee S Hs F b = none ∧ G.t b = none then Hs b else none) = some o
        rw [if_pos ⟨q, ht⟩]
        exact e2
  have tb : ∀ b q, G.t b = some q → LamX.TabS (unlk S H H') b q := fun b q h => by
    obtain ⟨ps, h1, h2, h3⟩ := (J.sg.t b q h).2
    have nb : b ∉ S := fun hb => by
      obtain ⟨vs, z⟩ := hl b hb
      obtain ⟨_, ps', z2, _⟩ := I.sg.t b q h
      rw [z] at z2
      cases z2
    refine ⟨ps, by unfold unlk; rw [if_neg nb]; exact h1, h2, fun pos cv hc => ?_⟩
    obtain ⟨c, e, hH⟩ := h3 pos cv hc
    refine ⟨c, e, ?_⟩
    have nc : c ∉ S := fun hb => by
      obtain ⟨od, vs, z1, z2⟩ := hs.2 c hb
      have : fSee S Hs F c = some (.frz od (.lst vs)) := by unfold fSee; rw [if_pos hb]; exact z2
      have := J.sf _ _ (fe _ _ this)
      rw [hH] at this
      exact frz_nc c q (Option.some.inj this).symm
    unfold unlk
    rw [if_neg nc]
    exact hH
  have fn : ∀ b o, F b = some o → G.t b = none := fun b o e => by
    cases q : G.t b with
    | none => rfl
    | some z =>
      have := (I.sg.t b z q).1
      rw [e] at this
      cases this
  refine ⟨⟨fun b o h => st b o (I.sg.g b o h) (I.sg.dj b o h), fun b q h => ⟨(I.sg.t b q h).1, tb b q h⟩, I.sg.dj⟩, fun b o h => st b o (I.sf b o h) (fn b o h), I.ioF, fun b hb => ?_, I.len, fun j s e => ?_, I.apart⟩
  · obtain ⟨o, ho⟩ := I.ioH b hb
    cases q : G.t b with
    | none => exact ⟨o, st b o ho q⟩
    | some z =>
      obtain ⟨ps, h, _⟩ := tb b z q
      exact ⟨_, h⟩
  · obtain ⟨w, ew, hs⟩ := I.sl j s e
    refine ⟨w, ew, ?_⟩
    cases s with
    | own b d =>
      obtain ⟨x, q1, f, g, k1, k2, o⟩ := hs
      subst q1
      obtain ⟨u, hu, _⟩ := o.there
      exact ⟨x, rfl, f, g, k1, k2, o.mono (Same.refl _) (by rw [hu]; exact st x u hu (GT.tn g))⟩
    | ex z0 => exact hs
    | gh _ => exact hs
    | un => trivial
    | fz d => exact hs
open Classical in
/-- what is new -/
noncomputable def nwP (Fs F1 : Hp) : Hp := fun b => if Fs b = none then F1 b else none
theorem nwP_some {b : Addr} {o : HO} (h : nwP Fs F1 b = some o) : Fs b = none ∧ F1 b = some o := by
  unfold nwP at h
  split at h
  · rename_i hc
    exact ⟨hc, h⟩
  · cases h
theorem nwP_of {b : Addr} (h : Fs b = none) : nwP Fs F1 b = F1 b := by
  unfold nwP
  rw [if_pos h]
section
variable (I : BI K mg G F io β σ H) (hl : Lists H S) (hs : Lkd S H Hs) (J : BI K mg (gKeep Hs (fSee S Hs F) G.t) F1 [] β1 σ H') (fe : FE (gKeep Hs (fSee S Hs F) G.t) [] (fSee S Hs F) F1)
include I hl hs in
theorem fresh_of {b : Addr} (h1 : fSee S Hs F b = none) (h2 : (gKeep Hs (fSee S Hs F) G.t) b = none) : b ∉ S ∧ H b = none := by
  obtain ⟨g1, g2⟩ := GT.none_iff.mp h2
  have g1 : G.t b = none ∨ True := .inr trivial
  have nb : b ∉ S := fun hb => by
    obtain ⟨od, vs, _, z⟩ := hs.2 b hb
    unfold fSee at h1
    rw [if_pos hb, z] at h1
    cases h1
  refine ⟨nb, ?_⟩
  have t0 := GT.tn h2
  have g0 := GT.gn h2
  have g0 : (if fSee S Hs F b = none ∧ G.t b = none then Hs b else none) = none := g0
  rw [if_pos ⟨h1, t0⟩, hs.1 b nb] at g0
  exact g0
include I hl hs fe in
theorem nw_fresh {b : Addr} {o : HO} (h : nwP (fSee S Hs F) F1 b = some o) : b ∉ S ∧ H b = none := by
  obtain ⟨h1, h2⟩ := nwP_some h
  rcases fe.new b o h2 with z | ⟨z, _⟩
  · rw [h1] at z
    cases z
  · exact fresh_of I hl hs h1 z
include I hl hs J fe in
theorem see_in : ∀ b o, F1 b = some o → (∀ od u, o ≠ .frz od u) → (nwP (fSee S Hs F) F1 b = some o) ∨ (nwP (fSee S Hs F) F1 b = none ∧ F b = some o ∧ ∀ vs, o ≠ .lst vs) := fun b o e n => by
  cases q : fSee S Hs F b with
  | none => exact .inl (by rw [nwP_of q]; exact e)
  | some u =>
    have := fe.same b u q
    rw [e] at this
    cases this
    refine .inr ⟨by unfold nwP; rw [if_neg (by rw [q]; simp)], ?_⟩
    rcases fSee_some q with ⟨hb, z⟩ | ⟨_, z⟩
    · obtain ⟨od, vs, _, z2⟩ := hs.2 b hb
      rw [z] at z2
      cases z2
      exact absurd rfl (n _ _)
    · exact z
include I hl hs J fe in
/-- a new instance, its list new -/
theorem see_new {fn c : Str} {v : V} {r : Rs} (rr : RR K mg (gKeep Hs (fSee S Hs F) G.t) F1 [] H' β1 σ v r) (hL : hasL fn c r.d = true) (hv : visD r.d = true) : relN K mg fn c G F io (unlk S H H') β σ v r.d := by
  obtain ⟨ns, ds', xs, ed, el⟩ := hasL_ins hL
  have fr : ∀ b o, nwP (fSee S Hs F) F1 b = some o → b ∉ S ∧ H b = none := fun b o h => nw_fresh I hl hs fe h
  have sp : Same (nwP (fSee S Hs F) F1) (unlk S H H') := fun b o h => by
    unfold unlk
    rw [if_neg (fr b o h).1]
    exact J.sf _ _ (nwP_some h).2
  have notown : ∀ (b : Addr), H b = none → ∀ (j : Nat) (s : Sl), β[j]? = some s → isOwn s = true → σ[j]? ≠ some (some (V.ref b)) := fun b hb j s es hs z => by
    obtain ⟨w, ew, hss⟩ := I.sl j s es
    cases s with
    | ex _ => cases hs
    | gh _ => cases hs
    | un => cases hs
    | fz _ => cases hs
    | own b' d' =>
      obtain ⟨x, q', _, _, _, _, r⟩ := hss
      obtain ⟨u, hu, _⟩ := r.there
      rw [z, q'] at ew
      cases ew
      rw [hu] at hb
      cases hb
  have off : ∀ {b : Addr}, H b = none → F b = none ∧ G b = none ∧ b ∉ io := fun {b} hb => ⟨Same.free I.sf hb, I.sg.free hb, I.nio hb⟩
  have ownP : ∀ {P : Hp}, (∀ b o, P b = some o → H b = none) → ∀ (j : Nat) (s : Sl) (b : Addr), β[j]? = some s → isOwn s = true → σ[j]? = some (some (V.ref b)) → P b = none := fun {P} hp j s b es hs z => by
    cases q : P b with
    | none => rfl
    | some o => exact absurd z (notown b (hp b o q) j s es hs)
  have si := see_in I hl hs J fe
  have lstP : ∀ {b : Addr} {vs : List V}, F1 b = some (.lst vs) → nwP (fSee S Hs F) F1 b = some (.lst vs) := fun {b vs} h => by
    rcases si b _ h (fun _ _ z => by cases z) with z | ⟨_, _, z⟩
    · exact z
    · exact absurd rfl (z vs)
  cases r with
  | fz d =>
    have ed : d = _ := ed
    subst ed
    have rr : DR K mg F1 v _ := rr
    have w : ∀ b o, F1 b = some o → (∀ od u, o ≠ .frz od u) → orH (nwP (fSee S Hs F) F1) F b = some o := fun b o h n => by
      rcases si b o h n with z | ⟨z1, z2, _⟩
      · exact orH_some z
      · rw [orH_none z1]
        exact z2
    have dr := dr_unl w rr hv
    cases rr with
    | ins h1 h2 h3 =>
      rename_i a C dx fs
      refine ⟨a, nwP (fSee S Hs F) F1, rfl, fun b o h => off (fr b o h).2, ⟨dr, ?_⟩, sp, ownP fun b o h => (fr b o h).2⟩
      obtain ⟨v', e1, r1⟩ := h3.look el
      cases r1 with
      | lst k1 k2 =>
        rename_i b vs
        exact ⟨C, dx, fs, b, vs, w _ _ h1 (fun _ _ z => by cases z), h2, e1, lstP k1, fun z => by
          subst z
          rw [h1] at k1
          cases k1⟩
  | own d =>
    have ed : d = _ := ed
    subst ed
    obtain ⟨a, ev, fnn, gn, _, o, _⟩ := rr
    subst ev
    cases o with
    | ins h1 h2 h3 =>
      rename_i C dx fs
      have fa : fSee S Hs F a = none := by
        cases q : fSee S Hs F a with
        | none => rfl
        | some u =>
          have := fe.same a u q
          rw [fnn] at this
          cases this
      obtain ⟨aS, aH⟩ := fresh_of I hl hs fa gn
      have w : ∀ b o, F1 b = some o → (∀ od u, o ≠ .frz od u) → orH (L2.upd (nwP (fSee S Hs F) F1) a (.ins C dx fs)) F b = some o := fun b o h n => by
        have nb : b ≠ a := ne_of_none h fnn
        rcases si b o h n with z | ⟨z1, z2, _⟩
        · exact orH_some (by rw [L2.upd_ne nb]; exact z)
        · rw [orH_none (by rw [L2.upd_ne nb]; exact z1)]
          exact z2
      have fr2 : ∀ b o, L2.upd (nwP (fSee S Hs F) F1) a (.ins C dx fs) b = some o → H b = none := fun b o h => by
        by_cases hb : b = a
        · subst hb
          exact aH
        · rw [L2.upd_ne hb] at h
          exact (fr b o h).2
      have hvs : visDs ds' = true := by
        have hv : visD (.nd (.ins c (fs.map (·.1))) ds') = true := hv
        rw [visD] at hv
        exact hv
      refine ⟨a, L2.upd (nwP (fSee S Hs F) F1) a (.ins C dx fs), rfl, fun b o h => off (fr2 b o h), ⟨.ins (orH_some upd_same) h2 (drs_unl w h3 hvs), ?_⟩, fun b o h => ?_, ownP fr2⟩
      · obtain ⟨v', e1, r1⟩ := h3.look el
        cases r1 with
        | lst k1 k2 =>
          rename_i b vs
          have nb : b ≠ a := ne_of_none k1 fnn
          exact ⟨C, dx, fs, b, vs, orH_some upd_same, h2, e1, by rw [L2.upd_ne nb]; exact lstP k1, nb⟩
      · by_cases hb : b = a
        · subst hb
          rw [upd_same] at h
          cases h
          unfold unlk
          rw [if_neg aS]
          exact h1
        · rw [L2.upd_ne hb] at h
          exact sp b o h
end
end
section
variable {X : Cx} {e : Expr} {me : M Rs} {fn c : Str}
/-- what an expression makes, while what it sees is locked: nobody else's -/
theorem bn_e (vis : List Nat) (h : BE X e me) : BN X fn c e (mNewE fn c vis me) := by
  refine fun W tk => (pe_lk (h W tk)).imp fun σ H Q ⟨G, io, F, β, I, h⟩ => ?_
  unfold mNewE at h
  split at h
  case isFalse => exact h.elim
  rename_i ok
  obtain ⟨S0, hl0, hv⟩ := vis_S I ok
  obtain ⟨S, nd, hm⟩ := nodup_of S0
  have hl : Lists H S := fun a ha => hl0 a ((hm a).mp ha)
  refine ⟨S, nd, hl, fun Hs hs => ?_⟩
  have vw : Vw F H (fSee S Hs F) S0 := (fSee_vw I hl hs).sub fun a ha => (hm a).mpr ha
  have B0 := I.see (vis := vis) hl hs (hv _ vw)
  refine ⟨_, _, _, _, B0, ?_⟩
  cases em : me (visB vis β) with
  | stuck => rw [em] at h; exact h.elim
  | exc x β1 => rw [em] at h; exact h.elim
  | ok r β1 =>
    rw [em] at h
    simp only at h
    split at h
    case isFalse => exact h.elim
    rename_i hc
    intro v H' F1 fe J rr
    have I2 := I.unsee hl hs J fe.same
    refine ⟨fun a ha => ?_, h v _ F .refl I2 (see_new I hl hs J fe rr hc.1 hc.2)⟩
    obtain ⟨od, vs, _, z⟩ := hs.2 a ha
    rw [z]
    exact J.sf _ _ (fe.same _ _ (by unfold fSee; rw [if_pos ha]; exact z))
end
end B


set_option Elab.async false
set_option linter.all false
set_option maxRecDepth 100000
set_option maxHeartbeats 4000000
namespace B
open PySem PySem.Spec L2 PyProof.Rows
/-! # for x in [new instances]: x.field.append(..) -/
/-- an instance whose field is a list in P -/
def Nw (mg : Str → Option Value) (F P : Hp) (fn c : Str) (N : Nat) (v : V) : Prop := ∃ a C dx fs b ws, v = .ref a ∧ orH P F a = some (.ins C dx fs) ∧ mg c = some (.ref C) ∧ fs.lookup fn = some (V.ref b) ∧ P b = some (.lst ws) ∧ ws.length ≤ N
def okLen (fn : Str) : D → Bool
  | .nd (.ins _ ns) ds => match (ns.zip ds).lookup fn with
    | some (.nd .lst xs) => decide (xs.length ≤ 900)
    | _ => false
  | _ => false
section
variable {K : PySem.W.Frag} {mg : Str → Option Value} {G : GT} {F F' F1 H H1 P P2 : Hp} {io : List Addr} {β β1 : B.Env} {σ : L2.St} {a : Addr} {d : D} {i : Nat} {fn c : Str}
theorem nw_of (h : Pv K mg F P a fn c d) (ok : okLen fn d = true) : Nw mg F P fn c 900 (.ref a) := by
  obtain ⟨C, dx, fs, b, vs, h1, h2, h3, h4, h5⟩ := h.ex
  refine ⟨a, C, dx, fs, b, vs, rfl, h1, h2, h3, h4, ?_⟩
  have dr := h.dr
  unfold okLen at ok
  split at ok
  · cases dr with
    | ins k1 k2 k3 =>
      rw [k1] at h1
      cases h1
      split at ok
      · rename_i xs e
        obtain ⟨v, e1, r⟩ := k3.look e
        rw [h3] at e1
        cases e1
        cases r with
        | lst q1 q2 =>
          rw [orH_some h4] at q1
          cases q1
          rw [q2.length]
          exact of_decide_eq_true ok
      · cases ok
  · cases ok
end
section
variable {X : Cx} {fn c x : Str} {i : Nat} {es : List Expr} {ma : M Nat} {me : M Rs} {earg : Expr} {p p2 p3 q apos cpos pos pos2 : Pos}
end
/-! ## what is wished for -/
section
variable {β : B.Env} {E : Exn → B.Env → Prop} {i n : Nat} {fn c : Str} {vis : List Nat} {me : M Rs} {mn : M D} {ma : M Nat}
theorem W_mNewE {Q : D → B.Env → Prop} (h0 : okB vis β = true) (h : W me (visB vis β) (fun r _ => hasL fn c r.d = true ∧ visD r.d = true ∧ Q r.d β) noE) : W (mNewE fn c vis me) β Q E := by
  unfold W at h
  unfold W mNewE
  rw [if_pos h0]
  cases em : me (visB vis β) with
  | stuck => rw [em] at h; exact h.elim
  | exc x β1 => rw [em] at h; exact h.elim
  | ok r β1 =>
    rw [em] at h
    simp only
    rw [if_pos ⟨h.1, h.2.1⟩]
    exact h.2.2
end
end B


set_option Elab.async false
set_option linter.all false
set_option maxRecDepth 100000
set_option maxHeartbeats 4000000
namespace B
open PySem PySem.Spec L2 PyProof.Rows
/-! # d.update(e), the keys tuples of ints -/
def updL (l m : Dct) : Dct := m.foldl (fun acc p => putL acc p.1 p.2) l
/-- a tuple's hash -/
def tupH (k : List Int) : Int := reduceHash (Builtin.Tuple.tupleHashOf (k.map hashInt))
section
variable {X : Cx}
def gUpdG : D → List D → Option (D × D)
  | .nd .dcg es, [.nd .dcg fs] => match entsOf es, entsOf fs with
    | some l, some m => if (l ≠ [] ∨ (m.map fun p => tupH p.1).Nodup) ∧ l.length + m.length ≤ sizeLine then some (.non, dcgD (updL l m)) else none
    | _, _ => none
  | _, _ => none
def isG : D → Bool
  | .nd .dcg es => (entsOf es).isSome
  | _ => false
def ownG (i : Nat) : M Unit := fun β => match β[i]? with
  | some (.own _ d) => if isG d = true then .ok () β else .stuck
  | _ => .stuck
def mUpd (i : Nat) (ma : M (List Pl)) : M Rs := bnd (ownG i) fun _ => bnd ma fun ps => finM i gUpdG ps
end
end B


set_option Elab.async false
set_option linter.all false
set_option maxRecDepth 100000
set_option maxHeartbeats 4000000
namespace B
open PySem PySem.Spec L2
/-! # what is wished for behind d.update(e) -/
section
variable {β : B.Env} {E : Exn → B.Env → Prop} {i : Nat} {ma : M (List Pl)} {l m : Dct}
@[simp] theorem isG_dcg : isG (dcgD l) = true := by
  show (entsOf (l.map entD)).isSome = true
  rw [entsOf_map]
  rfl
@[simp ↓] theorem W_ownG {Q : Unit → B.Env → Prop} : W (ownG i) β Q E ↔ ownW β[i]? fun _ d => isG d = true ∧ Q () β := by
  unfold W ownG ownW
  rcases β[i]? with _ | _ | _ | _ | ⟨_, d⟩ | _
  · with_unfolding_all rfl
  · with_unfolding_all rfl
  · with_unfolding_all rfl
  · with_unfolding_all rfl
  · simp only
    by_cases h : isG d = true
    · rw [if_pos h]; simp [h]
    · rw [if_neg h]; simp [h]
  · with_unfolding_all rfl
@[simp ↓] theorem W_mUpd {Q : Rs → B.Env → Prop} : W (mUpd i ma) β Q E ↔ W (ownG i) β (fun _ β1 => W ma β1 (fun ps β2 => W (finM i gUpdG ps) β2 Q E) E) E := by
  unfold mUpd
  refine W_bnd.trans (W_congr fun p β1 => ?_)
  rw [W_bnd]
end
/-! words of few letters have hashes of their own -/
end B


set_option Elab.async false
set_option linter.all false
set_option maxRecDepth 100000
set_option maxHeartbeats 4000000
namespace B
open PySem PySem.Spec L2
/-! # a def of the top that is called by another name -/
structure LkA (K : PySem.W.Frag) (mg : Str → Option Value) (y x : Str) (st : Stmt) (ps : List Str) : Prop where
  ex : ∃ f fd, L2.Fun K x x st f fd ∧ mg y = some (.ref f) ∧ Binds K fd ps []
section
variable {P : Program} {w : World} {K : PySem.W.Frag} {mg : Str → Option Value} {base : Heap} {k : Nat} {x y : Str} {st : Stmt} {N ps : List Str} {m : M Fl}
end
end B


set_option Elab.async false
set_option linter.all false
set_option maxRecDepth 100000
set_option maxHeartbeats 4000000
namespace B
open PySem PySem.Spec L2 PyProof.Rows
/-! # y = {k: v for .. in .. for .. in ..} -/
section
variable {X : Cx}
end
end B


set_option Elab.async false
set_option linter.all false
set_option maxRecDepth 100000
set_option maxHeartbeats 4000000
namespace B
open PySem PySem.Spec L2 PyProof.Rows
/-! # dict(l), l a list of pairs, the keys tuples of ints -/
section
variable {X : Cx} {pins : List (Addr × Obj)} {σ : L2.St} {H : Hp} {s : Shared}
end
end B


set_option Elab.async false
set_option linter.all false
set_option maxRecDepth 100000
set_option maxHeartbeats 4000000
namespace B
open PySem PySem.Spec L2 PyProof.Rows
/-! # {text: v, ..}: a dict of a few texts -/
def evm : List (M Rs) → M (List D)
  | [] => ret []
  | m :: ms => bnd m fun r => bnd (evm ms) fun ds => ret (r.d :: ds)
/-- what was evaluated -/
inductive EvR (w : World) (prog : Program) : List Str → List V → List (Value × Value) → List (Key × Value) → Prop
  | nil : EvR w prog [] [] [] []
  | cons {x : Str} {xs : List Str} {v : V} {vs : List V} {k u : Value} {rs : List (Value × Value)} {kvs : List (Key × Value)} : (mixKind prog w).is (.inr x) k = true → RelV v u → EvR w prog xs vs rs kvs → EvR w prog (x :: xs) (v :: vs) ((k, u) :: rs) ((.inr x, u) :: kvs)
section
variable {X : Cx}
def dctS (xs : List Str) (ds : List D) : D := .nd .dct ((xs.zip ds).map fun p => .tup [.str p.1, p.2])
def mDictS (xs : List Str) (ms : List (M Rs)) : M Rs := bnd (evm ms) fun ds => ret (.own (dctS xs ds))
end
section
variable {β : B.Env} {E : Exn → B.Env → Prop} {m : M Rs} {ms : List (M Rs)} {xs : List Str}
@[simp ↓] theorem W_evm0 {Q : List D → B.Env → Prop} : W (evm []) β Q E ↔ Q [] β := W_ret
@[simp ↓] theorem W_evmS {Q : List D → B.Env → Prop} : W (evm (m :: ms)) β Q E ↔ W m β (fun r β1 => W (evm ms) β1 (fun ds β2 => Q (r.d :: ds) β2) E) E := by
  show W (bnd m fun r => bnd (evm ms) fun ds => ret (r.d :: ds)) β Q E ↔ _
  exact W_bnd.trans (W_congr fun r β1 => W_bnd.trans (W_congr fun ds β2 => W_ret))
@[simp ↓] theorem W_mDictS {Q : Rs → B.Env → Prop} : W (mDictS xs ms) β Q E ↔ W (evm ms) β (fun ds β1 => Q (.own (dctS xs ds)) β1) E := by
  unfold mDictS
  exact W_bnd.trans (W_congr fun ds β1 => W_ret)
end
end B


set_option Elab.async false
set_option linter.all false
set_option maxRecDepth 100000
set_option maxHeartbeats 4000000
namespace B
open PySem PySem.Spec L2 PyProof.Rows PySem.W
/-! # sorted(d.items()), the keys tuples of ints -/
section
variable {X : Cx}
open Classical in
noncomputable def gSortIt : D → Option Rs
  | .nd .dcg es => (entsOf es).bind fun l => if sortOk (l.map entD) then some (.fz (.nd .lst (sortD (l.map entD)))) else none
  | _ => none
noncomputable def mSortIt (me : M Rs) : M Rs := bnd me fun r => match gSortIt r.d with
  | some r' => ret r'
  | none => stk
end
section
variable {β : B.Env} {E : Exn → B.Env → Prop} {me : M Rs}
@[simp ↓] theorem W_mSortIt {Q : Rs → B.Env → Prop} : W (mSortIt me) β Q E ↔ W me β (fun r β1 => optW (gSortIt r.d) fun r' => Q r' β1) E := by
  unfold mSortIt
  refine W_bnd.trans (W_congr fun r β1 => ?_)
  cases gSortIt r.d with
  | none => exact W_stk
  | some r' => exact W_ret
end
end B


set_option Elab.async false
set_option linter.all false
set_option maxRecDepth 100000
set_option maxHeartbeats 4000000
namespace B
open PySem PySem.Spec L2 PyProof.Rows PySem.W
/-! # sorted(d), the keys tuples of ints -/
end B


set_option Elab.async false
set_option linter.all false
set_option maxRecDepth 100000
set_option maxHeartbeats 4000000
namespace B
open PySem PySem.Spec L2 PyProof.Rows PySem.W
/-! # a, *b = a tuple (or a list) -/
section
variable {X : Cx} {pos : Pos}
def gUnpST (g : List D → M Unit) : D → M Unit
  | .nd .tup (d :: ds) => if ds.length ≤ 16000 then g [d, .nd .lst ds] else stk
  | _ => stk
end
@[simp ↓] theorem W_gUnpST {g : List D → M Unit} {d : D} {ds : List D} {β : B.Env} {Q : Unit → B.Env → Prop} {E : Exn → B.Env → Prop} : W (gUnpST g (.nd .tup (d :: ds))) β Q E ↔ ds.length ≤ 16000 ∧ W (g [d, .nd .lst ds]) β Q E := by
  show W (if ds.length ≤ 16000 then g [d, .nd .lst ds] else stk) β Q E ↔ _
  by_cases h : ds.length ≤ 16000
  · rw [if_pos h]
    exact ⟨fun k => ⟨h, k⟩, fun k => k.2⟩
  · rw [if_neg h]
    exact ⟨fun k => (W_stk.mp k).elim, fun k => absurd k.1 h⟩
end B


set_option Elab.async false
set_option linter.all false
set_option maxRecDepth 100000
set_option maxHeartbeats 4000000
namespace B
open PySem PySem.Spec L2 PyProof.Rows PySem.W
/-! # d[k], d a dict of texts or numbers -/
def keyI? : D → Option Key
  | .int i => some (.inl i)
  | .str x => some (.inr x)
  | _ => none
def getK (k : Key) : List D → Option D
  | .nd .tup [a, d] :: r => if keyI? a = some k then some d else getK k r
  | _ => none
def gIxK : D → D → Option Rs
  | .nd .dct es, e => (keyI? e).bind fun k => (getK k es).map .fz
  | _, _ => none
section
variable {X : Cx}
def gIxB (d e : D) : Option Rs := (gIx d e).orElse fun _ => gIxK d e
end
@[simp] theorem gIxB_dct {es : List D} {x : Str} : gIxB (.nd .dct es) (.str x) = (getK (.inr x) es).map .fz := rfl
@[simp] theorem gIxB_dcti {es : List D} {i : Int} : gIxB (.nd .dct es) (.int i) = (getK (.inl i) es).map .fz := rfl
end B


set_option Elab.async false
set_option linter.all false
set_option maxRecDepth 100000
set_option maxHeartbeats 4000000
namespace B
open PySem PySem.Spec L2 PyProof.Rows PySem.W
/-! # len(d), the keys tuples of ints -/
def gLenG : List D → Option Rs
  | [.nd .dcg es] => (entsOf es).map fun l => .fz (.int l.length)
  | _ => none
@[simp] theorem gLenG_dic {l : Dct} : gLenG [dcgD l] = some (.fz (.int l.length)) := by
  show (entsOf (l.map entD)).map _ = _
  rw [entsOf_map]
  rfl
end B


set_option Elab.async false
set_option linter.all false
set_option maxRecDepth 100000
set_option maxHeartbeats 4000000
namespace B
open PySem PySem.Spec L2 PyProof.Rows
/-! # for x in NAME: if TEST: return EXPR, NAME an own list -/
section
variable {X : Cx} {x : Str}
end
end B


set_option Elab.async false
set_option linter.all false
set_option maxRecDepth 100000
set_option maxHeartbeats 4000000
namespace PySem.W
open PySem PySem.Spec PyProof.Rows
end PySem.W
namespace L2
open PySem PySem.Spec PySem.W PyProof.Rows
end L2
namespace PySem.W
open PySem PySem.Spec PyProof.Rows
section
variable {prog : Program} {w : World} {A : Around} {E : Value → Shared → Prop} {s : Shared}
end
end PySem.W
namespace L2
open PySem PySem.Spec PySem.W PyProof.Rows
end L2

namespace B
open PySem PySem.Spec L2 PyProof.Rows
section
variable {X : Cx}
end
end B


set_option Elab.async false
set_option linter.all false
set_option maxRecDepth 100000
set_option maxHeartbeats 4000000
namespace B
open PySem PySem.Spec L2
/-! # evaluation: a copy of a def whose loops have a bound, and which can be reduced, tells what the def tells wherever it tells something -/
def RLe {α : Type} (r r' : R α) : Prop := r = .stuck ∨ r = r'
def MLe {α : Type} (m m' : M α) : Prop := ∀ β, RLe (m β) (m' β)
def FLe (f f' : List D → FR) : Prop := ∀ ds, f ds = .stuck ∨ f ds = f' ds
section
variable {α γ : Type}
theorem RLe.rfl {r : R α} : RLe r r := .inr _root_.rfl
theorem MLe.rfl {m : M α} : MLe m m := fun _ => .rfl
theorem FLe.rfl {f : List D → FR} : FLe f f := fun _ => .inr _root_.rfl
theorem RLe.stuck {r : R α} : RLe .stuck r := .inl _root_.rfl
theorem RLe.of {r r' : R α} (h : r = r') : RLe r r' := .inr h
end
section
variable {a a' b b' c c' m m' n n' : M Rs} {p p' q q' r r' : M Pl} {ps ps' : M (List Pl)} {t t' : M Bool} {s s' u u' : M Fl} {is is' is1 is1' : M (List D)} {o o' o1 o1' : M (Option Int)}
/-! calls -/
variable {f f' : List D → FR}
/-! loops -/
/-! comprehensions -/
end
/-! sorts -/
end B


set_option Elab.async false
set_option linter.all false
set_option maxRecDepth 100000
set_option maxHeartbeats 4000000
namespace B
open PySem PySem.Spec L2 PyProof.Rows
/-! # self.f = []; for x in xs: self.f.append(e) -/
/-- what is put aside, be it handed in or not -/
def Of2 (G : GT) (F : Hp) (P : Hp) : Prop := ∀ b o, P b = some o → F b = none ∧ G b = none
section
variable {K : PySem.W.Frag} {mg : Str → Option Value} {G : GT} {F F' H P : Hp} {io : List Addr} {β : B.Env} {σ : L2.St} {a : Addr} {d : D} {i : Nat}
theorem Of2.fe (h : Of2 G F P) (fe : FE (G.many P) io F F') : Of2 G F' P := fun b o e => by
  obtain ⟨h1, h2⟩ := h b o e
  refine ⟨?_, h2⟩
  cases q : F' b with
  | none => rfl
  | some u =>
    rcases fe.new b u q with z | ⟨z, _⟩
    · rw [h1] at z; cases z
    · rw [(GT.many_none z).1] at e; cases e
theorem Of2.upd {L : Addr} {o : HO} (h : Of2 G F P) (h1 : F L = none) (h2 : G L = none) : Of2 G F (L2.upd P L o) := fun b u e => by
  by_cases hb : b = L
  · subst hb; exact ⟨h1, h2⟩
  · rw [L2.upd_ne hb] at e; exact h b u e
end
section
variable {K : PySem.W.Frag} {mg : Str → Option Value} {F : Hp} {f : Str}
end
section
variable {X : Cx} {f c x xv : Str} {i : Nat} {mi : M (List D)} {g : D → M Unit} {me : M Rs} {earg iter tg : Expr} {vs : List Nat} {p p1 p2 p3 q q1 apos cpos pos pos1 pos2 : Pos}
end
end B


set_option Elab.async false
set_option linter.all false
set_option maxRecDepth 100000
set_option maxHeartbeats 4000000
namespace B
open PySem PySem.Spec L2 PyProof.Rows
/-! # x.m(e, ..), x an instance that stays; n.bit_length() -/
section
variable {X : Cx} {k j : Nat} {f C : Addr} {fd : FuncData} {ps : List Str} {sp : Sp} {E : L2.St → XK} {m c : Str} {o e : Expr} {es : List Expr} {ta : TE} {t : TA} {apos pos : Pos}
def isC (c m : Str) (po : Pl) : M Unit := fun β => match look β po with
  | some (.nd (.ins c' ns) _) => if c' = c ∧ m ∉ ns then .ok () β else .stuck
  | _ => .stuck
def mMeth (c m : Str) (ks : List Bool) (r : List D → FR) (mo : M Pl) (ma : M (List Pl)) : M Rs := bnd mo fun po => bnd (isC c m po) fun _ => bnd ma fun ps => callF ks r (po :: ps)
variable {fl : Str} {prm : List Str} {ks : List Bool} {r : List D → FR} {mo : M Pl} {ma : M (List Pl)}
def mBits (me : M Rs) : M Rs := bnd me fun r => match r.d with
  | .int i => ret (.fz (.int (Builtin.Int.intBits i)))
  | _ => stk
end
/-! ## what is wished for -/
section
variable {β : B.Env} {E : Exn → B.Env → Prop} {c m f : Str} {ks : List Bool} {r : List D → FR} {mo : M Pl} {ma : M (List Pl)} {me : M Rs}
def isW (o : Option D) (c m : Str) (P : Prop) : Prop := match o with
  | some (.nd (.ins c' ns) _) => c' = c ∧ m ∉ ns ∧ P
  | _ => False
@[simp ↓] theorem isW_ins {c' : Str} {ns : List Str} {ds : List D} {P : Prop} : isW (some (.nd (.ins c' ns) ds)) c m P ↔ c' = c ∧ m ∉ ns ∧ P := Iff.rfl
theorem W_isC {po : Pl} {Q : Unit → B.Env → Prop} : W (isC c m po) β Q E ↔ isW (look β po) c m (Q () β) := by
  unfold W isC isW
  cases look β po with
  | none => exact Iff.rfl
  | some d =>
    rcases d with _ | _ | _ | _ | ⟨t, ds⟩
    · exact Iff.rfl
    · exact Iff.rfl
    · exact Iff.rfl
    · exact Iff.rfl
    · cases t with
      | ins c' ns =>
        simp only
        by_cases h : c' = c ∧ m ∉ ns
        · rw [if_pos h]
          exact ⟨fun q => ⟨h.1, h.2, q⟩, fun q => q.2.2⟩
        · rw [if_neg h]
          exact ⟨False.elim, fun ⟨h1, h2, _⟩ => h ⟨h1, h2⟩⟩
      | _ => exact Iff.rfl
@[simp ↓] theorem W_mMeth {Q : Rs → B.Env → Prop} : W (mMeth c m ks r mo ma) β Q E ↔ W mo β (fun po β1 => isW (look β1 po) c m (W ma β1 (fun ps β2 => W (callF ks r (po :: ps)) β2 Q E) E)) E := by
  unfold mMeth
  refine W_bnd.trans (W_congr fun po β1 => ?_)
  refine W_bnd.trans (W_isC.trans ?_)
  rw [W_bnd]
def intW (r : Rs) (P : Int → Prop) : Prop := match r.d with
  | .int i => P i
  | _ => False
@[simp ↓] theorem intW_int {i : Int} {P : Int → Prop} : intW (.fz (.int i)) P ↔ P i := Iff.rfl
@[simp ↓] theorem W_mBits {Q : Rs → B.Env → Prop} : W (mBits me) β Q E ↔ W me β (fun r β1 => intW r fun i => Q (.fz (.int (Builtin.Int.intBits i))) β1) E := by
  unfold mBits
  refine W_bnd.trans (W_congr fun r β1 => ?_)
  unfold intW
  cases r.d with
  | int i => exact W_ret
  | _ => exact W_stk
end
end B
namespace B
open PySem PySem.Spec L2
end B


set_option Elab.async false
set_option linter.all false
set_option maxRecDepth 100000
set_option maxHeartbeats 4000000
namespace B
open PySem PySem.Spec L2
/-! # what is wished for: d[k] = v, keys tuples of ints -/
section
variable {β : B.Env} {E : Exn → B.Env → Prop}
def gSetG (d kd v : D) : Option D := match d with
  | .nd .dcg es => (tupI? kd).bind fun k => (entsOf es).bind fun l => if l.length < sizeLine then some (dcgD (putL l k v)) else none
  | _ => none
theorem w_setG {l : Dct} {kd v : D} {P : D → Prop} : optW (gSetG (dcgD l) kd v) P ↔ optW (tupI? kd) fun k => l.length < sizeLine ∧ P (dcgD (putL l k v)) := by
  show optW ((tupI? kd).bind fun k => (entsOf (l.map entD)).bind fun l => if l.length < sizeLine then some (dcgD (putL l k v)) else none) P ↔ _
  rw [entsOf_map, optW_bind]
  cases tupI? kd with
  | none => exact Iff.rfl
  | some k =>
    show optW ((some l).bind fun l => if l.length < sizeLine then some (dcgD (putL l k v)) else none) P ↔ _
    rw [Option.bind_some, optW_ite]
    exact Iff.rfl
@[simp ↓] theorem w_setGt {l : Dct} {k : List Int} {v : D} {P : D → Prop} : optW (gSetG (dcgD l) (tupD k) v) P ↔ l.length < sizeLine ∧ P (dcgD (putL l k v)) := by
  rw [w_setG, tupI_tupD]
  exact Iff.rfl
@[simp ↓] theorem W_setIxG {i : Nat} {v : Rs} {kd : D} {Q : Fl → B.Env → Prop} : W (setIxG i v kd) β Q E ↔ ownW β[i]? fun b d => optW (gSetG d kd v.d) fun d' => Q .nx (β.set i (.own b d')) := by
  unfold W setIxG ownW gSetG
  rcases β[i]? with _ | s
  · exact Iff.rfl
  · cases s with
    | own b d =>
      rcases d with _ | _ | _ | _ | ⟨t, es⟩
      · exact Iff.rfl
      · exact Iff.rfl
      · exact Iff.rfl
      · exact Iff.rfl
      · cases t with
        | dcg =>
          simp only
          cases tupI? kd with
          | none => exact Iff.rfl
          | some k =>
            simp only [Option.bind_some]
            cases entsOf es with
            | none => exact Iff.rfl
            | some l =>
              simp only [Option.bind_some]
              by_cases h : l.length < sizeLine
              · rw [if_pos h, if_pos h]; exact Iff.rfl
              · rw [if_neg h, if_neg h]; exact Iff.rfl
        | _ => exact Iff.rfl
    | _ => exact Iff.rfl
@[simp ↓] theorem W_mSetIxG {i : Nat} {me mk : M Rs} {Q : Fl → B.Env → Prop} : W (mSetIxG i me mk) β Q E ↔ W me β (fun r β1 => W (mPl i) β1 (fun _ β2 => W mk β2 (fun kr β3 => ownW β3[i]? fun b d => optW (gSetG d kr.d r.d) fun d' => Q .nx (β3.set i (.own b d'))) E) E) E := by
  unfold mSetIxG
  refine W_bnd.trans (W_congr fun r β1 => W_bnd.trans (W_congr fun _ β2 => W_bnd.trans (W_congr fun kr β3 => W_setIxG)))
end
end B


set_option Elab.async false
set_option linter.all false
set_option maxRecDepth 100000
set_option maxHeartbeats 4000000
namespace B
open PySem PySem.Spec L2
/-! # a new object that is let stay at once; lambdas that tell of lists, where the maker has none of its own -/
def mFz (me : M Rs) : M Rs := bnd me fun r => ret (.fz r.d)
/-- but for code objects all stays -/
def ButC (F F' : Hp) : Prop := ∀ b o, F b = some o → (∀ c q, o ≠ LamX.CodeO c q) → F' b = some o
section
variable {K : PySem.W.Frag} {mg : Str → Option Value} {F F' H : Hp}
theorem ButC.rd {a : Addr} {u : HO} (e : ButC F F') (hu : ∀ c q, u ≠ LamX.CodeO c q) (h : Rd F a u) : Rd F' a u := by
  rcases h with h | ⟨o, h⟩
  · exact .inl (e _ _ h hu)
  · exact .inr ⟨o, e _ _ h fun c q z => by unfold LamX.CodeO at z; cases z⟩
theorem ButC.sqT {a : Addr} {vs : List V} (e : ButC F F') (h : SqT K F a vs) : SqT K F' a vs := by
  rcases h with h | h
  · exact .inl (e.rd (fun c q z => by unfold LamX.CodeO at z; cases z) h)
  · exact .inr h
theorem ButC.sqL {a : Addr} {vs : List V} (e : ButC F F') (h : SqL K F a vs) : SqL K F' a vs := by
  rcases h with h | h
  · exact .inl (e.rd (fun c q z => by unfold LamX.CodeO at z; cases z) h)
  · exact .inr h
end
section
variable {K : PySem.W.Frag} {mg : Str → Option Value} {G : GT} {F F' H H' : Hp} {io : List Addr} {β : B.Env} {σ : L2.St}
end
section
variable {X : Cx}
end
section
variable {β : B.Env}
@[simp ↓] theorem W_mFz {me : M Rs} {Q : Rs → B.Env → Prop} {E : Exn → B.Env → Prop} : W (mFz me) β Q E ↔ W me β (fun r β1 => Q (.fz r.d) β1) E := by
  unfold mFz
  exact W_bnd.trans (W_congr fun r β1 => W_ret)
end
/-! ## is True, is not True -/
def gIsB : D → D → Option Rs
  | .bl a, .bl b => some (.fz (.bl (decide (a = b))))
  | _, _ => none
def gNotB : D → D → Option Rs
  | .bl a, .bl b => some (.fz (.bl (!decide (a = b))))
  | _, _ => none
section
variable {X : Cx}
end
@[simp ↓] theorem w_isB {a b : Bool} {P : Rs → Prop} : optW (gIsB (.bl a) (.bl b)) P ↔ P (.fz (.bl (decide (a = b)))) := Iff.rfl
@[simp ↓] theorem w_notB {a b : Bool} {P : Rs → Prop} : optW (gNotB (.bl a) (.bl b)) P ↔ P (.fz (.bl (!decide (a = b)))) := Iff.rfl
end B


set_option Elab.async false
set_option linter.all false
set_option maxRecDepth 100000
set_option maxHeartbeats 4000000
namespace B
open PySem PySem.Spec L2
/-! # except (A, B): clauses of one class or of two -/
inductive HdX2 (X : Cx) : List ExceptHandler → List (List Value × Option Nat × Suite) → Prop
  | nil : HdX2 X [] []
  | cons {x : Str} {c : Value} {ts : Suite} {b₀ : Stmt} {suite : List Stmt} {np pos' : Pos} {hds : List ExceptHandler} {l : List (List Value × Option Nat × Suite)} (hc : Names X x c)
      (hsu : ∀ (a : Addr) (oe : Obj) (cls : Value) (d : Option Addr) (pn : List (Addr × Obj)), Zc cls d oe → (∃ vs, oe.data = .fields vs) → PSs (X.suite a ((a, oe) :: pn)) (b₀ :: suite) (ts a cls d)) (r : HdX2 X hds l) :
      HdX2 X (.ExceptHandler (some (.Name x np)) none (b₀ :: suite) pos' :: hds) (([c], none, ts) :: l)
  | named {x n : Str} {i : Nat} {c : Value} {ts : Suite} {b₀ : Stmt} {suite : List Stmt} {np pos' : Pos} {hds : List ExceptHandler} {l : List (List Value × Option Nat × Suite)} (hc : Names X x c) (hN : X.N.Nodup) (hi : X.N[i]? = some n) (hln : X.env.kindOf n = some .local)
      (hsu : ∀ (a : Addr) (oe : Obj) (cls : Value) (d : Option Addr) (pn : List (Addr × Obj)), Zc cls d oe → (∃ vs, oe.data = .fields vs) → PSs (X.suite a ((a, oe) :: pn)) (b₀ :: suite) (ts a cls d)) (r : HdX2 X hds l) :
      HdX2 X (.ExceptHandler (some (.Name x np)) (some n) (b₀ :: suite) pos' :: hds) (([c], some i, ts) :: l)
  | pair {x1 x2 : Str} {c1 c2 : Value} {ts : Suite} {b₀ : Stmt} {suite : List Stmt} {p1 p2 tp pos' : Pos} {k : Nat} {hds : List ExceptHandler} {l : List (List Value × Option Nat × Suite)} (hc1 : Names X x1 c1) (hc2 : Names X x2 c2)
      (hsu : ∀ (a : Addr) (oe : Obj) (cls : Value) (d : Option Addr) (pn : List (Addr × Obj)), Zc cls d oe → (∃ vs, oe.data = .fields vs) → PSs (X.suite a ((a, oe) :: pn)) (b₀ :: suite) (ts a cls d)) (r : HdX2 X hds l) :
      HdX2 X (.ExceptHandler (some (.Tuple [.Name x1 p1, .Name x2 p2] k tp)) none (b₀ :: suite) pos' :: hds) (([c1, c2], none, ts) :: l)
section
variable {X : Cx} {body : List Stmt} {h₀ : ExceptHandler} {hds : List ExceptHandler} {l : List (List Value × Option Nat × Suite)} {pos : Pos} {tb : WX → TS} {Wout : WX}
/-- a new tuple changes nothing of it -/
theorem Fell.push {pins : List (Addr × Obj)} {a : Addr} {B : Heap} {sI s' : Shared} {σ : L2.St} {H : Hp} {cls : Value} {d : Option Addr} (f : Fell X pins a B sI σ H cls d s') (o : Obj) :
    Fell X pins a B sI σ H cls d { s' with heap := s'.heap.push o } := by
  have up : s'.heap.UpToSlots (s'.heap.push o) := fun b ob e _ => ⟨ob.slots, by rw [Heap.get?_push_of_some o e]⟩
  refine f.on ?_ up
  obtain ⟨f1, f2, f3, oe, vs, T, oT, ts, g1, g2, g3, g4, g5, g6, g7, g8, g9⟩ := f.fl
  refine ⟨fun b ob e => Heap.get?_push_of_some o (f1 b ob e), f2, Heap.FunFrames.of_keeps (fun b ob e _ => ⟨ob, Heap.get?_push_of_some o e, rfl⟩) f3, oe, vs, T, oT, ts, Heap.get?_push_of_some o g1, g2, g3, g4, g5, g6, Heap.get?_push_of_some o g7, g8, g9⟩
end
/-- the clauses -/
inductive HdB2 (X : Cx) : List ExceptHandler → List Hd → Prop
  | nil : HdB2 X [] []
  | cons {x : Str} {c : Value} {h : Hd} {b₀ : Stmt} {suite : List Stmt} {np pos' : Pos} {hds : List ExceptHandler} {l : List Hd} (hi : h.i = none) (hc : Names X x c) (ht : ∀ nm cls b, h.t nm = some b → X.mg nm = some cls → PySem.W.exmOne X.K cls c = some b)
      (hsu : ∀ (a : Addr) (oe : Obj) (cls : Value) (d : Option Addr) (pn : List (Addr × Obj)), Zc cls d oe → (∃ vs, oe.data = .fields vs) → BSs (X.suite a ((a, oe) :: pn)) (b₀ :: suite) (h.m a cls d)) (r : HdB2 X hds l) :
      HdB2 X (.ExceptHandler (some (.Name x np)) none (b₀ :: suite) pos' :: hds) (h :: l)
  | named {x n : Str} {i : Nat} {c : Value} {h : Hd} {b₀ : Stmt} {suite : List Stmt} {np pos' : Pos} {hds : List ExceptHandler} {l : List Hd} (hi : h.i = some i) (hc : Names X x c) (ht : ∀ nm cls b, h.t nm = some b → X.mg nm = some cls → PySem.W.exmOne X.K cls c = some b)
      (hN : X.N.Nodup) (hn : X.N[i]? = some n) (hln : X.env.kindOf n = some .local)
      (hsu : ∀ (a : Addr) (oe : Obj) (cls : Value) (d : Option Addr) (pn : List (Addr × Obj)), Zc cls d oe → (∃ vs, oe.data = .fields vs) → BSs (X.suite a ((a, oe) :: pn)) (b₀ :: suite) (h.m a cls d)) (r : HdB2 X hds l) :
      HdB2 X (.ExceptHandler (some (.Name x np)) (some n) (b₀ :: suite) pos' :: hds) (h :: l)
  | pair {x1 x2 : Str} {c1 c2 : Value} {h : Hd} {b₀ : Stmt} {suite : List Stmt} {p1 p2 tp pos' : Pos} {k : Nat} {hds : List ExceptHandler} {l : List Hd} (hi : h.i = none) (hc1 : Names X x1 c1) (hc2 : Names X x2 c2) (ht : ∀ nm cls b, h.t nm = some b → X.mg nm = some cls → PySem.W.exmAny X.K cls [c1, c2] = some b)
      (hsu : ∀ (a : Addr) (oe : Obj) (cls : Value) (d : Option Addr) (pn : List (Addr × Obj)), Zc cls d oe → (∃ vs, oe.data = .fields vs) → BSs (X.suite a ((a, oe) :: pn)) (b₀ :: suite) (h.m a cls d)) (r : HdB2 X hds l) :
      HdB2 X (.ExceptHandler (some (.Tuple [.Name x1 p1, .Name x2 p2] k tp)) none (b₀ :: suite) pos' :: hds) (h :: l)
section
variable {X : Cx}
variable {body : List Stmt} {h₀ : ExceptHandler} {hds : List ExceptHandler} {hs : List Hd} {pos : Pos} {mb : M Fl}
end
section
variable {X : Cx} {x n : Str} {i : Nat} {m : Su} {b₀ : Stmt} {suite : List Stmt} {np pos' : Pos} {hds : List ExceptHandler} {hs : List Hd} {l : List (Str × Bool)}
end
end B


set_option Elab.async false
set_option linter.all false
set_option maxRecDepth 100000
set_option maxHeartbeats 4000000
namespace B
open PySem PySem.Spec L2 PyProof.Rows
/-! # a tuple of a text and a new list of ints, that nobody else holds: read, its list appended to, forgotten; what is one's own is seen as data while a test runs -/
structure PvT (K : PySem.W.Frag) (mg : Str → Option Value) (F P : Hp) (a : Addr) (d : D) : Prop where
  dr : DR K mg (orH P F) (.ref a) d
  ex : ∀ (x : Str) (es : List D), d = .nd .tup [.str x, .nd .lst es] → ∃ b vs, orH P F a = some (.tup [.str x, .ref b]) ∧ P b = some (.lst vs) ∧ vs.length = es.length
section
variable {K : PySem.W.Frag} {mg : Str → Option Value} {G : GT} {F F' F1 H H1 P : Hp} {io : List Addr} {β β1 : B.Env} {σ : L2.St} {a : Addr} {d : D} {i : Nat}
end
/-! ## a call that tells such a tuple -/
def frees2 (is : List Int) : List Bool → List D → Bool
  | false :: ks, d :: ds => freeOf is d && frees2 is ks ds
  | true :: ks, d :: ds => immK d && frees2 is ks ds
  | _, _ => true
def okT (ks : List Bool) (ds : List D) : D → Bool
  | .nd .tup [.str _, .nd .lst es] => match intsOf es with
    | some is => frees2 is ks ds
    | none => false
  | .nd .tup [.str _, e] => atom e
  | _ => false
def newT (ks : List Bool) (f : List D → FR) (ps : List Pl) : M D := fun β => match resA β ks ps with
  | some (ds, is, []) => if is.Nodup then (match f ds with
    | .ok (.fz d) ios => if ios.length = is.length ∧ ios.all immK = true ∧ okT ks ds d = true then .ok d (putIo β is ios) else .stuck
    | _ => .stuck) else .stuck
  | _ => .stuck
section
variable {K : PySem.W.Frag} {mg : Str → Option Value} {G : GT} {F F' F0 F1 H H1 P : Hp} {io : List Addr} {β β1 : B.Env} {σ : L2.St} {a : Addr} {d : D} {i : Nat}
theorem AR.but {is : List Int} (k : ∀ a o, F a = some o → o ≠ .lst (is.map V.int) → F0 a = some o) : ∀ {ks : List Bool} {as : List Addr} {vs : List V} {ds : List D}, AR K mg F H ks as vs ds → frees2 is ks ds = true → AR K mg F0 H ks as vs ds
  | _, _, _, _, .nil, _ => .nil
  | _, _, _, _, .fz r ar, e => by
    simp only [frees2, Bool.and_eq_true] at e
    exact .fz (r.but k e.1) (AR.but k ar e.2)
  | _, _, _, _, .io r ar, e => by
    simp only [frees2, Bool.and_eq_true] at e
    exact .io (r.immF (fun a xs h => k _ _ h nofun) (fun a o u h => k _ _ h nofun) e.1) (AR.but k ar e.2)
end
def mNewTF (ks : List Bool) (f : List D → FR) (ma : M (List Pl)) : M D := bnd ma (newT ks f)
section
variable {X : Cx} {k j i : Nat} {x : Str} {prm : List Str} {ks : List Bool} {f : List D → FR} {p p1 pos apos cpos : Pos} {e : Expr} {es : List Expr} {ma : M (List Pl)} {mn : M D} {kk : D → M Fl} {rest body : List Stmt} {m n : M Fl} {mt : M Bool}
end
/-! ## what is wished for -/
section
variable {β : B.Env} {E : Exn → B.Env → Prop} {i : Nat} {ks : List Bool} {f : List D → FR} {ma : M (List Pl)} {mn : M D} {kk : D → M Fl} {m m' : M Fl} {mt : M Bool} {Q : Fl → B.Env → Prop} {d : D}
@[simp ↓] theorem W_mNewTF {Q : D → B.Env → Prop} : W (mNewTF ks f ma) β Q E ↔ W ma β (fun ps β1 => W (newT ks f ps) β1 Q E) E := W_bnd
end
end B


set_option Elab.async false
set_option linter.all false
set_option maxRecDepth 100000
set_option maxHeartbeats 4000000
namespace B
open PySem PySem.Spec L2 PyProof.Rows PySem.W
/-! # dicts whose keys are ints -/
abbrev Dki := List (Int × D)
def entI (p : Int × D) : D := .nd .tup [.int p.1, p.2]
def dkD (l : Dki) : D := .nd .dct (l.map entI)
def ent1? : D → Option (Int × D)
  | .nd .tup [.int i, d] => some (i, d)
  | _ => none
def entsI : List D → Option Dki
  | [] => some []
  | e :: es => match ent1? e, entsI es with
    | some p, some l => some (p :: l)
    | _, _ => none
theorem entsI_map : ∀ l : Dki, entsI (l.map entI) = some l
  | [] => rfl
  | p :: l => by
    rw [List.map_cons, entsI, entsI_map l]
    rfl
def putI (l : Dki) (i : Int) (d : D) : Dki := if (l.any fun p => decide (p.1 = i)) = true then l.map (fun p => if p.1 = i then (p.1, d) else p) else l ++ [(i, d)]
def updI (l m : Dki) : Dki := m.foldl (fun acc p => putI acc p.1 p.2) l
section
variable {K : PySem.W.Frag} {mg : Str → Option Value} {F F' H : Hp}
def EntI (K : PySem.W.Frag) (mg : Str → Option Value) (F : Hp) (kvs : List (Key × V)) (l : Dki) : Prop := Paired (fun (x : Key × V) (p : Int × D) => x.1 = .inl p.1 ∧ DR K mg F x.2 p.2) kvs l
theorem EntI.mono {kvs : List (Key × V)} {l : Dki} (h : EntI K mg F kvs l) (e : Same F F') : EntI K mg F' kvs l := Paired.mapP h fun x p ⟨h1, h2⟩ => ⟨h1, h2.mono e⟩
theorem EntI.len {kvs : List (Key × V)} {l : Dki} (h : EntI K mg F kvs l) : kvs.length = l.length := Paired.length h
theorem EntI.any {kvs : List (Key × V)} {l : Dki} (h : EntI K mg F kvs l) (i : Int) : (kvs.any fun kv => decide (kv.1 = .inl i)) = l.any fun p => decide (p.1 = i) := by
  unfold EntI at h
  induction h with
  | nil => rfl
  | @cons x p xs l q t ih =>
    rw [List.any_cons, List.any_cons, ih, q.1]
    congr 1
    by_cases e : p.1 = i
    · simp [e]
    · have : ¬ (Sum.inl p.1 : Key) = .inl i := fun z => e (Sum.inl.inj z)
      simp [e, this]
theorem EntI.put {kvs : List (Key × V)} {l : Dki} (h : EntI K mg F kvs l) {i : Int} {v : V} {d : D} (r : DR K mg F v d) : EntI K mg F (putK kvs (.inl i) v) (putI l i d) := by
  unfold putK putI
  rw [h.any i]
  by_cases c : (l.any fun p => decide (p.1 = i)) = true
  · rw [if_pos c, if_pos c]
    clear c
    unfold EntI at h ⊢
    induction h with
    | nil => exact .nil
    | @cons x p xs l q t ih =>
      refine .cons ?_ ih
      show (if x.1 = .inl i then (x.1, v) else x).1 = Sum.inl (if p.1 = i then (p.1, d) else p).1 ∧ DR K mg F (if x.1 = .inl i then (x.1, v) else x).2 (if p.1 = i then (p.1, d) else p).2
      by_cases e : p.1 = i
      · rw [if_pos e, if_pos (q.1.trans (by rw [e]))]
        exact ⟨q.1, r⟩
      · rw [if_neg e, if_neg (fun z => e (Sum.inl.inj (q.1.symm.trans z)))]
        exact q
  · rw [if_neg c, if_neg c]
    unfold EntI at h ⊢
    induction h with
    | nil => exact .cons ⟨rfl, r⟩ .nil
    | @cons x p xs l q t ih =>
      refine .cons q (ih fun z => c ?_)
      rw [List.any_cons, z, Bool.or_true]
theorem EntI.parts {kvs : List (Key × V)} {l : Dki} (h : EntI K mg F kvs l) : DRs K mg F (kvs.map (·.2)) (l.map (·.2)) ∧ KDs (kvs.map (·.1)) (l.map (·.2)) (l.map entI) ∧ kvs.map (·.1) = l.map fun p => Sum.inl p.1 := by
  unfold EntI at h
  induction h with
  | nil => exact ⟨.nil, .nil, rfl⟩
  | @cons x p xs l r _ ih =>
    refine ⟨.cons r.2 ih.1, ?_, by rw [List.map_cons, List.map_cons, r.1, ih.2.2]⟩
    rw [List.map_cons, List.map_cons, List.map_cons, r.1]
    exact .cons ih.2.1
def intD? : D → Option Int
  | .int i => some i
  | _ => none
end
/-! ## {k: v for target in iter if ..}, the keys ints -/
section
variable {X : Cx}
def stI (mk mv : M Rs) : Dki → M Dki := fun l => bnd mk fun rk => bnd mv fun rv => match intD? rk.d with
  | some i => if l.length < sizeLine then ret (putI l i rv.d) else stk
  | none => stk
def mDictCI (vs : List Nat) (mi : M (List D)) (g : D → M Unit) (mt : M Bool) (mk mv : M Rs) : M Rs := bnd (mCompG vs mi g mt (stI mk mv) []) fun l => ret (.own (dkD l))
/-- {} for keys that are ints -/
def mDictI0 : M Rs := ret (.own (dkD []))
/-! ## d.update(e) -/
def gUpdI : D → List D → Option (D × D)
  | .nd .dct es, [.nd .dct fs] => match entsI es, entsI fs with
    | some l, some m => if l.length + m.length ≤ sizeLine then some (.non, dkD (updI l m)) else none
    | _, _ => none
  | _, _ => none
def isI : D → Bool
  | .nd .dct es => (entsI es).isSome
  | _ => false
def ownI (i : Nat) : M Unit := fun β => match β[i]? with
  | some (.own _ d) => if isI d = true then .ok () β else .stuck
  | _ => .stuck
def mUpdI (i : Nat) (ma : M (List Pl)) : M Rs := bnd (ownI i) fun _ => bnd ma fun ps => finM i gUpdI ps
/-! ## i in d -/
end
/-! ## sorted(d) -/
section
variable {X : Cx}
/-! ## max(xs, default=e) -/
def gMaxD : List D → List D → Option Rs
  | [.nd .lst ds], [.int d] => (ints? ds).map fun ns => .fz (.int (match ns with
    | [] => d
    | n :: ns => ns.foldl (fun a b => if b > a then b else a) n))
  | _, _ => none
def mMaxD (m mk : M (List Pl)) : M Rs := bnd m fun ps => bnd mk fun qs => fun β => match looks β ps, looks β qs with
  | some ds, some es => (match gMaxD ds es with
    | some r => .ok r β
    | none => .stuck)
  | _, _ => .stuck
end
end B


set_option Elab.async false
set_option linter.all false
set_option maxRecDepth 100000
set_option maxHeartbeats 4000000
namespace B
open PySem PySem.Spec L2 PyProof.Rows PySem.W
/-! # dicts whose keys are ints: the order on runs -/
/-! ## range(i, j, c), c above 0 -/
def upN (i j c : Int) : Nat := if i < j then ((j - i - 1) / c + 1).toNat else 0
def rngS (ps : List Pl) : M (List D) := fun β => match looks β ps with
  | some [.int i, .int j, .int c] => if inR i = true ∧ inR j = true ∧ 0 < c ∧ c ≤ 1048576 then .ok ((List.range (upN i j c)).map fun k : Nat => D.int (i + (k : Int) * c)) β else .stuck
  | _ => .stuck
section
variable {X : Cx}
end
@[simp ↓] theorem W_rngS {β : B.Env} {E : Exn → B.Env → Prop} {ps : List Pl} {Q : List D → B.Env → Prop} : W (rngS ps) β Q E ↔ optW (looks β ps) fun l => r3W l fun i j c => (inR i = true ∧ inR j = true ∧ 0 < c ∧ c ≤ 1048576) ∧ Q ((List.range (upN i j c)).map fun k : Nat => D.int (i + (k : Int) * c)) β := by
  unfold W rngS
  cases looks β ps with
  | none => with_unfolding_all exact Iff.rfl
  | some l =>
    rcases l with _ | ⟨d, _ | ⟨d2, _ | ⟨d3, _ | ⟨d4, l⟩⟩⟩⟩
    · with_unfolding_all exact Iff.rfl
    · cases d <;> with_unfolding_all exact Iff.rfl
    · cases d <;> cases d2 <;> with_unfolding_all exact Iff.rfl
    · cases d with
      | int i =>
        cases d2 with
        | int j =>
          cases d3 with
          | int c =>
            simp only [optW_some, r3W_mk]
            by_cases h : inR i = true ∧ inR j = true ∧ 0 < c ∧ c ≤ 1048576
            · rw [if_pos h]; simp [h]
            · rw [if_neg h]
              exact ⟨fun q => q.elim, fun q => h q.1⟩
          | _ => with_unfolding_all exact Iff.rfl
        | _ => cases d3 <;> with_unfolding_all exact Iff.rfl
      | _ => cases d2 <;> cases d3 <;> with_unfolding_all exact Iff.rfl
    · cases d <;> cases d2 <;> cases d3 <;> with_unfolding_all exact Iff.rfl
end B


set_option Elab.async false
set_option linter.all false
set_option maxRecDepth 100000
set_option maxHeartbeats 4000000
namespace B
open PySem PySem.Spec L2
/-! # dicts whose keys are ints: what is wished for -/
/-- such a dict, all values True -/
def yesI (l : List Int) : Dki := l.map fun i => (i, .bl true)
section
variable {β : B.Env} {E : Exn → B.Env → Prop} {i : Nat} {ma : M (List Pl)} {l m : Dki}
@[simp] theorem isI_dk : isI (dkD l) = true := by
  show (entsI (l.map entI)).isSome = true
  rw [entsI_map]
  rfl
@[simp ↓] theorem W_ownI {Q : Unit → B.Env → Prop} : W (ownI i) β Q E ↔ ownW β[i]? fun _ d => isI d = true ∧ Q () β := by
  unfold W ownI ownW
  rcases β[i]? with _ | _ | _ | _ | ⟨_, d⟩ | _
  · with_unfolding_all rfl
  · with_unfolding_all rfl
  · with_unfolding_all rfl
  · with_unfolding_all rfl
  · simp only
    by_cases h : isI d = true
    · rw [if_pos h]; simp [h]
    · rw [if_neg h]; simp [h]
  · with_unfolding_all rfl
@[simp ↓] theorem W_mUpdI {Q : Rs → B.Env → Prop} : W (mUpdI i ma) β Q E ↔ W (ownI i) β (fun _ β1 => W ma β1 (fun ps β2 => W (finM i gUpdI ps) β2 Q E) E) E := by
  unfold mUpdI
  refine W_bnd.trans (W_congr fun p β1 => ?_)
  rw [W_bnd]
@[simp ↓] theorem W_mDictI0 {Q : Rs → B.Env → Prop} : W mDictI0 β Q E ↔ Q (.own (dkD (yesI []))) β := by with_unfolding_all exact Iff.rfl
@[simp ↓] theorem W_mDictCI {vs : List Nat} {mi : M (List D)} {g : D → M Unit} {mt : M Bool} {mk mv : M Rs} {Q : Rs → B.Env → Prop} : W (mDictCI vs mi g mt mk mv) β Q E ↔ W (mCompG vs mi g mt (stI mk mv) []) β (fun l β1 => Q (.own (dkD l)) β1) E := by
  unfold mDictCI
  refine W_bnd.trans (W_congr fun l β1 => ?_)
  exact W_ret
@[simp ↓] theorem W_mMaxD {m mk : M (List Pl)} {Q : Rs → B.Env → Prop} : W (mMaxD m mk) β Q E ↔ W m β (fun ps β1 => W mk β1 (fun qs β2 => optW (looks β2 ps) fun ds => optW (looks β2 qs) fun es => optW (gMaxD ds es) fun r => Q r β2) E) E := by
  unfold mMaxD
  refine W_bnd.trans (W_congr fun ps β1 => W_bnd.trans (W_congr fun qs β2 => ?_))
  unfold W
  simp only []
  cases looks β2 ps with
  | none => with_unfolding_all exact Iff.rfl
  | some ds =>
    cases looks β2 qs with
    | none => with_unfolding_all exact Iff.rfl
    | some es =>
      simp only [optW]
      cases gMaxD ds es <;> with_unfolding_all exact Iff.rfl
end
end B


set_option Elab.async false
set_option linter.all false
set_option maxRecDepth 100000
set_option maxHeartbeats 4000000
namespace B
open PySem PySem.Spec L2 PyProof.Rows
/-! # exceptions as values -/
section
variable {K : PySem.W.Frag} {mg : Str → Option Value} {F H : Hp} {a b : Addr} {o u : HO} {d : D}
/-- a new thing that stays -/
theorem NR.put (sf : Same F H) (ha : H a = none) (h : ∀ F', Same F F' → F' a = some o → DR K mg F' (.ref a) d) : NR K mg F H (.fz d) (.ref a) (upd H a o) := by
  have fa := Same.free sf ha
  have sm : Same F (upd F a o) := fun b u h => by
    rw [upd_ne (ne_of_none h fa)]
    exact h
  refine ⟨fun b o e => by rw [upd_ne (ne_of_none e ha)]; exact e, upd F a o, sm, fun b o h => ?_, fun b o h => ?_, h _ sm upd_same⟩
  · by_cases hb : b = a
    · subst hb
      exact .inr ha
    · rw [upd_ne hb] at h
      exact .inl h
  · by_cases hb : b = a
    · subst hb
      rw [upd_same] at h ⊢
      exact h
    · rw [upd_ne hb] at h ⊢
      exact sf b o h
end
section
variable {X : Cx} {x : Str} {p pos : Pos}
def mXc0 (c : Str) (me : M Rs) : M Rs := bnd me fun _ => ret (.fz (.nd (.xc c []) []))
end
end B


set_option Elab.async false
set_option linter.all false
set_option maxRecDepth 100000
set_option maxHeartbeats 4000000
/-! # exceptions as values: handed their things by name; isinstance, fields -/
namespace PySem
namespace BKX
open HandSPX Builtin Builtin.ObjectAttr
section
variable {prog : Program} {w : World} {A : Around} {E : Value → Shared → Prop} {R : Result → Shared → Prop} {h : Heap} {g : Array GenState} {d : Drawn} {t : Nat} {os : OsState} {kw : List (Str × Value)}
variable {nm q : Str} {C N : Addr} {bs bm bmB : List Value} {hdct : Bool} {sn : List Str} {sub : List Value} {ab : Bool} {col : Option Bool} {dd : Option Addr} {k0 k1 k2 k3 k5 : Option Value} {B newId initId : String}
end
end BKX
end PySem
namespace B
open PySem PySem.Spec L2 PyProof.Rows PySem.BKX
section
variable {X : Cx} {x y : Str} {p p2 pos : Pos}
/-- C(e), C with an __init__ that stores it -/
def xcIR (c f : Str) (q : Pl) : M Rs := fun β => match q with
  | .d d => .ok (.fz (.nd (.xc c [f]) [d])) β
  | _ => .stuck
def mXcI (c f : Str) (ma : M Pl) : M Rs := bnd ma (xcIR c f)
/-- what the written part says of such a class, made of its thing by name -/
structure XClsK (K : PySem.W.Frag) (mg : Str → Option Value) (c f : Str) (st : Stmt) (qual : Str) : Prop where
  ex : ∃ (C fI : Addr) (fd : FuncData), mg c = some (.ref C) ∧ OexC K C ∧ PySem.W.findIn K (.ref C) "__init__" = some (some (.ref fI)) ∧ PySem.W.typeIn K (.ref fI) = some (.type "function") ∧ L2.Fun K "__init__" qual st fI fd ∧ Binds K fd ["self", f] ([] : List Value) ∧ PySem.W.findIn K (.ref C) f = some none ∧
    KBn K fd ["self", f] 1 [f] (fun us ws => us ++ pick [0] ws) (fun vs zs => vs ++ pick [0] zs)
theorem XClsK.i {K : PySem.W.Frag} {mg : Str → Option Value} {c f : Str} {st : Stmt} {qual : Str} (Z : XClsK K mg c f st qual) : XClsI K mg c f st qual := by
  obtain ⟨C, fI, fd, h1, h2, h3, h4, h5, h6, h7, _⟩ := Z.ex
  exact ⟨C, fI, fd, h1, h2, h3, h4, h5, h6, h7⟩
def xcKR (c f : Str) (qs : List Pl) : M Rs := match qs with
  | [q] => xcIR c f q
  | _ => stk
def mXcK (c f : Str) (mk : M (List Pl)) : M Rs := bnd mk (xcKR c f)
/-! ## isinstance, fields -/
end
end B


set_option Elab.async false
set_option linter.all false
set_option maxRecDepth 100000
set_option maxHeartbeats 4000000
namespace B
open PySem PySem.Spec L2
/-! # exceptions as values: what is wished for behind them -/
section
variable {β : B.Env} {E : Exn → B.Env → Prop}
@[simp ↓] theorem W_mXc0 {c : Str} {me : M Rs} {Q : Rs → B.Env → Prop} : W (mXc0 c me) β Q E ↔ W me β (fun _ β1 => Q (.fz (.nd (.xc c []) [])) β1) E := by
  unfold mXc0
  refine W_bnd.trans (W_congr fun ps β1 => ?_)
  exact W_ret
def plW (q : Pl) (P : D → Prop) : Prop := match q with
  | .d d => P d
  | _ => False
@[simp ↓] theorem plW_d {d : D} {P : D → Prop} : plW (.d d) P ↔ P d := Iff.rfl
theorem W_xcIR {c f : Str} {q : Pl} {Q : Rs → B.Env → Prop} : W (xcIR c f q) β Q E ↔ plW q fun d => Q (.fz (.nd (.xc c [f]) [d])) β := by
  unfold xcIR W
  cases q with
  | d d => exact Iff.rfl
  | sl i => exact Iff.rfl
@[simp ↓] theorem W_mXcI {c f : Str} {ma : M Pl} {Q : Rs → B.Env → Prop} : W (mXcI c f ma) β Q E ↔ W ma β (fun q β1 => plW q fun d => Q (.fz (.nd (.xc c [f]) [d])) β1) E := by
  unfold mXcI
  exact W_bnd.trans (W_congr fun ps β1 => W_xcIR)
def plsW (qs : List Pl) (P : D → Prop) : Prop := match qs with
  | [q] => plW q P
  | _ => False
@[simp ↓] theorem plsW_d {q : Pl} {P : D → Prop} : plsW [q] P ↔ plW q P := Iff.rfl
@[simp ↓] theorem W_mXcK {c f : Str} {mk : M (List Pl)} {Q : Rs → B.Env → Prop} : W (mXcK c f mk) β Q E ↔ W mk β (fun qs β1 => plsW qs fun d => Q (.fz (.nd (.xc c [f]) [d])) β1) E := by
  unfold mXcK
  refine W_bnd.trans (W_congr fun qs β1 => ?_)
  unfold xcKR plsW
  rcases qs with _ | ⟨q, _ | ⟨q2, qs⟩⟩
  · exact W_stk
  · exact W_xcIR
  · exact W_stk
end
end B


set_option Elab.async false
set_option linter.all false
set_option maxRecDepth 100000
set_option maxHeartbeats 4000000
/-! # x in [..], x of a class with an own __eq__, none of the items like it -/
namespace PySem
namespace BKX
open PySem.SeqAt AutoSeq1 MeetsSeq MeetsSeq2 MeetsSeq3 SeqRoads2 PySem.W PyProof.Rows
section
variable {prog : Program} {w : World} {A : Around} {E : Value → Shared → Prop} {s : Shared} {K : Frag} {b C f : Addr} {ob : Obj} {od : Option Obj}
/-- a == b: a's own == declines, b's class has an __eq__ of the program -/
theorem rc_refl {a : Value} {Ta ida : String} {Q : Value → Shared → Prop} (hu : A.units < cLine) (KX : K.In s.heap) (I : PySem.W.InstAt s.heap b ob C od) (ha : s.TypeIs a Ta) (no : subIn K (.ref C) (.type Ta) = some false) (h1 : Slot Ta "__eq__" ida)
    (dec : ∀ Q' : Value → Shared → Prop, Q' .notImplemented s → wpAny (model prog w) A (call (.builtin ida) [a, .ref b]) Q' E s)
    (hs : findIn K (.ref C) "__eq__" = some (some (.ref f))) (hf : isFn K (.ref f) = true)
    (h : wpAny (model prog w) A (call (.ref f) [.ref b, a]) (W.CmpBack Q) E s) : wpAny (model prog w) A (richCompare .Eq a (.ref b)) Q E s := by
  have left : wpAny (model prog w) A (tryCompare a "__eq__" (.ref b)) (fun r s' => r = none ∧ s' = s) E s := wpAny_tryCompare_declines ha h1 (dec _ ⟨rfl, rfl, rfl⟩)
  have right : wpAny (model prog w) A (tryCompare (.ref b) "__eq__" a) (fun r s' => ∃ v, r = some v ∧ Q v s') E s := by
    unfold tryCompare
    refine wpAny_bind (ifBound_K KX I hs hf (wpAny_mono h (fun v s' hv => ?_) fun _ _ e => e))
    cases v <;> first | exact hv.elim | exact wpAny_pure ⟨_, rfl, hv⟩
  simp only [richCompare, cmpInfo_Eq, ha.oneThing_none]
  refine wpAny_holding (wpAny_bind (wpAny_cRoomFor hu ?_))
  refine wpAny_bind (wpAny_typeOf ha (wpAny_bind (I.type.here ?_)))
  split
  · refine wpAny_bind ((looks_subIn KX no).here ?_)
    simp only [Bool.false_eq_true, if_false, Bool.not_false, if_true]
    refine wpAny_bind (m := tryCompare a _ (.ref b)) (wpAny_mono left (fun r s1 z => ?_) fun _ _ e => e)
    obtain ⟨z1, z2⟩ := z
    subst z1
    subst z2
    refine wpAny_bind (m := tryCompare (.ref b) _ a) (wpAny_mono right (fun r s2 z => ?_) fun _ _ e => e)
    obtain ⟨v, rfl, hq⟩ := z
    exact wpAny_pure hq
  · rename_i q
    exact absurd (by simp) q
theorem sub_of (KX : K.In s.heap) (I : PySem.W.InstAt s.heap b ob C od) {T : String} (no : subIn K (.ref C) (.type T) = some false) : Looks (model prog w) s.heap (isInstance (.ref b) (.type T)) false := I.type.andThen (looks_subIn KX no)
theorem dec_list {l : Addr} {items : Array Value} {n : Nat} {dd : Option Addr} {sl : Array (Option Value)} (KX : K.In s.heap) (I : PySem.W.InstAt s.heap b ob C od) (no : subIn K (.ref C) (.type "list") = some false)
    (hl : s.heap.get? l = some { cls := .type "list", dict := dd, data := .seq items n, slots := sl }) (Q' : Value → Shared → Prop) (q : Q' .notImplemented s) : wpAny (model prog w) A (call (.builtin "list.__eq__") [.ref l, .ref b]) Q' E s := by
  refine GQ.call_here PySem.F.slot_list_eq ⟨_, hl, rfl⟩ PySem.F.entry_list_eq (PySem.F.args_list_eq_2 _ _) ?_
  have sub := sub_of (prog := prog) (w := w) KX I no
  unfold Builtin.«list.__eq__»
  refine wpAny_bind (wpAny_of_eq (a := ((Value.ref l : Value), [Value.ref b])) (by first | rfl | (simp only [slotArgs]; rfl)) ?_)
  refine wpAny_bind (sub.here ?_)
  obtain ⟨hp, g, d, tk, os⟩ := s
  wp_walk
  exact q
theorem dec_tuple {l : Addr} {items : Array Value} (KX : K.In s.heap) (I : PySem.W.InstAt s.heap b ob C od) (no : subIn K (.ref C) (.type "tuple") = some false)
    (hl : s.heap.IsTuple l items) (Q' : Value → Shared → Prop) (q : Q' .notImplemented s) : wpAny (model prog w) A (call (.builtin "tuple.__eq__") [.ref l, .ref b]) Q' E s := by
  obtain ⟨o, ho, hc, _⟩ := id hl
  refine GQ.call_here PySem.F.slot_tuple_eq ⟨_, ho, hc⟩ PySem.F.entry_tuple_eq (PySem.F.args_tuple_eq_2 _ _) ?_
  have sub := sub_of (prog := prog) (w := w) KX I no
  unfold Builtin.«tuple.__eq__»
  refine wpAny_bind (wpAny_of_eq (a := ((Value.ref l : Value), [Value.ref b])) (by first | rfl | (simp only [slotArgs]; rfl)) ?_)
  refine wpAny_bind (sub.here ?_)
  obtain ⟨hp, g, d, tk, os⟩ := s
  wp_walk
  exact q
theorem dec_none (Q' : Value → Shared → Prop) (q : Q' .notImplemented s) : wpAny (model prog w) A (call (.builtin "NoneType.__eq__") [.none, .ref b]) Q' E s :=
  PySem.call_gives PySem.F.slot_NoneType_eq_refl rfl PySem.F.entry_NoneType_eq (PySem.F.args_NoneType_eq_2 _ _) (NoneType___eq___none_ref_0 b) q
theorem dec_int {i : Int} {tk : Tok} {dx : Addr} (hx : s.heap.get? b = some (instObj C dx)) (Q' : Value → Shared → Prop) (q : Q' .notImplemented s) : wpAny (model prog w) A (call (.builtin "int.__eq__") [.int i tk, .ref b]) Q' E s := by
  refine GQ.call_here PySem.F.slot_int_eq (typeIs_int s i tk) PySem.F.entry_int_eq (PySem.F.args_int_eq_2 _ _) ?_
  obtain ⟨hp, g, d, tk, os⟩ := s
  wp_walk using wpAny_loadPart' hx, wpAny_load hx
  exact q
end
section
variable {prog : Program} {w : World} {A : Around} {R : Result → Shared → Prop}
open PySem.SeqAt in
/-- at each turn: the list is read, the item is not like x -/
theorem none_loop (l : Addr) (N : Nat) (x : Value) (I : Nat → Shared → Prop)
    (at_ : ∀ i s, I i s → ∃ (its : Array Value) (n : Nat) (dd : Option Addr) (sl : Array (Option Value)), s.heap.get? l = some { cls := .type "list", dict := dd, data := .seq its n, slots := sl } ∧ its.size = N ∧
      ∀ (h1 : i < its.size), wpAny (model prog w) A.in1 (eqBool its[i] x) (fun r s' => r = false ∧ I (i + 1) s') (fun e s' => R (.error e) s') s)
    (fin : ∀ s, I N s → R (.ok (.ret (.bool false))) s) (m : Nat) :
    ∀ i : Nat, N - i = m → i ≤ N → ∀ s, I i s → wpAny (model prog w) A.in1 (Builtin.«list.__contains__.loop» ⟨[.ref l, x, rawInt i], []⟩) (GQ.FinOf prog w A R) (fun e s' => R (.error e) s') s := by
  induction m with
  | zero =>
    intro i im iN s h
    obtain ⟨its, n, dd, sl, look, size, _⟩ := at_ _ _ h
    have iN' : i = N := by omega
    have last : R (.ok (.ret (.bool false))) s := fin s (iN' ▸ h)
    obtain ⟨hp, g, d, tk, os⟩ := s
    wp_walk using wpAny_loadPart' look
    have out : its[((i : Nat) : Int).toNat]? = none := by simp; omega
    rw [out]
    wp_walk
    exact last
  | succ m ih =>
    intro i im iN s h
    obtain ⟨its, n, dd, sl, look, size, turn⟩ := at_ _ _ h
    have lt1 : i < its.size := by omega
    have turn1 := turn lt1
    obtain ⟨hp, g, d, tk, os⟩ := s
    wp_walk using wpAny_loadPart' look
    have ins : its[((i : Nat) : Int).toNat]? = some its[i] := by simp [lt1]
    have cast : ((i : Int) + 1) = ((i + 1 : Nat) : Int) := by omega
    rw [ins]
    refine wpAny_bind (wpAny_mono turn1 (fun r s2 z => ?_) fun _ _ x => x)
    obtain ⟨rf, z⟩ := z
    subst rf
    have more := ih (i + 1) (by omega) (by omega) s2 z
    obtain ⟨hp2, g2, d2, tk2, os2⟩ := s2
    wp_walk
    rw [cast]
    exact ⟨plainId_quiet plain_contains_loop _, codeAny_builtin entry_contains_loop (by
      rw [Around.under_plainId plain_contains_loop _]
      exact more)⟩
end
section
variable {prog : Program} {w : World} {A : Around} {E : Value → Shared → Prop} {s : Shared}
theorem none_in {l : Addr} {N : Nat} {x : Value} {Q : Value → Shared → Prop} (I : Nat → Shared → Prop)
    (at_ : ∀ i s, I i s → ∃ (its : Array Value) (n : Nat) (dd : Option Addr) (sl : Array (Option Value)), s.heap.get? l = some { cls := .type "list", dict := dd, data := .seq its n, slots := sl } ∧ its.size = N ∧
      ∀ (h1 : i < its.size), wpAny (model prog w) A.in1 (eqBool its[i] x) (fun r s' => r = false ∧ I (i + 1) s') E s)
    (fin : ∀ s, I N s → Q (.bool false) s) (h : I 0 s) : wpAny (model prog w) A (compareOp .In x (.ref l)) Q E s := by
  obtain ⟨its, n, dd, sl, look, _⟩ := at_ _ _ h
  refine In_slot ⟨_, look, rfl⟩ PySem.F.slot_list_contains (GQ.call_here PySem.F.slot_list_contains ⟨_, look, rfl⟩ PySem.F.entry_list_contains (PySem.F.args_list_contains_2 _ _) ?_)
  have go := none_loop (prog := prog) (w := w) (A := A) (R := wants (fun r s' => wpAny (model prog w) A (truthy r) (fun b s'' => Q (.bool b) s'') E s') E) l N x I at_ (fun s' z => wpAny_truthy_bool (fin s' z)) _ 0 rfl (Nat.zero_le _) s h
  obtain ⟨hp, g, d, tk, os⟩ := s
  wp_walk using wpAny_loadPart' look
  exact ⟨plainId_quiet plain_contains_loop _, codeAny_builtin entry_contains_loop (by
    rw [Around.under_plainId plain_contains_loop _]
    exact go)⟩
end
end BKX
end PySem


set_option Elab.async false
set_option linter.all false
set_option maxRecDepth 100000
set_option maxHeartbeats 4000000
namespace B
open PySem PySem.Spec L2 PySem.BKX
/-! # x in [..], x of a class with an own __eq__: none of the items is like it -/
/-- the class stands under no such type -/
structure NoSub (K : PySem.W.Frag) (mg : Str → Option Value) (c : Str) : Prop where
  ex : ∃ C : Addr, mg c = some (.ref C) ∧ PySem.W.subIn K (.ref C) (.type "NoneType") = some false ∧ PySem.W.subIn K (.ref C) (.type "int") = some false ∧ PySem.W.subIn K (.ref C) (.type "list") = some false ∧ PySem.W.subIn K (.ref C) (.type "tuple") = some false
def falR : FR → Bool
  | .ok (.fz (.bl false)) [] => true
  | _ => false
theorem falR_eq {r : FR} (h : falR r = true) : r = .ok (.fz (.bl false)) [] := by
  unfold falR at h
  split at h
  · rfl
  · cases h
def itOk : D → Bool
  | .non => true
  | .int _ => true
  | .nd .lst _ => true
  | .nd .tup _ => true
  | _ => false
def gInO (c : Str) (g : List D → FR) (d e : D) : Option Rs := match d, e with
  | .nd (.ins c1 n1) d1, .nd .lst ds => if c1 = c ∧ ds.all (fun y => itOk y && falR (g [.nd (.ins c1 n1) d1, y])) = true then some (.fz (.bl false)) else none
  | _, _ => none
section
variable {X : Cx} {k j : Nat} {c : Str} {prm : List Str} {g : List D → FR}
theorem eq_codeV {pins : List (Addr × Obj)} {σ : L2.St} {s : Shared} {H : Hp} {f a : Addr} {y : V} {u : Value} {fd : FuncData} {ps : List Str} {d e : D} {r : Bool} {A : PySem.Around} (Fn : FnG X.prog X.w X.K X.mg X.base j f fd ps (spB X.K X.mg [false, false] g)) (hr : RoomG j A) (hA : A.frames = X.A.frames) (hb : Binds X.K fd ps [])
    (I : Inv X pins σ H s) (hx : DR X.K X.mg H (.ref a) d) (hy : DR X.K X.mg H y e) (ry : RelV y u) (hg : g [d, e] = .ok (.fz (.bl r)) []) :
    codeAny (model X.prog X.w) A (.call (.ref f) ⟨[.ref a, u], []⟩) (fun q s' => q = .ok (.ret (.bool r)) ∧ ∃ H', Inv X pins σ H' s' ∧ Same H H') s := by
  have hsp : spB X.K X.mg [false, false] g [.ref a, y] H (fun v H' => v = .bl r ∧ Same H H') (fun _ _ _ => False) := by
    refine ⟨fun _ => none, H, [], [d, e], ⟨fun _ _ z => (nomatch z), fun _ _ => rfl⟩, Same.refl _, (fun _ h => nomatch h), .nil, .fz hx (.fz hy .nil), ?_⟩
    rw [hg]
    intro v H' F' A' rr
    cases (show DR X.K X.mg F' v (.bl r) from rr)
    exact ⟨rfl, fun b o h => A'.keep b o h (by simp) rfl⟩
  have r2 : Vals [V.ref a, y] [Value.ref a, u] := .cons rfl (.cons ry .nil)
  have hl := Fn.len _ _ _ _ hsp
  have e0 : Env0 X.prog X.w X.K X.mg X.base A X.stack s H := by
    have e := I.env0
    exact ⟨by rw [hA]; exact e.frames, e.mod, e.bs, e.bsz, e.funs, e.frf, e.hok, e.bare⟩
  refine codeAny_mono (Fn.run hr e0 (us := [.ref a, u]) (by
    have := hb s [.ref a, u] I.kIn (by simpa using hl)
    simpa using this) r2 hsp) fun q s' hq => ?_
  cases q with
  | error er =>
    obtain ⟨_, _, _, _, _, _, _, _, _, _, _, _, q⟩ := hq
    exact q.elim
  | ok fl =>
    cases fl with
    | ret w =>
      obtain ⟨z, H', I', rz, ez, ex⟩ := I.after hq
      subst ez
      cases rz
      exact ⟨rfl, H', I', ex⟩
    | next => exact False.elim hq
    | brk => exact False.elim hq
    | cont => exact False.elim hq
theorem opd_inO (O : OkM X.prog X.w X.K X.mg X.base j c "__eq__" prm [false, false] g) (N : NoSub X.K X.mg c) (hr : RoomG k X.A) (hjk : j + 1 ≤ k) : OpD X (compareOp .In) (gInO c g) := by
  obtain ⟨C, f, fd, gC, hs, hf, kp, Fn, hb⟩ := O
  obtain ⟨C', gC', nN, nI, nL, nT⟩ := N.ex
  cases gC.symm.trans gC'
  intro pins s σ H x y v u Q I rx ry ⟨F, d, e, rs, sf, hx, hy, hg, q⟩
  unfold gInO at hg
  split at hg
  · split at hg
    · rename_i c1 n1 d1 ds hc
      obtain ⟨ec, all⟩ := hc
      subst ec
      cases hg
      have dx := hx.dr sf
      cases hx with
      | @ins b C1 dxb _ fs _ hbH g1 r1 =>
        cases g1.symm.trans gC
        cases hy with
        | @lst l vs _ hl rr =>
          cases rx
          cases ry
          have hu1 : X.A.in1.units < cLine := by
            have := hr.r.un
            show X.A.units + 1 < cLine
            omega
          have hr1 : RoomG j X.A.in1 := ⟨(hr.r.mono hjk).in1, hr.g⟩
          refine none_in (N := vs.length) (fun _ s' => ∃ H', Inv X pins σ H' s' ∧ Same H H') (fun i s' ⟨H1, I1, sh⟩ => ?_) (fun s' ⟨H1, I1, sh⟩ => ⟨.bl false, H1, I1, rfl, q _ _ ⟨sh, F, Same.refl _, fun _ _ h => .inl h, sf.trans sh, .bl false⟩⟩) ⟨H, I, Same.refl _⟩
          obtain ⟨z, its, n, rv, e⟩ := (show ObjOk X.prog X.w H1 s'.heap l (.lst vs) from I1.hok l _ (sh _ _ hl))
          refine ⟨its.toArray, n, none, _, e, by rw [List.size_toArray, ← rv.length], fun h1 => ?_⟩
          have k1 : i < vs.length := by rw [rv.length]; simpa using h1
          obtain ⟨w, hw, rw1⟩ := rv.get (List.getElem?_eq_getElem k1)
          have ew : its.toArray[i] = w := by
            have h1' : i < its.length := by simpa using h1
            rw [List.getElem?_eq_getElem h1'] at hw
            simpa using Option.some.inj hw
          obtain ⟨dy, hdy, ry⟩ := rr.get (List.getElem?_eq_getElem k1)
          have ok := List.all_eq_true.mp all dy (List.mem_of_getElem? hdy)
          rw [Bool.and_eq_true] at ok
          have run := falR_eq ok.2
          have dx1 : DR X.K X.mg H1 (.ref b) _ := dx.mono sh
          have ry1 : DR X.K X.mg H1 vs[i] dy := ry.mono (sf.trans sh)
          obtain ⟨_, _, _, obj, _⟩ := (show ObjOk X.prog X.w H1 s'.heap b (.ins C dxb fs) from I1.hok b _ (sh _ _ hbH))
          obtain ⟨mA, J, _⟩ := ins_get I1.hok (sh _ _ hbH)
          obtain ⟨od, J, _⟩ := J.look
          have back : ∀ w', RelV vs[i] w' → wpAny (model X.prog X.w) X.A.in1 (call (.ref f) [.ref b, w']) (PySem.W.CmpBack fun v s2 => wpAny (model X.prog X.w) X.A.in1 (truthOfDropped v) (fun r s3 => r = false ∧ ∃ H', Inv X pins σ H' s3 ∧ Same H H') X.xe s2) X.xe s' := fun w' rw' =>
            wpAny_call (codeAny_mono (eq_codeV Fn hr1 rfl hb I1 dx1 ry1 rw' run) fun q1 s1 ⟨e1, H2, I2, sh2⟩ => by
              subst e1
              exact wpAny_truthy_bool ⟨rfl, H2, I2, sh.trans sh2⟩)
          rw [ew]
          have bk := back w rw1
          unfold eqBool
          refine wpAny_holding ?_
          generalize vs[i] = vi at rw1 ry ry1 bk
          cases ry with
          | non =>
            cases rw1
            refine wpAny_ite_split (fun hab => absurd (eq_of_beq hab) nofun) (fun _ => ?_)
            exact wpAny_bind (rc_refl hu1 I1.kIn J (show s'.TypeIs .none "NoneType" from rfl) nN PySem.F.slot_NoneType_eq_refl (fun Q' => dec_none Q') hs hf bk)
          | int m =>
            obtain ⟨t, rfl⟩ := rw1
            refine wpAny_ite_split (fun hab => absurd (eq_of_beq hab) nofun) (fun _ => ?_)
            exact wpAny_bind (rc_refl hu1 I1.kIn J (typeIs_int s' m t) nI PySem.F.slot_int_eq (fun Q' => dec_int obj Q') hs hf bk)
          | lst h _ =>
            cases rw1
            obtain ⟨_, its2, n2, _, e2⟩ := (show ObjOk X.prog X.w H1 s'.heap _ (.lst _) from I1.hok _ _ (sh _ _ (sf _ _ h)))
            refine wpAny_ite_split (fun hab => ?_) (fun _ => ?_)
            · have ea := Value.ref.inj (eq_of_beq hab)
              subst ea
              rw [sf _ _ h] at hbH
              cases hbH
            · exact wpAny_bind (rc_refl hu1 I1.kIn J ⟨_, e2, rfl⟩ nL PySem.F.slot_list_eq (fun Q' => dec_list I1.kIn J nL e2 Q') hs hf bk)
          | tup h _ =>
            cases rw1
            obtain ⟨its2, _, e2, _⟩ := I1.tuple (.inl (.inl (sh _ _ (sf _ _ h))))
            refine wpAny_ite_split (fun hab => ?_) (fun _ => ?_)
            · have ea := Value.ref.inj (eq_of_beq hab)
              subst ea
              rw [sf _ _ h] at hbH
              cases hbH
            · obtain ⟨o, ho, hc, _⟩ := id e2
              exact wpAny_bind (rc_refl hu1 I1.kIn J ⟨o, ho, hc⟩ nT PySem.F.slot_tuple_eq (fun Q' => dec_tuple I1.kIn J nT e2 Q') hs hf bk)
          | bl _ => cases ok.1
          | str _ => cases ok.1
          | wtp _ _ => cases ok.1
          | scr _ _ => cases ok.1
          | dK _ _ _ => cases ok.1
          | dT _ _ _ => cases ok.1
          | dg _ _ _ _ => cases ok.1
          | ins _ _ _ => cases ok.1
          | xc _ _ _ => cases ok.1
    · cases hg
  · cases hg
end
end B


set_option Elab.async false
set_option linter.all false
set_option maxRecDepth 100000
set_option maxHeartbeats 4000000
namespace B
open PySem PySem.Spec L2 PyProof.Rows
/-! # lists that are locked: ==, list(..), sorted(set(..)) -/
def unS : D → D
  | .nd .scr ds => .nd .lst ds
  | d => d
def gEqS (d e : D) : Option Rs := gEq (unS d) (unS e)
theorem DR.dpS {K : PySem.W.Frag} {mg : Str → Option Value} {H : Hp} {v : V} {d : D} (h : DR K mg H v d) (e : (toPy (unS d)).canLay0 = true) : Dp K H v (toPy (unS d)) := by
  cases h with
  | scr h r => exact .lst h (DRs.dp r (by simpa [unS, toPy, PyData.canLay0] using e))
  | non => exact DR.dp (mg := mg) .non e
  | bl b => exact DR.dp (mg := mg) (.bl b) e
  | int i => exact DR.dp (mg := mg) (.int i) e
  | str x => exact DR.dp (mg := mg) (.str x) e
  | tup h r => exact DR.dp (.tup h r) e
  | wtp h r => exact DR.dp (.wtp h r) e
  | lst h r => exact DR.dp (.lst h r) e
  | dK h r q => exact DR.dp (.dK h r q) e
  | dT h r q => exact DR.dp (.dT h r q) e
  | dg h k r q => exact DR.dp (.dg h k r q) e
  | ins h g r => exact DR.dp (.ins h g r) e
  | xc h g r => exact DR.dp (.xc h g r) e
def gListS : List D → Option Rs
  | [.nd .scr ds] => some (.own (.nd .lst ds))
  | l => gList l
open Classical in
noncomputable def gSortSetS (d : D) : Option Rs := gSortSetG (unS d)
section
variable {X : Cx} {k : Nat}
theorem od_eqS (hr : RoomG k X.A) : OpD X (compareOp .Eq) gEqS := by
  refine OpD.of (op_eqD hr.u64) fun F H x y d e rs Q sf hx hy hg q => ?_
  unfold gEqS gEq at hg
  split at hg
  · rename_i hc
    cases hg
    exact ⟨_, _, (hx.dr sf).dpS (shp_lay hc.1), (hy.dr sf).dpS (shp_lay hc.2), hc.1, hc.2, q _ _ (NR.val sf (.bl _))⟩
  · cases hg
theorem cd_listS : CallD X (.type "list") gListS := by
  refine CallD.of call_list_of fun F H xs ds rs Q sf hx hg q => ?_
  unfold gListS at hg
  split at hg
  · cases hg
    cases hx with
    | cons h1 h2 =>
      cases h2
      cases h1 with
      | scr h r => exact ⟨_, _, rfl, .inl h, fun l hl => q _ _ (NR.lst hl r)⟩
  · unfold gList at hg
    split at hg
    · cases hg
      cases hx with
      | cons h1 h2 =>
        cases h2
        cases h1 with
        | lst h r => exact ⟨_, _, rfl, .inl (.inl (.inl h)), fun l hl => q _ _ (NR.lst hl r)⟩
    · cases hg
      cases hx with
      | cons h1 h2 =>
        cases h2
        cases h1 with
        | tup h r => exact ⟨_, _, rfl, .inr (Same.tp sf h), fun l hl => q _ _ (NR.lst hl r)⟩
    · cases hg
variable {a : Expr} {ma : M Pl} {p p2 q pos : Pos}
theorem be_sortSetS (hg : Gl X "sorted") (hm : X.mg "sorted" = none) (hg2 : Gl X "set") (hm2 : X.mg "set" = none) (hc : X.calm = true) (hu : X.A.units + 64 < cLine) (ha : BP X a ma) (na : starEach [a] X.env = (false, eval a X.env) :: starEach [] X.env := by rfl)
    (nb : starEach [.Call (.Name "set" p2) [a] [] q] X.env = (false, eval (.Call (.Name "set" p2) [a] [] q) X.env) :: starEach [] X.env := by rfl) :
    BE X (.Call (.Name "sorted" p) [.Call (.Name "set" p2) [a] [] q] [] pos) (mUn gSortSetS ma) := by
  refine fun W tk => (pe_callB (cr_sortG hc hu) hg hm boot_sorted (pa_cons (pe_callTy (cr_setU hc hu) hg2 hm2 boot_set (pa_cons (ha W tk) pa_nil na) (by decide) (by decide) na) pa_nil nb) (by decide) (by decide) nb).imp fun σ H Q ⟨G, io, F, β, I, h⟩ => ?_
  refine ⟨G, io, F, β, I, h.bnd fun pl β1 v H1 F1 fe1 I1 r1 h1 => ?_⟩
  obtain ⟨F, d, r, sf, hx, hgr, q⟩ := fin1_post I1 r1 (h1.mono fe1)
  unfold gSortSetS gSortSetG at hgr
  split at hgr
  · rename_i ds ed
    obtain ⟨ks, e1, e2⟩ := Option.bind_eq_some_iff.mp hgr
    split at e2
    · rename_i ok
      cases e2
      obtain ⟨k1, k3⟩ := ok
      have e3 := tups_of e1
      subst e3
      have hx2 : ∃ l vs, v = .ref l ∧ SqL X.K H1 l vs ∧ DRs X.K X.mg F vs (ks.map tupD) := by
        cases hx with
        | @lst l vs _ hl rd => cases ed; exact ⟨l, vs, rfl, .inl (.inl hl), rd⟩
        | @scr l vs _ hl rd => cases ed; exact ⟨l, vs, rfl, hl, rd⟩
        | non => cases ed
        | bl b => cases ed
        | int i => cases ed
        | str x => cases ed
        | tup h r => cases ed
        | wtp h r => cases ed
        | dK h r q => cases ed
        | dT h r q => cases ed
        | dg h k r q => cases ed
        | ins h g r => cases ed
        | xc h g r => cases ed
      obtain ⟨l, vs, ev, hl, rd⟩ := hx2
      subst ev
      obtain ⟨ps, rfl, hks, hps⟩ := rd.tups
      have bd : ∀ p ∈ ps, p.2 ∈ ks := fun p hp => hks ▸ List.mem_map.mpr ⟨p, hp, rfl⟩
      have few : ps.length < 500 := by
        rw [← hks, List.length_map] at k1
        exact k1
      refine ⟨l, ps, rfl, hl, fun p hp => sf _ _ (hps p hp).1, few, fun s L hs sub all nd len => ?_⟩
      have sub2 : ∀ p ∈ L, p.2 ∈ ks := fun p hp => bd p (sub p hp)
      have sh : Same H1 (upd H1 s (SetG X.prog X.w s L)) := fun b u hb => by
        rw [upd_ne (ne_of_none hb hs)]
        exact hb
      refine ⟨s, L, rfl, upd_same, fun p hp => sh _ _ (sf _ _ (hps p (sub p hp)).1), fun p hp => k3 _ (sub2 p hp), by omega, fun L' z pm hz => ?_⟩
      have hz1 : H1 z = none := by
        by_cases e : z = s
        · subst e
          rw [upd_same] at hz
          cases hz
        · rwa [upd_ne e] at hz
      have eK : (sortK L').map (·.2) = tset ks := by
        refine rising_eq (sortK_rise ((pm.map (·.2)).nodup_iff.mpr nd)) (tset_sorted _) fun k => ?_
        rw [mem_tset, ((sortK_perm L').map (·.2)).mem_iff, (pm.map (·.2)).mem_iff]
        constructor
        · intro hk
          obtain ⟨p, hp, rfl⟩ := List.mem_map.mp hk
          exact sub2 p hp
        · intro hk
          rw [← hks] at hk
          obtain ⟨p, hp, rfl⟩ := List.mem_map.mp hk
          exact all p hp
      have dr : DRs X.K X.mg F ((sortK L').map fun q => V.ref q.1) ((tset ks).map tupD) := by
        rw [← eK, List.map_map]
        have key : ∀ l : List (Addr × List Int), (∀ p ∈ l, DR X.K X.mg F (.ref p.1) (tupD p.2)) → DRs X.K X.mg F (l.map fun q => V.ref q.1) (l.map (tupD ∘ fun x => x.2)) := by
          intro l
          induction l with
          | nil => intro _; exact .nil
          | cons p l ih => intro h; exact .cons (h p List.mem_cons_self) (ih fun q hq => h q (List.mem_cons_of_mem _ hq))
        exact key _ fun p hp => (hps p (sub p (pm.mem_iff.mp ((sortK_perm L').mem_iff.mp hp)))).2
      refine q _ _ ⟨fun b u hb => ?_, z, rfl, hz1, .lst upd_same dr⟩
      rw [upd_ne (ne_of_none (sh b u hb) hz)]
      exact sh b u hb
    · cases e2
  · cases hgr
end
/-! # while a new object is nobody else's: other names are set, other objects changed; its list gets one more, and it is forgotten -/
def unAt (β : B.Env) (i : Nat) : Bool := match β[i]? with
  | some .un => true
  | _ => false
theorem unAt_eq {β : B.Env} {i : Nat} (h : unAt β i = true) : β[i]? = some .un := by
  unfold unAt at h
  split at h
  · assumption
  · cases h
def mNSet (j i : Nat) (me : M Rs) (k : D → M Fl) : D → M Fl := fun d β => match me β with
  | .ok r β1 => if j ≠ i ∧ unAt β1 i = true then k d (β1.set j (slOf r)) else .stuck
  | _ => .stuck
def mNExpr (i : Nat) (me : M Rs) (k : D → M Fl) : D → M Fl := fun d β => match me β with
  | .ok _ β1 => if unAt β1 i = true then k d β1 else .stuck
  | _ => .stuck
def mNApp (fn : Str) (me : M Rs) (n : M Fl) : D → M Fl := fun d β => if okLen fn d = true then (match me β with
  | .ok _ β1 => n β1
  | _ => .stuck) else .stuck
section
variable {X : Cx} {i j : Nat} {x y fn c : Str} {p p2 p3 pos pos2 apos cpos : Pos} {e earg : Expr} {me : M Rs} {kk : D → M Fl} {rest : List Stmt} {n : M Fl}
theorem bns_set {pos' : Pos} (hN : X.N.Nodup) (hj : X.N[j]? = some y) (hy : Loc X.env.scope y) (h : BE X e me) (hr : BNs X i fn c rest kk) (hs : swapsWith e (some (.Name y pos')) pos.line X.env = pure false := by rfl)
    (hf : X.fn y = true ∨ X.env.scope.names.lookup y = some .local := by first | exact .inl rfl | exact .inr rfl | assumption) : BNs X i fn c (.Assign [.Name y pos'] e pos :: rest) (mNSet j i me kk) := by
  refine fun W tk => (pss_cons (ps_set hN hj hy (h W tk) hs hf) (hr W tk)).imp fun D σ H ⟨G, io, F, β, P, a, d, I, of, pv, eb, es, h⟩ => ⟨G.many P, io, F, β, I, ?_⟩
  unfold mNSet at h
  cases e1 : me β with
  | stuck => rw [e1] at h; exact h.elim
  | exc x β1 => rw [e1] at h; exact h.elim
  | ok r β1 =>
    rw [e1] at h
    simp only at h
    split at h
    case isFalse => exact h.elim
    rename_i hc
    intro v H1 F1 fe1 I1 r1
    exact ⟨G, io, F1, _, P, a, d, I1.set r1 j, of.fe fe1, pv.mono fe1.same, by rw [List.getElem?_set_ne hc.1]; exact unAt_eq hc.2, by rw [List.getElem?_set_ne hc.1]; exact es, SPost.mono h fe1.one⟩
theorem bns_expr (h : BE X e me) (hr : BNs X i fn c rest kk) (hs : swapsWith e none pos.line X.env = pure false := by rfl) : BNs X i fn c (.Expr e pos :: rest) (mNExpr i me kk) := by
  refine fun W tk => (pss_cons (ps_expr (h W tk) hs) (hr W tk)).imp fun D σ H ⟨G, io, F, β, P, a, d, I, of, pv, eb, es, h⟩ => ⟨G.many P, io, F, β, I, ?_⟩
  unfold mNExpr at h
  cases e1 : me β with
  | stuck => rw [e1] at h; exact h.elim
  | exc x β1 => rw [e1] at h; exact h.elim
  | ok r β1 =>
    rw [e1] at h
    simp only at h
    split at h
    case isFalse => exact h.elim
    rename_i hc
    intro v H1 F1 fe1 I1 r1
    exact ⟨G, io, F1, _, P, a, d, I1, of.fe fe1, pv.mono fe1.same, unAt_eq hc, es, SPost.mono h fe1.one⟩
theorem bns_app (hf : FldOk X c fn) (hN : X.N[i]? = some x) (hv : Vis X.env.scope x) (he : BE X earg me) (hr : BSs X rest n) (hd : (x == ("__debug__" : Str)) = false := by decide) (hcd : (x == ("__classdict__" : Str)) = false := by decide)
    (hb : attributeBase (.Name x p2) fn X.env (eval (.Name x p2) X.env) = eval (.Name x p2) X.env := by rfl)
    (hbase : attributeBase (.Attribute (.Name x p2) fn p3) "append" X.env (eval (.Attribute (.Name x p2) fn p3) X.env) = eval (.Attribute (.Name x p2) fn p3) X.env := by rfl)
    (hfew : ((backTo cpos (starEach [earg] X.env)).all (fun x => !x.1) && (backToKw cpos (keywordEach [] X.env)).all (fun x => x.1.isSome)
      && decide ([earg].length + ([] : List Keyword).length + (if ([] : List Keyword).isEmpty then 0 else 1) < 30)) = true := by rfl)
    (hline : (apos.endLine == cpos.line) = true := by rfl) (hst : starEach [earg] X.env = (false, eval earg X.env) :: starEach [] X.env := by rfl) (hplain : (backTo cpos (starEach [] X.env)).any (·.1) = false := by rfl)
    (hs : swapsWith (.Call (.Attribute (.Attribute (.Name x p2) fn p3) "append" apos) [earg] [] cpos) none pos2.line X.env = pure false := by rfl) :
    BNs X i fn c (.Expr (.Call (.Attribute (.Attribute (.Name x p2) fn p3) "append" apos) [earg] [] cpos) pos2 :: rest) (mNApp fn me n) := by
  refine fun W tk => (pss_cons (ps_expr (pos := pos2) (pe_bm PySem.F.plainAttrs_list PySem.F.slot_list_append PySem.F.type_list_append mt_append (pe_fld (pe_var (pos := p2) hN hv hd hcd) hb) (pa_cons (he W tk) pa_nil hst) hbase hfew hline hst hplain) hs) (hr W tk)).imp fun D σ H ⟨G, io, F, β, P, a, d, I, of, pv, eb, es, h⟩ => ?_
  unfold mNApp at h
  split at h
  case isFalse => exact h.elim
  rename_i okl
  obtain ⟨a0, C, dx, fs, b, ws, e1, k1, k2, k3, k4, k5⟩ := nw_of pv okl
  cases e1
  have inH : ∀ q o, P q = some o → H q = some o := fun q o z => I.sg.g q o (orH_some z)
  have haH : H a = some (.ins C dx fs) := by
    cases z : P a with
    | some u =>
      rw [orH_some z] at k1
      cases k1
      exact inH _ _ z
    | none =>
      rw [orH_none z] at k1
      exact I.sf _ _ k1
  refine ⟨_, es, a, C, dx, fs, .ref b, rfl, haH, (hf _ k2).1, (hf _ k2).2, k3, .inl ⟨rfl, _, .inl (.inl (inH _ _ k4))⟩, ?_⟩
  refine ⟨G.many P, io, F, β, I, ?_⟩
  cases em : me β with
  | stuck => rw [em] at h; exact h.elim
  | exc x β3 => rw [em] at h; exact h.elim
  | ok r β3 =>
    rw [em] at h
    intro y H5 F5 fe5 J5 rr
    have of5 := of.fe fe5
    have ob := of5 b _ k4
    refine ⟨b, ws, y, rfl, rfl, J5.sg.g b _ (orH_some k4), ?_, G, io, F5, β3, ?_, SPost.mono h fe5.one⟩
    · have : 1000 ≤ sizeLine := by decide
      omega
    · have I2 : BI X.K X.mg (G.many (L2.upd P b (.lst (ws ++ [y])))) F5 io β3 σ (upd H5 b (.lst (ws ++ [y]))) := by
        rw [GT.many_upd]
        exact J5.guardG (orH_some k4) (fun c q z => lst_nc c q z) ob.1 ob.2.2
      exact I2.unmany (of5.upd ob.1 ob.2.1 ob.2.2)
end
/-! ## what is wished for -/
section
variable {β : B.Env} {E : Exn → B.Env → Prop} {i j : Nat} {fn c : Str} {me : M Rs} {kk : D → M Fl} {n : M Fl} {d : D} {Q : Fl → B.Env → Prop}
theorem W_mNSet (h : W me β (fun r β1 => (j ≠ i ∧ unAt β1 i = true) ∧ W (kk d) (β1.set j (slOf r)) Q E) noE) : W (mNSet j i me kk d) β Q E := by
  unfold W at h
  unfold W mNSet
  cases e1 : me β with
  | stuck => rw [e1] at h; exact h.elim
  | exc x β1 => rw [e1] at h; exact h.elim
  | ok r β1 =>
    rw [e1] at h
    simp only
    rw [if_pos h.1]
    exact h.2
theorem W_mNExpr (h : W me β (fun _ β1 => unAt β1 i = true ∧ W (kk d) β1 Q E) noE) : W (mNExpr i me kk d) β Q E := by
  unfold W at h
  unfold W mNExpr
  cases e1 : me β with
  | stuck => rw [e1] at h; exact h.elim
  | exc x β1 => rw [e1] at h; exact h.elim
  | ok r β1 =>
    rw [e1] at h
    simp only
    rw [if_pos h.1]
    exact h.2
theorem W_mNApp (h0 : okLen fn d = true) (h : W me β (fun _ β1 => W n β1 Q E) noE) : W (mNApp fn me n d) β Q E := by
  unfold W at h
  unfold W mNApp
  rw [if_pos h0]
  cases e1 : me β with
  | stuck => rw [e1] at h; exact h.elim
  | exc x β1 => rw [e1] at h; exact h.elim
  | ok r β1 =>
    rw [e1] at h
    exact h
end
end B


set_option Elab.async false
set_option linter.all false
set_option maxRecDepth 100000
set_option maxHeartbeats 4000000
namespace RG
open PySem PySem.Spec L2 B
noncomputable def m_L_cell_at : M Fl :=
  seqF (mIfS (asB (mOp gLtX (mPl 1) (mP (mCall gLen (mCons (mPl 0) (mNil)))))) (mRet (mOp gIx (mPl 0) (mPl 1))) (ret .nx))
  (mRet (mC (.int 0)))
noncomputable def r_L_cell_at : List D → FR := runB [false, false] 2 m_L_cell_at
noncomputable def m_L_draw : M Fl :=
  seqF (mIfS (asB (mOp gGtX (mP (mOp gIx (mPl 0) (mP (mC (.int 0))))) (mP (mC (.int 0))))) (seqF (mSet 3 (mOp gMod (mP (mOp gIx (mPl 0) (mP (mC (.int 0))))) (mPl 1)))
  (seqF (mSetIx 0 (mOp gFdiv (mP (mOp gIx (mPl 0) (mP (mC (.int 0))))) (mPl 1)) (mC (.int 0)))
  (mRetVar 3))) (ret .nx))
  (seqF (mSetIx 0 (mOp gAdd (mP (mOp gIx (mPl 0) (mP (mC (.int 2))))) (mP (mC (.int 1)))) (mC (.int 2)))
  (seqF (mSet 2 (mOp gMod (mP (mOp gMul (mP (mOp gAdd (mP (mOp gAdd (mP (mOp gIx (mPl 0) (mP (mC (.int 1))))) (mP (mOp gMul (mP (mC (.int 86969))) (mP (mOp gIx (mPl 0) (mP (mC (.int 2))))))))) (mP (mC (.int 1))))) (mP (mC (.int 48271))))) (mP (mC (.int 2147483629)))))
  (seqF (mSet 2 (mOp gMod (mP (mOp gMul (mPl 2) (mP (mOp gAdd (mP (mOp gAdd (mP (mOp gFdiv (mPl 2) (mP (mC (.int 1013))))) (mP (mC (.int 69623))))) (mP (mOp gIx (mPl 0) (mP (mC (.int 2))))))))) (mP (mC (.int 2147483587)))))
  (mRet (mOp gMod (mP (mOp gFdiv (mP (mOp gMod (mP (mOp gMul (mPl 2) (mP (mOp gAdd (mP (mOp gFdiv (mPl 2) (mP (mC (.int 2003))))) (mP (mC (.int 40692))))))) (mP (mC (.int 2147483563))))) (mP (mC (.int 3))))) (mPl 1))))))
noncomputable def r_L_draw : List D → FR := runB [true, false] 4 m_L_draw
noncomputable def m_L_one : M Fl :=
  mRet (mOp gIx (mPl 1) (mP (mCallF [true, false] r_L_draw (mCons (mPl 0) (mCons (mP (mCall gLen (mCons (mPl 1) (mNil)))) (mNil))))))
noncomputable def r_L_one : List D → FR := runB [true, false] 2 m_L_one
noncomputable def m_L_lists : M Fl :=
  seqF (mSet 2 (mLst (mCons (mP (mLst (mNil))) (mNil))))
  (seqF (mFor (bnd (mCons (mPl 1) (mNil)) rngA) (gSet 3) (seqF (mSet 4 (mLst (mNil)))
  (seqF (mFor (mIter (mVar 2)) (gSet 5) (mSet 4 (mOp gAdd (mPl 4) (mP (mComp [6] (bnd (mCons (mPl 0) (mNil)) rngA) (gSet 6) (mYes) (mOp gAdd (mPl 5) (mP (mLst (mCons (mP (mVar 6)) (mNil))))))))))
  (mSet 2 (mMv 4)))))
  (mRetVar 2))
noncomputable def r_L_lists : List D → FR := runB [false, false] 7 m_L_lists
noncomputable def m_L_parts : M Fl :=
  seqF (mSet 1 (mOp gAdd (mP (mC (.int 1))) (mP (mCallF [true, false] r_L_draw (mCons (mPl 0) (mCons (mP (mC (.int 3))) (mNil)))))))
  (seqF (mSet 2 (mCallF [true, false] r_L_one (mCons (mPl 0) (mCons (mP (mLst (mCons (mP (mC (.int 2))) (mCons (mP (mC (.int 2))) (mCons (mP (mC (.int 3))) (mCons (mP (mC (.int 3))) (mCons (mP (mOp gAdd (mP (mC (.int 2))) (mP (mOp gMul (mP (mC (.int 2))) (mP (mCall gInt (mCons (mP (mOp gLtX (mPl 1) (mP (mC (.int 3))))) (mNil)))))))) (mNil)))))))) (mNil)))))
  (seqF (mSet 3 (mComp [7] (mIter (mCallF [false, false] r_L_lists (mCons (mP (mVar 1)) (mCons (mP (mVar 2)) (mNil))))) (gSet 7) (mYes) (mCall gTuple (mCons (mPl 7) (mNil)))))
  (seqF (mSet 4 (mCallF [true, false] r_L_draw (mCons (mPl 0) (mCons (mP (mC (.int 5))) (mNil)))))
  (seqF (mIfS (asB (mOp gEq (mPl 4) (mP (mC (.int 0))))) (mRet (mTup (mCons (mP (mVar 1)) (mCons (mP (mVar 2)) (mCons (mP (mComp [6] (mIter (mVar 3)) (gSet 6) (asB (mOp gNotIn (mP (mC (.int 0))) (mP (mComp [8, 9] (bnd (mCons (mP (mVar 6)) (mCons (mP (mSl (mPl 6) (mPart (mC (.int 1))) (mNoPart))) (mNil))) zipA) (gUnp 2 (gsCons (gSet 8) (gsCons (gSet 9) (gsNil)))) (mYes) (mOp gSub (mPl 8) (mPl 9)))))) (mVar 6))) (mNil)))))) (ret .nx))
  (seqF (mSet 5 (mLst (mNil)))
  (seqF (mFor (mIter (mVar 3)) (gSet 6) (mIfS (asB (mOp gLtX (mP (mCallF [true, false] r_L_draw (mCons (mPl 0) (mCons (mP (mC (.int 4))) (mNil))))) (mPl 4))) (mExpr (mMut "list" 5 gAppend (mCons (mP (mVar 6)) (mNil)))) (ret .nx)))
  (mRet (mTup (mCons (mP (mVar 1)) (mCons (mP (mVar 2)) (mCons (mP (mVar 5)) (mNil))))))))))))
noncomputable def r_L_parts : List D → FR := runB [true] 10 m_L_parts
noncomputable def m_P_is_from : M Fl :=
  mRet (mAndV (mUn (gIsi "int") (mPl 0)) (mAndV (mNotV (mUn (gIsi "bool") (mPl 0))) (mChain gLe gLe (mPl 1) (mPl 0) (mPl 2))))
noncomputable def r_P_is_from : List D → FR := runB [false, false, false] 3 m_P_is_from
noncomputable def m_P_is_word : M Fl :=
  seqF (mIfS (mOr (mNot (mTru (mP (mUn (gIsi "tuple") (mPl 0))))) (asB (mOp gNe (mP (mCall gLen (mCons (mPl 0) (mNil)))) (mPl 2)))) (mRet (mC (.bl false))) (ret .nx))
  (mRet (mCall gAll (mCons (mP (mComp [3] (mIter (mVar 0)) (gSet 3) (mYes) (mCallF [false, false, false] r_P_is_from (mCons (mP (mVar 3)) (mCons (mP (mC (.int 0))) (mCons (mP (mOp gSub (mPl 1) (mP (mC (.int 1))))) (mNil))))))) (mNil))))
noncomputable def r_P_is_word : List D → FR := runB [false, false, false] 4 m_P_is_word
noncomputable def m_P_are_words : M Fl :=
  seqF (mIfS (mOr (mNot (mTru (mP (mUn (gIsi "list") (mPl 0))))) (mNot (mTru (mP (mCall gAll (mCons (mP (mComp [3] (mIter (mVar 0)) (gSet 3) (mYes) (mCallF [false, false, false] r_P_is_word (mCons (mP (mVar 3)) (mCons (mP (mVar 1)) (mCons (mP (mVar 2)) (mNil))))))) (mNil))))))) (mRet (mC (.bl false))) (ret .nx))
  (mRet (mOp gEq (mPl 0) (mP (mUn gSortSetG (mPl 0)))))
noncomputable def r_P_are_words : List D → FR := runB [false, false, false] 4 m_P_are_words
noncomputable def m_P_Rule_init : M Fl :=
  seqF (mIfS (mNot (mTru (mP (mCallF [false, false, false] r_P_is_from (mCons (mP (mVar 1)) (mCons (mP (mC (.int 1))) (mCons (mP (mC (.int 4))) (mNil)))))))) (mRaiseI "NoRule" "what" (mP (mC (.str "size")))) (ret .nx))
  (seqF (mIfS (mNot (mTru (mP (mCallF [false, false, false] r_P_is_from (mCons (mP (mVar 2)) (mCons (mP (mC (.int 2))) (mCons (mP (mC (.int 4))) (mNil)))))))) (mRaiseI "NoRule" "what" (mP (mC (.str "wide")))) (ret .nx))
  (seqF (mIfS (mNot (mTru (mP (mCallF [false, false, false] r_P_are_words (mCons (mP (mVar 3)) (mCons (mP (mVar 1)) (mCons (mP (mVar 2)) (mNil)))))))) (mRaiseI "NoRule" "what" (mP (mC (.str "words")))) (ret .nx))
  (seqF (mSetFld "Rule" "size" 0 (mVar 1))
  (seqF (mSetFld "Rule" "wide" 0 (mVar 2))
  (mSetFld "Rule" "words" 0 (mCall gList (mCons (mPl 3) (mNil))))))))
noncomputable def r_P_Rule_init : List D → FR := runB [true, false, false, false] 4 m_P_Rule_init
noncomputable def m_P_is_ring : M Fl :=
  mRet (mAndV (mUn (gIsi "list") (mPl 1)) (mAndV (mOp gNe (mPl 1) (mP (mLst (mNil)))) (mCall gAll (mCons (mP (mComp [2] (mIter (mVar 1)) (gSet 2) (mYes) (mCallF [false, false, false] r_P_is_from (mCons (mP (mVar 2)) (mCons (mP (mC (.int 0))) (mCons (mP (mOp gSub (mP (mUn (gFld "Rule" "size") (mPl 0))) (mP (mC (.int 1))))) (mNil))))))) (mNil)))))
noncomputable def r_P_is_ring : List D → FR := runB [false, false] 3 m_P_is_ring
noncomputable def m_P_sure_ring : M Fl :=
  mIfS (mNot (mTru (mP (mCallF [false, false] r_P_is_ring (mCons (mP (mVar 0)) (mCons (mP (mVar 1)) (mNil))))))) (mRaise0 "NoRing") (ret .nx)
noncomputable def r_P_sure_ring : List D → FR := runB [false, false] 2 m_P_sure_ring
noncomputable def m_P_points : M Fl :=
  mRet (mPts (mSetC [1] (mIter (mUn (gFld "Rule" "words") (mPl 0))) (gSet 1) (mYes) (mSl (mPl 1) (mNoPart) (mPart (mUn gNeg (mP (mC (.int 1))))))) (mSetC [1] (mIter (mUn (gFld "Rule" "words") (mPl 0))) (gSet 1) (mYes) (mSl (mPl 1) (mPart (mC (.int 1))) (mNoPart))))
noncomputable def r_P_points : List D → FR := runB [false] 2 m_P_points
noncomputable def m_P_ties : M Fl :=
  mBlkK 1 (mKd [3] (mIter (mCallF [false] r_P_points (mCons (mP (mVar 0)) (mNil)))) (gSet 3) (mYes) (mVar 3)) (mForK (mIter (mUn (gFld "Rule" "words") (mPl 0))) (gSet 2) (mApp (mSl (mPl 2) (mNoPart) (mPart (mUn gNeg (mP (mC (.int 1)))))) (mSl (mPl 2) (mPart (mC (.int 1))) (mNoPart))))
  (mRetVar 1)
noncomputable def r_P_ties : List D → FR := runB [false] 4 m_P_ties
noncomputable def m_P_window : M Fl :=
  mRet (mCall gTuple (mCons (mP (mComp [3] (bnd (mCons (mPl 2) (mNil)) rngA) (gSet 3) (mYes) (mOp gIx (mPl 0) (mP (mOp gMod (mP (mOp gAdd (mPl 1) (mPl 3))) (mP (mCall gLen (mCons (mPl 0) (mNil))))))))) (mNil)))
noncomputable def r_P_window : List D → FR := runB [false, false, false] 4 m_P_window
noncomputable def m_P_is_fitting : M Fl :=
  mRet (mCall gAll (mCons (mP (mComp [2] (bnd (mCons (mP (mCall gLen (mCons (mPl 1) (mNil)))) (mNil)) rngA) (gSet 2) (mYes) (mOp gIn (mP (mCallF [false, false, false] r_P_window (mCons (mP (mVar 1)) (mCons (mP (mVar 2)) (mCons (mP (mUn (gFld "Rule" "wide") (mPl 0))) (mNil)))))) (mP (mUn (gFld "Rule" "words") (mPl 0)))))) (mNil)))
noncomputable def r_P_is_fitting : List D → FR := runB [false, false] 3 m_P_is_fitting
noncomputable def m_P_walks_to : M Fl :=
  seqF (mSet 3 (mLst (mCons (mP (mDictC [6] (mIterK (mVar 0)) (gSet 6) (mYes) (mVar 6) (mCall gInt (mCons (mP (mOp gEq (mPl 6) (mPl 1))) (mNil))))) (mNil))))
  (seqF (mFor (bnd (mCons (mPl 2) (mNil)) rngA) (gSet 4) (seqF (mSet 5 (mOp gIx (mPl 3) (mP (mUn gNeg (mP (mC (.int 1)))))))
  (mExpr (mMut "list" 3 gAppend (mCons (mP (mDictC [6] (mIterK (mVar 0)) (gSet 6) (mYes) (mVar 6) (mCall gSum (mCons (mP (mComp [7] (mIter (mOp gIxA (mPl 0) (mPl 6))) (gSet 7) (mYes) (mOp gIxA (mPl 5) (mPl 7)))) (mNil))))) (mNil))))))
  (mRetVar 3))
noncomputable def r_P_walks_to : List D → FR := runB [false, false, false] 8 m_P_walks_to
noncomputable def m_P_all_rings : M Fl :=
  seqF (mSet 2 (mLst (mCons (mP (mLst (mNil))) (mNil))))
  (seqF (mFor (bnd (mCons (mPl 1) (mNil)) rngA) (gSet 3) (mSet 2 (mComp2 [4, 5] [5] (mIter (mVar 2)) (gSet 4) (mYes) (bnd (mCons (mPl 0) (mNil)) rngA) (gSet 5) (mYes) (mOp gAdd (mPl 4) (mP (mLst (mCons (mP (mVar 5)) (mNil))))))))
  (mRetVar 2))
noncomputable def r_P_all_rings : List D → FR := runB [false, false] 6 m_P_all_rings
noncomputable def m_P_short_rings : M Fl :=
  mRet (mComp [2] (mIter (mCallF [false, false] r_P_all_rings (mCons (mP (mUn (gFld "Rule" "size") (mPl 0))) (mCons (mP (mVar 1)) (mNil))))) (gSet 2) (mTru (mP (mCallF [false, false] r_P_is_fitting (mCons (mP (mVar 0)) (mCons (mP (mVar 2)) (mNil)))))) (mVar 2))
noncomputable def r_P_short_rings : List D → FR := runB [false, false] 3 m_P_short_rings
noncomputable def m_P_number_in_walk : M Fl :=
  seqF (mSet 4 (mC (.int 0)))
  (seqF (mSet 5 (mVar 2))
  (seqF (mFor (bnd (mCons (mP (mCall gLen (mCons (mPl 2) (mNil)))) (mCons (mP (mCall gLen (mCons (mPl 3) (mNil)))) (mNil))) rngB) (gSet 6) (seqF (mSet 7 (mOp gAdd (mP (mOp gSub (mP (mOp gSub (mP (mCall gLen (mCons (mPl 3) (mNil)))) (mPl 6))) (mP (mC (.int 1))))) (mP (mCall gLen (mCons (mPl 2) (mNil))))))
  (seqF (mSet 8 (mOp gAdd (mP (mSl (mPl 5) (mPart (mC (.int 1))) (mNoPart))) (mP (mTup (mCons (mP (mOp gIx (mPl 3) (mPl 6))) (mNil))))))
  (seqF (mAug 4 (fun a b => a + b) (mCall gSum (mCons (mP (mComp [9] (mIter (mOp gIxA (mPl 0) (mPl 5))) (gSet 9) (asB (mOp gLtX (mPl 9) (mPl 8))) (mOp gIxA (mP (mOp gIxA (mPl 1) (mPl 7))) (mPl 9)))) (mNil))))
  (mSet 5 (mMv 8))))))
  (mRetVar 4)))
noncomputable def r_P_number_in_walk : List D → FR := runB [false, false, false, false] 10 m_P_number_in_walk
noncomputable def m_P_number_of : M Fl :=
  seqF (mExpr (mCallF [false, false] r_P_sure_ring (mCons (mP (mVar 0)) (mCons (mP (mVar 1)) (mNil)))))
  (seqF (mIfS (mNot (mTru (mP (mCallF [false, false] r_P_is_fitting (mCons (mP (mVar 0)) (mCons (mP (mVar 1)) (mNil))))))) (mRaise0 "NoFit") (ret .nx))
  (seqF (mIfS (asB (mOp gGtX (mP (mCall gLen (mCons (mPl 1) (mNil)))) (mP (mC (.int 60))))) (mRaise0 "NoLength") (ret .nx))
  (seqF (mIfS (asB (mOp gLtX (mP (mCall gLen (mCons (mPl 1) (mNil)))) (mP (mUn (gFld "Rule" "wide") (mPl 0))))) (mRet (mMet "list" gIndex (mP (mCallF [false, false] r_P_short_rings (mCons (mP (mVar 0)) (mCons (mP (mCall gLen (mCons (mPl 1) (mNil)))) (mNil))))) (mCons (mPl 1) (mNil)))) (ret .nx))
  (seqF (mSet 2 (mCallF [false] r_P_ties (mCons (mP (mVar 0)) (mNil))))
  (seqF (mSet 3 (mCall gTuple (mCons (mP (mSl (mPl 1) (mNoPart) (mPart (mOp gSub (mP (mUn (gFld "Rule" "wide") (mPl 0))) (mP (mC (.int 1))))))) (mNil))))
  (seqF (mSet 4 (mC (.int 0)))
  (seqF (mFor (mIterK (mVar 2)) (gSet 5) (seqF (mSet 6 (mCallF [false, false, false] r_P_walks_to (mCons (mP (mVar 2)) (mCons (mP (mVar 5)) (mCons (mP (mCall gLen (mCons (mPl 1) (mNil)))) (mNil))))))
  (seqF (mIfS (asB (mOp gEq (mPl 5) (mPl 3))) (mRet (mOp gAdd (mPl 4) (mP (mCallF [false, false, false, false] r_P_number_in_walk (mCons (mP (mVar 2)) (mCons (mP (mVar 6)) (mCons (mP (mVar 5)) (mCons (mP (mVar 1)) (mNil))))))))) (ret .nx))
  (mAug 4 (fun a b => a + b) (mOp gIxA (mP (mOp gIxA (mPl 6) (mP (mCall gLen (mCons (mPl 1) (mNil)))))) (mPl 5))))))
  (mRetVar 4))))))))
noncomputable def r_P_number_of : List D → FR := runB [false, false] 7 m_P_number_of
noncomputable def m_L_fits : M Fl :=
  seqF (mSet 3 (mOp gMul (mPl 2) (mP (mOp gAdd (mPl 0) (mP (mC (.int 1)))))))
  (mRet (mCall gAll (mCons (mP (mComp [4] (bnd (mCons (mP (mCall gLen (mCons (mPl 2) (mNil)))) (mNil)) rngA) (gSet 4) (mYes) (mOp gIn (mP (mCall gTuple (mCons (mP (mSl (mPl 3) (mPart (mVar 4)) (mPart (mOp gAdd (mPl 4) (mPl 0))))) (mNil)))) (mPl 1)))) (mNil))))
noncomputable def r_L_fits : List D → FR := runB [false, false, false] 5 m_L_fits
noncomputable def m_P_ring_of_walk : M Fl :=
  seqF (mSet 5 (mCall gList (mCons (mPl 2) (mNil))))
  (seqF (mSet 6 (mVar 2))
  (seqF (mWhile (asB (mOp gLtX (mP (mCall gLen (mCons (mPl 5) (mNil)))) (mPl 3))) (seqF (mSet 7 (mOp gAdd (mP (mOp gSub (mP (mOp gSub (mPl 3) (mP (mCall gLen (mCons (mPl 5) (mNil)))))) (mP (mC (.int 1))))) (mP (mCall gLen (mCons (mPl 2) (mNil))))))
  (seqF (mFor (mIter (mOp gIxA (mPl 0) (mPl 6))) (gSet 8) (seqF (mIfS (asB (mOp gLtX (mPl 4) (mP (mOp gIxA (mP (mOp gIxA (mPl 1) (mPl 7))) (mPl 8))))) (ret .brk) (ret .nx))
  (mAug 4 (fun a b => a - b) (mOp gIxA (mP (mOp gIxA (mPl 1) (mPl 7))) (mPl 8)))))
  (seqF (mSet 6 (mMv 8))
  (mExpr (mMut "list" 5 gAppend (mCons (mP (mOp gIx (mPl 6) (mP (mUn gNeg (mP (mC (.int 1))))))) (mNil))))))))
  (mRetVar 5)))
noncomputable def r_P_ring_of_walk : List D → FR := runB [false, false, false, false, false] 9 m_P_ring_of_walk
noncomputable def m_P_ring_at : M Fl :=
  seqF (mIfS (mNot (mTru (mP (mCallF [false, false, false] r_P_is_from (mCons (mP (mVar 1)) (mCons (mP (mC (.int 1))) (mCons (mP (mC (.int 60))) (mNil)))))))) (mRaise0 "NoLength") (ret .nx))
  (seqF (mIfS (mOr (mNot (mTru (mP (mUn (gIsi "int") (mPl 2))))) (mOr (mTru (mP (mUn (gIsi "bool") (mPl 2)))) (asB (mOp gLtX (mPl 2) (mP (mC (.int 0))))))) (mRaise0 "NoNumber") (ret .nx))
  (seqF (mIfS (asB (mOp gLtX (mPl 1) (mP (mUn (gFld "Rule" "wide") (mPl 0))))) (seqF (mSet 5 (mCallF [false, false] r_P_short_rings (mCons (mP (mVar 0)) (mCons (mP (mVar 1)) (mNil)))))
  (seqF (mIfS (asB (mOp gGe (mPl 2) (mP (mCall gLen (mCons (mPl 5) (mNil)))))) (mRaise0 "NoNumber") (ret .nx))
  (mRet (mOp gIx (mPl 5) (mPl 2))))) (ret .nx))
  (seqF (mSet 3 (mCallF [false] r_P_ties (mCons (mP (mVar 0)) (mNil))))
  (seqF (mFor (mIterK (mVar 3)) (gSet 4) (seqF (mSet 6 (mCallF [false, false, false] r_P_walks_to (mCons (mP (mVar 3)) (mCons (mP (mVar 4)) (mCons (mP (mVar 1)) (mNil))))))
  (seqF (mIfS (asB (mOp gLtX (mPl 2) (mP (mOp gIxA (mP (mOp gIxA (mPl 6) (mPl 1))) (mPl 4))))) (mRet (mCallF [false, false, false, false, false] r_P_ring_of_walk (mCons (mP (mVar 3)) (mCons (mP (mVar 6)) (mCons (mP (mVar 4)) (mCons (mP (mVar 1)) (mCons (mP (mVar 2)) (mNil)))))))) (ret .nx))
  (mAug 2 (fun a b => a - b) (mOp gIxA (mP (mOp gIxA (mPl 6) (mPl 1))) (mPl 4))))))
  (mRaise0 "NoNumber")))))
noncomputable def r_P_ring_at : List D → FR := runB [false, false, false] 7 m_P_ring_at
noncomputable def m_L_well : M Fl :=
  mRet (mLst (mCons (mP (mOp gMul (mPl 0) (mP (mCall gInt (mCons (mP (mOp gGe (mPl 0) (mP (mOp gPow (mP (mC (.int 10))) (mP (mC (.int 18))))))) (mNil)))))) (mCons (mP (mOp gMod (mPl 0) (mP (mC (.int 2147483629))))) (mCons (mP (mC (.int 0))) (mNil)))))
noncomputable def r_L_well : List D → FR := runB [false] 1 m_L_well
noncomputable def m_P_closed_numbers : M Fl :=
  seqF (mSet 2 (mCallF [false] r_P_ties (mCons (mP (mVar 0)) (mNil))))
  (seqF (mSet 3 (mOp gMul (mP (mLst (mCons (mP (mC (.int 0))) (mNil)))) (mP (mOp gAdd (mPl 1) (mP (mC (.int 1)))))))
  (seqF (mFor (mIterK (mVar 2)) (gSet 4) (mFor (bnd (mCons (mP (mCallF [false, false, false] r_P_walks_to (mCons (mP (mVar 2)) (mCons (mP (mVar 4)) (mCons (mP (mVar 1)) (mNil)))))) (mNil)) enumA) (gUnp 2 (gsCons (gSet 5) (gsCons (gSet 6) (gsNil)))) (mAugIx 3 (fun a b => a + b) (mVar 5) (mOp gIxA (mPl 6) (mPl 4)))))
  (mRetVar 3)))
noncomputable def r_P_closed_numbers : List D → FR := runB [false, false] 7 m_P_closed_numbers
noncomputable def m_P_divisor : M Fl :=
  seqF (mWhile (asB (mOp gGtX (mPl 1) (mP (mC (.int 0))))) (mPar 0 1 (mCons (mP (mVar 1)) (mCons (mP (mOp gMod (mPl 0) (mPl 1))) (mNil)))))
  (mRet (mVar 0))
noncomputable def r_P_divisor : List D → FR := runB [false, false] 2 m_P_divisor
noncomputable def m_P_many : M Fl :=
  seqF (mIfS (mNot (mTru (mP (mCallF [false, false, false] r_P_is_from (mCons (mP (mVar 1)) (mCons (mP (mC (.int 1))) (mCons (mP (mC (.int 400))) (mNil)))))))) (mRaise0 "NoLength") (ret .nx))
  (seqF (mIfS (mNot (mTru (mP (mUn (gIsi "bool") (mPl 2))))) (mRaise0 "NoTurns") (ret .nx))
  (seqF (mSet 3 (mCallF [false, false] r_P_closed_numbers (mCons (mP (mVar 0)) (mCons (mP (mVar 1)) (mNil)))))
  (seqF (mIfS (mTru (mPl 2)) (mRet (mOp gIxA (mPl 3) (mPl 1))) (ret .nx))
  (mRet (mOp gFdiv (mP (mCall gSum (mCons (mP (mComp [4] (bnd (mCons (mP (mC (.int 1))) (mCons (mP (mOp gAdd (mPl 1) (mP (mC (.int 1))))) (mNil))) rngB) (gSet 4) (mYes) (mOp gIxA (mPl 3) (mP (mCallF [false, false] r_P_divisor (mCons (mP (mVar 1)) (mCons (mP (mVar 4)) (mNil)))))))) (mNil)))) (mPl 1))))))
noncomputable def r_P_many : List D → FR := runB [false, false, false] 5 m_P_many
noncomputable def m_P_fits : M Fl :=
  seqF (mExpr (mCallF [false, false] r_P_sure_ring (mCons (mP (mVar 0)) (mCons (mP (mVar 1)) (mNil)))))
  (mRet (mCallF [false, false] r_P_is_fitting (mCons (mP (mVar 0)) (mCons (mP (mVar 1)) (mNil)))))
noncomputable def r_P_fits : List D → FR := runB [false, false] 2 m_P_fits
noncomputable def m_P_turned : M Fl :=
  mRet (mMk "Rule" 3 r_P_Rule_init (mCons (mP (mUn (gFld "Rule" "size") (mPl 0))) (mCons (mP (mUn (gFld "Rule" "wide") (mPl 0))) (mCons (mP (mCall gSorted (mCons (mP (mComp [1] (mIter (mUn (gFld "Rule" "words") (mPl 0))) (gSet 1) (mYes) (mUn gRevT (mPl 1)))) (mNil)))) (mNil)))))
noncomputable def r_P_turned : List D → FR := runB [false] 2 m_P_turned
noncomputable def m_P_widened : M Fl :=
  seqF (mSet 1 (mLst (mNil)))
  (seqF (mFor (mIter (mUn (gFld "Rule" "words") (mPl 0))) (gSet 2) (mExpr (mMut "list" 1 gExtend (mCons (mP (mComp [3] (mIter (mUn (gFld "Rule" "words") (mPl 0))) (gSet 3) (asB (mOp gEq (mP (mSl (mPl 3) (mNoPart) (mPart (mUn gNeg (mP (mC (.int 1))))))) (mP (mSl (mPl 2) (mPart (mC (.int 1))) (mNoPart))))) (mOp gAdd (mPl 2) (mP (mSl (mPl 3) (mPart (mUn gNeg (mP (mC (.int 1))))) (mNoPart)))))) (mNil)))))
  (mRet (mMk "Rule" 3 r_P_Rule_init (mCons (mP (mUn (gFld "Rule" "size") (mPl 0))) (mCons (mP (mOp gAdd (mP (mUn (gFld "Rule" "wide") (mPl 0))) (mP (mC (.int 1))))) (mCons (mP (mCall gSorted (mCons (mPl 1) (mNil)))) (mNil)))))))
noncomputable def r_P_widened : List D → FR := runB [false] 4 m_P_widened
noncomputable def m_P_joint : M Fl :=
  seqF (mIfS (mOr (asB (mOp gNe (mP (mUn (gFld "Rule" "wide") (mPl 0))) (mP (mUn (gFld "Rule" "wide") (mPl 1))))) (asB (mOp gGtX (mP (mOp gMul (mP (mUn (gFld "Rule" "size") (mPl 0))) (mP (mUn (gFld "Rule" "size") (mPl 1))))) (mP (mC (.int 4)))))) (mRaise0 "NoJoint") (ret .nx))
  (seqF (mSet 2 (mLst (mNil)))
  (seqF (mFor (mIter (mUn (gFld "Rule" "words") (mPl 0))) (gSet 3) (mFor (mIter (mUn (gFld "Rule" "words") (mPl 1))) (gSet 4) (mExpr (mMut "list" 2 gAppend (mCons (mP (mCall gTuple (mCons (mP (mComp [5, 6] (bnd (mCons (mP (mVar 3)) (mCons (mP (mVar 4)) (mNil))) zipA) (gUnp 2 (gsCons (gSet 5) (gsCons (gSet 6) (gsNil)))) (mYes) (mOp gAdd (mP (mOp gMul (mPl 5) (mP (mUn (gFld "Rule" "size") (mPl 1))))) (mPl 6)))) (mNil)))) (mNil))))))
  (mRet (mMk "Rule" 3 r_P_Rule_init (mCons (mP (mOp gMul (mP (mUn (gFld "Rule" "size") (mPl 0))) (mP (mUn (gFld "Rule" "size") (mPl 1))))) (mCons (mP (mUn (gFld "Rule" "wide") (mPl 0))) (mCons (mP (mCall gSorted (mCons (mPl 2) (mNil)))) (mNil))))))))
noncomputable def r_P_joint : List D → FR := runB [false, false] 7 m_P_joint
end RG


set_option Elab.async false
set_option linter.all false
set_option maxRecDepth 100000
set_option maxHeartbeats 4000000
namespace RG
open PySem PySem.Spec L2 B
theorem sz {n : Nat} (h : n ≤ 1000000) : n ≤ sizeLine := by rw [sizeLine_eq]; omega
theorem szlt {n : Nat} (h : n ≤ 1000000) : n < sizeLine := by rw [sizeLine_eq]; omega
theorem m_pos {i j : Int} (h : 0 < j) : 0 ≤ i % j := Int.emod_nonneg i (Int.ne_of_gt h)
theorem m_lt {i j : Int} (h : 0 < j) : i % j < j := Int.emod_lt_of_pos i h
theorem isi_int_int (i : Int) : isiD "int" (.int i) = some true := by show kitB "int" "int" = _; decide +kernel
theorem isi_int_bool (i : Int) : isiD "bool" (.int i) = some false := by show kitB "int" "bool" = _; decide +kernel
theorem isi_lst_list (ds : List D) : isiD "list" (.nd .lst ds) = some true := by show kitB "list" "list" = _; decide +kernel
theorem isi_tup_tuple (ds : List D) : isiD "tuple" (.nd .tup ds) = some true := by show kitB "tuple" "tuple" = _; decide +kernel
theorem is_from (i lo hi : Int) {Q} {E} (h : Q (.fz (.bl (decide (lo ≤ i ∧ i ≤ hi)))) []) : FW (r_P_is_from [.int i, .int lo, .int hi]) Q E := by
  unfold r_P_is_from m_P_is_from
  rw [FW_run]
  simp [start0, par, w_isi (isi_int_int i), w_isi (isi_int_bool i)]
  split
  · rename_i h1
    simpa [h1] using h
  · rename_i h1
    simpa [h1] using h
theorem w_all {bs : List Bool} {P : Rs → Prop} : optW (gAll [.nd .lst (bs.map D.bl)]) P ↔ P (.fz (.bl (bs.all id))) := by
  unfold gAll gLB
  show optW ((bls? (bs.map D.bl)).map fun ns => Rs.fz (.bl (ns.all id))) P ↔ _
  rw [bls_map]
  exact Iff.rfl
theorem all_true {α : Type} {l : List α} {p : α → Bool} {P : Rs → Prop} : optW (gAll [.nd .lst ((l.filter p).map fun _ => D.bl true)]) P ↔ P (.fz (.bl true)) := by
  have e : ((l.filter p).map fun _ => D.bl true) = ((l.filter p).map fun _ => true).map D.bl := by rw [List.map_map]; rfl
  rw [e, w_all]
  have : (((l.filter p).map fun _ => true).all id) = true := by simp
  rw [this]
theorem is_word {k : List Int} {s w : Int} (hl : (k.length : Int) = w) (hs : k.length ≤ 1000) (hx : ∀ x ∈ k, 0 ≤ x ∧ x < s) {Q} {E} (h : Q (.fz (.bl true)) []) : FW (r_P_is_word [tupD k, .int s, .int w]) Q E := by
  unfold r_P_is_word m_P_is_word tupD
  rw [FW_run]
  simp [start0, par, w_isi (isi_tup_tuple _), hl]
  refine W_compF (fun _ => true) (fun _ => .bl true) (by rfl) (szlt (by simp; omega)) (fun d hd => ?_) ?_
  · obtain ⟨x, hx', rfl⟩ := List.mem_map.mp hd
    simp [wipeB]
    have := hx x hx'
    refine is_from _ _ _ ?_
    simp
    omega
  · simp [wipeB, backB]
    rw [all_true]
    exact h

/-! words -/
theorem toPys_ints : ∀ ns : List Int, toPys (ns.map D.int) = ns.map PyData.int
  | [] => rfl
  | n :: ns => by
    show PyData.int n :: toPys (ns.map D.int) = _
    rw [toPys_ints ns]
    rfl
theorem canLay_ints : ∀ ns : List Int, PyData.canLayAll0 (ns.map PyData.int) = true
  | [] => by simp [PyData.canLayAll0]
  | n :: ns => by simp [PyData.canLayAll0, PyData.canLay0, canLay_ints ns]
theorem depth_ints : ∀ ns : List Int, PyData.depthAll (ns.map PyData.int) = 0
  | [] => by simp [PyData.depthAll]
  | n :: ns => by simp [PyData.depthAll, PyData.depth, depth_ints ns]
theorem eqvAll_ints : ∀ ns ms : List Int, PyData.eqvAll (ns.map PyData.int) (ms.map PyData.int) = decide (ns = ms)
  | [], [] => by simp [PyData.eqvAll]
  | [], _ :: _ => by simp [PyData.eqvAll]
  | _ :: _, [] => by simp [PyData.eqvAll]
  | n :: ns, m :: ms => by
    simp only [List.map_cons, PyData.eqvAll, PyData.eqv, eqvAll_ints ns ms]
    by_cases h : n = m <;> by_cases h2 : ns = ms <;> simp [h, h2]
/-- the list of words -/
abbrev wL (L : List (List Int)) : D := .nd .lst (L.map tupD)
def pW (k : List Int) : PyData := .tuple (k.map PyData.int)
theorem toPy_W (k : List Int) : toPy (tupD k) = pW k := by
  show PyData.tuple (toPys (k.map D.int)) = _
  rw [toPys_ints]
  rfl
theorem toPys_W : ∀ L : List (List Int), toPys (L.map tupD) = L.map pW
  | [] => rfl
  | k :: L => by
    show toPy (tupD k) :: toPys (L.map tupD) = _
    rw [toPys_W L, toPy_W]
    rfl
theorem canLay_W : ∀ L : List (List Int), PyData.canLayAll0 (L.map pW) = true
  | [] => by simp [PyData.canLayAll0]
  | k :: L => by simp [PyData.canLayAll0, PyData.canLay0, pW, canLay_ints, canLay_W L]
theorem depth_W : ∀ L : List (List Int), PyData.depthAll (L.map pW) ≤ 1
  | [] => by simp [PyData.depthAll]
  | k :: L => by
    have := depth_W L
    simp [PyData.depthAll, PyData.depth, pW, depth_ints]
    omega
theorem eqvAll_W : ∀ A B : List (List Int), PyData.eqvAll (A.map pW) (B.map pW) = decide (A = B)
  | [], [] => by simp [PyData.eqvAll]
  | [], _ :: _ => by simp [PyData.eqvAll]
  | _ :: _, [] => by simp [PyData.eqvAll]
  | n :: ns, m :: ms => by
    simp only [List.map_cons, PyData.eqvAll, PyData.eqv, eqvAll_W ns ms, pW, eqvAll_ints]
    by_cases h : n = m <;> by_cases h2 : ns = ms <;> simp [h, h2]
theorem shp_W (k : List Int) : shp (tupD k) = true := by
  unfold shp SeqAt.shaped
  rw [toPy_W]
  simp [PyData.canLay0, PyData.depth, pW, canLay_ints, depth_ints]
theorem shp_wL (L : List (List Int)) : shp (wL L) = true := by
  unfold shp SeqAt.shaped
  show (PyData.canLay0 (.list (toPys (L.map tupD))) && decide (PyData.depth (.list (toPys (L.map tupD))) ≤ 64)) = true
  rw [toPys_W]
  have := depth_W L
  simp [PyData.canLay0, PyData.depth, canLay_W]
  omega
theorem eqv_wL (A B : List (List Int)) : eqv (wL A) (wL B) = decide (A = B) := by
  unfold eqv
  show PyData.eqv (.list (toPys (A.map tupD))) (.list (toPys (B.map tupD))) = _
  rw [toPys_W, toPys_W]
  simp only [PyData.eqv, eqvAll_W]
theorem eqv_W (k l : List Int) : eqv (tupD k) (tupD l) = decide (k = l) := by
  unfold eqv
  rw [toPy_W, toPy_W]
  simp only [pW, PyData.eqv, eqvAll_ints]
theorem w_eqWL {A B : List (List Int)} {P : Rs → Prop} : optW (gEq (wL A) (wL B)) P ↔ P (.fz (.bl (decide (A = B)))) := by
  unfold gEq
  rw [if_pos ⟨shp_wL A, shp_wL B⟩, eqv_wL]
  exact Iff.rfl
@[simp] theorem w_eqW {k l : List Int} {P : Rs → Prop} : optW (gEq (tupD k) (tupD l)) P ↔ P (.fz (.bl (decide (k = l)))) := by
  unfold gEq
  rw [if_pos ⟨shp_W k, shp_W l⟩, eqv_W]
  exact Iff.rfl
theorem tset_rising {L : List (List Int)} (h : L.Pairwise (· < ·)) : tset L = L := rising_eq (tset_sorted L) h fun _ => mem_tset
/-- words of a rule -/
structure Rl (s w : Nat) (L : List (List Int)) : Prop where
  s1 : 1 ≤ s
  s4 : s ≤ 4
  w2 : 2 ≤ w
  w4 : w ≤ 4
  len : ∀ k ∈ L, k.length = w
  dig : ∀ k ∈ L, ∀ x ∈ k, 0 ≤ x ∧ x < (s : Int)
  ris : L.Pairwise (· < ·)
  few : L.length < 400
theorem Rl.ne {s w : Nat} {L : List (List Int)} (r : Rl s w L) : ∀ k ∈ L, k ≠ [] := fun k hk e => by
  have h1 := r.len k hk
  have h2 := r.w2
  rw [e] at h1
  simp at h1
  omega
theorem are_words {s w : Nat} {L : List (List Int)} (r : Rl s w L) {Q} {E} (h : Q (.fz (.bl true)) []) : FW (r_P_are_words [wL L, .int s, .int w]) Q E := by
  unfold r_P_are_words m_P_are_words
  rw [FW_run]
  simp [start0, par, w_isi (isi_lst_list _)]
  refine W_compF (fun _ => true) (fun _ => .bl true) (by rfl) (szlt (by have := r.few; simp; omega)) (fun d hd => ?_) ?_
  · obtain ⟨k, hk, rfl⟩ := List.mem_map.mp hd
    simp [wipeB]
    exact is_word (by rw [r.len k hk]) (by have := r.len k hk; have := r.w4; omega) (r.dig k hk) (by simp)
  · simp [wipeB, backB]
    rw [all_true]
    simp
    rw [w_sortSetG (by have := r.few; omega) r.ne, tset_rising r.ris]
    simp
    rw [w_eqWL]
    simp
    exact h
/-- a rule -/
abbrev ruleD (s w : Nat) (L : List (List Int)) : D := .nd (.ins "Rule" ["size", "wide", "words"]) [.int s, .int w, wL L]
theorem ins0 {a : D} : insD "Rule" (putFD "size" a (List.zip [] [])) = .nd (.ins "Rule" ["size"]) [a] := rfl
theorem ins1 {a b : D} : insD "Rule" (putFD "wide" b (List.zip ["size"] [a])) = .nd (.ins "Rule" ["size", "wide"]) [a, b] := by
  show insD "Rule" (if ("size" : Str) = "wide" then ("size", b) :: [] else ("size", a) :: putFD "wide" b []) = _
  rw [if_neg (by decide)]
  rfl
theorem ins2 {a b c : D} : insD "Rule" (putFD "words" c (List.zip ["size", "wide"] [a, b])) = .nd (.ins "Rule" ["size", "wide", "words"]) [a, b, c] := by
  show insD "Rule" (if ("size" : Str) = "words" then ("size", c) :: [("wide", b)] else ("size", a) :: (if ("wide" : Str) = "words" then ("wide", c) :: [] else ("wide", b) :: putFD "words" c [])) = _
  rw [if_neg (by decide), if_neg (by decide)]
  rfl
theorem W_then {m n : M Fl} {β β1 : B.Env} {Q : Fl → B.Env → Prop} {E : Exn → B.Env → Prop} (h : W m β (fun f b => f = .nx ∧ b = β1) E) (k : W n β1 Q E) : W (seqF m n) β Q E :=
  W_seqF.mpr (h.mono (fun f b ⟨e1, e2⟩ => by subst e1; subst e2; exact k) fun _ _ h => h)
theorem rule_init {s w : Nat} {L : List (List Int)} (r : Rl s w L) {Q} {E} (h : Q (.fz .non) [ruleD s w L]) : FW (r_P_Rule_init [insD "Rule" [], .int s, .int w, wL L]) Q E := by
  unfold r_P_Rule_init m_P_Rule_init
  rw [FW_run]
  simp only [start0, par]
  have h1 := r.s1
  have h2 := r.s4
  have h3 := r.w2
  have h4 := r.w4
  have e1 : (1 : Int) ≤ s ∧ (s : Int) ≤ 4 := by omega
  have e2 : (2 : Int) ≤ w ∧ (w : Int) ≤ 4 := by omega
  refine W_then (β1 := [.own (some 0) (insD "Rule" []), .fz (.int s), .fz (.int w), .fz (wL L)]) ?_ ?_
  · simp
    refine is_from _ _ _ ?_
    simp [e1]
  refine W_then (β1 := [.own (some 0) (insD "Rule" []), .fz (.int s), .fz (.int w), .fz (wL L)]) ?_ ?_
  · simp
    refine is_from _ _ _ ?_
    simp [e2]
  refine W_then (β1 := [.own (some 0) (insD "Rule" []), .fz (.int s), .fz (.int w), .fz (wL L)]) ?_ ?_
  · simp
    refine are_words r ?_
    simp
  refine W_then (β1 := [.own (some 0) (.nd (.ins "Rule" ["size"]) [.int s]), .fz (.int s), .fz (.int w), .fz (wL L)]) ?_ ?_
  · rw [W_mSetFld, W_mVar]
    exact ⟨⟨rfl, by decide⟩, rfl, by rw [← ins0]; rfl⟩
  refine W_then (β1 := [.own (some 0) (.nd (.ins "Rule" ["size", "wide"]) [.int s, .int w]), .fz (.int s), .fz (.int w), .fz (wL L)]) ?_ ?_
  · rw [W_mSetFld, W_mVar]
    exact ⟨⟨rfl, by decide⟩, rfl, by rw [← ins1]; rfl⟩
  rw [W_mSetFld]
  simp
  have e3 : insD "Rule" (putFD "words" (wL L) [("size", .int s), ("wide", .int w)]) = ruleD s w L := ins2
  rw [e3]
  exact h
/-! all lists of so many letters -/
def lists (s : Nat) : Nat → List (List Int)
  | 0 => [[]]
  | n + 1 => (lists s n).flatMap fun r => (List.range s).map fun x : Nat => r ++ [(x : Int)]
theorem lists_len (s : Nat) : ∀ n, (lists s n).length = s ^ n
  | 0 => rfl
  | n + 1 => by
    unfold lists
    rw [List.length_flatMap]
    have e : ((lists s n).map fun r => ((List.range s).map fun x : Nat => r ++ [(x : Int)]).length) = (lists s n).map fun _ => s := by
      apply List.map_congr_left
      intro r _
      simp
    rw [e, List.map_const', List.sum_replicate_nat, lists_len s n, Nat.pow_succ]
theorem mem_lists {s : Nat} {r : List Int} : ∀ {n : Nat}, r ∈ lists s n ↔ r.length = n ∧ ∀ x ∈ r, 0 ≤ x ∧ x < (s : Int)
  | 0 => by
    show r ∈ [[]] ↔ _
    rw [List.mem_singleton]
    constructor
    · rintro rfl
      exact ⟨rfl, fun x hx => nomatch hx⟩
    · rintro ⟨h, _⟩
      exact List.length_eq_zero_iff.mp h
  | n + 1 => by
    show r ∈ (lists s n).flatMap _ ↔ _
    rw [List.mem_flatMap]
    constructor
    · rintro ⟨q, hq, hr⟩
      obtain ⟨x, hx, rfl⟩ := List.mem_map.mp hr
      rw [List.mem_range] at hx
      obtain ⟨h1, h2⟩ := mem_lists.mp hq
      refine ⟨by simp [h1], fun y hy => ?_⟩
      rcases List.mem_append.mp hy with hy | hy
      · exact h2 y hy
      · rw [List.mem_singleton.mp hy]
        omega
    · rintro ⟨h1, h2⟩
      have hne : r ≠ [] := fun e => by rw [e] at h1; cases h1
      refine ⟨r.dropLast, mem_lists.mpr ⟨by simp [h1], fun x hx => h2 x (List.dropLast_subset _ hx)⟩, List.mem_map.mpr ⟨(r.getLast hne).toNat, ?_, ?_⟩⟩
      · have := h2 _ (List.getLast_mem hne)
        rw [List.mem_range]
        omega
      · have := h2 _ (List.getLast_mem hne)
        have e : (((r.getLast hne).toNat : Nat) : Int) = r.getLast hne := by omega
        rw [e]
        exact List.dropLast_concat_getLast hne
end RG


set_option Elab.async false
set_option linter.all false
set_option maxRecDepth 100000
set_option maxHeartbeats 4000000
namespace RG
open PySem PySem.Spec L2 B
/-! ## points, ties, walks: the plain side -/
def pts (L : List (List Int)) : List (List Int) := tset (L.map List.dropLast ++ L.map List.tail)
def near (L : List (List Int)) (p : List Int) : List (List Int) := (L.filter fun x => decide (x.dropLast = p)).map List.tail
def wk (L : List (List Int)) : Nat → List Int → List Int → Int
  | 0, p, q => if p = q then 1 else 0
  | n + 1, p, q => ((near L p).map fun o => wk L n o q).sum
def nearD (L : List (List Int)) : Dct := (pts L).map fun p => (p, wL (near L p))
def wkD (L : List (List Int)) (n : Nat) (q : List Int) : Dct := (pts L).map fun p => (p, .int (wk L n p q))
theorem mem_pts {L : List (List Int)} {p : List Int} : p ∈ pts L ↔ ∃ k ∈ L, k.dropLast = p ∨ k.tail = p := by
  unfold pts
  rw [mem_tset, List.mem_append, List.mem_map, List.mem_map]
  constructor
  · rintro (⟨k, hk, e⟩ | ⟨k, hk, e⟩)
    · exact ⟨k, hk, .inl e⟩
    · exact ⟨k, hk, .inr e⟩
  · rintro ⟨k, hk, e | e⟩
    · exact .inl ⟨k, hk, e⟩
    · exact .inr ⟨k, hk, e⟩
theorem pts_rise (L : List (List Int)) : (pts L).Pairwise (· < ·) := tset_sorted _
theorem rise_nodup {l : List (List Int)} (h : l.Pairwise (· < ·)) : l.Nodup := List.Pairwise.imp (fun {a b} (hab : a < b) (e : a = b) => List.lt_irrefl b (e ▸ hab)) h
theorem pts_nodup (L : List (List Int)) : (pts L).Nodup := rise_nodup (pts_rise L)
theorem tins_len {x : List Int} : ∀ ys : List (List Int), (tins x ys).length ≤ ys.length + 1
  | [] => by simp [tins]
  | y :: ys => by
    unfold tins
    split
    · simp
    · split
      · simp
      · have := tins_len (x := x) ys
        simp
        omega
theorem tset_len : ∀ ks : List (List Int), (tset ks).length ≤ ks.length
  | [] => by simp [tset]
  | k :: ks => by
    show (tins k (tset ks)).length ≤ _
    have := tins_len (x := k) (tset ks)
    have := tset_len ks
    simp
    omega
theorem lists_few {s w : Nat} {L : List (List Int)} (r : Rl s w L) : (lists s (w - 1)).length ≤ 64 := by
  rw [lists_len]
  have h1 := r.s4
  have h2 := r.w4
  have : s ^ (w - 1) ≤ 4 ^ (w - 1) := Nat.pow_le_pow_left h1 _
  have : 4 ^ (w - 1) ≤ 4 ^ 3 := Nat.pow_le_pow_right (by decide) (by omega)
  omega
theorem drop_lists {s w : Nat} {L : List (List Int)} (r : Rl s w L) {k : List Int} (hk : k ∈ L) : k.dropLast ∈ lists s (w - 1) := mem_lists.mpr ⟨by rw [List.length_dropLast, r.len k hk], fun x hx => r.dig k hk x (List.dropLast_subset _ hx)⟩
theorem tail_lists {s w : Nat} {L : List (List Int)} (r : Rl s w L) {k : List Int} (hk : k ∈ L) : k.tail ∈ lists s (w - 1) := mem_lists.mpr ⟨by rw [List.length_tail, r.len k hk], fun x hx => r.dig k hk x (List.mem_of_mem_tail hx)⟩
theorem pts_few {s w : Nat} {L : List (List Int)} (r : Rl s w L) : (pts L).length ≤ 64 := by
  refine Nat.le_trans (nodup_sub (l := pts L) (List.Pairwise.imp (fun {a b} (h : a < b) (e : a = b) => List.lt_irrefl a (by rw [← e] at h; exact h)) (tset_sorted _)) fun p hp => ?_) (lists_few r)
  obtain ⟨k, hk, h⟩ := mem_pts.mp hp
  rcases h with rfl | rfl
  · exact drop_lists r hk
  · exact tail_lists r hk
theorem pts_len {s w : Nat} {L : List (List Int)} (r : Rl s w L) : (pts L).length < 200 := Nat.lt_of_le_of_lt (pts_few r) (by decide)
theorem near_pts {L : List (List Int)} {p o : List Int} (h : o ∈ near L p) : o ∈ pts L := by
  unfold near at h
  obtain ⟨k, hk, e⟩ := List.mem_map.mp h
  exact mem_pts.mpr ⟨k, (List.mem_filter.mp hk).1, .inr e⟩
theorem getL_map {l : List (List Int)} {f : List Int → D} {p : List Int} (h : p ∈ l) : getL (l.map fun p => (p, f p)) p = some (f p) := by
  unfold getL
  induction l with
  | nil => cases h
  | cons x l ih =>
    rw [List.map_cons, List.find?_cons]
    by_cases e : x = p
    · subst e
      simp
    · rcases List.mem_cons.mp h with q | q
      · exact absurd q.symm e
      · simp only [e, decide_false]
        exact ih q
/-! slices of words -/
theorem cut_pre (xs : List D) : cut xs none (some (-1)) = xs.dropLast := by
  unfold cut HT.sIx
  simp
  rw [List.dropLast_eq_take]
  congr 1
  omega
theorem cut_suf (xs : List D) : cut xs (some 1) none = xs.tail := by
  unfold cut HT.sIx
  simp
  cases xs with
  | nil => simp
  | cons x xs => simp
theorem gSl_pre (k : List Int) : gSl none (some (-1)) (tupD k) = some (.fz (tupD k.dropLast)) := by
  show some (Rs.fz (.nd .tup (cut (k.map D.int) none (some (-1))))) = _
  rw [cut_pre, List.dropLast_eq_take, ← List.map_take, List.length_map, ← List.dropLast_eq_take]
  rfl
theorem gSl_suf (k : List Int) : gSl (some 1) none (tupD k) = some (.fz (tupD k.tail)) := by
  show some (Rs.fz (.nd .tup (cut (k.map D.int) (some 1) none))) = _
  rw [cut_suf, ← List.map_tail]
  rfl
theorem fld_words {s w : Nat} {L : List (List Int)} : gFld "Rule" "words" (ruleD s w L) = some (.fz (wL L)) := by with_unfolding_all rfl
theorem fld_size {s w : Nat} {L : List (List Int)} : gFld "Rule" "size" (ruleD s w L) = some (.fz (.int s)) := by with_unfolding_all rfl
theorem fld_wide {s w : Nat} {L : List (List Int)} : gFld "Rule" "wide" (ruleD s w L) = some (.fz (.int w)) := by with_unfolding_all rfl
def kD (d : D) : List Int := (tupI? d).getD []
@[simp] theorem kD_tup (k : List Int) : kD (tupD k) = k := by unfold kD; rw [tupI_tupD]; rfl
theorem rng0 (n : Nat) : rng 0 n = (List.range n).map fun k : Nat => D.int (k : Int) := by
  unfold rng
  simp
theorem rng_len (n : Nat) : (rng 0 (n : Int)).length = n := by rw [rng0]; simp
theorem rng_get {n i : Nat} {d : D} (h : (rng 0 (n : Int))[i]? = some d) : i < n ∧ d = .int i := by
  rw [rng0, List.getElem?_map] at h
  obtain ⟨k, h1, rfl⟩ := Option.map_eq_some_iff.mp h
  obtain ⟨h2, h3⟩ := List.getElem?_eq_some_iff.mp h1
  rw [List.length_range] at h2
  rw [List.getElem_range] at h3
  subst h3
  exact ⟨h2, rfl⟩
theorem w_sum {ns : List Int} {P : Rs → Prop} : optW (gSum [.nd .lst (ns.map D.int)]) P ↔ P (.fz (.int ns.sum)) := by
  unfold gSum gLI
  show optW ((ints? (ns.map D.int)).bind fun ns => (some (D.int ns.sum)).map Rs.fz) P ↔ _
  rw [ints_map]
  exact Iff.rfl
/-- the last item -/
theorem atI_last {α : Type} {l : List α} {n : Nat} (h : l.length = n + 1) : atI l (-1) = l[n]? := by
  rw [atI_neg (by decide) (by omega), h]
  congr 1
  omega
end RG


set_option Elab.async false
set_option linter.all false
set_option maxRecDepth 100000
set_option maxHeartbeats 4000000
namespace RG
open PySem PySem.Spec L2 B
/-! ## points, ties, walks: what the program tells -/
section
variable {s w : Nat} {L : List (List Int)}
theorem mapF {f : List Int → List Int} {l : List (List Int)} : ((l.map tupD).filter fun _ => true).map (fun d => f (kD d)) = l.map f := by
  rw [List.filter_eq_self.mpr fun _ _ => rfl, List.map_map]
  congr 1
  funext k
  simp
theorem half {f : List Int → List Int} {me : M Rs} (r : Rl s w L) (hf : ∀ k ∈ L, f k ∈ lists s (w - 1)) {Q : List (List Int) → B.Env → Prop} {E} (he : ∀ k ∈ L, W me [.fz (ruleD s w L), .fz (tupD k)] (fun q β1 => q.d = tupD (f k) ∧ β1 = [.fz (ruleD s w L), .fz (tupD k)]) noE)
    (h : Q (L.map f) [.fz (ruleD s w L), .un]) : W (mSetC [1] (mIter (mUn (gFld "Rule" "words") (mPl 0))) (gSet 1) mYes me) [.fz (ruleD s w L), .un] Q E := by
  rw [W_mSetC]
  simp
  rw [fld_words]
  simp
  refine W_compGF (fun _ => true) (fun l => l.map fun d => f (kD d)) (by rfl) (by rfl) (fun i d hd => ?_) ?_
  · rw [List.getElem?_map] at hd
    obtain ⟨k, hk, rfl⟩ := Option.map_eq_some_iff.mp hd
    have hk' := List.mem_of_getElem? hk
    have few := r.few
    simp [wipeB]
    refine (he k hk').mono (fun q β1 ⟨e1, e2⟩ => ?_) fun _ _ h => h
    rw [e1, tupI_tupD]
    subst e2
    simp
    refine Nat.lt_of_le_of_lt (Nat.le_trans (dcn_le (T := lists s (w - 1)) fun q hq => ?_) (lists_few r)) (by decide)
    obtain ⟨x, hx, rfl⟩ := List.mem_map.mp hq
    obtain ⟨k', hk2, rfl⟩ := List.mem_map.mp (List.mem_of_mem_take (List.mem_filter.mp hx).1)
    simpa using hf k' hk2
  · rw [mapF]
    simp [wipeB, backB]
    exact h
theorem points (r : Rl s w L) {Q} {E} (h : Q (.own (wL (pts L))) []) : FW (r_P_points [ruleD s w L]) Q E := by
  unfold r_P_points m_P_points
  rw [FW_run]
  simp only [start0, par]
  rw [W_mRet, W_mPts]
  refine half (f := List.dropLast) r (fun k hk => drop_lists r hk) (fun k hk => ?_) ?_
  · simp
    rw [gSl_pre]
    simp
  refine half (f := List.tail) r (fun k hk => tail_lists r hk) (fun k hk => ?_) ?_
  · simp
    rw [gSl_suf]
    simp
  refine ⟨fun k hk e => ?_, ?_⟩
  · subst e
    have h2 := r.w2
    rcases List.mem_append.mp hk with q | q
    · obtain ⟨x, hx, e⟩ := List.mem_map.mp q
      have := r.len x hx
      have := congrArg List.length e
      simp at this
      omega
    · obtain ⟨x, hx, e⟩ := List.mem_map.mp q
      have := r.len x hx
      have := congrArg List.length e
      simp at this
      omega
  · simp
    exact h
end
end RG


set_option Elab.async false
set_option linter.all false
set_option maxRecDepth 100000
set_option maxHeartbeats 4000000
namespace RG
open PySem PySem.Spec L2 B
section
variable {s w : Nat} {L : List (List Int)}
/-- the ties of the first i words -/
def nk (L : List (List Int)) (i : Nat) : KL := (pts L).map fun p => (p, (near (L.take i) p).map tupD)
theorem nk_keys {i : Nat} : (nk L i).map (·.1) = pts L := by
  unfold nk
  rw [List.map_map]
  exact List.map_id _
theorem near_snoc {l : List (List Int)} {k p : List Int} : near (l ++ [k]) p = near l p ++ (if k.dropLast = p then [k.tail] else []) := by
  unfold near
  rw [List.filter_append, List.map_append]
  congr 1
  by_cases h : k.dropLast = p <;> simp [h]
theorem nk_app {i : Nat} {k : List Int} (hk : L[i]? = some k) : appL (nk L i) k.dropLast (tupD k.tail) = nk L (i + 1) := by
  unfold appL nk
  rw [List.map_map]
  apply List.map_congr_left
  intro p _
  have et : L.take (i + 1) = L.take i ++ [k] := by rw [List.take_add_one, hk]; rfl
  simp only [Function.comp]
  rw [et, near_snoc]
  by_cases h : p = k.dropLast
  · rw [if_pos h, if_pos h.symm, List.map_append]
    rfl
  · rw [if_neg h, if_neg fun e => h e.symm, List.append_nil]
theorem near_len {l : List (List Int)} {p : List Int} : (near l p).length ≤ l.length := by
  unfold near
  rw [List.length_map]
  exact List.length_filter_le _ _
theorem kData_nk : kData (nk L L.length) = nearD L := by
  unfold kData nk nearD
  rw [List.map_map]
  apply List.map_congr_left
  intro p _
  simp [List.take_length]
theorem ties (r : Rl s w L) {Q} {E} (h : Q (.fz (dcgD (nearD L))) []) : FW (r_P_ties [ruleD s w L]) Q E := by
  unfold r_P_ties m_P_ties
  rw [FW_run]
  simp only [start0, par]
  rw [W_mBlkK, W_mKd]
  simp
  refine points r ?_
  simp
  have few := pts_len r
  have keyf : ∀ l : List D, (l.map fun d => ((kD d), ([] : List D))).map (·.1) = l.map kD := fun l => by rw [List.map_map]; rfl
  refine W_compGF (fun _ => true) (fun l => l.map fun d => (kD d, [])) (by rfl) (by rfl) (fun i d hd => ?_) ?_
  · rw [List.getElem?_map] at hd
    obtain ⟨p, hp, rfl⟩ := Option.map_eq_some_iff.mp hd
    have h1 := List.length_filter_le (fun _ => true) (List.take i ((pts L).map tupD))
    have h2 := List.length_take_le' i ((pts L).map tupD)
    rw [List.length_map] at h2
    have fl : ((List.take i ((pts L).map tupD)).filter fun _ => true) = ((pts L).take i).map tupD := by
      rw [List.filter_eq_self.mpr fun _ _ => rfl, List.map_take]
    rw [fl] at h1 ⊢
    have nk0 : p ∉ (pts L).take i := fun hm => by
      obtain ⟨j, hj⟩ := List.mem_iff_getElem?.mp hm
      rw [List.getElem?_take] at hj
      split at hj
      · rename_i hji
        have := nd_ix (pts_nodup L) hj hp
        omega
      · cases hj
    simp [wipeB]
    rw [tupI_tupD]
    simp
    have ei : ((fun x : List Int × List D => x.fst) ∘ (fun d => (kD d, ([] : List D))) ∘ tupD) = id := by
      funext q
      simp
    rw [ei, List.map_id]
    exact ⟨szlt (by omega), nk0⟩
  · have e0 : (((pts L).map tupD).filter fun _ => true).map (fun d => (kD d, ([] : List D))) = nk L 0 := by
      rw [List.filter_eq_self.mpr fun _ _ => rfl, List.map_map]
      unfold nk
      apply List.map_congr_left
      intro p _
      simp [near]
    rw [e0]
    simp [wipeB, backB]
    rw [fld_words]
    simp
    refine W_forK (fun i l β => l = nk L i ∧ ∃ s2, β = [.fz (ruleD s w L), .un, s2, .un]) ⟨rfl, _, rfl⟩ (fun i d l β hd hI => ?_) fun l β hI => ?_
    · obtain ⟨rfl, s2, rfl⟩ := hI
      rw [List.getElem?_map] at hd
      obtain ⟨k, hk, rfl⟩ := Option.map_eq_some_iff.mp hd
      have hk' := List.mem_of_getElem? hk
      simp
      rw [gSl_pre]
      simp
      rw [tupI_tupD]
      simp
      refine ⟨?_, ?_⟩
      · have := mem_pts.mpr ⟨k, hk', .inl rfl⟩
        rw [← nk_keys (i := i)] at this
        simpa using this
      · rw [gSl_suf]
        simp
        refine ⟨fun a b hab e => ?_, nk_app hk⟩
        unfold nk at hab
        obtain ⟨p, _, hp⟩ := List.mem_map.mp hab
        cases hp
        have h2 := List.length_take_le' i L
        have h3 := r.few
        rw [List.length_map]
        exact Nat.lt_of_le_of_lt near_len (szlt (by omega))
    · obtain ⟨rfl, s2, rfl⟩ := hI
      simp
      rw [kData_nk]
      exact h
/-! walks -/
theorem nodup_len {i : Nat} {ks : List (List Int)} : (((ks.map tupD).take i).filter fun _ => true) = (ks.take i).map tupD := by
  rw [List.filter_eq_self.mpr fun _ _ => rfl, List.map_take]
/-- a dict over the points -/
theorem pdict {ks : List (List Int)} (nd : ks.Nodup) (hk : ks.length < 1000) {β : B.Env} {vs : List Nat} {g : D → M Unit} {mk mv : M Rs} {f : List Int → D} {Q : Dct → B.Env → Prop} {E} (hno : noOwn β vs = true)
    (hs : ∀ k ∈ ks, W (g (tupD k)) (wipeB β vs) (fun _ β2 => W mk β2 (fun rk β3 => rk.d = tupD k ∧ W mv β3 (fun rv β4 => rv.d = f k ∧ wipeB β4 vs = wipeB β vs) noE) noE) noE)
    (h : Q (ks.map fun k => (k, f k)) (backB β (wipeB β vs) vs)) : W (compGV g mYes (stD mk mv) vs [] (ks.map tupD)) β Q E := by
  refine W_compGF (fun _ => true) (fun l => l.map fun d => (kD d, f (kD d))) hno (by rfl) (fun i d hd => ?_) ?_
  · rw [List.getElem?_map] at hd
    obtain ⟨k, hk', rfl⟩ := Option.map_eq_some_iff.mp hd
    refine (hs k (List.mem_of_getElem? hk')).mono (fun _ β2 h2 => ?_) fun _ _ h => h
    rw [W_mYes]
    refine ⟨rfl, ?_⟩
    rw [if_pos rfl, W_stD, nodup_len]
    refine h2.mono (fun rk β3 ⟨e1, h3⟩ => h3.mono (fun rv β4 ⟨e2, e3⟩ => ?_) fun _ _ h => h) fun _ _ h => h
    rw [e1, tupI_tupD]
    have hlen : ((((ks.take i).map tupD).map fun d => (kD d, f (kD d)))).length < sizeLine := by
      rw [List.length_map, List.length_map]
      have := List.length_take_le' i ks
      exact szlt (by omega)
    refine ⟨hlen, ?_, e3⟩
    unfold putL
    rw [if_neg, e2]
    · simp
    · intro hm
      rw [List.map_map, List.map_map] at hm
      have ei : (((fun x : List Int × D => x.1) ∘ (fun d => (kD d, f (kD d)))) ∘ tupD) = id := by
        funext q
        simp
      rw [ei, List.map_id] at hm
      obtain ⟨j, hj⟩ := List.mem_iff_getElem?.mp hm
      rw [List.getElem?_take] at hj
      split at hj
      · have := nd_ix nd hj hk'
        omega
      · cases hj
  · have e0 : ((ks.map tupD).filter fun _ => true).map (fun d => (kD d, f (kD d))) = ks.map fun k => (k, f k) := by
      rw [List.filter_eq_self.mpr fun _ _ => rfl, List.map_map]
      apply List.map_congr_left
      intro p _
      simp
    rw [e0]
    exact h
theorem keys_nearD : keysOf (nearD L) = (pts L).map tupD := by
  unfold keysOf nearD
  rw [List.map_map]
  rfl
theorem walks_to (r : Rl s w L) {goal : List Int} {most : Nat} (hm : most ≤ 1000) {Q} {E} (h : Q (.own (.nd .lst ((List.range (most + 1)).map fun n => dcgD (wkD L n goal)))) []) : FW (r_P_walks_to [dcgD (nearD L), tupD goal, .int most]) Q E := by
  unfold r_P_walks_to m_P_walks_to
  rw [FW_run]
  simp only [start0, par]
  have few := pts_len r
  simp
  rw [keys_nearD]
  refine pdict (pts_nodup L) (by omega) (f := fun p => .int (wk L 0 p goal)) (by rfl) (fun p hp => ?_) ?_
  · simp [wipeB]
    rfl
  · simp [wipeB, backB]
    refine ⟨sz (by decide), inR_iff.mpr (by omega), W_forL (fun i β => ∃ s4 s5, isOwn s4 = false ∧ isOwn s5 = false ∧ β = [.fz (dcgD (nearD L)), .fz (tupD goal), .fz (.int most), .own none (.nd .lst ((List.range (i + 1)).map fun n => dcgD (wkD L n goal))), s4, s5, .un, .un]) ⟨.un, .un, rfl, rfl, rfl⟩ (fun i d β hd hI => ?_) fun β hI => ?_⟩
    · obtain ⟨s4, s5, h4, h5, rfl⟩ := hI
      obtain ⟨hi, rfl⟩ := rng_get hd
      simp
      rw [atI_last (n := i) (by simp)]
      simp
      rw [keys_nearD]
      refine pdict (pts_nodup L) (by omega) (f := fun p => .int (wk L (i + 1) p goal)) (by cases s4 <;> first | rfl | cases h4) (fun p hp => ?_) ?_
      · simp [wipeB]
        unfold nearD
        rw [getL_map hp]
        simp
        have nl := near_len (l := L) (p := p)
        have fw := r.few
        refine W_compF (fun _ => true) (fun d => .int (wk L i (kD d) goal)) (by rfl) (szlt (by simp; omega)) (fun d hd => ?_) ?_
        · obtain ⟨o, ho, rfl⟩ := List.mem_map.mp hd
          simp [wipeB]
          unfold wkD
          rw [getL_map (near_pts ho)]
          simp
        · have e0 : (((near L p).map tupD).filter fun _ => true).map (fun d => D.int (wk L i (kD d) goal)) = ((near L p).map fun o => wk L i o goal).map D.int := by
            rw [List.filter_eq_self.mpr fun _ _ => rfl, List.map_map, List.map_map]
            apply List.map_congr_left
            intro p _
            simp
          rw [e0]
          simp only [wipeB, backB]
          simp
          rw [← List.map_map, w_sum]
          rfl
      · simp [wipeB, backB]
        refine ⟨szlt (by omega), _, rfl, _, rfl, ?_, rfl, rfl⟩
        rw [List.range_succ (n := i + 1), List.map_append]
        rfl
    · obtain ⟨s4, s5, h4, h5, rfl⟩ := hI
      simp
      rw [rng_len]
      exact h
end
end RG


set_option Elab.async false
set_option linter.all false
set_option maxRecDepth 100000
set_option maxHeartbeats 4000000
namespace RG
open PySem PySem.Spec L2 B
theorem set_rng {N j : Nat} {f : Nat → D} {x : D} : ((List.range N).map f).set j x = (List.range N).map fun n => if n = j then x else f n := by
  apply List.ext_getElem?
  intro i
  by_cases h : i = j
  · subst h
    by_cases hi : i < N
    · rw [List.getElem?_set_self (by simpa using hi), List.getElem?_map, List.getElem?_range hi]
      simp
    · rw [List.getElem?_eq_none (by simp; omega), List.getElem?_eq_none (by simp; omega)]
  · rw [List.getElem?_set_ne (fun e => h e.symm), List.getElem?_map, List.getElem?_map]
    by_cases hi : i < N
    · rw [List.getElem?_range hi]
      simp [h]
    · rw [List.getElem?_eq_none (by simp; omega)]
      rfl
section
variable {s w : Nat} {L : List (List Int)}
/-- how many closed walks of n ties -/
def cl (L : List (List Int)) (n : Nat) : Int := ((pts L).map fun p => wk L n p p).sum
def clI (L : List (List Int)) (i n : Nat) : Int := (((pts L).take i).map fun p => wk L n p p).sum
theorem clI_snoc {i n : Nat} {p : List Int} (hp : (pts L)[i]? = some p) : clI L (i + 1) n = clI L i n + wk L n p p := by
  unfold clI
  rw [List.take_add_one, hp]
  simp
theorem clI_all {n : Nat} : clI L (pts L).length n = cl L n := by unfold clI cl; rw [List.take_length]
theorem enumD_get {ds : List D} {j : Nat} {e : D} (h : (enumD ds)[j]? = some e) : ∃ d, ds[j]? = some d ∧ e = .nd .tup [.int (j : Nat), d] := by
  unfold enumD zipD at h
  rw [List.getElem?_zipWith, List.getElem?_map] at h
  cases e1 : ds[j]? with
  | none =>
    rw [e1] at h
    cases q : (List.range ds.length)[j]? with
    | none => rw [q] at h; cases h
    | some k => rw [q] at h; cases h
  | some d =>
    have hj := (List.getElem?_eq_some_iff.mp e1).1
    rw [e1, List.getElem?_range hj] at h
    cases h
    exact ⟨d, rfl, rfl⟩
theorem enumD_len {ds : List D} : (enumD ds).length = ds.length := by
  unfold enumD zipD
  simp
theorem w_mul0 {n : Nat} (h : n ≤ 900) {P : Rs → Prop} : optW (gMul (.nd .lst [.int 0]) (.int ((n : Int) + 1))) P ↔ P (.own (.nd .lst ((List.range (n + 1)).map fun _ => D.int 0))) := by
  unfold gMul
  simp only
  have e : ((n : Int) + 1).toNat = n + 1 := by omega
  rw [if_pos ⟨by omega, by omega, by rw [e]; exact sz (by simp; omega)⟩, e]
  have e2 : (List.replicate (n + 1) [D.int 0]).flatten = (List.range (n + 1)).map fun _ => D.int 0 := by
    apply List.ext_getElem?
    intro i
    have l1 : (List.replicate (n + 1) [D.int 0]).flatten = List.replicate (n + 1) (D.int 0) := by
      generalize n + 1 = m
      induction m with
      | zero => rfl
      | succ m ih => rw [List.replicate_succ, List.flatten_cons, ih, List.replicate_succ]; rfl
    rw [l1, List.getElem?_replicate, List.getElem?_map]
    by_cases hi : i < n + 1
    · rw [if_pos hi, List.getElem?_range hi]
      rfl
    · rw [if_neg hi, List.getElem?_eq_none (by simp; omega)]
      rfl
  rw [e2]
  exact Iff.rfl
theorem closed (r : Rl s w L) {most : Nat} (hm : most ≤ 900) {Q} {E} (h : Q (.own (.nd .lst ((List.range (most + 1)).map fun n => D.int (cl L n)))) []) : FW (r_P_closed_numbers [ruleD s w L, .int most]) Q E := by
  unfold r_P_closed_numbers m_P_closed_numbers
  rw [FW_run]
  simp only [start0, par]
  rw [W_seqF]
  simp
  refine ties r ?_
  simp
  rw [w_mul0 hm]
  simp
  rw [keys_nearD]
  have e0 : ((List.range (most + 1)).map fun _ => D.int 0) = (List.range (most + 1)).map fun n => D.int (clI L 0 n) := by
    apply List.map_congr_left
    intro n _
    rfl
  rw [e0]
  refine ⟨sz (by decide), W_forL (fun i β => ∃ s4 s5 s6, isOwn s4 = false ∧ isOwn s5 = false ∧ isOwn s6 = false ∧ β = [.fz (ruleD s w L), .fz (.int most), .fz (dcgD (nearD L)), .own none (.nd .lst ((List.range (most + 1)).map fun n => D.int (clI L i n))), s4, s5, s6]) ⟨_, _, _, rfl, rfl, rfl, rfl⟩ (fun i d β hd hI => ?_) fun β hI => ?_⟩
  · obtain ⟨s4, s5, s6, h4, h5, h6, rfl⟩ := hI
    rw [List.getElem?_map] at hd
    obtain ⟨p, hp, rfl⟩ := Option.map_eq_some_iff.mp hd
    have hp' := List.mem_of_getElem? hp
    simp
    refine walks_to r (by omega) ?_
    simp
    refine W_forL (fun j β => ∃ s5 s6, isOwn s5 = false ∧ isOwn s6 = false ∧ β = [.fz (ruleD s w L), .fz (.int most), .fz (dcgD (nearD L)), .own none (.nd .lst ((List.range (most + 1)).map fun n => D.int (if n < j then clI L (i + 1) n else clI L i n))), .fz (tupD p), s5, s6]) ⟨s5, s6, h5, h6, by simp⟩ (fun j d β hd2 hI => ?_) fun β hI => ?_
    · obtain ⟨s5, s6, h5, h6, rfl⟩ := hI
      obtain ⟨d2, hd3, rfl⟩ := enumD_get hd2
      rw [List.getElem?_map] at hd3
      obtain ⟨j', hj, rfl⟩ := Option.map_eq_some_iff.mp hd3
      have hj0 := List.getElem?_eq_some_iff.mp hj
      obtain ⟨hj1, hj2⟩ := hj0
      rw [List.length_range] at hj1
      rw [List.getElem_range] at hj2
      subst hj2
      simp
      rw [atI_nat', List.getElem?_map, List.getElem?_range hj1]
      simp
      unfold wkD
      rw [getL_map hp']
      simp
      rw [ixN_of (by omega) (by omega)]
      simp
      refine ⟨_, rfl, _, rfl, ?_, rfl, rfl⟩
      rw [set_rng]
      apply List.map_congr_left
      intro n _
      by_cases h1 : n = j
      · subst h1
        rw [if_pos rfl, if_pos (by omega), clI_snoc hp]
      · rw [if_neg h1]
        by_cases h2 : n < j
        · rw [if_pos h2, if_pos (by omega)]
        · rw [if_neg h2, if_neg (by omega)]
    · obtain ⟨s5, s6, h5, h6, rfl⟩ := hI
      simp
      refine ⟨_, rfl, s5, h5, s6, h6, fun a h1 h2 => ?_, rfl, rfl, rfl⟩
      rw [enumD_len] at h2
      simp at h2
      omega
  · obtain ⟨s4, s5, s6, h4, h5, h6, rfl⟩ := hI
    simp
    have e1 : ((List.range (most + 1)).map fun n => D.int (clI L (pts L).length n)) = (List.range (most + 1)).map fun n => D.int (cl L n) := by
      apply List.map_congr_left
      intro n _
      rw [clI_all]
    rw [e1]
    exact h
theorem isi_bl (b : Bool) : isiD "bool" (.bl b) = some true := by show kitB "bool" "bool" = _; decide +kernel
theorem many (r : Rl s w L) {n : Nat} (h1 : 1 ≤ n) (h2 : n ≤ 400) {Q} {E} (h : Q (.fz (.int (cl L n))) []) : FW (r_P_many [ruleD s w L, .int n, .bl true]) Q E := by
  unfold r_P_many m_P_many
  rw [FW_run]
  simp only [start0, par]
  have e1 : (1 : Int) ≤ n ∧ (n : Int) ≤ 400 := by omega
  refine W_then (β1 := [.fz (ruleD s w L), .fz (.int n), .fz (.bl true), .un, .un]) ?_ ?_
  · simp
    refine is_from _ _ _ ?_
    simp [e1]
  refine W_then (β1 := [.fz (ruleD s w L), .fz (.int n), .fz (.bl true), .un, .un]) ?_ ?_
  · simp [w_isi (isi_bl _)]
  rw [W_seqF]
  simp
  refine closed r (by omega) ?_
  simp
  rw [atI_nat', List.getElem?_map, List.getElem?_range (by omega)]
  simp
  exact h
def dN (d : D) : Nat := match d with
  | .int i => i.toNat
  | _ => 0
@[simp] theorem dN_int (i : Int) : dN (.int i) = i.toNat := rfl
end
end RG


set_option Elab.async false
set_option linter.all false
set_option maxRecDepth 100000
set_option maxHeartbeats 4000000
namespace RG
open PySem PySem.Spec L2 B
/-! ## draws -/
def St (d : D) : Prop := ∃ a b c : Int, d = .nd .lst [.int a, .int b, .int c]
theorem mixd (x c b : Int) (Q : Int → Prop) (hb : 0 < b) (h : ∀ v, 0 ≤ v → v < b → Q v) : mulOk x 48271 ∧ divOk 1013 ∧ mulOk (x * 48271 % 2147483629) (x * 48271 % 2147483629 / 1013 + 69623 + c) ∧ divOk 2003 ∧
    mulOk (x * 48271 % 2147483629 * (x * 48271 % 2147483629 / 1013 + 69623 + c) % 2147483587) (x * 48271 % 2147483629 * (x * 48271 % 2147483629 / 1013 + 69623 + c) % 2147483587 / 2003 + 40692) ∧ divOk 3 ∧ 0 < b ∧
    Q (x * 48271 % 2147483629 * (x * 48271 % 2147483629 / 1013 + 69623 + c) % 2147483587 * (x * 48271 % 2147483629 * (x * 48271 % 2147483629 / 1013 + 69623 + c) % 2147483587 / 2003 + 40692) % 2147483563 / 3 % b) := by
  have p : (0 : Int) < 2147483629 := by decide
  refine ⟨mulOk_r (by decide) (by decide), divOk_of (by decide) (by decide), ?_⟩
  generalize e1 : x * 48271 % 2147483629 = y
  have y1 : 0 ≤ y := e1 ▸ m_pos p
  have y2 : y < 2147483629 := e1 ▸ m_lt p
  refine ⟨mulOk_l (by omega) (by omega), divOk_of (by decide) (by decide), ?_⟩
  generalize e2 : y * (y / 1013 + 69623 + c) % 2147483587 = z
  have z1 : 0 ≤ z := e2 ▸ m_pos (by decide)
  have z2 : z < 2147483587 := e2 ▸ m_lt (by decide)
  exact ⟨mulOk_l (by omega) (by omega), divOk_of (by decide) (by decide), hb, h _ (m_pos hb) (m_lt hb)⟩
theorem draw {d : D} (hs : St d) {b : Int} (hb : 0 < b) (hb2 : b < 2 ^ 62) {Q} {E} (h : ∀ v s, St s → 0 ≤ v → v < b → Q (.fz (.int v)) [s]) : FW (r_L_draw [d, .int b]) Q E := by
  unfold r_L_draw m_L_draw
  rw [FW_run]
  obtain ⟨x, y, z, rfl⟩ := hs
  simp [start0, par, ixN]
  split
  · exact ⟨hb, divOk_of hb (by omega), h _ _ ⟨_, _, _, rfl⟩ (m_pos hb) (m_lt hb)⟩
  · exact ⟨mulOk_l (by decide) (by decide), mixd _ _ b (fun v => Q (.fz (.int v)) _) hb fun v h1 h2 => h v _ ⟨_, _, _, rfl⟩ h1 h2⟩
/-- one of a list -/
theorem one {s : D} (hs : St s) {ds : List D} (hd : ds ≠ []) (hl : ds.length < 1000000) {Q} {E} (h : ∀ d s, d ∈ ds → St s → Q (.fz d) [s]) : FW (r_L_one [s, .nd .lst ds]) Q E := by
  unfold r_L_one m_L_one
  rw [FW_run]
  have hpos : 0 < ds.length := List.length_pos_iff.mpr hd
  simp [start0, par]
  refine draw hs (by omega) (by omega) fun v s' st h1 h2 => ?_
  simp
  obtain ⟨k, rfl⟩ := Int.eq_ofNat_of_zero_le h1
  have hk : k < ds.length := by omega
  rw [atI_nat', List.getElem?_eq_getElem hk]
  simp
  exact h _ _ (List.getElem_mem hk) st
theorem well (c : Int) {Q} {E} (h : ∀ s, St s → Q (.own s) []) : FW (r_L_well [.int c]) Q E := by
  unfold r_L_well m_L_well
  rw [FW_run]
  simp [start0, par]
  refine ⟨powOk_of (by decide) (by decide) (by decide), mulOk_r (by split <;> decide) (by split <;> decide), sz (by decide), h _ ⟨_, _, _, rfl⟩⟩
abbrev iL (ns : List Int) : D := .nd .lst (ns.map D.int)
theorem l_lists {s n : Nat} (h : s ^ n ≤ 100000) (hs : 1 ≤ s) (hs2 : s ≤ 10) (hn : n ≤ 100) {Q} {E} (q : Q (.own (.nd .lst ((lists s n).map iL))) []) : FW (r_L_lists [.int s, .int n]) Q E := by
  unfold r_L_lists m_L_lists
  rw [FW_run]
  simp [start0, par]
  have grow : ∀ i, i ≤ n → s ^ i ≤ 100000 := fun i hi => Nat.le_trans (Nat.pow_le_pow_right hs hi) h
  refine ⟨sz (by decide), inR_iff.mpr (by omega), W_forL (fun i β => ∃ s3 s4 s5 s6, isOwn s3 = false ∧ isOwn s4 = false ∧ isOwn s5 = false ∧ isOwn s6 = false ∧ β = [.fz (.int s), .fz (.int n), .own none (.nd .lst ((lists s i).map iL)), s3, s4, s5, s6]) ⟨_, _, _, _, rfl, rfl, rfl, rfl, rfl⟩ (fun i d β hd hI => ?_) fun β hI => ?_⟩
  · obtain ⟨s3, s4, s5, s6, h3, h4, h5, h6, rfl⟩ := hI
    obtain ⟨hi, rfl⟩ := rng_get hd
    simp
    refine W_forL (fun j β => ∃ s5, isOwn s5 = false ∧ β = [.fz (.int s), .fz (.int n), .fz (.nd .lst ((lists s i).map iL)), .fz (.int i), .own none (.nd .lst ((((lists s i).take j).flatMap fun r => (List.range s).map fun x : Nat => r ++ [(x : Int)]).map iL)), s5, s6]) ⟨s5, h5, by simp⟩ (fun j d β hd2 hI => ?_) fun β hI => ?_
    · obtain ⟨s5, h5, rfl⟩ := hI
      rw [List.getElem?_map] at hd2
      obtain ⟨row, hr, rfl⟩ := Option.map_eq_some_iff.mp hd2
      simp
      refine ⟨inR_iff.mpr (by omega), W_compF (fun _ => true) (fun d => .nd .lst (row.map D.int ++ [d])) (by cases s6 <;> first | rfl | cases h6) (by rw [rng_len]; exact szlt (by omega)) (fun d hd3 => ?_) ?_⟩
      · simp [wipeB]
        have hrl := (mem_lists.mp (List.mem_of_getElem? hr)).1
        exact ⟨sz (by decide), sz (by omega)⟩
      · simp [wipeB, backB]
        rw [rng0]
        have hj := (List.getElem?_eq_some_iff.mp hr).1
        have g := grow (i + 1) (by omega)
        rw [lists_len] at hj
        have m : (j + 1) * s ≤ s ^ i * s := Nat.mul_le_mul_right s hj
        rw [Nat.pow_succ] at g
        refine ⟨?_, rfl, ?_⟩
        · rw [List.map_const', List.take_replicate, List.sum_replicate_nat, lists_len, List.filter_eq_self.mpr fun _ _ => rfl, List.length_map, List.length_range, Nat.min_eq_left (by omega)]
          refine sz ?_
          rw [Nat.add_mul, Nat.one_mul] at m
          omega
        · rw [List.filter_eq_self.mpr fun _ _ => rfl, List.take_add_one, hr, List.flatMap_append, List.map_append]
          congr 1
          simp
    · obtain ⟨s5, h5, rfl⟩ := hI
      simp
      exact ⟨_, rfl, .un, rfl, _, h5, _, h6, rfl, rfl, rfl, rfl, rfl⟩
  · obtain ⟨s3, s4, s5, s6, h3, h4, h5, h6, rfl⟩ := hI
    simp
    rw [rng_len]
    exact q
end RG


set_option Elab.async false
set_option linter.all false
set_option maxRecDepth 100000
set_option maxHeartbeats 4000000
namespace RG
open PySem PySem.Spec L2 B
/-! ## rings in order: the plain side -/
def lastD (o : List Int) : Int := o.getLastD 0
def Lt (L : List (List Int)) (u : Nat) : Nat → List Int → List Int → List (List Int)
  | 0, p, q => List.replicate (wk L u p q).toNat []
  | m + 1, p, q => (near L p).flatMap fun o => (Lt L u m o q).map (lastD o :: ·)
theorem sum_nonneg {α : Type} {l : List α} {f : α → Int} (h : ∀ x ∈ l, 0 ≤ f x) : 0 ≤ (l.map f).sum := by
  induction l with
  | nil => exact Int.le_refl 0
  | cons x l ih =>
    rw [List.map_cons, List.sum_cons]
    have := h x List.mem_cons_self
    have := ih fun y hy => h y (List.mem_cons_of_mem _ hy)
    omega
theorem wk_nonneg (L : List (List Int)) : ∀ (n : Nat) (p q : List Int), 0 ≤ wk L n p q
  | 0, p, q => by unfold wk; split <;> decide
  | n + 1, p, q => sum_nonneg fun o _ => wk_nonneg L n o q
theorem flat_len {α β : Type} {l : List α} {g : α → List β} {f : α → Int} (h : ∀ x ∈ l, ((g x).length : Int) = f x) : ((l.flatMap g).length : Int) = (l.map f).sum := by
  induction l with
  | nil => rfl
  | cons x l ih =>
    rw [List.flatMap_cons, List.length_append, List.map_cons, List.sum_cons, Int.natCast_add, h x List.mem_cons_self, ih fun y hy => h y (List.mem_cons_of_mem _ hy)]
theorem Lt_len (L : List (List Int)) (u : Nat) : ∀ (m : Nat) (p q : List Int), ((Lt L u m p q).length : Int) = wk L (m + u) p q
  | 0, p, q => by
    unfold Lt
    have := wk_nonneg L u p q
    rw [List.length_replicate, Nat.zero_add]
    omega
  | m + 1, p, q => by
    have e : m + 1 + u = (m + u) + 1 := by omega
    rw [e]
    show (((near L p).flatMap _).length : Int) = ((near L p).map fun o => wk L (m + u) o q).sum
    exact flat_len fun o _ => by rw [List.length_map, Lt_len L u m o q]
theorem flat_get {α β : Type} {g : α → List β} : ∀ {l : List α} {i : Nat} {x : α} {k : Nat}, l[i]? = some x → k < (g x).length → (l.flatMap g)[((l.take i).flatMap g).length + k]? = (g x)[k]?
  | y :: l, 0, x, k, h, hk => by
    have e : y = x := Option.some.inj h
    subst e
    rw [List.take_zero, List.flatMap_nil, List.length_nil, Nat.zero_add, List.flatMap_cons, List.getElem?_append_left hk]
  | y :: l, i + 1, x, k, h, hk => by
    rw [List.take_succ_cons, List.flatMap_cons, List.flatMap_cons, List.length_append, Nat.add_assoc, List.getElem?_append_right (by omega), Nat.add_sub_cancel_left]
    exact flat_get (l := l) (i := i) h hk
/-- the sum of the counts of the first i -/
def S (L : List (List Int)) (n : Nat) (p q : List Int) (i : Nat) : Int := (((near L p).take i).map fun o => wk L n o q).sum
theorem S_snoc {L : List (List Int)} {n i : Nat} {p q o : List Int} (h : (near L p)[i]? = some o) : S L n p q (i + 1) = S L n p q i + wk L n o q := by
  unfold S
  rw [List.take_add_one, h]
  simp
theorem S_all {L : List (List Int)} {n : Nat} {p q : List Int} : S L n p q (near L p).length = wk L (n + 1) p q := by
  unfold S
  rw [List.take_length]
  rfl
/-- one step of a walk by its number -/
theorem Lt_step {L : List (List Int)} {u m i k1 : Nat} {p q o zs : List Int} (h : (near L p)[i]? = some o) (hz : (Lt L u m o q)[k1]? = some zs) : ∃ k : Nat, (k : Int) = S L (m + u) p q i + k1 ∧ (Lt L u (m + 1) p q)[k]? = some (lastD o :: zs) := by
  have hk := (List.getElem?_eq_some_iff.mp hz).1
  have := flat_get (g := fun o => (Lt L u m o q).map (lastD o :: ·)) (k := k1) h (by rw [List.length_map]; exact hk)
  refine ⟨_, ?_, this.trans (by rw [List.getElem?_map, hz]; rfl)⟩
  rw [Int.natCast_add]
  congr 1
  unfold S
  exact flat_len fun o _ => by rw [List.length_map, Lt_len L u m o q]
/-! the points that lead to one by u ties or fewer -/
theorem near_mem {L : List (List Int)} {p o : List Int} : o ∈ near L p ↔ ∃ k ∈ L, k.dropLast = p ∧ k.tail = o := by
  unfold near
  rw [List.mem_map]
  constructor
  · rintro ⟨k, hk, e⟩
    obtain ⟨h1, h2⟩ := List.mem_filter.mp hk
    exact ⟨k, h1, of_decide_eq_true h2, e⟩
  · rintro ⟨k, hk, e1, e2⟩
    exact ⟨k, List.mem_filter.mpr ⟨hk, decide_eq_true e1⟩, e2⟩
end RG


set_option Elab.async false
set_option linter.all false
set_option maxRecDepth 100000
set_option maxHeartbeats 4000000
namespace RG
open PySem PySem.Spec L2 B
/-! ## walks by letters -/
def step (p : List Int) (x : Int) : List Int := p.tail ++ [x]
def path (L : List (List Int)) : List Int → List Int → Prop
  | _, [] => True
  | p, x :: xs => p ++ [x] ∈ L ∧ path L (step p x) xs
section
variable {L : List (List Int)} {u : Nat} (hl : ∀ k ∈ L, k.length = u + 1) (hu : 1 ≤ u)
theorem step_len {p : List Int} {x : Int} (h : p.length = u) (hu : 1 ≤ u) : (step p x).length = u := by
  unfold step
  simp
  omega
theorem last_step {p : List Int} {x : Int} : lastD (step p x) = x := by
  unfold lastD step
  simp
include hl hu
theorem near_iff {p o : List Int} (hp : p.length = u) : o ∈ near L p ↔ ∃ x, p ++ [x] ∈ L ∧ o = step p x := by
  rw [near_mem]
  constructor
  · rintro ⟨k, hk, e1, e2⟩
    have hkl := hl k hk
    have hne : k ≠ [] := fun e => by rw [e] at hkl; simp at hkl
    have ek := List.dropLast_concat_getLast hne
    rw [e1] at ek
    refine ⟨k.getLast hne, by rw [ek]; exact hk, ?_⟩
    rw [← e2]
    unfold step
    conv => lhs; rw [← ek]
    cases p with
    | nil => simp at hp; omega
    | cons y p => rfl
  · rintro ⟨x, hx, rfl⟩
    refine ⟨p ++ [x], hx, by simp, ?_⟩
    unfold step
    cases p with
    | nil => simp at hp; omega
    | cons y p => rfl
theorem near_len' {p o : List Int} (hp : p.length = u) (h : o ∈ near L p) : o.length = u := by
  obtain ⟨x, _, rfl⟩ := (near_iff hl hu hp).mp h
  exact step_len hp hu
omit hl hu in
theorem app_lt : ∀ {p : List Int} {x y : Int}, p ++ [x] < p ++ [y] ↔ x < y
  | [], x, y => by
    rw [List.nil_append, List.nil_append, List.cons_lt_cons_iff]
    constructor
    · rintro (h | ⟨_, h⟩)
      · exact h
      · exact absurd h (List.lt_irrefl _)
    · exact .inl
  | z :: p, x, y => by
    rw [List.cons_append, List.cons_append, List.cons_lt_cons_iff, app_lt]
    constructor
    · rintro (h | ⟨_, h⟩)
      · omega
      · exact h
    · exact fun h => .inr ⟨rfl, h⟩
theorem near_rise {p : List Int} (hp : p.length = u) (ris : L.Pairwise (· < ·)) : (near L p).Pairwise (· < ·) := by
  unfold near
  rw [List.pairwise_map]
  refine (ris.sublist List.filter_sublist).imp_of_mem fun {a b} ha hb hab => ?_
  obtain ⟨a1, a2⟩ := List.mem_filter.mp ha
  obtain ⟨b1, b2⟩ := List.mem_filter.mp hb
  have a2 := of_decide_eq_true a2
  have b2 := of_decide_eq_true b2
  have na : a ≠ [] := fun e => by have := hl a a1; rw [e] at this; simp at this
  have nb : b ≠ [] := fun e => by have := hl b b1; rw [e] at this; simp at this
  have ea := List.dropLast_concat_getLast na
  have eb := List.dropLast_concat_getLast nb
  rw [a2] at ea
  rw [b2] at eb
  rw [← ea, ← eb] at hab ⊢
  have := app_lt.mp hab
  cases p with
  | nil => simp at hp; omega
  | cons y p => exact app_lt.mpr this
/-- what u ties or fewer tell of the end -/
theorem wk_pos : ∀ {n : Nat} {p q : List Int}, n ≤ u → p.length = u → q.length = u → 0 < wk L n p q → p.drop n = q.take (u - n) ∧ path L p (q.drop (u - n))
  | 0, p, q, _, hp, hq, h => by
    unfold wk at h
    split at h
    · rename_i e
      subst e
      refine ⟨by rw [Nat.sub_zero, List.drop_zero, List.take_of_length_le (by omega)], ?_⟩
      rw [Nat.sub_zero, List.drop_of_length_le (by omega)]
      trivial
    · omega
  | n + 1, p, q, hn, hp, hq, h => by
    have : ∃ o ∈ near L p, 0 < wk L n o q := by
      false_or_by_contra
      rename_i hc
      have z : ((near L p).map fun o => wk L n o q).sum ≤ 0 := by
        have : ∀ l : List (List Int), (∀ o ∈ l, o ∈ near L p) → (l.map fun o => wk L n o q).sum ≤ 0 := by
          intro l
          induction l with
          | nil => intro _; exact Int.le_refl 0
          | cons x l ih =>
            intro hm
            rw [List.map_cons, List.sum_cons]
            have h1 := ih fun o ho => hm o (List.mem_cons_of_mem _ ho)
            have h2 : ¬ 0 < wk L n x q := fun hx => hc ⟨x, hm x List.mem_cons_self, hx⟩
            omega
        exact this _ fun _ h => h
      have : wk L (n + 1) p q = ((near L p).map fun o => wk L n o q).sum := rfl
      omega
    obtain ⟨o, ho, hpos⟩ := this
    obtain ⟨x, hx, rfl⟩ := (near_iff hl hu hp).mp ho
    obtain ⟨i1, i2⟩ := wk_pos (n := n) (by omega) (step_len hp hu) hq hpos
    have e1 : (step p x).drop n = p.drop (n + 1) ++ [x] := by
      unfold step
      rw [List.drop_append_of_le_length (by simp; omega), List.drop_tail]
    have hlt : u - (n + 1) < q.length := by omega
    have e2 : q.take (u - n) = q.take (u - (n + 1)) ++ [q[u - (n + 1)]] := by
      have : u - n = u - (n + 1) + 1 := by omega
      rw [this, List.take_append_getElem]
    rw [e1, e2] at i1
    obtain ⟨j1, j2⟩ := List.append_inj' i1 rfl
    have j2 := List.cons.inj j2
    refine ⟨j1, ?_⟩
    rw [List.drop_eq_getElem_cons hlt, ← j2.1]
    refine ⟨hx, ?_⟩
    have : u - (n + 1) + 1 = u - n := by omega
    rw [this]
    exact i2
end
end RG


set_option Elab.async false
set_option linter.all false
set_option maxRecDepth 100000
set_option maxHeartbeats 4000000
namespace RG
open PySem PySem.Spec L2 B
theorem sum_one {α : Type} {l : List α} {f : α → Int} (nd : l.Nodup) (a : α) (h : ∀ x ∈ l, 0 ≤ f x ∧ f x ≤ 1 ∧ (0 < f x → x = a)) : (l.map f).sum ≤ 1 := by
  induction l with
  | nil => simp
  | cons x l ih =>
    obtain ⟨n1, n2⟩ := List.nodup_cons.mp nd
    rw [List.map_cons, List.sum_cons]
    obtain ⟨h1, h2, h3⟩ := h x List.mem_cons_self
    have ih := ih n2 fun y hy => h y (List.mem_cons_of_mem _ hy)
    rcases Int.lt_or_le 0 (f x) with q | q
    · have e := h3 q
      subst e
      have z : (l.map f).sum = 0 := by
        have : ∀ m : List α, (∀ y ∈ m, y ∈ l) → (m.map f).sum = 0 := by
          intro m
          induction m with
          | nil => intro _; rfl
          | cons y m ih2 =>
            intro hm
            rw [List.map_cons, List.sum_cons, ih2 fun z hz => hm z (List.mem_cons_of_mem _ hz)]
            obtain ⟨g1, g2, g3⟩ := h y (List.mem_cons_of_mem _ (hm y List.mem_cons_self))
            have : ¬ 0 < f y := fun hy => n1 (g3 hy ▸ hm y List.mem_cons_self)
            omega
        exact this l fun _ h => h
      omega
    · omega
section
variable {L : List (List Int)} {u : Nat} (hl : ∀ k ∈ L, k.length = u + 1) (hu : 1 ≤ u) (ris : L.Pairwise (· < ·))
include hl hu ris
theorem wk_le1 : ∀ {n : Nat} {p q : List Int}, n ≤ u → p.length = u → q.length = u → wk L n p q ≤ 1
  | 0, p, q, _, _, _ => by unfold wk; split <;> decide
  | n + 1, p, q, hn, hp, hq => by
    have hlt : u - (n + 1) < q.length := by omega
    refine sum_one (rise_nodup (near_rise hl hu hp ris)) (step p q[u - (n + 1)]) fun o ho => ⟨wk_nonneg L n o q, wk_le1 (by omega) (near_len' hl hu hp ho) hq, fun h => ?_⟩
    obtain ⟨x, hx, rfl⟩ := (near_iff hl hu hp).mp ho
    obtain ⟨i1, _⟩ := wk_pos hl hu (by omega) (step_len hp hu) hq h
    have e1 : (step p x).drop n = p.drop (n + 1) ++ [x] := by
      unfold step
      rw [List.drop_append_of_le_length (by simp; omega), List.drop_tail]
    have e2 : q.take (u - n) = q.take (u - (n + 1)) ++ [q[u - (n + 1)]] := by
      have : u - n = u - (n + 1) + 1 := by omega
      rw [this, List.take_append_getElem]
    rw [e1, e2] at i1
    have j := List.cons.inj (List.append_inj' i1 rfl).2
    rw [j.1]
theorem Lt_mem : ∀ {m : Nat} {p q zs : List Int}, p.length = u → q.length = u → zs ∈ Lt L u m p q → zs.length = m ∧ path L p (zs ++ q)
  | 0, p, q, zs, hp, hq, h => by
    unfold Lt at h
    obtain ⟨h1, rfl⟩ := List.mem_replicate.mp h
    have := wk_nonneg L u p q
    obtain ⟨_, h2⟩ := wk_pos hl hu (Nat.le_refl u) hp hq (by omega)
    rw [Nat.sub_self, List.drop_zero] at h2
    exact ⟨rfl, h2⟩
  | m + 1, p, q, zs, hp, hq, h => by
    obtain ⟨o, ho, hz⟩ := List.mem_flatMap.mp h
    obtain ⟨ws, hw, rfl⟩ := List.mem_map.mp hz
    obtain ⟨i1, i2⟩ := Lt_mem (near_len' hl hu hp ho) hq hw
    obtain ⟨x, hx, rfl⟩ := (near_iff hl hu hp).mp ho
    refine ⟨by simp [i1], ?_⟩
    rw [last_step, List.cons_append]
    exact ⟨hx, i2⟩
omit hl hu ris in
end
/-- all fitting rings of n letters, n no less than u, in order -/
def Rs_ (L : List (List Int)) (u n : Nat) : List (List Int) := (pts L).flatMap fun p => (Lt L u (n - u) p p).map (p ++ ·)
end RG


set_option Elab.async false
set_option linter.all false
set_option maxRecDepth 100000
set_option maxHeartbeats 4000000
namespace RG
open PySem PySem.Spec L2 B
theorem W_cut {m n : M Fl} {β : B.Env} {Q : Fl → B.Env → Prop} {E : Exn → B.Env → Prop} (R : B.Env → Prop) (h : W m β (fun f b => f = .nx ∧ R b) E) (k : ∀ b, R b → W n b Q E) : W (seqF m n) β Q E :=
  W_seqF.mpr (h.mono (fun f b ⟨e1, e2⟩ => by subst e1; exact k b e2) fun _ _ h => h)
abbrev numD (L : List (List Int)) (n : Nat) (q : List Int) : D := .nd .lst ((List.range (n + 1)).map fun i => dcgD (wkD L i q))
theorem num_at {L : List (List Int)} {n i : Nat} {q : List Int} (h : i ≤ n) : atI ((List.range (n + 1)).map fun i => dcgD (wkD L i q)) (i : Int) = some (dcgD (wkD L i q)) := by
  rw [atI_nat', List.getElem?_map, List.getElem?_range (by omega)]
  rfl
theorem get_wk {L : List (List Int)} {n : Nat} {p q : List Int} (h : p ∈ pts L) : getL (wkD L n q) p = some (.int (wk L n p q)) := getL_map h
theorem get_near {L : List (List Int)} {p : List Int} (h : p ∈ pts L) : getL (nearD L) p = some (wL (near L p)) := getL_map h
theorem last_at {o : List Int} (h : o ≠ []) : atI (o.map D.int) (-1) = some (.int (lastD o)) := by
  have hl : o.length ≠ 0 := fun e => h (List.length_eq_zero_iff.mp e)
  rw [atI_last (n := o.length - 1) (by simp; omega), List.getElem?_map, ← List.getLast?_eq_getElem?]
  unfold lastD
  rw [List.getLast?_eq_some_getLast h, List.getLastD_eq_getLast?, List.getLast?_eq_some_getLast h]
  rfl
@[simp ↓] theorem list_tup {k : List Int} {P : Rs → Prop} : optW (gList [tupD k]) P ↔ P (.own (iL k)) := Iff.rfl
@[simp ↓] theorem len_tup {k : List Int} {P : Rs → Prop} : optW (gLen [tupD k]) P ↔ P (.fz (.int k.length)) := by
  have : optW (gLen [tupD k]) P ↔ P (.fz (.int (k.map D.int).length)) := Iff.rfl
  rw [this, List.length_map]
@[simp ↓] theorem items_wL {l : List (List Int)} {P : List D → Prop} : optW (items (wL l)) P ↔ P (l.map tupD) := Iff.rfl
@[simp ↓] theorem ix_tup {k : List Int} {i : Int} {P : Rs → Prop} : optW (gIx (tupD k) (.int i)) P ↔ optW (atI (k.map D.int) i) fun d => P (.fz d) := optW_map
section
variable {s u : Nat} {L : List (List Int)}
theorem Rl.pl (r : Rl s (u + 1) L) {p : List Int} (h : p ∈ pts L) : p.length = u := by
  obtain ⟨k, hk, e | e⟩ := mem_pts.mp h
  · rw [← e, List.length_dropLast, r.len k hk]; rfl
  · rw [← e, List.length_tail, r.len k hk]; rfl
theorem Rl.u1 (r : Rl s (u + 1) L) : 1 ≤ u := by have := r.w2; omega
theorem ring_of_walk (r : Rl s (u + 1) L) {start zs : List Int} (hst : start ∈ pts L) {m k : Nat} (hm : u + m ≤ 60) (hz : (Lt L u m start start)[k]? = some zs) {Q} {E} (h : Q (.own (iL (start ++ zs))) []) :
    FW (r_P_ring_of_walk [dcgD (nearD L), numD L (u + m) start, tupD start, .int ((u + m : Nat) : Int), .int k]) Q E := by
  unfold r_P_ring_of_walk m_P_ring_of_walk
  rw [FW_run]
  simp only [start0, par]
  have hsl := r.pl hst
  have hu := r.u1
  refine W_then (β1 := [.fz (dcgD (nearD L)), .fz (numD L (u + m) start), .fz (tupD start), .fz (.int ((u + m : Nat) : Int)), .fz (.int k), .own none (iL start), .un, .un, .un]) ?_ ?_
  · simp
  refine W_then (β1 := [.fz (dcgD (nearD L)), .fz (numD L (u + m) start), .fz (tupD start), .fz (.int ((u + m : Nat) : Int)), .fz (.int k), .own none (iL start), .fz (tupD start), .un, .un]) ?_ ?_
  · simp
  rw [W_seqF]
  refine W_while (fun m' β => ∃ (ys here zs' : List Int) (k' : Nat) (s7 s8 : Sl), isOwn s7 = false ∧ isOwn s8 = false ∧ m' ≤ m ∧ ys.length = m - m' ∧ here ∈ pts L ∧ (Lt L u m' here start)[k']? = some zs' ∧ ys ++ zs' = zs ∧
    β = [.fz (dcgD (nearD L)), .fz (numD L (u + m) start), .fz (tupD start), .fz (.int ((u + m : Nat) : Int)), .fz (.int k'), .own none (iL (start ++ ys)), .fz (tupD here), s7, s8]) (fun m' β hI => ?_) (n := m) ⟨[], start, zs, k, .un, .un, rfl, rfl, Nat.le_refl _, by simp, hst, hz, rfl, by simp⟩
  obtain ⟨ys, here, zs', k', s7, s8, h7, h8, hm', hys, hh, hz', hyz, rfl⟩ := hI
  rw [W_asB, W_mOp]
  simp
  rw [get_near hh]
  simp
  split
  · rename_i hlt
    obtain ⟨m1, rfl⟩ : ∃ m1, m' = m1 + 1 := ⟨m' - 1, by omega⟩
    have el : (u : Int) + m - (start.length + ys.length) - 1 + start.length = ((m1 + u : Nat) : Int) := by omega
    rw [el]
    refine W_forL (fun i β => ∃ s8, isOwn s8 = false ∧ 0 ≤ (k' : Int) - S L (m1 + u) here start i ∧ β = [.fz (dcgD (nearD L)), .fz (numD L (u + m) start), .fz (tupD start), .fz (.int ((u : Int) + m)), .fz (.int ((k' : Int) - S L (m1 + u) here start i)), .own none (iL (start ++ ys)), .fz (tupD here), .fz (.int ((m1 + u : Nat) : Int)), s8]) ⟨s8, h8, ?_, ?_⟩ (fun i d β hd hI => ?_) fun β hI => ?_
    · unfold S
      simp
    · unfold S
      simp
    · obtain ⟨s8, h8, hge, rfl⟩ := hI
      rw [List.getElem?_map] at hd
      obtain ⟨o, ho, rfl⟩ := Option.map_eq_some_iff.mp hd
      have hop := near_pts (List.mem_of_getElem? ho)
      simp
      have e1 : (m1 : Int) + u = ((m1 + u : Nat) : Int) := by omega
      rw [e1, num_at (by omega)]
      simp
      rw [get_wk hop]
      simp
      split
      · rename_i hb
        have hL := Lt_len L u m1 o start
        have hk1 : ((k' : Int) - S L (m1 + u) here start i).toNat < (Lt L u m1 o start).length := by omega
        have hz1 := List.getElem?_eq_getElem hk1
        generalize (Lt L u m1 o start)[((k' : Int) - S L (m1 + u) here start i).toNat] = zs1 at hz1
        obtain ⟨k2, e2, e3⟩ := Lt_step ho hz1
        have : k2 = k' := by omega
        subst this
        rw [hz'] at e3
        have e3 := Option.some.inj e3
        have ho2 := r.pl hop
        rw [last_at (fun e => by rw [e] at ho2; simp at ho2; omega)]
        simp
        refine ⟨szlt (by omega), m1, by omega, ys ++ [lastD o], o, zs1, ((k2 : Int) - S L (m1 + u) here start i).toNat, _, rfl, _, rfl, by omega, by simp; omega, hop, hz1, ?_, by omega, by simp, rfl, rfl, rfl⟩
        rw [← hyz, e3]
        simp
      · rename_i hb
        have := S_snoc (n := m1 + u) (q := start) ho
        exact ⟨_, rfl, by omega, by omega, rfl⟩
    · obtain ⟨s8, h8, hge, rfl⟩ := hI
      exfalso
      rw [List.length_map, S_all] at hge
      have hL := Lt_len L u (m1 + 1) here start
      have := (List.getElem?_eq_some_iff.mp hz').1
      have e : m1 + 1 + u = m1 + u + 1 := by omega
      rw [e] at hL
      omega
  · rename_i hlt
    have : m' = 0 := by omega
    subst this
    have hzm := List.mem_of_getElem? hz'
    unfold Lt at hzm
    have e0 := (List.mem_replicate.mp hzm).2
    subst e0
    rw [List.append_nil] at hyz
    subst hyz
    simpa using h
end
end RG


set_option Elab.async false
set_option linter.all false
set_option maxRecDepth 100000
set_option maxHeartbeats 4000000
namespace RG
open PySem PySem.Spec L2 B
theorem alike_ints : ∀ a b : List Int, PySem.W.alikeAll (a.map PyData.int) (b.map PyData.int) = true
  | [], _ => by simp [PySem.W.alikeAll]
  | _ :: _, [] => by simp [PySem.W.alikeAll]
  | x :: a, y :: b => by simp [PySem.W.alikeAll, PySem.W.alike, alike_ints a b]
theorem cmp_W (a b : List Int) : cmpOk (tupD a) (tupD b) = true := by
  unfold cmpOk
  rw [toPy_W, toPy_W]
  simp [pW, PyData.canLay0, PyData.depth, PySem.W.alike, canLay_ints, depth_ints, alike_ints]
  rfl
theorem w_ltT {a b : List Int} {P : Rs → Prop} : optW (gLtX (tupD a) (tupD b)) P ↔ P (.fz (.bl (decide (a < b)))) := by
  have e : gLtX (tupD a) (tupD b) = some (.fz (.bl (decide (a < b)))) := by
    show (if cmpOk (tupD a) (tupD b) = true then some (Rs.fz (.bl (PySem.W.dataLt (toPy (tupD a)) (toPy (tupD b))))) else none) = _
    rw [if_pos (cmp_W a b), toPy_W, toPy_W]
    unfold pW
    rw [PySem.W.dataLt_tuple]
    have e : PyProof.Rows.lexLt PyProof.Rows.itemOrd (PySem.W.keyToksAll (a.map PyData.int)) (PySem.W.keyToksAll (b.map PyData.int)) = decide (a < b) := PySem.W.dataLt_ints a b
    rw [e]
  rw [e]
  exact Iff.rfl
theorem flat_inv {α β : Type} {g : α → List β} : ∀ {l : List α} {k : Nat} {y : β}, (l.flatMap g)[k]? = some y → ∃ (i : Nat) (x : α) (k1 : Nat), l[i]? = some x ∧ (g x)[k1]? = some y ∧ k = ((l.take i).flatMap g).length + k1
  | [], k, y, h => by simp at h
  | x :: l, k, y, h => by
    rw [List.flatMap_cons] at h
    by_cases hk : k < (g x).length
    · rw [List.getElem?_append_left hk] at h
      exact ⟨0, x, k, rfl, h, by simp⟩
    · rw [List.getElem?_append_right (by omega)] at h
      obtain ⟨i, z, k1, h1, h2, h3⟩ := flat_inv h
      exact ⟨i + 1, z, k1, h1, h2, by rw [List.take_succ_cons, List.flatMap_cons, List.length_append]; omega⟩
theorem Lt_inv {L : List (List Int)} {u m k : Nat} {p q zs : List Int} (h : (Lt L u (m + 1) p q)[k]? = some zs) : ∃ (i : Nat) (o : List Int) (k1 : Nat) (zs1 : List Int), (near L p)[i]? = some o ∧ (Lt L u m o q)[k1]? = some zs1 ∧ zs = lastD o :: zs1 ∧ (k : Int) = S L (m + u) p q i + k1 := by
  obtain ⟨i, o, k1, h1, h2, h3⟩ := flat_inv h
  rw [List.getElem?_map] at h2
  obtain ⟨zs1, h4, h5⟩ := Option.map_eq_some_iff.mp h2
  refine ⟨i, o, k1, zs1, h1, h4, h5.symm, ?_⟩
  have e : ((((near L p).take i).flatMap fun o => (Lt L u m o q).map (lastD o :: ·)).length : Int) = S L (m + u) p q i := flat_len fun o _ => by rw [List.length_map, Lt_len L u m o q]
  omega
theorem rise_take {l : List (List Int)} (h : l.Pairwise (· < ·)) {i : Nat} {o : List Int} (ho : l[i]? = some o) : (l.filter fun x => decide (x < o)) = l.take i := by
  induction l generalizing i with
  | nil => simp at ho
  | cons x l ih =>
    obtain ⟨h1, h2⟩ := List.pairwise_cons.mp h
    cases i with
    | zero =>
      have e : x = o := Option.some.inj ho
      subst e
      rw [List.take_zero, List.filter_eq_nil_iff]
      intro y hy
      simp only [decide_eq_true_eq]
      rcases List.mem_cons.mp hy with e | hy
      · rw [e]; exact List.lt_irrefl _
      · exact lt_asymm' (h1 y hy)
    | succ i =>
      have ho : l[i]? = some o := ho
      have e : ((x :: l).filter fun y => decide (y < o)) = x :: l.filter fun y => decide (y < o) := List.filter_cons_of_pos (by simpa using h1 o (List.mem_of_getElem? ho))
      rw [List.take_succ_cons, e, ih h2 ho]
section
variable {s u : Nat} {L : List (List Int)}
theorem rngU (u m : Nat) : rng (u : Int) ((u : Int) + m) = (List.range m).map fun j : Nat => D.int ((u + j : Nat) : Int) := by
  unfold rng
  have : ((u : Int) + m - u).toNat = m := by omega
  rw [this]
  apply List.map_congr_left
  intro j _
  congr 1
theorem number_in_walk (r : Rl s (u + 1) L) {start zs : List Int} (hst : start ∈ pts L) {m k : Nat} (hm : u + m ≤ 60) (hz : (Lt L u m start start)[k]? = some zs) {Q} {E} (h : Q (.fz (.int k)) []) :
    FW (r_P_number_in_walk [dcgD (nearD L), numD L (u + m) start, tupD start, iL (start ++ zs)]) Q E := by
  unfold r_P_number_in_walk m_P_number_in_walk
  rw [FW_run]
  simp only [start0, par]
  have hsl := r.pl hst
  have hu := r.u1
  have hl := r.len
  have hzl := (Lt_mem hl hu r.ris hsl hsl (List.mem_of_getElem? hz)).1
  refine W_then (β1 := [.fz (dcgD (nearD L)), .fz (numD L (u + m) start), .fz (tupD start), .fz (iL (start ++ zs)), .fz (.int 0), .un, .un, .un, .un, .un]) (by simp) ?_
  refine W_then (β1 := [.fz (dcgD (nearD L)), .fz (numD L (u + m) start), .fz (tupD start), .fz (iL (start ++ zs)), .fz (.int 0), .fz (tupD start), .un, .un, .un, .un]) (by simp) ?_
  rw [W_seqF]
  simp
  rw [hsl, hzl, rngU]
  refine ⟨⟨inR_iff.mpr (by omega), inR_iff.mpr (by omega)⟩, W_forL (fun j β => ∃ (here zs' : List Int) (k' : Nat) (s6 s7 s8 : Sl), isOwn s6 = false ∧ isOwn s7 = false ∧ isOwn s8 = false ∧ here ∈ pts L ∧ (Lt L u (m - j) here start)[k']? = some zs' ∧ zs.drop j = zs' ∧
    β = [.fz (dcgD (nearD L)), .fz (numD L (u + m) start), .fz (tupD start), .fz (iL (start ++ zs)), .fz (.int ((k : Int) - k')), .fz (tupD here), s6, s7, s8, .un]) ⟨start, zs, k, .un, .un, .un, rfl, rfl, rfl, hst, hz, rfl, by simp⟩ (fun j d β hd hI => ?_) fun β hI => ?_⟩
  · obtain ⟨here, zs', k', s6, s7, s8, h6, h7, h8, hh, hz', hzd, rfl⟩ := hI
    rw [List.getElem?_map] at hd
    obtain ⟨j', hj, rfl⟩ := Option.map_eq_some_iff.mp hd
    have hj0 := List.getElem?_eq_some_iff.mp hj
    obtain ⟨hj1, hj2⟩ := hj0
    rw [List.length_range] at hj1
    rw [List.getElem_range] at hj2
    subst hj2
    obtain ⟨m1, hm1⟩ : ∃ m1, m - j = m1 + 1 := ⟨m - j - 1, by omega⟩
    rw [hm1] at hz'
    obtain ⟨i, o, k1, zs1, ho, hz1, ez, ek⟩ := Lt_inv hz'
    have hom := List.mem_of_getElem? ho
    have hop := near_pts hom
    obtain ⟨x, hx, eo⟩ := (near_iff hl hu (r.pl hh)).mp hom
    have ex : lastD o = x := by rw [eo, last_step]
    have ezj : zs[j]? = some x := by
      have : (zs.drop j)[0]? = some x := by rw [hzd, ez, ex]; rfl
      rwa [List.getElem?_drop, Nat.add_zero] at this
    have ezd : zs.drop (j + 1) = zs1 := by
      have : (zs.drop j).tail = zs1 := by rw [hzd, ez]; rfl
      rwa [List.tail_drop] at this
    simp
    rw [gSl_suf]
    simp
    have ea : atI (start.map D.int ++ zs.map D.int) ((u : Int) + j) = some (.int x) := by
      have : (u : Int) + j = ((u + j : Nat) : Int) := by omega
      rw [this, atI_nat', List.getElem?_append_right (by simp; omega), List.length_map, hsl, Nat.add_sub_cancel_left, List.getElem?_map, ezj]
      rfl
    rw [ea, get_near hh]
    simp
    refine ⟨sz (by decide), ?_⟩
    rw [show tupD here.tail = D.nd .tup (here.tail.map D.int) from rfl]
    simp
    have hhl := r.pl hh
    have e8 : D.nd .tup ((here.map D.int).tail ++ [D.int x]) = tupD o := by
      rw [eo]
      show _ = D.nd .tup ((here.tail ++ [x]).map D.int)
      rw [List.map_append, List.map_tail]
      rfl
    have el : (start.length : Int) + zs.length - ((u : Int) + j) - 1 + start.length = ((m1 + u : Nat) : Int) := by omega
    rw [e8, el]
    refine ⟨sz (by omega), ?_⟩
    have nl := near_len (l := L) (p := here)
    have few := r.few
    refine W_compF (fun d => decide (kD d < o)) (fun d => .int (wk L (m1 + u) (kD d) start)) (by rfl) (szlt (by simp; omega)) (fun d hd => ?_) ?_
    · obtain ⟨q, hq, rfl⟩ := List.mem_map.mp hd
      have hqp := near_pts hq
      simp [wipeB]
      rw [w_ltT]
      simp
      intro hlt
      have e1 : (m1 : Int) + u = ((m1 + u : Nat) : Int) := by omega
      rw [e1, num_at (by omega)]
      simp
      rw [get_wk hqp]
      simp
    · have e0 : (((near L here).map tupD).filter fun d => decide (kD d < o)).map (fun d => D.int (wk L (m1 + u) (kD d) start)) = (((near L here).take i).map fun q => wk L (m1 + u) q start).map D.int := by
        rw [List.filter_map]
        have e1 : ((fun d => decide (kD d < o)) ∘ tupD) = fun x : List Int => decide (x < o) := by
          funext x
          simp
        rw [e1, rise_take (near_rise hl hu hhl r.ris) ho, List.map_map, List.map_map]
        apply List.map_congr_left
        intro q _
        simp
      rw [e0]
      simp only [wipeB, backB]
      simp
      rw [← List.map_map, ← List.map_take, w_sum]
      have es : (((near L here).map fun q => wk L (m1 + u) q start).take i).sum = S L (m1 + u) here start i := by
        unfold S
        rw [List.map_take]
      rw [es]
      simp
      have em : m - (j + 1) = m1 := by omega
      rw [em]
      exact ⟨o, zs1, k1, _, rfl, _, rfl, _, rfl, hop, hz1, ezd, by omega, rfl, rfl, rfl, rfl⟩
  · obtain ⟨here, zs', k', s6, s7, s8, h6, h7, h8, hh, hz', hzd, rfl⟩ := hI
    simp at hz'
    simp
    have hk := (List.getElem?_eq_some_iff.mp hz').1
    unfold Lt at hk
    rw [List.length_replicate] at hk
    have := wk_le1 hl hu r.ris (Nat.le_refl u) (r.pl hh) hsl
    have : k' = 0 := by omega
    subst this
    simpa using h
end
end RG


set_option Elab.async false
set_option linter.all false
set_option maxRecDepth 100000
set_option maxHeartbeats 4000000
namespace RG
open PySem PySem.Spec L2 B
section
variable {s u : Nat} {L : List (List Int)}
theorem Rs_len (n : Nat) (hn : u ≤ n) : ((Rs_ L u n).length : Int) = cl L n := by
  unfold Rs_ cl
  refine flat_len fun p _ => ?_
  rw [List.length_map, Lt_len]
  congr 1
  omega
theorem Rs_at {n i k1 : Nat} {p zs : List Int} (hn : u ≤ n) (hp : (pts L)[i]? = some p) (hz : (Lt L u (n - u) p p)[k1]? = some zs) : ∃ k : Nat, (k : Int) = clI L i n + k1 ∧ (Rs_ L u n)[k]? = some (p ++ zs) := by
  have hk := (List.getElem?_eq_some_iff.mp hz).1
  have := flat_get (g := fun p => (Lt L u (n - u) p p).map (p ++ ·)) (k := k1) hp (by rw [List.length_map]; exact hk)
  refine ⟨_, ?_, this.trans (by rw [List.getElem?_map, hz]; rfl)⟩
  rw [Int.natCast_add]
  congr 1
  unfold clI
  refine flat_len fun p _ => ?_
  rw [List.length_map, Lt_len]
  congr 1
  omega
theorem ring_at (r : Rl s (u + 1) L) {n k : Nat} (hn : u + 1 ≤ n) (h60 : n ≤ 60) {Q} {E : Exn → List D → Prop} (hs : ∀ ring, (Rs_ L u n)[k]? = some ring → Q (.own (iL ring)) []) (hx : (Rs_ L u n).length ≤ k → E ⟨"NoNumber", []⟩ []) :
    FW (r_P_ring_at [ruleD s (u + 1) L, .int n, .int k]) Q E := by
  unfold r_P_ring_at m_P_ring_at
  rw [FW_run]
  simp only [start0, par]
  have e1 : (1 : Int) ≤ n ∧ (n : Int) ≤ 60 := by omega
  refine W_then (β1 := [.fz (ruleD s (u + 1) L), .fz (.int n), .fz (.int k), .un, .un, .un, .un]) ?_ ?_
  · simp
    refine is_from _ _ _ ?_
    simp [e1]
  refine W_then (β1 := [.fz (ruleD s (u + 1) L), .fz (.int n), .fz (.int k), .un, .un, .un, .un]) ?_ ?_
  · simp [w_isi (isi_int_int _), w_isi (isi_int_bool _)]
    intro hc
    omega
  refine W_then (β1 := [.fz (ruleD s (u + 1) L), .fz (.int n), .fz (.int k), .un, .un, .un, .un]) ?_ ?_
  · simp
    rw [fld_wide]
    simp
    intro hc
    omega
  refine W_then (β1 := [.fz (ruleD s (u + 1) L), .fz (.int n), .fz (.int k), .fz (dcgD (nearD L)), .un, .un, .un]) ?_ ?_
  · simp
    refine ties r ?_
    simp
  rw [W_seqF]
  simp
  rw [keys_nearD]
  refine W_forL (fun i β => ∃ s4 s6, isOwn s4 = false ∧ 0 ≤ (k : Int) - clI L i n ∧ β = [.fz (ruleD s (u + 1) L), .fz (.int n), .fz (.int ((k : Int) - clI L i n)), .fz (dcgD (nearD L)), s4, .un, s6]) ⟨.un, .un, rfl, by unfold clI; simp, by unfold clI; simp⟩ (fun i d β hd hI => ?_) fun β hI => ?_
  · obtain ⟨s4, s6, h4, hge, rfl⟩ := hI
    rw [List.getElem?_map] at hd
    obtain ⟨p, hp, rfl⟩ := Option.map_eq_some_iff.mp hd
    have hp' := List.mem_of_getElem? hp
    rw [W_gSet]
    refine W_then (β1 := [.fz (ruleD s (u + 1) L), .fz (.int n), .fz (.int ((k : Int) - clI L i n)), .fz (dcgD (nearD L)), .fz (tupD p), .un, .own none (numD L n p)]) ?_ ?_
    · simp
      refine walks_to r (by omega) ?_
      simp
    rw [W_seqF, W_ifS, W_asB, W_mOp]
    simp
    rw [num_at (by omega)]
    simp
    rw [get_wk hp']
    simp
    split
    · rename_i hlt
      obtain ⟨m, rfl⟩ : ∃ m, n = u + m := ⟨n - u, by omega⟩
      have em : u + m - u = m := by omega
      have hL := Lt_len L u m p p
      have ewk : m + u = u + m := by omega
      rw [ewk] at hL
      obtain ⟨k1, ek⟩ : ∃ k1 : Nat, (k : Int) - clI L i (u + m) = k1 := ⟨((k : Int) - clI L i (u + m)).toNat, by omega⟩
      have hk1 : k1 < (Lt L u m p p).length := by omega
      have hz := List.getElem?_eq_getElem hk1
      generalize (Lt L u m p p)[k1] = zs at hz
      rw [ek]
      refine ring_of_walk r hp' h60 hz ?_
      refine ⟨rfl, hs _ ?_⟩
      obtain ⟨k2, e2, e3⟩ := Rs_at (L := L) (u := u) (n := u + m) (i := i) (k1 := k1) (p := p) (zs := zs) (by omega) hp (by rw [em]; exact hz)
      have : k2 = k := by omega
      rw [← this]
      exact e3
    · have := clI_snoc (n := n) hp
      exact ⟨_, rfl, by omega, by omega, rfl⟩
  · obtain ⟨s4, s6, h4, hge, rfl⟩ := hI
    simp
    refine hx ?_
    rw [List.length_map, clI_all] at hge
    have := Rs_len (L := L) (u := u) n (by omega)
    omega
end
end RG


set_option Elab.async false
set_option linter.all false
set_option maxRecDepth 100000
set_option maxHeartbeats 4000000
namespace RG
open PySem PySem.Spec L2 B
theorem any_W (k : List Int) : ∀ L : List (List Int), ((L.map tupD).any fun z => eqv z (tupD k)) = decide (k ∈ L)
  | [] => by simp
  | m :: L => by
    rw [List.map_cons, List.any_cons, any_W k L, eqv_W]
    by_cases h : m = k
    · subst h; simp
    · have h' : k ≠ m := fun z => h z.symm
      simp [h, h']
theorem w_inW {k : List Int} {L : List (List Int)} {P : Rs → Prop} : optW (gIn (tupD k) (wL L)) P ↔ P (.fz (.bl (decide (k ∈ L)))) := by
  unfold gIn
  show optW ((if shp (tupD k) = true ∧ shp (wL L) = true then some ((L.map tupD).any fun z => eqv z (tupD k)) else none).map _) P ↔ _
  rw [if_pos ⟨shp_W k, shp_wL L⟩, any_W]
  exact Iff.rfl
/-- the letters of so many houses from a place on -/
def win (ring : List Int) (place w : Nat) : List Int := (List.range w).map fun k => ring.getD ((place + k) % ring.length) 0
@[simp ↓] theorem tuple_iL {k : List Int} {P : Rs → Prop} : optW (gTuple [iL k]) P ↔ P (.fz (tupD k)) := Iff.rfl
theorem window {ring : List Int} {place w : Nat} (h0 : ring ≠ []) (hr : ring.length ≤ 100000) (hp : place ≤ 100000) (hw : w ≤ 100) {Q} {E} (h : Q (.fz (tupD (win ring place w))) []) : FW (r_P_window [iL ring, .int place, .int w]) Q E := by
  unfold r_P_window m_P_window
  rw [FW_run]
  simp only [start0, par]
  have hlen : 0 < ring.length := List.length_pos_iff.mpr h0
  simp
  refine ⟨inR_iff.mpr (by omega), W_compF (fun _ => true) (fun d => .int (ring.getD ((place + dN d) % ring.length) 0)) (by rfl) (by rw [rng_len]; exact szlt (by omega)) (fun d hd => ?_) ?_⟩
  · obtain ⟨i, hi⟩ := List.mem_iff_getElem?.mp hd
    obtain ⟨hi, rfl⟩ := rng_get hi
    simp [wipeB]
    have e : ((place : Int) + i) % ring.length = (((place + i) % ring.length : Nat) : Int) := by
      rw [Int.natCast_emod, Int.natCast_add]
    have hm := Nat.mod_lt (place + i) hlen
    rw [e, atI_nat', List.getElem?_map, List.getElem?_eq_getElem hm]
    simp [hm]
    exact hlen
  · have e0 : ((rng 0 (w : Int)).filter fun _ => true).map (fun d => D.int (ring.getD ((place + dN d) % ring.length) 0)) = (win ring place w).map D.int := by
      rw [List.filter_eq_self.mpr fun _ _ => rfl, rng0]
      unfold win
      rw [List.map_map, List.map_map]
      apply List.map_congr_left
      intro k _
      simp
    rw [e0]
    show optW (gTuple [iL (win ring place w)]) _
    rw [tuple_iL]
    simp [wipeB, backB]
    exact h
theorem shp_iL (ns : List Int) : shp (iL ns) = true := by
  unfold shp SeqAt.shaped
  show (PyData.canLay0 (.list (toPys (ns.map D.int))) && decide (PyData.depth (.list (toPys (ns.map D.int))) ≤ 64)) = true
  rw [toPys_ints]
  simp [PyData.canLay0, PyData.depth, canLay_ints, depth_ints]
theorem eqv_iL (ns ms : List Int) : eqv (iL ns) (iL ms) = decide (ns = ms) := by
  unfold eqv
  show PyData.eqv (.list (toPys (ns.map D.int))) (.list (toPys (ms.map D.int))) = _
  rw [toPys_ints, toPys_ints]
  simp only [PyData.eqv, eqvAll_ints]
theorem w_neL {ns ms : List Int} {P : Rs → Prop} : optW (gNe (iL ns) (iL ms)) P ↔ P (.fz (.bl (!decide (ns = ms)))) := by
  unfold gNe
  rw [if_pos ⟨shp_iL ns, shp_iL ms⟩, eqv_iL]
  exact Iff.rfl
/-- each window shows a word -/
def fitsB (L : List (List Int)) (w : Nat) (ring : List Int) : Bool := (List.range ring.length).all fun place => decide (win ring place w ∈ L)
theorem all_bl {α : Type} {l : List α} {f : α → Bool} {P : Rs → Prop} : optW (gAll [.nd .lst (l.map fun x => D.bl (f x))]) P ↔ P (.fz (.bl (l.all f))) := by
  have e : (l.map fun x => D.bl (f x)) = (l.map f).map D.bl := by rw [List.map_map]; rfl
  rw [e, w_all]
  have : (l.map f).all id = l.all f := by rw [List.all_map]; rfl
  rw [this]
section
variable {s w : Nat} {L : List (List Int)}
theorem is_fitting (hw : w ≤ 100) {ring : List Int} (h0 : ring ≠ []) (hr : ring.length ≤ 100000) {Q} {E} (h : Q (.fz (.bl (fitsB L w ring))) []) : FW (r_P_is_fitting [ruleD s w L, iL ring]) Q E := by
  unfold r_P_is_fitting m_P_is_fitting
  rw [FW_run]
  simp only [start0, par]
  simp
  refine ⟨inR_iff.mpr (by omega), W_compF (fun _ => true) (fun d => .bl (decide (win ring (dN d) w ∈ L))) (by rfl) (by rw [rng_len]; exact szlt (by omega)) (fun d hd => ?_) ?_⟩
  · obtain ⟨i, hi⟩ := List.mem_iff_getElem?.mp hd
    obtain ⟨hi, rfl⟩ := rng_get hi
    simp [wipeB]
    rw [fld_wide]
    simp
    refine window h0 hr (by omega) hw ?_
    simp
    rw [fld_words]
    simp
    rw [w_inW]
    simp
    exact decide_eq_decide.mpr Iff.rfl
  · have e0 : ((rng 0 (ring.length : Int)).filter fun _ => true).map (fun d => D.bl (decide (win ring (dN d) w ∈ L))) = (List.range ring.length).map fun k => D.bl (decide (win ring k w ∈ L)) := by
      rw [List.filter_eq_self.mpr fun _ _ => rfl, rng0, List.map_map]
      apply List.map_congr_left
      intro k _
      simp
      exact decide_eq_decide.mpr Iff.rfl
    rw [e0]
    show optW (gAll [.nd .lst ((List.range ring.length).map fun k => D.bl (decide (win ring k w ∈ L)))]) _
    rw [all_bl]
    simp [wipeB, backB]
    exact h
theorem sure_ring {ring : List Int} (h0 : ring ≠ []) (hr : ring.length ≤ 100000) (hd : ∀ x ∈ ring, 0 ≤ x ∧ x < (s : Int)) {Q} {E} (h : Q (.fz .non) []) : FW (r_P_sure_ring [ruleD s w L, iL ring]) Q E := by
  have key : ∀ {Q E}, Q (.fz (.bl true)) [] → FW (r_P_is_ring [ruleD s w L, iL ring]) Q E := by
    intro Q E h
    unfold r_P_is_ring m_P_is_ring
    rw [FW_run]
    simp only [start0, par]
    simp [w_isi (isi_lst_list _)]
    refine (w_neL (ms := [])).mpr ?_
    simp [h0]
    refine W_compF (fun _ => true) (fun _ => .bl true) (by rfl) (szlt (by simp; omega)) (fun d hdd => ?_) ?_
    · obtain ⟨x, hx, rfl⟩ := List.mem_map.mp hdd
      simp [wipeB]
      rw [fld_size]
      simp
      refine is_from _ _ _ ?_
      have := hd x hx
      simp
      omega
    · simp only [wipeB, backB]
      rw [show (Rs.own (.nd .lst (((ring.map D.int).filter fun _ => true).map fun _ => D.bl true))).d = .nd .lst (((ring.map D.int).filter fun _ => true).map fun _ => D.bl true) from rfl, all_true]
      simp
      exact h
  unfold r_P_sure_ring m_P_sure_ring
  rw [FW_run]
  simp only [start0, par]
  simp
  refine key ?_
  simp
  exact h
end
end RG


set_option Elab.async false
set_option linter.all false
set_option maxRecDepth 100000
set_option maxHeartbeats 4000000
namespace RG
open PySem PySem.Spec L2 B
section
variable {L : List (List Int)} {u : Nat}
theorem path_win (hu : 1 ≤ u) : ∀ {ws p : List Int}, p.length = u → path L p ws → ∀ i, i < ws.length → ((p ++ ws).drop i).take (u + 1) ∈ L
  | [], p, _, _, i, hi => absurd hi (Nat.not_lt_zero _)
  | x :: ws, p, hp, h, 0, _ => by
    have e : p ++ x :: ws = (p ++ [x]) ++ ws := by simp
    rw [List.drop_zero, e, List.take_append_of_le_length (by simp; omega), List.take_of_length_le (by simp; omega)]
    exact h.1
  | x :: ws, p, hp, h, i + 1, hi => by
    have e : (p ++ x :: ws).drop (i + 1) = (step p x ++ ws).drop i := by
      cases p with
      | nil => simp at hp; omega
      | cons y p =>
        show (p ++ x :: ws).drop i = ((p ++ [x]) ++ ws).drop i
        simp
    rw [e]
    exact path_win hu (step_len hp hu) h.2 i (by simp at hi; omega)
theorem win_eq {ring : List Int} {place : Nat} (hp : place < ring.length) (hu : u ≤ ring.length) : win ring place (u + 1) = ((ring ++ ring.take u).drop place).take (u + 1) := by
  apply List.ext_getElem?
  intro k
  unfold win
  rw [List.getElem?_map, List.getElem?_take, List.getElem?_drop]
  by_cases hk : k < u + 1
  · rw [List.getElem?_range hk, if_pos hk]
    show some (ring.getD ((place + k) % ring.length) 0) = _
    have hm := Nat.mod_lt (place + k) (show 0 < ring.length by omega)
    by_cases h1 : place + k < ring.length
    · rw [Nat.mod_eq_of_lt h1, List.getElem?_append_left h1, List.getD_eq_getElem?_getD, List.getElem?_eq_getElem h1]
      rfl
    · have e : (place + k) % ring.length = place + k - ring.length := by
        rw [Nat.mod_eq_sub_mod (by omega), Nat.mod_eq_of_lt (by omega)]
      rw [e, List.getElem?_append_right (by omega), List.getElem?_take, if_pos (by omega), List.getD_eq_getElem?_getD, List.getElem?_eq_getElem (by omega)]
      rfl
  · rw [List.getElem?_eq_none (by simp; omega), if_neg hk]
    rfl
end
section
variable {s u : Nat} {L : List (List Int)}
theorem Rs_fits (r : Rl s (u + 1) L) {n : Nat} (hn : u ≤ n) {ring : List Int} (h : ring ∈ Rs_ L u n) : ring.length = n ∧ (∀ x ∈ ring, 0 ≤ x ∧ x < (s : Int)) ∧ fitsB L (u + 1) ring = true := by
  unfold Rs_ at h
  obtain ⟨p, hp, h⟩ := List.mem_flatMap.mp h
  obtain ⟨zs, hz, rfl⟩ := List.mem_map.mp h
  have hpl := r.pl hp
  have hu := r.u1
  obtain ⟨h1, h2⟩ := Lt_mem r.len hu r.ris hpl hpl hz
  have hlen : (p ++ zs).length = n := by simp; omega
  have wins : ∀ place, place < n → win (p ++ zs) place (u + 1) ∈ L := fun place hpl' => by
    rw [win_eq (by omega) (by omega)]
    have e : (p ++ zs).take u = p := by rw [← hpl, List.take_left']; rfl
    rw [e, List.append_assoc]
    exact path_win hu hpl h2 place (by simp; omega)
  refine ⟨hlen, fun x hx => ?_, ?_⟩
  · obtain ⟨i, hi⟩ := List.mem_iff_getElem?.mp hx
    have hil := (List.getElem?_eq_some_iff.mp hi).1
    refine r.dig _ (wins i (by omega)) x ?_
    unfold win
    refine List.mem_map.mpr ⟨0, List.mem_range.mpr (by omega), ?_⟩
    rw [Nat.add_zero, Nat.mod_eq_of_lt hil, List.getD_eq_getElem?_getD, hi]
    rfl
  · unfold fitsB
    rw [List.all_eq_true]
    intro place hplace
    rw [List.mem_range] at hplace
    exact decide_eq_true (wins place (by omega))
end
end RG


set_option Elab.async false
set_option linter.all false
set_option maxRecDepth 100000
set_option maxHeartbeats 4000000
namespace RG
open PySem PySem.Spec L2 B
section
variable {s u : Nat} {L : List (List Int)}
theorem Rs_inv {n k : Nat} (hn : u ≤ n) {ring : List Int} (h : (Rs_ L u n)[k]? = some ring) : ∃ (i : Nat) (p : List Int) (k1 : Nat) (zs : List Int), (pts L)[i]? = some p ∧ (Lt L u (n - u) p p)[k1]? = some zs ∧ ring = p ++ zs ∧ (k : Int) = clI L i n + k1 := by
  obtain ⟨i, p, k1, h1, h2, h3⟩ := flat_inv h
  rw [List.getElem?_map] at h2
  obtain ⟨zs, h4, h5⟩ := Option.map_eq_some_iff.mp h2
  refine ⟨i, p, k1, zs, h1, h4, h5.symm, ?_⟩
  have e : ((((pts L).take i).flatMap fun p => (Lt L u (n - u) p p).map (p ++ ·)).length : Int) = clI L i n := by
    unfold clI
    refine flat_len fun p _ => ?_
    rw [List.length_map, Lt_len]
    congr 1
    omega
  omega
theorem cut_take {α : Type} (xs : List α) (a : Nat) : cut xs none (some (a : Int)) = xs.take a := by
  unfold cut
  rw [HT.sIx_nat]
  simp [HT.sIx]
theorem number_of (r : Rl s (u + 1) L) {n k : Nat} {ring : List Int} (hn : u + 1 ≤ n) (h60 : n ≤ 60) (hk : (Rs_ L u n)[k]? = some ring) {Q} {E} (h : Q (.fz (.int k)) []) : FW (r_P_number_of [ruleD s (u + 1) L, iL ring]) Q E := by
  unfold r_P_number_of m_P_number_of
  rw [FW_run]
  simp only [start0, par]
  obtain ⟨f1, f2, f3⟩ := Rs_fits r (by omega) (List.mem_of_getElem? hk)
  have h0 : ring ≠ [] := fun e => by rw [e] at f1; simp at f1; omega
  have hw4 := r.w4
  obtain ⟨i, p, k1, zs, hp, hz, ering, ek⟩ := Rs_inv (by omega) hk
  have hp' := List.mem_of_getElem? hp
  have hpl := r.pl hp'
  refine W_then (β1 := [.fz (ruleD s (u + 1) L), .fz (iL ring), .un, .un, .un, .un, .un]) ?_ ?_
  · simp
    refine sure_ring h0 (by omega) f2 ?_
    simp
  refine W_then (β1 := [.fz (ruleD s (u + 1) L), .fz (iL ring), .un, .un, .un, .un, .un]) ?_ ?_
  · simp
    refine is_fitting (by omega) h0 (by omega) ?_
    simp [f3]
  refine W_then (β1 := [.fz (ruleD s (u + 1) L), .fz (iL ring), .un, .un, .un, .un, .un]) ?_ ?_
  · simp
    intro hc
    omega
  refine W_then (β1 := [.fz (ruleD s (u + 1) L), .fz (iL ring), .un, .un, .un, .un, .un]) ?_ ?_
  · simp
    rw [fld_wide]
    simp
    intro hc
    omega
  refine W_then (β1 := [.fz (ruleD s (u + 1) L), .fz (iL ring), .fz (dcgD (nearD L)), .un, .un, .un, .un]) ?_ ?_
  · simp
    refine ties r ?_
    simp
  refine W_then (β1 := [.fz (ruleD s (u + 1) L), .fz (iL ring), .fz (dcgD (nearD L)), .fz (tupD p), .un, .un, .un]) ?_ ?_
  · simp
    rw [fld_wide]
    simp
    rw [cut_take, ← List.map_take, ering]
    have e : (p ++ zs).take u = p := by rw [← hpl, List.take_left']; rfl
    rw [e]
    rfl
  refine W_then (β1 := [.fz (ruleD s (u + 1) L), .fz (iL ring), .fz (dcgD (nearD L)), .fz (tupD p), .fz (.int 0), .un, .un]) (by simp) ?_
  rw [W_seqF]
  simp
  rw [keys_nearD]
  refine W_forL (fun j β => ∃ s5 s6, isOwn s5 = false ∧ j ≤ i ∧ β = [.fz (ruleD s (u + 1) L), .fz (iL ring), .fz (dcgD (nearD L)), .fz (tupD p), .fz (.int (clI L j n)), s5, s6]) ⟨.un, .un, rfl, Nat.zero_le _, by unfold clI; simp⟩ (fun j d β hd hI => ?_) fun β hI => ?_
  · obtain ⟨s5, s6, h5, hji, rfl⟩ := hI
    rw [List.getElem?_map] at hd
    obtain ⟨q, hq, rfl⟩ := Option.map_eq_some_iff.mp hd
    have hq' := List.mem_of_getElem? hq
    rw [W_gSet]
    refine W_then (β1 := [.fz (ruleD s (u + 1) L), .fz (iL ring), .fz (dcgD (nearD L)), .fz (tupD p), .fz (.int (clI L j n)), .fz (tupD q), .own none (numD L n q)]) ?_ ?_
    · simp
      rw [f1]
      refine walks_to r (by omega) ?_
      simp
    rw [W_seqF, W_ifS, W_asB, W_mOp]
    simp
    split
    · rename_i eqp
      subst eqp
      have : j = i := nd_ix (pts_nodup L) hq hp
      subst this
      obtain ⟨m, rfl⟩ : ∃ m, n = u + m := ⟨n - u, by omega⟩
      have em : u + m - u = m := by omega
      rw [em] at hz
      rw [ering]
      refine number_in_walk r hq' h60 hz ?_
      simp
      rw [← ek]
      exact h
    · rename_i hne
      rw [f1, num_at (by omega)]
      simp
      rw [get_wk hq']
      simp
      have hji2 : j ≠ i := fun e => by
        subst e
        rw [hp] at hq
        exact hne (Option.some.inj hq).symm
      exact ⟨_, rfl, by omega, (clI_snoc hq).symm, rfl⟩
  · obtain ⟨s5, s6, h5, hji, rfl⟩ := hI
    exfalso
    have := (List.getElem?_eq_some_iff.mp hp).1
    rw [List.length_map] at hji
    omega
end
end RG


set_option Elab.async false
set_option linter.all false
set_option maxRecDepth 100000
set_option maxHeartbeats 4000000
namespace RG
open PySem PySem.Spec L2 B
section
variable {s w : Nat} {L : List (List Int)}
theorem fits (hw : w ≤ 100) {ring : List Int} (h0 : ring ≠ []) (hr : ring.length ≤ 100000) (hd : ∀ x ∈ ring, 0 ≤ x ∧ x < (s : Int)) {Q} {E} (h : Q (.fz (.bl (fitsB L w ring))) []) : FW (r_P_fits [ruleD s w L, iL ring]) Q E := by
  unfold r_P_fits m_P_fits
  rw [FW_run]
  simp only [start0, par]
  simp
  refine sure_ring h0 hr hd ?_
  simp
  refine is_fitting hw h0 hr ?_
  simp
  exact h
theorem lists_rise (s : Nat) : ∀ n, (lists s n).Pairwise (· < ·)
  | 0 => List.pairwise_singleton _ _
  | n + 1 => by
    show ((lists s n).flatMap _).Pairwise _
    rw [List.flatMap, List.pairwise_flatten]
    have low : ∀ {p q a b : List Int}, p.length = q.length → p < q → p ++ a < q ++ b := fun {p q a b} hl h => by
      induction p generalizing q with
      | nil =>
        cases q with
        | nil => exact absurd h (List.lt_irrefl _)
        | cons _ _ => cases hl
      | cons x p ih =>
        cases q with
        | nil => cases hl
        | cons y q =>
          rcases List.cons_lt_cons_iff.mp h with h | ⟨h1, h2⟩
          · exact List.cons_lt_cons_iff.mpr (.inl h)
          · exact List.cons_lt_cons_iff.mpr (.inr ⟨h1, ih (Nat.succ.inj hl) h2⟩)
    refine ⟨fun l hl => ?_, ?_⟩
    · obtain ⟨p, hp, rfl⟩ := List.mem_map.mp hl
      rw [List.pairwise_map]
      have : (List.range s).Pairwise (· < ·) := List.pairwise_lt_range
      exact this.imp fun {a b} h => app_lt.mpr (by omega)
    · rw [List.pairwise_map]
      refine (lists_rise s n).imp_of_mem fun {a b} ha hb hab x hx y hy => ?_
      obtain ⟨xs, _, rfl⟩ := List.mem_map.mp hx
      obtain ⟨ys, _, rfl⟩ := List.mem_map.mp hy
      exact low (by rw [(mem_lists.mp ha).1, (mem_lists.mp hb).1]) hab
end
end RG


set_option Elab.async false
set_option linter.all false
set_option maxRecDepth 100000
set_option maxHeartbeats 4000000
namespace RG
open PySem PySem.Spec L2 B
theorem any_ints (n : Int) : ∀ ns : List Int, ((ns.map D.int).any fun z => eqv z (.int n)) = decide (n ∈ ns)
  | [] => by simp
  | m :: ns => by
    rw [List.map_cons, List.any_cons, any_ints n ns, eqv_int]
    by_cases h : m = n
    · subst h; simp
    · have h' : n ≠ m := fun z => h z.symm
      simp [h, h']
theorem w_notInL {n : Int} {ns : List Int} {P : Rs → Prop} : optW (gNotIn (.int n) (iL ns)) P ↔ P (.fz (.bl (!decide (n ∈ ns)))) := by
  unfold gNotIn
  show optW ((if shp (.int n) = true ∧ shp (iL ns) = true then some ((ns.map D.int).any fun z => eqv z (.int n)) else none).map _) P ↔ _
  rw [if_pos ⟨shp_int, shp_iL ns⟩, any_ints]
  exact Iff.rfl
def diffs (k : List Int) : List Int := List.zipWith (fun a b => a - b) k k.tail
def subD (d : D) : D := match d with
  | .nd .tup [.int a, .int b] => .int (a - b)
  | d => d
theorem sub_zip : ∀ a b : List Int, (zipD (a.map D.int) (b.map D.int)).map subD = (List.zipWith (fun a b => a - b) a b).map D.int
  | [], _ => by simp [zipD]
  | _ :: _, [] => by simp [zipD]
  | x :: a, y :: b => by
    show subD (.nd .tup [.int x, .int y]) :: (zipD (a.map D.int) (b.map D.int)).map subD = _
    rw [sub_zip a b]
    rfl
theorem zip_mem {a b : List Int} {d : D} (h : d ∈ zipD (a.map D.int) (b.map D.int)) : ∃ x y, d = .nd .tup [.int x, .int y] := by
  obtain ⟨i, hi⟩ := List.mem_iff_getElem?.mp h
  unfold zipD at hi
  rw [List.getElem?_zipWith, List.getElem?_map, List.getElem?_map] at hi
  cases e1 : a[i]? with
  | none => rw [e1] at hi; cases hi
  | some x =>
    cases e2 : b[i]? with
    | none => rw [e1, e2] at hi; cases hi
    | some y =>
      rw [e1, e2] at hi
      cases hi
      exact ⟨x, y, rfl⟩
def SW (z w : Nat) : Prop := (z = 1 ∨ z = 2 ∨ z = 3) ∧ (w = 2 ∨ w = 3 ∨ (w = 4 ∧ z < 3))
theorem SW.few {z w : Nat} (h : SW z w) : z ^ w ≤ 27 := by
  obtain ⟨rfl | rfl | rfl, rfl | rfl | ⟨rfl, h⟩⟩ := h <;> first | decide | omega
theorem l_tup {s w : Nat} : ((lists s w).map iL).map (fun d => match d with
    | .nd .lst ds => D.nd .tup ds
    | d => d) = (lists s w).map tupD := by
  rw [List.map_map]
  rfl
theorem parts {s : D} (hs : St s) {Q} {E} (h : ∀ z w L s', SW z w → L.Sublist (lists z w) → St s' → Q (.fz (.nd .tup [.int (z : Nat), .int (w : Nat), wL L])) [s']) : FW (r_L_parts [s]) Q E := by
  unfold r_L_parts m_L_parts
  rw [FW_run]
  simp only [start0, par]
  refine W_cut (fun b => ∃ s' z, St s' ∧ (z = 1 ∨ z = 2 ∨ z = 3) ∧ b = [.own (some 0) s', .fz (.int (z : Nat)), .un, .un, .un, .un, .un, .un, .un, .un]) ?_ ?_
  · simp
    refine draw hs (by decide) (by decide) fun v s4 hs4 v0 v1 => ?_
    simp
    exact ⟨s4, hs4, by
      rcases (show v = 0 ∨ v = 1 ∨ v = 2 by omega) with rfl | rfl | rfl
      · exact .inl ⟨rfl, rfl⟩
      · exact .inr (.inl ⟨rfl, rfl⟩)
      · exact .inr (.inr ⟨rfl, rfl⟩)⟩
  rintro b ⟨s1, z, hs1, z3, rfl⟩
  refine W_cut (fun b => ∃ s' w, St s' ∧ SW z w ∧ b = [.own (some 0) s', .fz (.int (z : Nat)), .fz (.int (w : Nat)), .un, .un, .un, .un, .un, .un, .un]) ?_ ?_
  · simp
    refine ⟨mulOk_l (by decide) (by decide), sz (by decide), ?_⟩
    refine one hs1 (ds := [.int 2, .int 2, .int 3, .int 3, .int (2 + 2 * (if (z : Int) < 3 then 1 else 0))]) (by simp) (by simp) fun d s2 hd hs2 => ?_
    have : ∃ w : Nat, d = .int w ∧ SW z w := by
      simp at hd
      rcases hd with rfl | rfl | rfl
      · exact ⟨2, rfl, z3, .inl rfl⟩
      · exact ⟨3, rfl, z3, .inr (.inl rfl)⟩
      · by_cases q : (z : Int) < 3
        · exact ⟨4, by rw [if_pos q]; rfl, z3, .inr (.inr ⟨rfl, by omega⟩)⟩
        · exact ⟨2, by rw [if_neg q]; rfl, z3, .inl rfl⟩
    obtain ⟨w, rfl, hw⟩ := this
    simp
    exact ⟨s2, hs2, w, hw, rfl, rfl⟩
  rintro b ⟨s2, w, hs2, hw, rfl⟩
  have few := hw.few
  have hz := hw.1
  have hw4 : w ≤ 4 := by have := hw.2; omega
  refine W_then (β1 := [.own (some 0) s2, .fz (.int (z : Nat)), .fz (.int (w : Nat)), .own none (wL (lists z w)), .un, .un, .un, .un, .un, .un]) ?_ ?_
  · simp
    refine l_lists (by omega) (by omega) (by omega) (by omega) ?_
    simp
    refine W_compF (fun _ => true) (fun d => match d with
      | .nd .lst ds => D.nd .tup ds
      | d => d) (by rfl) (szlt (by simp [lists_len]; omega)) (fun d hd => ?_) ?_
    · obtain ⟨r, hr, rfl⟩ := List.mem_map.mp hd
      simp [wipeB]
    · rw [List.filter_eq_self.mpr fun _ _ => rfl, l_tup]
      simp [wipeB, backB]
  refine W_cut (fun b => ∃ s' way, St s' ∧ b = [.own (some 0) s', .fz (.int (z : Nat)), .fz (.int (w : Nat)), .own none (wL (lists z w)), .fz (.int way), .un, .un, .un, .un, .un]) ?_ ?_
  · simp
    refine draw hs2 (by decide) (by decide) fun v s3 hs3 v0 v1 => ?_
    simp
    exact hs3
  rintro b ⟨s3, way, hs3, rfl⟩
  rw [W_seqF, W_ifS, W_asB, W_mOp]
  simp
  split
  · refine W_compF (fun d => !decide ((0 : Int) ∈ diffs (kD d))) id (by rfl) (szlt (by simp [lists_len]; omega)) (fun d hd => ?_) ?_
    · obtain ⟨k, hk, rfl⟩ := List.mem_map.mp hd
      have hkl := (mem_lists.mp hk).1
      simp [wipeB]
      rw [gSl_suf]
      simp
      have ez : ∀ {Q : List D → B.Env → Prop} {β : B.Env} {E}, W (zipA [.d (tupD k), .d (tupD k.tail)]) β Q E ↔ Q (zipD (k.map D.int) (k.tail.map D.int)) β := fun {Q β E} => W_zipTT
      rw [ez]
      refine W_compF (fun _ => true) subD (by rfl) ?_ (fun d hd => ?_) ?_
      · unfold zipD
        rw [List.length_zipWith, List.length_map]
        exact szlt (by omega)
      · obtain ⟨x, y, rfl⟩ := zip_mem hd
        simp [wipeB, subD]
      · rw [List.filter_eq_self.mpr fun _ _ => rfl, sub_zip]
        refine w_notInL.mpr ?_
        simp [wipeB, backB]
        have ed : (List.zipWith (fun a b => a - b) k k.tail) = diffs k := rfl
        rw [ed]
    · have e0 : (((lists z w).map tupD).filter fun d => !decide ((0 : Int) ∈ diffs (kD d))).map id = ((lists z w).filter fun k => !decide ((0 : Int) ∈ diffs k)).map tupD := by
        rw [List.map_id, List.filter_map]
        congr 2
        funext k
        simp
      rw [e0]
      simp only [wipeB, backB]
      simp
      exact ⟨sz (by decide), h z w _ s3 hw List.filter_sublist hs3⟩
  · refine W_forL (fun i β => ∃ s' L' s6, St s' ∧ isOwn s6 = false ∧ L'.Sublist ((lists z w).take i) ∧ β = [.own (some 0) s', .fz (.int (z : Nat)), .fz (.int (w : Nat)), .fz (wL (lists z w)), .fz (.int way), .own none (wL L'), s6, .un, .un, .un]) ⟨s3, [], .un, hs3, rfl, List.nil_sublist _, rfl⟩ (fun i d β hd hI => ?_) fun β hI => ?_
    · obtain ⟨s', L', s6, hs', h6, sub, rfl⟩ := hI
      rw [List.getElem?_map] at hd
      obtain ⟨k, hk, rfl⟩ := Option.map_eq_some_iff.mp hd
      rw [W_gSet]
      simp
      refine draw hs' (by decide) (by decide) fun v s4 hs4 v0 v1 => ?_
      simp
      have st : (lists z w).take (i + 1) = (lists z w).take i ++ [k] := by rw [List.take_add_one, hk]; rfl
      have sl := sub.length_le
      have sl2 := List.length_take_le' i (lists z w)
      rw [lists_len] at sl2
      split
      · refine ⟨szlt (by omega), s4, hs4, L' ++ [k], _, rfl, ?_, rfl, by simp, rfl⟩
        rw [st]
        exact sub.append (List.Sublist.refl _)
      · refine ⟨s4, hs4, L', _, rfl, ?_, rfl, rfl, rfl⟩
        rw [st]
        exact sub.trans (List.sublist_append_left _ _)
    · obtain ⟨s', L', s6, hs', h6, sub, rfl⟩ := hI
      simp
      rw [List.length_map, List.take_length] at sub
      exact ⟨sz (by decide), h z w L' s' hw sub hs'⟩
end RG


set_option Elab.async false
set_option linter.all false
set_option maxRecDepth 100000
set_option maxHeartbeats 4000000
namespace RG
open PySem PySem.Spec L2 B
end RG


set_option Elab.async false
set_option linter.all false
set_option maxRecDepth 100000
set_option maxHeartbeats 4000000
namespace RG
open PySem PySem.Spec L2 B
/-! ## all fitting rings, by all lists -/
section
variable {L : List (List Int)} {u : Nat} (hl : ∀ k ∈ L, k.length = u + 1) (hu : 1 ≤ u)
include hu in
include hl hu
end
/-- all lists that fit -/
def fl (s w : Nat) (L : List (List Int)) (n : Nat) : List (List Int) := (lists s n).filter (fitsB L w)
section
variable {s u : Nat} {L : List (List Int)}
end
end RG


set_option Elab.async false
set_option linter.all false
set_option maxRecDepth 100000
set_option maxHeartbeats 4000000
namespace RG
open PySem PySem.Spec L2 B
def unI (d : D) : Int := match d with
  | .int i => i
  | _ => 0
end RG


set_option Elab.async false
set_option linter.all false
set_option maxRecDepth 100000
set_option maxHeartbeats 4000000
namespace RG
open PySem PySem.Spec L2 B
/-! ## ring_at and number_of at every length -/
def pL (k : List Int) : PyData := .list (k.map PyData.int)
section
variable {s w : Nat} {L : List (List Int)}
end
end RG


set_option Elab.async false
set_option linter.all false
set_option maxRecDepth 100000
set_option maxHeartbeats 4000000
namespace RG
open PySem PySem.Spec L2 B
/-! ## rings as functions that come again -/
def fn (r : List Int) (i : Nat) : Int := r.getD (i % r.length) 0
def tab (f : Nat → Int) (a n : Nat) : List Int := (List.range n).map fun k => f (a + k)
def FitsF (L : List (List Int)) (w : Nat) (f : Nat → Int) : Prop := ∀ p, tab f p w ∈ L
def Per (f : Nat → Int) (n : Nat) : Prop := ∀ i, f (i + n) = f i
section
variable {f g : Nat → Int} {a b n m k : Nat}
theorem tab_ext (h : ∀ i, i < n → f (a + i) = g (b + i)) : tab f a n = tab g b n := by
  unfold tab
  apply List.map_congr_left
  intro i hi
  exact h i (List.mem_range.mp hi)
theorem Per.mul (h : Per f n) : ∀ k i, f (i + n * k) = f i
  | 0, i => rfl
  | k + 1, i => by
    rw [Nat.mul_succ, ← Nat.add_assoc, h, Per.mul h k i]
theorem Per.mod (h : Per f n) (i : Nat) : f (i % n) = f i := by
  have := h.mul (i / n) (i % n)
  rw [Nat.mod_add_div] at this
  exact this.symm
theorem Per.sub (h : Per f n) (h2 : Per f (n + m)) : Per f m := fun i => by
  have := h (i + m)
  have e := h2 i
  rw [show i + m + n = i + (n + m) by omega] at this
  rw [← this, e]
theorem Per.times (h : Per f n) (k : Nat) : Per f (n * k) := fun i => h.mul k i
theorem Per.gcd : ∀ (n m : Nat), Per f n → Per f m → Per f (Nat.gcd n m) := by
  intro n m
  induction n, m using Nat.gcd.induction with
  | H0 m => intro _ h; rw [Nat.gcd_zero_left]; exact h
  | H1 n m hn ih =>
    intro h1 h2
    rw [Nat.gcd_rec]
    refine ih ?_ h1
    have e : m = n * (m / n) + m % n := (Nat.div_add_mod m n).symm
    exact (h1.times (m / n)).sub (by rw [← e]; exact h2)
theorem tab_per (h : Per f n) : tab f (a + n) m = tab f a m := tab_ext fun i _ => by
  rw [show a + n + i = a + i + n by omega]
  exact h _
end
section
variable {s w : Nat} {L : List (List Int)}
end
end RG


set_option Elab.async false
set_option linter.all false
set_option maxRecDepth 100000
set_option maxHeartbeats 4000000
namespace RG
open PySem PySem.Spec L2 B
/-! ## closed walks are fitting rings, shorter than the window too -/
section
variable {s u : Nat} {L : List (List Int)}
end
section
variable {s w : Nat} {L : List (List Int)}
end
end RG


set_option Elab.async false
set_option linter.all false
set_option maxRecDepth 100000
set_option maxHeartbeats 4000000
namespace RG
open PySem PySem.Spec L2 B
/-! ## rings that turn into one another, counted once -/
def rot (r : List Int) (k : Nat) : List Int := r.drop k ++ r.take k
def least (r : List Int) : List Int := match (List.range r.length).map (rot r) with
  | [] => []
  | x :: l => leastL x l
def sh (f : Nat → Int) (k : Nat) : Nat → Int := fun i => f (k + i)
def IsL (f : Nat → Int) (n : Nat) (m : List Int) : Prop := (∃ k, m = tab f k n) ∧ ∀ k, ¬ tab f k n < m
section
variable {f g : Nat → Int} {n k : Nat}
theorem tab_times (h : Per f n) {a m : Nat} : tab f (a + n * k) m = tab f a m := tab_per (h.times k)
theorem IsL.one {m m' : List Int} (h : IsL f n m) (h' : IsL f n m') : m = m' := by
  obtain ⟨⟨a, rfl⟩, h1⟩ := h
  obtain ⟨⟨b, rfl⟩, h2⟩ := h'
  rcases List.le_iff_lt_or_eq.mp (List.not_lt.mp (h2 a)) with q | q
  · exact absurd q (h1 b)
  · exact q.symm
theorem sh_tab {j : Nat} : tab (sh f k) j n = tab f (k + j) n := tab_ext fun i _ => by
  unfold sh
  rw [Nat.add_assoc]
theorem back_ix (hn : 1 ≤ n) : k + (n - 1) * k = n * k := by
  obtain ⟨m, rfl⟩ : ∃ m, n = m + 1 := ⟨n - 1, by omega⟩
  rw [Nat.add_sub_cancel, Nat.succ_mul, Nat.add_comm]
theorem IsL.sh (h : Per f n) (hn : 1 ≤ n) {m : List Int} : IsL (RG.sh f k) n m ↔ IsL f n m := by
  unfold IsL
  simp only [sh_tab]
  have key : ∀ j, tab f (k + (j + (n - 1) * k)) n = tab f j n := fun j => by
    rw [show k + (j + (n - 1) * k) = j + (k + (n - 1) * k) by omega, back_ix hn, tab_times h]
  constructor
  · rintro ⟨⟨j, e⟩, h2⟩
    exact ⟨⟨_, e⟩, fun j => by rw [← key j]; exact h2 _⟩
  · rintro ⟨⟨j, e⟩, h2⟩
    exact ⟨⟨_, by rw [key j]; exact e⟩, fun j => h2 _⟩
theorem FitsF.sh {L : List (List Int)} {w : Nat} (h : FitsF L w f) : FitsF L w (RG.sh f k) := fun p => by
  rw [sh_tab]
  exact h _
end
/-! counting -/
def cnt (n : Nat) (b : Nat → Bool) : Nat := ((List.range n).filter b).length
theorem swap {α : Type} (p : Nat → α → Bool) (n : Nat) : ∀ X : List α, ((List.range n).map fun t => (X.filter (p t)).length).sum = (X.map fun x => cnt n fun t => p t x).sum
  | [] => by
    rw [List.map_nil, List.sum_nil]
    have : (List.range n).map (fun t => (([] : List α).filter (p t)).length) = List.replicate n 0 := by
      rw [show (fun t : Nat => (([] : List α).filter (p t)).length) = fun _ => 0 from rfl, List.map_const', List.length_range]
    rw [this, List.sum_replicate_nat, Nat.mul_zero]
  | x :: X => by
    rw [List.map_cons, List.sum_cons, ← swap p n X]
    unfold cnt
    generalize List.range n = l
    induction l with
    | nil => rfl
    | cons t l ih =>
      rw [List.map_cons, List.sum_cons, ih, List.map_cons, List.sum_cons]
      cases h : p t x with
      | true =>
        have a1 : (List.filter (p t) (x :: X)).length = (List.filter (p t) X).length + 1 := by rw [List.filter_cons_of_pos h, List.length_cons]
        have a2 : (List.filter (fun t => p t x) (t :: l)).length = (List.filter (fun t => p t x) l).length + 1 := by rw [List.filter_cons_of_pos (by exact h), List.length_cons]
        omega
      | false =>
        have a1 : (List.filter (p t) (x :: X)).length = (List.filter (p t) X).length := by rw [List.filter_cons_of_neg (by rw [h]; simp)]
        have a2 : (List.filter (fun t => p t x) (t :: l)).length = (List.filter (fun t => p t x) l).length := by rw [List.filter_cons_of_neg (by rw [h]; simp)]
        omega
section
variable {s w : Nat} {L : List (List Int)}
end
end RG


set_option Elab.async false
set_option linter.all false
set_option maxRecDepth 100000
set_option maxHeartbeats 4000000
namespace RG
open PySem PySem.Spec L2 B PyProof.Rows
/-! ## sorted words; the turned rule -/
theorem leD_W (a b : List Int) : leD (tupD a) (tupD b) = decide (a ≤ b) := by
  unfold leD
  have e : ∀ k : List Int, toPy (tupD k) = .tuple (k.map .int) := fun k => toPy_W k
  show (!PySem.W.dataLt (toPy (tupD b)) (toPy (tupD a))) = _
  rw [e, e, PySem.W.dataLt_tuple]
  have e2 : lexLt itemOrd (PySem.W.keyToksAll (b.map PyData.int)) (PySem.W.keyToksAll (a.map PyData.int)) = decide (b < a) := PySem.W.dataLt_ints b a
  rw [e2]
  by_cases h : b < a
  · have h' : ¬ a ≤ b := fun r => List.not_lt.mpr r h
    simp [h, h']
  · have h' : a ≤ b := List.not_lt.mp h
    simp [h, h']
theorem sort_W {L : List (List Int)} (ne : ∀ k ∈ L, k ≠ []) (nd : L.Nodup) {P : Rs → Prop} : optW (gSorted [.nd .lst (L.map tupD)]) P ↔ P (.own (.nd .lst ((tset L).map tupD))) := by
  have ok : sortOk (L.map tupD) := by
    refine ⟨fun d hd => ?_, fun a ha b hb => ?_, .inl fun d hd => ?_⟩
    · obtain ⟨k, _, rfl⟩ := List.mem_map.mp hd
      rw [toPy_W]
      simp [PyData.canLay0, PyData.depth, pW, canLay_ints, depth_ints]
    · rw [List.map_map] at ha hb
      obtain ⟨k, _, rfl⟩ := List.mem_map.mp ha
      obtain ⟨l, _, rfl⟩ := List.mem_map.mp hb
      show PySem.W.alike (toPy (tupD k)) (toPy (tupD l)) = true
      rw [toPy_W, toPy_W]
      exact PySem.W.alike_ints k l
    · rw [List.map_map] at hd
      obtain ⟨k, hk, rfl⟩ := List.mem_map.mp hd
      show ∃ x r, toPy (tupD k) = .tuple (x :: r)
      rw [toPy_W]
      cases k with
      | nil => exact absurd rfl (ne _ hk)
      | cons x k => exact ⟨_, _, rfl⟩
  rw [w_sorted ok]
  have e : sortD (L.map tupD) = (tset L).map tupD := by
    have hm := List.map_mergeSort (r := fun a b : List Int => decide (a ≤ b)) (s := leD) (f := tupD) (l := L) (fun a _ b _ => (leD_W a b).symm)
    unfold sortD
    rw [← hm]
    congr 1
    have pm := List.mergeSort_perm L (fun a b : List Int => decide (a ≤ b))
    have h1 := List.pairwise_mergeSort (le := fun p q : List Int => decide (p ≤ q)) (fun a b c h1 h2 => by simpa using List.le_trans (by simpa using h1) (by simpa using h2)) (fun a b => by
      simp only [Bool.or_eq_true, decide_eq_true_eq]
      exact List.le_total _ _) L
    have h2 : (L.mergeSort fun a b : List Int => decide (a ≤ b)).Nodup := pm.nodup_iff.mpr nd
    refine rising_eq (h1.imp₂ (fun a b h n => ?_) h2) (tset_sorted L) fun k => by rw [mem_tset, pm.mem_iff]
    rcases List.le_iff_lt_or_eq.mp (show a ≤ b by simpa using h) with q | q
    · exact q
    · exact absurd q n
  rw [e]
/-- words read from behind -/
def TL (L : List (List Int)) : List (List Int) := tset (L.map List.reverse)
theorem mem_TL {L : List (List Int)} {k : List Int} : k ∈ TL L ↔ k.reverse ∈ L := by
  unfold TL
  rw [mem_tset, List.mem_map]
  constructor
  · rintro ⟨l, hl, rfl⟩
    rwa [List.reverse_reverse]
  · intro h
    exact ⟨_, h, List.reverse_reverse k⟩
section
variable {s w : Nat} {L : List (List Int)}
theorem Rl.turn (r : Rl s w L) : Rl s w (TL L) := by
  refine ⟨r.s1, r.s4, r.w2, r.w4, fun k hk => ?_, fun k hk x hx => ?_, tset_sorted _, ?_⟩
  · have := r.len _ (mem_TL.mp hk)
    rwa [List.length_reverse] at this
  · exact r.dig _ (mem_TL.mp hk) x (List.mem_reverse.mpr hx)
  · have := tset_len (L.map List.reverse)
    unfold TL
    rw [List.length_map] at this
    have := r.few
    omega
theorem turned (r : Rl s w L) {Q} {E} (h : Q (.fz (ruleD s w (TL L))) []) : FW (r_P_turned [ruleD s w L]) Q E := by
  unfold r_P_turned m_P_turned
  rw [FW_run]
  simp [start0, par]
  rw [fld_size, fld_wide, fld_words]
  simp
  refine W_compF (fun _ => true) (fun d => match d with
    | .nd .tup ds => .nd .tup ds.reverse
    | d => d) (by rfl) (szlt (by have := r.few; simp; omega)) (fun d hd => ?_) ?_
  · obtain ⟨k, hk, rfl⟩ := List.mem_map.mp hd
    simp [wipeB]
    rfl
  · have e : ((((L.map tupD).filter fun _ => true).map fun d => match d with
        | .nd .tup ds => D.nd .tup ds.reverse
        | d => d)) = (L.map List.reverse).map tupD := by
      rw [List.filter_eq_self.mpr fun _ _ => rfl, List.map_map, List.map_map]
      apply List.map_congr_left
      intro k _
      show D.nd .tup (k.map D.int).reverse = .nd .tup (k.reverse.map D.int)
      rw [List.map_reverse]
    rw [e]
    simp [wipeB, backB]
    rw [← List.map_map]
    refine (sort_W (L := L.map List.reverse) (fun k hk => ?_) ?_).mpr ?_
    · obtain ⟨l, hl, rfl⟩ := List.mem_map.mp hk
      exact fun e => r.ne _ hl (List.reverse_eq_nil_iff.mp e)
    · exact List.pairwise_map.mpr ((rise_nodup r.ris).imp fun hne e => hne (List.reverse_inj.mp e))
    · refine rule_init r.turn ?_
      simp
      exact h
end
end RG


set_option Elab.async false
set_option linter.all false
set_option maxRecDepth 100000
set_option maxHeartbeats 4000000
namespace RG
open PySem PySem.Spec L2 B
/-! ## rings of the turned rule -/
def rv (f : Nat → Int) (n : Nat) : Nat → Int := fun i => f (n - 1 - i % n)
section
variable {f : Nat → Int} {n : Nat}
end
section
variable {s w : Nat} {L : List (List Int)}
end
end RG


set_option Elab.async false
set_option linter.all false
set_option maxRecDepth 100000
set_option maxHeartbeats 4000000
namespace RG
open PySem PySem.Spec L2 B
/-! ## the widened rule -/
def W1 (L : List (List Int)) (k : List Int) : List (List Int) := (L.filter fun o => decide (o.dropLast = k.tail)).map fun o => k ++ o.drop (o.length - 1)
def WR (L : List (List Int)) : List (List Int) := L.flatMap (W1 L)
def WL (L : List (List Int)) : List (List Int) := tset (WR L)
theorem drop_last {o : List Int} (h : o ≠ []) : o.drop (o.length - 1) = [o.getLast h] := by
  have := List.dropLast_concat_getLast h
  conv => lhs; rw [← this]
  rw [List.length_append, List.length_dropLast, List.length_singleton, List.drop_left']
  simp
section
variable {s w : Nat} {L : List (List Int)}
theorem mem_WR (r : Rl s w L) {x : List Int} : x ∈ WR L ↔ x.length = w + 1 ∧ x.dropLast ∈ L ∧ x.tail ∈ L := by
  have hw := r.w2
  unfold WR W1
  rw [List.mem_flatMap]
  constructor
  · rintro ⟨k, hk, hx⟩
    obtain ⟨o, ho, rfl⟩ := List.mem_map.mp hx
    obtain ⟨h1, h2⟩ := List.mem_filter.mp ho
    have h2 := of_decide_eq_true h2
    have no := r.ne _ h1
    have nk := r.ne _ hk
    rw [drop_last no]
    refine ⟨by rw [List.length_append, r.len _ hk]; rfl, by rw [List.dropLast_concat]; exact hk, ?_⟩
    cases k with
    | nil => exact absurd rfl nk
    | cons y k =>
      rw [List.cons_append, List.tail_cons, ← List.tail_cons (a := y) (as := k), ← h2, List.dropLast_concat_getLast no]
      exact h1
  · rintro ⟨h1, h2, h3⟩
    have h0 : x ≠ [] := fun e => by rw [e] at h1; simp at h1
    refine ⟨_, h2, List.mem_map.mpr ⟨_, List.mem_filter.mpr ⟨h3, decide_eq_true ?_⟩, ?_⟩⟩
    · rw [List.tail_dropLast]
    · have nt := r.ne _ h3
      rw [drop_last nt, List.getLast_tail nt, List.dropLast_concat_getLast h0]
theorem WR_nodup (r : Rl s w L) : (WR L).Nodup := by
  have hw := r.w2
  have nd := rise_nodup r.ris
  unfold WR
  rw [List.flatMap, List.Nodup, List.pairwise_flatten]
  refine ⟨fun l hl => ?_, ?_⟩
  · obtain ⟨k, hk, rfl⟩ := List.mem_map.mp hl
    unfold W1
    rw [List.pairwise_map]
    refine (nd.sublist List.filter_sublist).imp_of_mem fun {a b} ha hb hab e => hab ?_
    obtain ⟨a1, a2⟩ := List.mem_filter.mp ha
    obtain ⟨b1, b2⟩ := List.mem_filter.mp hb
    have a2 := of_decide_eq_true a2
    have b2 := of_decide_eq_true b2
    have na := r.ne _ a1
    have nb := r.ne _ b1
    have e := List.append_cancel_left e
    rw [drop_last na, drop_last nb] at e
    rw [← List.dropLast_concat_getLast na, ← List.dropLast_concat_getLast nb, a2, b2, e]
  · rw [List.pairwise_map]
    refine nd.imp_of_mem fun {a b} ha hb hab x hx y hy e => hab ?_
    obtain ⟨o, ho, rfl⟩ := List.mem_map.mp hx
    obtain ⟨o', ho', rfl⟩ := List.mem_map.mp hy
    have no := r.ne _ (List.mem_filter.mp ho).1
    have no' := r.ne _ (List.mem_filter.mp ho').1
    rw [drop_last no, drop_last no'] at e
    have := congrArg List.dropLast e
    rwa [List.dropLast_concat, List.dropLast_concat] at this
theorem mem_WL (r : Rl s w L) {x : List Int} : x ∈ WL L ↔ x.length = w + 1 ∧ x.dropLast ∈ L ∧ x.tail ∈ L := by
  unfold WL
  rw [mem_tset, mem_WR r]
theorem WL_few (r : Rl s w L) : (WL L).length ≤ s ^ (w + 1) := by
  have e : WL L = (lists s (w + 1)).filter fun x => decide (x ∈ WL L) := by
    refine rising_eq (tset_sorted _) ((lists_rise s (w + 1)).sublist List.filter_sublist) fun x => ?_
    rw [List.mem_filter, decide_eq_true_eq]
    refine ⟨fun h => ⟨?_, h⟩, fun h => h.2⟩
    obtain ⟨h1, h2, h3⟩ := (mem_WL r).mp h
    have h0 : x ≠ [] := fun e => by rw [e] at h1; simp at h1
    refine mem_lists.mpr ⟨h1, fun y hy => ?_⟩
    rw [← List.dropLast_concat_getLast h0] at hy
    rcases List.mem_append.mp hy with hy | hy
    · exact r.dig _ h2 y hy
    · have nt := r.ne _ h3
      refine r.dig _ h3 y ?_
      rw [List.mem_singleton.mp hy, ← List.getLast_tail nt]
      exact List.getLast_mem nt
  rw [e, ← lists_len s (w + 1)]
  exact List.length_filter_le _ _
theorem Rl.wide (r : Rl s w L) (h4 : w + 1 ≤ 4) (few : s ^ (w + 1) < 100) : Rl s (w + 1) (WL L) := by
  have hw := r.w2
  refine ⟨r.s1, r.s4, by omega, h4, fun k hk => ((mem_WL r).mp hk).1, fun k hk x hx => ?_, tset_sorted _, Nat.lt_of_le_of_lt (WL_few r) (Nat.lt_trans few (by decide))⟩
  obtain ⟨h1, h2, h3⟩ := (mem_WL r).mp hk
  have h0 : k ≠ [] := fun e => by rw [e] at h1; simp at h1
  rw [← List.dropLast_concat_getLast h0] at hx
  rcases List.mem_append.mp hx with hx | hx
  · exact r.dig _ h2 x hx
  · have nt := r.ne _ h3
    refine r.dig _ h3 x ?_
    rw [List.mem_singleton.mp hx, ← List.getLast_tail nt]
    exact List.getLast_mem nt
end
end RG


set_option Elab.async false
set_option linter.all false
set_option maxRecDepth 100000
set_option maxHeartbeats 4000000
namespace RG
open PySem PySem.Spec L2 B
theorem cut_last (xs : List D) : cut xs (some (-1)) none = xs.drop (xs.length - 1) := by
  unfold cut HT.sIx
  simp
  have e : ((-1 : Int) + xs.length).toNat = xs.length - 1 := by omega
  rw [e]
  exact List.take_of_length_le (by rw [List.length_drop]; exact Nat.le_refl _)
theorem gSl_last (k : List Int) : gSl (some (-1)) none (tupD k) = some (.fz (tupD (k.drop (k.length - 1)))) := by
  show some (Rs.fz (.nd .tup (cut (k.map D.int) (some (-1)) none))) = _
  rw [cut_last, ← List.map_drop, List.length_map]
  rfl
theorem flat_le {α β : Type} {g : α → List β} {c : Nat} : ∀ {l : List α}, (∀ x ∈ l, (g x).length ≤ c) → ((l.map fun x => (g x).length).sum) ≤ l.length * c
  | [], _ => by simp
  | x :: l, h => by
    have h1 := h x List.mem_cons_self
    have h2 := flat_le fun y hy => h y (List.mem_cons_of_mem _ hy)
    rw [List.map_cons, List.sum_cons, List.length_cons, Nat.succ_mul]
    omega
theorem W1_len (L : List (List Int)) (k : List Int) : (W1 L k).length ≤ L.length := by
  unfold W1
  rw [List.length_map]
  exact List.length_filter_le _ _
def unT (d : D) : List Int := match d with
  | .nd .tup ds => ds.map unI
  | _ => []
theorem unT_tupD (k : List Int) : unT (tupD k) = k := by
  show (k.map D.int).map unI = k
  rw [List.map_map]
  exact List.map_id'' (fun _ => rfl) k
theorem map_tupD {p : List Int → Bool} {f : List Int → List Int} (l : List (List Int)) : ((l.map tupD).filter fun d => p (unT d)).map (fun d => tupD (f (unT d))) = ((l.filter p).map f).map tupD := by
  rw [List.filter_map, List.map_map, List.map_map]
  have e : (fun d => p (unT d)) ∘ tupD = p := by
    funext k
    show p (unT (tupD k)) = p k
    rw [unT_tupD]
  rw [e]
  apply List.map_congr_left
  intro k _
  show tupD (f (unT (tupD k))) = tupD (f k)
  rw [unT_tupD]
section
variable {s w : Nat} {L : List (List Int)}
theorem widened (r : Rl s w L) (h4 : w + 1 ≤ 4) (few : s ^ (w + 1) < 100) {Q} {E} (h : Q (.fz (ruleD s (w + 1) (WL L))) []) : FW (r_P_widened [ruleD s w L]) Q E := by
  unfold r_P_widened m_P_widened
  rw [FW_run]
  simp only [start0, par]
  have fw := r.few
  have hw := r.w2
  refine W_then (β1 := [.fz (ruleD s w L), .own none (.nd .lst []), .un, .un]) (by simp) ?_
  refine W_cut (fun b => ∃ s2, b = [.fz (ruleD s w L), .own none (.nd .lst ((WR L).map tupD)), s2, .un]) ?_ ?_
  · simp
    rw [fld_words]
    simp
    refine W_forL (fun j b => ∃ s2, isOwn s2 = false ∧ b = [.fz (ruleD s w L), .own none (.nd .lst (((L.take j).flatMap (W1 L)).map tupD)), s2, .un]) ⟨.un, rfl, by simp⟩ (fun j d b hd hI => ?_) fun b hI => ?_
    · obtain ⟨s2, h2, rfl⟩ := hI
      rw [List.getElem?_map] at hd
      obtain ⟨k, hk, rfl⟩ := Option.map_eq_some_iff.mp hd
      have hj := (List.getElem?_eq_some_iff.mp hk).1
      simp [h2]
      rw [fld_words]
      simp
      refine W_compF (fun d => decide ((unT d).dropLast = k.tail)) (fun d => tupD (k ++ (unT d).drop ((unT d).length - 1))) (by rfl) (szlt (by simp; omega)) (fun d hdd => ?_) ?_
      · obtain ⟨o, ho, rfl⟩ := List.mem_map.mp hdd
        simp only [unT_tupD]
        simp [wipeB]
        rw [gSl_pre, gSl_suf, gSl_last]
        refine w_eqW.mpr ?_
        simp
        intro _
        have lo := r.len _ ho
        have lk := r.len _ (List.mem_of_getElem? hk)
        show optW (if (k.map D.int).length + ((o.drop (o.length - 1)).map D.int).length ≤ sizeLine then some (Rs.fz (.nd .tup (k.map D.int ++ (o.drop (o.length - 1)).map D.int))) else none) _
        rw [if_pos (sz (by simp; omega)), ← List.map_append]
        rfl
      · rw [map_tupD (p := fun o => decide (o.dropLast = k.tail)) (f := fun o => k ++ o.drop (o.length - 1))]
        simp [wipeB, backB]
        refine ⟨?_, rfl, ?_⟩
        · have a1 : (List.take j (List.map (fun a => (W1 L a).length) L)).sum ≤ j * L.length := by
            rw [← List.map_take]
            have := flat_le (g := W1 L) (c := L.length) (l := L.take j) fun x _ => W1_len L x
            rw [List.length_take, Nat.min_eq_left (by omega)] at this
            exact this
          have a2 : j * L.length ≤ 400 * 400 := Nat.mul_le_mul (by omega) (by omega)
          have a3 := List.length_filter_le (fun o => decide (o.dropLast = k.tail)) L
          exact sz (by omega)
        · rw [List.take_add_one, hk, List.flatMap_append, List.map_append]
          congr 1
          unfold W1
          simp
    · obtain ⟨s2, h2, rfl⟩ := hI
      rw [List.length_map, List.take_length]
      exact ⟨rfl, s2, rfl⟩
  · rintro b ⟨s2, rfl⟩
    simp
    rw [fld_size, fld_wide]
    simp
    refine (sort_W (fun k hk => ?_) (WR_nodup r)).mpr ?_
    · have := ((mem_WR r).mp hk).1
      exact fun e => by rw [e] at this; simp at this
    · have rw' := r.wide h4 few
      have e : ((w : Int) + 1) = ((w + 1 : Nat) : Int) := by omega
      rw [e]
      refine rule_init rw' ?_
      simp
      exact h
end
end RG


set_option Elab.async false
set_option linter.all false
set_option maxRecDepth 100000
set_option maxHeartbeats 4000000
namespace RG
open PySem PySem.Spec L2 B
/-! ## the joint rule, plainly -/
def jz (t : Nat) (k m : List Int) : List Int := List.zipWith (fun a b => a * (t : Int) + b) k m
def JR (t : Nat) (L M : List (List Int)) : List (List Int) := L.flatMap fun k => M.map (jz t k)
def JL (t : Nat) (L M : List (List Int)) : List (List Int) := tset (JR t L M)
def dv (t : Nat) (x : List Int) : List Int := x.map fun y => y / (t : Int)
def md (t : Nat) (x : List Int) : List Int := x.map fun y => y % (t : Int)
section
variable {t : Nat} (ht : 1 ≤ t)
include ht
theorem jz_dv : ∀ {k m : List Int}, k.length = m.length → (∀ b ∈ m, 0 ≤ b ∧ b < (t : Int)) → dv t (jz t k m) = k
  | [], [], _, _ => rfl
  | [], _ :: _, h, _ => by cases h
  | _ :: _, [], h, _ => by cases h
  | a :: k, b :: m, h, hb => by
    obtain ⟨b0, b1⟩ := hb b List.mem_cons_self
    show (a * (t : Int) + b) / (t : Int) :: dv t (jz t k m) = _
    rw [jz_dv (Nat.succ.inj h) fun c hc => hb c (List.mem_cons_of_mem _ hc), Int.add_comm, Int.add_mul_ediv_right _ _ (by omega), Int.ediv_eq_zero_of_lt b0 b1, Int.zero_add]
theorem jz_md : ∀ {k m : List Int}, k.length = m.length → (∀ b ∈ m, 0 ≤ b ∧ b < (t : Int)) → md t (jz t k m) = m
  | [], [], _, _ => rfl
  | [], _ :: _, h, _ => by cases h
  | _ :: _, [], h, _ => by cases h
  | a :: k, b :: m, h, hb => by
    obtain ⟨b0, b1⟩ := hb b List.mem_cons_self
    show (a * (t : Int) + b) % (t : Int) :: md t (jz t k m) = _
    rw [jz_md (Nat.succ.inj h) fun c hc => hb c (List.mem_cons_of_mem _ hc), Int.add_comm, Int.add_mul_emod_self_right, Int.emod_eq_of_lt b0 b1]
omit ht in
theorem jz_back : ∀ x : List Int, jz t (dv t x) (md t x) = x
  | [] => rfl
  | y :: x => by
    show (y / (t : Int) * (t : Int) + y % (t : Int)) :: jz t (dv t x) (md t x) = _
    rw [jz_back x, Int.mul_comm, Int.mul_ediv_add_emod]
end
section
variable {s t w : Nat} {L M : List (List Int)}
theorem mem_JR (r : Rl s w L) (q : Rl t w M) {x : List Int} : x ∈ JR t L M ↔ dv t x ∈ L ∧ md t x ∈ M := by
  have ht := q.s1
  unfold JR
  rw [List.mem_flatMap]
  constructor
  · rintro ⟨k, hk, hx⟩
    obtain ⟨m, hm, rfl⟩ := List.mem_map.mp hx
    have hl : k.length = m.length := by rw [r.len k hk, q.len m hm]
    rw [jz_dv ht hl (q.dig m hm), jz_md ht hl (q.dig m hm)]
    exact ⟨hk, hm⟩
  · rintro ⟨h1, h2⟩
    exact ⟨_, h1, List.mem_map.mpr ⟨_, h2, jz_back x⟩⟩
theorem mem_JL (r : Rl s w L) (q : Rl t w M) {x : List Int} : x ∈ JL t L M ↔ dv t x ∈ L ∧ md t x ∈ M := by
  unfold JL
  rw [mem_tset, mem_JR r q]
theorem JR_nodup (r : Rl s w L) (q : Rl t w M) : (JR t L M).Nodup := by
  have ht := q.s1
  unfold JR
  rw [List.flatMap, List.Nodup, List.pairwise_flatten]
  refine ⟨fun l hl => ?_, ?_⟩
  · obtain ⟨k, hk, rfl⟩ := List.mem_map.mp hl
    rw [List.pairwise_map]
    refine (rise_nodup q.ris).imp_of_mem fun {a b} ha hb hab e => hab ?_
    have e1 := congrArg (md t) e
    rwa [jz_md ht (by rw [r.len k hk, q.len a ha]) (q.dig a ha), jz_md ht (by rw [r.len k hk, q.len b hb]) (q.dig b hb)] at e1
  · rw [List.pairwise_map]
    refine (rise_nodup r.ris).imp_of_mem fun {a b} ha hb hab x hx y hy e => hab ?_
    obtain ⟨m, hm, rfl⟩ := List.mem_map.mp hx
    obtain ⟨m', hm', rfl⟩ := List.mem_map.mp hy
    have e1 := congrArg (dv t) e
    rwa [jz_dv ht (by rw [r.len a ha, q.len m hm]) (q.dig m hm), jz_dv ht (by rw [r.len b hb, q.len m' hm']) (q.dig m' hm')] at e1
theorem JR_len : (JR t L M).length = L.length * M.length := by
  unfold JR
  rw [List.length_flatMap]
  have e : (L.map fun k => (M.map (jz t k)).length) = L.map fun _ => M.length := List.map_congr_left fun k _ => List.length_map ..
  rw [e, List.map_const', List.sum_replicate_nat]
theorem Rl.joint (r : Rl s w L) (q : Rl t w M) (h4 : s * t ≤ 4) (few : L.length * M.length < 400) : Rl (s * t) w (JL t L M) := by
  have ht := q.s1
  have hs := r.s1
  refine ⟨Nat.mul_le_mul hs ht, h4, r.w2, r.w4, fun k hk => ?_, fun k hk x hx => ?_, tset_sorted _, ?_⟩
  · have := r.len _ ((mem_JL r q).mp hk).1
    unfold dv at this
    rwa [List.length_map] at this
  · have h1 := r.dig _ ((mem_JL r q).mp hk).1 (x / (t : Int)) (List.mem_map.mpr ⟨x, hx, rfl⟩)
    have tp : (0 : Int) < t := by omega
    have e := Int.mul_ediv_add_emod x (t : Int)
    have m0 := Int.emod_nonneg x (show (t : Int) ≠ 0 by omega)
    have m1 := Int.emod_lt_of_pos x tp
    have a1 : (0 : Int) ≤ (t : Int) * (x / (t : Int)) := Int.mul_nonneg (by omega) h1.1
    have a2 : (t : Int) * (x / (t : Int) + 1) ≤ (t : Int) * (s : Int) := Int.mul_le_mul_of_nonneg_left (by omega) (by omega)
    rw [Int.mul_add, Int.mul_one] at a2
    have a3 : ((s * t : Nat) : Int) = (t : Int) * (s : Int) := by rw [Int.natCast_mul, Int.mul_comm]
    omega
  · have := tset_len (JR t L M)
    rw [JR_len] at this
    exact Nat.lt_of_le_of_lt this few
end
end RG


set_option Elab.async false
set_option linter.all false
set_option maxRecDepth 100000
set_option maxHeartbeats 4000000
namespace RG
open PySem PySem.Spec L2 B
def jD (t : Nat) (d : D) : D := match d with
  | .nd .tup [.int a, .int b] => .int (a * (t : Int) + b)
  | d => d
theorem jz_zip (t : Nat) : ∀ a b : List Int, (zipD (a.map D.int) (b.map D.int)).map (jD t) = (jz t a b).map D.int
  | [], _ => by simp [zipD, jz]
  | _ :: _, [] => by simp [zipD, jz]
  | x :: a, y :: b => by
    show jD t (.nd .tup [.int x, .int y]) :: (zipD (a.map D.int) (b.map D.int)).map (jD t) = _
    rw [jz_zip t a b]
    rfl
theorem zip_small {k m : List Int} {d : D} (h : d ∈ zipD (k.map D.int) (m.map D.int)) : ∃ x y, x ∈ k ∧ d = .nd .tup [.int x, .int y] := by
  induction k generalizing m with
  | nil => simp [zipD] at h
  | cons a k ih =>
    cases m with
    | nil => simp [zipD] at h
    | cons b m =>
      rcases List.mem_cons.mp (show d ∈ .nd .tup [.int a, .int b] :: zipD (k.map D.int) (m.map D.int) from h) with rfl | h
      · exact ⟨a, b, List.mem_cons_self, rfl⟩
      · obtain ⟨x, y, hx, e⟩ := ih h
        exact ⟨x, y, List.mem_cons_of_mem _ hx, e⟩
section
variable {s t w : Nat} {L M : List (List Int)}
theorem joint (r : Rl s w L) (q : Rl t w M) (h4 : s * t ≤ 4) (few : L.length * M.length < 400) {Q} {E} (h : Q (.fz (ruleD (s * t) w (JL t L M))) []) : FW (r_P_joint [ruleD s w L, ruleD t w M]) Q E := by
  unfold r_P_joint m_P_joint
  rw [FW_run]
  simp only [start0, par]
  have hs := r.s4
  have ht := q.s4
  have hw := r.w4
  have fw := r.few
  have fm := q.few
  have h4' : (s : Int) * (t : Int) ≤ 4 := by rw [← Int.natCast_mul]; exact Int.ofNat_le.mpr h4
  refine W_then (β1 := [.fz (ruleD s w L), .fz (ruleD t w M), .un, .un, .un, .un, .un]) ?_ ?_
  · simp
    rw [fld_wide, fld_wide]
    simp
    rw [fld_size, fld_size]
    simp
    exact ⟨mulOk_l (by omega) (by omega), by omega⟩
  refine W_then (β1 := [.fz (ruleD s w L), .fz (ruleD t w M), .own none (.nd .lst []), .un, .un, .un, .un]) (by simp) ?_
  refine W_cut (fun b => ∃ s3 s4, b = [.fz (ruleD s w L), .fz (ruleD t w M), .own none (.nd .lst ((JR t L M).map tupD)), s3, s4, .un, .un]) ?_ ?_
  · simp
    rw [fld_words]
    simp
    refine W_forL (fun j b => ∃ s3 s4, isOwn s3 = false ∧ isOwn s4 = false ∧ b = [.fz (ruleD s w L), .fz (ruleD t w M), .own none (.nd .lst (((L.take j).flatMap fun k => M.map (jz t k)).map tupD)), s3, s4, .un, .un]) ⟨.un, .un, rfl, rfl, by simp⟩ (fun j d b hd hI => ?_) fun b hI => ?_
    · obtain ⟨s3, s4, h3, h4, rfl⟩ := hI
      rw [List.getElem?_map] at hd
      obtain ⟨k, hk, rfl⟩ := Option.map_eq_some_iff.mp hd
      have hkL := List.mem_of_getElem? hk
      have hj := (List.getElem?_eq_some_iff.mp hk).1
      simp only [W_gSet]
      simp [h3]
      rw [fld_words]
      simp
      refine W_forL (fun i b => ∃ s4, isOwn s4 = false ∧ b = [.fz (ruleD s w L), .fz (ruleD t w M), .own none (.nd .lst ((((L.take j).flatMap fun k => M.map (jz t k)) ++ (M.take i).map (jz t k)).map tupD)), .fz (tupD k), s4, .un, .un]) ⟨s4, h4, by simp⟩ (fun i d b hd2 hI => ?_) fun b hI => ?_
      · obtain ⟨s4, h4, rfl⟩ := hI
        rw [List.getElem?_map] at hd2
        obtain ⟨m, hm, rfl⟩ := Option.map_eq_some_iff.mp hd2
        have hmM := List.mem_of_getElem? hm
        have hi := (List.getElem?_eq_some_iff.mp hm).1
        have lk := r.len k hkL
        have lm := q.len m hmM
        simp [h4]
        have ez : ∀ {Q : List D → B.Env → Prop} {β : B.Env} {E}, W (zipA [.d (tupD k), .d (tupD m)]) β Q E ↔ Q (zipD (k.map D.int) (m.map D.int)) β := fun {Q β E} => W_zipTT
        have zl : (zipD (k.map D.int) (m.map D.int)).length = (jz t k m).length := by rw [← List.length_map (f := jD t), jz_zip, List.length_map]
        have jl : (jz t k m).length ≤ 4 := by
          unfold jz
          rw [List.length_zipWith]
          omega
        refine ez.mpr ?_
        refine W_compF (fun _ => true) (jD t) (by rfl) (szlt (by omega)) (fun d hdd => ?_) ?_
        · obtain ⟨x, y, hx, rfl⟩ := zip_small hdd
          have bx := r.dig k hkL x hx
          simp [wipeB]
          rw [fld_size]
          simp
          exact ⟨mulOk_l (by omega) (by omega), rfl⟩
        · rw [List.filter_eq_self.mpr fun _ _ => rfl, jz_zip]
          show optW (gTuple [iL (jz t k m)]) _
          rw [tuple_iL]
          simp [wipeB, backB]
          refine ⟨?_, rfl, ?_⟩
          · rw [List.map_const', List.take_replicate, List.sum_replicate_nat, Nat.min_eq_left (by omega)]
            have : j * M.length ≤ 400 * 400 := Nat.mul_le_mul (by omega) (by omega)
            exact szlt (by omega)
          · rw [List.take_add_one, List.getElem?_map, hm]
            rfl
      · obtain ⟨s4, h4, rfl⟩ := hI
        refine ⟨.fz (tupD k), rfl, s4, h4, ?_⟩
        rw [List.length_map, List.take_length, List.take_add_one, hk, List.flatMap_append]
        simp
    · obtain ⟨s3, s4, h3, h4, rfl⟩ := hI
      rw [List.length_map, List.take_length]
      exact ⟨rfl, s3, s4, rfl⟩
  · rintro b ⟨s3, s4, rfl⟩
    simp
    rw [fld_size, fld_size, fld_wide]
    simp
    refine ⟨mulOk_l (by omega) (by omega), ?_⟩
    refine (sort_W (fun k hk => ?_) (JR_nodup r q)).mpr ?_
    · have h1 := r.ne _ ((mem_JR r q).mp hk).1
      intro e
      rw [e] at h1
      exact h1 rfl
    · have rj := r.joint q h4 few
      have e : (s : Int) * (t : Int) = ((s * t : Nat) : Int) := (Int.natCast_mul s t).symm
      rw [e]
      refine rule_init rj ?_
      simp
      exact h
end
end RG


set_option Elab.async false
set_option linter.all false
set_option maxRecDepth 100000
set_option maxHeartbeats 4000000
namespace RG
open PySem PySem.Spec L2 B
/-! ## things that are no whole numbers -/
theorem W_if_no {mt : M Bool} {a b : M Fl} {β : B.Env} {Q : Fl → B.Env → Prop} {E : Exn → B.Env → Prop} (h : W mt β (fun k β1 => k = false ∧ β1 = β) E) (kb : W b β Q E) : W (mIfS mt a b) β Q E :=
  W_ifS.mpr (h.mono (fun k β1 ⟨e1, e2⟩ => by
    subst e1
    subst e2
    exact kb) fun _ _ h => h)
/-- sizes to four -/
def S4 (z w : Nat) : Prop := (z = 1 ∨ z = 2 ∨ z = 3 ∨ z = 4) ∧ (w = 2 ∨ w = 3 ∨ (w = 4 ∧ z < 3))
theorem S4.few {z w : Nat} (h : S4 z w) : z ^ w ≤ 64 := by
  obtain ⟨rfl | rfl | rfl | rfl, rfl | rfl | ⟨rfl, h⟩⟩ := h <;> first | decide | omega
theorem rl_sub4 {z w : Nat} (h : S4 z w) {L : List (List Int)} (sub : L.Sublist (lists z w)) : Rl z w L := by
  have few := h.few
  obtain ⟨h1, h2⟩ := h
  refine ⟨by omega, by omega, by omega, by omega, fun k hk => (mem_lists.mp (sub.subset hk)).1, fun k hk => (mem_lists.mp (sub.subset hk)).2, (lists_rise z w).sublist sub, ?_⟩
  have := sub.length_le
  rw [lists_len] at this
  omega
end RG


set_option Elab.async false
set_option linter.all false
set_option maxRecDepth 100000
set_option maxHeartbeats 4000000
namespace RK
open PySem PySem.Spec L2 B
open RG hiding m_L_parts r_L_parts m_L_draw r_L_draw m_L_one r_L_one m_L_lists r_L_lists m_L_fits r_L_fits m_L_well r_L_well
noncomputable def m_L_digit : M Fl :=
  seqF (mIfS (asB (mOp gEq (mP (mCall gLen (mCons (mPl 0) (mNil)))) (mP (mC (.int 1))))) (seqF (mSet 3 (mOp gIx (mPl 0) (mP (mC (.int 0)))))
  (seqF (mSetIx 0 (mOp gIx (mP (mLst (mCons (mP (mC (.int 0))) (mCons (mP (mVar 3)) (mNil))))) (mP (mCall gInt (mCons (mP (mOp gGe (mPl 3) (mP (mOp gPow (mP (mC (.int 10))) (mP (mC (.int 18))))))) (mNil))))) (mC (.int 0)))
  (mExpr (mMut "list" 0 gExtend (mCons (mP (mLst (mCons (mP (mOp gMod (mPl 3) (mP (mC (.int 2147483647))))) (mCons (mP (mC (.int 0))) (mNil))))) (mNil)))))) (ret .nx))
  (seqF (mIfS (asB (mOp gGtX (mP (mOp gIx (mPl 0) (mP (mC (.int 0))))) (mP (mC (.int 0))))) (seqF (mSet 4 (mOp gMod (mP (mOp gIx (mPl 0) (mP (mC (.int 0))))) (mPl 1)))
  (seqF (mSetIx 0 (mOp gFdiv (mP (mOp gIx (mPl 0) (mP (mC (.int 0))))) (mPl 1)) (mC (.int 0)))
  (mRetVar 4))) (ret .nx))
  (seqF (mSetIx 0 (mOp gAdd (mP (mOp gIx (mPl 0) (mP (mC (.int 2))))) (mP (mC (.int 1)))) (mC (.int 2)))
  (seqF (mSet 2 (mOp gMod (mP (mOp gMul (mP (mOp gAdd (mP (mOp gAdd (mP (mOp gIx (mPl 0) (mP (mC (.int 1))))) (mP (mOp gMul (mP (mC (.int 7919))) (mP (mOp gIx (mPl 0) (mP (mC (.int 2))))))))) (mP (mC (.int 1))))) (mP (mC (.int 48271))))) (mP (mC (.int 2147483647)))))
  (seqF (mSet 2 (mOp gMod (mP (mOp gMul (mPl 2) (mP (mOp gAdd (mP (mOp gFdiv (mPl 2) (mP (mC (.int 1009))))) (mP (mC (.int 69621))))))) (mP (mC (.int 2147483647)))))
  (mRet (mOp gMod (mP (mOp gMod (mP (mOp gMul (mPl 2) (mP (mOp gAdd (mP (mOp gFdiv (mPl 2) (mP (mC (.int 2003))))) (mP (mC (.int 40692))))))) (mP (mC (.int 2147483399))))) (mPl 1)))))))
noncomputable def r_L_digit : List D → FR := runB [true, false] 5 m_L_digit
noncomputable def m_L_all : M Fl :=
  seqF (mSet 2 (mLst (mCons (mP (mTup (mNil))) (mNil))))
  (seqF (mFor (bnd (mCons (mPl 1) (mNil)) rngA) (gSet 3) (seqF (mSet 4 (mLst (mNil)))
  (seqF (mFor (mIter (mVar 2)) (gSet 5) (mSet 4 (mOp gAdd (mPl 4) (mP (mComp [6] (bnd (mCons (mPl 0) (mNil)) rngA) (gSet 6) (mYes) (mOp gAdd (mPl 5) (mP (mTup (mCons (mP (mVar 6)) (mNil))))))))))
  (mSet 2 (mMv 4)))))
  (mRetVar 2))
noncomputable def r_L_all : List D → FR := runB [false, false] 7 m_L_all
noncomputable def m_L_windows : M Fl :=
  seqF (mSet 2 (mLst (mNil)))
  (seqF (mFor (mIter (mVar 0)) (gSet 3) (mFor (bnd (mCons (mP (mCall gLen (mCons (mPl 3) (mNil)))) (mNil)) rngA) (gSet 4) (mExpr (mMut "list" 2 gAppend (mCons (mP (mCall gTuple (mCons (mP (mComp [5] (bnd (mCons (mPl 1) (mNil)) rngA) (gSet 5) (mYes) (mOp gIx (mPl 3) (mP (mOp gMod (mP (mOp gAdd (mPl 4) (mPl 5))) (mP (mCall gLen (mCons (mPl 3) (mNil))))))))) (mNil)))) (mNil))))))
  (mRet (mUn gSortSetG (mPl 2))))
noncomputable def r_L_windows : List D → FR := runB [false, false] 6 m_L_windows
noncomputable def m_L_of_rings : M Fl :=
  seqF (mIfS (asB (mOp gEq (mP (mCallF [true, false] r_L_digit (mCons (mPl 0) (mCons (mP (mC (.int 2))) (mNil))))) (mP (mC (.int 0))))) (seqF (mSet 2 (mLst (mCons (mP (mLst (mCons (mP (mC (.int 0))) (mCons (mP (mC (.int 1))) (mNil))))) (mCons (mP (mLst (mCons (mP (mC (.int 0))) (mCons (mP (mC (.int 0))) (mCons (mP (mC (.int 2))) (mNil)))))) (mCons (mP (mLst (mCons (mP (mC (.int 0))) (mCons (mP (mC (.int 0))) (mCons (mP (mC (.int 2))) (mCons (mP (mC (.int 2))) (mNil))))))) (mCons (mP (mLst (mCons (mP (mC (.int 1))) (mCons (mP (mC (.int 2))) (mNil))))) (mCons (mP (mLst (mCons (mP (mC (.int 0))) (mCons (mP (mC (.int 1))) (mCons (mP (mC (.int 2))) (mNil)))))) (mCons (mP (mLst (mCons (mP (mC (.int 1))) (mCons (mP (mC (.int 1))) (mCons (mP (mC (.int 2))) (mNil)))))) (mCons (mP (mLst (mCons (mP (mC (.int 0))) (mCons (mP (mC (.int 0))) (mCons (mP (mC (.int 1))) (mCons (mP (mC (.int 1))) (mCons (mP (mC (.int 2))) (mNil)))))))) (mNil))))))))))
  (seqF (mExpr (mMut "list" 2 gAppend (mCons (mP (mLst (mCons (mP (mC (.int 0))) (mCons (mP (mC (.int 0))) (mCons (mP (mC (.int 1))) (mCons (mP (mC (.int 0))) (mCons (mP (mC (.int 2))) (mCons (mP (mC (.int 1))) (mCons (mP (mC (.int 1))) (mCons (mP (mC (.int 2))) (mCons (mP (mC (.int 2))) (mNil)))))))))))) (mNil))))
  (mSet 3 (mTup (mCons (mP (mC (.int 3))) (mCons (mP (mC (.int 3))) (mNil))))))) (seqF (mSet 2 (mLst (mCons (mP (mLst (mCons (mP (mC (.int 0))) (mCons (mP (mC (.int 1))) (mNil))))) (mCons (mP (mLst (mCons (mP (mC (.int 0))) (mCons (mP (mC (.int 0))) (mCons (mP (mC (.int 0))) (mCons (mP (mC (.int 1))) (mCons (mP (mC (.int 1))) (mNil)))))))) (mCons (mP (mLst (mCons (mP (mC (.int 0))) (mCons (mP (mC (.int 0))) (mCons (mP (mC (.int 1))) (mNil)))))) (mCons (mP (mLst (mCons (mP (mC (.int 0))) (mCons (mP (mC (.int 1))) (mCons (mP (mC (.int 1))) (mNil)))))) (mCons (mP (mLst (mCons (mP (mC (.int 0))) (mCons (mP (mC (.int 0))) (mCons (mP (mC (.int 1))) (mCons (mP (mC (.int 1))) (mNil))))))) (mCons (mP (mLst (mCons (mP (mC (.int 0))) (mCons (mP (mC (.int 0))) (mCons (mP (mC (.int 0))) (mCons (mP (mC (.int 1))) (mNil))))))) (mNil)))))))))
  (seqF (mExpr (mMut "list" 2 gAppend (mCons (mP (mLst (mCons (mP (mC (.int 0))) (mCons (mP (mC (.int 0))) (mCons (mP (mC (.int 0))) (mCons (mP (mC (.int 1))) (mCons (mP (mC (.int 0))) (mCons (mP (mC (.int 1))) (mCons (mP (mC (.int 1))) (mCons (mP (mC (.int 1))) (mNil))))))))))) (mNil))))
  (mSet 3 (mTup (mCons (mP (mC (.int 2))) (mCons (mP (mC (.int 4))) (mNil))))))))
  (seqF (mSet 1 (mComp [4] (bnd (mCons (mP (mOp gAdd (mP (mC (.int 2))) (mP (mCallF [true, false] r_L_digit (mCons (mPl 0) (mCons (mP (mC (.int 2))) (mNil))))))) (mNil)) rngA) (gSet 4) (mYes) (mOp gIx (mPl 2) (mP (mCallF [true, false] r_L_digit (mCons (mPl 0) (mCons (mP (mCall gLen (mCons (mPl 2) (mNil)))) (mNil))))))))
  (mRet (mOp gAdd (mPl 3) (mP (mTup (mCons (mP (mCallF [false, false] r_L_windows (mCons (mP (mVar 1)) (mCons (mP (mOp gIx (mPl 3) (mP (mC (.int 1))))) (mNil))))) (mNil)))))))
noncomputable def r_L_of_rings : List D → FR := runB [true] 5 m_L_of_rings
noncomputable def m_L_parts : M Fl :=
  seqF (mIfS (asB (mOp gEq (mP (mCallF [true, false] r_L_digit (mCons (mPl 0) (mCons (mP (mC (.int 4))) (mNil))))) (mP (mC (.int 0))))) (mRet (mCallF [true] r_L_of_rings (mCons (mPl 0) (mNil)))) (ret .nx))
  (seqF (mSet 1 (mOp gIx (mP (mLst (mCons (mP (mC (.int 2))) (mCons (mP (mC (.int 2))) (mCons (mP (mC (.int 3))) (mCons (mP (mC (.int 3))) (mCons (mP (mC (.int 4))) (mNil)))))))) (mP (mCallF [true, false] r_L_digit (mCons (mPl 0) (mCons (mP (mC (.int 5))) (mNil)))))))
  (seqF (mSet 2 (mOp gAdd (mP (mC (.int 1))) (mP (mCallF [true, false] r_L_digit (mCons (mPl 0) (mCons (mP (mOp gIx (mP (mLst (mCons (mP (mC (.int 4))) (mCons (mP (mC (.int 3))) (mCons (mP (mC (.int 2))) (mNil)))))) (mP (mOp gSub (mPl 1) (mP (mC (.int 2))))))) (mNil)))))))
  (seqF (mSet 3 (mCallF [false, false] r_L_all (mCons (mP (mVar 2)) (mCons (mP (mVar 1)) (mNil)))))
  (seqF (mSet 4 (mCallF [true, false] r_L_digit (mCons (mPl 0) (mCons (mP (mC (.int 8))) (mNil)))))
  (seqF (mIfS (asB (mOp gEq (mPl 4) (mP (mC (.int 0))))) (mRet (mTup (mCons (mP (mVar 2)) (mCons (mP (mVar 1)) (mCons (mP (mComp [6] (mIter (mVar 3)) (gSet 6) (asB (mOp gGtX (mP (mSl (mPl 6) (mPart (mC (.int 1))) (mNoPart))) (mP (mSl (mPl 6) (mNoPart) (mPart (mUn gNeg (mP (mC (.int 1))))))))) (mVar 6))) (mNil)))))) (ret .nx))
  (seqF (mIfS (asB (mOp gEq (mPl 4) (mP (mC (.int 1))))) (mRet (mTup (mCons (mP (mVar 2)) (mCons (mP (mVar 1)) (mCons (mP (mComp [6] (mIter (mVar 3)) (gSet 6) (asB (mOp gNe (mP (mOp gIx (mPl 6) (mP (mC (.int 0))))) (mP (mOp gIx (mPl 6) (mP (mC (.int 1))))))) (mVar 6))) (mNil)))))) (ret .nx))
  (seqF (mIfS (asB (mOp gEq (mPl 4) (mP (mC (.int 2))))) (mRet (mTup (mCons (mP (mC (.int 2))) (mCons (mP (mC (.int 3))) (mCons (mP (mLst (mCons (mP (mTup (mCons (mP (mC (.int 0))) (mCons (mP (mC (.int 0))) (mCons (mP (mC (.int 1))) (mNil)))))) (mCons (mP (mTup (mCons (mP (mC (.int 0))) (mCons (mP (mC (.int 1))) (mCons (mP (mC (.int 0))) (mNil)))))) (mCons (mP (mTup (mCons (mP (mC (.int 1))) (mCons (mP (mC (.int 0))) (mCons (mP (mC (.int 0))) (mNil)))))) (mCons (mP (mTup (mCons (mP (mC (.int 1))) (mCons (mP (mC (.int 0))) (mCons (mP (mC (.int 1))) (mNil)))))) (mNil))))))) (mNil)))))) (ret .nx))
  (seqF (mIfS (asB (mOp gEq (mPl 4) (mP (mC (.int 3))))) (mRet (mTup (mCons (mP (mC (.int 2))) (mCons (mP (mC (.int 2))) (mCons (mP (mLst (mCons (mP (mTup (mCons (mP (mC (.int 0))) (mCons (mP (mC (.int 1))) (mNil))))) (mCons (mP (mTup (mCons (mP (mC (.int 1))) (mCons (mP (mC (.int 0))) (mNil))))) (mNil))))) (mNil)))))) (ret .nx))
  (seqF (mSet 5 (mOp gAdd (mP (mC (.int 1))) (mP (mCallF [true, false] r_L_digit (mCons (mPl 0) (mCons (mP (mC (.int 4))) (mNil)))))))
  (seqF (mSet 3 (mComp [6] (mIter (mVar 3)) (gSet 6) (asB (mOp gLtX (mP (mCallF [true, false] r_L_digit (mCons (mPl 0) (mCons (mP (mC (.int 5))) (mNil))))) (mPl 5))) (mVar 6)))
  (seqF (mIfS (asB (mOp gLtX (mPl 4) (mP (mC (.int 6))))) (mSet 3 (mComp [6] (mIter (mVar 3)) (gSet 6) (asB (mOp gNe (mPl 6) (mP (mOp gMul (mP (mSl (mPl 6) (mNoPart) (mPart (mC (.int 1))))) (mPl 1))))) (mVar 6))) (ret .nx))
  (mRet (mTup (mCons (mP (mVar 2)) (mCons (mP (mVar 1)) (mCons (mP (mVar 3)) (mNil)))))))))))))))))
noncomputable def r_L_parts : List D → FR := runB [true] 7 m_L_parts
end RK


set_option Elab.async false
set_option linter.all false
set_option maxRecDepth 100000
set_option maxHeartbeats 4000000
namespace RK
open PySem PySem.Spec L2 B
open RG hiding m_L_parts r_L_parts m_L_draw r_L_draw m_L_one r_L_one m_L_lists r_L_lists m_L_fits r_L_fits m_L_well r_L_well St draw one well mixd
/-! ## draws -/
def St (d : D) : Prop := (∃ c : Int, d = .nd .lst [.int c]) ∨ ∃ a b c : Int, d = .nd .lst [.int a, .int b, .int c]
theorem mixed (x b : Int) (Q : Int → Prop) (hb : 0 < b) (h : ∀ v, 0 ≤ v → v < b → Q v) : mulOk x 48271 ∧ divOk 1009 ∧ mulOk (x * 48271 % 2147483647) (x * 48271 % 2147483647 / 1009 + 69621) ∧ divOk 2003 ∧
    mulOk (x * 48271 % 2147483647 * (x * 48271 % 2147483647 / 1009 + 69621) % 2147483647) (x * 48271 % 2147483647 * (x * 48271 % 2147483647 / 1009 + 69621) % 2147483647 / 2003 + 40692) ∧ 0 < b ∧
    Q (x * 48271 % 2147483647 * (x * 48271 % 2147483647 / 1009 + 69621) % 2147483647 * (x * 48271 % 2147483647 * (x * 48271 % 2147483647 / 1009 + 69621) % 2147483647 / 2003 + 40692) % 2147483399 % b) := by
  have p : (0 : Int) < 2147483647 := by decide
  refine ⟨mulOk_r (by decide) (by decide), divOk_of (by decide) (by decide), ?_⟩
  generalize e1 : x * 48271 % 2147483647 = y
  have y1 : 0 ≤ y := e1 ▸ m_pos p
  have y2 : y < 2147483647 := e1 ▸ m_lt p
  refine ⟨mulOk_l (by omega) (by omega), divOk_of (by decide) (by decide), ?_⟩
  generalize e2 : y * (y / 1009 + 69621) % 2147483647 = z
  have z1 : 0 ≤ z := e2 ▸ m_pos p
  have z2 : z < 2147483647 := e2 ▸ m_lt p
  exact ⟨mulOk_l (by omega) (by omega), hb, h _ (m_pos hb) (m_lt hb)⟩
theorem digit {s : D} (hs : St s) {b : Int} (hb : 0 < b) (hb2 : b < 2 ^ 62) {Q} {E} (h : ∀ v s, St s → 0 ≤ v → v < b → Q (.fz (.int v)) [s]) : FW (r_L_digit [s, .int b]) Q E := by
  unfold r_L_digit m_L_digit
  rw [FW_run]
  simp only [start0, par]
  refine W_cut (fun β => ∃ (a s1 s2 : Int) (sl : Sl), β = [.own (some 0) (.nd .lst [.int a, .int s1, .int s2]), .fz (.int b), .un, sl, .un]) ?_ ?_
  · rcases hs with ⟨c, rfl⟩ | ⟨a, s1, s2, rfl⟩
    · simp [start0, par, ixN]
      refine ⟨sz (by decide), powOk_of (by decide) (by decide) (by decide), ?_⟩
      by_cases hc : (1000000000000000000 : Int) ≤ c
      · simp [hc]
        exact ⟨sz (by decide), sz (by decide)⟩
      · simp [hc]
        exact ⟨sz (by decide), sz (by decide)⟩
    · simp
  rintro β ⟨a, s1, s2, sl, rfl⟩
  simp [ixN]
  split
  · exact ⟨hb, divOk_of hb (by omega), h _ _ (.inr ⟨_, _, _, rfl⟩) (m_pos hb) (m_lt hb)⟩
  · exact ⟨mulOk_l (by decide) (by decide), mixed _ b (fun v => Q (.fz (.int v)) _) hb fun v h1 h2 => h v _ (.inr ⟨_, _, _, rfl⟩) h1 h2⟩
/-- a draw as a natural number -/
theorem digitN {s : D} (hs : St s) {b : Nat} (hb : 0 < b) (hb2 : b < 2 ^ 62) {Q} {E} (h : ∀ (v : Nat) s, St s → v < b → Q (.fz (.int v)) [s]) : FW (r_L_digit [s, .int b]) Q E :=
  digit hs (by omega) (by omega) fun v s st h1 h2 => by
    obtain ⟨k, rfl⟩ := Int.eq_ofNat_of_zero_le h1
    exact h k s st (by omega)
/-! ## all words -/
theorem l_all {s n : Nat} (h : s ^ n ≤ 100000) (hs : 1 ≤ s) (hs2 : s ≤ 10) (hn : n ≤ 100) {Q} {E} (q : Q (.own (.nd .lst ((lists s n).map tupD))) []) : FW (r_L_all [.int s, .int n]) Q E := by
  unfold r_L_all m_L_all
  rw [FW_run]
  simp [start0, par]
  have grow : ∀ i, i ≤ n → s ^ i ≤ 100000 := fun i hi => Nat.le_trans (Nat.pow_le_pow_right hs hi) h
  refine ⟨sz (by decide), inR_iff.mpr (by omega), W_forL (fun i β => ∃ s3 s4 s5 s6, isOwn s3 = false ∧ isOwn s4 = false ∧ isOwn s5 = false ∧ isOwn s6 = false ∧ β = [.fz (.int s), .fz (.int n), .own none (.nd .lst ((lists s i).map tupD)), s3, s4, s5, s6]) ⟨_, _, _, _, rfl, rfl, rfl, rfl, rfl⟩ (fun i d β hd hI => ?_) fun β hI => ?_⟩
  · obtain ⟨s3, s4, s5, s6, h3, h4, h5, h6, rfl⟩ := hI
    obtain ⟨hi, rfl⟩ := rng_get hd
    simp
    refine W_forL (fun j β => ∃ s5, isOwn s5 = false ∧ β = [.fz (.int s), .fz (.int n), .fz (.nd .lst ((lists s i).map tupD)), .fz (.int i), .own none (.nd .lst ((((lists s i).take j).flatMap fun r => (List.range s).map fun x : Nat => r ++ [(x : Int)]).map tupD)), s5, s6]) ⟨s5, h5, by simp⟩ (fun j d β hd2 hI => ?_) fun β hI => ?_
    · obtain ⟨s5, h5, rfl⟩ := hI
      rw [List.getElem?_map] at hd2
      obtain ⟨row, hr, rfl⟩ := Option.map_eq_some_iff.mp hd2
      simp
      refine ⟨inR_iff.mpr (by omega), W_compF (fun _ => true) (fun d => .nd .tup (row.map D.int ++ [d])) (by cases s6 <;> first | rfl | cases h6) (by rw [rng_len]; exact szlt (by omega)) (fun d hd3 => ?_) ?_⟩
      · simp [wipeB]
        have hrl := (mem_lists.mp (List.mem_of_getElem? hr)).1
        refine ⟨sz (by decide), ?_⟩
        unfold tupD
        rw [w_catT]
        refine ⟨sz ?_, rfl⟩
        simp
        omega
      · simp [wipeB, backB]
        rw [rng0]
        have hj := (List.getElem?_eq_some_iff.mp hr).1
        have g := grow (i + 1) (by omega)
        rw [lists_len] at hj
        have m : (j + 1) * s ≤ s ^ i * s := Nat.mul_le_mul_right s hj
        rw [Nat.pow_succ] at g
        refine ⟨?_, rfl, ?_⟩
        · rw [List.map_const', List.take_replicate, List.sum_replicate_nat, lists_len, List.filter_eq_self.mpr fun _ _ => rfl, List.length_map, List.length_range, Nat.min_eq_left (by omega)]
          refine sz ?_
          rw [Nat.add_mul, Nat.one_mul] at m
          omega
        · rw [List.filter_eq_self.mpr fun _ _ => rfl, List.take_add_one, hr, List.flatMap_append, List.map_append]
          congr 1
          simp
          intro a _
          simp [tupD]
    · obtain ⟨s5, h5, rfl⟩ := hI
      simp
      exact ⟨_, rfl, .un, rfl, _, h5, _, h6, rfl, rfl, rfl, rfl, rfl⟩
  · obtain ⟨s3, s4, s5, s6, h3, h4, h5, h6, rfl⟩ := hI
    simp
    rw [rng_len]
    exact q
end RK


set_option Elab.async false
set_option linter.all false
set_option maxRecDepth 100000
set_option maxHeartbeats 4000000
namespace RK
open PySem PySem.Spec L2 B
open RG hiding m_L_parts r_L_parts m_L_draw r_L_draw m_L_one r_L_one m_L_lists r_L_lists m_L_fits r_L_fits m_L_well r_L_well St draw one well mixd
/-! ## windows of rings -/
def wins (w : Nat) (r : List Int) : List (List Int) := (List.range r.length).map fun k => win r k w
theorem l_windows {rs : List (List Int)} {w : Nat} (hw1 : 1 ≤ w) (hw : w ≤ 100) (hn : rs.length ≤ 20) (h0 : ∀ r ∈ rs, r ≠ []) (hr : ∀ r ∈ rs, r.length ≤ 9) {Q} {E}
    (q : Q (.own (wL (tset (rs.flatMap (wins w))))) []) : FW (r_L_windows [.nd .lst (rs.map iL), .int w]) Q E := by
  unfold r_L_windows m_L_windows
  rw [FW_run]
  simp only [start0, par]
  have tl : ∀ i, ((rs.take i).flatMap (wins w)).length ≤ 180 := fun i => by
    rw [List.length_flatMap]
    have : ∀ (l : List (List Int)), (∀ r ∈ l, r.length ≤ 9) → (l.map fun r => (wins w r).length).sum ≤ 9 * l.length := by
      intro l
      induction l with
      | nil => intro _; simp
      | cons a l ih =>
        intro h
        have h1 := h a List.mem_cons_self
        have h2 := ih fun r hr => h r (List.mem_cons_of_mem _ hr)
        simp only [List.map_cons, List.sum_cons, List.length_cons]
        unfold wins at *
        simp only [List.length_map, List.length_range] at *
        omega
    have h2 := this (rs.take i) fun r h => hr r (List.mem_of_mem_take h)
    have h3 := List.length_take_le i rs
    have h4 : (rs.take i).length ≤ rs.length := by rw [List.length_take]; omega
    omega
  simp
  refine W_forL (fun i β => ∃ s3 s4 s5, isOwn s5 = false ∧ β = [.fz (.nd .lst (rs.map iL)), .fz (.int w), .own none (.nd .lst (((rs.take i).flatMap (wins w)).map tupD)), s3, s4, s5]) ⟨.un, .un, .un, rfl, by simp⟩ (fun i d β hd hI => ?_) fun β hI => ?_
  · obtain ⟨s3, s4, s5, h5, rfl⟩ := hI
    rw [List.getElem?_map] at hd
    obtain ⟨r, hri, rfl⟩ := Option.map_eq_some_iff.mp hd
    have hm := List.mem_of_getElem? hri
    have hlen : 0 < r.length := List.length_pos_iff.mpr (h0 r hm)
    have hr9 := hr r hm
    simp
    refine ⟨inR_iff.mpr (by omega), W_forL (fun j β => ∃ s4 s5, isOwn s5 = false ∧ β = [.fz (.nd .lst (rs.map iL)), .fz (.int w), .own none (.nd .lst (((rs.take i).flatMap (wins w) ++ (wins w r).take j).map tupD)), .fz (iL r), s4, s5]) ⟨s4, s5, h5, by simp⟩ (fun j d β hd2 hI => ?_) fun β hI => ?_⟩
    · obtain ⟨s4, s5, h5, rfl⟩ := hI
      obtain ⟨hj, rfl⟩ := rng_get hd2
      simp
      refine ⟨inR_iff.mpr (by omega), W_compF (fun _ => true) (fun d => .int (r.getD ((j + dN d) % r.length) 0)) (by cases s5 <;> first | rfl | cases h5) (by rw [rng_len]; exact szlt (by omega)) (fun d hd => ?_) ?_⟩
      · obtain ⟨k, hk⟩ := List.mem_iff_getElem?.mp hd
        obtain ⟨hk, rfl⟩ := rng_get hk
        simp [wipeB]
        have e : ((j : Int) + k) % r.length = (((j + k) % r.length : Nat) : Int) := by
          rw [Int.natCast_emod, Int.natCast_add]
        have hm := Nat.mod_lt (j + k) hlen
        rw [e, atI_nat', List.getElem?_map, List.getElem?_eq_getElem hm]
        simp [hm]
        exact hlen
      · have e0 : ((rng 0 (w : Int)).filter fun _ => true).map (fun d => D.int (r.getD ((j + dN d) % r.length) 0)) = (win r j w).map D.int := by
          rw [List.filter_eq_self.mpr fun _ _ => rfl, rng0]
          unfold win
          rw [List.map_map, List.map_map]
          apply List.map_congr_left
          intro k _
          simp
        rw [e0]
        show optW (gTuple [iL (win r j w)]) _
        rw [tuple_iL]
        simp [wipeB, backB]
        have t1 := tl (i + 1)
        rw [List.take_add_one, hri, List.flatMap_append, List.length_append] at t1
        simp at t1
        have ew : (wins w r).length = r.length := by unfold wins; simp
        refine ⟨szlt (by rw [ew] at t1 ⊢; omega), _, _, h5, ?_, rfl, rfl⟩
        have e2 : (wins w r)[j]? = some (win r j w) := by
          unfold wins
          rw [List.getElem?_map, List.getElem?_range hj]
          rfl
        rw [List.take_add_one, List.getElem?_map, e2]
        rfl
    · obtain ⟨s4, s5, h5, rfl⟩ := hI
      simp
      refine ⟨_, _, _, h5, ?_, rfl, rfl, rfl⟩
      rw [rng_len, List.take_of_length_le (l := List.map tupD (wins w r)) (by unfold wins; simp), List.take_add_one, hri, List.flatMap_append, List.map_append]
      simp
  · obtain ⟨s3, s4, s5, h5, rfl⟩ := hI
    simp
    rw [w_sortSetG]
    · exact q
    · have := tl rs.length
      rw [List.take_of_length_le (Nat.le_refl _)] at this
      omega
    · intro k hk e
      obtain ⟨r, _, hk⟩ := List.mem_flatMap.mp hk
      obtain ⟨j, _, rfl⟩ := List.mem_map.mp hk
      have := congrArg List.length e
      unfold win at this
      simp at this
      omega
end RK


set_option Elab.async false
set_option linter.all false
set_option maxRecDepth 100000
set_option maxHeartbeats 4000000
namespace RK
open PySem PySem.Spec L2 B
open RG hiding m_L_parts r_L_parts m_L_draw r_L_draw m_L_one r_L_one m_L_lists r_L_lists m_L_fits r_L_fits m_L_well r_L_well St draw one well mixd
/-- sizes of rules drawn -/
def S3 (z w : Nat) : Prop := 1 ≤ z ∧ ((w = 2 ∧ z ≤ 4) ∨ (w = 3 ∧ z ≤ 3) ∨ (w = 4 ∧ z ≤ 2))
theorem S3.s4 {z w : Nat} (h : S3 z w) : S4 z w := by
  unfold S3 at h
  unfold S4
  omega
theorem Rl_wins {z w : Nat} (h : S3 z w) {rs : List (List Int)} (hn : rs.length ≤ 3) (h0 : ∀ r ∈ rs, r ≠ [] ∧ r.length ≤ 9 ∧ ∀ x ∈ r, 0 ≤ x ∧ x < (z : Int)) : Rl z w (tset (rs.flatMap (wins w))) := by
  have mem : ∀ k ∈ tset (rs.flatMap (wins w)), ∃ r ∈ rs, ∃ j, k = win r j w := fun k hk => by
    rw [mem_tset] at hk
    obtain ⟨r, hr, hk⟩ := List.mem_flatMap.mp hk
    obtain ⟨j, _, rfl⟩ := List.mem_map.mp hk
    exact ⟨r, hr, j, rfl⟩
  have hh := h
  unfold S3 at hh
  refine ⟨by omega, by omega, by omega, by omega, fun k hk => ?_, fun k hk x hx => ?_, tset_sorted _, ?_⟩
  · obtain ⟨r, _, j, rfl⟩ := mem k hk
    unfold win
    simp
  · obtain ⟨r, hr, j, rfl⟩ := mem k hk
    unfold win at hx
    obtain ⟨i, _, rfl⟩ := List.mem_map.mp hx
    obtain ⟨a, b, c⟩ := h0 r hr
    have hl : 0 < r.length := List.length_pos_iff.mpr a
    have hm := Nat.mod_lt (j + i) hl
    rw [List.getD_eq_getElem?_getD, List.getElem?_eq_getElem hm]
    exact c _ (List.getElem_mem hm)
  · have e := tset_len (rs.flatMap (wins w))
    have : ∀ (l : List (List Int)), (∀ r ∈ l, r.length ≤ 9) → (l.flatMap (wins w)).length ≤ 9 * l.length := by
      intro l
      induction l with
      | nil => intro _; simp
      | cons a l ih =>
        intro h
        have h1 := h a List.mem_cons_self
        have h2 := ih fun r hr => h r (List.mem_cons_of_mem _ hr)
        rw [List.flatMap_cons, List.length_append]
        have e : (wins w a).length = a.length := by unfold wins; simp
        simp only [List.length_cons]
        omega
    have h2 := this rs fun r hr => (h0 r hr).2.1
    omega
def ss3 : List (List Int) := [[0, 1], [0, 0, 2], [0, 0, 2, 2], [1, 2], [0, 1, 2], [1, 1, 2], [0, 0, 1, 1, 2], [0, 0, 1, 0, 2, 1, 1, 2, 2]]
def ss2 : List (List Int) := [[0, 1], [0, 0, 0, 1, 1], [0, 0, 1], [0, 1, 1], [0, 0, 1, 1], [0, 0, 0, 1], [0, 0, 0, 1, 0, 1, 1, 1]]
theorem ss3_ok : ∀ r ∈ ss3, r ≠ [] ∧ r.length ≤ 9 ∧ ∀ x ∈ r, 0 ≤ x ∧ x < ((3 : Nat) : Int) := by decide
theorem ss2_ok : ∀ r ∈ ss2, r ≠ [] ∧ r.length ≤ 9 ∧ ∀ x ∈ r, 0 ≤ x ∧ x < ((2 : Nat) : Int) := by decide
theorem l_of_rings {s : D} (hs : St s) {Q} {E} (q : ∀ (z w : Nat) (L : List (List Int)) (s : D), S3 z w → Rl z w L → St s → Q (.fz (.nd .tup [.int (z : Nat), .int (w : Nat), wL L])) [s]) : FW (r_L_of_rings [s]) Q E := by
  unfold r_L_of_rings m_L_of_rings
  rw [FW_run]
  simp only [start0, par]
  refine W_cut (fun β => ∃ (s : D) (z w : Nat) (ss : List (List Int)), St s ∧ S3 z w ∧ ss ≠ [] ∧ ss.length ≤ 9 ∧ (∀ r ∈ ss, r ≠ [] ∧ r.length ≤ 9 ∧ ∀ x ∈ r, 0 ≤ x ∧ x < (z : Int)) ∧ β = [.own (some 0) s, .un, .own none (.nd .lst (ss.map iL)), .fz (.nd .tup [.int z, .int w]), .un]) ?_ ?_
  · simp
    refine digit hs (by decide) (by decide) fun v s hs v1 v2 => ?_
    simp [sizeLine_eq]
    split
    · exact ⟨s, hs, 3, 3, by unfold S3; decide, ss3, by decide, by decide, ss3_ok, rfl, rfl, rfl, rfl⟩
    · exact ⟨s, hs, 2, 4, by unfold S3; decide, ss2, by decide, by decide, ss2_ok, rfl, rfl, rfl, rfl⟩
  · rintro β ⟨s, z, w, ss, hs, hzw, hne, hl, ok, rfl⟩
    have hpos : 0 < ss.length := List.length_pos_iff.mpr hne
    have hh := hzw
    unfold S3 at hh
    refine W_cut (fun β => ∃ (s : D) (rs : List (List Int)), St s ∧ rs.length ≤ 3 ∧ (∀ r ∈ rs, r ∈ ss) ∧ β = [.own (some 0) s, .own none (.nd .lst (rs.map iL)), .own none (.nd .lst (ss.map iL)), .fz (.nd .tup [.int z, .int w]), .un]) ?_ ?_
    · simp
      refine digitN (b := 2) hs (by decide) (by decide) fun v s hs v2 => ?_
      simp
      have e1 : (2 : Int) + (v : Int) = ((2 + v : Nat) : Int) := by omega
      rw [e1]
      refine ⟨inR_iff.mpr (by omega), W_compV (fun i acc β => ∃ (s : D) (rs : List (List Int)), St s ∧ rs.length = i ∧ (∀ r ∈ rs, r ∈ ss) ∧ acc = rs.map iL ∧ β = [.own (some 0) s, .un, .own none (.nd .lst (ss.map iL)), .fz (.nd .tup [.int z, .int w]), .un]) rfl ⟨s, [], hs, rfl, by simp, rfl, rfl⟩ (fun i d acc β hd hI => ?_) fun acc β hI => ?_⟩
      · obtain ⟨s, rs, hs, hl2, hrs, rfl, rfl⟩ := hI
        simp
        refine digitN hs (by omega) (by omega) fun u s hs u2 => ?_
        simp
        rw [atI_nat', List.getElem?_map, List.getElem?_eq_getElem u2]
        simp
        have hi := (List.getElem?_eq_some_iff.mp hd).1
        rw [rng_len] at hi
        exact ⟨szlt (by omega), s, hs, rs ++ [ss[u]], by simp [hl2], fun r hr => (List.mem_append.mp hr).elim (hrs r) fun h => by rw [List.mem_singleton.mp h]; exact List.getElem_mem u2, by simp, rfl⟩
      · obtain ⟨s, rs, hs, hl2, hrs, rfl, rfl⟩ := hI
        simp [backB]
        rw [rng_len] at hl2
        exact ⟨s, hs, rs, by omega, hrs, rfl, rfl⟩
    · rintro β ⟨s, rs, hs, hl3, hrs, rfl⟩
      simp
      refine l_windows (by omega) (by omega) (by omega) (fun r hr => (ok r (hrs r hr)).1) (fun r hr => (ok r (hrs r hr)).2.1) ?_
      simp
      exact ⟨sz (by decide), sz (by decide), q _ _ _ _ hzw (Rl_wins hzw hl3 fun r hr => ok r (hrs r hr)) hs⟩
end RK


set_option Elab.async false
set_option linter.all false
set_option maxRecDepth 100000
set_option maxHeartbeats 4000000
namespace RK
open PySem PySem.Spec L2 B
open RG hiding m_L_parts r_L_parts m_L_draw r_L_draw m_L_one r_L_one m_L_lists r_L_lists m_L_fits r_L_fits m_L_well r_L_well St draw one well mixd
theorem w_gtT {a b : List Int} {P : Rs → Prop} : optW (gGtX (tupD a) (tupD b)) P ↔ P (.fz (.bl (decide (b < a)))) := by
  have e : gGtX (tupD a) (tupD b) = some (.fz (.bl (decide (b < a)))) := by
    show (if cmpOk (tupD a) (tupD b) = true then some (Rs.fz (.bl (PySem.W.dataLt (toPy (tupD b)) (toPy (tupD a))))) else none) = _
    rw [if_pos (cmp_W a b), toPy_W, toPy_W]
    unfold pW
    rw [PySem.W.dataLt_tuple]
    have e : PyProof.Rows.lexLt PyProof.Rows.itemOrd (PySem.W.keyToksAll (b.map PyData.int)) (PySem.W.keyToksAll (a.map PyData.int)) = decide (b < a) := PySem.W.dataLt_ints b a
    rw [e]
  rw [e]
  exact Iff.rfl
theorem w_neW {k l : List Int} {P : Rs → Prop} : optW (gNe (tupD k) (tupD l)) P ↔ P (.fz (.bl (!decide (k = l)))) := by
  unfold gNe
  rw [if_pos ⟨shp_W k, shp_W l⟩, eqv_W]
  exact Iff.rfl
theorem w_slW {lo hi : Option Int} {k : List Int} {P : Rs → Prop} : optW (gSl lo hi (tupD k)) P ↔ P (.fz (tupD (cut k lo hi))) := by
  show P (.fz (.nd .tup (cut (k.map D.int) lo hi))) ↔ _
  have e : cut (k.map D.int) lo hi = (cut k lo hi).map D.int := by
    unfold cut
    rw [List.length_map, List.map_take, List.map_drop]
  rw [e]
  rfl
/-- [x for x in words if ..], whatever is asked -/
theorem comp_sub {mt : M Bool} {M : List (List Int)} {v : Nat} {β0 : B.Env} {Q : Rs → B.Env → Prop} {E} (J : B.Env → Prop) (hm : M.length ≤ 1000)
    (hno : noOwn β0 [v] = true) (h0 : J (wipeB β0 [v]))
    (step : ∀ k ∈ M, ∀ β1, J β1 → W mt (β1.set v (.fz (tupD k))) (fun b β3 => J (wipeB β3 [v]) ∧ β3[v]? = some (.fz (tupD k))) noE)
    (fin : ∀ L β1, L.Sublist M → J β1 → Q (.own (wL L)) (backB β0 β1 [v])) : W (compV (gSet v) mt (mVar v) [v] (M.map tupD)) β0 Q E := by
  refine W_compV (fun i acc β => ∃ L, L.Sublist (M.take i) ∧ acc = L.map tupD ∧ J β) hno ⟨[], by simp, rfl, h0⟩ (fun i d acc β1 hd hI => ?_) fun acc β1 hI => ?_
  · obtain ⟨L, hL, rfl, hJ⟩ := hI
    rw [List.getElem?_map] at hd
    obtain ⟨k, hk, rfl⟩ := Option.map_eq_some_iff.mp hd
    rw [W_gSet]
    have hlen := hL.length_le
    have htl : (M.take i).length ≤ M.length := by rw [List.length_take]; omega
    have et : M.take (i + 1) = M.take i ++ [k] := by rw [List.take_add_one, hk]; rfl
    refine (step k (List.mem_of_getElem? hk) β1 hJ).mono (fun b β3 h => ?_) fun _ _ h => h
    cases b with
    | false =>
      rw [if_neg (by decide)]
      exact ⟨L, hL.trans (by rw [et]; exact List.sublist_append_left _ _), rfl, h.1⟩
    | true =>
      rw [if_pos rfl, W_mVar]
      obtain ⟨h1, h2⟩ := h
      rw [h2]
      refine ⟨by rw [List.length_map]; exact szlt (by omega), L ++ [k], ?_, by simp, h1⟩
      rw [et]
      exact hL.append (List.Sublist.refl _)
  · obtain ⟨L, hL, rfl, hJ⟩ := hI
    rw [List.length_map, List.take_of_length_le (Nat.le_refl _)] at hL
    exact fin L β1 hL hJ
theorem rl_words {z w : Nat} (h : S3 z w) {L : List (List Int)} (sub : L.Sublist (lists z w)) : Rl z w L := rl_sub4 h.s4 sub
theorem w_rep1 {a : Int} {k : List Int} {w : Nat} (h2 : 2 ≤ w) (h3 : w ≤ 1000) {P : Rs → Prop} : optW (gMul (tupD (cut (a :: k) none (some 1))) (.int w)) P ↔ P (.fz (tupD (List.replicate w a))) := by
  have e1 : cut (a :: k) none (some 1) = [a] := by
    rw [show (1 : Int) = ((1 : Nat) : Int) from rfl, cut_take]
    rfl
  rw [e1]
  have e2 : gMul (tupD [a]) (.int w) = some (.fz (tupD (List.replicate w a))) := by
    show (if [D.int a] ≠ [] ∧ (2 : Int) ≤ (w : Int) ∧ (w : Int) ≤ 1000 ∧ [D.int a].length ≤ 1000 then some (Rs.fz (.nd .tup (List.replicate (w : Int).toNat [D.int a]).flatten)) else none) = _
    rw [if_pos ⟨by simp, by omega, by omega, by simp⟩]
    unfold tupD
    simp
  rw [e2]
  rfl
/-- a statement that may end the def -/
theorem W_gd {c : M Bool} {a n : M Fl} {β : B.Env} {Q : Fl → B.Env → Prop} {E : Exn → B.Env → Prop} (R : B.Env → Prop) (h : W c β (fun k β1 => if k = true then W a β1 (fun f b => nxW f False (Q f b)) E else R β1) E) (k : ∀ b, R b → W n b Q E) : W (seqF (mIfS c a (B.ret .nx)) n) β Q E := by
  rw [W_seqF, W_ifS]
  refine h.mono (fun t b h => ?_) fun _ _ h => h
  cases t with
  | true =>
    rw [if_pos rfl] at h ⊢
    refine h.mono (fun f b h => ?_) fun _ _ h => h
    cases f with
    | nx => exact (show False from h).elim
    | _ => exact h
  | false =>
    rw [if_neg (by decide)] at h ⊢
    rw [W_ret]
    exact k b h
theorem l_parts {s : D} (hs : St s) {Q} {E} (q : ∀ (z w : Nat) (L : List (List Int)) (s : D), S3 z w → Rl z w L → St s → Q (.fz (.nd .tup [.int (z : Nat), .int (w : Nat), wL L])) [s]) : FW (r_L_parts [s]) Q E := by
  unfold r_L_parts m_L_parts
  rw [FW_run]
  simp only [start0, par]
  refine W_gd (fun β => ∃ s, St s ∧ β = [.own (some 0) s, .un, .un, .un, .un, .un, .un]) ?_ ?_
  · simp
    refine digit hs (by decide) (by decide) fun v s hs v1 v2 => ?_
    simp
    split
    · refine l_of_rings hs fun z w L s hzw r hs => ?_
      simp
      exact q z w L s hzw r hs
    · exact hs
  rintro β ⟨s, hs, rfl⟩
  refine W_cut (fun β => ∃ (s : D) (w : Nat), St s ∧ (w = 2 ∨ w = 3 ∨ w = 4) ∧ β = [.own (some 0) s, .fz (.int w), .un, .un, .un, .un, .un]) ?_ ?_
  · simp
    refine ⟨sz (by decide), digitN (b := 5) hs (by decide) (by decide) fun v s hs v2 => ?_⟩
    have hv : v = 0 ∨ v = 1 ∨ v = 2 ∨ v = 3 ∨ v = 4 := by omega
    rcases hv with rfl | rfl | rfl | rfl | rfl <;> simp [atI_nat']
    · exact hs
    · exact hs
    · exact hs
    · rw [show (3 : Int) = ((3 : Nat) : Int) from rfl, atI_nat']
      exact ⟨s, hs, .inr (.inl ⟨rfl, rfl⟩)⟩
    · rw [show (4 : Int) = ((4 : Nat) : Int) from rfl, atI_nat']
      exact ⟨s, hs, .inr (.inr ⟨rfl, rfl⟩)⟩
  rintro β ⟨s, w, hs, hw, rfl⟩
  refine W_cut (fun β => ∃ (s : D) (z : Nat), St s ∧ S3 z w ∧ β = [.own (some 0) s, .fz (.int w), .fz (.int z), .un, .un, .un, .un]) ?_ ?_
  · simp
    refine ⟨sz (by decide), ?_⟩
    have ok : ∀ (b : Nat), 0 < b → b < 5 → (∀ v, v < b → S3 (1 + v) w) → FW (r_L_digit [s, .int b]) (fun r ios =>
          ios.length = 1 ∧
            optW (gAdd (D.int 1) r.d) fun r =>
              ∃ s_1,
                St s_1 ∧
                  ∃ x,
                    S3 x w ∧
                      List.set (putIo [Sl.own (some 0) s, Sl.fz (D.int ↑w), Sl.un, Sl.un, Sl.un, Sl.un, Sl.un] [0] ios)
                          2 (slOf r) =
                        [Sl.own (some 0) s_1, Sl.fz (D.int ↑w), Sl.fz (D.int ↑x), Sl.un, Sl.un, Sl.un, Sl.un])
        fun x ios =>
        ios.length = 1 ∧
          optW (endIo [true] 0 (putIo [Sl.own (some 0) s, Sl.fz (D.int ↑w), Sl.un, Sl.un, Sl.un, Sl.un, Sl.un] [0] ios))
            (E x) := fun b b0 b5 hS => digitN hs b0 (by omega) fun v s hs hv => by
      simp
      exact ⟨s, hs, 1 + v, hS v hv, by simp⟩
    rcases hw with rfl | rfl | rfl
    · rw [show (((2 : Nat) : Int) - 2) = ((0 : Nat) : Int) from rfl, atI_nat']
      exact ok 4 (by decide) (by decide) fun v hv => by unfold S3; omega
    · rw [show (((3 : Nat) : Int) - 2) = ((1 : Nat) : Int) from rfl, atI_nat']
      exact ok 3 (by decide) (by decide) fun v hv => by unfold S3; omega
    · rw [show (((4 : Nat) : Int) - 2) = ((2 : Nat) : Int) from rfl, atI_nat']
      exact ok 2 (by decide) (by decide) fun v hv => by unfold S3; omega
  rintro β ⟨s, z, hs, hzw, rfl⟩
  have hh := hzw
  unfold S3 at hh
  have few := hzw.s4.few
  refine W_cut (fun β => β = [.own (some 0) s, .fz (.int w), .fz (.int z), .own none (.nd .lst ((lists z w).map tupD)), .un, .un, .un]) ?_ ?_
  · simp
    refine l_all (by omega) (by omega) (by omega) (by omega) ?_
    simp
  rintro β rfl
  refine W_cut (fun β => ∃ (s : D) (v : Nat), St s ∧ v < 8 ∧ β = [.own (some 0) s, .fz (.int w), .fz (.int z), .own none (.nd .lst ((lists z w).map tupD)), .fz (.int v), .un, .un]) ?_ ?_
  · simp
    refine digitN (b := 8) hs (by decide) (by decide) fun v s hs v2 => ?_
    simp
    exact ⟨s, hs, v, v2, rfl, rfl⟩
  rintro β ⟨s, v, hs, v8, rfl⟩
  have ll : (lists z w).length ≤ 1000 := by rw [lists_len]; omega
  refine W_gd (fun β => β = [.own (some 0) s, .fz (.int w), .fz (.int z), .own none (.nd .lst ((lists z w).map tupD)), .fz (.int v), .un, .un]) ?_ ?_
  · simp
    intro v0
    refine comp_sub (fun β => β = [.own (some 0) s, .fz (.int w), .fz (.int z), .fz (.nd .lst ((lists z w).map tupD)), .fz (.int v), .un, .un]) ll rfl rfl (fun k hk β1 e => ?_) fun L β1 hL e => ?_
    · subst e
      simp [w_slW, w_gtT, wipeB]
    · subst e
      simp [backB]
      exact ⟨sz (by decide), q _ _ _ _ hzw (rl_words hzw hL) hs⟩
  rintro β rfl
  refine W_gd (fun β => β = [.own (some 0) s, .fz (.int w), .fz (.int z), .own none (.nd .lst ((lists z w).map tupD)), .fz (.int v), .un, .un]) ?_ ?_
  · simp
    intro v0
    refine comp_sub (fun β => β = [.own (some 0) s, .fz (.int w), .fz (.int z), .fz (.nd .lst ((lists z w).map tupD)), .fz (.int v), .un, .un]) ll rfl rfl (fun k hk β1 e => ?_) fun L β1 hL e => ?_
    · subst e
      have hl := (mem_lists.mp hk).1
      obtain ⟨a, b, k', rfl⟩ : ∃ a b k', k = a :: b :: k' := by
        rcases k with _ | ⟨a, _ | ⟨b, k'⟩⟩
        · simp at hl; omega
        · simp at hl; omega
        · exact ⟨a, b, k', rfl⟩
      simp [wipeB, tupD]
    · subst e
      simp [backB]
      exact ⟨sz (by decide), q _ _ _ _ hzw (rl_words hzw hL) hs⟩
  rintro β rfl
  refine W_gd (fun β => β = [.own (some 0) s, .fz (.int w), .fz (.int z), .own none (.nd .lst ((lists z w).map tupD)), .fz (.int v), .un, .un]) ?_ ?_
  · simp
    intro v0
    exact ⟨sz (by decide), sz (by decide), sz (by decide), q 2 3 [[0, 0, 1], [0, 1, 0], [1, 0, 0], [1, 0, 1]] s (by unfold S3; omega) (rl_words (by unfold S3; omega) (by decide)) hs⟩
  rintro β rfl
  refine W_gd (fun β => β = [.own (some 0) s, .fz (.int w), .fz (.int z), .own none (.nd .lst ((lists z w).map tupD)), .fz (.int v), .un, .un]) ?_ ?_
  · simp
    intro v0
    exact ⟨sz (by decide), sz (by decide), q 2 2 [[0, 1], [1, 0]] s (by unfold S3; omega) (rl_words (by unfold S3; omega) (by decide)) hs⟩
  rintro β rfl
  refine W_cut (fun β => ∃ (s : D) (f : Nat), St s ∧ β = [.own (some 0) s, .fz (.int w), .fz (.int z), .own none (.nd .lst ((lists z w).map tupD)), .fz (.int v), .fz (.int f), .un]) ?_ ?_
  · simp
    refine digitN (b := 4) hs (by decide) (by decide) fun v s hs v2 => ?_
    simp
    exact ⟨s, hs, rfl, 1 + v, by omega⟩
  rintro β ⟨s, f, hs, rfl⟩
  refine W_cut (fun β => ∃ (s : D) (L : List (List Int)), St s ∧ L.Sublist (lists z w) ∧ β = [.own (some 0) s, .fz (.int w), .fz (.int z), .own none (.nd .lst (L.map tupD)), .fz (.int v), .fz (.int f), .un]) ?_ ?_
  · simp
    refine comp_sub (fun β => ∃ s, St s ∧ β = [.own (some 0) s, .fz (.int w), .fz (.int z), .fz (.nd .lst ((lists z w).map tupD)), .fz (.int v), .fz (.int f), .un]) ll rfl ⟨s, hs, rfl⟩ (fun k hk β1 e => ?_) fun L β1 hL e => ?_
    · obtain ⟨s, hs, rfl⟩ := e
      simp
      refine digitN (b := 5) hs (by decide) (by decide) fun v s hs v2 => ?_
      simp [wipeB]
      exact hs
    · obtain ⟨s, hs, rfl⟩ := e
      simp [backB]
      exact ⟨s, hs, L, hL, rfl, rfl⟩
  rintro β ⟨s, L, hs, hL, rfl⟩
  refine W_cut (fun β => ∃ (L : List (List Int)), L.Sublist (lists z w) ∧ β = [.own (some 0) s, .fz (.int w), .fz (.int z), .own none (.nd .lst (L.map tupD)), .fz (.int v), .fz (.int f), .un]) ?_ ?_
  · simp
    split
    · refine comp_sub (fun β => β = [.own (some 0) s, .fz (.int w), .fz (.int z), .fz (.nd .lst (L.map tupD)), .fz (.int v), .fz (.int f), .un]) (Nat.le_trans hL.length_le ll) rfl rfl (fun k hk β1 e => ?_) fun L' β1 hL' e => ?_
      · subst e
        have hl := (mem_lists.mp (hL.subset hk)).1
        obtain ⟨a, k', rfl⟩ : ∃ a k', k = a :: k' := by
          rcases k with _ | ⟨a, k'⟩
          · simp at hl; omega
          · exact ⟨a, k', rfl⟩
        simp [w_slW]
        rw [w_rep1 (by omega) (by omega)]
        refine w_neW.mpr ?_
        simp [wipeB]
      · subst e
        simp [backB]
        exact ⟨L', hL'.trans hL, rfl⟩
    · exact ⟨L, hL, rfl⟩
  rintro β ⟨L, hL, rfl⟩
  simp
  exact ⟨sz (by decide), q _ _ _ _ hzw (rl_words hzw hL) hs⟩
end RK


set_option Elab.async false
set_option linter.all false
set_option maxRecDepth 100000
set_option maxHeartbeats 4000000
namespace K01
open PySem PySem.Spec L2 B
open RG hiding m_L_parts r_L_parts m_L_draw r_L_draw m_L_one r_L_one m_L_lists r_L_lists m_L_fits r_L_fits m_L_well r_L_well
open RK
def topS (i : Nat) : Stmt := PySem.Challenge.pw_ringrules_k01_rules_told.main.body.getD i (.Pass ⟨0, 0, 0, 0⟩)
abbrev st_L_all : Stmt := topS 13
abbrev st_L_digit : Stmt := topS 12
abbrev st_L_windows : Stmt := topS 14
abbrev st_L_of_rings : Stmt := topS 15
abbrev st_L_parts : Stmt := topS 16
abbrev st_P_is_from : Stmt := topS 6
abbrev st_P_is_word : Stmt := topS 7
abbrev st_P_are_words : Stmt := topS 8
abbrev st_P_Rule_init : Stmt := inClass (topS 9) 0
abbrev st_L_cell_at : Stmt := topS 11
abbrev st_P_Rule_eq : Stmt := inClass (topS 9) 1
abbrev st_L_law : Stmt := topS 17
abbrev st_XNoRule : Stmt := inClass (topS 2) 0
noncomputable def m_P_are_words : M Fl :=
  seqF (mIfS (mOr (mNot (mTru (mP (mUn (gIsi "list") (mPl 0))))) (mNot (mTru (mP (mCall gAll (mCons (mP (mComp [3] (mIter (mVar 0)) (gSet 3) (mYes) (mCallF [false, false, false] r_P_is_word (mCons (mP (mVar 3)) (mCons (mP (mVar 1)) (mCons (mP (mVar 2)) (mNil))))))) (mNil))))))) (mRet (mC (.bl false))) (ret .nx))
  (mRet (mOp gEqS (mPl 0) (mP (mUn gSortSetS (mPl 0)))))
noncomputable def r_P_are_words : List D → FR := runB [false, false, false] 4 m_P_are_words
noncomputable def m_P_Rule_init : M Fl :=
  seqF (mIfS (mNot (mTru (mP (mCallF [false, false, false] r_P_is_from (mCons (mP (mVar 1)) (mCons (mP (mC (.int 1))) (mCons (mP (mC (.int 4))) (mNil)))))))) (mRaiseI "NoRule" "what" (mP (mC (.str "size")))) (ret .nx))
  (seqF (mIfS (mNot (mTru (mP (mCallF [false, false, false] r_P_is_from (mCons (mP (mVar 2)) (mCons (mP (mC (.int 2))) (mCons (mP (mC (.int 4))) (mNil)))))))) (mRaiseI "NoRule" "what" (mP (mC (.str "wide")))) (ret .nx))
  (seqF (mIfS (mNot (mTru (mP (mCallF [false, false, false] r_P_are_words (mCons (mP (mVar 3)) (mCons (mP (mVar 1)) (mCons (mP (mVar 2)) (mNil)))))))) (mRaiseI "NoRule" "what" (mP (mC (.str "words")))) (ret .nx))
  (seqF (mSetFld "Rule" "size" 0 (mVar 1))
  (seqF (mSetFld "Rule" "wide" 0 (mVar 2))
  (mSetFld "Rule" "words" 0 (mCall gListS (mCons (mPl 3) (mNil))))))))
noncomputable def r_P_Rule_init : List D → FR := runB [true, false, false, false] 4 m_P_Rule_init
noncomputable def m_P_Rule_eq : M Fl :=
  seqF (mIfS (mNot (mTru (mP (mUn (gIsiC "Rule") (mPl 1))))) (mRet (mC (.bl false))) (ret .nx))
  (mRet (mOp gEq (mP (mTup (mCons (mP (mUn (gFld "Rule" "size") (mPl 0))) (mCons (mP (mUn (gFld "Rule" "wide") (mPl 0))) (mCons (mP (mUn (gFld "Rule" "words") (mPl 0))) (mNil)))))) (mP (mTup (mCons (mP (mUn (gFld "Rule" "size") (mPl 1))) (mCons (mP (mUn (gFld "Rule" "wide") (mPl 1))) (mCons (mP (mUn (gFld "Rule" "words") (mPl 1))) (mNil))))))))
noncomputable def r_P_Rule_eq : List D → FR := runB [false, false] 2 m_P_Rule_eq
noncomputable def m_L_law : M Fl :=
  seqF (mFor (bnd (mCons (mP (mCall gMax2 (mCons (mP (mC (.int 1))) (mCons (mP (mCall gMin2 (mCons (mP (mC (.int 16))) (mCons (mP (mCall gLen (mCons (mPl 0) (mNil)))) (mNil))))) (mNil))))) (mNil)) rngA) (gSet 1) (seqF (mSet 2 (mLst (mCons (mP (mOp gAdd (mP (mCallF [false, false] r_L_cell_at (mCons (mP (mVar 0)) (mCons (mP (mVar 1)) (mNil))))) (mP (mOp gMul (mP (mC (.int 17))) (mPl 1))))) (mNil))))
  (seqF (mAsg (gUnp 3 (gsCons (gSet 6) (gsCons (gSet 7) (gsCons (gSet 8) (gsNil))))) (mCallF [true] r_L_parts (mCons (mPl 2) (mNil))))
  (seqF (mSet 3 (mCall gList (mCons (mPl 8) (mNil))))
  (mNew 4 (mNewE "words" "Rule" [3, 6, 7] (mMk "Rule" 3 r_P_Rule_init (mCons (mP (mVar 6)) (mCons (mP (mVar 7)) (mCons (mP (mVar 3)) (mNil)))))) (mNSet 5 4 (mMk "Rule" 3 r_P_Rule_init (mCons (mP (mVar 6)) (mCons (mP (mVar 7)) (mCons (mP (mCall gList (mCons (mPl 8) (mNil)))) (mNil))))) (mNIf 4 (mOr (asB (mOp (gOwnNe "Rule" r_P_Rule_eq) (mPl 4) (mPl 5))) (mOr (asB (mOp gNe (mP (mTup (mCons (mP (mUn (gFld "Rule" "size") (mPl 4))) (mCons (mP (mUn (gFld "Rule" "wide") (mPl 4))) (mCons (mP (mUn (gFld "Rule" "words") (mPl 4))) (mNil)))))) (mP (mTup (mCons (mP (mVar 6)) (mCons (mP (mVar 7)) (mCons (mP (mVar 8)) (mNil)))))))) (mNot (mTru (mP (mUn (gIsi "list") (mP (mUn (gFld "Rule" "words") (mPl 4))))))))) (mRet (mC (.bl false)))
  (mNExpr 4 (mMut "list" 3 gReverse mNil) (mNExpr 4 (mMut "list" 3 gAppend (mCons (mP (mC .non)) (mNil))) (mNIf 4 (asB (mOp gNe (mP (mUn (gFld "Rule" "words") (mPl 4))) (mPl 8))) (mRet (mC (.bl false)))
  (mNApp "words" (mTup (mCons (mP (mC (.int 9))) (mNil))) (seqF (mIfS (mOr (asB (mOp gNe (mP (mUn (gFld "Rule" "words") (mPl 5))) (mPl 8))) (asB (mOp (gOwnNe "Rule" r_P_Rule_eq) (mP (mMk "Rule" 3 r_P_Rule_init (mCons (mP (mVar 6)) (mCons (mP (mVar 7)) (mCons (mP (mVar 8)) (mNil)))))) (mPl 5)))) (mRet (mC (.bl false))) (ret .nx))
  (seqF (mIfS (asB (mOp (gInO "Rule" r_P_Rule_eq) (mPl 5) (mP (mLst (mCons (mP (mC .non)) (mCons (mP (mVar 8)) (mCons (mP (mTup (mCons (mP (mVar 6)) (mCons (mP (mVar 7)) (mCons (mP (mVar 8)) (mNil)))))) (mCons (mP (mVar 6)) (mNil))))))))) (mRet (mC (.bl false))) (ret .nx))
  (seqF (mIfS (mAnd (asB (mOp gLtX (mPl 6) (mP (mC (.int 4))))) (asB (mOp (gOwnEq "Rule" r_P_Rule_eq) (mP (mMk "Rule" 3 r_P_Rule_init (mCons (mP (mOp gAdd (mPl 6) (mP (mC (.int 1))))) (mCons (mP (mVar 7)) (mCons (mP (mCall gList (mCons (mPl 8) (mNil)))) (mNil)))))) (mPl 5)))) (mRet (mC (.bl false))) (ret .nx))
  (seqF (mIfS (mAnd (asB (mOp gNe (mPl 8) (mP (mLst (mNil))))) (asB (mOp (gOwnEq "Rule" r_P_Rule_eq) (mP (mMk "Rule" 3 r_P_Rule_init (mCons (mP (mVar 6)) (mCons (mP (mVar 7)) (mCons (mP (mSl (mPl 8) (mPart (mC (.int 1))) (mNoPart))) (mNil)))))) (mPl 5)))) (mRet (mC (.bl false))) (ret .nx))
  (mIfS (mAnd (asB (mOp gEq (mPl 8) (mP (mLst (mNil))))) (mAnd (asB (mOp gLtX (mPl 7) (mP (mC (.int 4))))) (asB (mOp (gOwnEq "Rule" r_P_Rule_eq) (mP (mMk "Rule" 3 r_P_Rule_init (mCons (mP (mVar 6)) (mCons (mP (mOp gAdd (mPl 7) (mP (mC (.int 1))))) (mCons (mP (mLst (mNil))) (mNil)))))) (mPl 5))))) (mRet (mC (.bl false))) (ret .nx)))))))))))))))))
  (mRet (mC (.bl true)))
noncomputable def r_L_law : List D → FR := runB [false] 9 m_L_law
end K01


set_option Elab.async false
set_option linter.all false
set_option maxRecDepth 100000
set_option maxHeartbeats 4000000
namespace K01
open PySem PySem.Spec L2 B
open RG hiding m_L_parts r_L_parts m_L_draw r_L_draw m_L_one r_L_one m_L_lists r_L_lists m_L_fits r_L_fits m_L_well r_L_well St draw one well mixd rule_init are_words
open RK
theorem visDs_W : ∀ L : List (List Int), visDs (L.map tupD) = true
  | [] => by simp [visDs]
  | k :: L => by
    have h : ∀ ns : List Int, visDs (ns.map D.int) = true := fun ns => by
      induction ns with
      | nil => simp [visDs]
      | cons n ns ih => simp [visDs, visD, ih]
    simp only [List.map_cons, visDs, visDs_W L, Bool.and_true]
    show visD (.nd .tup (k.map D.int)) = true
    simp [visD, h]
theorem rls_W : ∀ L : List (List Int), rls (L.map tupD) = L.map tupD
  | [] => by simp [rls]
  | k :: L => by
    have h : ∀ ns : List Int, rls (ns.map D.int) = ns.map D.int := fun ns => by
      induction ns with
      | nil => simp [rls]
      | cons n ns ih => simp [rls, rl, ih]
    simp only [List.map_cons, rls, rls_W L]
    congr 1
    show rl (.nd .tup (k.map D.int)) = _
    simp [rl, h]
    rfl
/-- a list of words, locked or not -/
def WX (x : D) (L : List (List Int)) : Prop := x = wL L ∨ x = .nd .scr (L.map tupD)
theorem isi_scr (ds : List D) : isiD "list" (.nd .scr ds) = some true := rfl
theorem w_eqS {x : D} {L : List (List Int)} (hx : WX x L) {P : Rs → Prop} : optW (gEqS x (wL L)) P ↔ P (.fz (.bl true)) := by
  have e : gEqS x (wL L) = gEq (wL L) (wL L) := by rcases hx with rfl | rfl <;> rfl
  rw [e, w_eqWL]
  simp
theorem w_sortS {s w : Nat} {L : List (List Int)} (r : Rl s w L) {x : D} (hx : WX x L) {P : Rs → Prop} : optW (gSortSetS x) P ↔ P (.own (wL L)) := by
  have e : gSortSetS x = gSortSetG (wL L) := by rcases hx with rfl | rfl <;> rfl
  rw [e, w_sortSetG (by have := r.few; omega) r.ne, tset_rising r.ris]
theorem are_words {s w : Nat} {L : List (List Int)} (r : Rl s w L) {x : D} (hx : WX x L) {Q} {E} (h : Q (.fz (.bl true)) []) : FW (r_P_are_words [x, .int s, .int w]) Q E := by
  unfold r_P_are_words m_P_are_words
  rw [FW_run]
  have h1 := @w_eqS x L hx
  have h2 := @w_sortS s w L r x hx
  rcases hx with rfl | rfl
  · simp [start0, par, w_isi (isi_lst_list _)]
    refine W_compF (fun _ => true) (fun _ => .bl true) (by rfl) (szlt (by have := r.few; simp; omega)) (fun d hd => ?_) ?_
    · obtain ⟨k, hk, rfl⟩ := List.mem_map.mp hd
      simp [wipeB]
      exact is_word (by rw [r.len k hk]) (by have := r.len k hk; have := r.w4; omega) (r.dig k hk) (by simp)
    · simp [wipeB, backB]
      rw [all_true]
      simp
      rw [h2]
      simp
      rw [h1]
      exact h
  · simp [start0, par, w_isi (isi_scr _)]
    refine W_compF (fun _ => true) (fun _ => .bl true) (by rfl) (szlt (by have := r.few; simp; omega)) (fun d hd => ?_) ?_
    · obtain ⟨k, hk, rfl⟩ := List.mem_map.mp hd
      simp [wipeB]
      exact is_word (by rw [r.len k hk]) (by have := r.len k hk; have := r.w4; omega) (r.dig k hk) (by simp)
    · simp [wipeB, backB]
      rw [all_true]
      simp
      rw [h2]
      simp
      rw [h1]
      exact h
theorem rule_init {s w : Nat} {L : List (List Int)} (r : Rl s w L) {x : D} (hx : WX x L) {Q} {E} (h : Q (.fz .non) [ruleD s w L]) : FW (r_P_Rule_init [insD "Rule" [], .int s, .int w, x]) Q E := by
  unfold r_P_Rule_init m_P_Rule_init
  rw [FW_run]
  simp only [start0, par]
  have h1 := r.s1
  have h2 := r.s4
  have h3 := r.w2
  have h4 := r.w4
  have e1 : (1 : Int) ≤ s ∧ (s : Int) ≤ 4 := by omega
  have e2 : (2 : Int) ≤ w ∧ (w : Int) ≤ 4 := by omega
  refine W_then (β1 := [.own (some 0) (insD "Rule" []), .fz (.int s), .fz (.int w), .fz x]) ?_ ?_
  · simp
    refine is_from _ _ _ ?_
    simp [e1]
  refine W_then (β1 := [.own (some 0) (insD "Rule" []), .fz (.int s), .fz (.int w), .fz x]) ?_ ?_
  · simp
    refine is_from _ _ _ ?_
    simp [e2]
  refine W_then (β1 := [.own (some 0) (insD "Rule" []), .fz (.int s), .fz (.int w), .fz x]) ?_ ?_
  · simp
    refine are_words r hx ?_
    simp
  refine W_then (β1 := [.own (some 0) (.nd (.ins "Rule" ["size"]) [.int s]), .fz (.int s), .fz (.int w), .fz x]) ?_ ?_
  · rw [W_mSetFld, W_mVar]
    exact ⟨⟨rfl, by decide⟩, rfl, by rw [← ins0]; rfl⟩
  refine W_then (β1 := [.own (some 0) (.nd (.ins "Rule" ["size", "wide"]) [.int s, .int w]), .fz (.int s), .fz (.int w), .fz x]) ?_ ?_
  · rw [W_mSetFld, W_mVar]
    exact ⟨⟨rfl, by decide⟩, rfl, by rw [← ins1]; rfl⟩
  rw [W_mSetFld]
  have hl : ∀ {P : Rs → Prop}, optW (gListS [x]) P ↔ P (.own (wL L)) := fun {P} => by
    rcases hx with rfl | rfl <;> exact Iff.rfl
  simp
  rw [hl]
  have e3 : insD "Rule" (putFD "words" (wL L) [("size", .int s), ("wide", .int w)]) = ruleD s w L := ins2
  simp
  rw [e3]
  exact h
theorem three_py (s w : Nat) (L : List (List Int)) : toPy (.nd .tup [.int s, .int w, wL L]) = .tuple [.int s, .int w, .list (L.map pW)] := by
  show PyData.tuple [.int s, .int w, .list (toPys (L.map tupD))] = _
  rw [toPys_W]
theorem shp_three (s w : Nat) (L : List (List Int)) : shp (.nd .tup [.int s, .int w, wL L]) = true := by
  unfold shp SeqAt.shaped
  rw [three_py]
  have := depth_W L
  simp [PyData.canLay0, PyData.canLayAll0, PyData.depth, PyData.depthAll, canLay_W]
  omega
theorem eqv_three (s w t v : Nat) (L M : List (List Int)) : eqv (.nd .tup [.int s, .int w, wL L]) (.nd .tup [.int t, .int v, wL M]) = decide (s = t ∧ w = v ∧ L = M) := by
  unfold eqv
  rw [three_py, three_py]
  simp only [PyData.eqv, PyData.eqvAll, eqvAll_W]
  by_cases h1 : s = t <;> by_cases h2 : w = v <;> by_cases h3 : L = M <;> simp [h1, h2, h3] <;> omega
abbrev thr (s w : Nat) (L : List (List Int)) : D := .nd .tup [.int s, .int w, wL L]
theorem rule_eq (s w t v : Nat) (L M : List (List Int)) {Q} {E} (q : Q (.fz (.bl (decide (s = t ∧ w = v ∧ L = M)))) []) : FW (r_P_Rule_eq [ruleD s w L, ruleD t v M]) Q E := by
  unfold r_P_Rule_eq m_P_Rule_eq
  rw [FW_run]
  simp only [start0, par]
  refine W_cut (fun β => β = [.fz (ruleD s w L), .fz (ruleD t v M)]) ?_ ?_
  · simp
    have e : gIsiC "Rule" (ruleD t v M) = some (.fz (.bl true)) := rfl
    rw [e]
    simp
  rintro β rfl
  simp
  rw [fld_size]
  simp
  rw [fld_wide]
  simp
  rw [fld_words]
  simp
  refine ⟨sz (by decide), ?_⟩
  rw [fld_size]
  simp
  rw [fld_wide]
  simp
  rw [fld_words]
  simp
  refine ⟨sz (by decide), ?_⟩
  have e : gEq (.nd .tup [.int s, .int w, wL L]) (.nd .tup [.int t, .int v, wL M]) = some (.fz (.bl (decide (s = t ∧ w = v ∧ L = M)))) := by
    unfold gEq
    rw [if_pos ⟨shp_three s w L, shp_three t v M⟩, eqv_three]
  rw [e]
  exact q
/-- what is no rule -/
theorem rule_eqNo (s w : Nat) (L : List (List Int)) {d : D} (hd : itOk d = true) : r_P_Rule_eq [ruleD s w L, d] = .ok (.fz (.bl false)) [] := by
  refine FW_is ?_
  unfold r_P_Rule_eq m_P_Rule_eq
  rw [FW_run]
  simp only [start0, par]
  have e : gIsiC "Rule" d = some (.fz (.bl false)) := by
    unfold itOk at hd
    split at hd
    · rfl
    · rfl
    · rfl
    · rfl
    · cases hd
  simp
  rw [e]
  simp
theorem w_ownNe (s w t v : Nat) (L M : List (List Int)) {P : Rs → Prop} : optW (gOwnNe "Rule" r_P_Rule_eq (ruleD s w L) (ruleD t v M)) P ↔ P (.fz (.bl (!decide (s = t ∧ w = v ∧ L = M)))) := by
  have e : r_P_Rule_eq [ruleD s w L, ruleD t v M] = .ok (.fz (.bl (decide (s = t ∧ w = v ∧ L = M)))) [] := FW_is (rule_eq s w t v L M (by simp))
  have e2 : gOwnNe "Rule" r_P_Rule_eq (ruleD s w L) (ruleD t v M) = some (.fz (.bl (!decide (s = t ∧ w = v ∧ L = M)))) := by
    unfold gOwnNe eqRun
    simp only
    rw [if_pos (by simp), e]
    rfl
  rw [e2]
  exact Iff.rfl
theorem w_ownEq (s w t v : Nat) (L M : List (List Int)) {P : Rs → Prop} : optW (gOwnEq "Rule" r_P_Rule_eq (ruleD s w L) (ruleD t v M)) P ↔ P (.fz (.bl (decide (s = t ∧ w = v ∧ L = M)))) := by
  have e : r_P_Rule_eq [ruleD s w L, ruleD t v M] = .ok (.fz (.bl (decide (s = t ∧ w = v ∧ L = M)))) [] := FW_is (rule_eq s w t v L M (by simp))
  have e2 : gOwnEq "Rule" r_P_Rule_eq (ruleD s w L) (ruleD t v M) = some (.fz (.bl (decide (s = t ∧ w = v ∧ L = M)))) := by
    unfold gOwnEq eqRun
    simp only
    rw [if_pos (by simp), e]
    rfl
  rw [e2]
  exact Iff.rfl
theorem w_inO (s w : Nat) (L : List (List Int)) {ds : List D} (h : ds.all itOk = true) {P : Rs → Prop} : optW (gInO "Rule" r_P_Rule_eq (ruleD s w L) (.nd .lst ds)) P ↔ P (.fz (.bl false)) := by
  have e : gInO "Rule" r_P_Rule_eq (ruleD s w L) (.nd .lst ds) = some (.fz (.bl false)) := by
    unfold gInO
    simp only
    rw [if_pos]
    refine ⟨trivial, List.all_eq_true.mpr fun y hy => ?_⟩
    have := List.all_eq_true.mp h y hy
    rw [this, rule_eqNo s w L this]
    rfl
  rw [e]
  exact Iff.rfl
theorem w_neThr {s w : Nat} {L : List (List Int)} {P : Rs → Prop} : optW (gNe (thr s w L) (thr s w L)) P ↔ P (.fz (.bl false)) := by
  unfold gNe
  rw [if_pos ⟨shp_three s w L, shp_three s w L⟩, eqv_three]
  simp [optW]
theorem w_neWL' {A B : List (List Int)} {P : Rs → Prop} : optW (gNe (wL A) (wL B)) P ↔ P (.fz (.bl (!decide (A = B)))) := by
  unfold gNe
  rw [if_pos ⟨shp_wL A, shp_wL B⟩, eqv_wL]
  exact Iff.rfl
end K01


set_option Elab.async false
set_option linter.all false
set_option maxRecDepth 100000
set_option maxHeartbeats 4000000
namespace K01
open PySem PySem.Spec L2 B
open RG hiding m_L_parts r_L_parts m_L_draw r_L_draw m_L_one r_L_one m_L_lists r_L_lists m_L_fits r_L_fits m_L_well r_L_well St draw one well mixd rule_init are_words
open RK
theorem cell_at {ns : List Int} {i : Nat} {Q} {E} (h : ∀ c : Int, Q (.fz (.int c)) []) : FW (r_L_cell_at [.nd .scr (ns.map D.int), .int i]) Q E := by
  unfold r_L_cell_at m_L_cell_at
  rw [FW_run]
  simp [start0, par]
  split
  · rename_i hp
    rw [atI_nat', List.getElem?_map, List.getElem?_eq_getElem (by omega)]
    simp
    exact h _
  · exact h 0
theorem has_rule (s w : Nat) (L : List (List Int)) : hasL "words" "Rule" (ruleD s w L) = true := rfl
theorem vis_rule (s w : Nat) (L : List (List Int)) : visD (ruleD s w L) = true := by
  show visDs [.int s, .int w, wL L] = true
  simp [visDs, visD, visDs_W]
theorem okLen_rule {s w : Nat} {L : List (List Int)} (h : L.length ≤ 900) : okLen "words" (ruleD s w L) = true := by
  show decide ((L.map tupD).length ≤ 900) = true
  simpa using h
section
variable {i j : Nat} {fn c : Str} {vis : List Nat} {me : M Rs} {mt : M Bool} {m n : M Fl} {kk : D → M Fl} {d : D} {β β2 : B.Env} {Q : Fl → B.Env → Prop} {E : Exn → B.Env → Prop}
theorem W_newC (h0 : okB vis β = true) (hl : i < β.length) (h : W me (visB vis β) (fun r _ => hasL fn c r.d = true ∧ visD r.d = true ∧ r.d = d) noE) (k : W (kk d) (β.set i .un) Q E) : W (mNew i (mNewE fn c vis me) kk) β Q E := by
  rw [W_mNew]
  refine W_mNewE h0 (h.mono (fun r _ ⟨h1, h2, h3⟩ => ⟨h1, h2, hl, by rw [h3]; exact k⟩) fun _ _ h => h)
theorem W_nsetC (h : W me β (fun r β1 => (j ≠ i ∧ unAt β1 i = true) ∧ β1.set j (slOf r) = β2) noE) (k : W (kk d) β2 Q E) : W (mNSet j i me kk d) β Q E :=
  W_mNSet (h.mono (fun r β1 ⟨h1, h2⟩ => ⟨h1, by rw [h2]; exact k⟩) fun _ _ h => h)
theorem W_nexprC (h : W me β (fun _ β1 => unAt β1 i = true ∧ β1 = β2) noE) (k : W (kk d) β2 Q E) : W (mNExpr i me kk d) β Q E :=
  W_mNExpr (h.mono (fun r β1 ⟨h1, h2⟩ => ⟨h1, by rw [h2]; exact k⟩) fun _ _ h => h)
theorem W_nifC (h : W mt ((hideB β).set i (.fz d)) (fun b _ => b = false) noE) (k : W (kk d) β Q E) : W (mNIf i mt m kk d) β Q E :=
  W_mNIf (h.mono (fun b _ e => by rw [e]; exact k) fun _ _ h => h)
theorem W_nappC (h0 : okLen fn d = true) (h : W me β (fun _ β1 => β1 = β2) noE) (k : W n β2 Q E) : W (mNApp fn me n d) β Q E :=
  W_mNApp h0 (h.mono (fun r β1 h => by rw [h]; exact k) fun _ _ h => h)
end
theorem rl_tail {z w : Nat} {L : List (List Int)} (r : Rl z w L) : Rl z w L.tail := ⟨r.s1, r.s4, r.w2, r.w4, fun k hk => r.len k (List.mem_of_mem_tail hk), fun k hk => r.dig k (List.mem_of_mem_tail hk), r.ris.sublist (List.tail_sublist L), by have := r.few; rw [List.length_tail]; omega⟩
theorem rl_more {z w : Nat} {L : List (List Int)} (r : Rl z w L) (h : z < 4) : Rl (z + 1) w L := ⟨by omega, by omega, r.w2, r.w4, r.len, fun k hk x hx => by have := r.dig k hk x hx; omega, r.ris, r.few⟩
theorem rl_none {z w : Nat} {L : List (List Int)} (r : Rl z w L) (h : w < 4) : Rl z (w + 1) [] := ⟨r.s1, r.s4, by have := r.w2; omega, by omega, fun k hk => (nomatch hk), fun k hk => (nomatch hk), .nil, by simp⟩
abbrev En (sc : D) (s1 s2 s3 s4 s5 : Sl) (z w : Nat) (L : List (List Int)) : B.Env := [.fz sc, s1, s2, s3, s4, s5, .fz (.int z), .fz (.int w), .fz (wL L)]
def I0 (sc : D) (β : B.Env) : Prop := ∃ s1 s2 s3 s4 s5 s6 s7 s8, β = [.fz sc, s1, s2, s3, s4, s5, s6, s7, s8]
theorem law_true (ns : List Int) (hl : ns.length ≤ 63) (hb : ∀ z ∈ ns, Builtin.Int.intBits z ≤ 1048576) : r_L_law [.nd .scr (ns.map D.int)] = .ok (.fz (.bl true)) [] := by
  have key : FW (r_L_law [.nd .scr (ns.map D.int)]) (fun r ios => r = .fz (.bl true) ∧ ios = []) (fun _ _ => False) := by
    unfold r_L_law m_L_law
    rw [FW_run]
    simp only [start0, par]
    rw [W_seqF, W_mFor]
    simp only [W_bnd, W_mCons, W_mP, W_mC, W_mNil]
    generalize hF : forL (gSet 1) _ = F
    simp
    obtain ⟨n, hn, hn16⟩ : ∃ n : Nat, (if 1 < (if (ns.length : Int) < 16 then (ns.length : Int) else 16) then (if (ns.length : Int) < 16 then (ns.length : Int) else 16) else 1) = (n : Int) ∧ n ≤ 16 := ⟨_, (Int.toNat_of_nonneg (by split <;> split <;> omega)).symm, by split <;> split <;> omega⟩
    rw [hn, ← hF]
    clear hF F
    refine ⟨inR_iff.mpr (by omega), W_forL (fun i β => I0 (.nd .scr (ns.map D.int)) β) ⟨_, _, _, _, _, _, _, _, rfl⟩ (fun i d β hd hI => ?_) fun β hI => ?_⟩
    · obtain ⟨s1, s2, s3, s4, s5, s6, s7, s8, rfl⟩ := hI
      obtain ⟨hi, rfl⟩ := rng_get hd
      rw [W_gSet]
      generalize hsc : D.nd .scr (ns.map D.int) = sc
      refine W_cut (fun β => ∃ s, St s ∧ β = [.fz sc, .fz (.int i), .own none s, s3, s4, s5, s6, s7, s8]) ?_ ?_
      · subst hsc
        simp
        refine cell_at fun c => ?_
        simp
        refine ⟨mulOk_l (by decide) (by decide), sz (by decide), .inl ⟨_, rfl⟩⟩
      rintro β ⟨s, hs, rfl⟩
      refine W_cut (fun β => ∃ (s : D) (z w : Nat) (L : List (List Int)), S3 z w ∧ Rl z w L ∧ β = En sc (.fz (.int i)) (.own none s) s3 s4 s5 z w L) ?_ ?_
      · simp
        refine l_parts hs fun z w L s hzw r hs => ?_
        simp
        exact ⟨s, z, w, hzw, L, r, rfl, rfl, rfl, rfl⟩
      rintro β ⟨s, z, w, L, hzw, r, rfl⟩
      have few := r.few
      have z4 := r.s4
      have w4 := r.w4
      have w2 := r.w2
      have z1 := r.s1
      refine W_cut (fun β => β = En sc (.fz (.int i)) (.own none s) (.own none (wL L)) s4 s5 z w L) ?_ ?_
      · simp
      rintro β rfl
      have wx : WX (.nd .scr (L.map tupD)) L := .inr rfl
      have wy : WX (wL L) L := .inl rfl
      refine W_newC (d := ruleD z w L) (by simp [okB, okS, visDs_W, visD]) (by simp) ?_ ?_
      · have ev : visB [3, 6, 7] (En sc (.fz (.int i)) (.own none s) (.own none (wL L)) s4 s5 z w L) = [.un, .un, .un, .fz (.nd .scr (L.map tupD)), .un, .un, .fz (.int z), .fz (.int w), .un] := by
          simp [visB, visS, rl, rls_W]
        rw [ev]
        simp
        refine rule_init r wx ?_
        simp
        exact ⟨has_rule z w L, vis_rule z w L⟩
      refine W_nsetC (β2 := En sc (.fz (.int i)) (.own none s) (.own none (wL L)) .un (.fz (ruleD z w L)) z w L) ?_ ?_
      · simp
        refine rule_init r wy ?_
        simp
        rfl
      refine W_nifC ?_ ?_
      · have eh : (hideB (En sc (.fz (.int i)) (.own none s) (.own none (wL L)) .un (.fz (ruleD z w L)) z w L)).set 4 (.fz (ruleD z w L)) = En sc (.fz (.int i)) .un .un (.fz (ruleD z w L)) (.fz (ruleD z w L)) z w L := rfl
        rw [eh]
        simp
        rw [w_ownNe]
        simp
        rw [fld_size]
        simp
        rw [fld_wide]
        simp
        rw [fld_words]
        simp
        refine ⟨sz (by decide), ?_⟩
        show optW (gNe (thr z w L) (thr z w L)) _
        rw [w_neThr]
        simp
        rw [w_isi (isi_lst_list _)]
        simp
      refine W_nexprC (β2 := En sc (.fz (.int i)) (.own none s) (.own none (.nd .lst (L.map tupD).reverse)) .un (.fz (ruleD z w L)) z w L) ?_ ?_
      · simp
        rfl
      refine W_nexprC (β2 := En sc (.fz (.int i)) (.own none s) (.own none (.nd .lst ((L.map tupD).reverse ++ [.non]))) .un (.fz (ruleD z w L)) z w L) ?_ ?_
      · simp
        exact ⟨szlt (by omega), rfl⟩
      refine W_nifC ?_ ?_
      · have eh : (hideB (En sc (.fz (.int i)) (.own none s) (.own none (.nd .lst ((L.map tupD).reverse ++ [.non]))) .un (.fz (ruleD z w L)) z w L)).set 4 (.fz (ruleD z w L)) = En sc (.fz (.int i)) .un .un (.fz (ruleD z w L)) (.fz (ruleD z w L)) z w L := rfl
        rw [eh]
        simp
        rw [fld_words]
        simp
        rw [w_neWL']
        simp
      generalize hS3 : Sl.own none (D.nd .lst ((L.map tupD).reverse ++ [.non])) = S3'
      refine W_nappC (β2 := En sc (.fz (.int i)) (.own none s) S3' .un (.fz (ruleD z w L)) z w L) (okLen_rule (by omega)) ?_ ?_
      · simp
        exact sz (by decide)
      clear hS3
      refine W_cut (fun β => β = En sc (.fz (.int i)) (.own none s) S3' .un (.fz (ruleD z w L)) z w L) ?_ ?_
      · refine W_if_no ?_ (W_ret.mpr ⟨rfl, rfl⟩)
        simp
        rw [fld_words]
        simp
        rw [w_neWL']
        simp
        refine rule_init r wy ?_
        simp
        rw [w_ownNe]
        simp
      rintro β rfl
      refine W_cut (fun β => β = En sc (.fz (.int i)) (.own none s) S3' .un (.fz (ruleD z w L)) z w L) ?_ ?_
      · refine W_if_no ?_ (W_ret.mpr ⟨rfl, rfl⟩)
        simp
        refine ⟨sz (by decide), sz (by decide), ?_⟩
        rw [w_inO z w L (by rfl)]
        simp
      rintro β rfl
      refine W_cut (fun β => β = En sc (.fz (.int i)) (.own none s) S3' .un (.fz (ruleD z w L)) z w L) ?_ ?_
      · by_cases c : z < 4
        · refine W_if_no ?_ (W_ret.mpr ⟨rfl, rfl⟩)
          simp
          have e1 : ((z : Int) < 4) := by omega
          simp [e1]
          have e2 : ((z : Int) + 1) = ((z + 1 : Nat) : Int) := by omega
          rw [e2]
          refine rule_init (rl_more r c) wy ?_
          simp
          rw [w_ownEq]
          simp
        · refine W_if_no ?_ (W_ret.mpr ⟨rfl, rfl⟩)
          simp
          have e1 : ¬ ((z : Int) < 4) := by omega
          simp [e1]
      rintro β rfl
      refine W_cut (fun β => β = En sc (.fz (.int i)) (.own none s) S3' .un (.fz (ruleD z w L)) z w L) ?_ ?_
      · refine W_if_no ?_ (W_ret.mpr ⟨rfl, rfl⟩)
        simp
        show optW (gNe (wL L) (wL [])) _
        rw [w_neWL']
        by_cases c : L = []
        · simp [c]
        · simp [c]
          have et : D.nd .lst (cut (List.map tupD L) (some 1) none) = wL L.tail := by
            rw [cut_suf]
            show D.nd .lst (L.map tupD).tail = .nd .lst (L.tail.map tupD)
            rw [List.map_tail]
          rw [et]
          refine rule_init (rl_tail r) (.inl rfl) ?_
          simp
          rw [w_ownEq]
          simp
          intro e
          have := congrArg List.length e
          rw [List.length_tail] at this
          have := List.length_pos_iff.mpr c
          omega
      rintro β rfl
      refine W_if_no ?_ ?_
      · simp
        show optW (gEq (wL L) (wL [])) _
        rw [w_eqWL]
        by_cases c : L = []
        · simp [c]
          by_cases c2 : w < 4
          · have e1 : ((w : Int) < 4) := by omega
            simp [e1]
            have e2 : ((w : Int) + 1) = ((w + 1 : Nat) : Int) := by omega
            rw [e2]
            refine rule_init (rl_none r c2) (.inl rfl) ?_
            simp
            subst c
            rw [w_ownEq]
            simp
          · have e1 : ¬ ((w : Int) < 4) := by omega
            simp [e1]
        · simp [c]
      · simp
        exact ⟨_, _, _, _, _, _, _, _, rfl⟩
    · obtain ⟨s1, s2, s3, s4, s5, s6, s7, s8, rfl⟩ := hI
      simp
  exact FW_is key
end K01


set_option Elab.async false
set_option linter.all false
set_option maxRecDepth 100000
set_option maxHeartbeats 4000000
namespace K01
open PySem PySem.Spec L2 B
open RG hiding m_L_parts r_L_parts m_L_draw r_L_draw m_L_one r_L_one m_L_lists r_L_lists m_L_fits r_L_fits m_L_well r_L_well
open RK
abbrev N_L_all : List Str := ["_law_size", "_law_wide", "_law_found", "_law_turn", "_law_longer", "_law_word", "_law_sign"]
abbrev q_L_all : List Str := ["_law_size", "_law_wide"]
theorem sc_L_all : FnScope N_L_all q_L_all (defScope st_L_all) := ⟨rfl, rfl, rfl, by decide +kernel, rfl, by decide +kernel, by decide +kernel⟩
abbrev N_L_digit : List Str := ["_law_state", "_law_base", "_law_number", "_law_cell", "_law_found"]
abbrev q_L_digit : List Str := ["_law_state", "_law_base"]
theorem sc_L_digit : FnScope N_L_digit q_L_digit (defScope st_L_digit) := ⟨rfl, rfl, rfl, by decide +kernel, rfl, by decide +kernel, by decide +kernel⟩
abbrev N_L_windows : List Str := ["_law_rings", "_law_wide", "_law_found", "_law_ring", "_law_k", "_law_j"]
abbrev q_L_windows : List Str := ["_law_rings", "_law_wide"]
theorem sc_L_windows : FnScope N_L_windows q_L_windows (defScope st_L_windows) := ⟨rfl, rfl, rfl, by decide +kernel, rfl, by decide +kernel, by decide +kernel⟩
abbrev N_L_of_rings : List Str := ["_law_state", "_law_rings", "_law_some", "_law_pair", "_law_turn"]
abbrev q_L_of_rings : List Str := ["_law_state"]
theorem sc_L_of_rings : FnScope N_L_of_rings q_L_of_rings (defScope st_L_of_rings) := ⟨rfl, rfl, rfl, by decide +kernel, rfl, by decide +kernel, by decide +kernel⟩
abbrev N_L_parts : List Str := ["_law_state", "_law_wide", "_law_size", "_law_some", "_law_way", "_law_few", "_law_word"]
abbrev q_L_parts : List Str := ["_law_state"]
theorem sc_L_parts : FnScope N_L_parts q_L_parts (defScope st_L_parts) := ⟨rfl, rfl, rfl, by decide +kernel, rfl, by decide +kernel, by decide +kernel⟩
abbrev N_P_is_from : List Str := ["thing", "low", "high"]
abbrev q_P_is_from : List Str := ["thing", "low", "high"]
theorem sc_P_is_from : FnScope N_P_is_from q_P_is_from (defScope st_P_is_from) := ⟨rfl, rfl, rfl, by decide +kernel, rfl, by decide +kernel, by decide +kernel⟩
abbrev N_P_is_word : List Str := ["thing", "size", "wide", "letter"]
abbrev q_P_is_word : List Str := ["thing", "size", "wide"]
theorem sc_P_is_word : FnScope N_P_is_word q_P_is_word (defScope st_P_is_word) := ⟨rfl, rfl, rfl, by decide +kernel, rfl, by decide +kernel, by decide +kernel⟩
abbrev N_P_are_words : List Str := ["thing", "size", "wide", "word"]
abbrev q_P_are_words : List Str := ["thing", "size", "wide"]
theorem sc_P_are_words : FnScope N_P_are_words q_P_are_words (defScope st_P_are_words) := ⟨rfl, rfl, rfl, by decide +kernel, rfl, by decide +kernel, by decide +kernel⟩
abbrev N_P_Rule_init : List Str := ["self", "size", "wide", "words"]
abbrev q_P_Rule_init : List Str := ["self", "size", "wide", "words"]
theorem sc_P_Rule_init : FnScope N_P_Rule_init q_P_Rule_init (defScope st_P_Rule_init) := ⟨rfl, rfl, rfl, by decide +kernel, rfl, by decide +kernel, by decide +kernel⟩
abbrev N_L_cell_at : List Str := ["_law_script", "_law_k"]
abbrev q_L_cell_at : List Str := ["_law_script", "_law_k"]
theorem sc_L_cell_at : FnScope N_L_cell_at q_L_cell_at (defScope st_L_cell_at) := ⟨rfl, rfl, rfl, by decide +kernel, rfl, by decide +kernel, by decide +kernel⟩
abbrev N_P_Rule_eq : List Str := ["self", "other"]
abbrev q_P_Rule_eq : List Str := ["self", "other"]
theorem sc_P_Rule_eq : FnScope N_P_Rule_eq q_P_Rule_eq (defScope st_P_Rule_eq) := ⟨rfl, rfl, rfl, by decide +kernel, rfl, by decide +kernel, by decide +kernel⟩
abbrev N_L_law : List Str := ["_law_script", "_law_k", "_law_state", "_law_handed", "_law_one", "_law_other", "_law_size", "_law_wide", "_law_some"]
abbrev q_L_law : List Str := ["_law_script"]
theorem sc_L_law : FnScope N_L_law q_L_law (defScope st_L_law) := ⟨rfl, rfl, rfl, by decide +kernel, rfl, by decide +kernel, by decide +kernel⟩
/-- what the written part says -/
structure Wr (K : PySem.W.Frag) (mg : Str → Option Value) : Prop where
  bl : Bl mg
  c_MOST_SIZE : ∃ t, mg "MOST_SIZE" = some (.int 4 t)
  c_MOST_WIDE : ∃ t, mg "MOST_WIDE" = some (.int 4 t)
  x_NoRule : XClsI K mg "NoRule" "what" st_XNoRule "NoRule.__init__"
  re : ReC K mg "RuleError"
  c_Rule : ICls K mg "Rule" ["size", "wide", "words"] st_P_Rule_init "Rule.__init__" q_P_Rule_init
  m_P_Rule_eq : MCls K mg "Rule" "__eq__" st_P_Rule_eq "Rule.__eq__" q_P_Rule_eq
  ne_Rule : ∀ C f, mg "Rule" = some (.ref C) → PySem.W.findIn K (.ref C) "__eq__" = some (some (.ref f)) → NeCls K C f
  ns_Rule : NoSub K mg "Rule"
  is_Rule : IsiC K mg "Rule"
  k_L_all : Lk K mg "_law_all" st_L_all q_L_all
  k_L_digit : Lk K mg "_law_digit" st_L_digit q_L_digit
  k_L_windows : Lk K mg "_law_windows" st_L_windows q_L_windows
  k_L_of_rings : Lk K mg "_law_of_rings" st_L_of_rings q_L_of_rings
  k_L_parts : Lk K mg "_law_parts" st_L_parts q_L_parts
  k_P_is_from : Lk K mg "is_from" st_P_is_from q_P_is_from
  k_P_is_word : Lk K mg "is_word" st_P_is_word q_P_is_word
  k_P_are_words : Lk K mg "are_words" st_P_are_words q_P_are_words
  k_L_cell_at : Lk K mg "_law_cell_at" st_L_cell_at q_L_cell_at
section
variable {P : Program} {w : World} {K : PySem.W.Frag} {mg : Str → Option Value} {base : Heap} 
variable {X : Cx} {pos : Pos}
theorem be_c_MOST_SIZE (Z : Wr X.K X.mg) (hg : Gl X "MOST_SIZE" := by rfl) : BE X (.Name "MOST_SIZE" pos) (mC (.int 4)) := Z.c_MOST_SIZE.elim fun _ h => be_glI _ h hg
theorem be_c_MOST_WIDE (Z : Wr X.K X.mg) (hg : Gl X "MOST_WIDE" := by rfl) : BE X (.Name "MOST_WIDE" pos) (mC (.int 4)) := Z.c_MOST_WIDE.elim fun _ h => be_glI _ h hg
variable (Z : Wr K mg)
include Z
theorem ox_NoRule : OkXI P w K mg base "NoRule" "what" :=
  okXI_of (tm := "no rule") Z.x_NoRule ⟨rfl, rfl, rfl, by decide +kernel, rfl, by decide +kernel, by decide +kernel⟩ fun fI cdv A outer s H E => pss_cons (ps_expr (pe_reinit Z.re (pa_cons (pv 0) (pa_cons pe_str pa_nil)))) (pss_one (ps_ost (pv 0) (pv 1)))
theorem ok_L_all : Ok P w K mg base 1 "_law_all" q_L_all [false, false] r_L_all :=
  ok_of (N := N_L_all) (m := m_L_all) [false, false] Z.k_L_all sc_L_all rfl fun f cdv A outer s H E hr =>
  bs_cons (bs_set (i := 2) sc_L_all.nd rfl (by first | exact Or.inl rfl | exact Or.inr rfl) (be_lst (ba_cons (bp_of (be_tup (ba_nil))) (ba_nil))))
  (bs_cons (bs_for (passes_of rfl) rfl (bi_range1 Z.bl.range (ba_cons (bp_var (i := 1)) (ba_nil))) (bg_name (i := 3) sc_L_all.nd rfl (by first | exact Or.inl rfl | exact Or.inr rfl)) (bs_cons (bs_set (i := 4) sc_L_all.nd rfl (by first | exact Or.inl rfl | exact Or.inr rfl) (be_lst (ba_nil)))
  (bs_cons (bs_for (passes_of rfl) rfl (bi_seq (be_var (i := 2))) (bg_name (i := 5) sc_L_all.nd rfl (by first | exact Or.inl rfl | exact Or.inr rfl)) (bs_one (bs_set (i := 4) sc_L_all.nd rfl (by first | exact Or.inl rfl | exact Or.inr rfl) (be_op opd_add (bp_var (i := 4)) (bp_of (be_comp rfl sc_L_all.nd (bi_range1 Z.bl.range (ba_cons (bp_var (i := 0)) (ba_nil))) rfl (blkOk_by (N := N_L_all) (sc := defScope st_L_all) (own := [("_law_sign", 6)]) (by decide +kernel)) (fun _ _ _ _ _ => bg_name (i := 6) sc_L_all.nd rfl (by first | exact Or.inl rfl | exact Or.inr rfl)) (fun _ _ _ _ _ => bts_nil) (fun _ _ _ _ _ => be_op opd_add (bp_var (i := 5)) (bp_of (be_tup (ba_cons (bp_of (be_var (i := 6))) (ba_nil)))))))))))
  (bs_one (bs_set (i := 2) sc_L_all.nd rfl (by first | exact Or.inl rfl | exact Or.inr rfl) (be_mv (i := 4)))))))
  (bs_one (bs_retVar (i := 2))))
theorem ok_L_digit : Ok P w K mg base 1 "_law_digit" q_L_digit [true, false] r_L_digit :=
  ok_of (N := N_L_digit) (m := m_L_digit) [true, false] Z.k_L_digit sc_L_digit rfl fun f cdv A outer s H E hr =>
  bs_cons (bs_if (bt_cmp (od_eq hr) (bp_of (be_callB cd_len (by rfl) Z.bl.len B.boot_len (ba_cons (bp_var (i := 0)) (ba_nil)))) (bp_of (be_int))) (bs_cons (bs_set (i := 3) sc_L_digit.nd rfl (by first | exact Or.inl rfl | exact Or.inr rfl) (be_ix (bp_var (i := 0)) (bp_of (be_int))))
  (bs_cons (bs_setIx (i := 0) rfl (by first | exact Or.inl rfl | exact Or.inr (Or.inl rfl) | exact Or.inr (Or.inr rfl)) (be_ix (bp_of (be_lst (ba_cons (bp_of (be_int)) (ba_cons (bp_of (be_var (i := 3))) (ba_nil))))) (bp_of (be_callTy cd_int (by rfl) Z.bl.int B.boot_int (ba_cons (bp_of (be_cmp od_ge (bp_var (i := 3)) (bp_of (be_op od_pow (bp_of (be_int)) (bp_of (be_int)))))) (ba_nil))))) (be_int))
  (bs_one (bs_expr (be_mut (i := 0) PySem.F.plainAttrs_list PySem.F.slot_list_extend PySem.F.type_list_extend mu_extend rfl (by first | exact Or.inl rfl | exact Or.inr (Or.inl rfl) | exact Or.inr (Or.inr rfl)) (ba_cons (bp_of (be_lst (ba_cons (bp_of (be_op od_mod (bp_var (i := 3)) (bp_of (be_int)))) (ba_cons (bp_of (be_int)) (ba_nil))))) (ba_nil))))))) (bs_nil))
  (bs_cons (bs_if (bt_cmp (od_gtX hr) (bp_of (be_ix (bp_var (i := 0)) (bp_of (be_int)))) (bp_of (be_int))) (bs_cons (bs_set (i := 4) sc_L_digit.nd rfl (by first | exact Or.inl rfl | exact Or.inr rfl) (be_op od_mod (bp_of (be_ix (bp_var (i := 0)) (bp_of (be_int)))) (bp_var (i := 1))))
  (bs_cons (bs_setIx (i := 0) rfl (by first | exact Or.inl rfl | exact Or.inr (Or.inl rfl) | exact Or.inr (Or.inr rfl)) (be_op od_fdiv (bp_of (be_ix (bp_var (i := 0)) (bp_of (be_int)))) (bp_var (i := 1))) (be_int))
  (bs_one (bs_retVar (i := 4))))) (bs_nil))
  (bs_cons (bs_setIx (i := 0) rfl (by first | exact Or.inl rfl | exact Or.inr (Or.inl rfl) | exact Or.inr (Or.inr rfl)) (be_op opd_add (bp_of (be_ix (bp_var (i := 0)) (bp_of (be_int)))) (bp_of (be_int))) (be_int))
  (bs_cons (bs_set (i := 2) sc_L_digit.nd rfl (by first | exact Or.inl rfl | exact Or.inr rfl) (be_op od_mod (bp_of (be_op opd_mul (bp_of (be_op opd_add (bp_of (be_op opd_add (bp_of (be_ix (bp_var (i := 0)) (bp_of (be_int)))) (bp_of (be_op opd_mul (bp_of (be_int)) (bp_of (be_ix (bp_var (i := 0)) (bp_of (be_int)))))))) (bp_of (be_int)))) (bp_of (be_int)))) (bp_of (be_int))))
  (bs_cons (bs_set (i := 2) sc_L_digit.nd rfl (by first | exact Or.inl rfl | exact Or.inr rfl) (be_op od_mod (bp_of (be_op opd_mul (bp_var (i := 2)) (bp_of (be_op opd_add (bp_of (be_op od_fdiv (bp_var (i := 2)) (bp_of (be_int)))) (bp_of (be_int)))))) (bp_of (be_int))))
  (bs_one (bs_ret (be_op od_mod (bp_of (be_op od_mod (bp_of (be_op opd_mul (bp_var (i := 2)) (bp_of (be_op opd_add (bp_of (be_op od_fdiv (bp_var (i := 2)) (bp_of (be_int)))) (bp_of (be_int)))))) (bp_of (be_int)))) (bp_var (i := 1)))))))))
theorem ok_L_windows : Ok P w K mg base 1 "_law_windows" q_L_windows [false, false] r_L_windows :=
  ok_of (N := N_L_windows) (m := m_L_windows) [false, false] Z.k_L_windows sc_L_windows rfl fun f cdv A outer s H E hr =>
  bs_cons (bs_set (i := 2) sc_L_windows.nd rfl (by first | exact Or.inl rfl | exact Or.inr rfl) (be_lst (ba_nil)))
  (bs_cons (bs_for (passes_of rfl) rfl (bi_seq (be_var (i := 0))) (bg_name (i := 3) sc_L_windows.nd rfl (by first | exact Or.inl rfl | exact Or.inr rfl)) (bs_one (bs_for (passes_of rfl) rfl (bi_range1 Z.bl.range (ba_cons (bp_of (be_callB cd_len (by rfl) Z.bl.len B.boot_len (ba_cons (bp_var (i := 3)) (ba_nil)))) (ba_nil))) (bg_name (i := 4) sc_L_windows.nd rfl (by first | exact Or.inl rfl | exact Or.inr rfl)) (bs_one (bs_expr (be_mut (i := 2) PySem.F.plainAttrs_list PySem.F.slot_list_append PySem.F.type_list_append mu_append rfl (by first | exact Or.inl rfl | exact Or.inr (Or.inl rfl) | exact Or.inr (Or.inr rfl)) (ba_cons (bp_of (be_callTy cd_tuple (by rfl) Z.bl.tuple B.boot_tuple (ba_cons (bp_of (be_comp rfl sc_L_windows.nd (bi_range1 Z.bl.range (ba_cons (bp_var (i := 1)) (ba_nil))) rfl (blkOk_by (N := N_L_windows) (sc := defScope st_L_windows) (own := [("_law_j", 5)]) (by decide +kernel)) (fun _ _ _ _ _ => bg_name (i := 5) sc_L_windows.nd rfl (by first | exact Or.inl rfl | exact Or.inr rfl)) (fun _ _ _ _ _ => bts_nil) (fun _ _ _ _ _ => be_ix (bp_var (i := 3)) (bp_of (be_op od_mod (bp_of (be_op opd_add (bp_var (i := 4)) (bp_var (i := 5)))) (bp_of (be_callB cd_len (by rfl) Z.bl.len B.boot_len (ba_cons (bp_var (i := 3)) (ba_nil))))))))) (ba_nil)))) (ba_nil))))))))
  (bs_one (bs_ret (be_sortSetG (by rfl) Z.bl.sorted (by rfl) Z.bl.set rfl hr.u64 (bp_var (i := 2))))))
theorem ok_L_of_rings : Ok P w K mg base 2 "_law_of_rings" q_L_of_rings [true] r_L_of_rings :=
  ok_of (N := N_L_of_rings) (m := m_L_of_rings) [true] Z.k_L_of_rings sc_L_of_rings rfl fun f cdv A outer s H E hr =>
  bs_cons (bs_if (bt_cmp (od_eq hr) (bp_of (be_c (ok_L_digit Z) hr (by decide) (ba_cons (bp_var (i := 0)) (ba_cons (bp_of (be_int)) (ba_nil))))) (bp_of (be_int))) (bs_cons (bs_set (i := 2) sc_L_of_rings.nd rfl (by first | exact Or.inl rfl | exact Or.inr rfl) (be_lst (ba_cons (bp_of (be_lst (ba_cons (bp_of (be_int)) (ba_cons (bp_of (be_int)) (ba_nil))))) (ba_cons (bp_of (be_lst (ba_cons (bp_of (be_int)) (ba_cons (bp_of (be_int)) (ba_cons (bp_of (be_int)) (ba_nil)))))) (ba_cons (bp_of (be_lst (ba_cons (bp_of (be_int)) (ba_cons (bp_of (be_int)) (ba_cons (bp_of (be_int)) (ba_cons (bp_of (be_int)) (ba_nil))))))) (ba_cons (bp_of (be_lst (ba_cons (bp_of (be_int)) (ba_cons (bp_of (be_int)) (ba_nil))))) (ba_cons (bp_of (be_lst (ba_cons (bp_of (be_int)) (ba_cons (bp_of (be_int)) (ba_cons (bp_of (be_int)) (ba_nil)))))) (ba_cons (bp_of (be_lst (ba_cons (bp_of (be_int)) (ba_cons (bp_of (be_int)) (ba_cons (bp_of (be_int)) (ba_nil)))))) (ba_cons (bp_of (be_lst (ba_cons (bp_of (be_int)) (ba_cons (bp_of (be_int)) (ba_cons (bp_of (be_int)) (ba_cons (bp_of (be_int)) (ba_cons (bp_of (be_int)) (ba_nil)))))))) (ba_nil))))))))))
  (bs_cons (bs_expr (be_mut (i := 2) PySem.F.plainAttrs_list PySem.F.slot_list_append PySem.F.type_list_append mu_append rfl (by first | exact Or.inl rfl | exact Or.inr (Or.inl rfl) | exact Or.inr (Or.inr rfl)) (ba_cons (bp_of (be_lst (ba_cons (bp_of (be_int)) (ba_cons (bp_of (be_int)) (ba_cons (bp_of (be_int)) (ba_cons (bp_of (be_int)) (ba_cons (bp_of (be_int)) (ba_cons (bp_of (be_int)) (ba_cons (bp_of (be_int)) (ba_cons (bp_of (be_int)) (ba_cons (bp_of (be_int)) (ba_nil)))))))))))) (ba_nil))))
  (bs_one (bs_set (i := 3) sc_L_of_rings.nd rfl (by first | exact Or.inl rfl | exact Or.inr rfl) (be_tup (ba_cons (bp_of (be_int)) (ba_cons (bp_of (be_int)) (ba_nil)))))))) (bs_cons (bs_set (i := 2) sc_L_of_rings.nd rfl (by first | exact Or.inl rfl | exact Or.inr rfl) (be_lst (ba_cons (bp_of (be_lst (ba_cons (bp_of (be_int)) (ba_cons (bp_of (be_int)) (ba_nil))))) (ba_cons (bp_of (be_lst (ba_cons (bp_of (be_int)) (ba_cons (bp_of (be_int)) (ba_cons (bp_of (be_int)) (ba_cons (bp_of (be_int)) (ba_cons (bp_of (be_int)) (ba_nil)))))))) (ba_cons (bp_of (be_lst (ba_cons (bp_of (be_int)) (ba_cons (bp_of (be_int)) (ba_cons (bp_of (be_int)) (ba_nil)))))) (ba_cons (bp_of (be_lst (ba_cons (bp_of (be_int)) (ba_cons (bp_of (be_int)) (ba_cons (bp_of (be_int)) (ba_nil)))))) (ba_cons (bp_of (be_lst (ba_cons (bp_of (be_int)) (ba_cons (bp_of (be_int)) (ba_cons (bp_of (be_int)) (ba_cons (bp_of (be_int)) (ba_nil))))))) (ba_cons (bp_of (be_lst (ba_cons (bp_of (be_int)) (ba_cons (bp_of (be_int)) (ba_cons (bp_of (be_int)) (ba_cons (bp_of (be_int)) (ba_nil))))))) (ba_nil)))))))))
  (bs_cons (bs_expr (be_mut (i := 2) PySem.F.plainAttrs_list PySem.F.slot_list_append PySem.F.type_list_append mu_append rfl (by first | exact Or.inl rfl | exact Or.inr (Or.inl rfl) | exact Or.inr (Or.inr rfl)) (ba_cons (bp_of (be_lst (ba_cons (bp_of (be_int)) (ba_cons (bp_of (be_int)) (ba_cons (bp_of (be_int)) (ba_cons (bp_of (be_int)) (ba_cons (bp_of (be_int)) (ba_cons (bp_of (be_int)) (ba_cons (bp_of (be_int)) (ba_cons (bp_of (be_int)) (ba_nil))))))))))) (ba_nil))))
  (bs_one (bs_set (i := 3) sc_L_of_rings.nd rfl (by first | exact Or.inl rfl | exact Or.inr rfl) (be_tup (ba_cons (bp_of (be_int)) (ba_cons (bp_of (be_int)) (ba_nil)))))))))
  (bs_cons (bs_setComp (i := 1) rfl sc_L_of_rings.nd rfl rfl (sw_true rfl rfl rfl (by decide +kernel)) (bi_range1 Z.bl.range (ba_cons (bp_of (be_op opd_add (bp_of (be_int)) (bp_of (be_c (ok_L_digit Z) hr (by decide) (ba_cons (bp_var (i := 0)) (ba_cons (bp_of (be_int)) (ba_nil))))))) (ba_nil))) rfl (blkOk_by (N := N_L_of_rings) (sc := defScope st_L_of_rings) (own := [("_law_turn", 4)]) (by decide +kernel)) (fun _ _ _ _ _ => bg_name (i := 4) sc_L_of_rings.nd rfl (by first | exact Or.inl rfl | exact Or.inr rfl)) (fun _ _ _ _ _ => bts_nil) (fun _ _ _ _ _ => be_ix (bp_var (i := 2)) (bp_of (be_c (ok_L_digit Z) hr (by decide) (ba_cons (bp_var (i := 0)) (ba_cons (bp_of (be_callB cd_len (by rfl) Z.bl.len B.boot_len (ba_cons (bp_var (i := 2)) (ba_nil)))) (ba_nil)))))))
  (bs_one (bs_ret (be_op opd_add (bp_var (i := 3)) (bp_of (be_tup (ba_cons (bp_of (be_c (ok_L_windows Z) hr (by decide) (ba_cons (bp_of (be_var (i := 1))) (ba_cons (bp_of (be_ix (bp_var (i := 3)) (bp_of (be_int)))) (ba_nil))))) (ba_nil))))))))
theorem ok_L_parts : Ok P w K mg base 3 "_law_parts" q_L_parts [true] r_L_parts :=
  ok_of (N := N_L_parts) (m := m_L_parts) [true] Z.k_L_parts sc_L_parts rfl fun f cdv A outer s H E hr =>
  bs_cons (bs_if (bt_cmp (od_eq hr) (bp_of (be_c (ok_L_digit Z) hr (by decide) (ba_cons (bp_var (i := 0)) (ba_cons (bp_of (be_int)) (ba_nil))))) (bp_of (be_int))) (bs_one (bs_ret (be_c (ok_L_of_rings Z) hr (by decide) (ba_cons (bp_var (i := 0)) (ba_nil))))) (bs_nil))
  (bs_cons (bs_set (i := 1) sc_L_parts.nd rfl (by first | exact Or.inl rfl | exact Or.inr rfl) (be_ix (bp_of (be_lst (ba_cons (bp_of (be_int)) (ba_cons (bp_of (be_int)) (ba_cons (bp_of (be_int)) (ba_cons (bp_of (be_int)) (ba_cons (bp_of (be_int)) (ba_nil)))))))) (bp_of (be_c (ok_L_digit Z) hr (by decide) (ba_cons (bp_var (i := 0)) (ba_cons (bp_of (be_int)) (ba_nil)))))))
  (bs_cons (bs_set (i := 2) sc_L_parts.nd rfl (by first | exact Or.inl rfl | exact Or.inr rfl) (be_op opd_add (bp_of (be_int)) (bp_of (be_c (ok_L_digit Z) hr (by decide) (ba_cons (bp_var (i := 0)) (ba_cons (bp_of (be_ix (bp_of (be_lst (ba_cons (bp_of (be_int)) (ba_cons (bp_of (be_int)) (ba_cons (bp_of (be_int)) (ba_nil)))))) (bp_of (be_op od_sub (bp_var (i := 1)) (bp_of (be_int)))))) (ba_nil)))))))
  (bs_cons (bs_set (i := 3) sc_L_parts.nd rfl (by first | exact Or.inl rfl | exact Or.inr rfl) (be_c (ok_L_all Z) hr (by decide) (ba_cons (bp_of (be_var (i := 2))) (ba_cons (bp_of (be_var (i := 1))) (ba_nil)))))
  (bs_cons (bs_set (i := 4) sc_L_parts.nd rfl (by first | exact Or.inl rfl | exact Or.inr rfl) (be_c (ok_L_digit Z) hr (by decide) (ba_cons (bp_var (i := 0)) (ba_cons (bp_of (be_int)) (ba_nil)))))
  (bs_cons (bs_if (bt_cmp (od_eq hr) (bp_var (i := 4)) (bp_of (be_int))) (bs_one (bs_ret (be_tup (ba_cons (bp_of (be_var (i := 2))) (ba_cons (bp_of (be_var (i := 1))) (ba_cons (bp_of (be_comp rfl sc_L_parts.nd (bi_seq (be_var (i := 3))) rfl (blkOk_by (N := N_L_parts) (sc := defScope st_L_parts) (own := [("_law_word", 6)]) (by decide +kernel)) (fun _ _ _ _ _ => bg_name (i := 6) sc_L_parts.nd rfl (by first | exact Or.inl rfl | exact Or.inr rfl)) (fun _ _ _ _ _ => bts_one (bt_cmp (od_gtX hr) (bp_of (be_slice (bp_var (i := 6)) (bo_some (be_int)) (bo_none))) (bp_of (be_slice (bp_var (i := 6)) (bo_none) (bo_some (be_un und_neg (bp_of (be_int)))))))) (fun _ _ _ _ _ => be_var (i := 6)))) (ba_nil))))))) (bs_nil))
  (bs_cons (bs_if (bt_cmp (od_eq hr) (bp_var (i := 4)) (bp_of (be_int))) (bs_one (bs_ret (be_tup (ba_cons (bp_of (be_var (i := 2))) (ba_cons (bp_of (be_var (i := 1))) (ba_cons (bp_of (be_comp rfl sc_L_parts.nd (bi_seq (be_var (i := 3))) rfl (blkOk_by (N := N_L_parts) (sc := defScope st_L_parts) (own := [("_law_word", 6)]) (by decide +kernel)) (fun _ _ _ _ _ => bg_name (i := 6) sc_L_parts.nd rfl (by first | exact Or.inl rfl | exact Or.inr rfl)) (fun _ _ _ _ _ => bts_one (bt_cmp (od_ne hr) (bp_of (be_ix (bp_var (i := 6)) (bp_of (be_int)))) (bp_of (be_ix (bp_var (i := 6)) (bp_of (be_int)))))) (fun _ _ _ _ _ => be_var (i := 6)))) (ba_nil))))))) (bs_nil))
  (bs_cons (bs_if (bt_cmp (od_eq hr) (bp_var (i := 4)) (bp_of (be_int))) (bs_one (bs_ret (be_tup (ba_cons (bp_of (be_int)) (ba_cons (bp_of (be_int)) (ba_cons (bp_of (be_lst (ba_cons (bp_of (be_tup (ba_cons (bp_of (be_int)) (ba_cons (bp_of (be_int)) (ba_cons (bp_of (be_int)) (ba_nil)))))) (ba_cons (bp_of (be_tup (ba_cons (bp_of (be_int)) (ba_cons (bp_of (be_int)) (ba_cons (bp_of (be_int)) (ba_nil)))))) (ba_cons (bp_of (be_tup (ba_cons (bp_of (be_int)) (ba_cons (bp_of (be_int)) (ba_cons (bp_of (be_int)) (ba_nil)))))) (ba_cons (bp_of (be_tup (ba_cons (bp_of (be_int)) (ba_cons (bp_of (be_int)) (ba_cons (bp_of (be_int)) (ba_nil)))))) (ba_nil))))))) (ba_nil))))))) (bs_nil))
  (bs_cons (bs_if (bt_cmp (od_eq hr) (bp_var (i := 4)) (bp_of (be_int))) (bs_one (bs_ret (be_tup (ba_cons (bp_of (be_int)) (ba_cons (bp_of (be_int)) (ba_cons (bp_of (be_lst (ba_cons (bp_of (be_tup (ba_cons (bp_of (be_int)) (ba_cons (bp_of (be_int)) (ba_nil))))) (ba_cons (bp_of (be_tup (ba_cons (bp_of (be_int)) (ba_cons (bp_of (be_int)) (ba_nil))))) (ba_nil))))) (ba_nil))))))) (bs_nil))
  (bs_cons (bs_set (i := 5) sc_L_parts.nd rfl (by first | exact Or.inl rfl | exact Or.inr rfl) (be_op opd_add (bp_of (be_int)) (bp_of (be_c (ok_L_digit Z) hr (by decide) (ba_cons (bp_var (i := 0)) (ba_cons (bp_of (be_int)) (ba_nil)))))))
  (bs_cons (bs_setComp (i := 3) rfl sc_L_parts.nd rfl rfl (sw_true rfl rfl rfl (by decide +kernel)) (bi_seq (be_var (i := 3))) rfl (blkOk_by (N := N_L_parts) (sc := defScope st_L_parts) (own := [("_law_word", 6)]) (by decide +kernel)) (fun _ _ _ _ _ => bg_name (i := 6) sc_L_parts.nd rfl (by first | exact Or.inl rfl | exact Or.inr rfl)) (fun _ _ _ _ _ => bts_one (bt_cmp (od_ltX hr) (bp_of (be_c (ok_L_digit Z) hr (by decide) (ba_cons (bp_var (i := 0)) (ba_cons (bp_of (be_int)) (ba_nil))))) (bp_var (i := 5)))) (fun _ _ _ _ _ => be_var (i := 6)))
  (bs_cons (bs_if (bt_cmp (od_ltX hr) (bp_var (i := 4)) (bp_of (be_int))) (bs_one (bs_setComp (i := 3) rfl sc_L_parts.nd rfl rfl (sw_true rfl rfl rfl (by decide +kernel)) (bi_seq (be_var (i := 3))) rfl (blkOk_by (N := N_L_parts) (sc := defScope st_L_parts) (own := [("_law_word", 6)]) (by decide +kernel)) (fun _ _ _ _ _ => bg_name (i := 6) sc_L_parts.nd rfl (by first | exact Or.inl rfl | exact Or.inr rfl)) (fun _ _ _ _ _ => bts_one (bt_cmp (od_ne hr) (bp_var (i := 6)) (bp_of (be_op opd_mul (bp_of (be_slice (bp_var (i := 6)) (bo_none) (bo_some (be_int)))) (bp_var (i := 1)))))) (fun _ _ _ _ _ => be_var (i := 6)))) (bs_nil))
  (bs_one (bs_ret (be_tup (ba_cons (bp_of (be_var (i := 2))) (ba_cons (bp_of (be_var (i := 1))) (ba_cons (bp_of (be_var (i := 3))) (ba_nil))))))))))))))))))
theorem ok_P_is_from : Ok P w K mg base 1 "is_from" q_P_is_from [false, false, false] r_P_is_from :=
  ok_of (N := N_P_is_from) (m := m_P_is_from) [false, false, false] Z.k_P_is_from sc_P_is_from rfl fun f cdv A outer s H E hr =>
  bs_one (bs_ret (be_and (be_isi "int" (by rfl) Z.bl.isinstance (by rfl) Z.bl.int B.boot_int (bp_var (i := 0))) (be_and (be_not (be_isi "bool" (by rfl) Z.bl.isinstance (by rfl) Z.bl.bool B.boot_bool (bp_var (i := 0)))) (be_one (be_chain od_le od_le (bp_var (i := 1)) (bp_var (i := 0)) (bp_var (i := 2)))))))
theorem ok_P_is_word : Ok P w K mg base 2 "is_word" q_P_is_word [false, false, false] r_P_is_word :=
  ok_of (N := N_P_is_word) (m := m_P_is_word) [false, false, false] Z.k_P_is_word sc_P_is_word rfl fun f cdv A outer s H E hr =>
  bs_cons (bs_if (bt_w (bw_or (bt_not (bt_tru (bp_of (be_isi "tuple" (by rfl) Z.bl.isinstance (by rfl) Z.bl.tuple B.boot_tuple (bp_var (i := 0)))))) (bw_or1 (bt_cmp (od_ne hr) (bp_of (be_callB cd_len (by rfl) Z.bl.len B.boot_len (ba_cons (bp_var (i := 0)) (ba_nil)))) (bp_var (i := 2)))))) (bs_one (bs_ret (be_bl))) (bs_nil))
  (bs_one (bs_ret (be_callB (cd_all rfl) (by rfl) Z.bl.all B.boot_all (ba_cons (bp_of (be_comp rfl sc_P_is_word.nd (bi_seq (be_var (i := 0))) rfl (blkOk_by (N := N_P_is_word) (sc := defScope st_P_is_word) (own := [("letter", 3)]) (by decide +kernel)) (fun _ _ _ _ _ => bg_name (i := 3) sc_P_is_word.nd rfl (by first | exact Or.inl rfl | exact Or.inr rfl)) (fun _ _ _ _ _ => bts_nil) (fun _ _ _ _ _ => be_c (ok_P_is_from Z) hr (by decide) (ba_cons (bp_of (be_var (i := 3))) (ba_cons (bp_of (be_int)) (ba_cons (bp_of (be_op od_sub (bp_var (i := 1)) (bp_of (be_int)))) (ba_nil))))))) (ba_nil)))))
theorem ok_P_are_words : Ok P w K mg base 3 "are_words" q_P_are_words [false, false, false] r_P_are_words :=
  ok_of (N := N_P_are_words) (m := m_P_are_words) [false, false, false] Z.k_P_are_words sc_P_are_words rfl fun f cdv A outer s H E hr =>
  bs_cons (bs_if (bt_w (bw_or (bt_not (bt_tru (bp_of (be_isi "list" (by rfl) Z.bl.isinstance (by rfl) Z.bl.list B.boot_list (bp_var (i := 0)))))) (bw_or1 (bt_not (bt_tru (bp_of (be_callB (cd_all rfl) (by rfl) Z.bl.all B.boot_all (ba_cons (bp_of (be_comp rfl sc_P_are_words.nd (bi_seq (be_var (i := 0))) rfl (blkOk_by (N := N_P_are_words) (sc := defScope st_P_are_words) (own := [("word", 3)]) (by decide +kernel)) (fun _ _ _ _ _ => bg_name (i := 3) sc_P_are_words.nd rfl (by first | exact Or.inl rfl | exact Or.inr rfl)) (fun _ _ _ _ _ => bts_nil) (fun _ _ _ _ _ => be_c (ok_P_is_word Z) hr (by decide) (ba_cons (bp_of (be_var (i := 3))) (ba_cons (bp_of (be_var (i := 1))) (ba_cons (bp_of (be_var (i := 2))) (ba_nil))))))) (ba_nil))))))))) (bs_one (bs_ret (be_bl))) (bs_nil))
  (bs_one (bs_ret (be_cmp (od_eqS hr) (bp_var (i := 0)) (bp_of (be_sortSetS (by rfl) Z.bl.sorted (by rfl) Z.bl.set rfl hr.u64 (bp_var (i := 0)))))))
theorem ok_P_Rule_init : OkI P w K mg base 4 "Rule" q_P_Rule_init [true, false, false, false] r_P_Rule_init :=
  okI_of (N := N_P_Rule_init) (mf := m_P_Rule_init) [true, false, false, false] Z.c_Rule sc_P_Rule_init rfl fun f cdv A outer s H E hr =>
  bs_cons (bs_if (bt_not (bt_tru (bp_of (be_c (ok_P_is_from Z) hr (by decide) (ba_cons (bp_of (be_var (i := 1))) (ba_cons (bp_of (be_int)) (ba_cons (bp_of ((be_c_MOST_SIZE Z))) (ba_nil)))))))) (bs_one (bs_raiseI (k := 0) (ox_NoRule Z) (hr.mono (by decide)) rfl (bp_of (be_str)))) (bs_nil))
  (bs_cons (bs_if (bt_not (bt_tru (bp_of (be_c (ok_P_is_from Z) hr (by decide) (ba_cons (bp_of (be_var (i := 2))) (ba_cons (bp_of (be_int)) (ba_cons (bp_of ((be_c_MOST_WIDE Z))) (ba_nil)))))))) (bs_one (bs_raiseI (k := 0) (ox_NoRule Z) (hr.mono (by decide)) rfl (bp_of (be_str)))) (bs_nil))
  (bs_cons (bs_if (bt_not (bt_tru (bp_of (be_c (ok_P_are_words Z) hr (by decide) (ba_cons (bp_of (be_var (i := 3))) (ba_cons (bp_of (be_var (i := 1))) (ba_cons (bp_of (be_var (i := 2))) (ba_nil)))))))) (bs_one (bs_raiseI (k := 0) (ox_NoRule Z) (hr.mono (by decide)) rfl (bp_of (be_str)))) (bs_nil))
  (bs_cons (bs_fld (i := 0) "Rule" (Z.c_Rule.fld (.head _)) rfl (by first | exact Or.inl rfl | exact Or.inr (Or.inl rfl) | exact Or.inr (Or.inr rfl)) (be_var (i := 1)))
  (bs_cons (bs_fld (i := 0) "Rule" (Z.c_Rule.fld (.tail _ (.head _))) rfl (by first | exact Or.inl rfl | exact Or.inr (Or.inl rfl) | exact Or.inr (Or.inr rfl)) (be_var (i := 2)))
  (bs_one (bs_fld (i := 0) "Rule" (Z.c_Rule.fld (.tail _ (.tail _ (.head _)))) rfl (by first | exact Or.inl rfl | exact Or.inr (Or.inl rfl) | exact Or.inr (Or.inr rfl)) (be_callTy cd_listS (by rfl) Z.bl.list B.boot_list (ba_cons (bp_var (i := 3)) (ba_nil)))))))))
theorem ok_L_cell_at : Ok P w K mg base 1 "_law_cell_at" q_L_cell_at [false, false] r_L_cell_at :=
  ok_of (N := N_L_cell_at) (m := m_L_cell_at) [false, false] Z.k_L_cell_at sc_L_cell_at rfl fun f cdv A outer s H E hr =>
  bs_cons (bs_if (bt_cmp (od_ltX hr) (bp_var (i := 1)) (bp_of (be_callB cd_len (by rfl) Z.bl.len B.boot_len (ba_cons (bp_var (i := 0)) (ba_nil))))) (bs_one (bs_ret (be_ix (bp_var (i := 0)) (bp_var (i := 1))))) (bs_nil))
  (bs_one (bs_ret (be_int)))
theorem ok_P_Rule_eq : OkM P w K mg base 1 "Rule" "__eq__" q_P_Rule_eq [false, false] r_P_Rule_eq :=
  okM_of (N := N_P_Rule_eq) (mf := m_P_Rule_eq) [false, false] Z.m_P_Rule_eq sc_P_Rule_eq rfl fun f cdv A outer s H E hr =>
  bs_cons (bs_if (bt_not (bt_tru (bp_of (be_isiC Z.is_Rule Z.bl.isinstance (bp_var (i := 1)))))) (bs_one (bs_ret (be_bl))) (bs_nil))
  (bs_one (bs_ret (be_cmp (od_eq hr) (bp_of (be_tup (ba_cons (bp_of (be_fld "Rule" (Z.c_Rule.fld (.head _)) (bp_var (i := 0)))) (ba_cons (bp_of (be_fld "Rule" (Z.c_Rule.fld (.tail _ (.head _))) (bp_var (i := 0)))) (ba_cons (bp_of (be_fld "Rule" (Z.c_Rule.fld (.tail _ (.tail _ (.head _)))) (bp_var (i := 0)))) (ba_nil)))))) (bp_of (be_tup (ba_cons (bp_of (be_fld "Rule" (Z.c_Rule.fld (.head _)) (bp_var (i := 1)))) (ba_cons (bp_of (be_fld "Rule" (Z.c_Rule.fld (.tail _ (.head _))) (bp_var (i := 1)))) (ba_cons (bp_of (be_fld "Rule" (Z.c_Rule.fld (.tail _ (.tail _ (.head _)))) (bp_var (i := 1)))) (ba_nil)))))))))
theorem ok_L_law {f : Addr} {fd : FuncData} (F : L2.Fun K "law" "law" st_L_law f fd) : FnG P w K mg base 6 f fd q_L_law (spB K mg [false] r_L_law) :=
  fnB (N := N_L_law) (m := m_L_law) [false] F sc_L_law rfl fun cdv A outer s H E hr =>
  bs_cons (bs_for (passes_of rfl) rfl (bi_range1 Z.bl.range (ba_cons (bp_of (be_callB (cd_max2 rfl) (by rfl) Z.bl.max B.boot_max (ba_cons (bp_of (be_int)) (ba_cons (bp_of (be_callB (cd_min2 rfl) (by rfl) Z.bl.min B.boot_min (ba_cons (bp_of (be_int)) (ba_cons (bp_of (be_callB cd_len (by rfl) Z.bl.len B.boot_len (ba_cons (bp_var (i := 0)) (ba_nil)))) (ba_nil))))) (ba_nil))))) (ba_nil))) (bg_name (i := 1) sc_L_law.nd rfl (by first | exact Or.inl rfl | exact Or.inr rfl)) (bs_cons (bs_set (i := 2) sc_L_law.nd rfl (by first | exact Or.inl rfl | exact Or.inr rfl) (be_lst (ba_cons (bp_of (be_op opd_add (bp_of (be_c (ok_L_cell_at Z) hr (by decide) (ba_cons (bp_of (be_var (i := 0))) (ba_cons (bp_of (be_var (i := 1))) (ba_nil))))) (bp_of (be_op opd_mul (bp_of (be_int)) (bp_var (i := 1)))))) (ba_nil))))
  (bs_cons (bs_asg (be_c (ok_L_parts Z) hr (by decide) (ba_cons (bp_var (i := 2)) (ba_nil))) (bg_tup rfl (bgs_cons (bg_name (i := 6) sc_L_law.nd rfl (by first | exact Or.inl rfl | exact Or.inr rfl)) (bgs_cons (bg_name (i := 7) sc_L_law.nd rfl (by first | exact Or.inl rfl | exact Or.inr rfl)) (bgs_cons (bg_name (i := 8) sc_L_law.nd rfl (by first | exact Or.inl rfl | exact Or.inr rfl)) (bgs_nil))))))
  (bs_cons (bs_set (i := 3) sc_L_law.nd rfl (by first | exact Or.inl rfl | exact Or.inr rfl) (be_callTy cd_list (by rfl) Z.bl.list B.boot_list (ba_cons (bp_var (i := 8)) (ba_nil))))
  (bss_new (i := 4) sc_L_law.nd rfl (by first | exact Or.inl rfl | exact Or.inr rfl) (bn_e [3, 6, 7] (be_mk 3 (ok_P_Rule_init Z) hr (by decide) (ba_cons (bp_of (be_var (i := 6))) (ba_cons (bp_of (be_var (i := 7))) (ba_cons (bp_of (be_var (i := 3))) (ba_nil))))))
  (bns_set (i := 4) (j := 5) sc_L_law.nd rfl (by first | exact Or.inl rfl | exact Or.inr rfl) (be_mk 3 (ok_P_Rule_init Z) hr (by decide) (ba_cons (bp_of (be_var (i := 6))) (ba_cons (bp_of (be_var (i := 7))) (ba_cons (bp_of (be_callTy cd_list (by rfl) Z.bl.list B.boot_list (ba_cons (bp_var (i := 8)) (ba_nil)))) (ba_nil))))) (bns_if (i := 4) (bt_w (bw_or (bt_cmp (opd_ownNe (ok_P_Rule_eq Z) Z.ne_Rule hr (by decide)) (bp_var (i := 4)) (bp_var (i := 5))) (bw_or (bt_cmp (od_ne hr) (bp_of (be_tup (ba_cons (bp_of (be_fld "Rule" (Z.c_Rule.fld (.head _)) (bp_var (i := 4)))) (ba_cons (bp_of (be_fld "Rule" (Z.c_Rule.fld (.tail _ (.head _))) (bp_var (i := 4)))) (ba_cons (bp_of (be_fld "Rule" (Z.c_Rule.fld (.tail _ (.tail _ (.head _)))) (bp_var (i := 4)))) (ba_nil)))))) (bp_of (be_tup (ba_cons (bp_of (be_var (i := 6))) (ba_cons (bp_of (be_var (i := 7))) (ba_cons (bp_of (be_var (i := 8))) (ba_nil))))))) (bw_or1 (bt_not (bt_tru (bp_of (be_isi "list" (by rfl) Z.bl.isinstance (by rfl) Z.bl.list B.boot_list (bp_of (be_fld "Rule" (Z.c_Rule.fld (.tail _ (.tail _ (.head _)))) (bp_var (i := 4)))))))))))) (bs_one (bs_ret (be_bl)))
  (bns_expr (i := 4) (be_mut0 (i := 3) PySem.F.plainAttrs_list PySem.F.slot_list_reverse PySem.F.type_list_reverse mu_reverse rfl (by first | exact Or.inl rfl | exact Or.inr (Or.inl rfl) | exact Or.inr (Or.inr rfl))) (bns_expr (i := 4) (be_mut (i := 3) PySem.F.plainAttrs_list PySem.F.slot_list_append PySem.F.type_list_append mu_append rfl (by first | exact Or.inl rfl | exact Or.inr (Or.inl rfl) | exact Or.inr (Or.inr rfl)) (ba_cons (bp_of (be_non)) (ba_nil))) (bns_if (i := 4) (bt_cmp (od_ne hr) (bp_of (be_fld "Rule" (Z.c_Rule.fld (.tail _ (.tail _ (.head _)))) (bp_var (i := 4)))) (bp_var (i := 8))) (bs_one (bs_ret (be_bl)))
  (bns_app (i := 4) (Z.c_Rule.fld (.tail _ (.tail _ (.head _)))) rfl (by first | exact Or.inl rfl | exact Or.inr (Or.inl rfl) | exact Or.inr (Or.inr rfl)) (be_tup (ba_cons (bp_of (be_int)) (ba_nil))) (bs_cons (bs_if (bt_w (bw_or (bt_cmp (od_ne hr) (bp_of (be_fld "Rule" (Z.c_Rule.fld (.tail _ (.tail _ (.head _)))) (bp_var (i := 5)))) (bp_var (i := 8))) (bw_or1 (bt_cmp (opd_ownNe (ok_P_Rule_eq Z) Z.ne_Rule hr (by decide)) (bp_of (be_mk 3 (ok_P_Rule_init Z) hr (by decide) (ba_cons (bp_of (be_var (i := 6))) (ba_cons (bp_of (be_var (i := 7))) (ba_cons (bp_of (be_var (i := 8))) (ba_nil)))))) (bp_var (i := 5)))))) (bs_one (bs_ret (be_bl))) (bs_nil))
  (bs_cons (bs_if (bt_cmp (opd_inO (ok_P_Rule_eq Z) Z.ns_Rule hr (by decide)) (bp_var (i := 5)) (bp_of (be_lst (ba_cons (bp_of (be_non)) (ba_cons (bp_of (be_var (i := 8))) (ba_cons (bp_of (be_tup (ba_cons (bp_of (be_var (i := 6))) (ba_cons (bp_of (be_var (i := 7))) (ba_cons (bp_of (be_var (i := 8))) (ba_nil)))))) (ba_cons (bp_of (be_var (i := 6))) (ba_nil)))))))) (bs_one (bs_ret (be_bl))) (bs_nil))
  (bs_cons (bs_if (bt_w (bw_and (bt_cmp (od_ltX hr) (bp_var (i := 6)) (bp_of (be_int))) (bw_and1 (bt_cmp (opd_ownEq (ok_P_Rule_eq Z) hr (by decide)) (bp_of (be_mk 3 (ok_P_Rule_init Z) hr (by decide) (ba_cons (bp_of (be_op opd_add (bp_var (i := 6)) (bp_of (be_int)))) (ba_cons (bp_of (be_var (i := 7))) (ba_cons (bp_of (be_callTy cd_list (by rfl) Z.bl.list B.boot_list (ba_cons (bp_var (i := 8)) (ba_nil)))) (ba_nil)))))) (bp_var (i := 5)))))) (bs_one (bs_ret (be_bl))) (bs_nil))
  (bs_cons (bs_if (bt_w (bw_and (bt_cmp (od_ne hr) (bp_var (i := 8)) (bp_of (be_lst (ba_nil)))) (bw_and1 (bt_cmp (opd_ownEq (ok_P_Rule_eq Z) hr (by decide)) (bp_of (be_mk 3 (ok_P_Rule_init Z) hr (by decide) (ba_cons (bp_of (be_var (i := 6))) (ba_cons (bp_of (be_var (i := 7))) (ba_cons (bp_of (be_slice (bp_var (i := 8)) (bo_some (be_int)) (bo_none))) (ba_nil)))))) (bp_var (i := 5)))))) (bs_one (bs_ret (be_bl))) (bs_nil))
  (bs_one (bs_if (bt_w (bw_and (bt_cmp (od_eq hr) (bp_var (i := 8)) (bp_of (be_lst (ba_nil)))) (bw_and (bt_cmp (od_ltX hr) (bp_var (i := 7)) (bp_of (be_int))) (bw_and1 (bt_cmp (opd_ownEq (ok_P_Rule_eq Z) hr (by decide)) (bp_of (be_mk 3 (ok_P_Rule_init Z) hr (by decide) (ba_cons (bp_of (be_var (i := 6))) (ba_cons (bp_of (be_op opd_add (bp_var (i := 7)) (bp_of (be_int)))) (ba_cons (bp_of (be_lst (ba_nil))) (ba_nil)))))) (bp_var (i := 5))))))) (bs_one (bs_ret (be_bl))) (bs_nil))))))))))))))))))
  (bs_one (bs_ret (be_bl)))
end
end K01


set_option Elab.async false
set_option linter.all false
set_option maxRecDepth 100000
set_option maxHeartbeats 4000000
namespace K01
open PySem PySem.Spec L2 B
open RG hiding m_L_parts r_L_parts m_L_draw r_L_draw m_L_one r_L_one m_L_lists r_L_lists m_L_fits r_L_fits m_L_well r_L_well
open RK
theorem all_mk {l : PySem.W.OpenLaw} {w : World} {K : PySem.W.Frag} {h : Heap} {mg : Str → Option Value} {fa a_L_all a_L_digit a_L_windows a_L_of_rings a_L_parts a_P_is_from a_P_is_word a_P_are_words a_P_Rule_init a_L_cell_at a_P_Rule_eq a_L_law : Addr} {a_RuleError : Addr} {a_NoRule : Addr} {a_Rule : Addr} {t_MOST_SIZE : Tok} {t_MOST_WIDE : Tok} (X : K.In h) (G : h.Ns mainGlobals mg) (hfa : mg "law" = some (.ref fa))
    {xnm_NoRule xq_NoRule : Str} {xN_NoRule : Addr} {xbs_NoRule xbm_NoRule xsub_NoRule : List Value} {xsn_NoRule : List Str} {xab_NoRule : Bool} {xcol_NoRule : Option Bool} {xdd_NoRule xod_NoRule xan_NoRule : Option Addr} {x0_NoRule x1_NoRule x2_NoRule x3_NoRule x5_NoRule : Option Value} {fi_NoRule : Addr} {xoc_NoRule xkV_NoRule xdc_NoRule xpm_NoRule xcd_NoRule xct_NoRule : Value} {xsl_NoRule : Array (Option Value)}
    {nnm_Rule nqq_Rule : Str} {nN_Rule : Addr} {nbs_Rule : List Value} {nhd_Rule : Bool} {nsn_Rule : List Str} {nsu_Rule : List Value} {nab_Rule : Bool} {nco_Rule : Option Bool} {ndd_Rule : Option Addr} {n0_Rule n1_Rule n2_Rule n3_Rule n5_Rule : Option Value} {nid_Rule : String}
    {nsc_Rule : Value} {nsd_Rule : Option Addr} {nes_Rule : Array DictEntry} {nep_Rule : Nat} {nsl_Rule : Array (Option Value)}
    {od_L_all an_L_all : Option Addr} {sl_L_all : Array (Option Value)} {oc_L_all kV_L_all dc_L_all pm_L_all cd_L_all ct_L_all : Value}
    {od_L_digit an_L_digit : Option Addr} {sl_L_digit : Array (Option Value)} {oc_L_digit kV_L_digit dc_L_digit pm_L_digit cd_L_digit ct_L_digit : Value}
    {od_L_windows an_L_windows : Option Addr} {sl_L_windows : Array (Option Value)} {oc_L_windows kV_L_windows dc_L_windows pm_L_windows cd_L_windows ct_L_windows : Value}
    {od_L_of_rings an_L_of_rings : Option Addr} {sl_L_of_rings : Array (Option Value)} {oc_L_of_rings kV_L_of_rings dc_L_of_rings pm_L_of_rings cd_L_of_rings ct_L_of_rings : Value}
    {od_L_parts an_L_parts : Option Addr} {sl_L_parts : Array (Option Value)} {oc_L_parts kV_L_parts dc_L_parts pm_L_parts cd_L_parts ct_L_parts : Value}
    {od_P_is_from an_P_is_from : Option Addr} {sl_P_is_from : Array (Option Value)} {oc_P_is_from kV_P_is_from dc_P_is_from pm_P_is_from cd_P_is_from ct_P_is_from : Value}
    {od_P_is_word an_P_is_word : Option Addr} {sl_P_is_word : Array (Option Value)} {oc_P_is_word kV_P_is_word dc_P_is_word pm_P_is_word cd_P_is_word ct_P_is_word : Value}
    {od_P_are_words an_P_are_words : Option Addr} {sl_P_are_words : Array (Option Value)} {oc_P_are_words kV_P_are_words dc_P_are_words pm_P_are_words cd_P_are_words ct_P_are_words : Value}
    {od_P_Rule_init an_P_Rule_init : Option Addr} {sl_P_Rule_init : Array (Option Value)} {oc_P_Rule_init kV_P_Rule_init dc_P_Rule_init pm_P_Rule_init cd_P_Rule_init ct_P_Rule_init : Value}
    {od_L_cell_at an_L_cell_at : Option Addr} {sl_L_cell_at : Array (Option Value)} {oc_L_cell_at kV_L_cell_at dc_L_cell_at pm_L_cell_at cd_L_cell_at ct_L_cell_at : Value}
    {od_P_Rule_eq an_P_Rule_eq : Option Addr} {sl_P_Rule_eq : Array (Option Value)} {oc_P_Rule_eq kV_P_Rule_eq dc_P_Rule_eq pm_P_Rule_eq cd_P_Rule_eq ct_P_Rule_eq : Value}
    {od_L_law an_L_law : Option Addr} {sl_L_law : Array (Option Value)} {oc_L_law kV_L_law dc_L_law pm_L_law cd_L_law ct_L_law : Value}
    (g_RuleError : PySem.W.nsIn K mainGlobals "RuleError" = some (some (.ref a_RuleError)))
    (g_NoRule : PySem.W.nsIn K mainGlobals "NoRule" = some (some (.ref a_NoRule)))
    (g_Rule : PySem.W.nsIn K mainGlobals "Rule" = some (some (.ref a_Rule)))
    (xk_NoRule : PySem.W.keepIn K (.ref a_NoRule) = true)
    (xt_NoRule : PySem.W.typeIn K (.ref a_NoRule) = some (.type "type"))
    (xs_NoRule : PySem.W.subIn K (.ref a_NoRule) (.type "BaseException") = some true)
    (xl_NoRule : K.lookup a_NoRule = some (PySem.excClassObj xnm_NoRule xq_NoRule a_NoRule xN_NoRule xbs_NoRule xbm_NoRule true xsn_NoRule xsub_NoRule xab_NoRule xcol_NoRule xdd_NoRule x0_NoRule x1_NoRule x2_NoRule x3_NoRule x5_NoRule "ValueError.__new__"))
    (xv_NoRule : PySem.HandSPX.refsVE xbm_NoRule = true)
    (xa_NoRule : PySem.W.findIn K (.ref a_NoRule) "__setattr__" = some (some (.builtin "object.__setattr__")))
    (xn_NoRule : PySem.W.findIn K (.ref a_NoRule) "__init__" = some (some (.ref fi_NoRule)))
    (xy_NoRule : PySem.W.typeIn K (.ref fi_NoRule) = some (.type "function"))
    (xfl_NoRule : K.lookup fi_NoRule = some ⟨xoc_NoRule, xod_NoRule, .func (PySem.W.fnOf "__init__" "NoRule.__init__" (defArgs st_XNoRule) (defBody st_XNoRule) (defScope st_XNoRule) .none xkV_NoRule xdc_NoRule xpm_NoRule xan_NoRule xcd_NoRule xct_NoRule), xsl_NoRule⟩)
    (xfc_NoRule : PySem.W.codeIn K xcd_NoRule "NoRule.__init__" = true)
    (xfk_NoRule : PySem.W.keepIn K (.ref fi_NoRule) = true)
    (xf_NoRule : PySem.W.findIn K (.ref a_NoRule) "what" = some none)
    (rr_RuleError : PySem.W.readsIn K a_RuleError (.type "type") = true)
    (rg_RuleError : PySem.W.specialIn K (.ref a_RuleError) "__getattribute__" = some (some (.builtin "type.__getattribute__")))
    (rv_RuleError : PySem.W.findCls K (.ref a_RuleError) (.type "type") "__init__" = some (.val (.builtin "ValueError.__init__")))
    (xo_n : PySem.W.specialIn K (.builtin "object.__class__") "__get__" = some (some (.builtin "getset_descriptor.__get__")))
    (xo_t : PySem.W.takesIn K (.builtin "object.__class__") = some true)
    (cp_Rule : PySem.W.plainGet K a_Rule Str.empty = true)
    (ch_Rule : PySem.W.hasDictIn K a_Rule = true)
    (co_Rule : PySem.W.plainOver K a_Rule = true)
    (cs_Rule : PySem.W.findIn K (.ref a_Rule) "__setattr__" = some (some (.builtin "object.__setattr__")))
    (cn_Rule_size : PySem.W.findIn K (.ref a_Rule) "size" = some none)
    (cn_Rule_wide : PySem.W.findIn K (.ref a_Rule) "wide" = some none)
    (cn_Rule_words : PySem.W.findIn K (.ref a_Rule) "words" = some none)
    (cm_Rule : PySem.W.makesIn K a_Rule = true)
    (ci_Rule : PySem.W.findIn K (.ref a_Rule) "__init__" = some (some (.ref a_P_Rule_init)))
    (cf_Rule : PySem.W.isFn K (.ref a_P_Rule_init) = true)
    (ck_Rule : PySem.W.keepIn K (.ref a_Rule) = true)
    (mi_P_Rule_eq : PySem.W.findIn K (.ref a_Rule) "__eq__" = some (some (.ref a_P_Rule_eq)))
    (mf_P_Rule_eq : PySem.W.isFn K (.ref a_P_Rule_eq) = true)
    (nl_Rule : K.lookup a_Rule = some (PySem.excClassObj nnm_Rule nqq_Rule a_Rule nN_Rule nbs_Rule [.type "object"] nhd_Rule nsn_Rule nsu_Rule nab_Rule nco_Rule ndd_Rule n0_Rule n1_Rule n2_Rule n3_Rule n5_Rule nid_Rule))
    (nz_Rule : K.lookup nN_Rule = some ⟨nsc_Rule, nsd_Rule, .dict nes_Rule nep_Rule, nsl_Rule⟩)
    (no_Rule : nsStr nes_Rule = true)
    (nq_Rule : PySem.W.nsIn K nN_Rule "__eq__" = some (some (.ref a_P_Rule_eq)))
    (nn_Rule : PySem.W.nsIn K nN_Rule "__ne__" = some none)
    (nb_Rule_NoneType : PySem.W.subIn K (.ref a_Rule) (.type "NoneType") = some false)
    (nb_Rule_int : PySem.W.subIn K (.ref a_Rule) (.type "int") = some false)
    (nb_Rule_list : PySem.W.subIn K (.ref a_Rule) (.type "list") = some false)
    (nb_Rule_tuple : PySem.W.subIn K (.ref a_Rule) (.type "tuple") = some false)
    (cc_Rule : PySem.W.findIn K (.ref a_Rule) "__class__" = some (some (.builtin "object.__class__")))
    (cb_Rule : PySem.W.mroIn K a_Rule (.type "object") = some true)
    (ct_Rule : PySem.W.kitOne K (.ref a_Rule) (.ref a_Rule) = some true)
    (cq_Rule_NoneType : PySem.W.kitOne K (.type "NoneType") (.ref a_Rule) = some false)
    (cq_Rule_bool : PySem.W.kitOne K (.type "bool") (.ref a_Rule) = some false)
    (cq_Rule_int : PySem.W.kitOne K (.type "int") (.ref a_Rule) = some false)
    (cq_Rule_str : PySem.W.kitOne K (.type "str") (.ref a_Rule) = some false)
    (cq_Rule_tuple : PySem.W.kitOne K (.type "tuple") (.ref a_Rule) = some false)
    (cq_Rule_list : PySem.W.kitOne K (.type "list") (.ref a_Rule) = some false)
    (cq_Rule_dict : PySem.W.kitOne K (.type "dict") (.ref a_Rule) = some false)
    (h_L_all : PySem.W.nsIn K mainGlobals "_law_all" = some (some (.ref a_L_all)))
    (l_L_all : K.lookup a_L_all = some ⟨oc_L_all, od_L_all, .func (PySem.W.fnOf "_law_all" "_law_all" (defArgs st_L_all) (defBody st_L_all) (defScope st_L_all) .none kV_L_all dc_L_all pm_L_all an_L_all cd_L_all ct_L_all), sl_L_all⟩)
    (c_L_all : PySem.W.codeIn K cd_L_all "_law_all" = true)
    (k_L_all : PySem.W.keepIn K (.ref a_L_all) = true)
    (h_L_digit : PySem.W.nsIn K mainGlobals "_law_digit" = some (some (.ref a_L_digit)))
    (l_L_digit : K.lookup a_L_digit = some ⟨oc_L_digit, od_L_digit, .func (PySem.W.fnOf "_law_digit" "_law_digit" (defArgs st_L_digit) (defBody st_L_digit) (defScope st_L_digit) .none kV_L_digit dc_L_digit pm_L_digit an_L_digit cd_L_digit ct_L_digit), sl_L_digit⟩)
    (c_L_digit : PySem.W.codeIn K cd_L_digit "_law_digit" = true)
    (k_L_digit : PySem.W.keepIn K (.ref a_L_digit) = true)
    (h_L_windows : PySem.W.nsIn K mainGlobals "_law_windows" = some (some (.ref a_L_windows)))
    (l_L_windows : K.lookup a_L_windows = some ⟨oc_L_windows, od_L_windows, .func (PySem.W.fnOf "_law_windows" "_law_windows" (defArgs st_L_windows) (defBody st_L_windows) (defScope st_L_windows) .none kV_L_windows dc_L_windows pm_L_windows an_L_windows cd_L_windows ct_L_windows), sl_L_windows⟩)
    (c_L_windows : PySem.W.codeIn K cd_L_windows "_law_windows" = true)
    (k_L_windows : PySem.W.keepIn K (.ref a_L_windows) = true)
    (h_L_of_rings : PySem.W.nsIn K mainGlobals "_law_of_rings" = some (some (.ref a_L_of_rings)))
    (l_L_of_rings : K.lookup a_L_of_rings = some ⟨oc_L_of_rings, od_L_of_rings, .func (PySem.W.fnOf "_law_of_rings" "_law_of_rings" (defArgs st_L_of_rings) (defBody st_L_of_rings) (defScope st_L_of_rings) .none kV_L_of_rings dc_L_of_rings pm_L_of_rings an_L_of_rings cd_L_of_rings ct_L_of_rings), sl_L_of_rings⟩)
    (c_L_of_rings : PySem.W.codeIn K cd_L_of_rings "_law_of_rings" = true)
    (k_L_of_rings : PySem.W.keepIn K (.ref a_L_of_rings) = true)
    (h_L_parts : PySem.W.nsIn K mainGlobals "_law_parts" = some (some (.ref a_L_parts)))
    (l_L_parts : K.lookup a_L_parts = some ⟨oc_L_parts, od_L_parts, .func (PySem.W.fnOf "_law_parts" "_law_parts" (defArgs st_L_parts) (defBody st_L_parts) (defScope st_L_parts) .none kV_L_parts dc_L_parts pm_L_parts an_L_parts cd_L_parts ct_L_parts), sl_L_parts⟩)
    (c_L_parts : PySem.W.codeIn K cd_L_parts "_law_parts" = true)
    (k_L_parts : PySem.W.keepIn K (.ref a_L_parts) = true)
    (h_P_is_from : PySem.W.nsIn K mainGlobals "is_from" = some (some (.ref a_P_is_from)))
    (l_P_is_from : K.lookup a_P_is_from = some ⟨oc_P_is_from, od_P_is_from, .func (PySem.W.fnOf "is_from" "is_from" (defArgs st_P_is_from) (defBody st_P_is_from) (defScope st_P_is_from) .none kV_P_is_from dc_P_is_from pm_P_is_from an_P_is_from cd_P_is_from ct_P_is_from), sl_P_is_from⟩)
    (c_P_is_from : PySem.W.codeIn K cd_P_is_from "is_from" = true)
    (k_P_is_from : PySem.W.keepIn K (.ref a_P_is_from) = true)
    (h_P_is_word : PySem.W.nsIn K mainGlobals "is_word" = some (some (.ref a_P_is_word)))
    (l_P_is_word : K.lookup a_P_is_word = some ⟨oc_P_is_word, od_P_is_word, .func (PySem.W.fnOf "is_word" "is_word" (defArgs st_P_is_word) (defBody st_P_is_word) (defScope st_P_is_word) .none kV_P_is_word dc_P_is_word pm_P_is_word an_P_is_word cd_P_is_word ct_P_is_word), sl_P_is_word⟩)
    (c_P_is_word : PySem.W.codeIn K cd_P_is_word "is_word" = true)
    (k_P_is_word : PySem.W.keepIn K (.ref a_P_is_word) = true)
    (h_P_are_words : PySem.W.nsIn K mainGlobals "are_words" = some (some (.ref a_P_are_words)))
    (l_P_are_words : K.lookup a_P_are_words = some ⟨oc_P_are_words, od_P_are_words, .func (PySem.W.fnOf "are_words" "are_words" (defArgs st_P_are_words) (defBody st_P_are_words) (defScope st_P_are_words) .none kV_P_are_words dc_P_are_words pm_P_are_words an_P_are_words cd_P_are_words ct_P_are_words), sl_P_are_words⟩)
    (c_P_are_words : PySem.W.codeIn K cd_P_are_words "are_words" = true)
    (k_P_are_words : PySem.W.keepIn K (.ref a_P_are_words) = true)
    (l_P_Rule_init : K.lookup a_P_Rule_init = some ⟨oc_P_Rule_init, od_P_Rule_init, .func (PySem.W.fnOf "__init__" "Rule.__init__" (defArgs st_P_Rule_init) (defBody st_P_Rule_init) (defScope st_P_Rule_init) .none kV_P_Rule_init dc_P_Rule_init pm_P_Rule_init an_P_Rule_init cd_P_Rule_init ct_P_Rule_init), sl_P_Rule_init⟩)
    (c_P_Rule_init : PySem.W.codeIn K cd_P_Rule_init "Rule.__init__" = true)
    (k_P_Rule_init : PySem.W.keepIn K (.ref a_P_Rule_init) = true)
    (h_L_cell_at : PySem.W.nsIn K mainGlobals "_law_cell_at" = some (some (.ref a_L_cell_at)))
    (l_L_cell_at : K.lookup a_L_cell_at = some ⟨oc_L_cell_at, od_L_cell_at, .func (PySem.W.fnOf "_law_cell_at" "_law_cell_at" (defArgs st_L_cell_at) (defBody st_L_cell_at) (defScope st_L_cell_at) .none kV_L_cell_at dc_L_cell_at pm_L_cell_at an_L_cell_at cd_L_cell_at ct_L_cell_at), sl_L_cell_at⟩)
    (c_L_cell_at : PySem.W.codeIn K cd_L_cell_at "_law_cell_at" = true)
    (k_L_cell_at : PySem.W.keepIn K (.ref a_L_cell_at) = true)
    (l_P_Rule_eq : K.lookup a_P_Rule_eq = some ⟨oc_P_Rule_eq, od_P_Rule_eq, .func (PySem.W.fnOf "__eq__" "Rule.__eq__" (defArgs st_P_Rule_eq) (defBody st_P_Rule_eq) (defScope st_P_Rule_eq) .none kV_P_Rule_eq dc_P_Rule_eq pm_P_Rule_eq an_P_Rule_eq cd_P_Rule_eq ct_P_Rule_eq), sl_P_Rule_eq⟩)
    (c_P_Rule_eq : PySem.W.codeIn K cd_P_Rule_eq "Rule.__eq__" = true)
    (k_P_Rule_eq : PySem.W.keepIn K (.ref a_P_Rule_eq) = true)
    (h_L_law : PySem.W.nsIn K mainGlobals "law" = some (some (.ref a_L_law)))
    (l_L_law : K.lookup a_L_law = some ⟨oc_L_law, od_L_law, .func (PySem.W.fnOf "law" "law" (defArgs st_L_law) (defBody st_L_law) (defScope st_L_law) .none kV_L_law dc_L_law pm_L_law an_L_law cd_L_law ct_L_law), sl_L_law⟩)
    (c_L_law : PySem.W.codeIn K cd_L_law "law" = true)
    (k_L_law : PySem.W.keepIn K (.ref a_L_law) = true)
    (g_MOST_SIZE : PySem.W.nsIn K mainGlobals "MOST_SIZE" = some (some (.int 4 t_MOST_SIZE)))
    (g_MOST_WIDE : PySem.W.nsIn K mainGlobals "MOST_WIDE" = some (some (.int 4 t_MOST_WIDE)))
    (z_len : PySem.W.nsIn K mainGlobals "len" = some none)
    (z_range : PySem.W.nsIn K mainGlobals "range" = some none)
    (z_isinstance : PySem.W.nsIn K mainGlobals "isinstance" = some none)
    (z_int : PySem.W.nsIn K mainGlobals "int" = some none)
    (z_bool : PySem.W.nsIn K mainGlobals "bool" = some none)
    (z_list : PySem.W.nsIn K mainGlobals "list" = some none)
    (z_tuple : PySem.W.nsIn K mainGlobals "tuple" = some none)
    (z_str : PySem.W.nsIn K mainGlobals "str" = some none)
    (z_dict : PySem.W.nsIn K mainGlobals "dict" = some none)
    (z_set : PySem.W.nsIn K mainGlobals "set" = some none)
    (z_sorted : PySem.W.nsIn K mainGlobals "sorted" = some none)
    (z_repr : PySem.W.nsIn K mainGlobals "repr" = some none)
    (z_min : PySem.W.nsIn K mainGlobals "min" = some none)
    (z_max : PySem.W.nsIn K mainGlobals "max" = some none)
    (z_sum : PySem.W.nsIn K mainGlobals "sum" = some none)
    (z_all : PySem.W.nsIn K mainGlobals "all" = some none)
    (z_any : PySem.W.nsIn K mainGlobals "any" = some none)
    (z_zip : PySem.W.nsIn K mainGlobals "zip" = some none)
    (z_enumerate : PySem.W.nsIn K mainGlobals "enumerate" = some none)
    (z_abs : PySem.W.nsIn K mainGlobals "abs" = some none) :
    ∃ fd : FuncData, (∀ (s : Shared) (v : Value), BindsTo s fd ⟨[v], []⟩ [("_law_script", v)]) ∧ ∀ base : Heap, K.In base → base.Ns mainGlobals mg → FnG l.prog w K mg base 6 fa fd q_L_law (spB K mg [false] r_L_law) := by
  have e := hfa.symm.trans (PySem.W.mg_of X G h_L_law)
  cases e
  have F_L_all := fun_mk (st := st_L_all) l_L_all c_L_all k_L_all
  have F_L_digit := fun_mk (st := st_L_digit) l_L_digit c_L_digit k_L_digit
  have F_L_windows := fun_mk (st := st_L_windows) l_L_windows c_L_windows k_L_windows
  have F_L_of_rings := fun_mk (st := st_L_of_rings) l_L_of_rings c_L_of_rings k_L_of_rings
  have F_L_parts := fun_mk (st := st_L_parts) l_L_parts c_L_parts k_L_parts
  have F_P_is_from := fun_mk (st := st_P_is_from) l_P_is_from c_P_is_from k_P_is_from
  have F_P_is_word := fun_mk (st := st_P_is_word) l_P_is_word c_P_is_word k_P_is_word
  have F_P_are_words := fun_mk (st := st_P_are_words) l_P_are_words c_P_are_words k_P_are_words
  have F_P_Rule_init := fun_mk (st := st_P_Rule_init) l_P_Rule_init c_P_Rule_init k_P_Rule_init
  have F_L_cell_at := fun_mk (st := st_L_cell_at) l_L_cell_at c_L_cell_at k_L_cell_at
  have F_P_Rule_eq := fun_mk (st := st_P_Rule_eq) l_P_Rule_eq c_P_Rule_eq k_P_Rule_eq
  have F_L_law := fun_mk (st := st_L_law) l_L_law c_L_law k_L_law
  have F_XNoRule := fun_mk (st := st_XNoRule) xfl_NoRule xfc_NoRule xfk_NoRule
  have b_XNoRule := F_XNoRule.binds (ps := ["self", "what"]) fun _ _ _ _ _ _ us hl => match us, hl with | [_, _], _ => rfl
  have b_L_all := F_L_all.binds (ps := q_L_all) fun _ _ _ _ _ _ us hl => match us, hl with | [_, _], _ => rfl
  have b_L_digit := F_L_digit.binds (ps := q_L_digit) fun _ _ _ _ _ _ us hl => match us, hl with | [_, _], _ => rfl
  have b_L_windows := F_L_windows.binds (ps := q_L_windows) fun _ _ _ _ _ _ us hl => match us, hl with | [_, _], _ => rfl
  have b_L_of_rings := F_L_of_rings.binds (ps := q_L_of_rings) fun _ _ _ _ _ _ us hl => match us, hl with | [_], _ => rfl
  have b_L_parts := F_L_parts.binds (ps := q_L_parts) fun _ _ _ _ _ _ us hl => match us, hl with | [_], _ => rfl
  have b_P_is_from := F_P_is_from.binds (ps := q_P_is_from) fun _ _ _ _ _ _ us hl => match us, hl with | [_, _, _], _ => rfl
  have b_P_is_word := F_P_is_word.binds (ps := q_P_is_word) fun _ _ _ _ _ _ us hl => match us, hl with | [_, _, _], _ => rfl
  have b_P_are_words := F_P_are_words.binds (ps := q_P_are_words) fun _ _ _ _ _ _ us hl => match us, hl with | [_, _, _], _ => rfl
  have b_P_Rule_init := F_P_Rule_init.binds (ps := q_P_Rule_init) fun _ _ _ _ _ _ us hl => match us, hl with | [_, _, _, _], _ => rfl
  have b_L_cell_at := F_L_cell_at.binds (ps := q_L_cell_at) fun _ _ _ _ _ _ us hl => match us, hl with | [_, _], _ => rfl
  have b_P_Rule_eq := F_P_Rule_eq.binds (ps := q_P_Rule_eq) fun _ _ _ _ _ _ us hl => match us, hl with | [_, _], _ => rfl
  have Z : Wr K mg := ⟨⟨PySem.W.mg_none_of X G z_len, PySem.W.mg_none_of X G z_range, PySem.W.mg_none_of X G z_isinstance, PySem.W.mg_none_of X G z_int, PySem.W.mg_none_of X G z_bool, PySem.W.mg_none_of X G z_list, PySem.W.mg_none_of X G z_tuple, PySem.W.mg_none_of X G z_str, PySem.W.mg_none_of X G z_dict, PySem.W.mg_none_of X G z_set, PySem.W.mg_none_of X G z_sorted, PySem.W.mg_none_of X G z_repr, PySem.W.mg_none_of X G z_min, PySem.W.mg_none_of X G z_max, PySem.W.mg_none_of X G z_sum, PySem.W.mg_none_of X G z_all, PySem.W.mg_none_of X G z_any, PySem.W.mg_none_of X G z_zip, PySem.W.mg_none_of X G z_enumerate, PySem.W.mg_none_of X G z_abs⟩,
    ⟨_, PySem.W.mg_of X G g_MOST_SIZE⟩,
    ⟨_, PySem.W.mg_of X G g_MOST_WIDE⟩,
    ⟨_, _, _, PySem.W.mg_of X G g_NoRule, ⟨⟨_, _, _, _, _, _, _, _, _, _, _, _, _, _, _, xl_NoRule, xv_NoRule⟩, xa_NoRule, xs_NoRule, xt_NoRule, xk_NoRule⟩, xn_NoRule, xy_NoRule, F_XNoRule, b_XNoRule, xf_NoRule⟩,
    ⟨_, PySem.W.mg_of X G g_RuleError, rr_RuleError, rg_RuleError, rv_RuleError⟩,
    ⟨_, _, _, PySem.W.mg_of X G g_Rule, ⟨cp_Rule, ch_Rule, co_Rule, cs_Rule⟩, (mem_cons cn_Rule_size (mem_cons cn_Rule_wide (mem_cons cn_Rule_words mem_nil))), ⟨cm_Rule, ci_Rule, cf_Rule, ck_Rule⟩, F_P_Rule_init, b_P_Rule_init⟩,
    ⟨_, _, _, PySem.W.mg_of X G g_Rule, mi_P_Rule_eq, mf_P_Rule_eq, F_P_Rule_eq, b_P_Rule_eq⟩,
    fun C f h1 h2 => by
      cases h1.symm.trans (PySem.W.mg_of X G g_Rule)
      cases h2.symm.trans mi_P_Rule_eq
      exact ⟨_, _, _, _, _, _, _, _, _, _, _, _, _, _, _, _, nl_Rule, nsOk_of nz_Rule no_Rule, nq_Rule, nn_Rule⟩,
    ⟨_, PySem.W.mg_of X G g_Rule, nb_Rule_NoneType, nb_Rule_int, nb_Rule_list, nb_Rule_tuple⟩,
    ⟨_, PySem.W.mg_of X G g_Rule, ⟨cp_Rule, ch_Rule, co_Rule, cs_Rule⟩, cc_Rule, xo_n, xo_t, cb_Rule, ct_Rule, (mem_cons cq_Rule_NoneType (mem_cons cq_Rule_bool (mem_cons cq_Rule_int (mem_cons cq_Rule_str (mem_cons cq_Rule_tuple (mem_cons cq_Rule_list (mem_cons cq_Rule_dict mem_nil)))))))⟩,
    ⟨⟨_, _, F_L_all, PySem.W.mg_of X G h_L_all, b_L_all⟩⟩,
    ⟨⟨_, _, F_L_digit, PySem.W.mg_of X G h_L_digit, b_L_digit⟩⟩,
    ⟨⟨_, _, F_L_windows, PySem.W.mg_of X G h_L_windows, b_L_windows⟩⟩,
    ⟨⟨_, _, F_L_of_rings, PySem.W.mg_of X G h_L_of_rings, b_L_of_rings⟩⟩,
    ⟨⟨_, _, F_L_parts, PySem.W.mg_of X G h_L_parts, b_L_parts⟩⟩,
    ⟨⟨_, _, F_P_is_from, PySem.W.mg_of X G h_P_is_from, b_P_is_from⟩⟩,
    ⟨⟨_, _, F_P_is_word, PySem.W.mg_of X G h_P_is_word, b_P_is_word⟩⟩,
    ⟨⟨_, _, F_P_are_words, PySem.W.mg_of X G h_P_are_words, b_P_are_words⟩⟩,
    ⟨⟨_, _, F_L_cell_at, PySem.W.mg_of X G h_L_cell_at, b_L_cell_at⟩⟩⟩
  exact ⟨_, fun s v => .of_eq rfl, fun base _ _ => ok_L_law Z F_L_law⟩
end K01
open PySem PySem.W PyProof.Rows
set_option maxHeartbeats 0 in
theorem PySem.Challenge.cw_ringrules_k01_rules_told_holds : PySem.Challenge.rw_ringrules_k01_rules_told.Holds := by
  w_on; o_law; k_head; (case hw => w_witness2)
  k_fill
  refine B.walk_B (l := PySem.Challenge.rw_ringrules_k01_rules_told) (n := 63) (k := 6) (x := "_law_script") (sp := fun w mg => B.spB _ mg [false] K01.r_L_law) rfl (by decide) rfl ⟨rfl, by decide, by decide⟩ (fun w h Y => PySem.W.kIn_of Y) ?F (fun _ _ _ a ns hl hb hS => B.sp_law hS (K01.law_true ns hl hb))
  case F =>
    intro w mg fa h KX G hmg
    refine' K01.all_mk KX G hmg ?g_RuleError ?g_NoRule ?g_Rule ?xk_NoRule ?xt_NoRule ?xs_NoRule ?xl_NoRule ?xv_NoRule ?xa_NoRule ?xn_NoRule ?xy_NoRule ?xfl_NoRule ?xfc_NoRule ?xfk_NoRule ?xf_NoRule ?rr_RuleError ?rg_RuleError ?rv_RuleError ?xo_n ?xo_t ?cp_Rule ?ch_Rule ?co_Rule ?cs_Rule ?cn_Rule_size ?cn_Rule_wide ?cn_Rule_words ?cm_Rule ?ci_Rule ?cf_Rule ?ck_Rule ?mi_P_Rule_eq ?mf_P_Rule_eq ?nl_Rule ?nz_Rule ?no_Rule ?nq_Rule ?nn_Rule ?nb_Rule_NoneType ?nb_Rule_int ?nb_Rule_list ?nb_Rule_tuple ?cc_Rule ?cb_Rule ?ct_Rule ?cq_Rule_NoneType ?cq_Rule_bool ?cq_Rule_int ?cq_Rule_str ?cq_Rule_tuple ?cq_Rule_list ?cq_Rule_dict ?h_L_all ?l_L_all ?c_L_all ?k_L_all ?h_L_digit ?l_L_digit ?c_L_digit ?k_L_digit ?h_L_windows ?l_L_windows ?c_L_windows ?k_L_windows ?h_L_of_rings ?l_L_of_rings ?c_L_of_rings ?k_L_of_rings ?h_L_parts ?l_L_parts ?c_L_parts ?k_L_parts ?h_P_is_from ?l_P_is_from ?c_P_is_from ?k_P_is_from ?h_P_is_word ?l_P_is_word ?c_P_is_word ?k_P_is_word ?h_P_are_words ?l_P_are_words ?c_P_are_words ?k_P_are_words ?l_P_Rule_init ?c_P_Rule_init ?k_P_Rule_init ?h_L_cell_at ?l_L_cell_at ?c_L_cell_at ?k_L_cell_at ?l_P_Rule_eq ?c_P_Rule_eq ?k_P_Rule_eq ?h_L_law ?l_L_law ?c_L_law ?k_L_law ?g_MOST_SIZE ?g_MOST_WIDE ?z_len ?z_range ?z_isinstance ?z_int ?z_bool ?z_list ?z_tuple ?z_str ?z_dict ?z_set ?z_sorted ?z_repr ?z_min ?z_max ?z_sum ?z_all ?z_any ?z_zip ?z_enumerate ?z_abs
    (case g_RuleError => k_is); (case g_NoRule => k_is); (case g_Rule => k_is); (case xk_NoRule => k_is); (case xt_NoRule => k_is); (case xs_NoRule => k_is); (case xl_NoRule => k_is); (case xv_NoRule => first | rfl | decide +kernel); (case xa_NoRule => k_is); (case xn_NoRule => k_is); (case xy_NoRule => k_is); (case xfl_NoRule => k_is); (case xfc_NoRule => k_is); (case xfk_NoRule => k_is); (case xf_NoRule => k_is); (case rr_RuleError => k_is); (case rg_RuleError => k_is); (case rv_RuleError => k_is); (case xo_n => k_is); (case xo_t => k_is); (case cp_Rule => k_is); (case ch_Rule => k_is); (case co_Rule => k_is); (case cs_Rule => k_is); (case cn_Rule_size => k_is); (case cn_Rule_wide => k_is); (case cn_Rule_words => k_is); (case cm_Rule => k_is); (case ci_Rule => k_is); (case cf_Rule => k_is); (case ck_Rule => k_is); (case mi_P_Rule_eq => k_is); (case mf_P_Rule_eq => k_is); (case nl_Rule => k_is); (case nz_Rule => k_is); (case no_Rule => first | rfl | decide); (case nq_Rule => k_is); (case nn_Rule => k_is); (case nb_Rule_NoneType => k_is); (case nb_Rule_int => k_is); (case nb_Rule_list => k_is); (case nb_Rule_tuple => k_is); (case cc_Rule => k_is); (case cb_Rule => k_is); (case ct_Rule => kit_is); (case cq_Rule_NoneType => kit_is); (case cq_Rule_bool => kit_is); (case cq_Rule_int => kit_is); (case cq_Rule_str => kit_is); (case cq_Rule_tuple => kit_is); (case cq_Rule_list => kit_is); (case cq_Rule_dict => kit_is); (case h_L_all => k_is); (case l_L_all => k_is); (case c_L_all => k_is); (case k_L_all => k_is); (case h_L_digit => k_is); (case l_L_digit => k_is); (case c_L_digit => k_is); (case k_L_digit => k_is); (case h_L_windows => k_is); (case l_L_windows => k_is); (case c_L_windows => k_is); (case k_L_windows => k_is); (case h_L_of_rings => k_is); (case l_L_of_rings => k_is); (case c_L_of_rings => k_is); (case k_L_of_rings => k_is); (case h_L_parts => k_is); (case l_L_parts => k_is); (case c_L_parts => k_is); (case k_L_parts => k_is); (case h_P_is_from => k_is); (case l_P_is_from => k_is); (case c_P_is_from => k_is); (case k_P_is_from => k_is); (case h_P_is_word => k_is); (case l_P_is_word => k_is); (case c_P_is_word => k_is); (case k_P_is_word => k_is); (case h_P_are_words => k_is); (case l_P_are_words => k_is); (case c_P_are_words => k_is); (case k_P_are_words => k_is); (case l_P_Rule_init => k_is); (case c_P_Rule_init => k_is); (case k_P_Rule_init => k_is); (case h_L_cell_at => k_is); (case l_L_cell_at => k_is); (case c_L_cell_at => k_is); (case k_L_cell_at => k_is); (case l_P_Rule_eq => k_is); (case c_P_Rule_eq => k_is); (case k_P_Rule_eq => k_is); (case h_L_law => k_is); (case l_L_law => k_is); (case c_L_law => k_is); (case k_L_law => k_is); (case g_MOST_SIZE => k_is); (case g_MOST_WIDE => k_is); (case z_len => k_is); (case z_range => k_is); (case z_isinstance => k_is); (case z_int => k_is); (case z_bool => k_is); (case z_list => k_is); (case z_tuple => k_is); (case z_str => k_is); (case z_dict => k_is); (case z_set => k_is); (case z_sorted => k_is); (case z_repr => k_is); (case z_min => k_is); (case z_max => k_is); (case z_sum => k_is); (case z_all => k_is); (case z_any => k_is); (case z_zip => k_is); (case z_enumerate => k_is); (case z_abs => k_is)


