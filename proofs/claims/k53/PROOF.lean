import PyProof.Rows.All
import Wide.All
import OpenK.AllK
import Wide.FinOn
import HandS.ForMost
import HandS.ForExc
import HandS.CallSlots
import HandS.Lambda
import HandS.EndTab
import HandS.TupAny
import HandS.TupMul
import HandS.TupLe
import HandS.Deep
import HandS.Wide
import HandS.Flow
import HandS.Style
import HandS.IsInst
import HandS.Defaults
import HandS.EndBits
import HandS.Comp
import HandS.Zip
import HandS.TryMany
import HandS.ExcField
import HandS.ExcIs
import HandS.ExcInit
import KE.KExcIs
import HandS.More
import HandS.SetFor
import HandS.TupSets
import KE.SortData
import KE.DataCmp
import KE.DataFind
import HandS.Text
import PyProof.InstNe
import HandS.Conv
import HandS.RaiseMore
import PySem.Challenge.RW_ringrules_k53_what_are_no_names
set_option Elab.async false
set_option linter.all false
set_option maxRecDepth 100000
set_option maxHeartbeats 4000000
namespace B
open PySem PySem.Spec L2

/-! ## values without a heap -/
inductive Tag where
  | tup | lst | dct | scr | ins (c : Str) (fs : List Str)
  deriving DecidableEq
inductive D where
  | non | bl (b : Bool) | int (i : Int) | str (x : Str) | nd (t : Tag) (ds : List D)
abbrev D.tup (ds : List D) : D := .nd .tup ds
abbrev D.lst (ds : List D) : D := .nd .lst ds
abbrev D.dct (ds : List D) : D := .nd .dct ds
/-- a key of a dict as data -/
def keyD : Key → D
  | .inl i => .int i
  | .inr x => .str x
/-- the entries of a dict, as tuples -/
inductive KDs : List Key → List D → List D → Prop
  | nil : KDs [] [] []
  | cons {k : Key} {ks : List Key} {d : D} {ds es : List D} : KDs ks ds es → KDs (k :: ks) (d :: ds) (.tup [keyD k, d] :: es)
inductive TDs : List (List Key) → List D → List D → Prop
  | nil : TDs [] [] []
  | cons {k : List Key} {ks : List (List Key)} {d : D} {ds es : List D} : TDs ks ds es → TDs (k :: ks) (d :: ds) (.tup [.tup (k.map keyD), d] :: es)
mutual
/-- v stands for d, in the heap F -/
inductive DR (K : PySem.W.Frag) (mg : Str → Option Value) (F : Hp) : V → D → Prop
  | non : DR K mg F .non .non
  | bl (b : Bool) : DR K mg F (.bl b) (.bl b)
  | int (i : Int) : DR K mg F (.int i) (.int i)
  | str (x : Str) : DR K mg F (.str x) (.str x)
  | tup {a : Addr} {vs : List V} {ds : List D} : SqT K F a vs → DRs K mg F vs ds → DR K mg F (.ref a) (.nd .tup ds)
  | lst {a : Addr} {vs : List V} {ds : List D} : F a = some (.lst vs) → DRs K mg F vs ds → DR K mg F (.ref a) (.nd .lst ds)
  | scr {a : Addr} {vs : List V} {ds : List D} : SqL K F a vs → DRs K mg F vs ds → DR K mg F (.ref a) (.nd .scr ds)
  | dK {a : Addr} {kvs : List (Key × V)} {ds es : List D} : F a = some (.dK kvs) → DRs K mg F (kvs.map (·.2)) ds → KDs (kvs.map (·.1)) ds es → DR K mg F (.ref a) (.nd .dct es)
  | dT {a : Addr} {kvs : List (List Key × V)} {ds es : List D} : F a = some (.dT kvs) → DRs K mg F (kvs.map (·.2)) ds → TDs (kvs.map (·.1)) ds es → DR K mg F (.ref a) (.nd .dct es)
  | ins {a C dx : Addr} {c : Str} {fs : List (Str × V)} {ds : List D} : F a = some (.ins C dx fs) → mg c = some (.ref C) → DRs K mg F (fs.map (·.2)) ds → DR K mg F (.ref a) (.nd (.ins c (fs.map (·.1))) ds)
inductive DRs (K : PySem.W.Frag) (mg : Str → Option Value) (F : Hp) : List V → List D → Prop
  | nil : DRs K mg F [] []
  | cons {v : V} {vs : List V} {d : D} {ds : List D} : DR K mg F v d → DRs K mg F vs ds → DRs K mg F (v :: vs) (d :: ds)
end
section
variable {K : PySem.W.Frag} {mg : Str → Option Value} {F F' H : Hp}
theorem Same.rd {a : Addr} {u : HO} (e : Same F F') (h : Rd F a u) : Rd F' a u := by
  rcases h with h | ⟨o, h⟩
  · exact .inl (e _ _ h)
  · exact .inr ⟨o, e _ _ h⟩
theorem Same.sqT {a : Addr} {vs : List V} (e : Same F F') (h : SqT K F a vs) : SqT K F' a vs := by
  rcases h with h | h
  · exact .inl (Same.rd e h)
  · exact .inr h
theorem Same.sqL {a : Addr} {vs : List V} (e : Same F F') (h : SqL K F a vs) : SqL K F' a vs := by
  rcases h with h | h
  · exact .inl (Same.rd e h)
  · exact .inr h
mutual
theorem DR.mono (e : Same F F') : ∀ {v : V} {d : D}, DR K mg F v d → DR K mg F' v d
  | _, _, .non => .non
  | _, _, .bl b => .bl b
  | _, _, .int i => .int i
  | _, _, .str x => .str x
  | _, _, .tup h r => .tup (Same.sqT e h) (DRs.mono e r)
  | _, _, .lst h r => .lst (e _ _ h) (DRs.mono e r)
  | _, _, .scr h r => .scr (Same.sqL e h) (DRs.mono e r)
  | _, _, .dK h r q => .dK (e _ _ h) (DRs.mono e r) q
  | _, _, .dT h r q => .dT (e _ _ h) (DRs.mono e r) q
  | _, _, .ins h g r => .ins (e _ _ h) g (DRs.mono e r)
theorem DRs.mono (e : Same F F') : ∀ {vs : List V} {ds : List D}, DRs K mg F vs ds → DRs K mg F' vs ds
  | _, _, .nil => .nil
  | _, _, .cons a b => .cons (DR.mono e a) (DRs.mono e b)
end
theorem DRs.length : ∀ {vs : List V} {ds : List D}, DRs K mg F vs ds → vs.length = ds.length
  | _, _, .nil => rfl
  | _, _, .cons _ b => by rw [List.length_cons, List.length_cons, DRs.length b]
theorem DRs.get : ∀ {vs : List V} {ds : List D} {i : Nat} {v : V}, DRs K mg F vs ds → vs[i]? = some v → ∃ d, ds[i]? = some d ∧ DR K mg F v d
  | _, _, _, _, .nil, h => by simp at h
  | _, _, 0, _, .cons a _, h => by
    have e := Option.some.inj h
    subst e
    exact ⟨_, rfl, a⟩
  | _, _, i + 1, v, .cons _ b, h => DRs.get (i := i) b h
theorem DRs.getD : ∀ {vs : List V} {ds : List D} {i : Nat} {d : D}, DRs K mg F vs ds → ds[i]? = some d → ∃ v, vs[i]? = some v ∧ DR K mg F v d
  | _, _, _, _, .nil, h => by simp at h
  | _, _, 0, _, .cons a _, h => by
    have e := Option.some.inj h
    subst e
    exact ⟨_, rfl, a⟩
  | _, _, i + 1, d, .cons _ b, h => DRs.getD (i := i) b h
theorem DRs.append : ∀ {vs ws : List V} {ds es : List D}, DRs K mg F vs ds → DRs K mg F ws es → DRs K mg F (vs ++ ws) (ds ++ es)
  | _, _, _, _, .nil, s => s
  | _, _, _, _, .cons a b, s => .cons a (DRs.append b s)
theorem DRs.take : ∀ {vs : List V} {ds : List D} (n : Nat), DRs K mg F vs ds → DRs K mg F (vs.take n) (ds.take n)
  | _, _, 0, _ => .nil
  | _, _, _ + 1, .nil => .nil
  | _, _, n + 1, .cons a b => .cons a (DRs.take n b)
theorem DRs.drop : ∀ {vs : List V} {ds : List D} (n : Nat), DRs K mg F vs ds → DRs K mg F (vs.drop n) (ds.drop n)
  | _, _, 0, h => h
  | _, _, _ + 1, .nil => .nil
  | _, _, n + 1, .cons _ b => DRs.drop n b
theorem DRs.set {v : V} {d : D} (h : DR K mg F v d) : ∀ {vs : List V} {ds : List D} (i : Nat), DRs K mg F vs ds → DRs K mg F (vs.set i v) (ds.set i d)
  | _, _, _, .nil => .nil
  | _, _, 0, .cons _ b => .cons h b
  | _, _, i + 1, .cons a b => .cons a (DRs.set h i b)
theorem DRs.reverse {vs : List V} {ds : List D} (h : DRs K mg F vs ds) : DRs K mg F vs.reverse ds.reverse := by
  have key : ∀ {vs : List V} {ds : List D} {ws : List V} {es : List D}, DRs K mg F vs ds → DRs K mg F ws es → DRs K mg F (vs.reverse ++ ws) (ds.reverse ++ es) := by
    intro vs
    induction vs with
    | nil =>
      intro ds ws es h1 h2
      cases h1
      exact h2
    | cons v vs ih =>
      intro ds ws es h1 h2
      cases h1 with
      | cons a b =>
        rw [List.reverse_cons, List.reverse_cons, List.append_assoc, List.append_assoc]
        exact ih b (.cons a h2)
  have := key h (.nil (K := K) (mg := mg) (F := F))
  rwa [List.append_nil, List.append_nil] at this
theorem DRs.ints : ∀ (ns : List Int), DRs K mg F (ns.map V.int) (ns.map D.int)
  | [] => .nil
  | n :: ns => .cons (.int n) (DRs.ints ns)
theorem DRs.int_of : ∀ {vs : List V} {ns : List Int}, DRs K mg F vs (ns.map D.int) → vs = ns.map V.int
  | _, [], .nil => rfl
  | _, n :: ns, .cons a b => by
    cases a
    rw [List.map_cons, DRs.int_of b]
theorem DRs.bl_of : ∀ {vs : List V} {bs : List Bool}, DRs K mg F vs (bs.map D.bl) → vs = bs.map V.bl
  | _, [], .nil => rfl
  | _, n :: ns, .cons a b => by
    cases a
    rw [List.map_cons, DRs.bl_of b]
theorem DRs.str_of : ∀ {vs : List V} {bs : List Str}, DRs K mg F vs (bs.map D.str) → vs = bs.map V.str
  | _, [], .nil => rfl
  | _, n :: ns, .cons a b => by
    cases a
    rw [List.map_cons, DRs.str_of b]
end
/-! ## data that no object that can change belongs to -/
mutual
def imm : D → Bool
  | .nd .tup ds => imms ds
  | .nd _ _ => false
  | _ => true
def imms : List D → Bool
  | [] => true
  | d :: ds => imm d && imms ds
end
/-- tuples (and what is written, locked) stand in F' -/
def Tups (F F' : Hp) : Prop := ∀ a xs, F a = some (.tup xs) → F' a = some (.tup xs)
def Frzs (F F' : Hp) : Prop := ∀ a o u, F a = some (.frz o u) → F' a = some (.frz o u)
mutual
theorem DR.imm {K : PySem.W.Frag} {mg : Str → Option Value} {F F' : Hp} (t : Tups F F') (z : Frzs F F') : ∀ {v : V} {d : D}, DR K mg F v d → imm d = true → DR K mg F' v d
  | _, _, .non, _ => .non
  | _, _, .bl b, _ => .bl b
  | _, _, .int i, _ => .int i
  | _, _, .str x, _ => .str x
  | _, _, .tup h r, e => by
    refine .tup ?_ (DRs.imm t z r (by simpa [B.imm] using e))
    rcases h with (h | ⟨o, h⟩) | h
    · exact .inl (.inl (t _ _ h))
    · exact .inl (.inr ⟨o, z _ _ _ h⟩)
    · exact .inr h
  | _, _, .lst h r, e => by simp [B.imm] at e
  | _, _, .scr h r, e => by simp [B.imm] at e
  | _, _, .dK h r q, e => by simp [B.imm] at e
  | _, _, .dT h r q, e => by simp [B.imm] at e
  | _, _, .ins h g r, e => by simp [B.imm] at e
theorem DRs.imm {K : PySem.W.Frag} {mg : Str → Option Value} {F F' : Hp} (t : Tups F F') (z : Frzs F F') : ∀ {vs : List V} {ds : List D}, DRs K mg F vs ds → imms ds = true → DRs K mg F' vs ds
  | _, _, .nil, _ => .nil
  | _, _, .cons a b, e => by
    simp only [B.imms, Bool.and_eq_true] at e
    exact .cons (DR.imm t z a e.1) (DRs.imm t z b e.2)
end

/-! ## slots, states, runs -/
/-- an exception: its class's name, its fields -/
structure Exn where
  cls : Str
  fs : List (Str × D)
/-- a caught exception: where, of which class, where its dict is, its data -/
structure Ez where
  a : Addr
  cls : Value
  dd : Option Addr
  x : Exn
  /-- of a lambda: what its maker's names hold, as data; objects that stay -/
  vs : List V
  ds : List D
  cs : List (Addr × HO)
abbrev ez (a : Addr) (cls : Value) (dd : Option Addr) (x : Exn) : Ez := ⟨a, cls, dd, x, [], [], []⟩
/-- what a name holds: nothing; data that stays as it is; a caught exception; an object of one's own (io: the caller's, handed in to be changed) -/
inductive Sl where
  | un | fz (d : D) | ex (z : Ez) | own (io : Option Nat) (d : D) | gh (ts : List (Addr × Str))
abbrev Env := List Sl
inductive R (α : Type) where
  | stuck | ok (a : α) (β : Env) | exc (x : Exn) (β : Env)
abbrev M (α : Type) := Env → R α
def R.bnd {α γ : Type} (r : R α) (f : α → Env → R γ) : R γ := match r with
  | .stuck => .stuck
  | .ok a β => f a β
  | .exc x β => .exc x β
def ret {α : Type} (a : α) : M α := fun β => .ok a β
def bnd {α γ : Type} (m : M α) (f : α → M γ) : M γ := fun β => (m β).bnd f
def stk {α : Type} : M α := fun _ => .stuck
def liftO {α : Type} (o : Option α) : M α := match o with
  | none => stk
  | some a => ret a
theorem R.bnd_assoc {α γ δ : Type} (r : R α) (f : α → Env → R γ) (g : γ → Env → R δ) : (r.bnd f).bnd g = r.bnd fun a β => (f a β).bnd g := by cases r <;> rfl
theorem bnd_assoc {α γ δ : Type} (m : M α) (f : α → M γ) (g : γ → M δ) : bnd (bnd m f) g = bnd m fun a => bnd (f a) g := by
  funext β
  exact R.bnd_assoc _ _ _
/-- what an expression hands back: data that stays; a new object that nobody else holds -/
inductive Rs where
  | fz (d : D) | own (d : D)
def Rs.d : Rs → D
  | .fz d => d
  | .own d => d
/-- a value that is read at once: data, or what stands in a slot -/
inductive Pl where
  | d (d : D) | sl (i : Nat)
def look (β : Env) : Pl → Option D
  | .d d => some d
  | .sl i => match β[i]? with
    | some (.fz d) => some d
    | some (.own _ d) => some d
    | _ => none
inductive Fl where
  | nx | ret (r : Rs) | brk | ct

/-! ## the invariant -/
/-- an object of one's own at a: its content, of data that stays -/
inductive OwnR (K : PySem.W.Frag) (mg : Str → Option Value) (F H : Hp) (a : Addr) : D → Prop
  | lst {vs : List V} {ds : List D} : H a = some (.lst vs) → DRs K mg F vs ds → OwnR K mg F H a (.nd .lst ds)
  | dK {kvs : List (Key × V)} {ds es : List D} : H a = some (.dK kvs) → DRs K mg F (kvs.map (·.2)) ds → KDs (kvs.map (·.1)) ds es → OwnR K mg F H a (.nd .dct es)
  | dT {kvs : List (List Key × V)} {ds es : List D} : H a = some (.dT kvs) → DRs K mg F (kvs.map (·.2)) ds → TDs (kvs.map (·.1)) ds es → OwnR K mg F H a (.nd .dct es)
  | ins {C dx : Addr} {c : Str} {fs : List (Str × V)} {ds : List D} : H a = some (.ins C dx fs) → mg c = some (.ref C) → DRs K mg F (fs.map (·.2)) ds → OwnR K mg F H a (.nd (.ins c (fs.map (·.1))) ds)
section
variable {K : PySem.W.Frag} {mg : Str → Option Value} {G : GT} {F F' H H' : Hp} {io : List Addr} {β : Env} {σ : L2.St} {a : Addr} {d : D}
theorem OwnR.there (h : OwnR K mg F H a d) : ∃ o, H a = some o ∧ (∀ xs, o ≠ .tup xs) ∧ ∀ ob u, o ≠ .frz ob u := by
  cases h with
  | lst h _ => exact ⟨_, h, fun _ => nofun, fun _ _ => nofun⟩
  | dK h _ _ => exact ⟨_, h, fun _ => nofun, fun _ _ => nofun⟩
  | dT h _ _ => exact ⟨_, h, fun _ => nofun, fun _ _ => nofun⟩
  | ins h _ _ => exact ⟨_, h, fun _ => nofun, fun _ _ => nofun⟩
theorem OwnR.nc (h : OwnR K mg F H a d) : ∀ c q, H a ≠ some (LamX.CodeO c q) := fun c q z => by
  unfold LamX.CodeO at z
  cases h with
  | lst h _ => rw [h] at z; cases z
  | dK h _ _ => rw [h] at z; cases z
  | dT h _ _ => rw [h] at z; cases z
  | ins h _ _ => rw [h] at z; cases z
theorem OwnR.mono (h : OwnR K mg F H a d) (e : Same F F') (eh : H' a = H a) : OwnR K mg F' H' a d := by
  cases h with
  | lst h r => exact .lst (eh.trans h) (r.mono e)
  | dK h r q => exact .dK (eh.trans h) (r.mono e) q
  | dT h r q => exact .dT (eh.trans h) (r.mono e) q
  | ins h g r => exact .ins (eh.trans h) g (r.mono e)
/-- as data, where a stands -/
theorem OwnR.dr (h : OwnR K mg F H a d) (e : Same F F') (ea : F' a = H a) : DR K mg F' (.ref a) d := by
  cases h with
  | lst h r => exact .lst (ea.trans h) (r.mono e)
  | dK h r q => exact .dK (ea.trans h) (r.mono e) q
  | dT h r q => exact .dT (ea.trans h) (r.mono e) q
  | ins h g r => exact .ins (ea.trans h) g (r.mono e)
end
/-- an exception that flies: its class, its own dict -/
def XR (K : PySem.W.Frag) (mg : Str → Option Value) (F : Hp) (cls : Value) (d : Option Addr) (x : Exn) : Prop :=
  (mg x.cls = some cls) ∧ ((x.fs = [] ∧ d = none) ∨ ∃ dd fs ds, d = some dd ∧ F dd = some (.xd fs) ∧ fs.map (·.1) = x.fs.map (·.1) ∧ DRs K mg F (fs.map (·.2)) ds ∧ ds = x.fs.map (·.2))
theorem XR.mono {K : PySem.W.Frag} {mg : Str → Option Value} {F F' : Hp} {cls : Value} {d : Option Addr} {x : Exn} (e : Same F F') (h : XR K mg F cls d x) : XR K mg F' cls d x := by
  obtain ⟨h1, h | ⟨dd, fs, ds, h2, h3, h4, h5, h6⟩⟩ := h
  · exact ⟨h1, .inl h⟩
  · exact ⟨h1, .inr ⟨dd, fs, ds, h2, e _ _ h3, h4, h5.mono e, h6⟩⟩
/-- what such a slot tells of the data -/
structure XZ (K : PySem.W.Frag) (mg : Str → Option Value) (F : Hp) (z : Ez) : Prop where
  r : XR K mg F z.cls z.dd z.x
  vs : DRs K mg F z.vs z.ds
  cs : ∀ p ∈ z.cs, F p.1 = some p.2
theorem XZ.mono {K : PySem.W.Frag} {mg : Str → Option Value} {F F' : Hp} {z : Ez} (h : XZ K mg F z) (e : Same F F') : XZ K mg F' z := ⟨h.r.mono e, h.vs.mono e, fun p hp => e _ _ (h.cs p hp)⟩
theorem XZ.ez {K : PySem.W.Frag} {mg : Str → Option Value} {F : Hp} {a : Addr} {cls : Value} {dd : Option Addr} {x : Exn} (h : XR K mg F cls dd x) : XZ K mg F (ez a cls dd x) := ⟨h, .nil, fun _ z => (nomatch z)⟩
/-- what stays: objects as they are; tables of code objects, by the name that these bear -/
structure GT where
  g : Hp
  t : Addr → Option Str
def GT.dom (G : GT) (a : Addr) : Option Unit := match G.t a with
  | some _ => some ()
  | none => (G.g a).map fun _ => ()
instance : CoeFun GT fun _ => Addr → Option Unit := ⟨GT.dom⟩
structure Keep (G : GT) (F H : Hp) : Prop where
  g : ∀ a o, G.g a = some o → H a = some o
  t : ∀ a q, G.t a = some q → F a = none ∧ LamX.TabS H a q
  dj : ∀ a o, G.g a = some o → G.t a = none
theorem tab_upd {H : Hp} {a P : Addr} {o : HO} {q : Str} (ts : LamX.TabS H P q) (hp : P ≠ a) (nc : ∀ c q, H a ≠ some (LamX.CodeO c q)) : LamX.TabS (L2.upd H a o) P q := by
  obtain ⟨ps, h1, h2, h3⟩ := ts
  refine ⟨ps, by rw [upd_ne hp]; exact h1, h2, fun pos cv hc => ?_⟩
  obtain ⟨c, e1, e2⟩ := h3 pos cv hc
  refine ⟨c, e1, ?_⟩
  rw [upd_ne fun z => nc c q (by rw [← z]; exact e2)]
  exact e2
section
variable {G : GT} {F F' H H' : Hp} {a : Addr} {o : HO}
theorem GT.none_iff : G a = none ↔ G.t a = none ∧ G.g a = none := by
  show GT.dom G a = none ↔ _
  unfold GT.dom
  cases G.t a with
  | some q => simp
  | none => cases G.g a <;> simp
theorem GT.tn (h : G a = none) : G.t a = none := (GT.none_iff.mp h).1
theorem GT.gn (h : G a = none) : G.g a = none := (GT.none_iff.mp h).2
theorem Keep.free (k : Keep G F H) (h : H a = none) : G a = none := by
  refine GT.none_iff.mpr ⟨?_, ?_⟩
  · cases e : G.t a with
    | none => rfl
    | some q =>
      obtain ⟨_, ps, q, _⟩ := k.t a q e
      rw [h] at q
      cases q
  · cases e : G.g a with
    | none => rfl
    | some o =>
      have q := k.g a o e
      rw [h] at q
      cases q
theorem Keep.mono (k : Keep G F H) (sh : Same H H') (f : ∀ a, H a ≠ none → F a = none → F' a = none) : Keep G F' H' := by
  refine ⟨fun a o h => sh _ _ (k.g a o h), fun a q h => ?_, k.dj⟩
  obtain ⟨fa, ts⟩ := k.t a q h
  refine ⟨f a (fun z => ?_) fa, ts.ext fun b o h => sh b o h⟩
  obtain ⟨ps, h1, _⟩ := ts
  rw [z] at h1
  cases h1
theorem Keep.upd (k : Keep G F H) (g : G a = none) (nc : ∀ c q, H a ≠ some (LamX.CodeO c q)) : Keep G F (L2.upd H a o) := by
  refine ⟨fun b u h => ?_, fun b q h => ?_, k.dj⟩
  · rw [upd_ne (ne_of_none h (GT.gn g))]
    exact k.g b u h
  · obtain ⟨fa, ts⟩ := k.t b q h
    exact ⟨fa, tab_upd ts (fun z => by rw [z, GT.tn g] at h; cases h) nc⟩
theorem Keep.setF (k : Keep G F H) (g : G a = none) : Keep G (L2.upd F a o) H := by
  refine ⟨k.g, fun b q h => ?_, k.dj⟩
  obtain ⟨fa, ts⟩ := k.t b q h
  exact ⟨by rw [upd_ne fun z => by rw [z, GT.tn g] at h; cases h]; exact fa, ts⟩
def GT.upd (G : GT) (D : Addr) (o : HO) : GT := ⟨L2.upd G.g D o, G.t⟩
theorem GT.upd_ne {D : Addr} (h : a ≠ D) : G.upd D o a = G a := by
  show GT.dom _ _ = GT.dom _ _
  unfold GT.dom GT.upd
  simp only [L2.upd_ne h]
theorem GT.upd_self {D : Addr} (h : G D = none) : G.upd D o D ≠ none := fun z => by
  have := GT.gn z
  unfold GT.upd at this
  simp only [upd_same] at this
  cases this
theorem GT.upd_upd {D : Addr} {o' : HO} : (G.upd D o).upd D o' = G.upd D o' := by
  unfold GT.upd
  simp only [L2.upd_upd]
theorem Keep.guard (k : Keep G F H) {D : Addr} (t : G.t D = none) (nc : ∀ c q, H D ≠ some (LamX.CodeO c q)) : Keep (G.upd D o) F (L2.upd H D o) := by
  refine ⟨fun b u h => ?_, fun b q h => ?_, fun b u h => ?_⟩
  · unfold GT.upd at h
    by_cases hb : b = D
    · subst hb
      simp only [upd_same] at h ⊢
      exact h
    · simp only [L2.upd_ne hb] at h ⊢
      exact k.g b u h
  · obtain ⟨fa, ts⟩ := k.t b q h
    exact ⟨fa, tab_upd ts (fun z => by rw [z, show (G.upd D o).t D = G.t D from rfl, t] at h; cases h) nc⟩
  · by_cases hb : b = D
    · rw [hb]
      exact t
    · unfold GT.upd at h
      simp only [L2.upd_ne hb] at h
      exact k.dj b u h
theorem Keep.unguard {D : Addr} (k : Keep (G.upd D o) F H) (g : G D = none) : Keep G F H := by
  refine ⟨fun b u h => k.g b u ?_, k.t, fun b u h => k.dj b u ?_⟩ <;>
    (unfold GT.upd; simp only [L2.upd_ne (ne_of_none h (GT.gn g))]; exact h)
theorem nc_none (h : H a = none) : ∀ c q, H a ≠ some (LamX.CodeO c q) := fun c q z => by rw [h] at z; cases z
theorem nc_lst {vs : List V} (h : H a = some (.lst vs)) : ∀ c q, H a ≠ some (LamX.CodeO c q) := fun c q z => by
  rw [h] at z
  unfold LamX.CodeO at z
  cases z
end
/-- what a slot's reference stands for -/
def SlR (K : PySem.W.Frag) (mg : Str → Option Value) (G : GT) (F : Hp) (io : List Addr) (H : Hp) (o : Option V) : Sl → Prop
  | .un => True
  | .fz d => ∃ v, o = some v ∧ DR K mg F v d
  | .ex z => o = some (.ref z.a) ∧ XZ K mg F z
  | .gh ts => ∀ p ∈ ts, G.t p.1 = some p.2
  | .own b d => ∃ a, o = some (.ref a) ∧ F a = none ∧ G a = none ∧ (b = none → a ∉ io) ∧ (∀ k, b = some k → io[k]? = some a) ∧ OwnR K mg F H a d
def isOwn : Sl → Bool
  | .own _ _ => true
  | _ => false
/-- G: what else must stay as it is; F: the data that stays; io: the addresses of what was handed in to be changed -/
structure BI (K : PySem.W.Frag) (mg : Str → Option Value) (G : GT) (F : Hp) (io : List Addr) (β : Env) (σ : L2.St) (H : Hp) : Prop where
  sg : Keep G F H
  sf : Same F H
  ioF : ∀ a ∈ io, F a = none
  ioH : ∀ a ∈ io, ∃ o, H a = some o
  len : β.length = σ.length
  sl : ∀ (i : Nat) (s : Sl), β[i]? = some s → ∃ o, σ[i]? = some o ∧ SlR K mg G F io H o s
  apart : ∀ (i j : Nat) (s t : Sl) (a : Addr), β[i]? = some s → β[j]? = some t → isOwn s = true → isOwn t = true → σ[i]? = some (some (V.ref a)) → σ[j]? = some (some (V.ref a)) → i = j
/-- F grows by what is new -/
structure FE (G : GT) (io : List Addr) (F F' : Hp) : Prop where
  same : Same F F'
  new : ∀ a o, F' a = some o → F a = some o ∨ (G a = none ∧ a ∉ io)
theorem FE.refl {G : GT} {io : List Addr} {F : Hp} : FE G io F F := ⟨Same.refl _, fun _ _ h => .inl h⟩
theorem FE.trans {G : GT} {io : List Addr} {F F1 F2 : Hp} (a : FE G io F F1) (b : FE G io F1 F2) : FE G io F F2 :=
  ⟨a.same.trans b.same, fun x o h => (b.new x o h).elim (fun h => a.new x o h) .inr⟩
/-- what a value stands for, that an expression hands back -/
def RR (K : PySem.W.Frag) (mg : Str → Option Value) (G : GT) (F : Hp) (io : List Addr) (H : Hp) (β : Env) (σ : L2.St) (v : V) : Rs → Prop
  | .fz d => DR K mg F v d
  | .own d => ∃ a, v = .ref a ∧ F a = none ∧ G a = none ∧ a ∉ io ∧ OwnR K mg F H a d ∧ ∀ (i : Nat) (s : Sl), β[i]? = some s → isOwn s = true → σ[i]? ≠ some (some (V.ref a))
/-- a place -/
def PR (K : PySem.W.Frag) (mg : Str → Option Value) (F : Hp) (σ : L2.St) (v : V) : Pl → Prop
  | .d d => DR K mg F v d
  | .sl i => σ[i]? = some (some v)
/-- read now: the outermost object in H, what belongs to it in F -/
inductive HR (K : PySem.W.Frag) (mg : Str → Option Value) (F H : Hp) : V → D → Prop
  | non : HR K mg F H .non .non
  | bl (b : Bool) : HR K mg F H (.bl b) (.bl b)
  | int (i : Int) : HR K mg F H (.int i) (.int i)
  | str (x : Str) : HR K mg F H (.str x) (.str x)
  | tup {a : Addr} {vs : List V} {ds : List D} : SqT K F a vs → DRs K mg F vs ds → HR K mg F H (.ref a) (.nd .tup ds)
  | lst {a : Addr} {vs : List V} {ds : List D} : H a = some (.lst vs) → DRs K mg F vs ds → HR K mg F H (.ref a) (.nd .lst ds)
  | scr {a : Addr} {vs : List V} {ds : List D} : SqL K H a vs → DRs K mg F vs ds → HR K mg F H (.ref a) (.nd .scr ds)
  | dK {a : Addr} {kvs : List (Key × V)} {ds es : List D} : H a = some (.dK kvs) → DRs K mg F (kvs.map (·.2)) ds → KDs (kvs.map (·.1)) ds es → HR K mg F H (.ref a) (.nd .dct es)
  | dT {a : Addr} {kvs : List (List Key × V)} {ds es : List D} : H a = some (.dT kvs) → DRs K mg F (kvs.map (·.2)) ds → TDs (kvs.map (·.1)) ds es → HR K mg F H (.ref a) (.nd .dct es)
  | ins {a C dx : Addr} {c : Str} {fs : List (Str × V)} {ds : List D} : H a = some (.ins C dx fs) → mg c = some (.ref C) → DRs K mg F (fs.map (·.2)) ds → HR K mg F H (.ref a) (.nd (.ins c (fs.map (·.1))) ds)
section
variable {K : PySem.W.Frag} {mg : Str → Option Value} {F H : Hp} {v : V} {d : D}
theorem DR.hr (h : DR K mg F v d) (e : Same F H) : HR K mg F H v d := by
  cases h with
  | non => exact .non
  | bl b => exact .bl b
  | int i => exact .int i
  | str x => exact .str x
  | tup h r => exact .tup h r
  | lst h r => exact .lst (e _ _ h) r
  | scr h r => exact .scr (Same.sqL e h) r
  | dK h r q => exact .dK (e _ _ h) r q
  | dT h r q => exact .dT (e _ _ h) r q
  | ins h g r => exact .ins (e _ _ h) g r
theorem OwnR.hr {a : Addr} (h : OwnR K mg F H a d) : HR K mg F H (.ref a) d := by
  cases h with
  | lst h r => exact .lst h r
  | dK h r q => exact .dK h r q
  | dT h r q => exact .dT h r q
  | ins h g r => exact .ins h g r
theorem HR.dr (h : HR K mg F H v d) (e : Same F H) : DR K mg H v d := by
  cases h with
  | non => exact .non
  | bl b => exact .bl b
  | int i => exact .int i
  | str x => exact .str x
  | tup h r => exact .tup (Same.sqT e h) (r.mono e)
  | lst h r => exact .lst h (r.mono e)
  | scr h r => exact .scr h (r.mono e)
  | dK h r q => exact .dK h (r.mono e) q
  | dT h r q => exact .dT h (r.mono e) q
  | ins h g r => exact .ins h g (r.mono e)
end
/-- a run's value, told of the heap alone: all stays; data, new or of F; or a new object of one's own -/
def NR (K : PySem.W.Frag) (mg : Str → Option Value) (F H : Hp) (r : Rs) (z : V) (H' : Hp) : Prop := Same H H' ∧ match r with
  | .fz d => ∃ F', Same F F' ∧ (∀ a o, F' a = some o → F a = some o ∨ H a = none) ∧ Same F' H' ∧ DR K mg F' z d
  | .own d => ∃ a, z = .ref a ∧ H a = none ∧ OwnR K mg F H' a d
section
variable {K : PySem.W.Frag} {mg : Str → Option Value} {G : GT} {F F' H H' : Hp} {io : List Addr} {β β' : Env} {σ : L2.St} {a : Addr} {d : D} {v : V} {i : Nat}
theorem PR.mono {p : Pl} (h : PR K mg F σ v p) (e : Same F F') : PR K mg F' σ v p := by
  cases p with
  | d d => exact DR.mono e h
  | sl i => exact h
/-- a place read now -/
theorem BI.look (I : BI K mg G F io β σ H) {p : Pl} (h : PR K mg F σ v p) (l : look β p = some d) : HR K mg F H v d := by
  cases p with
  | d e =>
    cases l
    exact DR.hr h I.sf
  | sl i =>
    simp only [B.look] at l
    cases e : β[i]? with
    | none => rw [e] at l; cases l
    | some s =>
      rw [e] at l
      obtain ⟨o, eo, hs⟩ := I.sl i s e
      have ev : o = some v := Option.some.inj (eo.symm.trans h)
      subst ev
      cases s with
      | ex z0 => cases l
      | gh _ => cases l
      | un => cases l
      | fz e =>
        cases l
        obtain ⟨w, ew, r⟩ := hs
        cases ew
        exact r.hr I.sf
      | own b e =>
        cases l
        obtain ⟨a, ew, f, g, _, _, r⟩ := hs
        cases ew
        exact r.hr
/-- all stays, F grows by what is new -/
theorem BI.grow (I : BI K mg G F io β σ H) (sh : Same H H') (sf : Same F F') (nw : ∀ a o, F' a = some o → F a = some o ∨ H a = none) (sfh : Same F' H') : FE G io F F' ∧ BI K mg G F' io β σ H' := by
  refine ⟨⟨sf, fun a o h => ?_⟩, ⟨I.sg.mono sh fun a h f => ?_, sfh, fun a ha => ?_, fun a ha => ?_, I.len, fun i s e => ?_, I.apart⟩⟩
  · rcases nw a o h with h | h
    · exact .inl h
    · refine .inr ⟨I.sg.free h, fun z => ?_⟩
      obtain ⟨u, hu⟩ := I.ioH a z
      rw [hu] at h
      cases h
  · cases q : F' a with
    | none => rfl
    | some o =>
      rcases nw a o q with z | z
      · rw [f] at z; cases z
      · exact absurd z h
  · cases q : F' a with
    | none => rfl
    | some o =>
      obtain ⟨u, hu⟩ := I.ioH a ha
      rcases nw a o q with h | h
      · rw [I.ioF a ha] at h
        cases h
      · rw [hu] at h
        cases h
  · obtain ⟨u, hu⟩ := I.ioH a ha
    exact ⟨u, sh _ _ hu⟩
  · obtain ⟨w, ew, hs⟩ := I.sl i s e
    refine ⟨w, ew, ?_⟩
    cases s with
    | ex z0 => exact ⟨hs.1, hs.2.mono sf⟩
    | gh _ => exact hs
    | un => trivial
    | fz e =>
      obtain ⟨v, q, r⟩ := hs
      exact ⟨v, q, r.mono sf⟩
    | own b e' =>
      obtain ⟨x, q, f', g', i1, i2, r⟩ := hs
      obtain ⟨u, hu, _⟩ := r.there
      refine ⟨x, q, ?_, g', i1, i2, r.mono sf (by rw [sh _ _ hu, hu])⟩
      cases z : F' x with
      | none => rfl
      | some o =>
        rcases nw x o z with h | h
        · rw [f'] at h
          cases h
        · rw [hu] at h
          cases h
theorem BI.step {r : Rs} (I : BI K mg G F io β σ H) (n : NR K mg F H r v H') : ∃ F', FE G io F F' ∧ BI K mg G F' io β σ H' ∧ RR K mg G F' io H' β σ v r := by
  obtain ⟨sh, n⟩ := n
  cases r with
  | fz d =>
    obtain ⟨F', sf, nw, sfh, r⟩ := n
    obtain ⟨fe, I'⟩ := I.grow sh sf nw sfh
    exact ⟨F', fe, I', r⟩
  | own d =>
    obtain ⟨a, rfl, ha, o⟩ := n
    obtain ⟨fe, I'⟩ := I.grow sh (Same.refl F) (fun _ _ h => .inl h) (I.sf.trans sh)
    refine ⟨F, fe, I', a, rfl, Same.free I.sf ha, I.sg.free ha, fun z => ?_, o, fun i s e q z => ?_⟩
    · obtain ⟨u, hu⟩ := I.ioH a z
      rw [hu] at ha
      cases ha
    · obtain ⟨w, ew, hs⟩ := I.sl i s e
      cases s with
      | ex z0 => cases q
      | gh _ => cases q
      | own b e' =>
        obtain ⟨x, q', _, _, _, _, r⟩ := hs
        obtain ⟨u, hu, _⟩ := r.there
        rw [z, q'] at ew
        have : a = x := by
          have := Option.some.inj (Option.some.inj ew)
          exact V.ref.inj this
        rw [this, hu] at ha
        cases ha
      | un => cases q
      | fz _ => cases q
/-- a value that was there -/
theorem NR.val (sf : Same F H) (h : DR K mg F v d) : NR K mg F H (.fz d) v H := ⟨Same.refl _, F, Same.refl _, fun _ _ h => .inl h, sf, h⟩
/-- a new list of one's own; a new tuple -/
theorem NR.lst {a : Addr} {vs : List V} {ds : List D} (ha : H a = none) (h : DRs K mg F vs ds) : NR K mg F H (.own (.nd .lst ds)) (.ref a) (upd H a (.lst vs)) :=
  ⟨fun b o e => by rw [upd_ne (ne_of_none e ha)]; exact e, a, rfl, ha, .lst upd_same h⟩
theorem NR.tup {a : Addr} {vs : List V} {ds : List D} (sf : Same F H) (ha : H a = none) (h : DRs K mg F vs ds) : NR K mg F H (.fz (.nd .tup ds)) (.ref a) (upd H a (.tup vs)) := by
  have fa := Same.free sf ha
  have sm : Same F (upd F a (.tup vs)) := fun b u h => by
    rw [upd_ne (ne_of_none h fa)]
    exact h
  refine ⟨fun b o e => by rw [upd_ne (ne_of_none e ha)]; exact e, upd F a (.tup vs), sm, fun b o h => ?_, fun b o h => ?_, .tup (.inl (.inl upd_same)) (h.mono sm)⟩
  · by_cases hb : b = a
    · subst hb
      exact .inr ha
    · rw [upd_ne hb] at h
      exact .inl h
  · by_cases hb : b = a
    · subst hb
      rw [upd_same] at h ⊢
      exact h
    · rw [upd_ne hb] at h ⊢
      exact sf b o h
/-- the new object is let stay -/
theorem BI.freeze (I : BI K mg G F io β σ H) (r : RR K mg G F io H β σ v (.own d)) : ∃ F', FE G io F F' ∧ BI K mg G F' io β σ H ∧ DR K mg F' v d := by
  obtain ⟨a, rfl, f, g, ni, o, ap⟩ := r
  obtain ⟨ho, ha, _⟩ := o.there
  have sm : Same F (upd F a ho) := fun b u h => by
    rw [upd_ne (ne_of_none h f)]
    exact h
  refine ⟨upd F a ho, ⟨sm, fun b u h => ?_⟩, ⟨I.sg.setF g, fun b u h => ?_, fun b hb => ?_, I.ioH, I.len, fun i s e => ?_, I.apart⟩, o.dr sm (by rw [upd_same, ha])⟩
  · by_cases hb : b = a
    · subst hb
      exact .inr ⟨g, ni⟩
    · rw [upd_ne hb] at h
      exact .inl h
  · by_cases hb : b = a
    · subst hb
      rw [upd_same] at h
      cases h
      exact ha
    · rw [upd_ne hb] at h
      exact I.sf b u h
  · rw [upd_ne (show b ≠ a from fun z => ni (by rw [← z]; exact hb))]
    exact I.ioF b hb
  · obtain ⟨w, ew, hs⟩ := I.sl i s e
    refine ⟨w, ew, ?_⟩
    cases s with
    | ex z0 => exact ⟨hs.1, hs.2.mono sm⟩
    | gh _ => exact hs
    | un => trivial
    | fz e =>
      obtain ⟨v, q, r⟩ := hs
      exact ⟨v, q, r.mono sm⟩
    | own b e' =>
      obtain ⟨x, q, f', g', i1, i2, r⟩ := hs
      refine ⟨x, q, ?_, g', i1, i2, r.mono sm rfl⟩
      rw [upd_ne fun z => ap i _ e rfl (by rw [ew, q, z])]
      exact f'
theorem BI.freezeR {r : Rs} (I : BI K mg G F io β σ H) (h : RR K mg G F io H β σ v r) : ∃ F', FE G io F F' ∧ BI K mg G F' io β σ H ∧ DR K mg F' v r.d := by
  cases r with
  | fz d => exact ⟨F, .refl, I, h⟩
  | own d => exact I.freeze h
end
end B

set_option Elab.async false
set_option linter.all false
set_option maxRecDepth 100000
set_option maxHeartbeats 4000000
namespace B
open PySem PySem.Spec L2

/-! ## judgements -/
/-- what must hold behind a run r that began at F: Rel: how what Lean's run gives stands to what the machine gives -/
def Post {α γ : Type} (K : PySem.W.Frag) (mg : Str → Option Value) (W : WX) (Rel : GT → Hp → List Addr → Hp → Env → L2.St → γ → α → Prop) (G : GT) (F : Hp) (io : List Addr) (σ : L2.St) (r : R α) (Q : γ → Hp → Prop) : Prop :=
  match r with
  | .stuck => False
  | .ok a β => ∀ v H' F', FE G io F F' → BI K mg G F' io β σ H' → Rel G F' io H' β σ v a → Q v H'
  | .exc x β => ∀ cls d H' F', FE G io F F' → BI K mg G F' io β σ H' → XR K mg F' cls d x → W cls d σ H'
def gOf {α γ : Type} (K : PySem.W.Frag) (mg : Str → Option Value) (W : WX) (Rel : GT → Hp → List Addr → Hp → Env → L2.St → γ → α → Prop) (m : M α) : L2.St → Hp → (γ → Hp → Prop) → Prop :=
  fun σ H Q => ∃ G io F β, BI K mg G F io β σ H ∧ Post K mg W Rel G F io σ (m β) Q
section
variable {α α' γ γ' : Type} {K : PySem.W.Frag} {mg : Str → Option Value} {W : WX} {Rel : GT → Hp → List Addr → Hp → Env → L2.St → γ → α → Prop} {Rel' : GT → Hp → List Addr → Hp → Env → L2.St → γ' → α' → Prop} {G : GT} {F F1 : Hp} {io : List Addr} {σ : L2.St}
theorem Post.bnd {r : R α} {f : α → Env → R α'} {Q : γ → Hp → Prop} {Q' : γ' → Hp → Prop} (h : Post K mg W Rel' G F io σ (r.bnd f) Q')
    (k : ∀ a β v H' F', FE G io F F' → BI K mg G F' io β σ H' → Rel G F' io H' β σ v a → Post K mg W Rel' G F io σ (f a β) Q' → Q v H') : Post K mg W Rel G F io σ r Q := by
  cases r with
  | stuck => exact h
  | ok a β => exact fun v H' F' fe I r => k a β v H' F' fe I r h
  | exc x β => exact h
theorem Post.mono {r : R α} {Q : γ → Hp → Prop} (h : Post K mg W Rel G F io σ r Q) (fe : FE G io F F1) : Post K mg W Rel G F1 io σ r Q := by
  cases r with
  | stuck => exact h
  | ok a β => exact fun v H' F' fe' => h v H' F' (fe.trans fe')
  | exc x β => exact fun c d H' F' fe' => h c d H' F' (fe.trans fe')
theorem Post.conv {r : R α} {f : α → α'} {Q : γ → Hp → Prop} {Q' : γ' → Hp → Prop} (h : Post K mg W Rel' G F io σ (r.bnd fun a β => .ok (f a) β) Q')
    (k : ∀ a β v H' F', FE G io F F' → BI K mg G F' io β σ H' → Rel G F' io H' β σ v a → (∀ v' H'' F'', FE G io F F'' → BI K mg G F'' io β σ H'' → Rel' G F'' io H'' β σ v' (f a) → Q' v' H'') → Q v H') : Post K mg W Rel G F io σ r Q := by
  cases r with
  | stuck => exact h
  | ok a β => exact fun v H' F' fe I r => k a β v H' F' fe I r h
  | exc x β => exact h
end
/-! how results stand -/
abbrev relE (K : PySem.W.Frag) (mg : Str → Option Value) : GT → Hp → List Addr → Hp → Env → L2.St → V → Rs → Prop := fun G F io H β σ v r => RR K mg G F io H β σ v r
abbrev relP (K : PySem.W.Frag) (mg : Str → Option Value) : GT → Hp → List Addr → Hp → Env → L2.St → V → Pl → Prop := fun _ F _ _ _ σ v p => PR K mg F σ v p
abbrev relB : GT → Hp → List Addr → Hp → Env → L2.St → Bool → Bool → Prop := fun _ _ _ _ _ _ v b => v = b
/-- places in a row -/
inductive PRs (K : PySem.W.Frag) (mg : Str → Option Value) (F : Hp) (σ : L2.St) : List V → List Pl → Prop
  | nil : PRs K mg F σ [] []
  | cons {v : V} {vs : List V} {p : Pl} {ps : List Pl} : PR K mg F σ v p → PRs K mg F σ vs ps → PRs K mg F σ (v :: vs) (p :: ps)
abbrev relA (K : PySem.W.Frag) (mg : Str → Option Value) : GT → Hp → List Addr → Hp → Env → L2.St → List V → List Pl → Prop := fun _ F _ _ _ σ v p => PRs K mg F σ v p
theorem PRs.mono {K : PySem.W.Frag} {mg : Str → Option Value} {F F' : Hp} {σ : L2.St} (e : Same F F') : ∀ {vs : List V} {ps : List Pl}, PRs K mg F σ vs ps → PRs K mg F' σ vs ps
  | _, _, .nil => .nil
  | _, _, .cons a b => .cons (a.mono e) (PRs.mono e b)

/-- an expression: it hands back data, or a new object -/
def BE (X : Cx) (e : Expr) (m : M Rs) : Prop := ∀ W, Takes X W → PE X e (gOf X.K X.mg W (relE X.K X.mg) m)
/-- an expression that is read at once -/
def BP (X : Cx) (e : Expr) (m : M Pl) : Prop := ∀ W, Takes X W → PE X e (gOf X.K X.mg W (relP X.K X.mg) m)
/-- a test -/
def BT (X : Cx) (e : Expr) (m : M Bool) : Prop := ∀ W, Takes X W → PT X e (gOf X.K X.mg W relB m)
def BW (X : Cx) (e : Expr) (m : M Bool) : Prop := ∀ W, Takes X W → PW X e (gOf X.K X.mg W relB m)
/-- arguments -/
def BA (X : Cx) (es : List Expr) (m : M (List Pl)) : Prop := ∀ W, Takes X W → PA X es (gOf X.K X.mg W (relA X.K X.mg) m)

theorem _root_.L2.PE.imp {X : Cx} {e : Expr} {t t' : TE} (h : PE X e t) (k : ∀ σ H Q, t' σ H Q → t σ H Q) : PE X e t' := ⟨fun pins s σ H Q I q => h.run pins s σ H Q I (k σ H Q q)⟩
theorem _root_.L2.PT.imp {X : Cx} {e : Expr} {t t' : TT} (h : PT X e t) (k : ∀ σ H Q, t' σ H Q → t σ H Q) : PT X e t' := ⟨fun pins s σ H Q I q => h.run pins s σ H Q I (k σ H Q q)⟩
theorem _root_.L2.PW.imp {X : Cx} {e : Expr} {t t' : TT} (h : PW X e t) (k : ∀ σ H Q, t' σ H Q → t σ H Q) : PW X e t' := ⟨fun w pins s σ H Q I q => h.run w pins s σ H Q I (k σ H Q q)⟩
theorem _root_.L2.PA.imp {X : Cx} {es : List Expr} {t t' : TA} (h : PA X es t) (k : ∀ σ H Q, t' σ H Q → t σ H Q) : PA X es t' := ⟨fun pos pins s σ H Q I q => h.run pos pins s σ H Q I (k σ H Q q)⟩

/-! ## names, constants -/
def mVar (i : Nat) : M Rs := fun β => match β[i]? with
  | some (.fz d) => .ok (.fz d) β
  | some (.own none d) => .ok (.fz d) (β.set i (.fz d))
  | _ => .stuck
def mPl (i : Nat) : M Pl := fun β => match β[i]? with
  | some (.fz _) => .ok (.sl i) β
  | some (.own _ _) => .ok (.sl i) β
  | _ => .stuck
def mC (d : D) : M Rs := ret (.fz d)
def mCP (d : D) : M Pl := ret (.d d)
def toPl (r : Rs) : Pl := .d r.d
def mP (m : M Rs) : M Pl := bnd m fun r => ret (.d r.d)
section
variable {K : PySem.W.Frag} {mg : Str → Option Value} {G : GT} {F F' H H' : Hp} {io : List Addr} {β β' : Env} {σ : L2.St} {d : D} {v : V} {i : Nat}
/-- a slot's object is let stay -/
theorem BI.freezeSl (I : BI K mg G F io β σ H) (e : β[i]? = some (.own none d)) : ∃ v F', σ[i]? = some (some v) ∧ FE G io F F' ∧ BI K mg G F' io (β.set i (.fz d)) σ H ∧ DR K mg F' v d := by
  obtain ⟨o, eo, a, rfl, f, g, ni, _, r⟩ := I.sl i _ e
  have hi : i < β.length := (List.getElem?_eq_some_iff.mp e).1
  -- the same state without the slot
  have J : BI K mg G F io (β.set i .un) σ H := by
    refine ⟨I.sg, I.sf, I.ioF, I.ioH, by rw [List.length_set]; exact I.len, fun j s ej => ?_, fun j k s t b ej ek hj hk => ?_⟩
    · by_cases hj : j = i
      · subst hj
        rw [List.getElem?_set_self hi] at ej
        cases ej
        exact ⟨_, eo, trivial⟩
      · rw [List.getElem?_set_ne (Ne.symm hj)] at ej
        exact I.sl j s ej
    · by_cases hj' : j = i
      · subst hj'
        rw [List.getElem?_set_self hi] at ej
        cases ej
        cases hj
      · by_cases hk' : k = i
        · subst hk'
          rw [List.getElem?_set_self hi] at ek
          cases ek
          cases hk
        · rw [List.getElem?_set_ne (Ne.symm hj')] at ej
          rw [List.getElem?_set_ne (Ne.symm hk')] at ek
          exact I.apart j k s t b ej ek hj hk
  have R0 : RR K mg G F io H (β.set i .un) σ (.ref a) (.own d) := by
    refine ⟨a, rfl, f, g, ni rfl, r, fun j s ej hs z => ?_⟩
    by_cases hj : j = i
    · subst hj
      rw [List.getElem?_set_self hi] at ej
      cases ej
      cases hs
    · rw [List.getElem?_set_ne (Ne.symm hj)] at ej
      exact hj (I.apart j i s _ a ej e hs rfl z eo)
  obtain ⟨F', fe, J', dr⟩ := J.freeze R0
  refine ⟨_, F', eo, fe, ⟨J'.sg, J'.sf, J'.ioF, J'.ioH, by have := J'.len; rw [List.length_set] at this ⊢; exact this, fun j s ej => ?_, fun j k s t b ej ek hj hk => ?_⟩, dr⟩
  · by_cases hj : j = i
    · subst hj
      rw [List.getElem?_set_self hi] at ej
      cases ej
      exact ⟨_, eo, _, rfl, dr⟩
    · rw [List.getElem?_set_ne (Ne.symm hj)] at ej
      exact J'.sl j s (by rw [List.getElem?_set_ne (Ne.symm hj)]; exact ej)
  · by_cases hj' : j = i
    · subst hj'
      rw [List.getElem?_set_self hi] at ej
      cases ej
      cases hj
    · by_cases hk' : k = i
      · subst hk'
        rw [List.getElem?_set_self hi] at ek
        cases ek
        cases hk
      · rw [List.getElem?_set_ne (Ne.symm hj')] at ej
        rw [List.getElem?_set_ne (Ne.symm hk')] at ek
        exact I.apart j k s t b ej ek hj hk
end
section
variable {X : Cx} {e a b c : Expr} {es rest : List Expr} {pos : Pos} {i : Nat} {x : Str} {ma mb mc : M Pl} {me : M Rs} {mt mu : M Bool}
theorem be_var {i : Nat} {x : Str} {pos : Pos} (hN : X.N[i]? = some x := by rfl) (hv : Vis X.env.scope x := by first | exact Or.inl rfl | exact Or.inr (Or.inl rfl) | exact Or.inr (Or.inr rfl)) (hd : (x == ("__debug__" : Str)) = false := by decide)
    (hcd : (x == ("__classdict__" : Str)) = false := by decide) : BE X (.Name x pos) (mVar i) := by
  refine fun W tk => (pe_var hN hv hd hcd).imp fun σ H Q h => ?_
  obtain ⟨G, io, F, β, I, h⟩ := h
  unfold mVar at h
  cases e : β[i]? with
  | none => rw [e] at h; exact h.elim
  | some s =>
    rw [e] at h
    cases s with
    | ex z0 => exact h.elim
    | gh _ => exact h.elim
    | un => exact h.elim
    | fz d =>
      obtain ⟨o, eo, v, rfl, r⟩ := I.sl i _ e
      exact ⟨v, eo, h v H F .refl I r⟩
    | own bo d =>
      cases bo with
      | some k => exact h.elim
      | none =>
        obtain ⟨v, F', eo, fe, I', r⟩ := I.freezeSl e
        exact ⟨v, eo, h v H F' fe I' r⟩
theorem bp_var {i : Nat} {x : Str} {pos : Pos} (hN : X.N[i]? = some x := by rfl) (hv : Vis X.env.scope x := by first | exact Or.inl rfl | exact Or.inr (Or.inl rfl) | exact Or.inr (Or.inr rfl)) (hd : (x == ("__debug__" : Str)) = false := by decide)
    (hcd : (x == ("__classdict__" : Str)) = false := by decide) : BP X (.Name x pos) (mPl i) := by
  refine fun W tk => (pe_var hN hv hd hcd).imp fun σ H Q h => ?_
  obtain ⟨G, io, F, β, I, h⟩ := h
  unfold mPl at h
  cases e : β[i]? with
  | none => rw [e] at h; exact h.elim
  | some s =>
    rw [e] at h
    cases s with
    | ex z0 => exact h.elim
    | gh _ => exact h.elim
    | un => exact h.elim
    | fz d =>
      obtain ⟨o, eo, v, rfl, r⟩ := I.sl i _ e
      exact ⟨v, eo, h v H F .refl I eo⟩
    | own bo d =>
      obtain ⟨o, eo, v, rfl, r⟩ := I.sl i _ e
      exact ⟨_, eo, h _ H F .refl I eo⟩
theorem bp_of (h : BE X e me) : BP X e (mP me) := by
  refine fun W tk => (h W tk).imp fun σ H Q hq => ?_
  obtain ⟨G, io, F, β, I, hq⟩ := hq
  refine ⟨G, io, F, β, I, hq.bnd fun r β' v H' F' fe I' rr h2 => ?_⟩
  obtain ⟨F2, fe2, I2, dr⟩ := I'.freezeR rr
  exact h2 v H' F2 (fe.trans fe2) I2 dr
theorem be_int {i : Int} {j : Nat} : BE X (.Constant (.int i) j pos) (mC (.int i)) := fun W tk => pe_int.imp fun σ H Q ⟨_, _, F, _, I, h⟩ => h _ H F .refl I (.int i)
theorem be_bl {b : Bool} {j : Nat} : BE X (.Constant (.bool b) j pos) (mC (.bl b)) := fun W tk => pe_bl.imp fun σ H Q ⟨_, _, F, _, I, h⟩ => h _ H F .refl I (.bl b)
theorem be_non {j : Nat} : BE X (.Constant .none j pos) (mC .non) := fun W tk => pe_non.imp fun σ H Q ⟨_, _, F, _, I, h⟩ => h _ H F .refl I .non
theorem be_str {x : Str} {j : Nat} : BE X (.Constant (.str x) j pos) (mC (.str x)) := fun W tk => pe_str.imp fun σ H Q ⟨_, _, F, _, I, h⟩ => h _ H F .refl I (.str x)
/-- code that isn't come to -/
theorem pe_no {t : TE} (h : ∀ σ H (Q : VK), ¬ t σ H Q) : PE X e t := ⟨fun _ _ σ H Q _ q => (h σ H Q q).elim⟩
theorem be_no : BE X e stk := fun W tk => pe_no fun σ H Q ⟨_, _, _, _, _, h⟩ => h

/-! ## operators -/
/-- a two-place operation, by data -/
def rD (K : PySem.W.Frag) (mg : Str → Option Value) (g : D → D → Option Rs) : R2 := fun x y H Q => ∃ F d e r, Same F H ∧ HR K mg F H x d ∧ HR K mg F H y e ∧ g d e = some r ∧ ∀ z H', NR K mg F H r z H' → Q z H'
def OpD (X : Cx) (f : Value → Value → Sem Value) (g : D → D → Option Rs) : Prop := OpR X f (rD X.K X.mg g)
/-- by one of HandS's rules -/
theorem OpD.of {f : Value → Value → Sem Value} {r : R2} {g : D → D → Option Rs} (h : OpR X f r)
    (k : ∀ F H x y d e rs (Q : VK), Same F H → HR X.K X.mg F H x d → HR X.K X.mg F H y e → g d e = some rs → (∀ z H', NR X.K X.mg F H rs z H' → Q z H') → r x y H Q) : OpD X f g :=
  fun pins s σ H x y v u Q I rx ry ⟨F, d, e, rs, sf, hx, hy, hg, q⟩ => h pins s σ H x y v u Q I rx ry (k F H x y d e rs Q sf hx hy hg q)
def OpR.alt {f : Value → Value → Sem Value} {r r' : R2} (h : OpR X f r) (h' : OpR X f r') := OpR.or h h'
def fin2 (g : D → D → Option Rs) (p q : Pl) : M Rs := fun β => match look β p, look β q with
  | some d, some e => (match g d e with
    | some r => .ok r β
    | none => .stuck)
  | _, _ => .stuck
def mOp (g : D → D → Option Rs) (ma mb : M Pl) : M Rs := bnd ma fun p => bnd mb fun q => fin2 g p q
theorem fin2_post {W : WX} {G : GT} {F : Hp} {io : List Addr} {σ : L2.St} {g : D → D → Option Rs} {p q : Pl} {β : Env} {v w : V} {H : Hp} {Q : VK} (I : BI X.K X.mg G F io β σ H) (rp : PR X.K X.mg F σ v p) (rq : PR X.K X.mg F σ w q)
    (h : Post X.K X.mg W (relE X.K X.mg) G F io σ (fin2 g p q β) Q) : rD X.K X.mg g v w H Q := by
  unfold fin2 at h
  cases e1 : look β p with
  | none => rw [e1] at h; exact h.elim
  | some d =>
    cases e2 : look β q with
    | none => rw [e1, e2] at h; exact h.elim
    | some e =>
      rw [e1, e2] at h
      simp only at h
      cases e3 : g d e with
      | none => rw [e3] at h; exact h.elim
      | some r =>
        rw [e3] at h
        refine ⟨F, d, e, r, I.sf, I.look rp e1, I.look rq e2, e3, fun z H' n => ?_⟩
        obtain ⟨F', fe, I', rr⟩ := I.step n
        exact h z H' F' fe I' rr
theorem be_op {op : Operator} {g : D → D → Option Rs} (ho : OpD X (binaryOp op) g) (ha : BP X a ma) (hb : BP X b mb) : BE X (.BinOp a op b pos) (mOp g ma mb) := by
  refine fun W tk => (pe_op ho (ha W tk) (hb W tk)).imp fun σ H Q h => ?_
  obtain ⟨G, io, F, β, I, h⟩ := h
  refine ⟨G, io, F, β, I, h.bnd fun p β1 v H1 F1 fe1 I1 r1 h1 => ⟨G, io, F1, β1, I1, (h1.mono fe1).bnd fun q β2 w H2 F2 fe2 I2 r2 h2 => ?_⟩⟩
  exact fin2_post I2 (r1.mono fe2.same) r2 (h2.mono fe2)
theorem be_cmp {op : CmpOp} {g : D → D → Option Rs} (ho : OpD X (compareOp op) g) (ha : BP X a ma) (hb : BP X b mb) (hm : behindInMarks op b = false := by first | exact nomark _ | rfl) : BE X (.Compare a [op] [b] pos) (mOp g ma mb) := by
  refine fun W tk => (pe_cmpR ho (ha W tk) (hb W tk) hm).imp fun σ H Q h => ?_
  obtain ⟨G, io, F, β, I, h⟩ := h
  refine ⟨G, io, F, β, I, h.bnd fun p β1 v H1 F1 fe1 I1 r1 h1 => ⟨G, io, F1, β1, I1, (h1.mono fe1).bnd fun q β2 w H2 F2 fe2 I2 r2 h2 => ?_⟩⟩
  exact fin2_post I2 (r1.mono fe2.same) r2 (h2.mono fe2)
/-- a value that must be a truth -/
def asB (m : M Rs) : M Bool := bnd m fun r => match r with
  | .fz (.bl b) => ret b
  | _ => stk
theorem asB_post {W : WX} {G : GT} {F : Hp} {io : List Addr} {σ : L2.St} {r : R Rs} {Q : Bool → Hp → Prop} (h : Post X.K X.mg W relB G F io σ (r.bnd fun r => match r with
  | .fz (.bl b) => ret b
  | _ => stk) Q) : Post X.K X.mg W (relE X.K X.mg) G F io σ r fun x H' => ∃ k, x = .bl k ∧ Q k H' := by
  refine h.bnd fun r β v H' F' fe I rr h2 => ?_
  cases r with
  | own d => exact h2.elim
  | fz d =>
    cases d with
    | bl k =>
      cases (show DR X.K X.mg F' v (.bl k) from rr)
      exact ⟨k, rfl, h2 k H' F' fe I rfl⟩
    | _ => exact h2.elim
theorem bt_cmp {op : CmpOp} {g : D → D → Option Rs} (ho : OpD X (compareOp op) g) (ha : BP X a ma) (hb : BP X b mb) (hm : behindInMarks op b = false := by first | exact nomark _ | rfl) : BT X (.Compare a [op] [b] pos) (asB (mOp g ma mb)) := by
  refine fun W tk => (pt_cmpR ho (ha W tk) (hb W tk) hm).imp fun σ H Q h => ?_
  obtain ⟨G, io, F, β, I, h⟩ := h
  have h := asB_post h
  refine ⟨G, io, F, β, I, h.bnd fun p β1 v H1 F1 fe1 I1 r1 h1 => ⟨G, io, F1, β1, I1, (h1.mono fe1).bnd fun q β2 w H2 F2 fe2 I2 r2 h2 => ?_⟩⟩
  exact fin2_post I2 (r1.mono fe2.same) r2 (h2.mono fe2)
theorem bt_val (h : BE X e me) (he : ∀ whole, isTrue e X.env whole = (do let v ← whole; standAt e.pos; holding [v] (truthy v)) := by intro _; rfl) : BT X e (asB me) := by
  refine fun W tk => (pt_val (h W tk) he).imp fun σ H Q hq => ?_
  obtain ⟨G, io, F, β, I, hq⟩ := hq
  exact ⟨G, io, F, β, I, asB_post hq⟩
/-! ### truth of any value -/
def truD : D → Option Bool
  | .non => some false
  | .bl b => some b
  | .int i => some (i != 0)
  | .str x => if x.length ≤ sizeLine then some ((x.length : Int) != 0) else none
  | .nd .tup ds => some (!ds.isEmpty)
  | .nd .lst ds => some (!ds.isEmpty)
  | _ => none
def finT (p : Pl) : M Bool := fun β => match (look β p).bind truD with
  | some b => .ok b β
  | none => .stuck
def mTru (m : M Pl) : M Bool := bnd m finT
theorem DRs.isEmpty {K : PySem.W.Frag} {mg : Str → Option Value} {F : Hp} {vs : List V} {ds : List D} (h : DRs K mg F vs ds) : vs.isEmpty = ds.isEmpty := by cases h <;> rfl
theorem tru_of {F H : Hp} {x : V} {d : D} {k : Bool} (sf : Same F H) (h : HR X.K X.mg F H x d) (e : truD d = some k) : TruV X.K x H k := by
  cases h with
  | non => cases e; rfl
  | bl b => cases e; rfl
  | int i => cases e; rfl
  | str x =>
    have e : (if x.length ≤ sizeLine then some ((x.length : Int) != 0) else none) = some k := e
    by_cases hz : x.length ≤ sizeLine
    · rw [if_pos hz] at e
      cases e
      exact ⟨hz, rfl⟩
    · rw [if_neg hz] at e
      cases e
  | tup h r =>
    cases e
    exact .inr (.inl ⟨_, Same.sqT sf h, by rw [r.isEmpty]⟩)
  | lst h r =>
    cases e
    exact .inl ⟨_, .inl (.inl h), by rw [r.isEmpty]⟩
  | scr h r => cases e
  | dK h r q => cases e
  | dT h r q => cases e
  | ins h g r => cases e
theorem bt_tru (h : BP X e ma) (he : ∀ whole, isTrue e X.env whole = (do let v ← whole; standAt e.pos; holding [v] (truthy v)) := by intro _; rfl) : BT X e (mTru ma) := by
  refine fun W tk => (pt_truth (h W tk) he).imp fun σ H Q hq => ?_
  obtain ⟨G, io, F, β, I, hq⟩ := hq
  refine ⟨G, io, F, β, I, hq.bnd fun p β1 v H1 F1 fe1 I1 r1 h1 => ?_⟩
  unfold finT at h1
  cases e1 : (look β1 p).bind truD with
  | none => rw [e1] at h1; exact h1.elim
  | some k =>
    rw [e1] at h1
    obtain ⟨d, e2, e3⟩ := Option.bind_eq_some_iff.mp e1
    exact ⟨k, tru_of I1.sf (I1.look r1 e2) e3, h1 k H1 F1 fe1 I1 rfl⟩

/-! ### and, or, not -/
def mAnd (m n : M Bool) : M Bool := bnd m fun b => if b = true then n else ret false
def mOr (m n : M Bool) : M Bool := bnd m fun b => if b = true then ret true else n
def mNot (m : M Bool) : M Bool := bnd m fun b => ret (!b)
theorem bw_and1 (h : BT X a mt) : BW X (.BoolOp .And [a] pos) mt := fun W tk => pw_and1 (h W tk)
theorem bw_or1 (h : BT X a mt) : BW X (.BoolOp .Or [a] pos) mt := fun W tk => pw_or1 (h W tk)
theorem bw_and (h : BT X a mt) (h2 : BW X (.BoolOp .And (b :: rest) pos) mu) : BW X (.BoolOp .And (a :: b :: rest) pos) (mAnd mt mu) := by
  refine fun W tk => (pw_and (h W tk) (h2 W tk)).imp fun σ H Q hq => ?_
  obtain ⟨G, io, F, β, I, hq⟩ := hq
  refine ⟨G, io, F, β, I, hq.bnd fun k β1 v H1 F1 fe1 I1 r1 h1 => ?_⟩
  cases (show v = k from r1)
  cases k with
  | true => exact ⟨G, io, F1, β1, I1, h1.mono fe1⟩
  | false => exact h1 false H1 F1 fe1 I1 rfl
theorem bw_or (h : BT X a mt) (h2 : BW X (.BoolOp .Or (b :: rest) pos) mu) : BW X (.BoolOp .Or (a :: b :: rest) pos) (mOr mt mu) := by
  refine fun W tk => (pw_or (h W tk) (h2 W tk)).imp fun σ H Q hq => ?_
  obtain ⟨G, io, F, β, I, hq⟩ := hq
  refine ⟨G, io, F, β, I, hq.bnd fun k β1 v H1 F1 fe1 I1 r1 h1 => ?_⟩
  cases (show v = k from r1)
  cases k with
  | false => exact ⟨G, io, F1, β1, I1, h1.mono fe1⟩
  | true => exact h1 true H1 F1 fe1 I1 rfl
theorem bt_w (h : BW X e mt) : BT X e mt := fun W tk => (h W tk).pt
theorem bt_not (h : BT X a mt) : BT X (.UnaryOp .Not a pos) (mNot mt) := by
  refine fun W tk => (pt_not (h W tk)).imp fun σ H Q hq => ?_
  obtain ⟨G, io, F, β, I, hq⟩ := hq
  refine ⟨G, io, F, β, I, hq.bnd fun k β1 v H1 F1 fe1 I1 r1 h1 => ?_⟩
  cases (show v = k from r1)
  exact h1 (!k) H1 F1 fe1 I1 rfl
/-- as values: all but the last True or False -/
def mAndV (m n : M Rs) : M Rs := bnd (asB m) fun b => if b = true then n else ret (.fz (.bl false))
def mOrV (m n : M Rs) : M Rs := bnd (asB m) fun b => if b = true then ret (.fz (.bl true)) else n
def mNotV (m : M Rs) : M Rs := bnd (asB m) fun b => ret (.fz (.bl (!b)))
theorem be_one {op : BoolOp} (h : BE X a me) : BE X (.BoolOp op [a] pos) me := fun W tk => pe_one (h W tk)
theorem be_and {mr : M Rs} (h : BE X a me) (h2 : BE X (.BoolOp .And (b :: rest) pos) mr) : BE X (.BoolOp .And (a :: b :: rest) pos) (mAndV me mr) := by
  refine fun W tk => (pe_and (h W tk) (h2 W tk)).imp fun σ H Q hq => ?_
  obtain ⟨G, io, F, β, I, hq⟩ := hq
  unfold mAndV asB bnd at hq
  rw [R.bnd_assoc] at hq
  refine ⟨G, io, F, β, I, hq.bnd fun r β1 v H1 F1 fe1 I1 r1 h1 => ?_⟩
  cases r with
  | own d => exact h1.elim
  | fz d =>
    cases d with
    | bl k =>
      cases (show DR X.K X.mg F1 v (.bl k) from r1)
      refine ⟨k, rfl, ?_⟩
      cases k with
      | true => exact ⟨G, io, F1, β1, I1, Post.mono h1 fe1⟩
      | false => exact h1 _ H1 F1 fe1 I1 (.bl false)
    | _ => exact h1.elim
theorem be_or {mr : M Rs} (h : BE X a me) (h2 : BE X (.BoolOp .Or (b :: rest) pos) mr) : BE X (.BoolOp .Or (a :: b :: rest) pos) (mOrV me mr) := by
  refine fun W tk => (pe_or (h W tk) (h2 W tk)).imp fun σ H Q hq => ?_
  obtain ⟨G, io, F, β, I, hq⟩ := hq
  unfold mOrV asB bnd at hq
  rw [R.bnd_assoc] at hq
  refine ⟨G, io, F, β, I, hq.bnd fun r β1 v H1 F1 fe1 I1 r1 h1 => ?_⟩
  cases r with
  | own d => exact h1.elim
  | fz d =>
    cases d with
    | bl k =>
      cases (show DR X.K X.mg F1 v (.bl k) from r1)
      refine ⟨k, rfl, ?_⟩
      cases k with
      | true => exact h1 _ H1 F1 fe1 I1 (.bl true)
      | false => exact ⟨G, io, F1, β1, I1, Post.mono h1 fe1⟩
    | _ => exact h1.elim
theorem be_not (h : BE X a me) : BE X (.UnaryOp .Not a pos) (mNotV me) := by
  refine fun W tk => (pe_not (h W tk)).imp fun σ H Q hq => ?_
  obtain ⟨G, io, F, β, I, hq⟩ := hq
  unfold mNotV asB bnd at hq
  rw [R.bnd_assoc] at hq
  refine ⟨G, io, F, β, I, hq.bnd fun r β1 v H1 F1 fe1 I1 r1 h1 => ?_⟩
  cases r with
  | own d => exact h1.elim
  | fz d =>
    cases d with
    | bl k =>
      cases (show DR X.K X.mg F1 v (.bl k) from r1)
      exact ⟨k, rfl, h1 _ H1 F1 fe1 I1 (.bl _)⟩
    | _ => exact h1.elim
def mIf (m : M Bool) (a b : M Rs) : M Rs := bnd m fun k => if k = true then a else b
theorem be_if {mx my : M Rs} (h : BT X c mt) (ha : BE X a mx) (hb : BE X b my) : BE X (.IfExp c a b pos) (mIf mt mx my) := by
  refine fun W tk => (pe_ifExp (h W tk) (ha W tk) (hb W tk)).imp fun σ H Q hq => ?_
  obtain ⟨G, io, F, β, I, hq⟩ := hq
  refine ⟨G, io, F, β, I, hq.bnd fun k β1 v H1 F1 fe1 I1 r1 h1 => ?_⟩
  cases (show v = k from r1)
  cases k with
  | true => exact ⟨G, io, F1, β1, I1, h1.mono fe1⟩
  | false => exact ⟨G, io, F1, β1, I1, h1.mono fe1⟩

/-! ## arguments, displays -/
def mNil : M (List Pl) := ret []
def mCons (m : M Pl) (n : M (List Pl)) : M (List Pl) := bnd m fun p => bnd n fun ps => ret (p :: ps)
theorem ba_nil : BA X [] mNil := fun W tk => pa_nil.imp fun σ H Q ⟨_, _, F, _, I, h⟩ => h _ H F .refl I .nil
theorem ba_cons {mr : M (List Pl)} (h : BP X e ma) (hr : BA X es mr) (hs : starEach (e :: es) X.env = (false, eval e X.env) :: starEach es X.env := by rfl) : BA X (e :: es) (mCons ma mr) := by
  refine fun W tk => (pa_cons (h W tk) (hr W tk) hs).imp fun σ H Q hq => ?_
  obtain ⟨G, io, F, β, I, hq⟩ := hq
  refine ⟨G, io, F, β, I, hq.bnd fun p β1 v H1 F1 fe1 I1 r1 h1 => ⟨G, io, F1, β1, I1, (h1.mono fe1).bnd fun ps β2 vs H2 F2 fe2 I2 r2 h2 => ?_⟩⟩
  exact (h2.mono fe2) _ H2 F2 .refl I2 (.cons (r1.mono fe2.same) r2)
end
end B

set_option Elab.async false
set_option linter.all false
set_option maxRecDepth 100000
set_option maxHeartbeats 4000000
namespace B
open PySem PySem.Spec L2
/-! ## numbers -/
def gI (f : Int → Int → Int) : D → D → Option Rs
  | .int i, .int j => some (.fz (.int (f i j)))
  | _, _ => none
def gIc (C : Int → Int → Bool) (f : Int → Int → Int) : D → D → Option Rs
  | .int i, .int j => if C i j = true then some (.fz (.int (f i j))) else none
  | _, _ => none
section
variable {X : Cx}
theorem opd_I {f : Value → Value → Sem Value} {g : Int → Int → Int} (h : OpR X f (rI0 fun i j => .int (g i j))) : OpD X f (gI g) := by
  refine OpD.of h fun F H x y d e rs Q sf hx hy hg q => ?_
  unfold gI at hg
  split at hg
  · cases hx
    cases hy
    cases hg
    exact ⟨_, _, rfl, rfl, q _ _ (NR.val sf (.int _))⟩
  · cases hg
theorem opd_Ic {f : Value → Value → Sem Value} {P : Int → Int → Prop} {g : Int → Int → Int} {C : Int → Int → Bool} (h : OpR X f (rI P fun i j => .int (g i j))) (hC : ∀ i j, C i j = true → P i j) : OpD X f (gIc C g) := by
  refine OpD.of h fun F H x y d e rs Q sf hx hy hg q => ?_
  unfold gIc at hg
  split at hg
  · rename_i i j
    by_cases hc : C i j = true
    · rw [if_pos hc] at hg
      cases hx
      cases hy
      cases hg
      exact ⟨_, _, rfl, rfl, hC _ _ hc, q _ _ (NR.val sf (.int _))⟩
    · rw [if_neg hc] at hg
      cases hg
  · cases hg
end
theorem OpD.alt {X : Cx} {f : Value → Value → Sem Value} {g g' : D → D → Option Rs} (h : OpD X f g) (h' : OpD X f g') : OpD X f (fun d e => (g d e).orElse fun _ => g' d e) := by
  refine OpD.of (OpR.or h h') fun F H x y d e rs Q sf hx hy hg q => ?_
  cases e1 : g d e with
  | some r =>
    rw [e1] at hg
    cases hg
    exact .inl ⟨F, d, e, _, sf, hx, hy, e1, q⟩
  | none =>
    rw [e1] at hg
    exact .inr ⟨F, d, e, _, sf, hx, hy, hg, q⟩
theorem OpD.congr {X : Cx} {f : Value → Value → Sem Value} {g g' : D → D → Option Rs} (h : OpD X f g) (k : ∀ d e r, g' d e = some r → g d e = some r) : OpD X f g' :=
  OpD.of h fun F H x y d e rs Q sf hx hy hg q => ⟨F, d, e, rs, sf, hx, hy, k _ _ _ hg, q⟩

/-! ## + -/
def gCat : D → D → Option Rs
  | .nd .lst a, .nd .lst b => if a.length + b.length ≤ sizeLine then some (.own (.nd .lst (a ++ b))) else none
  | _, _ => none
def gCatT : D → D → Option Rs
  | .nd .tup a, .nd .tup b => if a.length + b.length ≤ sizeLine then some (.fz (.nd .tup (a ++ b))) else none
  | _, _ => none
def gCatS : D → D → Option Rs
  | .str a, .str b => if a.length + b.length ≤ sizeLine then some (.fz (.str (a ++ b))) else none
  | _, _ => none
def gAdd : D → D → Option Rs
  | .int i, .int j => some (.fz (.int (i + j)))
  | .nd .lst a, .nd .lst b => if a.length + b.length ≤ sizeLine then some (.own (.nd .lst (a ++ b))) else none
  | .nd .tup a, .nd .tup b => if a.length + b.length ≤ sizeLine then some (.fz (.nd .tup (a ++ b))) else none
  | .str a, .str b => if a.length + b.length ≤ sizeLine then some (.fz (.str (a ++ b))) else none
  | _, _ => none
section
variable {X : Cx}
theorem opd_cat : OpD X (binaryOp .Add) gCat := by
  refine OpD.of op_cat fun F H x y d e rs Q sf hx hy hg q => ?_
  unfold gCat at hg
  split at hg
  · rename_i a b
    by_cases hc : a.length + b.length ≤ sizeLine
    · rw [if_pos hc] at hg
      cases hg
      cases hx with
      | lst hx rx =>
        cases hy with
        | lst hy ry =>
          exact ⟨_, _, _, _, rfl, rfl, hx, hy, by rw [rx.length, ry.length]; exact hc, fun p hp => q _ _ (NR.lst hp (rx.append ry))⟩
    · rw [if_neg hc] at hg
      cases hg
  · cases hg
theorem opd_catT : OpD X (binaryOp .Add) gCatT := by
  refine OpD.of op_catA fun F H x y d e rs Q sf hx hy hg q => ?_
  unfold gCatT at hg
  split at hg
  · rename_i a b
    by_cases hc : a.length + b.length ≤ sizeLine
    · rw [if_pos hc] at hg
      cases hg
      cases hx with
      | tup hx rx =>
        cases hy with
        | tup hy ry =>
          refine ⟨_, _, _, _, rfl, rfl, Same.sqT sf hx, Same.sqT sf hy, by rw [rx.length, ry.length]; exact hc, fun e => ?_, fun _ e => ?_, fun _ _ p hp => q _ _ (NR.tup sf hp (rx.append ry))⟩
          · subst e
            cases rx
            exact q _ _ (NR.val sf (.tup hy ry))
          · subst e
            cases ry
            rw [List.append_nil] at q
            exact q _ _ (NR.val sf (.tup hx rx))
    · rw [if_neg hc] at hg
      cases hg
  · cases hg
theorem opd_catS : OpD X (binaryOp .Add) gCatS := by
  refine OpD.of op_add_str fun F H x y d e rs Q sf hx hy hg q => ?_
  unfold gCatS at hg
  split at hg
  · rename_i a b
    by_cases hc : a.length + b.length ≤ sizeLine
    · rw [if_pos hc] at hg
      cases hg
      cases hx
      cases hy
      exact ⟨_, _, rfl, rfl, hc, q _ _ (NR.val sf (.str _))⟩
    · rw [if_neg hc] at hg
      cases hg
  · cases hg
theorem opd_add : OpD X (binaryOp .Add) gAdd := by
  refine (((opd_I op_add).alt opd_cat).alt (opd_catT.alt opd_catS)).congr fun d e r h => ?_
  unfold gAdd at h
  split at h
  · exact h
  · simp only [gI, gCat, Option.orElse]
    split at h
    · rename_i hc
      rw [if_pos hc]
      exact h
    · cases h
  · simp only [gI, gCat, gCatT, Option.orElse]
    split at h
    · rename_i hc
      rw [if_pos hc]
      exact h
    · cases h
  · simp only [gI, gCat, gCatT, gCatS, Option.orElse]
    split at h
    · rename_i hc
      rw [if_pos hc]
      exact h
    · cases h
  · cases h
theorem opd_sub : OpD X (binaryOp .Sub) (gI fun i j => i - j) := opd_I op_sub
/-- *: of numbers of which one is below 2^64, or of numbers of less than a million bits together; lists, tuples times a number -/
def smallI (i : Int) : Bool := decide (-(2 ^ 64) < i ∧ i < 2 ^ 64)
def cMul (i j : Int) : Bool := smallI i || smallI j
def cMulW (i j : Int) : Bool := decide (i.natAbs.log2 + j.natAbs.log2 < 1000000)
def gRep : D → D → Option Rs
  | .nd .lst ds, .int k => if k < 2 ^ 30 ∧ -(2 ^ 30) < k ∧ ds.length * k.toNat ≤ sizeLine then some (.own (.nd .lst (List.replicate k.toNat ds).flatten)) else none
  | _, _ => none
def gRepT : D → D → Option Rs
  | .nd .tup ds, .int k => if ds ≠ [] ∧ 2 ≤ k ∧ k ≤ 1000 ∧ ds.length ≤ 1000 then some (.fz (.nd .tup (List.replicate k.toNat ds).flatten)) else none
  | _, _ => none
def gMul : D → D → Option Rs
  | .int i, .int j => if cMul i j = true then some (.fz (.int (i * j))) else if cMulW i j = true then some (.fz (.int (i * j))) else none
  | .nd .lst ds, .int k => if k < 2 ^ 30 ∧ -(2 ^ 30) < k ∧ ds.length * k.toNat ≤ sizeLine then some (.own (.nd .lst (List.replicate k.toNat ds).flatten)) else none
  | .nd .tup ds, .int k => if ds ≠ [] ∧ 2 ≤ k ∧ k ≤ 1000 ∧ ds.length ≤ 1000 then some (.fz (.nd .tup (List.replicate k.toNat ds).flatten)) else none
  | _, _ => none
theorem DRs.rep {K : PySem.W.Frag} {mg : Str → Option Value} {F : Hp} {vs : List V} {ds : List D} (h : DRs K mg F vs ds) : ∀ k, DRs K mg F (List.replicate k vs).flatten (List.replicate k ds).flatten
  | 0 => .nil
  | k + 1 => by
    rw [List.replicate_succ, List.replicate_succ, List.flatten_cons, List.flatten_cons]
    exact h.append (DRs.rep h k)
theorem opd_rep : OpD X (binaryOp .Mult) gRep := by
  refine OpD.of op_rep fun F H x y d e rs Q sf hx hy hg q => ?_
  unfold gRep at hg
  split at hg
  · split at hg
    · rename_i hc
      cases hg
      cases hx with
      | lst hx rx =>
        cases hy
        refine ⟨_, _, _, rfl, rfl, hx, by omega, by omega, by rw [rx.length]; exact hc.2.2, fun p hp => q _ _ (NR.lst hp (rx.rep _))⟩
    · cases hg
  · cases hg
theorem opd_repT : OpD X (binaryOp .Mult) gRepT := by
  refine OpD.of op_repT fun F H x y d e rs Q sf hx hy hg q => ?_
  unfold gRepT at hg
  split at hg
  · split at hg
    · rename_i hc
      obtain ⟨h1, h2, h3, h4⟩ := hc
      cases hg
      cases hx with
      | tup hx rx =>
        cases hy
        refine ⟨_, _, _, rfl, rfl, Same.sqT sf hx, fun e => ?_, h2, h3, by rw [rx.length]; exact h4, fun p hp => q _ _ (NR.tup sf hp (rx.rep _))⟩
        subst e
        cases rx
        exact h1 rfl
    · cases hg
  · cases hg
theorem opd_mul : OpD X (binaryOp .Mult) gMul := by
  refine (((opd_Ic (C := cMul) op_mul ?_).alt (opd_Ic (C := cMulW) op_mulW ?_)).alt (opd_rep.alt opd_repT)).congr fun d e r h => ?_
  · intro i j h
    unfold cMul smallI at h
    simp only [Bool.or_eq_true, decide_eq_true_eq] at h
    exact h
  · intro i j h
    unfold CMulW
    simpa [cMulW] using h
  · unfold gMul at h
    split at h
    · simp only [gIc, Option.orElse]
      split at h
      · rename_i hc
        rw [if_pos hc]
        exact h
      · rename_i hc
        rw [if_neg hc]
        split at h
        · rename_i hw
          rw [if_pos hw]
          exact h
        · cases h
    · simp only [gIc, gRep, Option.orElse]
      split at h
      · rename_i hc
        rw [if_pos hc]
        cases h
        rfl
      · cases h
    · simp only [gIc, gRep, gRepT, Option.orElse]
      split at h
      · rename_i hc
        rw [if_pos hc]
        cases h
        rfl
      · cases h
    · cases h
/-! ## //, %, **, <<, bits -/
def cDiv (_ j : Int) : Bool := decide (0 < j ∧ j.natAbs.log2 < 9000)
theorem opd_fdiv : OpD X (binaryOp .FloorDiv) (gIc cDiv fun i j => i / j) := opd_Ic op_fdivW fun i j h => by unfold CDivW; simpa [cDiv] using h
theorem opd_mod : OpD X (binaryOp .Mod) (gIc (fun _ j => decide (0 < j)) fun i j => i % j) := opd_Ic op_mod fun i j h => of_decide_eq_true h
def cPow (i j : Int) : Bool := decide (0 ≤ j ∧ j ≤ 1000000 ∧ i.natAbs < 2 ^ 64)
theorem opd_pow : OpD X (binaryOp .Pow) (gIc cPow fun i j => i ^ j.toNat) := opd_Ic op_pow fun i j h => by unfold CPow; simpa [cPow] using h
theorem opd_shl : OpD X (binaryOp .LShift) (gIc cPow fun i j => i * 2 ^ j.toNat) := opd_Ic op_shl fun i j h => by unfold CPow; simpa [cPow] using h
theorem opd_band : OpD X (binaryOp .BitAnd) (gI Builtin.bitAnd) := opd_I op_and
theorem opd_bor : OpD X (binaryOp .BitOr) (gI Builtin.bitOr) := opd_I op_or
/-! one-place -/
def UnD (X : Cx) (f : Value → Sem Value) (g : D → Option Rs) : Prop := UnR X f fun x H Q => ∃ F d r, Same F H ∧ HR X.K X.mg F H x d ∧ g d = some r ∧ ∀ z H', NR X.K X.mg F H r z H' → Q z H'
def fin1 (g : D → Option Rs) (p : Pl) : M Rs := fun β => match (look β p).bind g with
  | some r => .ok r β
  | none => .stuck
def mUn (g : D → Option Rs) (m : M Pl) : M Rs := bnd m (fin1 g)
theorem fin1_post {W : WX} {G : GT} {F : Hp} {io : List Addr} {σ : L2.St} {g : D → Option Rs} {p : Pl} {β : Env} {v : V} {H : Hp} {Q : VK} (I : BI X.K X.mg G F io β σ H) (rp : PR X.K X.mg F σ v p)
    (h : Post X.K X.mg W (relE X.K X.mg) G F io σ (fin1 g p β) Q) : ∃ F d r, Same F H ∧ HR X.K X.mg F H v d ∧ g d = some r ∧ ∀ z H', NR X.K X.mg F H r z H' → Q z H' := by
  unfold fin1 at h
  cases e : (look β p).bind g with
  | none => rw [e] at h; exact h.elim
  | some r =>
    rw [e] at h
    obtain ⟨d, e1, e2⟩ := Option.bind_eq_some_iff.mp e
    refine ⟨F, d, r, I.sf, I.look rp e1, e2, fun z H' n => ?_⟩
    obtain ⟨F', fe, I', rr⟩ := I.step n
    exact h z H' F' fe I' rr
theorem be_un {a : Expr} {ma : M Pl} {pos : Pos} {op : UnaryOp} {g : D → Option Rs} (ho : UnD X (unaryOp op) g) (ha : BP X a ma) : BE X (.UnaryOp op a pos) (mUn g ma) := by
  refine fun W tk => (pe_un ho (ha W tk)).imp fun σ H Q h => ?_
  obtain ⟨G, io, F, β, I, h⟩ := h
  refine ⟨G, io, F, β, I, h.bnd fun p β1 v H1 F1 fe1 I1 r1 h1 => fin1_post I1 r1 (h1.mono fe1)⟩
def gNeg : D → Option Rs
  | .int i => some (.fz (.int (-i)))
  | _ => none
theorem und_neg : UnD X (unaryOp .USub) gNeg := by
  intro pins s σ H x v Q I rx h
  obtain ⟨F, d, r, sf, hx, hg, q⟩ := h
  unfold gNeg at hg
  split at hg
  · cases hg
    cases hx
    exact un_neg pins s σ H _ v Q I rx ⟨_, rfl, q _ _ (NR.val sf (.int _))⟩
  · cases hg
end
/-! ## comparisons -/
def gC (f : Int → Int → Bool) : D → D → Option Rs
  | .int i, .int j => some (.fz (.bl (f i j)))
  | _, _ => none
mutual
/-- as PyData (dicts and instances: as a dict, which is not compared) -/
def toPy : D → PyData
  | .non => .none
  | .bl b => .bool b
  | .int i => .int i
  | .str x => .str x
  | .nd .tup ds => .tuple (toPys ds)
  | .nd .lst ds => .list (toPys ds)
  | .nd .dct _ => .dict []
  | .nd .scr _ => .dict []
  | .nd (.ins _ _) _ => .dict []
def toPys : List D → List PyData
  | [] => []
  | d :: ds => toPy d :: toPys ds
end
def shp (d : D) : Bool := SeqAt.shaped (toPy d)
def eqv (d e : D) : Bool := PyData.eqv (toPy d) (toPy e)
mutual
theorem DR.dp {K : PySem.W.Frag} {mg : Str → Option Value} {H : Hp} : ∀ {v : V} {d : D}, DR K mg H v d → (toPy d).canLay0 = true → Dp K H v (toPy d)
  | _, _, .non, _ => .non
  | _, _, .bl b, _ => .bl b
  | _, _, .int i, _ => .int i
  | _, _, .str x, _ => .str x
  | _, _, .tup h r, e => .tup h (DRs.dp r (by simpa [toPy, PyData.canLay0] using e))
  | _, _, .lst h r, e => .lst (.inl (.inl h)) (DRs.dp r (by simpa [toPy, PyData.canLay0] using e))
  | _, _, .scr h r, e => by simp [toPy, PyData.canLay0] at e
  | _, _, .dK h r q, e => by simp [toPy, PyData.canLay0] at e
  | _, _, .dT h r q, e => by simp [toPy, PyData.canLay0] at e
  | _, _, .ins h g r, e => by simp [toPy, PyData.canLay0] at e
theorem DRs.dp {K : PySem.W.Frag} {mg : Str → Option Value} {H : Hp} : ∀ {vs : List V} {ds : List D}, DRs K mg H vs ds → PyData.canLayAll0 (toPys ds) = true → DpAll K H vs (toPys ds)
  | _, _, .nil, _ => .nil
  | _, _, .cons a b, e => by
    simp only [toPys, PyData.canLayAll0, Bool.and_eq_true] at e
    exact .cons (DR.dp a e.1) (DRs.dp b e.2)
end
theorem shp_lay {d : D} (h : shp d = true) : (toPy d).canLay0 = true := by
  unfold shp SeqAt.shaped at h
  rw [Bool.and_eq_true] at h
  exact h.1
def gEq (d e : D) : Option Rs := if shp d = true ∧ shp e = true then some (.fz (.bl (eqv d e))) else none
def gNe (d e : D) : Option Rs := if shp d = true ∧ shp e = true then some (.fz (.bl (!eqv d e))) else none
section
variable {X : Cx}
theorem opd_C {f : Value → Value → Sem Value} {g : Int → Int → Bool} (h : OpR X f (rI0 fun i j => .bl (g i j))) : OpD X f (gC g) := by
  refine OpD.of h fun F H x y d e rs Q sf hx hy hg q => ?_
  unfold gC at hg
  split at hg
  · cases hx
    cases hy
    cases hg
    exact ⟨_, _, rfl, rfl, q _ _ (NR.val sf (.bl _))⟩
  · cases hg
theorem opd_lt : OpD X (compareOp .Lt) (gC fun i j => decide (i < j)) := opd_C op_lt
theorem opd_le : OpD X (compareOp .LtE) (gC fun i j => decide (i ≤ j)) := opd_C op_le
theorem opd_gt : OpD X (compareOp .Gt) (gC fun i j => decide (j < i)) := opd_C op_gt
theorem opd_ge : OpD X (compareOp .GtE) (gC fun i j => decide (j ≤ i)) := opd_C op_ge
theorem opd_eq (hu : X.A.units + 64 < cLine) : OpD X (compareOp .Eq) gEq := by
  refine OpD.of (op_eqD hu) fun F H x y d e rs Q sf hx hy hg q => ?_
  unfold gEq at hg
  split at hg
  · rename_i hc
    cases hg
    exact ⟨_, _, (hx.dr sf).dp (shp_lay hc.1), (hy.dr sf).dp (shp_lay hc.2), hc.1, hc.2, q _ _ (NR.val sf (.bl _))⟩
  · cases hg
theorem opd_ne (hu : X.A.units + 64 < cLine) : OpD X (compareOp .NotEq) gNe := by
  refine OpD.of (op_neD hu) fun F H x y d e rs Q sf hx hy hg q => ?_
  unfold gNe at hg
  split at hg
  · rename_i hc
    cases hg
    exact ⟨_, _, (hx.dr sf).dp (shp_lay hc.1), (hy.dr sf).dp (shp_lay hc.2), hc.1, hc.2, q _ _ (NR.val sf (.bl _))⟩
  · cases hg
end
end B

set_option Elab.async false
set_option linter.all false
set_option maxRecDepth 100000
set_option maxHeartbeats 4000000
namespace B
open PySem PySem.Spec L2
/-! ## in -/
def flt : D → Bool
  | .nd _ _ => false
  | _ => true
theorem flt_v {K : PySem.W.Frag} {mg : Str → Option Value} {F : Hp} {v : V} {d : D} (h : DR K mg F v d) (e : flt d = true) : flatV v = true := by cases h <;> first | rfl | (cases e; done)
theorem flt_vs {K : PySem.W.Frag} {mg : Str → Option Value} {F : Hp} : ∀ {vs : List V} {ds : List D}, DRs K mg F vs ds → ds.all flt = true → vs.all flatV = true
  | _, _, .nil, _ => rfl
  | _, _, .cons a b, e => by
    rw [List.all_cons, Bool.and_eq_true] at e ⊢
    exact ⟨flt_v a e.1, flt_vs b e.2⟩
theorem eqv_v {K : PySem.W.Frag} {mg : Str → Option Value} {F : Hp} {v w : V} {d e : D} (h : DR K mg F v d) (h2 : DR K mg F w e) (f : flt d = true) (f2 : flt e = true) : eqV v w = eqv d e := by
  cases h <;> first | (cases f; done) | (cases h2 <;> first | (cases f2; done) | rfl | (simp only [eqV, eqv, toPy, PyData.eqv]))
theorem inv_v {K : PySem.W.Frag} {mg : Str → Option Value} {F : Hp} {v : V} {d : D} (h : DR K mg F v d) (f : flt d = true) : ∀ {vs : List V} {ds : List D}, DRs K mg F vs ds → ds.all flt = true → inV v vs = ds.any fun z => eqv z d
  | _, _, .nil, _ => rfl
  | _, _, .cons a b, e => by
    rw [List.all_cons, Bool.and_eq_true] at e
    have ih := inv_v h f b e.2
    unfold inV at ih ⊢
    rw [List.any_cons, List.any_cons, ih, eqv_v a h e.1 f]
def hasSub (t s : Str) : Bool := !(Builtin.Str.occurrences t s 0 t.length 1).isEmpty
def inD (d : D) : D → Option Bool
  | .nd .lst ds => if shp d = true ∧ shp (.nd .lst ds) = true then some (ds.any fun z => eqv z d) else none
  | .nd .tup ds => if flt d = true ∧ ds.all flt = true then some (ds.any fun z => eqv z d) else none
  | .str t => match d with
    | .str s => some (hasSub t s)
    | _ => none
  | _ => none
def gIn (d e : D) : Option Rs := (inD d e).map fun b => .fz (.bl b)
def gNotIn (d e : D) : Option Rs := (inD d e).map fun b => .fz (.bl (!b))
theorem any_py (d : D) : ∀ ds : List D, ((toPys ds).any fun z => PyData.eqv z (toPy d)) = ds.any fun z => eqv z d
  | [] => rfl
  | e :: ds => by
    rw [toPys, List.any_cons, List.any_cons, any_py d ds]
    rfl
section
variable {X : Cx}
theorem opd_in (hu : X.A.units + 65 < cLine) : OpD X (compareOp .In) gIn := by
  refine OpD.of (OpR.or (op_inD hu) (OpR.or op_in_seq op_in_str)) fun F H x y d e rs Q sf hx hy hg q => ?_
  unfold gIn at hg
  cases hi : inD d e with
  | none => rw [hi] at hg; cases hg
  | some b =>
    rw [hi] at hg
    cases hg
    unfold inD at hi
    split at hi
    · rename_i ds
      split at hi
      · rename_i hc
        cases hi
        refine .inl ⟨_, toPys ds, (hx.dr sf).dp (shp_lay hc.1), ?_, hc.1, hc.2, ?_⟩
        · have := (hy.dr sf).dp (shp_lay hc.2)
          simpa only [toPy] using this
        · rw [any_py]
          exact q _ _ (NR.val sf (.bl _))
      · cases hi
    · rename_i ds
      split at hi
      · rename_i hc
        cases hi
        cases hy with
        | tup hy ry =>
          have hx' : DR X.K X.mg F x d := by
            cases hx <;> first | exact .non | exact .bl _ | exact .int _ | exact .str _ | (cases hc.1; done)
          refine .inr (.inl ⟨_, _, rfl, .inr (Same.sqT sf hy), flt_v hx' hc.1, flt_vs ry hc.2, ?_⟩)
          rw [inv_v hx' hc.1 ry hc.2]
          exact q _ _ (NR.val sf (.bl _))
      · cases hi
    · split at hi
      · cases hi
        cases hx
        cases hy
        exact .inr (.inr ⟨_, _, rfl, rfl, q _ _ (NR.val sf (.bl _))⟩)
      · cases hi
    · cases hi
theorem opd_notIn (hu : X.A.units + 65 < cLine) : OpD X (compareOp .NotIn) gNotIn := by
  refine OpD.of (OpR.or (op_notInD hu) (OpR.or op_notIn_seq op_notin_str)) fun F H x y d e rs Q sf hx hy hg q => ?_
  unfold gNotIn at hg
  cases hi : inD d e with
  | none => rw [hi] at hg; cases hg
  | some b =>
    rw [hi] at hg
    cases hg
    unfold inD at hi
    split at hi
    · rename_i ds
      split at hi
      · rename_i hc
        cases hi
        refine .inl ⟨_, toPys ds, (hx.dr sf).dp (shp_lay hc.1), ?_, hc.1, hc.2, ?_⟩
        · have := (hy.dr sf).dp (shp_lay hc.2)
          simpa only [toPy] using this
        · rw [any_py]
          exact q _ _ (NR.val sf (.bl _))
      · cases hi
    · rename_i ds
      split at hi
      · rename_i hc
        cases hi
        cases hy with
        | tup hy ry =>
          have hx' : DR X.K X.mg F x d := by
            cases hx <;> first | exact .non | exact .bl _ | exact .int _ | exact .str _ | (cases hc.1; done)
          refine .inr (.inl ⟨_, _, rfl, .inr (Same.sqT sf hy), flt_v hx' hc.1, flt_vs ry hc.2, ?_⟩)
          rw [inv_v hx' hc.1 ry hc.2]
          exact q _ _ (NR.val sf (.bl _))
      · cases hi
    · split at hi
      · cases hi
        cases hx
        cases hy
        exact .inr (.inr ⟨_, _, rfl, rfl, q _ _ (NR.val sf (.bl _))⟩)
      · cases hi
    · cases hi
/-! ## is None -/
def isN : D → Bool
  | .non => true
  | _ => false
def gIsN (d e : D) : Option Rs := if isN e = true then some (.fz (.bl (isN d))) else none
def gNotN (d e : D) : Option Rs := if isN e = true then some (.fz (.bl (!isN d))) else none
theorem isN_v {K : PySem.W.Frag} {mg : Str → Option Value} {F H : Hp} {x : V} {d : D} (h : HR K mg F H x d) : decide (x = .non) = isN d := by cases h <;> rfl
theorem opd_isN : OpD X (compareOp .Is) gIsN := by
  refine OpD.of op_isN fun F H x y d e rs Q sf hx hy hg q => ?_
  unfold gIsN at hg
  split at hg
  · rename_i hc
    cases hg
    cases hy <;> first | (cases hc; done) | skip
    refine ⟨rfl, ?_⟩
    rw [isN_v hx]
    exact q _ _ (NR.val sf (.bl _))
  · cases hg
theorem opd_notN : OpD X (compareOp .IsNot) gNotN := by
  refine OpD.of op_notN fun F H x y d e rs Q sf hx hy hg q => ?_
  unfold gNotN at hg
  split at hg
  · rename_i hc
    cases hg
    cases hy <;> first | (cases hc; done) | skip
    refine ⟨rfl, ?_⟩
    rw [isN_v hx]
    exact q _ _ (NR.val sf (.bl _))
  · cases hg

/-! ## a op b op c -/
def mChain (g g' : D → D → Option Rs) (ma mb mc : M Pl) : M Rs := bnd ma fun p => bnd mb fun q => bnd (asB (fin2 g p q)) fun k => if k = true then bnd mc fun r => fin2 g' q r else ret (.fz (.bl false))
theorem asB_ok {W : WX} {G : GT} {F : Hp} {io : List Addr} {σ : L2.St} {α : Type} {γ : Type} {Rel : GT → Hp → List Addr → Hp → B.Env → L2.St → γ → α → Prop} {r : R Rs} {f : Bool → B.Env → R α} {Q : γ → Hp → Prop}
    (h : Post X.K X.mg W Rel G F io σ ((r.bnd fun r => match r with
      | .fz (.bl b) => ret b
      | _ => stk).bnd f) Q) (Q' : V → Hp → Prop)
    (k : ∀ b β H' F', FE G io F F' → BI X.K X.mg G F' io β σ H' → Post X.K X.mg W Rel G F io σ (f b β) Q → Q' (.bl b) H') : Post X.K X.mg W (relE X.K X.mg) G F io σ r Q' := by
  rw [R.bnd_assoc] at h
  refine h.bnd fun r β v H' F' fe I rr h2 => ?_
  cases r with
  | own d => exact h2.elim
  | fz d =>
    cases d with
    | bl b =>
      cases (show DR X.K X.mg F' v (.bl b) from rr)
      exact k b β H' F' fe I h2
    | _ => exact h2.elim
theorem be_chain {a b c : Expr} {pos : Pos} {op op' : CmpOp} {g g' : D → D → Option Rs} {ma mb mc : M Pl} (ho : OpD X (compareOp op) g) (ho' : OpD X (compareOp op') g') (ha : BP X a ma) (hb : BP X b mb) (hc : BP X c mc)
    (hm : lastMarks [op, op'] [b, c] = false := by first | rfl | exact nomark _) : BE X (.Compare a [op, op'] [b, c] pos) (mChain g g' ma mb mc) := by
  refine fun W tk => (pe_chain ho ho' (ha W tk) (hb W tk) (hc W tk) hm).imp fun σ H Q h => ?_
  obtain ⟨G, io, F, β, I, h⟩ := h
  refine ⟨G, io, F, β, I, h.bnd fun p β1 v H1 F1 fe1 I1 r1 h1 => ⟨G, io, F1, β1, I1, (h1.mono fe1).bnd fun q β2 w H2 F2 fe2 I2 r2 h2 => ?_⟩⟩
  have h2 := h2.mono fe2
  refine fin2_post (Q := fun z H3 => ∃ k, z = .bl k ∧ _) I2 (r1.mono fe2.same) r2 (asB_ok h2 _ fun k β3 H3 F3 fe3 I3 h3 => ?_)
  refine ⟨k, rfl, ?_⟩
  cases k with
  | true =>
    refine ⟨G, io, F3, β3, I3, (h3.mono fe3).bnd fun r β4 u H4 F4 fe4 I4 r4 h4 => ?_⟩
    exact fin2_post I4 ((r2.mono fe3.same).mono fe4.same) r4 (h4.mono fe4)
  | false => exact h3 _ H3 F3 fe3 I3 (.bl false)

/-! ## subscripts -/
def gIx : D → D → Option Rs
  | .nd .lst ds, .int i => (atI ds i).map .fz
  | .nd .scr ds, .int i => (atI ds i).map .fz
  | .nd .tup ds, .int i => (atI ds i).map .fz
  | .str z, .int i => if z.length ≤ sizeLine then (atI z.cps.toList i).map fun c => .fz (.str ⟨#[c]⟩) else none
  | _, _ => none
theorem DRs.atI {K : PySem.W.Frag} {mg : Str → Option Value} {F : Hp} {vs : List V} {ds : List D} {i : Int} {d : D} (h : DRs K mg F vs ds) (e : L2.atI ds i = some d) : ∃ v, L2.atI vs i = some v ∧ DR K mg F v d := by
  unfold L2.atI at e ⊢
  rw [h.length]
  cases e2 : ixN ds.length i with
  | none => rw [e2] at e; cases e
  | some j =>
    rw [e2] at e
    exact h.getD e
theorem be_ix {a b : Expr} {pos : Pos} {ma mb : M Pl} (ha : BP X a ma) (hb : BP X b mb) (hs : PlainIx b := by exact fun _ _ => rfl) : BE X (.Subscript a b pos) (mOp gIx ma mb) := by
  have key : IxR X (rD X.K X.mg gIx) := fun value slice pins s σ H x y v u Q I rx ry h hs => by
    refine ix_seq value slice pins s σ H x y v u Q I rx ry ?_ hs
    obtain ⟨F, d, e, rs, sf, hx, hy, hg, q⟩ := h
    unfold gIx at hg
    split at hg
    · rename_i ds i
      cases hy
      cases hx with
      | lst hx rx =>
        cases e1 : L2.atI ds i with
        | none => rw [e1] at hg; cases hg
        | some d =>
          rw [e1] at hg
          cases hg
          obtain ⟨w, ew, rw'⟩ := rx.atI e1
          exact .inl ⟨_, _, _, _, rfl, rfl, .inl (.inl hx), ew, q _ _ (NR.val sf rw')⟩
    · rename_i ds i
      cases hy
      cases hx with
      | scr hx rx =>
        cases e1 : L2.atI ds i with
        | none => rw [e1] at hg; cases hg
        | some d =>
          rw [e1] at hg
          cases hg
          obtain ⟨w, ew, rw'⟩ := rx.atI e1
          exact .inl ⟨_, _, _, _, rfl, rfl, hx, ew, q _ _ (NR.val sf rw')⟩
    · rename_i ds i
      cases hy
      cases hx with
      | tup hx rx =>
        cases e1 : L2.atI ds i with
        | none => rw [e1] at hg; cases hg
        | some d =>
          rw [e1] at hg
          cases hg
          obtain ⟨w, ew, rw'⟩ := rx.atI e1
          exact .inr (.inl ⟨_, _, _, _, rfl, rfl, Same.sqT sf hx, ew, q _ _ (NR.val sf rw')⟩)
    · split at hg
      · rename_i z i hz
        cases hy
        cases hx
        cases e1 : L2.atI z.cps.toList i with
        | none => rw [e1] at hg; cases hg
        | some d =>
          rw [e1] at hg
          cases hg
          exact .inr (.inr ⟨_, _, _, rfl, rfl, hz, e1, q _ _ (NR.val sf (.str _))⟩)
      · cases hg
    · cases hg
  refine fun W tk => (pe_ix key (ha W tk) (hb W tk) hs).imp fun σ H Q h => ?_
  obtain ⟨G, io, F, β, I, h⟩ := h
  refine ⟨G, io, F, β, I, h.bnd fun p β1 v H1 F1 fe1 I1 r1 h1 => ⟨G, io, F1, β1, I1, (h1.mono fe1).bnd fun q β2 w H2 F2 fe2 I2 r2 h2 => ?_⟩⟩
  exact fin2_post I2 (r1.mono fe2.same) r2 (h2.mono fe2)
/-! slices -/
/-- an optional int -/
def BO (X : Cx) (e : Option Expr) (m : M (Option Int)) : Prop := ∀ W, Takes X W → PO X e (gOf X.K X.mg W (fun _ _ _ _ _ _ v a => v = a) m)
theorem _root_.L2.PO.imp {e : Option Expr} {t t' : TO} (h : PO X e t) (k : ∀ σ H Q, t' σ H Q → t σ H Q) : PO X e t' := ⟨fun pins s σ H Q I q => h.run pins s σ H Q I (k σ H Q q)⟩
def mNoPart : M (Option Int) := ret none
def mPart (m : M Rs) : M (Option Int) := bnd m fun r => match r with
  | .fz (.int i) => ret (some i)
  | _ => stk
theorem bo_none : BO X none mNoPart := fun W tk => po_none.imp fun σ H Q ⟨_, _, F, _, I, h⟩ => h _ H F .refl I rfl
theorem bo_some {e : Expr} {m : M Rs} (h : BE X e m) : BO X (some e) (mPart m) := by
  refine fun W tk => (po_some (h W tk)).imp fun σ H Q h => ?_
  obtain ⟨G, io, F, β, I, h⟩ := h
  refine ⟨G, io, F, β, I, h.bnd fun r β1 v H1 F1 fe1 I1 r1 h1 => ?_⟩
  cases r with
  | own d => exact h1.elim
  | fz d =>
    cases d with
    | int i =>
      cases (show DR X.K X.mg F1 v (.int i) from r1)
      exact ⟨i, rfl, h1 _ H1 F1 fe1 I1 rfl⟩
    | _ => exact h1.elim
/-- the items of xs[lo:hi] -/
def cut {α : Type} (xs : List α) (lo hi : Option Int) : List α := (xs.drop (HT.sIx xs.length 0 lo)).take (HT.sIx xs.length xs.length hi - HT.sIx xs.length 0 lo)
def gSl (lo hi : Option Int) : D → Option Rs
  | .nd .lst ds => some (.own (.nd .lst (cut ds lo hi)))
  | .nd .scr ds => some (.own (.nd .lst (cut ds lo hi)))
  | .nd .tup ds => some (.fz (.nd .tup (cut ds lo hi)))
  | _ => none
def mSl (ma : M Pl) (ml mh : M (Option Int)) : M Rs := bnd ma fun p => bnd ml fun lo => bnd mh fun hi => fin1 (gSl lo hi) p
theorem DRs.cut {K : PySem.W.Frag} {mg : Str → Option Value} {F : Hp} {vs : List V} {ds : List D} (h : DRs K mg F vs ds) (lo hi : Option Int) : DRs K mg F (cutV vs lo hi) (B.cut ds lo hi) := by
  unfold cutV B.cut
  rw [h.length]
  exact (h.drop _).take _
theorem cut_all {vs : List V} {lo hi : Option Int} (h : HT.sIx vs.length 0 lo = 0 ∧ HT.sIx vs.length vs.length hi = vs.length) : cutV vs lo hi = vs := by
  unfold cutV
  rw [h.1, h.2, List.drop_zero, Nat.sub_zero, List.take_length]
theorem be_slice {e : Expr} {lo hi : Option Expr} {p2 pos : Pos} {ma : M Pl} {ml mh : M (Option Int)} (ha : BP X e ma) (hl : BO X lo ml) (hh : BO X hi mh) : BE X (.Subscript e (.Slice lo hi none p2) pos) (mSl ma ml mh) := by
  have key : L2.SlR X (fun x lo hi H Q => ∃ F d r, Same F H ∧ HR X.K X.mg F H x d ∧ gSl lo hi d = some r ∧ ∀ z H', NR X.K X.mg F H r z H' → Q z H') := fun pins s σ H x v vl vu lo hi sl Q I rx hs pl pu h => by
    refine L2.SlR.or sl_list sl_tupA pins s σ H x v vl vu lo hi sl Q I rx hs pl pu ?_
    obtain ⟨F, d, r, sf, hx, hg, q⟩ := h
    unfold gSl at hg
    split at hg
    · cases hg
      cases hx with
      | lst hx rx => exact .inl ⟨_, _, rfl, .inl (.inl hx), fun p hp => q _ _ (NR.lst hp (rx.cut lo hi))⟩
    · cases hg
      cases hx with
      | scr hx rx => exact .inl ⟨_, _, rfl, hx, fun p hp => q _ _ (NR.lst hp (rx.cut lo hi))⟩
    · cases hg
      cases hx with
      | tup hx rx =>
        refine .inr ⟨_, _, rfl, Same.sqT sf hx, fun hw => ?_, fun _ p hp => q _ _ (NR.tup sf hp (rx.cut lo hi))⟩
        have c := rx.cut lo hi
        rw [cut_all hw] at c
        exact q _ _ (NR.val sf (.tup hx c))
    · cases hg
  refine fun W tk => (pe_slice key (ha W tk) (hl W tk) (hh W tk)).imp fun σ H Q h => ?_
  obtain ⟨G, io, F, β, I, h⟩ := h
  refine ⟨G, io, F, β, I, h.bnd fun p β1 v H1 F1 fe1 I1 r1 h1 => ⟨G, io, F1, β1, I1, (h1.mono fe1).bnd fun lo β2 w H2 F2 fe2 I2 r2 h2 => ?_⟩⟩
  cases (show w = lo from r2)
  refine ⟨G, io, F2, β2, I2, (h2.mono fe2).bnd fun hi β3 w H3 F3 fe3 I3 r3 h3 => ?_⟩
  cases (show w = hi from r3)
  exact fin1_post I3 ((r1.mono fe2.same).mono fe3.same) (h3.mono fe3)
def gRevL : D → Option Rs
  | .nd .lst ds => some (.own (.nd .lst ds.reverse))
  | _ => none
theorem be_revL {e : Expr} {ma : M Pl} {k : Nat} {p1 p2 p3 pos : Pos} (ha : BP X e ma) : BE X (.Subscript e (.Slice none none (some (.UnaryOp .USub (.Constant (.int 1) k p1) p2)) p3) pos) (mUn gRevL ma) := by
  refine fun W tk => (pe_revL (ha W tk)).imp fun σ H Q h => ?_
  obtain ⟨G, io, F, β, I, h⟩ := h
  refine ⟨G, io, F, β, I, h.bnd fun p β1 v H1 F1 fe1 I1 r1 h1 => ?_⟩
  obtain ⟨F, d, r, sf, hx, hg, q⟩ := fin1_post I1 r1 (h1.mono fe1)
  unfold gRevL at hg
  split at hg
  · cases hg
    cases hx with
    | lst hx rx => exact ⟨_, _, rfl, .inl (.inl hx), fun p hp => q _ _ (NR.lst hp rx.reverse)⟩
  · cases hg
/-! ## fields -/
def FldOk (X : Cx) (c f : Str) : Prop := ∀ C, X.mg c = some (.ref C) → Cls X.K C ∧ NoAttr X.K C f
def gFld (c f : Str) : D → Option Rs
  | .nd (.ins c' ns) ds => if c' = c then ((ns.zip ds).lookup f).map .fz else none
  | _ => none
theorem DRs.look {K : PySem.W.Frag} {mg : Str → Option Value} {F : Hp} {f : Str} {d : D} : ∀ {fs : List (Str × V)} {ds : List D}, DRs K mg F (fs.map (·.2)) ds → ((fs.map (·.1)).zip ds).lookup f = some d → ∃ v, fs.lookup f = some v ∧ DR K mg F v d
  | [], _, .nil, h => by cases h
  | (n, v) :: fs, _, .cons a b, h => by
    simp only [List.map_cons, List.zip_cons_cons, List.lookup_cons] at h ⊢
    cases e : f == n with
    | true =>
      rw [e] at h
      cases h
      exact ⟨_, rfl, a⟩
    | false =>
      rw [e] at h
      exact DRs.look b h
theorem be_fld (c : Str) {e : Expr} {f : Str} {pos : Pos} {ma : M Pl} (hf : FldOk X c f) (ha : BP X e ma) (hb : attributeBase e f X.env (eval e X.env) = eval e X.env := by rfl) : BE X (.Attribute e f pos) (mUn (gFld c f) ma) := by
  refine fun W tk => (pe_fld (ha W tk) hb).imp fun σ H Q h => ?_
  obtain ⟨G, io, F, β, I, h⟩ := h
  refine ⟨G, io, F, β, I, h.bnd fun p β1 v H1 F1 fe1 I1 r1 h1 => ?_⟩
  obtain ⟨F, d, r, sf, hx, hg, q⟩ := fin1_post I1 r1 (h1.mono fe1)
  unfold gFld at hg
  split at hg
  · split at hg
    · rename_i ec
      subst ec
      cases hx with
      | ins hx g rx =>
        rename_i C dx fs
        cases e1 : ((fs.map (·.1)).zip _).lookup f with
        | none => rw [e1] at hg; cases hg
        | some d =>
          rw [e1] at hg
          cases hg
          obtain ⟨w, ew, rw'⟩ := rx.look e1
          obtain ⟨k1, k2⟩ := hf _ g
          exact ⟨_, _, _, _, _, rfl, hx, k1, k2, ew, q _ _ (NR.val sf rw')⟩
    · cases hg
  · cases hg
end
/-! ## built-in functions -/
inductive HRs (K : PySem.W.Frag) (mg : Str → Option Value) (F H : Hp) : List V → List D → Prop
  | nil : HRs K mg F H [] []
  | cons {v : V} {vs : List V} {d : D} {ds : List D} : HR K mg F H v d → HRs K mg F H vs ds → HRs K mg F H (v :: vs) (d :: ds)
def looks (β : B.Env) : List Pl → Option (List D)
  | [] => some []
  | p :: ps => match look β p, looks β ps with
    | some d, some ds => some (d :: ds)
    | _, _ => none
theorem BI.looks {K : PySem.W.Frag} {mg : Str → Option Value} {G : GT} {F H : Hp} {io : List Addr} {β : B.Env} {σ : L2.St} (I : BI K mg G F io β σ H) : ∀ {vs : List V} {ps : List Pl} {ds : List D}, PRs K mg F σ vs ps → B.looks β ps = some ds → HRs K mg F H vs ds
  | _, _, ds, .nil, e => by
    cases e
    exact .nil
  | _, _, ds, .cons (p := p) (ps := ps) a b, e => by
    simp only [B.looks] at e
    cases e1 : B.look β p with
    | none => rw [e1] at e; cases e
    | some d =>
      cases e2 : B.looks β ps with
      | none => rw [e1, e2] at e; cases e
      | some es =>
        rw [e1, e2] at e
        cases e
        exact .cons (I.look a e1) (BI.looks I b e2)
def finA (g : List D → Option Rs) (ps : List Pl) : M Rs := fun β => match (looks β ps).bind g with
  | some r => .ok r β
  | none => .stuck
def mCall (g : List D → Option Rs) (m : M (List Pl)) : M Rs := bnd m (finA g)
/-- a call of a known value, by data -/
def rA (K : PySem.W.Frag) (mg : Str → Option Value) (g : List D → Option Rs) : List V → Hp → VK → Prop := fun xs H Q => ∃ F ds r, Same F H ∧ HRs K mg F H xs ds ∧ g ds = some r ∧ ∀ z H', NR K mg F H r z H' → Q z H'
def CallD (X : Cx) (f : Value) (g : List D → Option Rs) : Prop := CallR X f (rA X.K X.mg g)
theorem CallD.of {X : Cx} {f : Value} {r : List V → Hp → VK → Prop} {g : List D → Option Rs} (h : CallR X f r)
    (k : ∀ F H xs ds rs (Q : VK), Same F H → HRs X.K X.mg F H xs ds → g ds = some rs → (∀ z H', NR X.K X.mg F H rs z H' → Q z H') → r xs H Q) : CallD X f g :=
  fun pins s σ H xs us Q I r ⟨F, ds, rs, sf, hx, hg, q⟩ => h pins s σ H xs us Q I r (k F H xs ds rs Q sf hx hg q)
theorem finA_post {X : Cx} {W : WX} {G : GT} {F : Hp} {io : List Addr} {σ : L2.St} {g : List D → Option Rs} {ps : List Pl} {β : B.Env} {vs : List V} {H : Hp} {Q : VK} (I : BI X.K X.mg G F io β σ H) (rp : PRs X.K X.mg F σ vs ps)
    (h : Post X.K X.mg W (relE X.K X.mg) G F io σ (finA g ps β) Q) : rA X.K X.mg g vs H Q := by
  unfold finA at h
  cases e : (looks β ps).bind g with
  | none => rw [e] at h; exact h.elim
  | some r =>
    rw [e] at h
    obtain ⟨ds, e1, e2⟩ := Option.bind_eq_some_iff.mp e
    refine ⟨F, ds, r, I.sf, I.looks rp e1, e2, fun z H' n => ?_⟩
    obtain ⟨F', fe, I', rr⟩ := I.step n
    exact h z H' F' fe I' rr
section
variable {X : Cx} {x : Str} {p pos : Pos} {e : Expr} {es : List Expr} {idb T : String} {g : List D → Option Rs} {ma : M (List Pl)}
theorem be_callB (hc : CallD X (.builtin idb) g) (hg : Gl X x) (hm : X.mg x = none) (hv : bootBuiltins x = some (.builtin idb)) (ha : BA X (e :: es) ma) (hn : x ≠ "__name__" := by decide) (hdb : (x == ("__debug__" : Str)) = false := by decide)
    (he : starEach (e :: es) X.env = (false, eval e X.env) :: starEach es X.env := by rfl) (hpl : (backTo pos (starEach es X.env)).any (·.1) = false := by rfl) : BE X (.Call (.Name x p) (e :: es) [] pos) (mCall g ma) := by
  refine fun W tk => (pe_callB hc hg hm hv (ha W tk) hn hdb he hpl).imp fun σ H Q h => ?_
  obtain ⟨G, io, F, β, I, h⟩ := h
  exact ⟨G, io, F, β, I, h.bnd fun p β1 v H1 F1 fe1 I1 r1 h1 => finA_post I1 r1 (h1.mono fe1)⟩
theorem be_callTy (hc : CallD X (.type T) g) (hg : Gl X x) (hm : X.mg x = none) (hv : bootBuiltins x = some (.type T)) (ha : BA X (e :: es) ma) (hn : x ≠ "__name__" := by decide) (hdb : (x == ("__debug__" : Str)) = false := by decide)
    (he : starEach (e :: es) X.env = (false, eval e X.env) :: starEach es X.env := by rfl) (hpl : (backTo pos (starEach es X.env)).any (·.1) = false := by rfl) : BE X (.Call (.Name x p) (e :: es) [] pos) (mCall g ma) := by
  refine fun W tk => (pe_callTy hc hg hm hv (ha W tk) hn hdb he hpl).imp fun σ H Q h => ?_
  obtain ⟨G, io, F, β, I, h⟩ := h
  exact ⟨G, io, F, β, I, h.bnd fun p β1 v H1 F1 fe1 I1 r1 h1 => finA_post I1 r1 (h1.mono fe1)⟩
def gLen : List D → Option Rs
  | [.nd .lst ds] => some (.fz (.int ds.length))
  | [.nd .scr ds] => some (.fz (.int ds.length))
  | [.nd .tup ds] => some (.fz (.int ds.length))
  | [.str z] => if z.length ≤ sizeLine then some (.fz (.int z.length)) else none
  | _ => none
theorem cd_len : CallD X (.builtin "len") gLen := by
  refine CallD.of (CallR.or call_len_seq call_len_str) fun F H xs ds rs Q sf hx hg q => ?_
  unfold gLen at hg
  split at hg
  · cases hg
    cases hx with
    | cons h1 h2 =>
      cases h2
      cases h1 with
      | lst h r =>
        refine .inl ⟨_, _, rfl, .inl (.inl (.inl h)), ?_⟩
        rw [r.length]
        exact q _ _ (NR.val sf (.int _))
  · cases hg
    cases hx with
    | cons h1 h2 =>
      cases h2
      cases h1 with
      | scr h r =>
        refine .inl ⟨_, _, rfl, .inl h, ?_⟩
        rw [r.length]
        exact q _ _ (NR.val sf (.int _))
  · cases hg
    cases hx with
    | cons h1 h2 =>
      cases h2
      cases h1 with
      | tup h r =>
        refine .inl ⟨_, _, rfl, .inr (Same.sqT sf h), ?_⟩
        rw [r.length]
        exact q _ _ (NR.val sf (.int _))
  · split at hg
    · rename_i hz
      cases hg
      cases hx with
      | cons h1 h2 =>
        cases h2
        cases h1
        exact .inr ⟨_, rfl, hz, q _ _ (NR.val sf (.int _))⟩
    · cases hg
  · cases hg
def gList : List D → Option Rs
  | [.nd .lst ds] => some (.own (.nd .lst ds))
  | [.nd .tup ds] => some (.own (.nd .lst ds))
  | _ => none
theorem cd_list : CallD X (.type "list") gList := by
  refine CallD.of call_list_of fun F H xs ds rs Q sf hx hg q => ?_
  unfold gList at hg
  split at hg
  · cases hg
    cases hx with
    | cons h1 h2 =>
      cases h2
      cases h1 with
      | lst h r => exact ⟨_, _, rfl, .inl (.inl (.inl h)), fun l hl => q _ _ (NR.lst hl r)⟩
  · cases hg
    cases hx with
    | cons h1 h2 =>
      cases h2
      cases h1 with
      | tup h r => exact ⟨_, _, rfl, .inr (Same.sqT sf h), fun l hl => q _ _ (NR.lst hl r)⟩
  · cases hg
def gTuple : List D → Option Rs
  | [.nd .lst ds] => some (.fz (.nd .tup ds))
  | [.nd .tup ds] => some (.fz (.nd .tup ds))
  | _ => none
theorem cd_tuple : CallD X (.type "tuple") gTuple := by
  refine CallD.of call_tuple_of fun F H xs ds rs Q sf hx hg q => ?_
  unfold gTuple at hg
  split at hg
  · cases hg
    cases hx with
    | cons h1 h2 =>
      cases h2
      cases h1 with
      | lst h r => exact ⟨_, _, rfl, .inl ⟨.inl (.inl h), fun l hl => q _ _ (NR.tup sf hl r)⟩⟩
  · cases hg
    cases hx with
    | cons h1 h2 =>
      cases h2
      cases h1 with
      | tup h r => exact ⟨_, _, rfl, .inr ⟨Same.sqT sf h, q _ _ (NR.val sf (.tup h r))⟩⟩
  · cases hg
def gInt : List D → Option Rs
  | [.int i] => some (.fz (.int i))
  | [.bl b] => some (.fz (.int (if b then 1 else 0)))
  | _ => none
theorem cd_int : CallD X (.type "int") gInt := by
  refine CallD.of call_int1 fun F H xs ds rs Q sf hx hg q => ?_
  unfold gInt at hg
  split at hg
  · cases hg
    cases hx with
    | cons h1 h2 =>
      cases h2
      cases h1
      exact .inl ⟨_, rfl, q _ _ (NR.val sf (.int _))⟩
  · cases hg
    cases hx with
    | cons h1 h2 =>
      cases h2
      cases h1
      exact .inr ⟨_, rfl, q _ _ (NR.val sf (.int _))⟩
  · cases hg
def gI2 (f : Int → Int → Int) : List D → Option Rs
  | [.int i, .int j] => some (.fz (.int (f i j)))
  | _ => none
theorem cd_I2 {id : String} {f : Int → Int → Int} (h : CallR X (.builtin id) (fun xs H Q => ∃ i j, xs = [.int i, .int j] ∧ Q (.int (f i j)) H)) : CallD X (.builtin id) (gI2 f) := by
  refine CallD.of h fun F H xs ds rs Q sf hx hg q => ?_
  unfold gI2 at hg
  split at hg
  · cases hg
    cases hx with
    | cons h1 h2 =>
      cases h2 with
      | cons h2 h3 =>
        cases h3
        cases h1
        cases h2
        exact ⟨_, _, rfl, q _ _ (NR.val sf (.int _))⟩
  · cases hg
theorem cd_max2 (hc : X.calm = true) : CallD X (.builtin "max") (gI2 fun i j => if j > i then j else i) := cd_I2 (call_max2 hc)
theorem cd_min2 (hc : X.calm = true) : CallD X (.builtin "min") (gI2 fun i j => if j < i then j else i) := cd_I2 (call_min2 hc)
/-- the ints, the truths of a list -/
def ints? : List D → Option (List Int)
  | [] => some []
  | .int i :: ds => (ints? ds).map (i :: ·)
  | _ => none
def bls? : List D → Option (List Bool)
  | [] => some []
  | .bl b :: ds => (bls? ds).map (b :: ·)
  | _ => none
theorem ints_of : ∀ {ds : List D} {ns : List Int}, ints? ds = some ns → ds = ns.map D.int
  | [], ns, h => by cases h; rfl
  | .int i :: ds, ns, h => by
    simp only [ints?] at h
    obtain ⟨ms, e, rfl⟩ := Option.map_eq_some_iff.mp h
    rw [ints_of e]
    rfl
  | .non :: _, _, h => by cases h
  | .bl _ :: _, _, h => by cases h
  | .str _ :: _, _, h => by cases h
  | .nd _ _ :: _, _, h => by cases h
theorem bls_of : ∀ {ds : List D} {ns : List Bool}, bls? ds = some ns → ds = ns.map D.bl
  | [], ns, h => by cases h; rfl
  | .bl i :: ds, ns, h => by
    simp only [bls?] at h
    obtain ⟨ms, e, rfl⟩ := Option.map_eq_some_iff.mp h
    rw [bls_of e]
    rfl
  | .non :: _, _, h => by cases h
  | .int _ :: _, _, h => by cases h
  | .str _ :: _, _, h => by cases h
  | .nd _ _ :: _, _, h => by cases h
theorem ints_map : ∀ ns : List Int, ints? (ns.map D.int) = some ns
  | [] => rfl
  | n :: ns => by
    rw [List.map_cons, ints?, ints_map ns]
    rfl
theorem bls_map : ∀ ns : List Bool, bls? (ns.map D.bl) = some ns
  | [] => rfl
  | n :: ns => by
    rw [List.map_cons, bls?, bls_map ns]
    rfl
def gLI (f : List Int → Option D) : List D → Option Rs
  | [.nd .lst ds] => (ints? ds).bind fun ns => (f ns).map .fz
  | _ => none
def gLB (f : List Bool → Bool) : List D → Option Rs
  | [.nd .lst ds] => (bls? ds).map fun ns => .fz (.bl (f ns))
  | _ => none
theorem cd_sum (hc : X.calm = true) : CallD X (.builtin "sum") (gLI fun ns => some (.int ns.sum)) := by
  refine CallD.of (cr_sum hc) fun F H xs ds rs Q sf hx hg q => ?_
  unfold gLI at hg
  split at hg
  · obtain ⟨ns, e1, e2⟩ := Option.bind_eq_some_iff.mp hg
    cases e2
    cases hx with
    | cons h1 h2 =>
      cases h2
      cases h1 with
      | lst h r =>
        rw [ints_of e1] at r
        have := r.int_of
        subst this
        exact ⟨_, _, rfl, .inl (.inl h), q _ _ (NR.val sf (.int _))⟩
  · cases hg
theorem cd_any (hc : X.calm = true) : CallD X (.builtin "any") (gLB fun bs => bs.any id) := by
  refine CallD.of (cr_any hc) fun F H xs ds rs Q sf hx hg q => ?_
  unfold gLB at hg
  split at hg
  · obtain ⟨ns, e1, e2⟩ := Option.map_eq_some_iff.mp hg
    cases e2
    cases hx with
    | cons h1 h2 =>
      cases h2
      cases h1 with
      | lst h r =>
        rw [bls_of e1] at r
        have := r.bl_of
        subst this
        exact ⟨_, _, rfl, .inl (.inl h), q _ _ (NR.val sf (.bl _))⟩
  · cases hg
theorem cd_all (hc : X.calm = true) : CallD X (.builtin "all") (gLB fun bs => bs.all id) := by
  refine CallD.of (cr_all hc) fun F H xs ds rs Q sf hx hg q => ?_
  unfold gLB at hg
  split at hg
  · obtain ⟨ns, e1, e2⟩ := Option.map_eq_some_iff.mp hg
    cases e2
    cases hx with
    | cons h1 h2 =>
      cases h2
      cases h1 with
      | lst h r =>
        rw [bls_of e1] at r
        have := r.bl_of
        subst this
        exact ⟨_, _, rfl, .inl (.inl h), q _ _ (NR.val sf (.bl _))⟩
  · cases hg
/-- the greatest, the least -/
def maxI : List Int → Option D
  | [] => none
  | n :: ns => some (.int (ns.foldl (fun a b => if b > a then b else a) n))
def minI : List Int → Option D
  | [] => none
  | n :: ns => some (.int (ns.foldl (fun a b => if b < a then b else a) n))
theorem foldl_max (n : Int) : ∀ (ns : List Int), (ns.foldl (fun a b => if b > a then b else a) n = n ∨ ns.foldl (fun a b => if b > a then b else a) n ∈ ns) ∧ n ≤ ns.foldl (fun a b => if b > a then b else a) n ∧ ∀ y ∈ ns, y ≤ ns.foldl (fun a b => if b > a then b else a) n := by
  intro ns
  induction ns generalizing n with
  | nil => exact ⟨.inl rfl, Int.le_refl _, fun y hy => nomatch hy⟩
  | cons b ns ih =>
    obtain ⟨h1, h2, h3⟩ := ih (if b > n then b else n)
    simp only [List.foldl_cons]
    have hm : n ≤ (if b > n then b else n) ∧ b ≤ (if b > n then b else n) := by split <;> omega
    refine ⟨?_, ?_, fun y hy => ?_⟩
    · rcases h1 with h1 | h1
      · rw [h1]
        split
        · exact .inr List.mem_cons_self
        · exact .inl rfl
      · exact .inr (List.mem_cons_of_mem _ h1)
    · exact Int.le_trans hm.1 h2
    · rcases List.mem_cons.mp hy with rfl | hy
      · exact Int.le_trans hm.2 h2
      · exact h3 y hy
theorem foldl_min (n : Int) : ∀ (ns : List Int), (ns.foldl (fun a b => if b < a then b else a) n = n ∨ ns.foldl (fun a b => if b < a then b else a) n ∈ ns) ∧ ns.foldl (fun a b => if b < a then b else a) n ≤ n ∧ ∀ y ∈ ns, ns.foldl (fun a b => if b < a then b else a) n ≤ y := by
  intro ns
  induction ns generalizing n with
  | nil => exact ⟨.inl rfl, Int.le_refl _, fun y hy => nomatch hy⟩
  | cons b ns ih =>
    obtain ⟨h1, h2, h3⟩ := ih (if b < n then b else n)
    simp only [List.foldl_cons]
    have hm : (if b < n then b else n) ≤ n ∧ (if b < n then b else n) ≤ b := by split <;> omega
    refine ⟨?_, ?_, fun y hy => ?_⟩
    · rcases h1 with h1 | h1
      · rw [h1]
        split
        · exact .inr List.mem_cons_self
        · exact .inl rfl
      · exact .inr (List.mem_cons_of_mem _ h1)
    · exact Int.le_trans h2 hm.1
    · rcases List.mem_cons.mp hy with rfl | hy
      · exact Int.le_trans h2 hm.2
      · exact h3 y hy
theorem cd_max (hc : X.calm = true) : CallD X (.builtin "max") (gLI maxI) := by
  refine CallD.of (cr_max hc) fun F H xs ds rs Q sf hx hg q => ?_
  unfold gLI at hg
  split at hg
  · obtain ⟨ns, e1, e2⟩ := Option.bind_eq_some_iff.mp hg
    cases hx with
    | cons h1 h2 =>
      cases h2
      cases h1 with
      | lst h r =>
        rw [ints_of e1] at r
        have := r.int_of
        subst this
        cases ns with
        | nil => cases e2
        | cons n ns =>
          cases e2
          obtain ⟨k1, k2, k3⟩ := foldl_max n ns
          refine ⟨_, _, rfl, .inl (.inl h), Nat.succ_pos _, fun m hm hle => ?_⟩
          have e : m = ns.foldl (fun a b => if b > a then b else a) n := by
            have a1 : ns.foldl (fun a b => if b > a then b else a) n ≤ m := by
              rcases k1 with k1 | k1
              · rw [k1]
                exact hle n List.mem_cons_self
              · exact hle _ (List.mem_cons_of_mem _ k1)
            have a2 : m ≤ ns.foldl (fun a b => if b > a then b else a) n := by
              rcases List.mem_cons.mp hm with rfl | hm
              · exact k2
              · exact k3 m hm
            omega
          rw [e]
          exact q _ _ (NR.val sf (.int _))
  · cases hg
theorem cd_min (hc : X.calm = true) : CallD X (.builtin "min") (gLI minI) := by
  refine CallD.of (cr_min hc) fun F H xs ds rs Q sf hx hg q => ?_
  unfold gLI at hg
  split at hg
  · obtain ⟨ns, e1, e2⟩ := Option.bind_eq_some_iff.mp hg
    cases hx with
    | cons h1 h2 =>
      cases h2
      cases h1 with
      | lst h r =>
        rw [ints_of e1] at r
        have := r.int_of
        subst this
        cases ns with
        | nil => cases e2
        | cons n ns =>
          cases e2
          obtain ⟨k1, k2, k3⟩ := foldl_min n ns
          refine ⟨_, _, rfl, .inl (.inl h), Nat.succ_pos _, fun m hm hle => ?_⟩
          have e : m = ns.foldl (fun a b => if b < a then b else a) n := by
            have a1 : m ≤ ns.foldl (fun a b => if b < a then b else a) n := by
              rcases k1 with k1 | k1
              · rw [k1]
                exact hle n List.mem_cons_self
              · exact hle _ (List.mem_cons_of_mem _ k1)
            have a2 : ns.foldl (fun a b => if b < a then b else a) n ≤ m := by
              rcases List.mem_cons.mp hm with rfl | hm
              · exact k2
              · exact k3 m hm
            omega
          rw [e]
          exact q _ _ (NR.val sf (.int _))
  · cases hg
/-! ## displays -/
def allD : List Pl → Option (List D)
  | [] => some []
  | .d d :: ps => (allD ps).map (d :: ·)
  | .sl _ :: _ => none
theorem PRs.all {K : PySem.W.Frag} {mg : Str → Option Value} {F : Hp} {σ : L2.St} : ∀ {vs : List V} {ps : List Pl} {ds : List D}, PRs K mg F σ vs ps → allD ps = some ds → DRs K mg F vs ds
  | _, _, _, .nil, e => by
    cases e
    exact .nil
  | _, _, _, .cons (p := .d d) a b, e => by
    simp only [allD] at e
    obtain ⟨es, e1, rfl⟩ := Option.map_eq_some_iff.mp e
    exact .cons a (PRs.all b e1)
  | _, _, _, .cons (p := .sl i) a b, e => by cases e
def mTup (m : M (List Pl)) : M Rs := bnd m fun ps => match allD ps with
  | some ds => if ds.length ≤ sizeLine then ret (.fz (.nd .tup ds)) else stk
  | none => stk
def mLst (m : M (List Pl)) : M Rs := bnd m fun ps => match allD ps with
  | some ds => if ds.length ≤ sizeLine then ret (.own (.nd .lst ds)) else stk
  | none => stk
theorem be_tup {x1 : Nat} (ha : BA X es ma) : BE X (.Tuple es x1 pos) (mTup ma) := by
  refine fun W tk => (pe_tup (ha W tk)).imp fun σ H Q h => ?_
  obtain ⟨G, io, F, β, I, h⟩ := h
  refine ⟨G, io, F, β, I, h.bnd fun ps β1 vs H1 F1 fe1 I1 r1 h1 => ?_⟩
  cases e : allD ps with
  | none => rw [e] at h1; exact h1.elim
  | some ds =>
    rw [e] at h1
    simp only at h1
    have r := PRs.all r1 e
    by_cases hz : ds.length ≤ sizeLine
    · rw [if_pos hz] at h1
      refine ⟨by rw [r.length]; exact hz, fun p hp => ?_⟩
      obtain ⟨F2, fe2, I2, rr⟩ := I1.step (NR.tup I1.sf hp r)
      exact h1 _ _ F2 (fe1.trans fe2) I2 rr
    · rw [if_neg hz] at h1
      exact h1.elim
theorem be_lst (ha : BA X es ma) : BE X (.List es pos) (mLst ma) := by
  refine fun W tk => (pe_lst (ha W tk)).imp fun σ H Q h => ?_
  obtain ⟨G, io, F, β, I, h⟩ := h
  refine ⟨G, io, F, β, I, h.bnd fun ps β1 vs H1 F1 fe1 I1 r1 h1 => ?_⟩
  cases e : allD ps with
  | none => rw [e] at h1; exact h1.elim
  | some ds =>
    rw [e] at h1
    simp only at h1
    have r := PRs.all r1 e
    by_cases hz : ds.length ≤ sizeLine
    · rw [if_pos hz] at h1
      refine ⟨by rw [r.length]; exact hz, fun p hp => ?_⟩
      obtain ⟨F2, fe2, I2, rr⟩ := I1.step (F := F1) (mg := X.mg) (NR.lst hp r)
      exact h1 _ _ F2 (fe1.trans fe2) I2 rr
    · rw [if_neg hz] at h1
      exact h1.elim
end
end B

set_option Elab.async false
set_option linter.all false
set_option maxRecDepth 100000
set_option maxHeartbeats 4000000
namespace B
open PySem PySem.Spec L2
/-! ## statements -/
def FlR (K : PySem.W.Frag) (mg : Str → Option Value) (G : GT) (F : Hp) (io : List Addr) (H : Hp) (β : B.Env) (σ : L2.St) (D : Ends) : Fl → Prop
  | .nx => D.nx σ H
  | .brk => D.bk σ H
  | .ct => D.ct σ H
  | .ret r => ∀ v, RR K mg G F io H β σ v r → D.rt v H
def SPost (K : PySem.W.Frag) (mg : Str → Option Value) (W : WX) (G : GT) (F : Hp) (io : List Addr) (r : R Fl) (D : Ends) : Prop :=
  match r with
  | .stuck => False
  | .ok f β => ∀ σ H' F', FE G io F F' → BI K mg G F' io β σ H' → FlR K mg G F' io H' β σ D f
  | .exc x β => ∀ σ cls d H' F', FE G io F F' → BI K mg G F' io β σ H' → XR K mg F' cls d x → W cls d σ H'
def sOf (K : PySem.W.Frag) (mg : Str → Option Value) (W : WX) (m : M Fl) : TS := fun D σ H => ∃ G io F β, BI K mg G F io β σ H ∧ SPost K mg W G F io (m β) D
/-- a statement, a block -/
def BS (X : Cx) (st : Stmt) (m : M Fl) : Prop := ∀ W, Takes X W → PS X st (sOf X.K X.mg W m)
def BSs (X : Cx) (st : List Stmt) (m : M Fl) : Prop := ∀ W, Takes X W → PSs X st (sOf X.K X.mg W m)
theorem _root_.L2.PS.imp {X : Cx} {e : Stmt} {t t' : TS} (h : PS X e t) (k : ∀ D σ H, t' D σ H → t D σ H) : PS X e t' := ⟨fun pins s σ H D I q => h.run pins s σ H D I (k D σ H q)⟩
theorem _root_.L2.PSs.imp {X : Cx} {e : List Stmt} {t t' : TS} (h : PSs X e t) (k : ∀ D σ H, t' D σ H → t D σ H) : PSs X e t' := ⟨fun pins s σ H D I q => h.run pins s σ H D I (k D σ H q)⟩
section
variable {K : PySem.W.Frag} {mg : Str → Option Value} {W : WX} {G : GT} {F F1 : Hp} {io : List Addr} {σ : L2.St} {D : Ends}
theorem SPost.mono {r : R Fl} (h : SPost K mg W G F io r D) (fe : FE G io F F1) : SPost K mg W G F1 io r D := by
  cases r with
  | stuck => exact h
  | ok a β => exact fun σ H' F' fe' => h σ H' F' (fe.trans fe')
  | exc x β => exact fun σ c d H' F' fe' => h σ c d H' F' (fe.trans fe')
/-- behind an expression -/
theorem SPost.of {α γ : Type} {Rel : GT → Hp → List Addr → Hp → B.Env → L2.St → γ → α → Prop} {r : R α} {f : α → B.Env → R Fl} {Q : γ → Hp → Prop} (h : SPost K mg W G F io (r.bnd f) D)
    (k : ∀ a β v H' F', FE G io F F' → BI K mg G F' io β σ H' → Rel G F' io H' β σ v a → SPost K mg W G F' io (f a β) D → Q v H') : Post K mg W Rel G F io σ r Q := by
  cases r with
  | stuck => exact h
  | ok a β => exact fun v H' F' fe I r => k a β v H' F' fe I r (SPost.mono h fe)
  | exc x β => exact fun cls d H' F' fe I xr => h σ cls d H' F' fe I xr
/-- behind a statement -/
def seqF (m n : M Fl) : M Fl := bnd m fun f => match f with
  | .nx => n
  | f => ret f
theorem SPost.seq {r : R Fl} {n : M Fl} (h : SPost K mg W G F io (r.bnd fun f => match f with
  | .nx => n
  | f => ret f) D) : SPost K mg W G F io r { D with nx := fun σ H => sOf K mg W n D σ H } := by
  cases r with
  | stuck => exact h
  | exc x β => exact h
  | ok f β =>
    cases f with
    | nx => exact fun σ H' F' fe I => ⟨G, io, F', β, I, SPost.mono h fe⟩
    | brk => exact h
    | ct => exact h
    | ret r => exact h
end
section
variable {X : Cx} {st : Stmt} {rest : List Stmt} {m n : M Fl} {e : Expr} {me : M Rs} {mt : M Bool} {pos : Pos}
theorem bs_nil : BSs X [] (ret .nx) := fun W tk => pss_nil.imp fun D σ H ⟨G, io, F, β, I, h⟩ => h σ H F .refl I
theorem bs_cons (h1 : BS X st m) (h2 : BSs X rest n) : BSs X (st :: rest) (seqF m n) := fun W tk => (pss_cons (h1 W tk) (h2 W tk)).imp fun D σ H ⟨G, io, F, β, I, h⟩ => ⟨G, io, F, β, I, SPost.seq h⟩
theorem bs_one (h1 : BS X st m) : BSs X [st] m := fun W tk => pss_one (h1 W tk)
theorem bs_pass : BS X (.Pass pos) (ret .nx) := fun W tk => ps_pass.imp fun D σ H ⟨G, io, F, β, I, h⟩ => h σ H F .refl I
theorem bs_break : BS X (.Break pos) (ret .brk) := fun W tk => ps_break.imp fun D σ H ⟨G, io, F, β, I, h⟩ => h σ H F .refl I
theorem bs_continue : BS X (.Continue pos) (ret .ct) := fun W tk => ps_continue.imp fun D σ H ⟨G, io, F, β, I, h⟩ => h σ H F .refl I
theorem bs_doc {x : Str} {j : Nat} {pos' : Pos} : BS X (.Expr (.Constant (.str x) j pos) pos') (ret .nx) := fun W tk => ps_doc.imp fun D σ H ⟨G, io, F, β, I, h⟩ => h σ H F .refl I
theorem bs_no : BS X st stk := fun W tk => ⟨fun _ _ _ _ _ _ ⟨_, _, _, _, _, h⟩ => h.elim⟩
theorem bss_no {sts : List Stmt} : BSs X sts stk := fun W tk => ⟨fun _ _ _ _ _ _ ⟨_, _, _, _, _, h⟩ => h.elim⟩
def mExpr (me : M Rs) : M Fl := bnd me fun _ => ret .nx
theorem bs_expr (h : BE X e me) (hs : swapsWith e none pos.line X.env = pure false := by rfl) : BS X (.Expr e pos) (mExpr me) :=
  fun W tk => (ps_expr (h W tk) hs).imp fun D σ H ⟨G, io, F, β, I, hq⟩ => ⟨G, io, F, β, I, hq.of fun r β1 v H1 F1 fe1 I1 r1 h1 => h1 σ H1 F1 .refl I1⟩
def mRet (me : M Rs) : M Fl := bnd me fun r => ret (.ret r)
theorem bs_ret (h : BE X e me) : BS X (.Return (some e) pos) (mRet me) :=
  fun W tk => (ps_ret (h W tk)).imp fun D σ H ⟨G, io, F, β, I, hq⟩ => ⟨G, io, F, β, I, hq.of fun r β1 v H1 F1 fe1 I1 r1 h1 => h1 σ H1 F1 .refl I1 v r1⟩
theorem bs_retN : BS X (.Return none pos) (ret (.ret (.fz .non))) := fun W tk => ps_retN.imp fun D σ H ⟨G, io, F, β, I, h⟩ => h σ H F .refl I .non .non
/-- return of a name: its object goes out as one's own -/
def mRetVar (i : Nat) : M Fl := fun β => match β[i]? with
  | some (.fz d) => .ok (.ret (.fz d)) β
  | some (.own none d) => .ok (.ret (.own d)) (β.set i .un)
  | _ => .stuck
theorem BI.unset {K : PySem.W.Frag} {mg : Str → Option Value} {G : GT} {F H : Hp} {io : List Addr} {β : B.Env} {σ : L2.St} (I : BI K mg G F io β σ H) (i : Nat) : BI K mg G F io (β.set i .un) σ H := by
  refine ⟨I.sg, I.sf, I.ioF, I.ioH, by rw [List.length_set]; exact I.len, fun j s ej => ?_, fun j k s t b ej ek hj hk => ?_⟩
  · by_cases hj : i = j
    · subst hj
      by_cases hi : i < β.length
      · rw [List.getElem?_set_self hi] at ej
        cases ej
        obtain ⟨o, eo, _⟩ := I.sl i _ (List.getElem?_eq_getElem hi)
        exact ⟨o, eo, trivial⟩
      · rw [List.getElem?_eq_none (by rw [List.length_set]; omega)] at ej
        cases ej
    · rw [List.getElem?_set_ne hj] at ej
      exact I.sl j s ej
  · have nh : ∀ {l : Nat} {u : Sl}, (β.set i .un)[l]? = some u → isOwn u = true → β[l]? = some u := fun {l u} e h => by
      by_cases hl : i = l
      · subst hl
        by_cases hi : i < β.length
        · rw [List.getElem?_set_self hi] at e
          cases e
          cases h
        · rw [List.getElem?_eq_none (by rw [List.length_set]; omega)] at e
          cases e
      · rwa [List.getElem?_set_ne hl] at e
    exact I.apart j k s t b (nh ej hj) (nh ek hk) hj hk
theorem BI.take {K : PySem.W.Frag} {mg : Str → Option Value} {G : GT} {F H : Hp} {io : List Addr} {β : B.Env} {σ : L2.St} {i : Nat} {d : D} (I : BI K mg G F io β σ H) (e : β[i]? = some (.own none d)) :
    ∃ v, σ[i]? = some (some v) ∧ RR K mg G F io H (β.set i .un) σ v (.own d) := by
  obtain ⟨o, eo, a, rfl, f, g, ni, _, r⟩ := I.sl i _ e
  have hi : i < β.length := (List.getElem?_eq_some_iff.mp e).1
  refine ⟨_, eo, a, rfl, f, g, ni rfl, r, fun j s ej hs z => ?_⟩
  by_cases hj : j = i
  · subst hj
    rw [List.getElem?_set_self hi] at ej
    cases ej
    cases hs
  · rw [List.getElem?_set_ne (Ne.symm hj)] at ej
    exact hj (I.apart j i s _ a ej e hs rfl z eo)
theorem bs_retVar {i : Nat} {x : Str} {p : Pos} (hN : X.N[i]? = some x := by rfl) (hv : Vis X.env.scope x := by first | exact Or.inl rfl | exact Or.inr (Or.inl rfl) | exact Or.inr (Or.inr rfl)) (hd : (x == ("__debug__" : Str)) = false := by decide)
    (hcd : (x == ("__classdict__" : Str)) = false := by decide) : BS X (.Return (some (.Name x p)) pos) (mRetVar i) := by
  refine fun W tk => (ps_ret (pe_var hN hv hd hcd)).imp fun D σ H ⟨G, io, F, β, I, h⟩ => ?_
  unfold mRetVar at h
  cases e : β[i]? with
  | none => rw [e] at h; exact h.elim
  | some s =>
    rw [e] at h
    cases s with
    | ex z0 => exact h.elim
    | gh _ => exact h.elim
    | un => exact h.elim
    | fz d =>
      obtain ⟨o, eo, v, rfl, r⟩ := I.sl i _ e
      exact ⟨v, eo, h σ H F .refl I v r⟩
    | own bo d =>
      cases bo with
      | some k => exact h.elim
      | none =>
        obtain ⟨v, eo, rr⟩ := I.take e
        exact ⟨v, eo, h σ H F .refl (I.unset i) v rr⟩
def mIfS (m : M Bool) (a b : M Fl) : M Fl := bnd m fun k => if k = true then a else b
theorem bs_if {c : Expr} {p q : List Stmt} (hc : BT X c mt) (hp : BSs X p m) (hq : BSs X q n) : BS X (.If c p q pos) (mIfS mt m n) := by
  refine fun W tk => (ps_if (hc W tk) (hp W tk) (hq W tk)).imp fun D σ H ⟨G, io, F, β, I, h⟩ => ⟨G, io, F, β, I, h.of fun k β1 v H1 F1 fe1 I1 r1 h1 => ?_⟩
  cases (show v = k from r1)
  cases k with
  | true => exact ⟨G, io, F1, β1, I1, h1⟩
  | false => exact ⟨G, io, F1, β1, I1, h1⟩

/-! ## stores -/
def slOf : Rs → Sl
  | .fz d => .fz d
  | .own d => .own none d
def setR (i : Nat) (r : Rs) : M Unit := fun β => .ok () (β.set i (slOf r))
theorem BI.set {K : PySem.W.Frag} {mg : Str → Option Value} {G : GT} {F H : Hp} {io : List Addr} {β : B.Env} {σ : L2.St} {v : V} {r : Rs} (I : BI K mg G F io β σ H) (h : RR K mg G F io H β σ v r) (i : Nat) :
    BI K mg G F io (β.set i (slOf r)) (σ.set i (some v)) H := by
  have hl := I.len
  refine ⟨I.sg, I.sf, I.ioF, I.ioH, by rw [List.length_set, List.length_set]; exact hl, fun j s ej => ?_, fun j k s t b ej ek hj hk zj zk => ?_⟩
  · by_cases hj : i = j
    · subst hj
      by_cases hi : i < β.length
      · rw [List.getElem?_set_self hi] at ej
        cases ej
        refine ⟨some v, List.getElem?_set_self (by omega), ?_⟩
        cases r with
        | fz d => exact ⟨v, rfl, h⟩
        | own d =>
          obtain ⟨a, rfl, f, g, ni, o, _⟩ := h
          exact ⟨a, rfl, f, g, fun _ => ni, fun _ => nofun, o⟩
      · rw [List.getElem?_eq_none (by rw [List.length_set]; omega)] at ej
        cases ej
    · rw [List.getElem?_set_ne hj] at ej
      rw [List.getElem?_set_ne hj]
      exact I.sl j s ej
  · -- two own slots at one address
    have old : ∀ {l : Nat} {u : Sl}, i ≠ l → (β.set i (slOf r))[l]? = some u → β[l]? = some u := fun {l u} hl e => by rwa [List.getElem?_set_ne hl] at e
    have oldσ : ∀ {l : Nat} {w : Option V}, i ≠ l → (σ.set i (some v))[l]? = some w → σ[l]? = some w := fun {l w} hl e => by rwa [List.getElem?_set_ne hl] at e
    have new : ∀ {l : Nat} {u : Sl}, i = l → (β.set i (slOf r))[l]? = some u → isOwn u = true → (σ.set i (some v))[l]? = some (some (V.ref b)) → v = .ref b ∧ ∃ d, r = .own d := fun {l u} hl e hu z => by
      subst hl
      have hi : i < β.length := by
        have := (List.getElem?_eq_some_iff.mp e).1
        rwa [List.length_set] at this
      rw [List.getElem?_set_self hi] at e
      rw [List.getElem?_set_self (by omega)] at z
      cases e
      cases z
      cases r with
      | fz d => cases hu
      | own d => exact ⟨rfl, d, rfl⟩
    by_cases h1 : i = j
    · by_cases h2 : i = k
      · exact h1.symm.trans h2
      · obtain ⟨rfl, d, rfl⟩ := new h1 ej hj zj
        obtain ⟨a, ea, _, _, _, _, ap⟩ := h
        cases ea
        exact absurd (oldσ h2 zk) (ap k t (old h2 ek) hk)
    · by_cases h2 : i = k
      · obtain ⟨rfl, d, rfl⟩ := new h2 ek hk zk
        obtain ⟨a, ea, _, _, _, _, ap⟩ := h
        cases ea
        exact absurd (oldσ h1 zj) (ap j s (old h1 ej) hj)
      · exact I.apart j k s t b (old h1 ej) (old h2 ek) hj hk (oldσ h1 zj) (oldσ h2 zk)
def mSet (i : Nat) (me : M Rs) : M Fl := bnd me fun r => bnd (setR i r) fun _ => ret .nx
theorem bs_set {i : Nat} {x : Str} {pos' : Pos} (hN : X.N.Nodup) (hi : X.N[i]? = some x) (hx : Loc X.env.scope x) (h : BE X e me) (hs : swapsWith e (some (.Name x pos')) pos.line X.env = pure false := by rfl)
    (hf : X.fn x = true ∨ X.env.scope.names.lookup x = some .local := by first | exact .inl rfl | exact .inr rfl | assumption) : BS X (.Assign [.Name x pos'] e pos) (mSet i me) :=
  fun W tk => (ps_set hN hi hx (h W tk) hs hf).imp fun D σ H ⟨G, io, F, β, I, hq⟩ => ⟨G, io, F, β, I, hq.of fun r β1 v H1 F1 fe1 I1 r1 h1 => h1 _ H1 F1 .refl (I1.set r1 i)⟩
/-! targets, of data that stays -/
/-- the slots outside vs are as they were -/
def But (vs : List Nat) (σ σ' : L2.St) : Prop := σ'.length = σ.length ∧ ∀ j, j ∉ vs → σ'[j]? = σ[j]?
theorem But.refl {vs : List Nat} {σ : L2.St} : But vs σ σ := ⟨rfl, fun _ _ => rfl⟩
theorem But.trans {vs ws : List Nat} {σ σ1 σ2 : L2.St} (a : But vs σ σ1) (b : But ws σ1 σ2) : But (vs ++ ws) σ σ2 := ⟨b.1.trans a.1, fun j h => (b.2 j fun z => h (List.mem_append_right _ z)).trans (a.2 j fun z => h (List.mem_append_left _ z))⟩
def gOfT (K : PySem.W.Frag) (mg : Str → Option Value) (vs : List Nat) (g : D → M Unit) : TG := fun v σ H Q => ∃ G io F β d, BI K mg G F io β σ H ∧ DR K mg F v d ∧ match g d β with
  | .ok _ β' => ∀ σ' H' F', But vs σ σ' → FE G io F F' → BI K mg G F' io β' σ' H' → Q σ' H'
  | _ => False
def BG (X : Cx) (vs : List Nat) (tg : Expr) (g : D → M Unit) : Prop := PG X tg (gOfT X.K X.mg vs g)
theorem _root_.L2.PG.imp {tg : Expr} {t t' : TG} (h : PG X tg t) (k : ∀ v σ H Q, t' v σ H Q → t v σ H Q) : PG X tg t' := ⟨fun pins s σ H v u Q I r q => h.run pins s σ H v u Q I r (k v σ H Q q)⟩
def gSet (i : Nat) : D → M Unit := fun d => setR i (.fz d)
theorem bg_name {i : Nat} {x : Str} (hN : X.N.Nodup) (hi : X.N[i]? = some x) (hx : Loc X.env.scope x) (hf : X.fn x = true ∨ X.env.scope.names.lookup x = some .local := by first | exact .inl rfl | exact .inr rfl | assumption) : BG X [i] (.Name x pos) (gSet i) :=
  (pg_name hN hi hx hf).imp fun v σ H Q ⟨G, io, F, β, d, I, r, h⟩ => h _ H F ⟨List.length_set .., fun j hj => List.getElem?_set_ne fun z => hj (by rw [z]; exact List.mem_singleton_self _)⟩ .refl (I.set (r := .fz d) r i)
def gOfTs (K : PySem.W.Frag) (mg : Str → Option Value) (ws : List Nat) (g : List D → M Unit) : TGs := fun vs σ H Q => ∃ G io F β ds, BI K mg G F io β σ H ∧ DRs K mg F vs ds ∧ match g ds β with
  | .ok _ β' => ∀ σ' H' F', But ws σ σ' → FE G io F F' → BI K mg G F' io β' σ' H' → Q σ' H'
  | _ => False
def BGs (X : Cx) (ws : List Nat) (ts : List Expr) (g : List D → M Unit) : Prop := PGs X ts (gOfTs X.K X.mg ws g)
theorem _root_.L2.PGs.imp {tg : List Expr} {t t' : TGs} (h : PGs X tg t) (k : ∀ v σ H Q, t' v σ H Q → t v σ H Q) : PGs X tg t' := ⟨fun pins s σ H vs us Q I r q => h.run pins s σ H vs us Q I r (k vs σ H Q q)⟩
def gsNil : List D → M Unit
  | [] => ret ()
  | _ => stk
def gsCons (g : D → M Unit) (h : List D → M Unit) : List D → M Unit
  | d :: ds => bnd (g d) fun _ => h ds
  | _ => stk
theorem bgs_nil : BGs X [] [] gsNil := pgs_nil.imp fun vs σ H Q ⟨G, io, F, β, ds, I, r, h⟩ => by
  cases r with
  | nil => exact ⟨rfl, h _ H F .refl .refl I⟩
  | cons a b => exact h.elim
theorem bgs_cons {e : Expr} {es : List Expr} {g : D → M Unit} {h : List D → M Unit} {vs ws : List Nat} (h1 : BG X vs e g) (h2 : BGs X ws es h) (hs : (assignEach (e :: es) X.env).map (·.2) = assign e X.env :: (assignEach es X.env).map (·.2) := by rfl) : BGs X (vs ++ ws) (e :: es) (gsCons g h) :=
  (pgs_cons h1 h2 hs).imp fun vs σ H Q ⟨G, io, F, β, ds, I, r, hq⟩ => by
    cases r with
    | nil => exact hq.elim
    | @cons v vs d ds a b =>
      refine ⟨v, vs, rfl, G, io, F, β, d, I, a, ?_⟩
      unfold gsCons bnd at hq
      simp only at hq
      cases e1 : g d β with
      | stuck => rw [e1] at hq; exact hq.elim
      | exc x β' => rw [e1] at hq; exact hq.elim
      | ok u β' =>
        rw [e1] at hq
        refine fun σ1 H1 F1 bu1 fe1 I1 => ⟨G, io, F1, β', ds, I1, b.mono fe1.same, ?_⟩
        have hq : (match h ds β' with
          | .ok _ β' => ∀ σ' H' F', But _ σ σ' → FE G io F F' → BI X.K X.mg G F' io β' σ' H' → Q σ' H'
          | _ => False) := hq
        cases e2 : h ds β' with
        | stuck => rw [e2] at hq; exact hq.elim
        | exc x β' => rw [e2] at hq; exact hq.elim
        | ok u β'' =>
          rw [e2] at hq
          exact fun σ2 H2 F2 bu2 fe2 I2 => hq σ2 H2 F2 (bu1.trans bu2) (fe1.trans fe2) I2
def gUnp (n : Nat) (g : List D → M Unit) : D → M Unit
  | .nd .tup ds => if ds.length = n then g ds else stk
  | _ => stk
theorem bg_tup {es : List Expr} {k : Nat} {g : List D → M Unit} {n : Nat} {vs : List Nat} (hc : X.calm = true) (h : BGs X vs es g) (hn : (assignEach es X.env).length = n := by rfl) (hst : (assignEach es X.env).findIdx? (·.1) = none := by rfl) : BG X vs (.Tuple es k pos) (gUnp n g) :=
  (pg_tup hc h hn hst).imp fun v σ H Q ⟨G, io, F, β, d, I, r, hq⟩ => by
    cases r with
    | @tup a vs ds hx rx =>
      simp only [gUnp] at hq
      by_cases hz : ds.length = n
      · rw [if_pos hz] at hq
        exact ⟨_, _, rfl, Same.sqT I.sf hx, by rw [rx.length]; exact hz, G, io, F, β, ds, I, rx, hq⟩
      · rw [if_neg hz] at hq
        exact hq.elim
    | _ => exact hq.elim
/-- target = e, through data that stays -/
def mAsg (g : D → M Unit) (me : M Rs) : M Fl := bnd me fun r => fun β => match g r.d β with
  | .ok _ β' => .ok .nx β'
  | _ => .stuck
theorem bs_asg {tg e : Expr} {g : D → M Unit} {vs : List Nat} (h : BE X e me) (hg : BG X vs tg g) (hs : swapsWithSole [tg] e pos.line X.env = pure false := by rfl) (hw : swappedStores [tg] e X.env = pure none := by rfl)
    (h1 : (assignEach [tg] X.env).map (·.2) = [assign tg X.env] := by rfl) : BS X (.Assign [tg] e pos) (mAsg g me) :=
  fun W tk => (ps_asg (h W tk) hg hs hw h1).imp fun D σ H ⟨G, io, F, β, I, hq⟩ => ⟨G, io, F, β, I, hq.of fun r β1 v H1 F1 fe1 I1 r1 h1 => by
    obtain ⟨F2, fe2, I2, dr⟩ := I1.freezeR r1
    refine ⟨G, io, F2, β1, r.d, I2, dr, ?_⟩
    cases e1 : g r.d β1 with
    | stuck => rw [e1] at h1; exact h1.elim
    | exc x β => rw [e1] at h1; exact h1.elim
    | ok u β2 =>
      rw [e1] at h1
      exact fun σ3 H3 F3 bu3 fe3 I3 => h1 σ3 H3 F3 (fe2.trans fe3) I3⟩

/-! ## loops -/
def forL (g : D → M Unit) (b : M Fl) : List D → M Fl
  | [] => ret .nx
  | d :: ds => fun β => match g d β with
    | .ok _ β' => (match b β' with
      | .ok .nx β'' => forL g b ds β''
      | .ok .ct β'' => forL g b ds β''
      | .ok .brk β'' => .ok .nx β''
      | .ok (.ret r) β'' => .ok (.ret r) β''
      | .exc x β'' => .exc x β''
      | .stuck => .stuck)
    | _ => .stuck
/-- an iterator that gives ds, while F stays -/
def ItR (K : PySem.W.Frag) (mg : Str → Option Value) (F : Hp) (J : It) (ds : List D) : Prop :=
  ∀ (i : Nat) (H : Hp), Same F H → (∀ d, ds[i]? = some d → J.go i H ∧ ∀ F1, Same F F1 → Same F1 H → ∀ x H', J.yld i H x H' → NR K mg F1 H (.fz d) x H') ∧ (ds.length ≤ i → J.stop i H)
def iOf (K : PySem.W.Frag) (mg : Str → Option Value) (W : WX) (m : M (List D)) : TI := fun σ H R => ∃ G io F β, BI K mg G F io β σ H ∧ Post K mg W (fun _ F _ _ _ _ (J : It) ds => ItR K mg F J ds) G F io σ (m β) R
/-- what is walked: its items -/
def BIt (X : Cx) (tg iter : Expr) (m : M (List D)) : Prop := ∀ W, Takes X W → PI X tg iter (iOf X.K X.mg W m)
theorem _root_.L2.PI.imp {tg it : Expr} {t t' : TI} (h : PI X tg it t) (k : ∀ σ H Q, t' σ H Q → t σ H Q) : PI X tg it t' := ⟨fun pins s σ H R I q => h.run pins s σ H R I (k σ H R q)⟩
def mFor (mi : M (List D)) (g : D → M Unit) (b : M Fl) : M Fl := bnd mi fun ds => forL g b ds
theorem bs_for {tg iter : Expr} {body : List Stmt} {mi : M (List D)} {g : D → M Unit} {vs : List Nat} {mb : M Fl} (hp : PassesOwn (model X.prog X.w) X.A X.env X.xe) (hc : X.calm = true) (hi : BIt X tg iter mi) (hg : BG X vs tg g) (hb : BSs X body mb)
    (hs : ∀ x, foldedSetIterable iter X.env x = pure x := by intro _; rfl) : BS X (.For tg iter body [] pos) (mFor mi g mb) := by
  refine fun W tk => (ps_for hp hc (hi W tk) hg (hb W tk) hs).imp fun D σ H ⟨G, io, F, β, I, h⟩ => ⟨G, io, F, β, I, h.of fun ds β1 J H1 F1 fe1 I1 r1 h1 => ?_⟩
  refine ⟨fun i m σ H => i ≤ ds.length ∧ m = ds.length - i ∧ ∃ F' β', FE G io F1 F' ∧ BI X.K X.mg G F' io β' σ H ∧ SPost X.K X.mg W G F' io (forL g mb (ds.drop i) β') D, ⟨ds.length, Nat.zero_le _, rfl, F1, β1, .refl, I1, h1⟩, ?_⟩
  rintro i m σ2 H2 ⟨hi', rfl, F2, β2, fe2, I2, h2⟩
  by_cases hlt : i < ds.length
  · have ed : ds[i]? = some ds[i] := List.getElem?_eq_getElem hlt
    have edr : ds.drop i = ds[i] :: ds.drop (i + 1) := (List.getElem_cons_drop hlt).symm
    obtain ⟨go, yld⟩ := (r1 i H2 (fe2.same.trans I2.sf)).1 _ ed
    rw [edr] at h2
    simp only [forL] at h2
    refine .inr ⟨go, fun σ' H' => ∃ F' β', FE G io F1 F' ∧ BI X.K X.mg G F' io β' σ' H' ∧ SPost X.K X.mg W G F' io (forL g mb (ds.drop (i + 1)) β') D, fun σ' H' ⟨F', β', fe', I', h'⟩ => ⟨ds.length - (i + 1), by omega, hlt, rfl, F', β', fe', I', h'⟩, fun x H3 hy => ?_⟩
    obtain ⟨F3, fe3, I3, r3⟩ := I2.step (yld F2 fe2.same I2.sf x H3 hy)
    refine ⟨G, io, F3, β2, ds[i], I3, r3, ?_⟩
    cases e1 : g ds[i] β2 with
    | stuck => rw [e1] at h2; exact h2.elim
    | exc x β => rw [e1] at h2; exact h2.elim
    | ok u β4 =>
      rw [e1] at h2
      simp only at h2 ⊢
      refine fun σ4 H4 F4 bu4 fe4 I4 => ⟨G, io, F4, β4, I4, ?_⟩
      have fe24 := fe3.trans fe4
      have h2 := SPost.mono h2 fe24
      have fe14 := fe2.trans fe24
      cases e2 : mb β4 with
      | stuck => rw [e2] at h2; exact h2.elim
      | exc x β5 => rw [e2] at h2; exact h2
      | ok f β5 =>
        rw [e2] at h2
        cases f with
        | nx => exact fun σ5 H5 F5 fe5 I5 => ⟨F5, β5, fe14.trans fe5, I5, SPost.mono h2 fe5⟩
        | ct => exact fun σ5 H5 F5 fe5 I5 => ⟨F5, β5, fe14.trans fe5, I5, SPost.mono h2 fe5⟩
        | brk => exact fun σ5 H5 F5 fe5 I5 => h2 σ5 H5 F5 fe5 I5
        | ret r => exact fun σ5 H5 F5 fe5 I5 => h2 σ5 H5 F5 fe5 I5
  · have e : i = ds.length := by omega
    subst e
    rw [List.drop_length] at h2
    exact .inl ⟨(r1 _ H2 (fe2.same.trans I2.sf)).2 (Nat.le_refl _), h2 σ2 H2 F2 .refl I2⟩
/-- while: so many turns at most -/
def whileN (c : M Bool) (b : M Fl) : Nat → M Fl
  | 0 => stk
  | n + 1 => fun β => match c β with
    | .ok true β' => (match b β' with
      | .ok .nx β'' => whileN c b n β''
      | .ok .ct β'' => whileN c b n β''
      | .ok .brk β'' => .ok .nx β''
      | .ok (.ret r) β'' => .ok (.ret r) β''
      | .exc x β'' => .exc x β''
      | .stuck => .stuck)
    | .ok false β' => .ok .nx β'
    | .exc x β' => .exc x β'
    | .stuck => .stuck
open Classical in
/-- while: as many turns as it takes -/
noncomputable def mWhile (c : M Bool) (b : M Fl) : M Fl := fun β => if h : ∃ n, whileN c b n β ≠ .stuck then whileN c b h.choose β else .stuck
theorem bs_while {c : Expr} {body : List Stmt} {mb : M Fl} (hp : PassesOwn (model X.prog X.w) X.A X.env X.xe) (hc : BT X c mt) (hb : BSs X body mb) : BS X (.While c body [] pos) (mWhile mt mb) := by
  refine fun W tk => (ps_while hp (hc W tk) (hb W tk)).imp fun D σ H ⟨G, io, F, β, I, h⟩ => ?_
  unfold mWhile at h
  split at h
  · rename_i hx
    generalize hx.choose = n at h
    refine ⟨fun m σ H => ∃ F' β', FE G io F F' ∧ BI X.K X.mg G F' io β' σ H ∧ SPost X.K X.mg W G F' io (whileN mt mb m β') D, ⟨n, F, β, .refl, I, h⟩, ?_⟩
    rintro m σ2 H2 ⟨F2, β2, fe2, I2, h2⟩
    cases m with
    | zero => exact h2.elim
    | succ m =>
      simp only [whileN] at h2
      refine ⟨G, io, F2, β2, I2, ?_⟩
      cases e1 : mt β2 with
      | stuck => rw [e1] at h2; exact h2.elim
      | exc x β => rw [e1] at h2; exact fun cls d H' F' fe I xr => h2 σ2 cls d H' F' fe I xr
      | ok k β3 =>
        rw [e1] at h2
        intro v H3 F3 fe3 I3 r3
        cases (show v = k from r3)
        cases k with
        | false => exact h2 σ2 H3 F3 fe3 I3
        | true =>
          simp only at h2
          have h2 := SPost.mono h2 fe3
          have fe13 := fe2.trans fe3
          rw [if_pos rfl]
          refine ⟨fun σ' H' => ∃ F' β', FE G io F F' ∧ BI X.K X.mg G F' io β' σ' H' ∧ SPost X.K X.mg W G F' io (whileN mt mb m β') D, fun σ' H' q => ⟨m, Nat.lt_succ_self _, q⟩, G, io, F3, β3, I3, ?_⟩
          cases e2 : mb β3 with
          | stuck => rw [e2] at h2; exact h2.elim
          | exc x β5 => rw [e2] at h2; exact h2
          | ok f β5 =>
            rw [e2] at h2
            cases f with
            | nx => exact fun σ5 H5 F5 fe5 I5 => ⟨F5, β5, fe13.trans fe5, I5, SPost.mono h2 fe5⟩
            | ct => exact fun σ5 H5 F5 fe5 I5 => ⟨F5, β5, fe13.trans fe5, I5, SPost.mono h2 fe5⟩
            | brk => exact fun σ5 H5 F5 fe5 I5 => h2 σ5 H5 F5 fe5 I5
            | ret r => exact fun σ5 H5 F5 fe5 I5 => h2 σ5 H5 F5 fe5 I5
  · exact h.elim
/-! what is walked -/
/-- the items of data -/
def items : D → Option (List D)
  | .nd .lst ds => some ds
  | .nd .scr ds => some ds
  | .nd .tup ds => some ds
  | _ => none
def mIter (me : M Rs) : M (List D) := bnd me fun r => liftO (items r.d)
theorem itR_list {F : Hp} {a : Addr} {vs : List V} {ds : List D} (h : SqL X.K F a vs) (r : DRs X.K X.mg F vs ds) : ItR X.K X.mg F (Itl X.K a) ds := by
  intro i H sf
  have hq : SqL X.K H a vs := Same.sqL sf h
  refine ⟨fun d ed => ?_, fun hl => ⟨vs, hq, by rw [r.length]; exact hl⟩⟩
  obtain ⟨v, ev, rv⟩ := r.getD ed
  refine ⟨⟨vs, v, hq, ev⟩, fun F1 s1 s2 x H' hy => ?_⟩
  obtain ⟨rfl, hy⟩ := hy
  have e := hy vs hq
  rw [ev] at e
  cases e
  exact NR.val s2 (rv.mono s1)
theorem itR_tup {F : Hp} {a : Addr} {vs : List V} {ds : List D} (h : SqT X.K F a vs) (r : DRs X.K X.mg F vs ds) : ItR X.K X.mg F (Itt X.K a) ds := by
  intro i H sf
  have hq : SqT X.K H a vs := Same.sqT sf h
  refine ⟨fun d ed => ?_, fun hl => ⟨vs, hq, by rw [r.length]; exact hl⟩⟩
  obtain ⟨v, ev, rv⟩ := r.getD ed
  refine ⟨⟨vs, v, hq, ev⟩, fun F1 s1 s2 x H' hy => ?_⟩
  obtain ⟨rfl, hy⟩ := hy
  have e := hy vs hq
  rw [ev] at e
  cases e
  exact NR.val s2 (rv.mono s1)
/-- a list or a tuple, by the value that comes -/
theorem pi_seq {tg l : Expr} {tl : TE} (hl : PE X l tl) : PI X tg l (fun σ H R => tl σ H fun x H1 => (∃ a xs, x = .ref a ∧ SqL X.K H1 a xs ∧ R (Itl X.K a) H1) ∨ (∃ a xs, x = .ref a ∧ SqT X.K H1 a xs ∧ R (Itt X.K a) H1)) := by
  refine ⟨fun pins s σ H R I h => ?_⟩
  refine thn (hl.run pins s σ H _ I h) fun v s1 ⟨x, H1, I1, r1, q1⟩ => ?_
  rcases q1 with ⟨a, xs, e, hq, q⟩ | ⟨a, xs, e, hq, q⟩
  · subst e
    cases r1
    obtain ⟨its, rv, p, hz⟩ := I1.list hq
    refine wpAny_pyIter_list p.isList ?_
    refine ⟨s1.heap.objs.size, [s1.heap.objs.size], _, _, H1, rfl, I1.kept (t' := s1.toks) fun b o e => Heap.get?_push_of_some _ e, turn_list a _, ⟨_, Heap.get?_push_size _ rfl, rfl, rfl⟩, fun b hb => ?_, q⟩
    have e : b = s1.heap.objs.size := by simpa using hb
    subst e
    exact I1.fpOk (Nat.le_refl _) (I1.hok.fresh (Nat.le_refl _))
  · subst e
    cases r1
    obtain ⟨its, rv, p, hz⟩ := I1.tuple hq
    refine wpAny_pyIter_tuple (show s1.heap.IsTuple a its.toArray from p) ?_
    refine ⟨s1.heap.objs.size, [s1.heap.objs.size], _, _, H1, rfl, I1.kept (t' := s1.toks) fun b o e => Heap.get?_push_of_some _ e, turn_tuple a _, ⟨_, Heap.get?_push_size _ rfl, rfl, rfl⟩, fun b hb => ?_, q⟩
    have e : b = s1.heap.objs.size := by simpa using hb
    subst e
    exact I1.fpOk (Nat.le_refl _) (I1.hok.fresh (Nat.le_refl _))
theorem bi_seq {tg l : Expr} (h : BE X l me) : BIt X tg l (mIter me) := by
  refine fun W tk => (pi_seq (h W tk)).imp fun σ H R ⟨G, io, F, β, I, hq⟩ => ⟨G, io, F, β, I, hq.bnd fun r β1 v H1 F1 fe1 I1 r1 h1 => ?_⟩
  obtain ⟨F2, fe2, I2, dr⟩ := I1.freezeR r1
  generalize r.d = d at h1 dr
  cases dr with
  | @lst a vs ds hx rx => exact .inl ⟨a, vs, rfl, .inl (.inl (I2.sf _ _ hx)), h1 _ H1 F2 (fe1.trans fe2) I2 (itR_list (.inl (.inl hx)) rx)⟩
  | @scr a vs ds hx rx => exact .inl ⟨a, vs, rfl, Same.sqL I2.sf hx, h1 _ H1 F2 (fe1.trans fe2) I2 (itR_list hx rx)⟩
  | @tup a vs ds hx rx => exact .inr ⟨a, vs, rfl, Same.sqT I2.sf hx, h1 _ H1 F2 (fe1.trans fe2) I2 (itR_tup hx rx)⟩
  | _ => exact h1.elim
theorem itR_range (lo : Int) (n : Nat) {F : Hp} : ItR X.K X.mg F (Itr lo n) ((List.range n).map fun (k : Nat) => D.int (lo + (k : Int))) := by
  intro i H sf
  refine ⟨fun d ed => ?_, fun hl => by rw [List.length_map, List.length_range] at hl; exact hl⟩
  rw [List.getElem?_map] at ed
  obtain ⟨k, ek, rfl⟩ := Option.map_eq_some_iff.mp ed
  obtain ⟨hk, rfl⟩ := List.getElem?_eq_some_iff.mp ek
  rw [List.length_range] at hk
  refine ⟨hk, fun F1 s1 s2 x H' hy => ?_⟩
  obtain ⟨rfl, rfl⟩ := hy
  rw [List.getElem_range]
  exact NR.val s2 (.int _)
def inR (i : Int) : Bool := decide (-(2 ^ 62) ≤ i ∧ i < 2 ^ 62)
def rng (lo hi : Int) : List D := (List.range (hi - lo).toNat).map fun (k : Nat) => D.int (lo + (k : Int))
def rngA (ps : List Pl) : M (List D) := fun β => match looks β ps with
  | some [.int j] => if inR j = true then .ok (rng 0 j) β else .stuck
  | _ => .stuck
def rngB (ps : List Pl) : M (List D) := fun β => match looks β ps with
  | some [.int i, .int j] => if inR i = true ∧ inR j = true then .ok (rng i j) β else .stuck
  | _ => .stuck
/-- lo, lo + c, .. : n of them -/
def stepN (i j c : Int) : Nat := if 0 < c then ((j - i + c - 1) / c).toNat else ((i - j + (-c) - 1) / (-c)).toNat
theorem bi_range1 {tg a : Expr} {ma : M (List Pl)} {p pos : Pos} (hm : X.mg "range" = none) (ha : BA X [a] ma) (hg : Gl X "range" := by rfl) (hs : starEach [a] X.env = [(false, eval a X.env)] := by rfl) : BIt X tg (.Call (.Name "range" p) [a] [] pos) (bnd ma rngA) := by
  refine fun W tk => (pi_range1 hg hm (ha W tk) hs).imp fun σ H R ⟨G, io, F, β, I, hq⟩ => ⟨G, io, F, β, I, hq.bnd fun ps β1 vs H1 F1 fe1 I1 r1 h1 => ?_⟩
  unfold rngA at h1
  cases e : looks β1 ps with
  | none => rw [e] at h1; exact h1.elim
  | some ds =>
    rw [e] at h1
    have r := I1.looks r1 e
    split at h1
    · split at h1
      · rename_i e1 hj
        cases e1
        cases r with
        | cons a b =>
          cases b
          cases a
          have hj : -(2 ^ 62) ≤ _ ∧ _ < (2 : Int) ^ 62 := of_decide_eq_true hj
          refine ⟨_, rfl, hj.1, hj.2, h1 _ H1 F1 fe1 I1 ?_⟩
          unfold rng
          rw [Int.sub_zero]
          exact itR_range 0 _
      · exact h1.elim
    · exact h1.elim
theorem bi_range2 {tg a b : Expr} {ma : M (List Pl)} {p pos : Pos} (hm : X.mg "range" = none) (ha : BA X [a, b] ma) (hg : Gl X "range" := by rfl) (hs : starEach [a, b] X.env = [(false, eval a X.env), (false, eval b X.env)] := by rfl) (hs2 : starEach [b] X.env = [(false, eval b X.env)] := by rfl) :
    BIt X tg (.Call (.Name "range" p) [a, b] [] pos) (bnd ma rngB) := by
  refine fun W tk => (pi_range2 hg hm (ha W tk) hs hs2).imp fun σ H R ⟨G, io, F, β, I, hq⟩ => ⟨G, io, F, β, I, hq.bnd fun ps β1 vs H1 F1 fe1 I1 r1 h1 => ?_⟩
  unfold rngB at h1
  cases e : looks β1 ps with
  | none => rw [e] at h1; exact h1.elim
  | some ds =>
    rw [e] at h1
    have r := I1.looks r1 e
    split at h1
    · split at h1
      · rename_i e1 hj
        cases e1
        cases r with
        | cons a b =>
          cases b with
          | cons b c =>
            cases c
            cases a
            cases b
            have h3 : -(2 ^ 62) ≤ _ ∧ _ < (2 : Int) ^ 62 := of_decide_eq_true hj.1
            have h4 : -(2 ^ 62) ≤ _ ∧ _ < (2 : Int) ^ 62 := of_decide_eq_true hj.2
            exact ⟨_, _, rfl, ⟨h3.1, h3.2, h4.1, h4.2⟩, h1 _ H1 F1 fe1 I1 (itR_range _ _)⟩
      · exact h1.elim
    · exact h1.elim
end
end B

set_option Elab.async false
set_option linter.all false
set_option maxRecDepth 100000
set_option maxHeartbeats 4000000
namespace B
open PySem PySem.Spec L2
/-! ## objects of one's own, changed -/
section
variable {K : PySem.W.Frag} {mg : Str → Option Value} {G : GT} {F H H' : Hp} {io : List Addr} {β : B.Env} {σ : L2.St} {i : Nat} {k : Option Nat} {a : Addr} {d d' : D} {o : HO}
/-- where an own slot's object is -/
theorem BI.ownAt (I : BI K mg G F io β σ H) (e : β[i]? = some (.own k d)) : ∃ a, σ[i]? = some (some (.ref a)) ∧ F a = none ∧ G a = none ∧ OwnR K mg F H a d := by
  obtain ⟨o, eo, a, rfl, f, g, _, _, r⟩ := I.sl i _ e
  exact ⟨a, eo, f, g, r⟩
theorem BI.mut (I : BI K mg G F io β σ H) (e : β[i]? = some (.own k d)) (ea : σ[i]? = some (some (.ref a))) (r : OwnR K mg F (upd H a o) a d') : BI K mg G F io (β.set i (.own k d')) σ (upd H a o) := by
  obtain ⟨w, ew, a', ea', f, g, i1, i2, r0⟩ := I.sl i _ e
  obtain rfl : a' = a := by
    rw [ea] at ew
    cases ew
    cases ea'
    rfl
  have hi : i < β.length := (List.getElem?_eq_some_iff.mp e).1
  refine ⟨I.sg.upd g r0.nc, fun b u h => ?_, I.ioF, fun b hb => ?_, by rw [List.length_set]; exact I.len, fun j s ej => ?_, fun j l s t b ej el hj hl => ?_⟩
  · rw [upd_ne (ne_of_none h f)]
    exact I.sf b u h
  · by_cases hba : b = a'
    · exact ⟨_, by rw [hba, upd_same]⟩
    · rw [upd_ne hba]
      exact I.ioH b hb
  · by_cases hj : i = j
    · subst hj
      rw [List.getElem?_set_self hi] at ej
      cases ej
      exact ⟨_, ea, a', rfl, f, g, i1, i2, r⟩
    · rw [List.getElem?_set_ne hj] at ej
      obtain ⟨w2, ew2, hs⟩ := I.sl j s ej
      refine ⟨w2, ew2, ?_⟩
      cases s with
      | ex z0 => exact hs
      | gh _ => exact hs
      | un => trivial
      | fz e' => exact hs
      | own b e' =>
        obtain ⟨x, q, f', g', j1, j2, r'⟩ := hs
        refine ⟨x, q, f', g', j1, j2, r'.mono (Same.refl _) (upd_ne fun z => hj ?_)⟩
        exact I.apart i j _ _ a' e ej rfl rfl ea (by rw [ew2, q, z])
  · have back : ∀ {m : Nat} {u : Sl}, (β.set i (.own k d'))[m]? = some u → isOwn u = true → ∃ u', β[m]? = some u' ∧ isOwn u' = true := fun {m u} em hm => by
      by_cases him : i = m
      · subst him
        exact ⟨_, e, rfl⟩
      · rw [List.getElem?_set_ne him] at em
        exact ⟨u, em, hm⟩
    obtain ⟨s', es, hs⟩ := back ej hj
    obtain ⟨t', et, ht⟩ := back el hl
    exact I.apart j l s' t' b es et hs ht
end
/-- a method that changes its object: what it hands back, the object behind it -/
def MutD (X : Cx) (T id : String) (g : D → List D → Option (D × D)) : Prop := ∃ r, MtR X id r ∧ ∀ (F H : Hp) (a : Addr) (d : D) (vs : List V) (ds : List D) (rd d' : D), Same F H → F a = none → OwnR X.K X.mg F H a d → DRs X.K X.mg F vs ds → g d ds = some (rd, d') →
  ∀ Q : VK, (∀ z o, OwnR X.K X.mg F (upd H a o) a d' → DR X.K X.mg F z rd → Q z (upd H a o)) → r (.ref a) vs H Q
/-- whether an own slot's object is of a type -/
def isTy : String → D → Bool
  | "list", .nd .lst _ => true
  | "dict", .nd .dct _ => true
  | _, _ => false
theorem isTy_v {K : PySem.W.Frag} {mg : Str → Option Value} {F H : Hp} {a : Addr} {T : String} {d : D} (h : OwnR K mg F H a d) (e : isTy T d = true) : tyV K T (.ref a) H := by
  unfold isTy at e
  split at e
  · cases h with
    | lst h r => exact .inl ⟨rfl, _, .inl (.inl h)⟩
  · cases h with
    | dK h r q => exact .inr (.inr (.inl ⟨rfl, .inl ⟨_, h⟩⟩))
    | dT h r q => exact .inr (.inr (.inl ⟨rfl, .inr ⟨_, h⟩⟩))
  · cases e
def ownTy (T : String) (i : Nat) : M Unit := fun β => match β[i]? with
  | some (.own _ d) => if isTy T d = true then .ok () β else .stuck
  | _ => .stuck
def finM (i : Nat) (g : D → List D → Option (D × D)) (ps : List Pl) : M Rs := fun β => match β[i]?, allD ps with
  | some (.own k d), some ds => (match g d ds with
    | some (rd, d') => .ok (.fz rd) (β.set i (.own k d'))
    | none => .stuck)
  | _, _ => .stuck
def mMut (T : String) (i : Nat) (g : D → List D → Option (D × D)) (ma : M (List Pl)) : M Rs := bnd (ownTy T i) fun _ => bnd ma fun ps => finM i g ps
section
variable {X : Cx} {i : Nat} {x : Str} {p pos apos cpos : Pos} {e : Expr} {es : List Expr} {ma : M (List Pl)} {T id' : String} {name : Str} {g : D → List D → Option (D × D)}
theorem finM_post {W : WX} {G : GT} {F H : Hp} {io : List Addr} {β : B.Env} {σ : L2.St} {ps : List Pl} {vs : List V} {v : V} {r : V → List V → Hp → VK → Prop} {Q : VK} (I : BI X.K X.mg G F io β σ H) (ev : σ[i]? = some (some v)) (rp : PRs X.K X.mg F σ vs ps)
    (k : ∀ (F H : Hp) (a : Addr) (d : D) (vs : List V) (ds : List D) (rd d' : D), Same F H → F a = none → OwnR X.K X.mg F H a d → DRs X.K X.mg F vs ds → g d ds = some (rd, d') →
      ∀ Q : VK, (∀ z o, OwnR X.K X.mg F (upd H a o) a d' → DR X.K X.mg F z rd → Q z (upd H a o)) → r (.ref a) vs H Q)
    (h : Post X.K X.mg W (relE X.K X.mg) G F io σ (finM i g ps β) Q) : r v vs H Q := by
  unfold finM at h
  cases e1 : β[i]? with
  | none => rw [e1] at h; exact h.elim
  | some s =>
    cases s with
    | ex z0 => rw [e1] at h; exact h.elim
    | gh _ => rw [e1] at h; exact h.elim
    | un => rw [e1] at h; exact h.elim
    | fz d => rw [e1] at h; exact h.elim
    | own b d =>
      cases e2 : allD ps with
      | none => rw [e1, e2] at h; exact h.elim
      | some ds =>
        rw [e1, e2] at h
        simp only at h
        cases e3 : g d ds with
        | none => rw [e3] at h; exact h.elim
        | some q =>
          obtain ⟨rd, d'⟩ := q
          rw [e3] at h
          obtain ⟨a, ea, f, gn, o⟩ := I.ownAt e1
          obtain rfl : v = .ref a := by
            rw [ea] at ev
            cases ev
            rfl
          exact k F H a d vs ds rd d' I.sf f o (rp.all e2) e3 Q fun z ho o' dr => h z _ F .refl (I.mut e1 ea o') dr
theorem be_mut (pa : PlainAttrs T) (slot : Slot T name id') (hty : typeOf (.builtin id') = pure (.type "method_descriptor")) (hm : MutD X T id' g) (hN : X.N[i]? = some x) (hv : Vis X.env.scope x) (ha : BA X (e :: es) ma) (hd : (x == ("__debug__" : Str)) = false := by decide)
    (hcd : (x == ("__classdict__" : Str)) = false := by decide) (hbase : attributeBase (.Name x p) name X.env (eval (.Name x p) X.env) = eval (.Name x p) X.env := by rfl)
    (hfew : ((backTo cpos (starEach (e :: es) X.env)).all (fun x => !x.1) && (backToKw cpos (keywordEach [] X.env)).all (fun x => x.1.isSome)
      && decide ((e :: es).length + ([] : List Keyword).length + (if ([] : List Keyword).isEmpty then 0 else 1) < 30)) = true := by rfl)
    (hline : (apos.endLine == cpos.line) = true := by rfl) (hs : starEach (e :: es) X.env = (false, eval e X.env) :: starEach es X.env := by rfl) (hplain : (backTo cpos (starEach es X.env)).any (·.1) = false := by rfl) :
    BE X (.Call (.Attribute (.Name x p) name apos) (e :: es) [] cpos) (mMut T i g ma) := by
  obtain ⟨r, hr, k⟩ := hm
  refine fun W tk => (pe_bm pa slot hty hr (pe_var hN hv hd hcd) (ha W tk) hbase hfew hline hs hplain).imp fun σ H Q ⟨G, io, F, β, I, h⟩ => ?_
  unfold mMut ownTy bnd at h
  simp only at h
  cases e1 : β[i]? with
  | none => rw [e1] at h; exact h.elim
  | some s =>
    rw [e1] at h
    cases s with
    | ex z0 => exact h.elim
    | gh _ => exact h.elim
    | un => exact h.elim
    | fz d => exact h.elim
    | own b d =>
      simp only at h
      by_cases ht : isTy T d = true
      · rw [if_pos ht] at h
        obtain ⟨a, ea, f, gn, o⟩ := I.ownAt e1
        refine ⟨_, ea, isTy_v o ht, G, io, F, β, I, Post.bnd (f := fun ps => finM i g ps) h fun ps β1 vs H1 F1 fe1 I1 r1 h1 => ?_⟩
        exact finM_post I1 ea r1 k (h1.mono fe1)
      · rw [if_neg ht] at h
        exact h.elim
theorem be_mut0 (pa : PlainAttrs T) (slot : Slot T name id') (hty : typeOf (.builtin id') = pure (.type "method_descriptor")) (hm : MutD X T id' g) (hN : X.N[i]? = some x) (hv : Vis X.env.scope x) (hd : (x == ("__debug__" : Str)) = false := by decide)
    (hcd : (x == ("__classdict__" : Str)) = false := by decide) (hbase : attributeBase (.Name x p) name X.env (eval (.Name x p) X.env) = eval (.Name x p) X.env := by rfl) (hline : (apos.endLine == cpos.line) = true := by rfl) :
    BE X (.Call (.Attribute (.Name x p) name apos) [] [] cpos) (mMut T i g mNil) := by
  obtain ⟨r, hr, k⟩ := hm
  refine fun W tk => (pe_bm0 pa slot hty hr (pe_var hN hv hd hcd) hbase hline).imp fun σ H Q ⟨G, io, F, β, I, h⟩ => ?_
  unfold mMut ownTy bnd at h
  simp only at h
  cases e1 : β[i]? with
  | none => rw [e1] at h; exact h.elim
  | some s =>
    rw [e1] at h
    cases s with
    | ex z0 => exact h.elim
    | gh _ => exact h.elim
    | un => exact h.elim
    | fz d => exact h.elim
    | own b d =>
      simp only at h
      by_cases ht : isTy T d = true
      · rw [if_pos ht] at h
        obtain ⟨a, ea, f, gn, o⟩ := I.ownAt e1
        refine ⟨_, ea, isTy_v o ht, ?_⟩
        exact finM_post (ps := []) I ea .nil k h
      · rw [if_neg ht] at h
        exact h.elim
def gAppend : D → List D → Option (D × D)
  | .nd .lst ds, [d] => if ds.length < sizeLine then some (.non, .nd .lst (ds ++ [d])) else none
  | _, _ => none
theorem mu_append : MutD X "list" "list.append" gAppend := by
  refine ⟨_, mt_append, fun F H a d vs ds rd d' sf fa o r hg Q q => ?_⟩
  unfold gAppend at hg
  split at hg
  · split at hg
    · rename_i hz
      cases hg
      cases o with
      | lst h rl =>
        cases r with
        | cons r1 r2 =>
          cases r2
          exact ⟨_, _, _, rfl, rfl, h, by rw [rl.length]; exact hz, q _ _ (.lst upd_same (rl.append (.cons r1 .nil))) .non⟩
    · cases hg
  · cases hg
def gExtend : D → List D → Option (D × D)
  | .nd .lst ds, [.nd .lst es] => if ds.length + es.length ≤ sizeLine then some (.non, .nd .lst (ds ++ es)) else none
  | _, _ => none
theorem mu_extend : MutD X "list" "list.extend" gExtend := by
  refine ⟨_, mt_extend, fun F H a d vs ds rd d' sf fa o r hg Q q => ?_⟩
  unfold gExtend at hg
  split at hg
  · split at hg
    · rename_i hz
      cases hg
      cases o with
      | lst h rl =>
        cases r with
        | cons r1 r2 =>
          cases r2
          cases r1 with
          | lst h1 rl1 => exact ⟨_, _, _, _, rfl, rfl, h, sf _ _ h1, by rw [rl.length, rl1.length]; exact hz, q _ _ (.lst upd_same (rl.append rl1)) .non⟩
    · cases hg
  · cases hg
theorem DRs.eraseIdx {K : PySem.W.Frag} {mg : Str → Option Value} {F : Hp} : ∀ {vs : List V} {ds : List D} (i : Nat), DRs K mg F vs ds → DRs K mg F (vs.eraseIdx i) (ds.eraseIdx i)
  | _, _, _, .nil => .nil
  | _, _, 0, .cons _ b => b
  | _, _, i + 1, .cons a b => .cons a (DRs.eraseIdx i b)
theorem DRs.dropLast {K : PySem.W.Frag} {mg : Str → Option Value} {F : Hp} : ∀ {vs : List V} {ds : List D}, DRs K mg F vs ds → DRs K mg F vs.dropLast ds.dropLast
  | _, _, .nil => .nil
  | _, _, .cons _ .nil => .nil
  | _, _, .cons a (.cons b c) => .cons a (DRs.dropLast (.cons b c))
def gPop : D → List D → Option (D × D)
  | .nd .lst ds, [] => (ds[ds.length - 1]?).map fun d => (d, .nd .lst ds.dropLast)
  | .nd .lst ds, [.int i] => if -(2 ^ 63) ≤ i ∧ i < 2 ^ 63 then (seqIndex? i ds.length).bind fun k => (ds[k]?).map fun d => (d, .nd .lst (ds.eraseIdx k)) else none
  | _, _ => none
theorem mu_pop : MutD X "list" "list.pop" gPop := by
  refine ⟨_, MtR.or mt_pop mt_popAt, fun F H a d vs ds rd d' sf fa o r hg Q q => ?_⟩
  unfold gPop at hg
  split at hg
  · obtain ⟨dl, e1, e2⟩ := Option.map_eq_some_iff.mp hg
    cases e2
    cases r
    cases o with
    | lst h rl =>
      obtain ⟨w, ew, rw'⟩ := rl.getD e1
      rw [← rl.length] at ew
      exact .inl ⟨_, _, _, rfl, rfl, h, ew, q _ _ (.lst upd_same rl.dropLast) rw'⟩
  · split at hg
    · rename_i hz
      obtain ⟨k, e1, e2⟩ := Option.bind_eq_some_iff.mp hg
      obtain ⟨dl, e3, e4⟩ := Option.map_eq_some_iff.mp e2
      cases e4
      cases r with
      | cons r1 r2 =>
        cases r2
        cases r1
        cases o with
        | lst h rl =>
          obtain ⟨w, ew, rw'⟩ := rl.getD e3
          exact .inr ⟨_, _, _, _, _, rfl, rfl, h, hz.1, hz.2, by rw [rl.length]; exact e1, ew, q _ _ (.lst upd_same (rl.eraseIdx _)) rw'⟩
    · cases hg
  · cases hg
def gReverse : D → List D → Option (D × D)
  | .nd .lst ds, [] => some (.non, .nd .lst ds.reverse)
  | _, _ => none
theorem mu_reverse : MutD X "list" "list.reverse" gReverse := by
  refine ⟨_, mt_reverse, fun F H a d vs ds rd d' sf fa o r hg Q q => ?_⟩
  unfold gReverse at hg
  split at hg
  · cases hg
    cases r
    cases o with
    | lst h rl => exact ⟨_, _, rfl, rfl, h, q _ _ (.lst upd_same rl.reverse) .non⟩
  · cases hg
/-! x[k] = e, x a name -/
def setIx (i : Nat) (v : Rs) (kd : D) : M Fl := fun β => match β[i]?, kd with
  | some (.own b (.nd .lst ds)), .int k => (match ixN ds.length k with
    | some j => .ok .nx (β.set i (.own b (.nd .lst (ds.set j v.d))))
    | none => .stuck)
  | _, _ => .stuck
/-- the value first, then the key -/
def mSetIx (i : Nat) (me mk : M Rs) : M Fl := bnd me fun r => bnd (mPl i) fun _ => bnd mk fun kr => setIx i r kr.d
theorem BI.freezeRun {K : PySem.W.Frag} {mg : Str → Option Value} {G : GT} {F H : Hp} {io : List Addr} {β : B.Env} {σ : L2.St} {v : V} {r : Rs} (I : BI K mg G F io β σ H) (h : RR K mg G F io H β σ v r) : ∃ F', FE G io F F' ∧ BI K mg G F' io β σ H ∧ DR K mg F' v r.d := I.freezeR h
theorem bs_setIx {k : Expr} {pos' : Pos} {me mk : M Rs} (hN : X.N[i]? = some x) (hv : Vis X.env.scope x) (he : BE X e me) (hk : BE X k mk) (hd : (x == ("__debug__" : Str)) = false := by decide) (hcd : (x == ("__classdict__" : Str)) = false := by decide)
    (hs : swapsWithSole [.Subscript (.Name x p) k pos'] e pos.line X.env = pure false := by rfl) (hw : swappedStores [.Subscript (.Name x p) k pos'] e X.env = pure none := by rfl)
    (h1 : (assignEach [.Subscript (.Name x p) k pos'] X.env).map (·.2) = [assign (.Subscript (.Name x p) k pos') X.env] := by rfl)
    (ha : ∀ v, assign (.Subscript (.Name x p) k pos') X.env v = (do
      let ov ← holding [v] (eval (.Name x p) X.env)
      let iv ← holding [v, ov] (eval k X.env)
      standAt pos'
      holding [v, ov, iv] (setItem ov iv v)
      release [v, ov, iv] []) := by intro _; rfl) : BS X (.Assign [.Subscript (.Name x p) k pos'] e pos) (mSetIx i me mk) := by
  refine fun W tk => (ps_asg (he W tk) (pg_sub (pe_var hN hv hd hcd) (hk W tk) set_list ha) hs hw h1).imp fun D σ H ⟨G, io, F, β, I, h⟩ => ⟨G, io, F, β, I, h.of fun r β1 v H1 F1 fe1 I1 r1 h1 => ?_⟩
  obtain ⟨F2, fe2, I2, dr⟩ := I1.freezeR r1
  have h7 : SPost X.K X.mg W G F2 io ((mPl i β1).bnd fun _ β => (mk β).bnd fun kr β => setIx i r kr.d β) D := SPost.mono h1 fe2
  clear h1
  cases e0 : mPl i β1 with
  | stuck => rw [e0] at h7; exact h7.elim
  | exc x β => unfold mPl at e0; split at e0 <;> cases e0
  | ok pl β2 =>
    rw [e0] at h7
    have hw : ∃ w, σ[i]? = some (some w) ∧ β2 = β1 := by
      unfold mPl at e0
      split at e0
      · rename_i d e1
        cases e0
        obtain ⟨o, eo, w, rfl, _⟩ := I2.sl i _ e1
        exact ⟨w, eo, rfl⟩
      · rename_i b d e1
        cases e0
        obtain ⟨o, eo, a, rfl, _⟩ := I2.sl i _ e1
        exact ⟨_, eo, rfl⟩
      · cases e0
    obtain ⟨w, ew, rfl⟩ := hw
    have h8 : SPost X.K X.mg W G F2 io ((mk β2).bnd fun kr β => setIx i r kr.d β) D := h7
    exact ⟨w, ew, G, io, F2, β2, I2, h8.of fun kr β3 kv H3 F3 fe3 I3 r3 h3 => by
      obtain ⟨F4, fe4, I4, dk⟩ := I3.freezeR r3
      have h3 := SPost.mono h3 fe4
      generalize hkd : kr.d = kd at h3 dk
      unfold setIx at h3
      split at h3
      · rename_i b ds kk e1
        split at h3
        · rename_i j ej
          obtain ⟨a, ea, f, gn, o⟩ := I4.ownAt e1
          cases dk
          cases o with
          | lst ho rl =>
            rw [ea] at ew
            cases ew
            refine ⟨_, _, _, j, rfl, rfl, ho, by rw [rl.length]; exact ej, ?_⟩
            have I5 := I4.mut (o := .lst _) e1 ea (OwnR.lst upd_same (DRs.set ((dr.mono fe3.same).mono fe4.same) j rl))
            exact h3 σ _ F4 .refl I5
        · exact h3.elim
      · exact h3.elim⟩
/-! x op= e -/
def mAug (i : Nat) (f : Int → Int → Int) (me : M Rs) : M Fl := fun β => match β[i]? with
  | some (.fz (.int a)) => bnd me (fun r => match r.d with
    | .int b => bnd (setR i (.fz (.int (f a b)))) fun _ => ret .nx
    | _ => stk) β
  | _ => .stuck
theorem bs_aug {op : Operator} {f : Int → Int → Int} {pos' : Pos} {me : M Rs} (ho : PIp X op (ipI f)) (hN : X.N.Nodup) (hi : X.N[i]? = some x) (hx : Loc X.env.scope x) (he : BE X e me)
    (hf : X.fn x = true ∨ X.env.scope.names.lookup x = some .local := by first | exact .inl rfl | exact .inr rfl | assumption) : BS X (.AugAssign (.Name x pos') op e pos) (mAug i f me) := by
  refine fun W tk => (ps_aug hN hi hx (he W tk) ho hf).imp fun D σ H ⟨G, io, F, β, I, h⟩ => ?_
  unfold mAug at h
  split at h
  · rename_i a e1
    obtain ⟨o, eo, w, rfl, r⟩ := I.sl i _ e1
    cases r
    refine ⟨_, eo, G, io, F, β, I, SPost.of h fun r β1 v H1 F1 fe1 I1 r1 h1 => ?_⟩
    obtain ⟨F2, fe2, I2, dr⟩ := I1.freezeR r1
    have h1 := SPost.mono h1 fe2
    generalize r.d = d at h1 dr
    cases dr with
    | int b => exact ⟨_, _, rfl, rfl, h1 _ H1 F2 .refl (I2.set (r := .fz (.int (f a b))) (.int _) i)⟩
    | _ => exact h1.elim
  · exact h.elim
/-! a, b = e1, e2: plain local names -/
def mPar (i j : Nat) (ma : M (List Pl)) : M Fl := bnd ma fun ps => fun β => match allD ps with
  | some [d, e] => .ok .nx ((β.set i (.fz d)).set j (.fz e))
  | _ => .stuck
theorem bs_par {j : Nat} {y : Str} {a b : Expr} {px py pt : Pos} {kt k2 : Nat} {pt2 : Pos} (hc : X.calm = true) (hN : X.N.Nodup) (hi : X.N[i]? = some x) (hj : X.N[j]? = some y) (hij : i ≠ j)
    (hx : X.env.scope.names.lookup x = some .local) (hy : X.env.scope.names.lookup y = some .local) (ha : BA X [a, b] ma)
    (hw : swappedStores [.Tuple [.Name x px, .Name y py] kt pt] (.Tuple [a, b] k2 pt2) X.env = pure (some [x, y]) := by rfl)
    (hs : swapsWithSole [.Tuple [.Name x px, .Name y py] kt pt] (.Tuple [a, b] k2 pt2) pos.line X.env = pure false := by rfl) :
    BS X (.Assign [.Tuple [.Name x px, .Name y py] kt pt] (.Tuple [a, b] k2 pt2) pos) (mPar i j ma) := by
  refine fun W tk => (ps_par hc hN hi hj hij hx hy (ha W tk) hw hs).imp fun D σ H ⟨G, io, F, β, I, h⟩ => ⟨G, io, F, β, I, h.of fun ps β1 vs H1 F1 fe1 I1 r1 h1 => ?_⟩
  split at h1
  · rename_i d e' e1
    have r := PRs.all r1 e1
    cases r with
    | cons ra rb =>
      cases rb with
      | cons rb rc =>
        cases rc
        refine ⟨_, _, rfl, h1 _ H1 F1 .refl ?_⟩
        have J := I1.set (r := .fz d) ra i
        exact J.set (r := .fz e') rb j
  · exact h1.elim
/-! o.f = e, o an object of one's own -/
def setF (f : Str) (d : D) : List Str → List D → List Str × List D
  | n :: ns, e :: es => if f = n then (n :: ns, d :: es) else let r := setF f d ns es; (n :: r.1, e :: r.2)
  | _, _ => ([f], [d])
end
end B

set_option Elab.async false
set_option linter.all false
set_option maxRecDepth 100000
set_option maxHeartbeats 4000000
namespace B
open PySem PySem.Spec L2
/-! ## defs where no repr is under way (so lists can be shown) -/
structure RoomG (k : Nat) (A : Around) : Prop where
  r : Room k A
  g : A.guards = some []
theorem RoomG.deeper {k : Nat} {A : Around} (r : RoomG (k + 1) A) (env : PySem.Env) : RoomG k (A.deeper env) := ⟨r.r.deeper env, r.g⟩
theorem RoomG.mono {j k : Nat} {A : Around} (r : RoomG k A) (h : j ≤ k) : RoomG j A := ⟨r.r.mono h, r.g⟩
theorem RoomG.make {k : Nat} {A : Around} (r : RoomG (k + 1) A) (C : Addr) (us : List Value) (kw : List (Str × Value)) : RoomG k (A.under (.builtin "type.__call__" ⟨.ref C :: us, kw⟩)) := by
  refine ⟨r.r.make C us kw, ?_⟩
  have e : (Code.builtin "type.__call__" ⟨.ref C :: us, kw⟩).guards = [] := by simp [Code.guards, Code.isGuard, guardIds]
  unfold Around.under
  rw [e, r.g]
  rfl
/-- a def's promise, wherever it is called from such a place -/
structure FnG (P : Program) (w : World) (K : PySem.W.Frag) (mg : Str → Option Value) (base : Heap) (k : Nat) (f : Addr) (fd : FuncData) (ps : List Str) (sp : Sp) : Prop where
  len : ∀ vs H Q E, sp vs H Q E → vs.length = ps.length
  run : ∀ {A : Around} {outer : List PySem.Env} {s : Shared} {H : Hp} {args : Args} {us : List Value} {vs : List V} {Q : VK} {E : XK}, RoomG k A → Env0 P w K mg base A outer s H → BindsTo s fd args (ps.zip us) → Vals vs us → sp vs H Q E →
    codeAny (model P w) A (.call (.ref f) args) (CR (L2.CX P w) outer P w H s Q E) s
section
variable {P : Program} {w : World} {K : PySem.W.Frag} {mg : Str → Option Value} {base : Heap} {k : Nat} {f : Addr} {N ps : List Str} {sp : Sp}
theorem FnG.mono {j : Nat} {fd : FuncData} (F : FnG P w K mg base j f fd ps sp) (h : j ≤ k) : FnG P w K mg base k f fd ps sp := ⟨F.len, fun hr => F.run (hr.mono h)⟩
theorem fnG_raw {name qual : Str} {params : Arguments} {body : List Stmt} {scope : Scope} {dV kV doc pm cdv ct oc : Value} {an od : Option Addr} {osl : Array (Option Value)} (lk : K.lookup f = some ⟨oc, od, .func (PySem.W.fnOf name qual params body scope dV kV doc pm an cdv ct), osl⟩)
    (hcd : PySem.W.codeIn K cdv qual = true) (S : FnScope N ps scope) (len : ∀ vs H Q E, sp vs H Q E → vs.length = ps.length)
    (hbody : ∀ (A : Around) (outer : List PySem.Env) (s : Shared) (H : Hp) (vs : List V) (Q : VK) (E : XK), RoomG k (A.deeper (PyProof.Rows.envOfC qual scope s.heap.objs.size f cdv)) → sp vs H Q E →
      ∃ t, PSs (cxOf (L2.CX P w) P w K mg base N qual scope f cdv A outer s H E) body t ∧ t { nx := fun _ H' => Q .non H', rt := Q } (L2.start N vs) H) :
    FnG P w K mg base (k + 1) f (PySem.W.fnOf name qual params body scope dV kV doc pm an cdv ct) ps sp where
  len := len
  run {A outer s H args us vs Q E} room e0 hb rel hsp := by
    have inHeap := e0.mod.kin.keeps fun b o z => (e0.bs b o z).1
    refine codeAny_call_function room.r.depth (inHeap _ _ lk) rfl S.co S.gen rfl (PySem.W.codeRec_of inHeap hcd) (hb _ _ _ _ ?_)
    refine wpAny_newFunctionEnv_cells S.kind (fun ⟨y, v⟩ hy => (S.par y (List.of_mem_zip hy).1).imp id fun c => ⟨c, PySem.W.cellsFrom_some _ _ _ (.inl c)⟩) fun env he s1 x => ?_
    cases he
    refine ⟨(e0.mod.nolimit.keeps fun b o z => (e0.bs b o z).1).keeps x.toInCall.keep, codeAny_func ?_⟩
    obtain ⟨t, run, start⟩ := hbody A outer s H vs Q E (room.deeper _) hsp
    refine wpAny_mono (run.run [] s1 (L2.start N vs) H _ (inv_start S room.r.hd e0 (len _ _ _ _ hsp) rel x) start) (fun fl s' hs => ?_) fun e s' hs => hs
    rcases fl with _ | _ | _ | u
    · obtain ⟨σ', H', J, q⟩ := hs
      exact ⟨V.non, H', J.os, J.bare, J.base, J.hok, rfl, q⟩
    · obtain ⟨_, _, _, q⟩ := hs
      exact q.elim
    · obtain ⟨_, _, _, q⟩ := hs
      exact q.elim
    · obtain ⟨v, σ', H', J, rv, q⟩ := hs
      exact ⟨v, H', J.os, J.bare, J.base, J.hok, rv, q⟩
theorem FunG {x qual : Str} {st : Stmt} {fd : FuncData} (F : Fun K x qual st f fd) (S : FnScope N ps (defScope st)) (len : ∀ vs H Q E, sp vs H Q E → vs.length = ps.length)
    (hbody : ∀ (cdv : Value) (A : Around) (outer : List PySem.Env) (s : Shared) (H : Hp) (vs : List V) (Q : VK) (E : XK), RoomG k (A.deeper (PyProof.Rows.envOfC qual (defScope st) s.heap.objs.size f cdv)) → sp vs H Q E →
      ∃ t, PSs (cxOf (L2.CX P w) P w K mg base N qual (defScope st) f cdv A outer s H E) (defBody st) t ∧ t { nx := fun _ H' => Q .non H', rt := Q } (L2.start N vs) H) : FnG P w K mg base (k + 1) f fd ps sp := by
  obtain ⟨oc, od, kV, doc, pm, an, cdv, ct, osl, rfl, lk, hcd⟩ := F.ex
  exact fnG_raw lk hcd S len fun A outer s H vs Q E => hbody cdv A outer s H vs Q E
theorem FunDG {x qual : Str} {params : Arguments} {body : List Stmt} {scope : Scope} {dvs : List V} {kws : List (Str × V)} {fd : FuncData} (F : FunD K x qual params body scope dvs kws f fd) (S : FnScope N ps scope) (len : ∀ vs H Q E, sp vs H Q E → vs.length = ps.length)
    (hbody : ∀ (cdv : Value) (A : Around) (outer : List PySem.Env) (s : Shared) (H : Hp) (vs : List V) (Q : VK) (E : XK), RoomG k (A.deeper (PyProof.Rows.envOfC qual scope s.heap.objs.size f cdv)) → sp vs H Q E →
      ∃ t, PSs (cxOf (L2.CX P w) P w K mg base N qual scope f cdv A outer s H E) body t ∧ t { nx := fun _ H' => Q .non H', rt := Q } (L2.start N vs) H) : FnG P w K mg base (k + 1) f fd ps sp := by
  obtain ⟨oc, od, dV, kV, doc, pm, an, cdv, ct, osl, rfl, lk, hcd, _, _⟩ := F.ex
  exact fnG_raw lk hcd S len fun A outer s H vs Q E => hbody cdv A outer s H vs Q E
end
section
variable {X : Cx} {k : Nat} {f : Addr} {fd : FuncData} {ps : List Str} {sp : Sp} {E : L2.St → XK} {x : Str} {p pos : Pos} {e : Expr} {es : List Expr} {t tk : TA} {dvs : List V} {ds : List Value} {kws : List Keyword} {ks : List Str} {n : Nat} {g : List Value → List Value → List Value} {gV : List V → List V → List V}
/-- behind the entry -/
theorem call_end {pins : List (Addr × Obj)} {σ : L2.St} {H : Hp} {s : Shared} {Q : VK} {args : Args} {us : List Value} {vs : List V} (F : FnG X.prog X.w X.K X.mg X.base k f fd ps sp) (hr : RoomG k X.A) (hx : PassesAt (L2.CX X.prog X.w) X σ (E σ)) (I : Inv X pins σ H s) (b : BindsTo s fd args (ps.zip us)) (r : Vals vs us)
    (h : sp vs H Q (E σ)) : codeAny (model X.prog X.w) X.A (.call (.ref f) args) (fun r s' => match r with
      | .ok (.ret u) => EP X pins σ Q u s'
      | .ok _ => False
      | .error e => X.xe e s') s :=
  codeAny_mono (F.run hr I.env0 b r h) fun r s' q => match r, q with
    | .error e, q => hx pins H s e s' I q
    | .ok (.ret _), q => I.after q
    | .ok .next, q => q.elim
    | .ok .brk, q => q.elim
    | .ok .cont, q => q.elim
/-- f(e, ..) -/
theorem pe_callG (F : FnG X.prog X.w X.K X.mg X.base k f fd ps sp) (hr : RoomG k X.A) (hg : Gl X x) (hm : X.mg x = some (.ref f)) (hk : PySem.W.keepIn X.K (.ref f) = true) (hb : Binds X.K fd ps ds) (hd : Vals dvs ds) (hx : ∀ σ, PassesAt (L2.CX X.prog X.w) X σ (E σ))
    (ha : PA X (e :: es) t) (hdb : (x == ("__debug__" : Str)) = false := by decide) (he : starEach (e :: es) X.env = (false, eval e X.env) :: starEach es X.env := by rfl) (hpl : (backTo pos (starEach es X.env)).any (·.1) = false := by rfl) :
    PE X (.Call (.Name x p) (e :: es) [] pos) (fun σ H Q => t σ H fun vs H1 => sp (vs ++ dvs) H1 Q (E σ)) where
  run pins s σ H Q I h := wpAny_Call_Name_kw (ld_glob I hg hm (PySem.W.callWith_K (h₀ := X.base) I.ok.mod.kin hk (thn (ha.run pos pins s σ H _ I h) fun us s1 ⟨vs, H1, I1, r, q⟩ => ⟨I1.kIn, by
      have rr : Vals (vs ++ dvs) (us ++ ds) := r.append hd
      exact wpAny_call (codeAny_mono (call_end F hr (hx σ) I1 (hb s1 us I1.kIn (rr.length.symm.trans (F.len _ _ _ _ q))) rr q) fun r s' z => match r, z with
        | .error _, z => z
        | .ok (.ret _), z => z)⟩) he hpl) hdb)
/-- f(e, .., y = k, ..) -/
theorem pe_callKG (F : FnG X.prog X.w X.K X.mg X.base k f fd ps sp) (hr : RoomG k X.A) (hg : Gl X x) (hm : X.mg x = some (.ref f)) (hk : PySem.W.keepIn X.K (.ref f) = true) (hb : KBn X.K fd ps n ks g gV) (hx : ∀ σ, PassesAt (L2.CX X.prog X.w) X σ (E σ))
    (ha : PA X (e :: es) t) (hkw : PK X kws tk) (hall : (backToKw pos (keywordEach kws X.env)).all (·.1.isSome) = true := by rfl) (hks : (backToKw pos (keywordEach kws X.env)).filterMap (·.1) = ks := by rfl)
    (hdb : (x == ("__debug__" : Str)) = false := by decide) (he : starEach (e :: es) X.env = (false, eval e X.env) :: starEach es X.env := by rfl)
    (hpl : ((backTo pos (starEach (e :: es) X.env)).any (·.1) || (backToKw pos (keywordEach kws X.env)).any (·.1.isNone)) = false := by rfl) :
    PE X (.Call (.Name x p) (e :: es) kws pos) (fun σ H Q => t σ H fun vs H1 => tk σ H1 fun zs H2 => vs.length = n ∧ zs.length = ks.length ∧ sp (gV vs zs) H2 Q (E σ)) where
  run pins s σ H Q I h := wpAny_Call_Name_kw (ld_glob I hg hm (PySem.W.callWith_KW (h₀ := X.base) I.ok.mod.kin hk hall (thn (ha.run pos pins s σ H _ I h) fun us s1 ⟨vs, H1, I1, r, q⟩ => thn (hkw.run pos pins s1 σ H1 _ I1 q) fun ws s2 ⟨zs, H2, I2, rz, l1, l2, q2⟩ => ⟨I2.kIn, by
      rw [hks]
      exact wpAny_call (codeAny_mono (call_end F hr (hx σ) I2 (hb.to s2 us ws I2.kIn (r.length.symm.trans l1) (rz.length.symm.trans l2)) (hb.rel r rz) q2) fun r s' z => match r, z with
        | .error _, z => z
        | .ok (.ret _), z => z)⟩) hpl he) hdb)
end
/-! ## the law's end -/
section
variable {P : Program} {w : World} {K : PySem.W.Frag} {mg mb : Str → Option Value} {k : Nat} {fa a : Addr} {fd : FuncData} {x : Str} {sp : Sp} {s₁ : Shared} {vs : List Value} {ns : List Int}
/-- what the script's place may be: one more object, or one of the written part -/
structure Scr (P : Program) (w : World) (K : PySem.W.Frag) (a : Addr) (ns : List Int) (s₁ : Shared) (H : Hp) : Prop where
  only : ∀ b u, H b = some u → b = a ∧ K.lookup a = none ∧ ∃ o xs, u = .frz o (.lst xs)
  sq : SqL K H a (ns.map V.int)
  ok : HOk P w H s₁.heap
theorem scr_of (KX : K.In s₁.heap) (ha : s₁.heap.get? a = some { cls := .type "list", data := .seq vs.toArray }) (hi : PyProof.Rows.IntsAre vs ns) (hl : ns.length ≤ sizeLine) : ∃ H, Scr P w K a ns s₁ H := by
  have rv := vals_ints hi
  have hlv : vs.length ≤ sizeLine := by rw [hi.length]; exact hl
  cases hk : K.lookup a with
  | some o =>
    have e := KX a o hk
    rw [ha] at e
    cases e
    exact ⟨fun _ => none, fun b u z => (nomatch z), .inr ⟨_, vs.toArray, _, hk, rfl, rfl, rfl, by rw [List.size_toArray]; exact hlv, by simpa using rv⟩, fun b u z => (nomatch z)⟩
  | none =>
    let o : Obj := { cls := .type "list", data := .seq vs.toArray }
    refine ⟨upd (fun _ => none) a (.frz o (.lst (ns.map V.int))), fun b u z => ?_, .inl (.inr ⟨o, upd_same⟩), fun b u z => ?_⟩
    · by_cases hb : b = a
      · subst hb
        rw [upd_same] at z
        cases z
        exact ⟨rfl, hk, _, _, rfl⟩
      · rw [upd_ne hb] at z
        cases z
    · by_cases hb : b = a
      · subst hb
        rw [upd_same] at z
        cases z
        exact ⟨ha, by rw [List.length_map]; exact hl, vs, _, rv, ha⟩
      · rw [upd_ne hb] at z
        cases z
theorem law_end {H : Hp} (S : Scr P w K a ns s₁ H) (KX : K.In s₁.heap) (hns : s₁.heap.Ns mainGlobals mg) (hb : s₁.heap.Ns builtinsNs mb) (hbb : ∀ x : Str, x ≠ "__name__" → mb x = bootBuiltins x) (hlim : s₁.heap.NoLimit) (hg : s₁.gens = #[])
    (ha : s₁.heap.get? a = some { cls := .type "list", data := .seq vs.toArray }) (hr : RoomG k callerA) (F : ∀ base : Heap, K.In base → base.Ns mainGlobals mg → FnG P w K mg base k fa fd [x] sp) (hbind : ∀ (s : Shared) (u : Value), BindsTo s fd ⟨[u], []⟩ [(x, u)])
    (hsp : sp [.ref a] H (fun v _ => v = .bl true) fun _ _ _ => False) (hCX : ∀ e s', L2.CX P w [] H s₁ (fun _ _ _ => False) e s' → False) :
    codeAny (model P w) callerA (.call (.ref fa) ⟨[.ref a], []⟩) (fun r s' => r = .ok (.ret (.bool true)) ∧ OldK s₁.heap s'.heap ∧ s'.os = s₁.os ∧ PyProof.Rows.AllBare s'.gens) s₁ := by
  -- a dict isn't the script
  have free : ∀ {b : Addr} {m : Str → Option Value}, s₁.heap.Ns b m → H b = none := fun {b m} ⟨o, es, ep, e, d, _⟩ => by
    cases q : H b with
    | none => rfl
    | some u =>
      obtain ⟨rfl, _⟩ := S.only b u q
      rw [ha] at e
      cases e
      cases d
  have ns : ∀ {b : Addr} {m : Str → Option Value}, s₁.heap.Ns b m → (hidT s₁.heap H).Ns b m := fun n => n.at fun o e => (hidT_get e (free n)).trans e.symm |>.symm ▸ (hidT_get e (free n))
  have inB : K.In (hidT s₁.heap H) := fun b o e => hidT_get (KX b o e) (by
    cases q : H b with
    | none => rfl
    | some u =>
      obtain ⟨rfl, n, _⟩ := S.only b u q
      rw [n] at e
      cases e)
  have base : Mod K mg (hidT s₁.heap H) := ⟨inB, ns hns, ⟨mb, ns hb, hbb⟩, hlim.elim fun mc h => ⟨mc, ns h.1, h.2⟩⟩
  have e0 : Env0 P w K mg (hidT s₁.heap H) callerA [] s₁ H := ⟨rfl, base, fun b o e => of_hidT e, Nat.le_of_eq (hidT_size _ _), trivial, fun b hb => (nomatch hb), S.ok, .of_eq hg⟩
  refine codeAny_mono ((F _ inB (ns hns)).run (us := [.ref a]) (vs := [.ref a]) hr e0 (hbind s₁ (.ref a)) (.cons rfl .nil) hsp) fun r s' h => ?_
  match r, h with
  | .error e, h => exact (hCX e s' h).elim
  | .ok (.ret u), ⟨v, H', os, bare, un, hok', r', q⟩ =>
    cases (show v = .bl true from q)
    cases (show u = Value.bool true from r')
    refine ⟨rfl, OldK.of_keep fun b o e => ?_, os, bare⟩
    cases q : H b with
    | none => exact un.keep b o e q (fun z => nomatch z) (fun z => nomatch z)
    | some u =>
      obtain ⟨_, _, ob, xs, rfl⟩ := S.only b u q
      have k1 := (S.ok b _ q).1
      have k2 := (hok' b _ (un.frzs b ob _ q)).1
      rw [e] at k1
      cases k1
      exact k2
end
/-- the goal that k_head leaves, from the law's promise -/
theorem walk_B {l : PySem.W.OpenLaw} {n k : Nat} {q : Program} {loose : List Str} {XP : (Str → Option Value) → Heap → Prop} {YP : World → Heap → Prop} {d : DefRec} {K : Params → PySem.W.Frag} {sp : World → (Str → Option Value) → Sp} {x : Str}
    (hn : l.most = some n) (hn2 : n ≤ sizeLine) (hdf : d.params.defaults = []) (hr : Room k callerA) (hY : ∀ (w : World) (h : Heap), YP w h → (K w.params).In h)
    (F : ∀ (w : World) (mg : Str → Option Value) (fa : Addr) (h : Heap), (K w.params).In h → h.Ns mainGlobals mg → mg d.name = some (.ref fa) →
      ∃ fd : FuncData, (∀ (s : Shared) (u : Value), BindsTo s fd ⟨[u], []⟩ [(x, u)]) ∧ ∀ base : Heap, (K w.params).In base → base.Ns mainGlobals mg → FnG l.prog w (K w.params) mg base k fa fd [x] (sp w mg))
    (hsp : ∀ (w : World) (mg : Str → Option Value) (H : Hp) (a : Addr) (ns : List Int), ns.length ≤ n → (∀ z ∈ ns, Builtin.Int.intBits z ≤ 1048576) → SqL (K w.params) H a (ns.map V.int) → sp w mg [.ref a] H (fun v _ => v = .bl true) fun _ _ _ => False) :
    PySem.W.WalkO q loose XP YP l.row.toRowW d [] (fun f vs => PySem.call f vs) := by
  refine Att.attach_callB hn hdf fun w s₀ s₁ mg mb fa o pm cd doc a vs ns G Y ho hd hcd hmg hobj hints hlen hbits hg => ?_
  have KX := hY w _ Y
  obtain ⟨fd, hb, hF⟩ := F w mg fa _ KX G.T.g hmg
  obtain ⟨H, S⟩ := scr_of (P := l.prog) (w := w) KX hobj hints (Nat.le_trans hlen hn2)
  exact law_end S KX G.T.g G.T.b G.T.builtins G.T.nolimit hg hobj ⟨hr, rfl⟩ hF hb (hsp w mg H a ns hlen hbits S.sq) fun e s' h => by
    obtain ⟨_, _, _, _, _, _, _, _, _, _, _, _, z⟩ := h
    exact z
end B

set_option Elab.async false
set_option linter.all false
set_option maxRecDepth 100000
set_option maxHeartbeats 4000000
namespace B
open PySem PySem.Spec L2
/-! ## defs -/
/-- a def's end: what comes back, what the objects handed in to be changed are then -/
inductive FR where
  | stuck | ok (r : Rs) (ios : List D) | exc (x : Exn) (ios : List D)
/-- the arguments: ks tells which are handed in to be changed, io their addresses -/
inductive AR (K : PySem.W.Frag) (mg : Str → Option Value) (F H : Hp) : List Bool → List Addr → List V → List D → Prop
  | nil : AR K mg F H [] [] [] []
  | fz {v : V} {d : D} {ks : List Bool} {io : List Addr} {vs : List V} {ds : List D} : DR K mg F v d → AR K mg F H ks io vs ds → AR K mg F H (false :: ks) io (v :: vs) (d :: ds)
  | io {a : Addr} {d : D} {ks : List Bool} {io : List Addr} {vs : List V} {ds : List D} : OwnR K mg F H a d → AR K mg F H ks io vs ds → AR K mg F H (true :: ks) (a :: io) (.ref a :: vs) (d :: ds)
inductive IoR (K : PySem.W.Frag) (mg : Str → Option Value) (F H : Hp) : List Addr → List D → Prop
  | nil : IoR K mg F H [] []
  | cons {a : Addr} {d : D} {io : List Addr} {ds : List D} : OwnR K mg F H a d → IoR K mg F H io ds → IoR K mg F H (a :: io) (d :: ds)
/-- how all stands behind a call -/
structure After (K : PySem.W.Frag) (mg : Str → Option Value) (T : Addr → Option Str) (F H : Hp) (io : List Addr) (ios : List D) (F' H' : Hp) : Prop where
  same : Same F F'
  new : ∀ a o, F' a = some o → F a = some o ∨ H a = none
  sf : Same F' H'
  ioF : ∀ a ∈ io, F' a = none
  keep : ∀ b o, H b = some o → b ∉ io → T b = none → H' b = some o
  tab : ∀ a q, T a = some q → F' a = none ∧ LamX.TabS H' a q
  ios : IoR K mg F' H' io ios
def spB (K : PySem.W.Frag) (mg : Str → Option Value) (ks : List Bool) (f : List D → FR) : Sp := fun vs H Q E => ∃ T F io ds, ((∀ a q, T a = some q → F a = none ∧ LamX.TabS H a q) ∧ ∀ a ∈ io, T a = none) ∧ Same F H ∧ (∀ a ∈ io, F a = none) ∧ io.Nodup ∧ AR K mg F H ks io vs ds ∧ match f ds with
  | .stuck => False
  | .ok r ios => ∀ v H' F', After K mg T F H io ios F' H' → (match r with
    | .fz d => DR K mg F' v d
    | .own d => ∃ a, v = .ref a ∧ H a = none ∧ F' a = none ∧ OwnR K mg F' H' a d) → Q v H'
  | .exc x ios => ∀ cls d H' F', After K mg T F H io ios F' H' → XR K mg F' cls d x → E cls d H'
theorem AR.len {K : PySem.W.Frag} {mg : Str → Option Value} {F H : Hp} : ∀ {ks : List Bool} {io : List Addr} {vs : List V} {ds : List D}, AR K mg F H ks io vs ds → vs.length = ks.length ∧ ds.length = ks.length
  | _, _, _, _, .nil => ⟨rfl, rfl⟩
  | _, _, _, _, .fz _ r => ⟨by rw [List.length_cons, List.length_cons, (AR.len r).1], by rw [List.length_cons, List.length_cons, (AR.len r).2]⟩
  | _, _, _, _, .io _ r => ⟨by rw [List.length_cons, List.length_cons, (AR.len r).1], by rw [List.length_cons, List.length_cons, (AR.len r).2]⟩
/-- the slots at the entry: the parameters (j: how many are handed in to be changed so far) -/
def par : List Bool → Nat → List D → B.Env
  | false :: ks, j, d :: ds => .fz d :: par ks j ds
  | true :: ks, j, d :: ds => .own (some j) d :: par ks (j + 1) ds
  | _, _, _ => []
def start0 (ks : List Bool) (n : Nat) (ds : List D) : B.Env := par ks 0 ds ++ List.replicate (n - ks.length) .un
/-- what was handed in to be changed, at the end -/
def endIo : List Bool → Nat → B.Env → Option (List D)
  | [], _, _ => some []
  | false :: ks, j, _ :: β => endIo ks j β
  | true :: ks, j, .own (some j') d :: β => if j' = j then (endIo ks (j + 1) β).map (d :: ·) else none
  | _, _, _ => none
def finF (ks : List Bool) : R Fl → FR
  | .ok (.ret r) β => match endIo ks 0 β with
    | some ios => .ok r ios
    | none => .stuck
  | .ok .nx β => match endIo ks 0 β with
    | some ios => .ok (.fz .non) ios
    | none => .stuck
  | .exc x β => match endIo ks 0 β with
    | some ios => .exc x ios
    | none => .stuck
  | _ => .stuck
def runB (ks : List Bool) (n : Nat) (m : M Fl) (ds : List D) : FR := finF ks (m (start0 ks n ds))
section
variable {K : PySem.W.Frag} {mg : Str → Option Value} {G : GT} {F F' H H' : Hp} {io : List Addr} {β : B.Env} {σ : L2.St}
theorem par_sl (G : GT) (io : List Addr) (gi : ∀ a ∈ io, G a = none) (fi : ∀ a ∈ io, F a = none) : ∀ {ks : List Bool} {l : List Addr} {vs : List V} {ds : List D} (pre : List Addr), AR K mg F H ks l vs ds → io = pre ++ l → ∀ (i : Nat) (s : Sl), (par ks pre.length ds)[i]? = some s → ∃ v, vs[i]? = some v ∧ SlR K mg G F io H (some v) s
  | _, _, _, _, pre, .nil, _, i, s, h => by simp [par] at h
  | _, _, _, _, pre, .fz r a, e, 0, s, h => by
    have h' := Option.some.inj h
    subst h'
    exact ⟨_, rfl, _, rfl, r⟩
  | _, _, _, _, pre, .fz r a, e, i + 1, s, h => par_sl G io gi fi pre a e i s h
  | _, _, _, _, pre, .io (a := a) r ar, e, 0, s, h => by
    have h' := Option.some.inj h
    subst h'
    have ha : a ∈ io := by rw [e]; simp
    refine ⟨_, rfl, a, rfl, fi a ha, gi a ha, fun q => (nomatch q), fun k q => ?_, r⟩
    cases q
    rw [e]
    simp
  | _, _, _, _, pre, .io (a := a) (io := l) (ks := ks') (ds := ds') r ar, e, i + 1, s, h => by
    have h' : (par ks' (pre ++ [a]).length ds')[i]? = some s := by
      rw [List.length_append, List.length_singleton]
      exact h
    exact par_sl G io gi fi (pre ++ [a]) ar (by rw [e]; simp) i s h'
theorem par_own : ∀ {ks : List Bool} {j i : Nat} {ds : List D} {b : Option Nat} {d : D}, (par ks j ds)[i]? = some (.own b d) → ∃ m, b = some m ∧ j ≤ m
  | [], _, _, _, _, _, h => by simp [par] at h
  | false :: ks, j, 0, d :: ds, _, _, h => by cases h
  | false :: ks, j, i + 1, d :: ds, _, _, h => par_own (ks := ks) (i := i) h
  | true :: ks, j, 0, d :: ds, _, _, h => by cases h; exact ⟨j, rfl, Nat.le_refl _⟩
  | true :: ks, j, i + 1, d :: ds, _, _, h => by
    obtain ⟨m, e, hm⟩ := par_own (ks := ks) (j := j + 1) (i := i) h
    exact ⟨m, e, Nat.le_of_succ_le hm⟩
  | false :: _, _, _, [], _, _, h => by simp [par] at h
  | true :: _, _, _, [], _, _, h => by simp [par] at h
theorem par_inj : ∀ {ks : List Bool} {j i i' : Nat} {ds : List D} {m : Nat} {d d' : D}, (par ks j ds)[i]? = some (.own (some m) d) → (par ks j ds)[i']? = some (.own (some m) d') → i = i'
  | [], _, _, _, _, _, _, _, h, _ => by simp [par] at h
  | false :: ks, j, 0, _, d :: ds, _, _, _, h, _ => by cases h
  | false :: ks, j, _ + 1, 0, d :: ds, _, _, _, _, h => by cases h
  | false :: ks, j, i + 1, i' + 1, d :: ds, _, _, _, h, h' => by rw [par_inj (ks := ks) (j := j) (ds := ds) h h']
  | true :: ks, j, 0, 0, d :: ds, _, _, _, _, _ => rfl
  | true :: ks, j, 0, i' + 1, d :: ds, m, _, _, h, h' => by
    cases h
    obtain ⟨m', e, hm⟩ := par_own (ks := ks) (j := j + 1) (i := i') h'
    cases e
    omega
  | true :: ks, j, i + 1, 0, d :: ds, m, _, _, h, h' => by
    cases h'
    obtain ⟨m', e, hm⟩ := par_own (ks := ks) (j := j + 1) (i := i) h
    cases e
    omega
  | true :: ks, j, i + 1, i' + 1, d :: ds, _, _, _, h, h' => by rw [par_inj (ks := ks) (j := j + 1) (ds := ds) h h']
  | false :: _, _, _, _, [], _, _, _, h, _ => by simp [par] at h
  | true :: _, _, _, _, [], _, _, _, h, _ => by simp [par] at h
theorem par_len : ∀ {ks : List Bool} {j : Nat} {ds : List D}, ds.length = ks.length → (par ks j ds).length = ks.length
  | [], _, [], _ => rfl
  | false :: ks, j, d :: ds, h => by
    show (par ks j ds).length + 1 = _
    rw [par_len (Nat.succ.inj h), List.length_cons]
  | true :: ks, j, d :: ds, h => by
    show (par ks (j + 1) ds).length + 1 = _
    rw [par_len (Nat.succ.inj h), List.length_cons]
/-- all but what is handed in to be changed -/
def butIo (T : Addr → Option Str) (H : Hp) (io : List Addr) : GT := ⟨fun a => if a ∈ io ∨ T a ≠ none then none else H a, T⟩
theorem butIo_io {T : Addr → Option Str} {H : Hp} {io : List Addr} {a : Addr} (h : a ∈ io) (t : T a = none) : butIo T H io a = none := GT.none_iff.mpr ⟨t, if_pos (.inl h)⟩
theorem butIo_none {T : Addr → Option Str} {H : Hp} {io : List Addr} {a : Addr} (h : butIo T H io a = none) (n : a ∉ io) : T a = none ∧ H a = none := by
  obtain ⟨t, g⟩ := GT.none_iff.mp h
  refine ⟨t, ?_⟩
  have g : (if a ∈ io ∨ T a ≠ none then none else H a) = none := g
  rwa [if_neg (fun z => z.elim n fun z => z t)] at g
theorem bi_start {ks : List Bool} {N : List Str} {vs : List V} {ds : List D} (sf : Same F H) {T : Addr → Option Str} (tt : (∀ a q, T a = some q → F a = none ∧ LamX.TabS H a q) ∧ ∀ a ∈ io, T a = none) (fi : ∀ a ∈ io, F a = none) (nd : io.Nodup) (ar : AR K mg F H ks io vs ds) (hn : ks.length ≤ N.length) : BI K mg (butIo T H io) F io (start0 ks N.length ds) (L2.start N vs) H := by
  obtain ⟨lv, ld⟩ := ar.len
  have gi : ∀ a ∈ io, butIo T H io a = none := fun a ha => butIo_io ha (tt.2 a ha)
  have io_there : ∀ {ks : List Bool} {l : List Addr} {vs : List V} {ds : List D}, AR K mg F H ks l vs ds → ∀ a ∈ l, ∃ o, H a = some o := by
    intro ks l vs ds h
    induction h with
    | nil => intro a ha; cases ha
    | fz _ _ ih => exact ih
    | io r _ ih =>
      intro b hb
      rcases List.mem_cons.mp hb with rfl | hb
      · obtain ⟨o, e, _⟩ := r.there
        exact ⟨o, e⟩
      · exact ih b hb
  have hpl := par_len (j := 0) ld
  have sl : ∀ (i : Nat) (s : Sl), (start0 ks N.length ds)[i]? = some s → ∃ o, (L2.start N vs)[i]? = some o ∧ SlR K mg (butIo T H io) F io H o s := fun i s e => by
    unfold start0 at e
    unfold L2.start
    by_cases hi : i < ks.length
    · rw [List.getElem?_append_left (by omega)] at e
      obtain ⟨v, ev, r⟩ := par_sl (butIo T H io) io gi fi [] ar rfl i s e
      refine ⟨some v, ?_, r⟩
      rw [List.getElem?_append_left (by rw [List.length_map]; omega), List.getElem?_map, ev]
      rfl
    · rw [List.getElem?_append_right (by omega), List.getElem?_replicate] at e
      split at e
      · cases e
        refine ⟨none, ?_, trivial⟩
        rw [List.getElem?_append_right (by rw [List.length_map]; omega), List.getElem?_replicate, List.length_map, if_pos (by omega)]
      · cases e
  refine ⟨⟨fun a o h => ?_, tt.1, fun a o h => ?_⟩, sf, fi, io_there ar, ?_, sl, fun i j s t a e1 e2 h1 h2 z1 z2 => ?_⟩
  · unfold butIo at h
    simp only at h
    split at h
    · cases h
    · exact h
  · unfold butIo at h ⊢
    simp only at h ⊢
    split at h
    · cases h
    · rename_i z
      cases q : T a with
      | none => rfl
      | some x => exact absurd (.inr (by rw [q]; simp)) z
  · unfold start0 L2.start
    rw [List.length_append, List.length_append, List.length_map, List.length_replicate, List.length_replicate]
    omega
  · -- two own slots are parameters
    have isp : ∀ {i : Nat} {b : Option Nat} {d : D}, (start0 ks N.length ds)[i]? = some (.own b d) → (par ks 0 ds)[i]? = some (.own b d) := fun {i b d} e => by
      unfold start0 at e
      by_cases hi : i < ks.length
      · rwa [List.getElem?_append_left (by omega)] at e
      · rw [List.getElem?_append_right (by omega), List.getElem?_replicate] at e
        split at e <;> cases e
    cases s with
    | ex z0 => cases h1
    | gh _ => cases h1
    | un => cases h1
    | fz _ => cases h1
    | own b d =>
      cases t with
      | ex z0 => cases h2
      | gh _ => cases h2
      | un => cases h2
      | fz _ => cases h2
      | own b' d' =>
        obtain ⟨m, rfl, _⟩ := par_own (isp e1)
        obtain ⟨m', rfl, _⟩ := par_own (isp e2)
        obtain ⟨o1, q1, a1, w1, _, _, _, k1, _⟩ := sl i _ e1
        obtain ⟨o2, q2, a2, w2, _, _, _, k2, _⟩ := sl j _ e2
        rw [z1] at q1
        rw [z2] at q2
        cases q1
        cases q2
        cases w1
        cases w2
        have y1 := k1 m rfl
        have y2 := k2 m' rfl
        have em : m = m' := nd_ix nd y1 y2
        subst em
        exact par_inj (isp e1) (isp e2)
/-- at the end -/
theorem endIo_ok (I : BI K mg G F io β σ H) : ∀ {ks : List Bool} {n j : Nat} {ios : List D}, endIo ks j (β.drop n) = some ios → io.length = j + (ks.filter id).length → IoR K mg F H (io.drop j) ios := by
  intro ks
  induction ks with
  | nil =>
    intro n j ios h hl
    cases h
    rw [List.drop_of_length_le (by simp at hl; omega)]
    exact .nil
  | cons k ks ih =>
    intro n j ios h hl
    cases e : β.drop n with
    | nil =>
      rw [e] at h
      cases k <;> simp [endIo] at h
    | cons s r =>
      have er : r = β.drop (n + 1) := by
        have := congrArg List.tail e
        rw [List.tail_drop] at this
        exact this.symm
      have es : β[n]? = some s := by
        have := congrArg List.head? e
        rw [List.head?_drop] at this
        exact this
      rw [e, er] at h
      cases k with
      | false =>
        have h' : endIo ks j (β.drop (n + 1)) = some ios := by
          cases s <;> exact h
        exact ih h' (by simpa using hl)
      | true =>
        cases s with
        | ex z0 => simp [endIo] at h
        | gh _ => simp [endIo] at h
        | un => simp [endIo] at h
        | fz d => simp [endIo] at h
        | own b d =>
          cases b with
          | none => simp [endIo] at h
          | some j' =>
            simp only [endIo] at h
            split at h
            · rename_i ej
              subst ej
              obtain ⟨l, el, rfl⟩ := Option.map_eq_some_iff.mp h
              obtain ⟨o, eo, a, rfl, _, _, _, k1, r1⟩ := I.sl n _ es
              have ha := k1 j' rfl
              have hlt := (List.getElem?_eq_some_iff.mp ha).1
              have ed : io.drop j' = a :: io.drop (j' + 1) := by
                rw [List.drop_eq_getElem_cons hlt]
                congr 1
                have := List.getElem?_eq_getElem hlt
                rw [ha] at this
                exact (Option.some.inj this).symm
              rw [ed]
              exact .cons r1 (ih el (by simp at hl; omega))
            · cases h
theorem AR.io_len : ∀ {ks : List Bool} {io : List Addr} {vs : List V} {ds : List D}, AR K mg F H ks io vs ds → io.length = (ks.filter id).length
  | _, _, _, _, .nil => rfl
  | _, _, _, _, .fz _ r => by simpa using AR.io_len r
  | _, _, _, _, .io _ r => by simpa using AR.io_len r
end
section
variable {P : Program} {w : World} {K : PySem.W.Frag} {mg : Str → Option Value} {base : Heap}
/-- THE RULE for a def -/
theorem fnB {x qual : Str} {st : Stmt} {f : Addr} {fd : FuncData} {N ps : List Str} {k : Nat} {m : M Fl} (ks : List Bool) (Fn : Fun K x qual st f fd) (S : FnScope N ps (defScope st)) (hk : ks.length = ps.length)
    (hb : ∀ (cdv : Value) (A : Around) (outer : List PySem.Env) (s : Shared) (H : Hp) (E : XK), RoomG k (A.deeper (PyProof.Rows.envOfC qual (defScope st) s.heap.objs.size f cdv)) → BSs (cxOf (L2.CX P w) P w K mg base N qual (defScope st) f cdv A outer s H E) (defBody st) m) :
    FnG P w K mg base (k + 1) f fd ps (spB K mg ks (runB ks N.length m)) := by
  refine FunG Fn S (fun vs H Q E ⟨T, F, io, ds, _, _, _, _, ar, _⟩ => by rw [ar.len.1, hk]) fun cdv A outer s H vs Q E hr h => ?_
  refine ⟨_, hb cdv A outer s H E hr (fun cls d _ H' => E cls d H') (takes_of rfl rfl rfl rfl), ?_⟩
  obtain ⟨T, F, io, ds, tt, sf, fi, nd, ar, h⟩ := h
  have hpl : ps.length ≤ N.length := by
    have := congrArg List.length S.pre
    rw [List.length_take] at this
    omega
  have I := bi_start (N := N) sf tt fi nd ar (by omega)
  refine ⟨_, io, F, _, I, ?_⟩
  unfold runB at h
  have aft : ∀ {β : B.Env} {σ' : L2.St} {H' F' : Hp} {ios : List D}, endIo ks 0 β = some ios → FE (butIo T H io) io F F' → BI K mg (butIo T H io) F' io β σ' H' → After K mg T F H io ios F' H' := fun {β σ' H' F' ios} e fe I' =>
    ⟨fe.same, fun a o q => (fe.new a o q).imp id fun ⟨q1, q2⟩ => (butIo_none q1 q2).2, I'.sf, I'.ioF, fun b o q nb tb => I'.sg.g b o (by unfold butIo; simp only; rw [if_neg (fun z => z.elim nb fun z => z tb)]; exact q), I'.sg.t, endIo_ok I' (n := 0) e (by rw [ar.io_len]; simp)⟩
  cases e : m (start0 ks N.length ds) with
  | stuck => rw [e] at h; exact h.elim
  | exc ex β =>
    rw [e] at h
    intro σ' cls d H' F' fe I' xr
    simp only [finF] at h
    cases e2 : endIo ks 0 β with
    | none => rw [e2] at h; exact h.elim
    | some ios =>
      rw [e2] at h
      exact h cls d H' F' (aft e2 fe I') xr
  | ok fl β =>
    rw [e] at h
    intro σ' H' F' fe I'
    cases fl with
    | brk => exact h.elim
    | ct => exact h.elim
    | nx =>
      simp only [finF] at h
      cases e2 : endIo ks 0 β with
      | none => rw [e2] at h; exact h.elim
      | some ios =>
        rw [e2] at h
        exact h .non H' F' (aft e2 fe I') .non
    | ret r =>
      intro v rr
      simp only [finF] at h
      cases e2 : endIo ks 0 β with
      | none => rw [e2] at h; exact h.elim
      | some ios =>
        rw [e2] at h
        refine h v H' F' (aft e2 fe I') ?_
        cases r with
        | fz d => exact rr
        | own d =>
          obtain ⟨a, ea, f1, g1, ni, o, _⟩ := rr
          refine ⟨a, ea, ?_, f1, o⟩
          exact (butIo_none g1 ni).2
end
end B

set_option Elab.async false
set_option linter.all false
set_option maxRecDepth 100000
set_option maxHeartbeats 4000000
namespace B
open PySem PySem.Spec L2
/-! ## calls of defs -/
def immK : D → Bool
  | .nd _ ds => imms ds
  | _ => true
def immR : Rs → Bool
  | .fz d => imm d
  | .own d => immK d
def immX (x : Exn) : Bool := imms (x.fs.map (·.2))
/-- the arguments' data, the slots handed in to be changed, the own slots that are lent -/
def resA (β : B.Env) : List Bool → List Pl → Option (List D × List Nat × List Nat)
  | [], [] => some ([], [], [])
  | false :: ks, .d d :: ps => (resA β ks ps).map fun r => (d :: r.1, r.2.1, r.2.2)
  | false :: ks, .sl i :: ps => match β[i]? with
    | some (.fz d) => (resA β ks ps).map fun r => (d :: r.1, r.2.1, r.2.2)
    | some (.own _ d) => (resA β ks ps).map fun r => (d :: r.1, r.2.1, i :: r.2.2)
    | _ => none
  | true :: ks, .sl i :: ps => match β[i]? with
    | some (.own _ d) => (resA β ks ps).map fun r => (d :: r.1, i :: r.2.1, r.2.2)
    | _ => none
  | _, _ => none
/-- the slots behind the call -/
def putIo (β : B.Env) : List Nat → List D → B.Env
  | i :: is, d :: ds => putIo (match β[i]? with
    | some (.own b _) => β.set i (.own b d)
    | _ => β) is ds
  | _, _ => β
def callF (ks : List Bool) (f : List D → FR) (ps : List Pl) : M Rs := fun β => match resA β ks ps with
  | some (ds, is, js) => if is.Nodup ∧ (∀ j ∈ js, j ∉ is) then (match f ds with
    | .ok r ios => if ios.length = is.length ∧ (js = [] ∨ (immR r = true ∧ ios.all immK = true)) then .ok r (putIo β is ios) else .stuck
    | .exc x ios => if ios.length = is.length ∧ (js = [] ∨ (immX x = true ∧ ios.all immK = true)) then .exc x (putIo β is ios) else .stuck
    | .stuck => .stuck) else .stuck
  | none => .stuck
section
variable {K : PySem.W.Frag} {mg : Str → Option Value} {G : GT} {F F' H H' : Hp} {io : List Addr} {β : B.Env} {σ : L2.St}
/-- the lent objects' addresses -/
def lent (σ : L2.St) (js : List Nat) (b : Addr) : Prop := ∃ j ∈ js, σ[j]? = some (some (V.ref b))
open Classical in
/-- F and what is lent -/
noncomputable def withL (F H : Hp) (σ : L2.St) (js : List Nat) : Hp := fun b => if lent σ js b then H b else F b
open Classical in
noncomputable def cutL (F : Hp) (σ : L2.St) (js : List Nat) : Hp := fun b => if lent σ js b then none else F b
/-- the slots handed in, their addresses -/
inductive IsA (β : B.Env) (σ : L2.St) : List Nat → List Addr → Prop
  | nil : IsA β σ [] []
  | cons {i : Nat} {a : Addr} {is : List Nat} {as : List Addr} {b : Option Nat} {d : D} : β[i]? = some (.own b d) → σ[i]? = some (some (.ref a)) → IsA β σ is as → IsA β σ (i :: is) (a :: as)
theorem IsA.mem {is : List Nat} {as : List Addr} (h : IsA β σ is as) : ∀ a ∈ as, ∃ i b d, i ∈ is ∧ β[i]? = some (.own b d) ∧ σ[i]? = some (some (V.ref a)) := by
  induction h with
  | nil => intro a ha; cases ha
  | cons h1 h2 _ ih =>
    intro a ha
    rcases List.mem_cons.mp ha with rfl | ha
    · exact ⟨_, _, _, List.mem_cons_self, h1, h2⟩
    · obtain ⟨i, b, d, hi, e1, e2⟩ := ih a ha
      exact ⟨i, b, d, List.mem_cons_of_mem _ hi, e1, e2⟩
theorem IsA.mem' {is : List Nat} {as : List Addr} (h : IsA β σ is as) : ∀ i ∈ is, ∃ a b d, a ∈ as ∧ β[i]? = some (.own b d) ∧ σ[i]? = some (some (V.ref a)) := by
  induction h with
  | nil => intro a ha; cases ha
  | cons h1 h2 _ ih =>
    intro a ha
    rcases List.mem_cons.mp ha with rfl | ha
    · exact ⟨_, _, _, List.mem_cons_self, h1, h2⟩
    · obtain ⟨i, b, d, hi, e1, e2⟩ := ih a ha
      exact ⟨i, b, d, List.mem_cons_of_mem _ hi, e1, e2⟩
theorem IsA.nodup (I : BI K mg G F io β σ H) {is : List Nat} {as : List Addr} (h : IsA β σ is as) (nd : is.Nodup) : as.Nodup := by
  induction h with
  | nil => exact .nil
  | @cons i a is as b d h1 h2 h3 ih =>
    obtain ⟨n1, n2⟩ := List.nodup_cons.mp nd
    refine List.nodup_cons.mpr ⟨fun ha => ?_, ih n2⟩
    obtain ⟨j, b', d', hj, e1, e2⟩ := h3.mem a ha
    exact n1 (I.apart i j _ _ a h1 e1 rfl rfl h2 e2 ▸ hj)
/-- the own slots that are lent: their objects -/
def OwnS (β : B.Env) (js : List Nat) : Prop := ∀ j ∈ js, ∃ b d, β[j]? = some (.own b d)
theorem lent_none (I : BI K mg G F io β σ H) {js : List Nat} (ow : OwnS β js) {b : Addr} (h : lent σ js b) : F b = none ∧ G b = none ∧ ∃ d, OwnR K mg F H b d := by
  obtain ⟨j, hj, e⟩ := h
  obtain ⟨k, d, ej⟩ := ow j hj
  obtain ⟨o, eo, a, rfl, f, g, _, _, r⟩ := I.sl j _ ej
  rw [e] at eo
  cases eo
  exact ⟨f, g, d, r⟩
theorem withL_same (I : BI K mg G F io β σ H) {js : List Nat} (ow : OwnS β js) : Same F (withL F H σ js) ∧ Same (withL F H σ js) H := by
  refine ⟨fun b o h => ?_, fun b o h => ?_⟩
  · unfold withL
    rw [if_neg fun z => by rw [(lent_none I ow z).1] at h; cases h]
    exact h
  · unfold withL at h
    split at h
    · exact h
    · exact I.sf b o h
theorem resA_ok (I : BI K mg G F io β σ H) {J : List Nat} (owJ : OwnS β J) : ∀ {ks : List Bool} {ps : List Pl} {vs : List V} {ds : List D} {is js : List Nat}, resA β ks ps = some (ds, is, js) → PRs K mg F σ vs ps → (∀ j ∈ js, j ∈ J) → (∀ i ∈ is, i ∉ J) →
    ∃ as, IsA β σ is as ∧ AR K mg (withL F H σ J) H ks as vs ds
  | [], [], _, _, _, _, e, .nil, _, _ => by
    cases e
    exact ⟨[], .nil, .nil⟩
  | false :: ks, .d d :: ps, _, _, _, _, e, .cons r rs, hj, hi => by
    obtain ⟨⟨ds, is, js⟩, e1, e2⟩ := Option.map_eq_some_iff.mp e
    cases e2
    obtain ⟨as, h1, h2⟩ := resA_ok I owJ e1 rs hj hi
    exact ⟨as, h1, .fz (DR.mono (withL_same I owJ).1 r) h2⟩
  | false :: ks, .sl i :: ps, v :: _, _, _, _, e, .cons r rs, hj, hi => by
    have er : σ[i]? = some (some v) := r
    simp only [resA] at e
    split at e
    · rename_i d es
      obtain ⟨⟨ds, is, js⟩, e1, e2⟩ := Option.map_eq_some_iff.mp e
      cases e2
      obtain ⟨as, h1, h2⟩ := resA_ok I owJ e1 rs hj hi
      obtain ⟨o, eo, w, rfl, rw'⟩ := I.sl i _ es
      rw [er] at eo
      cases eo
      exact ⟨as, h1, .fz (rw'.mono (withL_same I owJ).1) h2⟩
    · rename_i b d es
      obtain ⟨⟨ds, is, js⟩, e1, e2⟩ := Option.map_eq_some_iff.mp e
      cases e2
      obtain ⟨as, h1, h2⟩ := resA_ok I owJ e1 rs (fun j h => hj j (List.mem_cons_of_mem _ h)) hi
      obtain ⟨o, eo, a, rfl, _, _, _, _, ow⟩ := I.sl i _ es
      rw [er] at eo
      cases eo
      refine ⟨as, h1, .fz (ow.dr (withL_same I owJ).1 ?_) h2⟩
      unfold withL
      rw [if_pos ⟨i, hj i List.mem_cons_self, er⟩]
    · cases e
  | true :: ks, .sl i :: ps, v :: _, _, _, _, e, .cons r rs, hj, hi => by
    have er : σ[i]? = some (some v) := r
    simp only [resA] at e
    split at e
    · rename_i b d es
      obtain ⟨⟨ds, is, js⟩, e1, e2⟩ := Option.map_eq_some_iff.mp e
      cases e2
      obtain ⟨as, h1, h2⟩ := resA_ok I owJ e1 rs hj (fun j h => hi j (List.mem_cons_of_mem _ h))
      obtain ⟨o, eo, a, rfl, _, _, _, _, ow⟩ := I.sl i _ es
      rw [er] at eo
      cases eo
      exact ⟨a :: as, .cons es er h1, .io (ow.mono (withL_same I owJ).1 rfl) h2⟩
    · cases e
  | [], _ :: _, _, _, _, _, e, _, _, _ => by cases e
  | false :: _, [], _, _, _, _, e, _, _, _ => by cases e
  | true :: _, [], _, _, _, _, e, _, _, _ => by cases e
  | true :: _, .d _ :: _, _, _, _, _, e, _, _, _ => by cases e
theorem resA_own : ∀ {ks : List Bool} {ps : List Pl} {ds : List D} {is js : List Nat}, resA β ks ps = some (ds, is, js) → OwnS β js
  | [], [], _, _, _, e => by
    cases e
    exact fun j h => nomatch h
  | false :: ks, .d d :: ps, _, _, _, e => by
    obtain ⟨⟨ds, is, js⟩, e1, e2⟩ := Option.map_eq_some_iff.mp e
    cases e2
    exact resA_own e1
  | false :: ks, .sl i :: ps, _, _, _, e => by
    simp only [resA] at e
    split at e
    · obtain ⟨⟨ds, is, js⟩, e1, e2⟩ := Option.map_eq_some_iff.mp e
      cases e2
      exact resA_own e1
    · rename_i b d es
      obtain ⟨⟨ds, is, js⟩, e1, e2⟩ := Option.map_eq_some_iff.mp e
      cases e2
      intro j hj
      rcases List.mem_cons.mp hj with rfl | hj
      · exact ⟨_, _, es⟩
      · exact resA_own e1 j hj
    · cases e
  | true :: ks, .sl i :: ps, _, _, _, e => by
    simp only [resA] at e
    split at e
    · obtain ⟨⟨ds, is, js⟩, e1, e2⟩ := Option.map_eq_some_iff.mp e
      cases e2
      exact resA_own e1
    · cases e
  | [], _ :: _, _, _, _, e => by cases e
  | false :: _, [], _, _, _, e => by cases e
  | true :: _, [], _, _, _, e => by cases e
  | true :: _, .d _ :: _, _, _, _, e => by cases e
/-- a state behind a call: what was handed in holds ios at the addresses as -/
theorem putIo_len : ∀ (is : List Nat) (ios : List D) (β : B.Env), (putIo β is ios).length = β.length
  | [], _, _ => rfl
  | _ :: _, [], _ => rfl
  | i :: is, d :: ds, β => by
    unfold putIo
    rw [putIo_len is ds]
    split
    · exact List.length_set ..
    · rfl
theorem putIo_out {j : Nat} : ∀ (is : List Nat) (ios : List D) (β : B.Env), j ∉ is → (putIo β is ios)[j]? = β[j]?
  | [], _, _, _ => rfl
  | _ :: _, [], _, _ => rfl
  | i :: is, d :: ds, β, h => by
    unfold putIo
    rw [putIo_out is ds _ fun z => h (List.mem_cons_of_mem _ z)]
    have hne : i ≠ j := fun z => h (by rw [z]; exact List.mem_cons_self)
    split
    · rw [List.getElem?_set_ne hne]
    · rfl
theorem putIo_in {F' H' : Hp} : ∀ {is : List Nat} {as : List Addr} {ios : List D} {β : B.Env}, IsA β σ is as → is.Nodup → IoR K mg F' H' as ios → ∀ i ∈ is, ∃ a b d, (putIo β is ios)[i]? = some (.own b d) ∧ σ[i]? = some (some (V.ref a)) ∧ OwnR K mg F' H' a d ∧ (∃ d0, β[i]? = some (.own b d0)) ∧ d ∈ ios
  | _, _, _, _, .nil, _, _, i, hi => nomatch hi
  | _, _, _, β, .cons (i := i0) (a := a0) (is := is) (as := as) (b := b0) h1 h2 h3, nd, .cons (d := d0) (ds := ds) r rs, i, hi => by
    obtain ⟨n1, n2⟩ := List.nodup_cons.mp nd
    have hl : i0 < β.length := (List.getElem?_eq_some_iff.mp h1).1
    have ep : putIo β (i0 :: is) (d0 :: ds) = putIo (β.set i0 (.own b0 d0)) is ds := by
      show putIo (match β[i0]? with
        | some (.own b _) => β.set i0 (.own b d0)
        | _ => β) is ds = _
      rw [h1]
    rw [ep]
    rcases List.mem_cons.mp hi with rfl | hi
    · refine ⟨a0, b0, d0, ?_, h2, r, ⟨_, h1⟩, List.mem_cons_self⟩
      rw [putIo_out is ds _ n1, List.getElem?_set_self hl]
    · have h3' : IsA (β.set i0 (.own b0 d0)) σ is as := by
        have : ∀ {is : List Nat} {as : List Addr}, IsA β σ is as → i0 ∉ is → IsA (β.set i0 (.own b0 d0)) σ is as := by
          intro is as h
          induction h with
          | nil => exact fun _ => .nil
          | cons q1 q2 _ ih => exact fun hn => .cons (by rw [List.getElem?_set_ne (fun z => hn (by rw [z]; exact List.mem_cons_self))]; exact q1) q2 (ih fun z => hn (List.mem_cons_of_mem _ z))
        exact this h3 n1
      obtain ⟨a, b, d, e1, e2, e3, ⟨d1, e4⟩, e5⟩ := putIo_in h3' n2 rs i hi
      refine ⟨a, b, d, e1, e2, e3, ⟨d1, ?_⟩, List.mem_cons_of_mem _ e5⟩
      rwa [List.getElem?_set_ne (fun z => n1 (by rw [z]; exact hi))] at e4
/-- children that cannot change -/
theorem OwnR.immF {a : Addr} {d : D} (h : OwnR K mg F H a d) (t : Tups F F') (z : Frzs F F') (e : immK d = true) : OwnR K mg F' H a d := by
  cases h with
  | lst h r => exact .lst h (r.imm t z e)
  | dK h r q =>
    refine .dK h (r.imm t z ?_) q
    unfold immK at e
    rename_i kvs ds es
    have : ∀ {ks : List Key} {ds es : List D}, KDs ks ds es → imms es = true → imms ds = true := by
      intro ks ds es h
      induction h with
      | nil => exact fun _ => rfl
      | cons _ ih =>
        intro e
        simp only [imms, imm, Bool.and_eq_true] at e ⊢
        exact ⟨e.1.2.1, ih e.2⟩
    exact this q e
  | dT h r q =>
    refine .dT h (r.imm t z ?_) q
    unfold immK at e
    rename_i kvs ds es
    have : ∀ {ks : List (List Key)} {ds es : List D}, TDs ks ds es → imms es = true → imms ds = true := by
      intro ks ds es h
      induction h with
      | nil => exact fun _ => rfl
      | cons _ ih =>
        intro e
        simp only [imms, imm, Bool.and_eq_true] at e ⊢
        exact ⟨e.1.2.1, ih e.2⟩
    exact this q e
  | ins h g r => exact .ins h g (r.imm t z e)
/-- behind a call -/
theorem BI.call (I : BI K mg G F io β σ H) {is js : List Nat} {as : List Addr} {ios : List D} (ha : IsA β σ is as) (nd : is.Nodup) (ow : OwnS β js) (dj : ∀ j ∈ js, j ∉ is) (hl : ios.length = is.length) (A : After K mg G.t (withL F H σ js) H as ios F' H') (hi : js = [] ∨ ios.all immK = true) :
    FE G io F (cutL F' σ js) ∧ BI K mg G (cutL F' σ js) io (putIo β is ios) σ H' ∧ Tups F' (cutL F' σ js) ∧ Frzs F' (cutL F' σ js) ∧ (js = [] → cutL F' σ js = F') := by
  have nl : ∀ {b : Addr}, lent σ js b → b ∉ as := fun {b} ⟨j, hj, e⟩ hb => by
    obtain ⟨i, b', d', hi', e1, e2⟩ := ha.mem b hb
    obtain ⟨b2, d2, e3⟩ := ow j hj
    have : j = i := I.apart j i _ _ b e3 e1 rfl rfl e e2
    exact dj j hj (this ▸ hi')
  have sameF : Same F (cutL F' σ js) := fun b o h => by
    unfold cutL
    rw [if_neg fun z => by rw [(lent_none I ow z).1] at h; cases h]
    exact A.same b o ((withL_same I ow).1 b o h)
  have there : ∀ {b : Addr} {o : HO}, F' b = some o → ¬ lent σ js b → F b = some o ∨ H b = none := fun {b o} h nl => by
    have := A.new b o h
    unfold withL at this
    rwa [if_neg nl] at this
  have tp : Tups F' (cutL F' σ js) := fun b xs h => by
    unfold cutL
    rw [if_neg fun z => ?_]
    · exact h
    · obtain ⟨_, _, d, r⟩ := lent_none I ow z
      obtain ⟨o, ho, nt, _⟩ := r.there
      have := A.same b o (by unfold withL; rw [if_pos z]; exact ho)
      rw [h] at this
      cases this
      exact nt _ rfl
  have fz : Frzs F' (cutL F' σ js) := fun b ob u h => by
    unfold cutL
    rw [if_neg fun z => ?_]
    · exact h
    · obtain ⟨_, _, d, r⟩ := lent_none I ow z
      obtain ⟨o, ho, _, nt⟩ := r.there
      have := A.same b o (by unfold withL; rw [if_pos z]; exact ho)
      rw [h] at this
      cases this
      exact nt _ _ rfl
  have c0 : js = [] → cutL F' σ js = F' := fun e => by
    funext b
    unfold cutL
    rw [if_neg fun ⟨j, hj, _⟩ => by rw [e] at hj; cases hj]
  refine ⟨⟨sameF, fun b o h => ?_⟩, ⟨⟨fun b o h => ?_, fun b q h => ?_, I.sg.dj⟩, fun b o h => ?_, fun b hb => ?_, fun b hb => ?_, ?_, fun i s e => ?_, fun i j s t b e1 e2 h1 h2 z1 z2 => ?_⟩, tp, fz, c0⟩
  · unfold cutL at h
    split at h
    · cases h
    · rename_i nlb
      rcases there h nlb with q | q
      · exact .inl q
      · refine .inr ⟨I.sg.free q, fun z => ?_⟩
        obtain ⟨u, hu⟩ := I.ioH b z
        rw [hu] at q
        cases q
  · cases tq : G.t b with
    | none =>
      refine A.keep b o (I.sg.g b o h) (fun hb => ?_) tq
      obtain ⟨i, b', d', hi', e1, e2⟩ := ha.mem b hb
      obtain ⟨w, ew, a, ea, f, g, _⟩ := I.sl i _ e1
      rw [e2] at ew
      cases ew
      cases ea
      rw [GT.gn g] at h
      cases h
    | some q => exact absurd tq (by rw [I.sg.dj b o h]; simp)
  · obtain ⟨f1, t1⟩ := A.tab b q h
    refine ⟨?_, t1⟩
    unfold cutL
    split
    · rfl
    · exact f1
  · unfold cutL at h
    split at h
    · cases h
    · exact A.sf b o h
  · unfold cutL
    split
    · rfl
    · rename_i nlb
      cases q : F' b with
      | none => rfl
      | some o =>
        rcases there q nlb with h | h
        · rw [I.ioF b hb] at h
          cases h
        · obtain ⟨u, hu⟩ := I.ioH b hb
          rw [hu] at h
          cases h
  · by_cases hba : b ∈ as
    · obtain ⟨i, b', d', hi', e1, e2⟩ := ha.mem b hba
      obtain ⟨a, b2, d2, q1, q2, q3, _⟩ := putIo_in (σ := σ) ha nd A.ios i hi'
      rw [e2] at q2
      cases q2
      obtain ⟨o, ho, _⟩ := q3.there
      exact ⟨o, ho⟩
    · obtain ⟨u, hu⟩ := I.ioH b hb
      exact (by
        cases tq : G.t b with
        | none => exact ⟨u, A.keep b u hu hba tq⟩
        | some q =>
          obtain ⟨_, ps, h1, _⟩ := A.tab b q tq
          exact ⟨_, h1⟩)
  · rw [putIo_len]
    exact I.len
  · by_cases hi' : i ∈ is
    · obtain ⟨a, b, d, q1, q2, q3, ⟨d0, q4⟩, q5⟩ := putIo_in (σ := σ) ha nd A.ios i hi'
      rw [e] at q1
      cases q1
      obtain ⟨w, ew, a', ea, f, g, k1, k2, _⟩ := I.sl i _ q4
      rw [q2] at ew
      cases ew
      cases ea
      have haa : a ∈ as := by
        obtain ⟨a2, _, _, h1, _, h3⟩ := ha.mem' i hi'
        rw [q2] at h3
        cases h3
        exact h1
      refine ⟨_, q2, a, rfl, ?_, g, k1, k2, ?_⟩
      · unfold cutL
        split
        · rfl
        · exact A.ioF a haa
      · rcases hi with hi | hi
        · rw [c0 hi]
          exact q3
        · exact q3.immF tp fz (List.all_eq_true.mp hi d q5)
    · rw [putIo_out is ios β hi'] at e
      obtain ⟨w, ew, hs⟩ := I.sl i s e
      refine ⟨w, ew, ?_⟩
      cases s with
      | ex z0 => exact ⟨hs.1, hs.2.mono sameF⟩
      | gh _ => exact hs
      | un => trivial
      | fz d =>
        obtain ⟨v, q, r⟩ := hs
        exact ⟨v, q, r.mono sameF⟩
      | own b d =>
        obtain ⟨a, q, f, g, k1, k2, r⟩ := hs
        obtain ⟨u, hu, _⟩ := r.there
        have na : a ∉ as := fun z => by
          obtain ⟨i2, b', d', hi2, e1, e2⟩ := ha.mem a z
          have : i = i2 := I.apart i i2 _ _ a e e1 rfl rfl (by rw [ew, q]) e2
          exact hi' (this ▸ hi2)
        refine ⟨a, q, ?_, g, k1, k2, r.mono sameF (by rw [A.keep a u hu na (GT.tn g), hu])⟩
        unfold cutL
        split
        · rfl
        · rename_i nlb
          cases z : F' a with
          | none => rfl
          | some o =>
            rcases there z nlb with h | h
            · rw [f] at h
              cases h
            · rw [hu] at h
              cases h
  · have back : ∀ {m : Nat} {u : Sl}, (putIo β is ios)[m]? = some u → isOwn u = true → ∃ u', β[m]? = some u' ∧ isOwn u' = true := fun {m u} em hm => by
      by_cases him : m ∈ is
      · obtain ⟨_, b', d', _, e, _⟩ := ha.mem' m him
        exact ⟨_, e, rfl⟩
      · rw [putIo_out is ios β him] at em
        exact ⟨u, em, hm⟩
    obtain ⟨s', es, hs⟩ := back e1 h1
    obtain ⟨t', et, ht⟩ := back e2 h2
    exact I.apart i j s' t' b es et hs ht z1 z2
end
section
variable {X : Cx} {ks : List Bool} {f : List D → FR} {ma : M (List Pl)}
/-- what a call asks -/
theorem callF_post {W : WX} {G : GT} {F H : Hp} {io : List Addr} {β : B.Env} {σ : L2.St} {ps : List Pl} {vs : List V} {Q : VK} (I : BI X.K X.mg G F io β σ H) (rp : PRs X.K X.mg F σ vs ps)
    (h : Post X.K X.mg W (relE X.K X.mg) G F io σ (callF ks f ps β) Q) : spB X.K X.mg ks f vs H Q (WE W σ) := by
  unfold callF at h
  cases e : resA β ks ps with
  | none => rw [e] at h; exact h.elim
  | some t =>
    obtain ⟨ds, is, js⟩ := t
    rw [e] at h
    simp only at h
    split at h
    · rename_i hc
      obtain ⟨nd, dj⟩ := hc
      have ow := resA_own e
      obtain ⟨as, ha, ar⟩ := resA_ok I ow e rp (fun _ h => h) (fun i hi hj => dj i hj hi)
      have nl : ∀ a ∈ as, ¬ lent σ js a := fun a hb ⟨j, hj, e⟩ => by
        obtain ⟨i, b', d', hi', e1, e2⟩ := ha.mem a hb
        obtain ⟨b2, d2, e3⟩ := ow j hj
        have : j = i := I.apart j i _ _ a e3 e1 rfl rfl e e2
        exact dj j hj (this ▸ hi')
      refine ⟨G.t, withL F H σ js, as, ds, ⟨fun a q h => ?_, fun a hb => ?_⟩, (withL_same I ow).2, fun a hb => ?_, ha.nodup I nd, ar, ?_⟩
      · obtain ⟨f1, t1⟩ := I.sg.t a q h
        refine ⟨?_, t1⟩
        unfold withL
        rw [if_neg fun z => by rw [GT.tn (lent_none I ow z).2.1] at h; cases h]
        exact f1
      · obtain ⟨i, b', d', hi', e1, e2⟩ := ha.mem a hb
        obtain ⟨w, ew, a', ea, f', g', _⟩ := I.sl i _ e1
        rw [e2] at ew
        cases ew
        cases ea
        exact GT.tn g'
      · unfold withL
        rw [if_neg (nl a hb)]
        obtain ⟨i, b', d', hi', e1, e2⟩ := ha.mem a hb
        obtain ⟨w, ew, a', ea, f', _⟩ := I.sl i _ e1
        rw [e2] at ew
        cases ew
        cases ea
        exact f'
      · cases ef : f ds with
        | stuck => rw [ef] at h; exact h.elim
        | ok r ios =>
          rw [ef] at h
          simp only at h
          split at h
          · rename_i hl
            obtain ⟨hl, hi⟩ := hl
            intro v H' F' A rr
            obtain ⟨fe, I', tp, fz, c0⟩ := I.call ha nd ow dj hl A (hi.imp id (·.2))
            refine h v H' _ fe I' ?_
            cases r with
            | fz d =>
              rcases hi with hi | hi
              · rw [c0 hi]
                exact rr
              · exact DR.imm tp fz rr hi.1
            | own d =>
              obtain ⟨a, rfl, hn, fn, o⟩ := rr
              have hcut : cutL F' σ js a = none := by
                unfold cutL
                split
                · rfl
                · exact fn
              refine ⟨a, rfl, hcut, I.sg.free hn, fun z => ?_, ?_, fun i s es hs z => ?_⟩
              · obtain ⟨u, hu⟩ := I.ioH a z
                rw [hu] at hn
                cases hn
              · rcases hi with hi | hi
                · rw [c0 hi]
                  exact o
                · exact o.immF tp fz hi.1
              · have : ∃ s', β[i]? = some s' ∧ isOwn s' = true := by
                  by_cases him : i ∈ is
                  · obtain ⟨_, b', d', _, e, _⟩ := ha.mem' i him
                    exact ⟨_, e, rfl⟩
                  · rw [putIo_out is ios β him] at es
                    exact ⟨s, es, hs⟩
                obtain ⟨s', es', hs'⟩ := this
                obtain ⟨w, ew, hss⟩ := I.sl i s' es'
                cases s' with
                | ex _ => cases hs'
                | gh _ => cases hs'
                | un => cases hs'
                | fz _ => cases hs'
                | own b d' =>
                  obtain ⟨x, q, _, _, _, _, r⟩ := hss
                  obtain ⟨u, hu, _⟩ := r.there
                  rw [z, q] at ew
                  cases ew
                  rw [hu] at hn
                  cases hn
          · exact h.elim
        | exc x ios =>
          rw [ef] at h
          simp only at h
          split at h
          · rename_i hl
            obtain ⟨hl, hi⟩ := hl
            intro cls d H' F' A xr
            obtain ⟨fe, I', tp, fz, c0⟩ := I.call ha nd ow dj hl A (hi.imp id (·.2))
            refine h cls d H' _ fe I' ?_
            rcases hi with hi | hi
            · rw [c0 hi]
              exact xr
            · obtain ⟨hm, xr⟩ := xr
              have keepX : ∀ dd fs, F' dd = some (.xd fs) → cutL F' σ js dd = some (.xd fs) := by
                intro dd fs e
                unfold cutL
                split
                · rename_i hL
                  exfalso
                  obtain ⟨_, _, d0, o⟩ := lent_none I ow hL
                  have key : ∀ u, H dd = some u → u = .xd fs := fun u hu => by
                    have := A.same dd u (by unfold withL; rw [if_pos hL]; exact hu)
                    rw [e] at this
                    exact (Option.some.inj this).symm
                  cases o with
                  | lst h _ => cases key _ h
                  | dK h _ _ => cases key _ h
                  | dT h _ _ => cases key _ h
                  | ins h _ _ => cases key _ h
                · exact e
              refine ⟨hm, xr.imp id fun ⟨dd, fs, ds, e1, e2, e3, e4, e5⟩ => ⟨dd, fs, ds, e1, keepX _ _ e2, e3, e4.imm tp fz ?_, e5⟩⟩
              rw [e5]
              exact hi.1
          · exact h.elim
    · exact h.elim
def mCallF (ks : List Bool) (f : List D → FR) (ma : M (List Pl)) : M Rs := bnd ma (callF ks f)
/-- default values: data that needs no heap -/
def DDs (K : PySem.W.Frag) (mg : Str → Option Value) (vs : List V) (ds : List D) : Prop := ∀ F, DRs K mg F vs ds
theorem dds_nil {K : PySem.W.Frag} {mg : Str → Option Value} : DDs K mg [] [] := fun _ => .nil
theorem dds_int {K : PySem.W.Frag} {mg : Str → Option Value} {vs : List V} {ds : List D} (i : Int) (h : DDs K mg vs ds) : DDs K mg (.int i :: vs) (.int i :: ds) := fun F => .cons (.int i) (h F)
theorem dds_bl {K : PySem.W.Frag} {mg : Str → Option Value} {vs : List V} {ds : List D} (i : Bool) (h : DDs K mg vs ds) : DDs K mg (.bl i :: vs) (.bl i :: ds) := fun F => .cons (.bl i) (h F)
theorem PRs.append {K : PySem.W.Frag} {mg : Str → Option Value} {F : Hp} {σ : L2.St} : ∀ {vs ws : List V} {ps qs : List Pl}, PRs K mg F σ vs ps → PRs K mg F σ ws qs → PRs K mg F σ (vs ++ ws) (ps ++ qs)
  | _, _, _, _, .nil, h => h
  | _, _, _, _, .cons a b, h => .cons a (PRs.append b h)
theorem DRs.prs {K : PySem.W.Frag} {mg : Str → Option Value} {F : Hp} {σ : L2.St} : ∀ {vs : List V} {ds : List D}, DRs K mg F vs ds → PRs K mg F σ vs (ds.map Pl.d)
  | _, _, .nil => .nil
  | _, _, .cons a b => .cons a (DRs.prs b)
def mCallD (ks : List Bool) (f : List D → FR) (dd : List D) (ma : M (List Pl)) : M Rs := bnd ma fun ps => callF ks f (ps ++ dd.map Pl.d)
theorem be_callD {k : Nat} {fa : Addr} {fd : FuncData} {prm : List Str} {x : Str} {p pos : Pos} {e : Expr} {es : List Expr} {dvs : List V} {dv : List Value} {dd : List D} (Fn : FnG X.prog X.w X.K X.mg X.base k fa fd prm (spB X.K X.mg ks f)) (hr : RoomG k X.A) (hm : X.mg x = some (.ref fa))
    (hk : PySem.W.keepIn X.K (.ref fa) = true) (hb : Binds X.K fd prm dv) (hd : Vals dvs dv) (hdd : DDs X.K X.mg dvs dd) (ha : BA X (e :: es) ma) (hg : Gl X x := by rfl) (hdb : (x == ("__debug__" : Str)) = false := by decide) (he : starEach (e :: es) X.env = (false, eval e X.env) :: starEach es X.env := by rfl)
    (hpl : (backTo pos (starEach es X.env)).any (·.1) = false := by rfl) : BE X (.Call (.Name x p) (e :: es) [] pos) (mCallD ks f dd ma) := by
  refine fun W tk => (pe_callG Fn hr hg hm hk hb hd (fun σ => passAt tk σ) (ha W tk) hdb he hpl).imp fun σ H Q ⟨G, io, F, β, I, h⟩ => ⟨G, io, F, β, I, h.bnd fun ps β1 vs H1 F1 fe1 I1 r1 h1 => ?_⟩
  exact callF_post I1 (r1.append (hdd F1).prs) (h1.mono fe1)
theorem be_call {k : Nat} {fa : Addr} {fd : FuncData} {prm : List Str} {x : Str} {p pos : Pos} {e : Expr} {es : List Expr} (Fn : FnG X.prog X.w X.K X.mg X.base k fa fd prm (spB X.K X.mg ks f)) (hr : RoomG k X.A) (hm : X.mg x = some (.ref fa)) (hk : PySem.W.keepIn X.K (.ref fa) = true)
    (hb : Binds X.K fd prm []) (ha : BA X (e :: es) ma) (hg : Gl X x := by rfl) (hdb : (x == ("__debug__" : Str)) = false := by decide) (he : starEach (e :: es) X.env = (false, eval e X.env) :: starEach es X.env := by rfl)
    (hpl : (backTo pos (starEach es X.env)).any (·.1) = false := by rfl) : BE X (.Call (.Name x p) (e :: es) [] pos) (mCallF ks f ma) := by
  refine fun W tk => (pe_callG Fn hr hg hm hk hb .nil (fun σ => passAt tk σ) (ha W tk) hdb he hpl).imp fun σ H Q ⟨G, io, F, β, I, h⟩ => ⟨G, io, F, β, I, h.bnd fun ps β1 vs H1 F1 fe1 I1 r1 h1 => ?_⟩
  rw [List.append_nil]
  exact callF_post I1 r1 (h1.mono fe1)
/-! ### with keywords -/
def BKw (X : Cx) (kws : List Keyword) (m : M (List Pl)) : Prop := ∀ W, Takes X W → PK X kws (gOf X.K X.mg W (relA X.K X.mg) m)
theorem _root_.L2.PK.imp {X : Cx} {kws : List Keyword} {t t' : TA} (h : PK X kws t) (k : ∀ σ H Q, t' σ H Q → t σ H Q) : PK X kws t' := ⟨fun pos pins s σ H Q I q => h.run pos pins s σ H Q I (k σ H Q q)⟩
theorem bk_nil : BKw X [] mNil := fun W tk => pk_nil.imp fun σ H Q ⟨_, _, F, _, I, h⟩ => h _ H F .refl I .nil
theorem bk_cons {e : Expr} {kws : List Keyword} {nm : Option Str} {kpos : Pos} {mp : M Pl} {mr : M (List Pl)} (h : BP X e mp) (hr : BKw X kws mr) : BKw X (⟨nm, e, kpos⟩ :: kws) (mCons mp mr) := by
  refine fun W tk => (pk_cons (h W tk) (hr W tk)).imp fun σ H Q hq => ?_
  obtain ⟨G, io, F, β, I, hq⟩ := hq
  refine ⟨G, io, F, β, I, hq.bnd fun p β1 v H1 F1 fe1 I1 r1 h1 => ⟨G, io, F1, β1, I1, (h1.mono fe1).bnd fun ps β2 vs H2 F2 fe2 I2 r2 h2 => ?_⟩⟩
  exact (h2.mono fe2) _ H2 F2 .refl I2 (.cons (r1.mono fe2.same) r2)
/-- the keywords' order is the parameters' -/
structure KwOk (K : PySem.W.Frag) (mg : Str → Option Value) (fd : FuncData) (prm : List Str) (n : Nat) (ks : List Str) (gP : List Pl → List Pl → List Pl) : Prop where
  ex : ∃ (g : List Value → List Value → List Value) (gV : List V → List V → List V), KBn K fd prm n ks g gV ∧ ∀ F σ vs ws ps qs, PRs K mg F σ vs ps → PRs K mg F σ ws qs → PRs K mg F σ (gV vs ws) (gP ps qs)
def mCallK (ks : List Bool) (f : List D → FR) (n m : Nat) (gP : List Pl → List Pl → List Pl) (ma mk : M (List Pl)) : M Rs := bnd ma fun ps => bnd mk fun qs => if ps.length = n ∧ qs.length = m then callF ks f (gP ps qs) else stk
theorem PRs.len {K : PySem.W.Frag} {mg : Str → Option Value} {F : Hp} {σ : L2.St} : ∀ {vs : List V} {ps : List Pl}, PRs K mg F σ vs ps → vs.length = ps.length
  | _, _, .nil => rfl
  | _, _, .cons _ b => congrArg Nat.succ (PRs.len b)
theorem be_callK {k : Nat} {fa : Addr} {fd : FuncData} {prm : List Str} {x : Str} {p pos : Pos} {e : Expr} {es : List Expr} {kws : List Keyword} {n : Nat} {kn : List Str} {gP : List Pl → List Pl → List Pl} {mk : M (List Pl)} (Fn : FnG X.prog X.w X.K X.mg X.base k fa fd prm (spB X.K X.mg ks f)) (hr : RoomG k X.A)
    (hm : X.mg x = some (.ref fa)) (hk : PySem.W.keepIn X.K (.ref fa) = true) (hb : KwOk X.K X.mg fd prm n kn gP) (ha : BA X (e :: es) ma) (hkw : BKw X kws mk) (hg : Gl X x := by rfl)
    (hall : (backToKw pos (keywordEach kws X.env)).all (·.1.isSome) = true := by rfl) (hks : (backToKw pos (keywordEach kws X.env)).filterMap (·.1) = kn := by rfl) (hdb : (x == ("__debug__" : Str)) = false := by decide) (he : starEach (e :: es) X.env = (false, eval e X.env) :: starEach es X.env := by rfl)
    (hpl : ((backTo pos (starEach (e :: es) X.env)).any (·.1) || (backToKw pos (keywordEach kws X.env)).any (·.1.isNone)) = false := by rfl) : BE X (.Call (.Name x p) (e :: es) kws pos) (mCallK ks f n kn.length gP ma mk) := by
  obtain ⟨g, gV, kb, rel⟩ := hb.ex
  refine fun W tk => (pe_callKG Fn hr hg hm hk kb (fun σ => passAt tk σ) (ha W tk) (hkw W tk) hall hks hdb he hpl).imp fun σ H Q ⟨G, io, F, β, I, h⟩ => ⟨G, io, F, β, I, h.bnd fun ps β1 vs H1 F1 fe1 I1 r1 h1 => ⟨G, io, F1, β1, I1, (h1.mono fe1).bnd fun qs β2 ws H2 F2 fe2 I2 r2 h2 => ?_⟩⟩
  have h2 := h2.mono fe2
  split at h2
  · rename_i hl
    exact ⟨r1.len.trans hl.1, r2.len.trans hl.2, callF_post I2 (rel _ _ _ _ _ _ (r1.mono fe2.same) r2) h2⟩
  · exact h2.elim
end
end B

set_option Elab.async false
set_option linter.all false
set_option maxRecDepth 100000
set_option maxHeartbeats 4000000
namespace B
open PySem PySem.Spec L2
/-! ## list comprehensions -/
def wipeB (β : B.Env) : List Nat → B.Env
  | [] => β
  | v :: vs => (wipeB β vs).set v .un
/-- the slots at vs as they were in β0 -/
def backB (β0 β : B.Env) : List Nat → B.Env
  | [] => β
  | v :: vs => match β0[v]? with
    | some s => (backB β0 β vs).set v s
    | none => backB β0 β vs
def noOwn (β : B.Env) (vs : List Nat) : Bool := vs.all fun v => match β[v]? with
  | some (.own _ _) => false
  | _ => true
def compL (g : D → M Unit) (mt : M Bool) (me : M Rs) (vs : List Nat) : List D → List D → M (List D)
  | [], acc => ret acc
  | d :: ds, acc => fun β => match g d β with
    | .ok _ β1 => (match mt β1 with
      | .ok true β2 => (match me β2 with
        | .ok r β3 => if acc.length < sizeLine then compL g mt me vs ds (acc ++ [r.d]) (wipeB β3 vs) else .stuck
        | _ => .stuck)
      | .ok false β2 => compL g mt me vs ds acc (wipeB β2 vs)
      | _ => .stuck)
    | _ => .stuck
def compV (g : D → M Unit) (mt : M Bool) (me : M Rs) (vs : List Nat) (ds : List D) : M Rs := fun β1 => if noOwn β1 vs = true then (match compL g mt me vs ds [] (wipeB β1 vs) with
  | .ok acc β => .ok (.own (.nd .lst acc)) (backB β1 β vs)
  | _ => .stuck) else .stuck
def mComp (vs : List Nat) (mi : M (List D)) (g : D → M Unit) (mt : M Bool) (me : M Rs) : M Rs := bnd mi (compV g mt me vs)
/-- the tests -/
def BTs (X : Cx) (ifs : List Expr) (m : M Bool) : Prop := ∀ W, Takes X W → PTs X ifs (gOf X.K X.mg W relB m)
def mYes : M Bool := ret true
section
variable {X : Cx}
theorem _root_.L2.PTs.imp {es : List Expr} {t t' : TT} (h : PTs X es t) (k : ∀ σ H Q, t' σ H Q → t σ H Q) : PTs X es t' := ⟨fun pins s σ H Q I q => h.run pins s σ H Q I (k σ H Q q)⟩
theorem bts_nil : BTs X [] mYes := fun W tk => pts_nil.imp fun σ H Q ⟨_, _, F, _, I, h⟩ => h _ H F .refl I rfl
theorem bts_one {c : Expr} {m : M Bool} (h : BT X c m) : BTs X [c] m := fun W tk => pts_one (h W tk)
end
section
variable {K : PySem.W.Frag} {mg : Str → Option Value} {G : GT} {F F' H H' : Hp} {io : List Addr} {β β' : B.Env} {σ : L2.St}
theorem wipeB_len (β : B.Env) : ∀ vs, (wipeB β vs).length = β.length
  | [] => rfl
  | v :: vs => by unfold wipeB; rw [List.length_set, wipeB_len β vs]
theorem wipe_out {j : Nat} (σ : L2.St) : ∀ vs : List Nat, j ∉ vs → (wipe σ vs)[j]? = σ[j]?
  | [], _ => rfl
  | v :: vs, h => by
    unfold wipe
    rw [List.getElem?_set_ne fun z => h (by rw [z]; exact List.mem_cons_self), wipe_out σ vs fun z => h (List.mem_cons_of_mem _ z)]
theorem wipe_in {j : Nat} (σ : L2.St) (hj : j < σ.length) : ∀ vs : List Nat, j ∈ vs → (wipe σ vs)[j]? = some none
  | v :: vs, h => by
    unfold wipe
    by_cases e : v = j
    · subst e
      rw [List.getElem?_set_self (by rw [wipe_length]; exact hj)]
    · rw [List.getElem?_set_ne e]
      rcases List.mem_cons.mp h with rfl | h
      · exact absurd rfl e
      · exact wipe_in σ hj vs h
theorem wipeB_out {j : Nat} (β : B.Env) : ∀ vs : List Nat, j ∉ vs → (wipeB β vs)[j]? = β[j]?
  | [], _ => rfl
  | v :: vs, h => by
    unfold wipeB
    rw [List.getElem?_set_ne fun z => h (by rw [z]; exact List.mem_cons_self), wipeB_out β vs fun z => h (List.mem_cons_of_mem _ z)]
theorem wipeB_in {j : Nat} (β : B.Env) : ∀ (vs : List Nat) (s : Sl), j ∈ vs → (wipeB β vs)[j]? = some s → s = .un
  | v :: vs, s, h, e => by
    unfold wipeB at e
    by_cases ev : v = j
    · subst ev
      by_cases hl : v < (wipeB β vs).length
      · rw [List.getElem?_set_self hl] at e
        cases e
        rfl
      · rw [List.getElem?_eq_none (by rw [List.length_set]; omega)] at e
        cases e
    · rw [List.getElem?_set_ne ev] at e
      rcases List.mem_cons.mp h with rfl | h
      · exact absurd rfl ev
      · exact wipeB_in β vs s h e
theorem backB_len (β0 β : B.Env) : ∀ vs, (backB β0 β vs).length = β.length
  | [] => rfl
  | v :: vs => by
    unfold backB
    split
    · rw [List.length_set, backB_len β0 β vs]
    · exact backB_len β0 β vs
theorem backB_out {j : Nat} (β0 β : B.Env) : ∀ vs : List Nat, j ∉ vs → (backB β0 β vs)[j]? = β[j]?
  | [], _ => rfl
  | v :: vs, h => by
    unfold backB
    have h2 := backB_out (j := j) β0 β vs fun z => h (List.mem_cons_of_mem _ z)
    split
    · rw [List.getElem?_set_ne fun z => h (by rw [z]; exact List.mem_cons_self)]
      exact h2
    · exact h2
theorem backB_in {j : Nat} (β0 β : B.Env) (hl : β0.length = β.length) : ∀ (vs : List Nat) (s : Sl), j ∈ vs → (backB β0 β vs)[j]? = some s → β0[j]? = some s
  | v :: vs, s, h, e => by
    unfold backB at e
    by_cases ev : v = j
    · subst ev
      cases q : β0[v]? with
      | none =>
        rw [q] at e
        simp only at e
        have h1 := (List.getElem?_eq_some_iff.mp e).1
        rw [backB_len] at h1
        rw [List.getElem?_eq_none_iff] at q
        omega
      | some t =>
        rw [q] at e
        simp only at e
        have h1 := (List.getElem?_eq_some_iff.mp e).1
        rw [List.length_set] at h1
        rw [List.getElem?_set_self h1] at e
        exact e
    · have h' : j ∈ vs := by
        rcases List.mem_cons.mp h with rfl | h
        · exact absurd rfl ev
        · exact h
      cases q : β0[v]? with
      | none =>
        rw [q] at e
        exact backB_in β0 β hl vs s h' e
      | some t =>
        rw [q] at e
        simp only at e
        rw [List.getElem?_set_ne ev] at e
        exact backB_in β0 β hl vs s h' e
/-- the state of a turn's start -/
theorem BI.wipe (I : BI K mg G F io β σ H) (vs : List Nat) {σ' : L2.St} (e : wipe σ vs = wipe σ' vs) (hl : σ'.length = σ.length) : BI K mg G F io (wipeB β vs) (wipe σ' vs) H := by
  refine ⟨I.sg, I.sf, I.ioF, I.ioH, by rw [wipeB_len, wipe_length, I.len, hl], fun j s es => ?_, fun i j s t a e1 e2 h1 h2 z1 z2 => ?_⟩
  · by_cases hj : j ∈ vs
    · have := wipeB_in β vs s hj es
      subst this
      have hlt := (List.getElem?_eq_some_iff.mp es).1
      rw [wipeB_len, I.len] at hlt
      exact ⟨none, wipe_in σ' (by omega) vs hj, trivial⟩
    · rw [wipeB_out β vs hj] at es
      rw [← e, wipe_out σ vs hj]
      exact I.sl j s es
  · have nw : ∀ {i : Nat} {s : Sl}, (wipeB β vs)[i]? = some s → isOwn s = true → i ∉ vs := fun {i s} es hs hi => by
      have := wipeB_in β vs s hi es
      subst this
      cases hs
    have n1 := nw e1 h1
    have n2 := nw e2 h2
    rw [wipeB_out β vs n1] at e1
    rw [wipeB_out β vs n2] at e2
    rw [← e, wipe_out σ vs n1] at z1
    rw [← e, wipe_out σ vs n2] at z2
    exact I.apart i j s t a e1 e2 h1 h2 z1 z2
/-- one object more that must stay -/
theorem BI.guard (I : BI K mg G F io β σ H) {D : Addr} {o : HO} {us : List V} (eG : G.g D = some (.lst us)) (fD : F D = none) (nio : D ∉ io) : BI K mg (G.upd D o) F io β σ (upd H D o) := by
  refine ⟨I.sg.guard (I.sg.dj _ _ eG) (nc_lst (I.sg.g _ _ eG)), fun b u h => ?_, I.ioF, fun b hb => ?_, I.len, fun j s es => ?_, I.apart⟩
  · rw [upd_ne (ne_of_none h fD)]
    exact I.sf b u h
  · rw [upd_ne fun z => nio (by rw [← z]; exact hb)]
    exact I.ioH b hb
  · obtain ⟨w, ew, hs⟩ := I.sl j s es
    refine ⟨w, ew, ?_⟩
    cases s with
    | ex z0 => exact hs
    | gh _ => exact hs
    | un => trivial
    | fz d => exact hs
    | own b d =>
      obtain ⟨a, q, f, g, k1, k2, r⟩ := hs
      have na : a ≠ D := fun z => by
        rw [z] at g
        rw [GT.gn g] at eG
        cases eG
      exact ⟨a, q, f, by rw [GT.upd_ne na]; exact g, k1, k2, r.mono (Same.refl _) (upd_ne na)⟩
theorem BI.guard0 (I : BI K mg G F io β σ H) {D : Addr} {o : HO} (hD : H D = none) : BI K mg (G.upd D o) F io β σ (upd H D o) := by
  have fD := Same.free I.sf hD
  have gD := I.sg.free hD
  refine ⟨I.sg.guard (GT.tn gD) (nc_none hD), fun b u h => ?_, I.ioF, fun b hb => ?_, I.len, fun j s es => ?_, I.apart⟩
  · rw [upd_ne (ne_of_none h fD)]
    exact I.sf b u h
  · obtain ⟨u, hu⟩ := I.ioH b hb
    rw [upd_ne (ne_of_none hu hD)]
    exact ⟨u, hu⟩
  · obtain ⟨w, ew, hs⟩ := I.sl j s es
    refine ⟨w, ew, ?_⟩
    cases s with
    | ex z0 => exact hs
    | gh _ => exact hs
    | un => trivial
    | fz d => exact hs
    | own b d =>
      obtain ⟨a, q, f, g, k1, k2, r⟩ := hs
      obtain ⟨u, hu, _⟩ := r.there
      have na := ne_of_none hu hD
      exact ⟨a, q, f, by rw [GT.upd_ne na]; exact g, k1, k2, r.mono (Same.refl _) (upd_ne na)⟩
/-- the guard let go -/
theorem BI.unguard {D : Addr} {o : HO} (I : BI K mg (G.upd D o) F io β σ H) (gD : G D = none) : BI K mg G F io β σ H := by
  refine ⟨I.sg.unguard gD, I.sf, I.ioF, I.ioH, I.len, fun j s es => ?_, I.apart⟩
  obtain ⟨w, ew, hs⟩ := I.sl j s es
  refine ⟨w, ew, ?_⟩
  cases s with
  | ex z0 => exact hs
  | gh _ => exact hs
  | un => trivial
  | fz d => exact hs
  | own b d =>
    obtain ⟨a, q, f, g, k1, k2, r⟩ := hs
    refine ⟨a, q, f, ?_, k1, k2, r⟩
    by_cases ha : a = D
    · rw [ha]
      exact gD
    · rwa [GT.upd_ne ha] at g
theorem FE.unguard {D : Addr} {o : HO} (h : FE (G.upd D o) io F F') (gD : G D = none) : FE G io F F' := ⟨h.same, fun a u e => (h.new a u e).imp id fun ⟨g, n⟩ => ⟨by
  by_cases ha : a = D
  · exact absurd (ha ▸ g) (GT.upd_self gD)
  · rwa [GT.upd_ne ha] at g, n⟩⟩
theorem FE.keepN {D : Addr} {o : HO} (h : FE (G.upd D o) io F F') (gD : G D = none) (fD : F D = none) : F' D = none := by
  cases e : F' D with
  | none => rfl
  | some u =>
    rcases h.new D u e with q | ⟨q, _⟩
    · rw [fD] at q
      cases q
    · exact absurd q (GT.upd_self gD)
theorem But.wipe {vs : List Nat} {σ σ' : L2.St} (b : But vs σ σ') : L2.wipe σ' vs = L2.wipe σ vs := by
  refine List.ext_getElem? fun j => ?_
  by_cases hj : j ∈ vs
  · by_cases hl : j < σ.length
    · rw [wipe_in σ hl vs hj, wipe_in σ' (by rw [b.1]; exact hl) vs hj]
    · rw [List.getElem?_eq_none (by rw [wipe_length, b.1]; omega), List.getElem?_eq_none (by rw [wipe_length]; omega)]
  · rw [wipe_out σ' vs hj, wipe_out σ vs hj, b.2 j hj]
theorem wipe_wipe (σ : L2.St) (vs : List Nat) : L2.wipe (L2.wipe σ vs) vs = L2.wipe σ vs := by
  refine List.ext_getElem? fun j => ?_
  by_cases hj : j ∈ vs
  · by_cases hl : j < σ.length
    · rw [wipe_in σ hl vs hj, wipe_in _ (by rw [wipe_length]; exact hl) vs hj]
    · rw [List.getElem?_eq_none (by rw [wipe_length, wipe_length]; omega), List.getElem?_eq_none (by rw [wipe_length]; omega)]
  · rw [wipe_out _ vs hj]
end
section
variable {X : Cx}
/-- what stands between the turns -/
structure Mid (K : PySem.W.Frag) (mg : Str → Option Value) (G : GT) (F1 : Hp) (io : List Addr) (σ : L2.St) (vs : List Nat) (D : Addr) (F : Hp) (β : B.Env) (acc : List B.D) (us : List V) (H : Hp) : Prop where
  fe : FE G io F1 F
  fD : F D = none
  at_ : H D = some (.lst us)
  r : DRs K mg F us acc
  I : BI K mg (G.upd D (.lst us)) F io β (wipe σ vs) H
/-- behind the block -/
theorem BI.back {K : PySem.W.Frag} {mg : Str → Option Value} {G : GT} {F F1 H H1 : Hp} {io : List Addr} {β β1 : B.Env} {σ : L2.St} {vs : List Nat} (I : BI K mg G F io β (L2.wipe σ vs) H) (I1 : BI K mg G F1 io β1 σ H1) (sf : Same F1 F) (hno : noOwn β1 vs = true) : BI K mg G F io (backB β1 β vs) σ H := by
  have hl : β1.length = β.length := by rw [I1.len, I.len, wipe_length]
  have no : ∀ {j : Nat} {s : Sl}, (backB β1 β vs)[j]? = some s → isOwn s = true → j ∉ vs := fun {j s} e hs hj => by
    have e1 := backB_in β1 β hl vs s hj e
    have := List.all_eq_true.mp hno j hj
    rw [e1] at this
    cases s with
    | ex z0 => cases hs
    | gh _ => cases hs
    | own _ _ => cases this
    | un => cases hs
    | fz _ => cases hs
  refine ⟨I.sg, I.sf, I.ioF, I.ioH, by rw [backB_len, I.len, wipe_length], fun j s e => ?_, fun i j s t a e1 e2 h1 h2 z1 z2 => ?_⟩
  · by_cases hj : j ∈ vs
    · have e1 := backB_in β1 β hl vs s hj e
      obtain ⟨w, ew, hs⟩ := I1.sl j s e1
      refine ⟨w, ew, ?_⟩
      cases s with
      | ex z0 => exact ⟨hs.1, hs.2.mono sf⟩
      | gh _ => exact hs
      | un => trivial
      | fz d =>
        obtain ⟨v, q, r⟩ := hs
        exact ⟨v, q, r.mono sf⟩
      | own b d => exact absurd hj (no e rfl)
    · rw [backB_out β1 β vs hj] at e
      obtain ⟨w, ew, hs⟩ := I.sl j s e
      rw [wipe_out σ vs hj] at ew
      exact ⟨w, ew, hs⟩
  · have n1 := no e1 h1
    have n2 := no e2 h2
    rw [backB_out β1 β vs n1] at e1
    rw [backB_out β1 β vs n2] at e2
    exact I.apart i j s t a e1 e2 h1 h2 (by rw [wipe_out σ vs n1]; exact z1) (by rw [wipe_out σ vs n2]; exact z2)
theorem tLc_of {mi : M (List D)} {g : D → M Unit} {mt : M Bool} {me : M Rs} {vs : List Nat} {W : WX} {σ : L2.St} {H : Hp} {Q : VK}
    (h : gOf X.K X.mg W (relE X.K X.mg) (mComp vs mi g mt me) σ H Q) :
    tLc (iOf X.K X.mg W mi) (gOfT X.K X.mg vs g) (gOf X.K X.mg (fun _ _ _ _ => False) relB mt) (gOf X.K X.mg (fun _ _ _ _ => False) (relE X.K X.mg) me) vs σ H Q := by
  obtain ⟨G, io, F, β, I, h⟩ := h
  refine ⟨G, io, F, β, I, h.bnd fun ds β1 J H1 F1 fe1 I1 r1 h1 => ?_⟩
  intro Da hD
  unfold compV at h1
  split at h1
  case isFalse => exact h1.elim
  rename_i hno
  have gD : G Da = none := I1.sg.free hD
  have nio : Da ∉ io := fun z => by
    obtain ⟨u, hu⟩ := I1.ioH Da z
    rw [hu] at hD
    cases hD
  obtain ⟨fin, hfin, hok⟩ : ∃ fin : R (List D) → Prop, fin (compL g mt me vs ds [] (wipeB β1 vs)) ∧ ∀ r, fin r → ∃ acc β', r = .ok acc β' ∧ ∀ v H' F', FE G io F F' → BI X.K X.mg G F' io (backB β1 β' vs) σ H' → RR X.K X.mg G F' io H' (backB β1 β' vs) σ v (.own (.nd .lst acc)) → Q v H' := by
    refine ⟨fun r => ∃ acc β', r = .ok acc β' ∧ ∀ v H' F', FE G io F F' → BI X.K X.mg G F' io (backB β1 β' vs) σ H' → RR X.K X.mg G F' io H' (backB β1 β' vs) σ v (.own (.nd .lst acc)) → Q v H', ?_, fun r h => h⟩
    split at h1
    · rename_i acc β' e
      exact ⟨acc, β', e, h1⟩
    · exact h1.elim
  have st0 : Mid X.K X.mg G F1 io σ vs Da F1 (wipeB β1 vs) [] [] (upd H1 Da (.lst [])) :=
    ⟨.refl, Same.free I1.sf hD, upd_same, .nil, (I1.wipe vs rfl rfl).guard0 hD⟩
  refine ⟨fun i m H => i ≤ ds.length ∧ m = ds.length - i ∧ ∃ F' β' acc us, Mid X.K X.mg G F1 io σ vs Da F' β' acc us H ∧ fin (compL g mt me vs (ds.drop i) acc β'), ⟨ds.length, Nat.zero_le _, rfl, F1, _, [], [], st0, hfin⟩, ?_⟩
  rintro i m H2 ⟨hi, rfl, F2, β2, acc, us, M2, h2⟩
  by_cases hlt : i < ds.length
  · have ed : ds[i]? = some ds[i] := List.getElem?_eq_getElem hlt
    have edr : ds.drop i = ds[i] :: ds.drop (i + 1) := (List.getElem_cons_drop hlt).symm
    obtain ⟨go, yld⟩ := (r1 i H2 (M2.fe.same.trans M2.I.sf)).1 _ ed
    rw [edr] at h2
    obtain ⟨acc9, β9, e9, k9⟩ := hok _ h2
    simp only [compL] at h2 e9
    refine .inr ⟨go, fun H' => ∃ F' β' acc us, Mid X.K X.mg G F1 io σ vs Da F' β' acc us H' ∧ fin (compL g mt me vs (ds.drop (i + 1)) acc β'), fun H' ⟨F', β', acc, us, M', h'⟩ => ⟨ds.length - (i + 1), by omega, hlt, rfl, F', β', acc, us, M', h'⟩, fun x H3 hy => ?_⟩
    obtain ⟨F3, fe3, I3, r3⟩ := M2.I.step (yld F2 M2.fe.same M2.I.sf x H3 hy)
    refine ⟨G.upd Da (.lst us), io, F3, β2, ds[i], I3, r3, ?_⟩
    cases e1 : g ds[i] β2 with
    | stuck => rw [e1] at e9; cases e9
    | exc x β => rw [e1] at e9; cases e9
    | ok u β4 =>
      rw [e1] at h2 e9
      simp only at h2 e9 ⊢
      intro σ4 H4 F4 bu fe4 I4
      have ew : wipe σ4 vs = wipe σ vs := bu.wipe.trans (wipe_wipe σ vs)
      have hl4 : σ.length = σ4.length := by rw [bu.1, wipe_length]
      refine ⟨ew, G.upd Da (.lst us), io, F4, β4, I4, ?_⟩
      cases e2 : mt β4 with
      | stuck => rw [e2] at e9; cases e9
      | exc x β => rw [e2] at e9; cases e9
      | ok b β5 =>
        rw [e2] at h2 e9
        intro v H5 F5 fe5 I5 rv
        cases (show v = b from rv)
        have fe25 := (fe3.trans fe4).trans fe5
        cases b with
        | false =>
          simp only at h2 e9
          rw [if_neg Bool.false_ne_true]
          have r5 := M2.r.mono fe25.same
          refine ⟨F5, _, acc, us, ⟨M2.fe.trans (fe25.unguard gD), fe25.keepN gD M2.fD, I5.sg.g _ _ upd_same, r5, I5.wipe vs ew hl4⟩, h2⟩
        | true =>
          simp only at h2 e9
          rw [if_pos rfl]
          refine ⟨G.upd Da (.lst us), io, F5, β5, I5, ?_⟩
          cases e3 : me β5 with
          | stuck => rw [e3] at e9; cases e9
          | exc x β => rw [e3] at e9; cases e9
          | ok r β6 =>
            rw [e3] at h2 e9
            simp only at h2 e9
            intro y H6 F6 fe6 I6 rr
            obtain ⟨F7, fe7, I7, dr⟩ := I6.freezeR rr
            have fe27 := (fe25.trans fe6).trans fe7
            have r7 := M2.r.mono fe27.same
            by_cases hz : acc.length < sizeLine
            · rw [if_pos hz] at h2
              refine ⟨us, I7.sg.g _ _ upd_same, by rw [M2.r.length]; exact hz, F7, _, acc ++ [r.d], us ++ [y], ⟨M2.fe.trans (fe27.unguard gD), fe27.keepN gD M2.fD, upd_same, r7.append (.cons dr .nil), ?_⟩, h2⟩
              have J := (I7.wipe vs ew hl4).guard (o := .lst (us ++ [y])) upd_same (fe27.keepN gD M2.fD) nio
              rw [GT.upd_upd] at J
              exact J
            · rw [if_neg hz] at e9
              cases e9
  · have e : i = ds.length := by omega
    subst e
    rw [List.drop_length] at h2
    obtain ⟨acc9, β9, e9, k9⟩ := hok _ h2
    cases e9
    have Ib := (M2.I.unguard gD).back I1 M2.fe.same hno
    refine .inl ⟨(r1 _ H2 (M2.fe.same.trans M2.I.sf)).2 (Nat.le_refl _), k9 _ _ F2 (fe1.trans M2.fe) Ib ⟨Da, rfl, M2.fD, gD, nio, .lst M2.at_ M2.r, fun j s es hs z => ?_⟩⟩
    have hl : β1.length = β2.length := by rw [I1.len, M2.I.len, wipe_length]
    have hj : j ∉ vs := fun hj => by
      have e1 := backB_in β1 β2 hl vs s hj es
      have := List.all_eq_true.mp hno j hj
      rw [e1] at this
      cases s with
      | ex z0 => cases hs
      | gh _ => cases hs
      | own _ _ => cases this
      | un => cases hs
      | fz _ => cases hs
    rw [backB_out β1 β2 vs hj] at es
    obtain ⟨w, ew, hss⟩ := M2.I.sl j s es
    rw [wipe_out σ vs hj, z] at ew
    cases ew
    cases s with
    | ex z0 => cases hs
    | gh _ => cases hs
    | un => cases hs
    | fz _ => cases hs
    | own b d =>
      obtain ⟨a, q, _, g', _⟩ := hss
      cases q
      exact absurd g' (GT.upd_self gD)
theorem be_comp {elt tg iter : Expr} {ifs : List Expr} {scope : Scope} {own : List (Str × Nat)} {pos : Pos} {mi : M (List D)} {g : D → M Unit} {mt : M Bool} {me : M Rs} {vs : List Nat} (hc : X.calm = true) (hN : X.N.Nodup) (hi : BIt X tg iter mi) (hvs : own.map (·.2) = vs)
    (ok : BlkOk X.N X.env.scope scope own)
    (hg : ∀ (s : Shared) (H : Hp) (C : Addr) (cl : List (Str × Addr)) (fp : List Addr), BG (X.blk s H scope (PySem.compEnvC scope cl C X.env) fp) vs tg g) (ht : ∀ (s : Shared) (H : Hp) (C : Addr) (cl : List (Str × Addr)) (fp : List Addr), BTs (X.blk s H scope (PySem.compEnvC scope cl C X.env) fp) ifs mt)
    (he : ∀ (s : Shared) (H : Hp) (C : Addr) (cl : List (Str × Addr)) (fp : List Addr), BE (X.blk s H scope (PySem.compEnvC scope cl C X.env) fp) elt me) (hs : ∀ x, foldedSetIterable iter X.env x = pure x := by intro _; rfl) :
    BE X (.ListComp elt [⟨tg, iter, ifs, 0⟩] scope pos) (mComp vs mi g mt me) := by
  subst hvs
  refine fun W tk => (pe_lc (g := gOfT X.K X.mg (own.map fun (q : Str × Nat) => q.2) g) (tt := gOf X.K X.mg (fun _ _ _ _ => False) relB mt) (te := gOf X.K X.mg (fun _ _ _ _ => False) (relE X.K X.mg) me) hc hN (hi W tk) ok hg (fun s H C cl fp => ht s H C cl fp _ takes0) (fun s H C cl fp => he s H C cl fp _ takes0) hs).imp fun σ H Q h => tLc_of h
theorem bs_setComp {i : Nat} {y : Str} {py : Pos} {elt tg iter : Expr} {ifs : List Expr} {scope : Scope} {own : List (Str × Nat)} {pos spos : Pos} {mi : M (List D)} {g : D → M Unit} {mt : M Bool} {me : M Rs} {vs : List Nat} (hc : X.calm = true) (hN : X.N.Nodup) (hy : X.N[i]? = some y)
    (hyl : X.env.scope.names.lookup y = some .local) (hsw : swapsWith (.ListComp elt [⟨tg, iter, ifs, 0⟩] scope pos) (some (.Name y py)) spos.line X.env = pure true) (hi : BIt X tg iter mi) (hvs : own.map (·.2) = vs) (ok : BlkOk X.N X.env.scope scope own)
    (hg : ∀ (s : Shared) (H : Hp) (C : Addr) (cl : List (Str × Addr)) (fp : List Addr), BG (X.blk s H scope (PySem.compEnvC scope cl C X.env) fp) vs tg g) (ht : ∀ (s : Shared) (H : Hp) (C : Addr) (cl : List (Str × Addr)) (fp : List Addr), BTs (X.blk s H scope (PySem.compEnvC scope cl C X.env) fp) ifs mt)
    (he : ∀ (s : Shared) (H : Hp) (C : Addr) (cl : List (Str × Addr)) (fp : List Addr), BE (X.blk s H scope (PySem.compEnvC scope cl C X.env) fp) elt me) (hs : ∀ x, foldedSetIterable iter X.env x = pure x := by intro _; rfl) :
    BS X (.Assign [.Name y py] (.ListComp elt [⟨tg, iter, ifs, 0⟩] scope pos) spos) (mSet i (mComp vs mi g mt me)) := by
  subst hvs
  refine fun W tk => (ps_setLc (g := gOfT X.K X.mg (own.map fun (q : Str × Nat) => q.2) g) (tt := gOf X.K X.mg (fun _ _ _ _ => False) relB mt) (te := gOf X.K X.mg (fun _ _ _ _ => False) (relE X.K X.mg) me) hc hN hy hyl hsw (hi W tk) ok hg (fun s H C cl fp => ht s H C cl fp _ takes0) (fun s H C cl fp => he s H C cl fp _ takes0) hs).imp fun D σ H ⟨G, io, F, β, I, h⟩ => ?_
  exact tLc_of ⟨G, io, F, β, I, h.of fun r β1 v H1 F1 fe1 I1 r1 h1 => h1 _ H1 F1 .refl (I1.set r1 i)⟩
end
end B

set_option Elab.async false
set_option linter.all false
set_option maxRecDepth 100000
set_option maxHeartbeats 4000000
namespace B
open PySem PySem.Spec L2
/-! ## instances -/
def putFD (f : Str) (d : D) : List (Str × D) → List (Str × D)
  | [] => [(f, d)]
  | (g, x) :: r => if g = f then (g, d) :: r else (g, x) :: putFD f d r
/-- the instance of the class named c with these attributes -/
def insD (c : Str) (l : List (Str × D)) : D := .nd (.ins c (l.map (·.1))) (l.map (·.2))
theorem put_rel {K : PySem.W.Frag} {mg : Str → Option Value} {F : Hp} {f : Str} {y : V} {d : D} (h : DR K mg F y d) : ∀ {fs : List (Str × V)} {ds : List D}, DRs K mg F (fs.map (·.2)) ds →
    (putF f y fs).map (·.1) = (putFD f d ((fs.map (·.1)).zip ds)).map (·.1) ∧ DRs K mg F ((putF f y fs).map (·.2)) ((putFD f d ((fs.map (·.1)).zip ds)).map (·.2))
  | [], _, .nil => ⟨rfl, .cons h .nil⟩
  | (g, x) :: fs, _, .cons (ds := ds) a b => by
    obtain ⟨i1, i2⟩ := put_rel h b
    have ez : (List.map (·.1) fs |>.zip ds).map (·.1) = fs.map (·.1) := by
      have e := b.length
      rw [List.length_map] at e
      exact List.map_fst_zip (by rw [List.length_map]; omega)
    have ez2 : (List.map (·.1) fs |>.zip ds).map (·.2) = ds := by
      have e := b.length
      rw [List.length_map] at e
      exact List.map_snd_zip (by rw [List.length_map]; omega)
    simp only [List.map_cons, List.zip_cons_cons, putF, putFD]
    by_cases hg : g = f
    · rw [if_pos hg, if_pos hg]
      refine ⟨by rw [List.map_cons, List.map_cons, ez], ?_⟩
      rw [List.map_cons, List.map_cons, ez2]
      exact .cons h b
    · rw [if_neg hg, if_neg hg]
      refine ⟨by rw [List.map_cons, List.map_cons, i1], ?_⟩
      rw [List.map_cons, List.map_cons]
      exact .cons a i2
section
variable {X : Cx} {i : Nat} {x f : Str} {p pos pos' : Pos} {e : Expr} {me : M Rs}
/-- x.f = e, x a name that holds an instance of one's own (or handed in to be changed) -/
def mSetFld (c f : Str) (i : Nat) (me : M Rs) : M Fl := bnd me fun r => fun β => match β[i]? with
  | some (.own b (.nd (.ins c' ns) ds)) => if c' = c ∧ ns.length < 1000 then .ok .nx (β.set i (.own b (insD c' (putFD f r.d (ns.zip ds))))) else .stuck
  | _ => .stuck
theorem bs_fld (c : Str) (hf : FldOk X c f) (hN : X.N[i]? = some x) (hv : Vis X.env.scope x) (he : BE X e me) (hd : (x == ("__debug__" : Str)) = false := by decide) (hcd : (x == ("__classdict__" : Str)) = false := by decide)
    (hs : swapsWith e (some (.Attribute (.Name x p) f pos')) pos.line X.env = pure false := by rfl) : BS X (.Assign [.Attribute (.Name x p) f pos'] e pos) (mSetFld c f i me) := by
  refine fun W tk => (ps_fld (pe_var hN hv hd hcd) (he W tk) hs).imp fun D σ H ⟨G, io, F, β, I, h⟩ => ⟨G, io, F, β, I, h.of fun r β1 v H1 F1 fe1 I1 r1 h1 => ?_⟩
  obtain ⟨F2, fe2, I2, dr⟩ := I1.freezeR r1
  have h2 := SPost.mono h1 fe2
  split at h2
  · rename_i b c' ns ds e1
    split at h2
    · rename_i hc
      obtain ⟨rfl, hz⟩ := hc
      obtain ⟨a, ea, f0, g0, o⟩ := I2.ownAt e1
      cases o with
      | @ins C dx c fs ds ho hg r =>
        obtain ⟨k1, k2⟩ := hf C hg
        obtain ⟨q1, q2⟩ := put_rel (f := f) dr r
        refine ⟨_, ea, a, C, dx, fs, rfl, ho, k1, k2, by simpa using hz, h2 σ _ F2 .refl (I2.mut e1 ea ?_)⟩
        unfold insD
        rw [← q1]
        exact .ins upd_same hg q2
    · exact h2.elim
  · exact h2.elim
/-! ### C(..) -/
/-- a new instance, its __init__ run, where what is raised is wished for at the caller's slots -/
theorem run_makeS {C f : Addr} {fd : FuncData} {k : Nat} {ps : List Str} {sp : Sp} {E : L2.St → XK} {pins : List (Addr × Obj)} {σ : L2.St} {H : Hp} {s : Shared} {Q : VK} {us : List Value} {vs : List V} (M : Mk X.K C f) (Fn : FnG X.prog X.w X.K X.mg X.base k f fd ps sp)
    (hr : RoomG (k + 1) X.A) (hb : Binds X.K fd ps []) (hx : ∀ σ, PassesAt (L2.CX X.prog X.w) X σ (E σ)) (I : Inv X pins σ H s) (r : Vals vs us)
    (h : ∀ x dx, H x = none → H dx = none → dx ≠ x → sp (.ref x :: vs) (upd (upd H dx (.own x)) x (.ins C dx [])) (fun v H2 => v = .non ∧ Q (.ref x) H2) (E σ)) : wpAny (model X.prog X.w) X.A (call (.ref C) us) (EP X pins σ Q) X.xe s := by
  have big : ∀ n, s.heap.objs.size ≤ n → H n = none := fun n hn => I.hok.fresh hn
  have hq := h _ _ (big (s.heap.objs.size + 1) (Nat.le_succ _)) (big _ (Nat.le_refl _)) (Nat.ne_of_lt (Nat.lt_succ_self _))
  have J := Inv.made (C := C) I
  have rv : Vals (V.ref (s.heap.objs.size + 1) :: vs) (Value.ref (s.heap.objs.size + 1) :: us) := .cons rfl r
  have bd := hb _ (Value.ref (s.heap.objs.size + 1) :: us) J.kIn (by rw [List.append_nil, ← rv.length]; exact Fn.len _ _ _ _ hq)
  rw [List.append_nil] at bd
  refine wpAny_call (make_map (f := f) I.kIn M.makes M.init (beq_iff_eq.mp M.fn) (codeAny_mono (Fn.run (hr.make C us []) (J.env0.make C us []) bd rv hq) fun r s' z => ?_))
  match r, z with
  | .error e, z => exact hx σ pins _ _ e s' J z
  | .ok (.ret u), z =>
    obtain ⟨v, H', J', rv', ev, q3⟩ := J.after z
    subst ev
    exact ⟨rv', V.ref (s.heap.objs.size + 1), H', J', rfl, q3⟩
theorem pe_makeS {C f : Addr} {fd : FuncData} {k : Nat} {ps : List Str} {sp : Sp} {E : L2.St → XK} {es : List Expr} {t : TA} (M : Mk X.K C f) (Fn : FnG X.prog X.w X.K X.mg X.base k f fd ps sp) (hr : RoomG (k + 1) X.A) (hg : Gl X x) (hm : X.mg x = some (.ref C)) (hb : Binds X.K fd ps [])
    (hx : ∀ σ, PassesAt (L2.CX X.prog X.w) X σ (E σ)) (ha : PA X (e :: es) t) (hdb : (x == ("__debug__" : Str)) = false := by decide) (he : starEach (e :: es) X.env = (false, eval e X.env) :: starEach es X.env := by rfl) (hpl : (backTo pos (starEach es X.env)).any (·.1) = false := by rfl) :
    PE X (.Call (.Name x p) (e :: es) [] pos) (fun σ H Q => t σ H fun vs H1 => ∀ x dx, H1 x = none → H1 dx = none → dx ≠ x → sp (.ref x :: vs) (upd (upd H1 dx (.own x)) x (.ins C dx [])) (fun v H2 => v = .non ∧ Q (.ref x) H2) (E σ)) :=
  ⟨fun pins s σ H Q I h => wpAny_Call_Name_kw (ld_glob I hg hm (PySem.W.callWith_K (h₀ := X.base) I.ok.mod.kin M.kp (thn (ha.run pos pins s σ H _ I h) fun us s1 ⟨vs, H1, I1, r, q⟩ => ⟨I1.kIn, run_makeS M Fn hr hb hx I1 r q⟩) he hpl) hdb)⟩
/-- the object that __init__ leaves, let stay -/
def makeF (c : Str) (f : List D → FR) (ps : List Pl) : M Rs := fun β => match allD ps with
  | some ds => (match f (insD c [] :: ds) with
    | .ok (.fz .non) [d] => .ok (.fz d) β
    | .exc x _ => .exc x β
    | _ => .stuck)
  | none => .stuck
def mMake (c : Str) (f : List D → FR) (ma : M (List Pl)) : M Rs := bnd ma (makeF c f)
theorem AR.all {K : PySem.W.Frag} {mg : Str → Option Value} {F H : Hp} : ∀ {vs : List V} {ds : List D}, DRs K mg F vs ds → AR K mg F H (List.replicate ds.length false) [] vs ds
  | _, _, .nil => .nil
  | _, _, .cons a b => .fz a (AR.all b)
theorem be_make {C fa : Addr} {fd : FuncData} {k : Nat} {prm : List Str} {es : List Expr} {ma : M (List Pl)} {g : List D → FR} (n : Nat) (M : Mk X.K C fa) (Fn : FnG X.prog X.w X.K X.mg X.base k fa fd prm (spB X.K X.mg (true :: List.replicate n false) g)) (hr : RoomG (k + 1) X.A) (hm : X.mg x = some (.ref C))
    (hb : Binds X.K fd prm []) (hl : ∀ ps ds, allD ps = some ds → g (insD x [] :: ds) ≠ .stuck → ds.length = n) (ha : BA X (e :: es) ma) (hg : Gl X x := by rfl) (hdb : (x == ("__debug__" : Str)) = false := by decide) (he : starEach (e :: es) X.env = (false, eval e X.env) :: starEach es X.env := by rfl)
    (hpl : (backTo pos (starEach es X.env)).any (·.1) = false := by rfl) : BE X (.Call (.Name x p) (e :: es) [] pos) (mMake x g ma) := by
  refine fun W tk => (pe_makeS M Fn hr hg hm hb (fun σ => passAt tk σ) (ha W tk) hdb he hpl).imp fun σ H Q ⟨G, io, F, β, I, h⟩ => ⟨G, io, F, β, I, h.bnd fun ps β1 vs H1 F1 fe1 I1 r1 h1 => ?_⟩
  intro xa dx hx hdx hne
  unfold makeF at h1
  cases e1 : allD ps with
  | none => rw [e1] at h1; exact h1.elim
  | some ds =>
    rw [e1] at h1
    simp only at h1
    have rr := PRs.all r1 e1
    have fx : F1 xa = none := Same.free I1.sf hx
    have fdx : F1 dx = none := Same.free I1.sf hdx
    have sf : Same F1 (upd (upd H1 dx (.own xa)) xa (.ins C dx [])) := fun b o hb => by
      rw [upd_ne (ne_of_none hb fx), upd_ne (ne_of_none hb fdx)]
      exact I1.sf b o hb
    have hlen : ds.length = n := hl ps ds e1 fun z => by
      rw [z] at h1
      exact h1
    refine ⟨fun _ => none, F1, [xa], insD x [] :: ds, ⟨fun _ _ z => (nomatch z), fun _ _ => rfl⟩, sf, fun a ha => by
      rw [List.mem_singleton.mp ha]
      exact fx, List.nodup_cons.mpr ⟨fun z => (nomatch z), .nil⟩, .io (.ins upd_same hm .nil) (by rw [← hlen]; exact AR.all rr), ?_⟩
    -- what stood stays
    have stay : ∀ {ios : List D} {F' H' : Hp}, After X.K X.mg (fun _ => none) F1 (upd (upd H1 dx (.own xa)) xa (.ins C dx [])) [xa] ios F' H' → Same H1 H' ∧ ∀ a o, F' a = some o → F1 a = some o ∨ H1 a = none := fun {ios F' H'} A => by
      refine ⟨fun b o hb => A.keep b o ?_ (fun z => ?_) rfl, fun a o ha => (A.new a o ha).imp id fun z => ?_⟩
      · rw [upd_ne (ne_of_none hb hx), upd_ne (ne_of_none hb hdx)]
        exact hb
      · rw [List.mem_singleton.mp z, hx] at hb
        cases hb
      · by_cases ea : a = xa
        · rw [ea]
          exact hx
        · by_cases ed : a = dx
          · rw [ed]
            exact hdx
          · rwa [upd_ne ea, upd_ne ed] at z
    split at h1
    · rename_i d e2
      rw [e2]
      intro v H' F' A rv
      cases (show DR X.K X.mg F' v .non from rv)
      refine ⟨rfl, ?_⟩
      obtain ⟨sh, nw⟩ := stay A
      have o : OwnR X.K X.mg F' H' xa d := by
        cases A.ios with
        | cons r _ => exact r
      obtain ⟨u, hu, _⟩ := o.there
      have fxa : F' xa = none := A.ioF xa (List.mem_singleton_self _)
      have sm : Same F' (upd F' xa u) := fun b w hb => by
        rw [upd_ne (ne_of_none hb fxa)]
        exact hb
      have inh : Same (upd F' xa u) H' := fun b w hb => by
        by_cases eb : b = xa
        · subst eb
          rw [upd_same] at hb
          cases hb
          exact hu
        · rw [upd_ne eb] at hb
          exact A.sf b w hb
      obtain ⟨fe2, I2⟩ := I1.grow (F' := upd F' xa u) sh (A.same.trans sm) (fun a w ha => by
        by_cases ea : a = xa
        · rw [ea]
          exact .inr hx
        · rw [upd_ne ea] at ha
          exact nw a w ha) inh
      exact h1 _ H' _ (fe1.trans fe2) I2 (o.dr sm (by rw [upd_same, hu]))
    · rename_i x' ios e2
      rw [e2]
      intro cls d H' F' A xr
      obtain ⟨sh, nw⟩ := stay A
      obtain ⟨fe2, I2⟩ := I1.grow sh A.same nw A.sf
      exact h1 cls d H' _ (fe1.trans fe2) I2 xr
    · exact h1.elim
end
end B

set_option Elab.async false
set_option linter.all false
set_option maxRecDepth 100000
set_option maxHeartbeats 4000000
namespace B
open PySem PySem.Spec L2
/-! ## isinstance, by a built-in type -/
def tyD : D → Option String
  | .non => some "NoneType"
  | .bl _ => some "bool"
  | .int _ => some "int"
  | .str _ => some "str"
  | .nd .tup _ => some "tuple"
  | .nd .lst _ => some "list"
  | .nd .scr _ => some "list"
  | .nd .dct _ => some "dict"
  | .nd (.ins _ _) _ => none
def isiD (T : String) (d : D) : Option Bool := (tyD d).bind fun t => kitB t T
def gIsi (T : String) (d : D) : Option Rs := (isiD T d).map fun b => .fz (.bl b)
theorem HR.tyx {K : PySem.W.Frag} {mg : Str → Option Value} {F H : Hp} {v : V} {d : D} {t : String} (sf : Same F H) (h : HR K mg F H v d) (e : tyD d = some t) : TyX K H v (.type t) := by
  cases h with
  | non => cases e; exact .base .non
  | bl b => cases e; exact .base (.bl b)
  | int i => cases e; exact .base (.int i)
  | str x => cases e; exact .base (.str x)
  | tup h r =>
    cases e
    rcases Same.sqT sf h with (h | ⟨o, h⟩) | ⟨o, its, n, h1, h2, _⟩
    · exact .base (.tup h)
    · exact .fTuple h
    · exact .kTuple h1 h2
  | lst h r => cases e; exact .base (.lst h)
  | scr h r =>
    cases e
    rcases h with (h | ⟨o, h⟩) | ⟨o, its, n, h1, h2, _⟩
    · exact .base (.lst h)
    · exact .base (.frz h)
    · exact .kList h1 h2
  | dK h r q => cases e; exact .base (.dK h)
  | dT h r q => cases e; exact .base (.dT h)
  | ins h g r => cases e
section
variable {X : Cx} {x y : Str} {p p2 pos : Pos} {a : Expr} {ma : M Pl}
theorem be_isi (T : String) (hg : Gl X "isinstance") (hm : X.mg "isinstance" = none) (hg2 : Gl X y) (hm2 : X.mg y = none) (hy : bootBuiltins y = some (.type T)) (ha : BP X a ma) (hn : y ≠ "__name__" := by decide) (hd : (y == ("__debug__" : Str)) = false := by decide)
    (h1 : starEach [a, .Name y p2] X.env = (false, eval a X.env) :: starEach [.Name y p2] X.env := by rfl) (h2 : starEach [.Name y p2] X.env = [(false, eval (.Name y p2) X.env)] := by rfl) (hpl : (backTo pos (starEach [Expr.Name y p2] X.env)).any (·.1) = false := by rfl) :
    BE X (.Call (.Name "isinstance" p) [a, .Name y p2] [] pos) (mUn (gIsi T) ma) := by
  refine fun W tk => (pe_callB call_isi hg hm PyProof.Rows.boot_isinstance (pa_cons (ha W tk) (pa_cons (pe_bltn (v := .ty T) hg2 hm2 hy rfl hn hd) pa_nil h2) h1) (by decide) (by decide) h1 hpl).imp fun σ H Q ⟨G, io, F, β, I, h⟩ => ⟨G, io, F, β, I, h.bnd fun q β1 v H1 F1 fe1 I1 r1 h1 => ?_⟩
  unfold fin1 at h1
  cases e1 : look β1 q with
  | none => rw [e1] at h1; exact h1.elim
  | some d =>
    rw [e1] at h1
    simp only [Option.bind_some] at h1
    cases e2 : tyD d with
    | none => unfold gIsi isiD at h1; rw [e2] at h1; exact h1.elim
    | some t =>
      cases e3 : kitB t T with
      | none => unfold gIsi isiD at h1; rw [e2] at h1; simp only [Option.bind_some] at h1; rw [e3] at h1; exact h1.elim
      | some b =>
        unfold gIsi isiD at h1
        rw [e2] at h1
        simp only [Option.bind_some] at h1
        rw [e3] at h1
        exact ⟨v, .ty T, _, _, b, rfl, .ty T, (I1.look r1 e1).tyx I1.sf e2, kit_ty e3, h1 _ H1 F1 fe1 I1 (.bl b)⟩
/-! ## len(set(..)) of unlike ints -/
def gLenSet : D → Option Rs
  | .nd .lst ds => (ints? ds).bind fun ns => if ns.Nodup ∧ ns.length ≤ 4000 then some (.fz (.int ns.length)) else none
  | _ => none
theorem lenSet_of {d : D} {r : Rs} (h : gLenSet d = some r) : ∃ ns : List Int, d = .nd .lst (ns.map D.int) ∧ ns.Nodup ∧ ns.length ≤ 4000 ∧ r = .fz (.int ns.length) := by
  unfold gLenSet at h
  split at h
  · obtain ⟨ns, e, h⟩ := Option.bind_eq_some_iff.mp h
    split at h
    · rename_i hh
      cases h
      exact ⟨ns, by rw [ints_of e], hh.1, hh.2, rfl⟩
    · cases h
  · cases h
theorem DRs.intsV {K : PySem.W.Frag} {mg : Str → Option Value} {F : Hp} : ∀ {ns : List Int} {vs : List V}, DRs K mg F vs (ns.map D.int) → vs = ns.map V.int
  | [], _, .nil => rfl
  | n :: ns, _, .cons h t => by
    cases h
    rw [DRs.intsV t]
    rfl
theorem be_lenSet {q : Pos} (hg : Gl X "len") (hm : X.mg "len" = none) (hg2 : Gl X "set") (hm2 : X.mg "set" = none) (hc : X.calm = true) (ha : BP X a ma) (na : starEach [a] X.env = (false, eval a X.env) :: starEach [] X.env := by rfl) :
    BE X (.Call (.Name "len" p) [.Call (.Name "set" p2) [a] [] q] [] pos) (mUn gLenSet ma) := by
  refine fun W tk => (RZ.pe_lenSetI hg hm hg2 hm2 (ha W tk) hc na).imp fun σ H Q ⟨G, io, F, β, I, h⟩ => ⟨G, io, F, β, I, h.bnd fun q β1 v H1 F1 fe1 I1 r1 h1 => ?_⟩
  unfold fin1 at h1
  cases e1 : look β1 q with
  | none => rw [e1] at h1; exact h1.elim
  | some d =>
    rw [e1] at h1
    simp only [Option.bind_some] at h1
    cases e2 : gLenSet d with
    | none => rw [e2] at h1; exact h1.elim
    | some r =>
      rw [e2] at h1
      obtain ⟨ns, rfl, nd, hl, rfl⟩ := lenSet_of e2
      have hr := I1.look r1 e1
      cases hr with
      | @lst l vs ds hl' r => exact ⟨l, ns, rfl, .inl (.inl (by rw [hl', DRs.intsV r])), nd, hl, h1 _ H1 F1 fe1 I1 (.int _)⟩
/-! ## zip, enumerate -/
def zipD (ds es : List D) : List D := List.zipWith (fun d e => .nd .tup [d, e]) ds es
theorem itR_pair {F : Hp} {J : It} {ds es : List D} {vs ws : List V} (rd : DRs X.K X.mg F vs ds) (re : DRs X.K X.mg F ws es)
    (hgo : ∀ i H x y, Same F H → vs[i]? = some x → ws[i]? = some y → J.go i H) (hy : ∀ i H v H' x y, Same F H → vs[i]? = some x → ws[i]? = some y → J.yld i H v H' → ∃ T, v = .ref T ∧ H T = none ∧ H' = upd H T (.tup [x, y]))
    (hst : ∀ i H, Same F H → vs.length ≤ i ∨ ws.length ≤ i → J.stop i H) : ItR X.K X.mg F J (zipD ds es) := by
  intro i H sf
  refine ⟨fun d ed => ?_, fun hl => hst i H sf ?_⟩
  · unfold zipD at ed
    rw [List.getElem?_zipWith] at ed
    cases e1 : ds[i]? with
    | none => rw [e1] at ed; cases ed
    | some d1 =>
      cases e2 : es[i]? with
      | none => rw [e1, e2] at ed; cases ed
      | some d2 =>
        rw [e1, e2] at ed
        cases ed
        obtain ⟨x, ex, rx⟩ := rd.getD e1
        obtain ⟨y, ey, ry⟩ := re.getD e2
        refine ⟨hgo i H x y sf ex ey, fun F1 s1 s2 v H' h => ?_⟩
        obtain ⟨T, rfl, hT, rfl⟩ := hy i H v H' x y sf ex ey h
        exact NR.tup s2 hT (.cons (rx.mono s1) (.cons (ry.mono s1) .nil))
  · unfold zipD at hl
    rw [List.length_zipWith, ← rd.length, ← re.length] at hl
    omega
def zipA (ps : List Pl) : M (List D) := fun β => match allD ps with
  | some [.nd .tup ds, .nd .tup es] => .ok (zipD ds es) β
  | some [.nd .lst ds, .nd .lst es] => .ok (zipD ds es) β
  | some [.nd .scr ds, .nd .lst es] => .ok (zipD ds es) β
  | _ => .stuck
theorem bi_zip {e e2 : Expr} {mm : M (List Pl)} {tpos : Pos} {elts : List Expr} {kk : Nat} (hg : Gl X "zip") (hm : X.mg "zip" = none) (ha : BA X [e, e2] mm) (hs : starEach [e, e2] X.env = (false, eval e X.env) :: starEach [e2] X.env := by rfl)
    (hpl : (backTo pos (starEach [e2] X.env)).any (·.1) = false := by rfl) : BIt X (.Tuple elts kk tpos) (.Call (.Name "zip" p) [e, e2] [] pos) (bnd mm zipA) := by
  refine fun W tk => (RZ.pi_zipA hg hm (ha W tk) hs hpl).imp fun σ H R ⟨G, io, F, β, I, hq⟩ => ⟨G, io, F, β, I, hq.bnd fun ps β1 vs H1 F1 fe1 I1 r1 h1 => ?_⟩
  have lst : ∀ {a b : Addr} {xs ys : List V} {ds es : List D}, SqL X.K F1 a xs → SqL X.K F1 b ys → DRs X.K X.mg F1 xs ds → DRs X.K X.mg F1 ys es → ItR X.K X.mg F1 (Itz X.K a b) (zipD ds es) := fun {a b xs ys ds es} ha hb ra rb =>
    itR_pair ra rb (fun i H x y sf ex ey => ⟨xs, ys, x, y, Same.sqL sf ha, Same.sqL sf hb, ex, ey⟩) (fun i H v H' x y sf ex ey ⟨T, x', y', e1, e2, e3, e4, e5⟩ => by
      have q1 := (e4 xs (Same.sqL sf ha)).symm.trans ex
      have q2 := (e5 ys (Same.sqL sf hb)).symm.trans ey
      cases q1
      cases q2
      exact ⟨T, e1, e2, e3⟩) fun i H sf hl => ⟨xs, ys, Same.sqL sf ha, Same.sqL sf hb, hl⟩
  unfold zipA at h1
  split at h1
  · rename_i ds es e1
    have rr := PRs.all r1 e1
    cases rr with
    | cons k1 rr =>
      cases rr with
      | cons k2 rr =>
        cases rr
        cases k1 with
        | @tup a xs ds ha ra =>
          cases k2 with
          | @tup b ys es hb rb =>
            refine ⟨a, b, xs, ys, rfl, .inr ⟨Same.sqT I1.sf ha, Same.sqT I1.sf hb, h1 _ H1 F1 fe1 I1 ?_⟩⟩
            exact itR_pair ra rb (fun i H x y sf ex ey => ⟨xs, ys, x, y, Same.sqT sf ha, Same.sqT sf hb, ex, ey⟩) (fun i H v H' x y sf ex ey ⟨T, x', y', e1, e2, e3, e4, e5⟩ => by
              have q1 := (e4 xs (Same.sqT sf ha)).symm.trans ex
              have q2 := (e5 ys (Same.sqT sf hb)).symm.trans ey
              cases q1
              cases q2
              exact ⟨T, e1, e2, e3⟩) fun i H sf hl => ⟨xs, ys, Same.sqT sf ha, Same.sqT sf hb, hl⟩
  · rename_i ds es e1
    have rr := PRs.all r1 e1
    cases rr with
    | cons k1 rr =>
      cases rr with
      | cons k2 rr =>
        cases rr
        cases k1 with
        | @lst a xs ds ha ra =>
          cases k2 with
          | @lst b ys es hb rb => exact ⟨a, b, xs, ys, rfl, .inl ⟨Same.sqL I1.sf (.inl (.inl ha)), Same.sqL I1.sf (.inl (.inl hb)), h1 _ H1 F1 fe1 I1 (lst (.inl (.inl ha)) (.inl (.inl hb)) ra rb)⟩⟩
  · rename_i ds es e1
    have rr := PRs.all r1 e1
    cases rr with
    | cons k1 rr =>
      cases rr with
      | cons k2 rr =>
        cases rr
        cases k1 with
        | @scr a xs ds ha ra =>
          cases k2 with
          | @lst b ys es hb rb => exact ⟨a, b, xs, ys, rfl, .inl ⟨Same.sqL I1.sf ha, Same.sqL I1.sf (.inl (.inl hb)), h1 _ H1 F1 fe1 I1 (lst ha (.inl (.inl hb)) ra rb)⟩⟩
  · exact h1.elim
/-! ## repr -/
def shwOk (d : D) : Bool := (toPy d).canLay0 && (toPy d).showable && decide ((toPy d).shown.length ≤ sizeLine) && decide ((toPy d).depth ≤ 50)
def isSq : D → Bool
  | .nd .lst _ => true
  | .nd .tup _ => true
  | _ => false
def gRepr (d : D) : Option Rs := if isSq d = true ∧ shwOk d = true then some (.fz (.str (toPy d).shown)) else none
theorem be_repr (hG : X.A.guards = some []) (hu : X.A.units + 64 < cLine) (hg : Gl X "repr") (hm : X.mg "repr" = none) (ha : BP X a ma) (hs : starEach [a] X.env = (false, eval a X.env) :: starEach [] X.env := by rfl)
    (hpl : (backTo pos (starEach [] X.env)).any (·.1) = false := by rfl) : BE X (.Call (.Name "repr" p) [a] [] pos) (mUn gRepr ma) := by
  have cr : CallR X (.builtin "repr") (fun xs H Q => ∃ (l : Addr) (d : PyData), xs = [.ref l] ∧ Dp X.K H (.ref l) d ∧ d.canLay0 = true ∧ d.showable = true ∧ d.shown.length ≤ sizeLine ∧ d.depth ≤ 50 ∧ Q (.str d.shown) H) := by
    intro pins s σ H xs us Q I r ⟨l, d, e, dp, c1, c2, c3, c4, q⟩
    subst e
    cases r with
    | cons r rr =>
      cases rr
      cases r
      obtain ⟨as, rd⟩ := Dp.reads I d _ _ dp rfl
      exact PySem.repr_of_reads' rd c2 (PyData.noDict_hsm (PyData.hasDict_of_canLay d c1)) hG (by omega) (fun _ _ e => e) (fun h' u tk hk => ⟨.str d.shown, H, I.kept (t' := tk) hk, ⟨u, rfl⟩, q⟩) c3
  refine fun W tk => (pe_callB cr hg hm PyProof.Rows.boot_repr (pa_cons (ha W tk) pa_nil hs) (by decide) (by decide) hs hpl).imp fun σ H Q ⟨G, io, F, β, I, h⟩ => ⟨G, io, F, β, I, h.bnd fun q β1 v H1 F1 fe1 I1 r1 h1 => ?_⟩
  unfold fin1 at h1
  cases e1 : look β1 q with
  | none => rw [e1] at h1; exact h1.elim
  | some d =>
    rw [e1] at h1
    simp only [Option.bind_some] at h1
    have hr := I1.look r1 e1
    have dr := hr.dr I1.sf
    unfold gRepr at h1
    by_cases hh : isSq d = true ∧ shwOk d = true
    · rw [if_pos hh] at h1
      obtain ⟨sq, ok⟩ := hh
      simp only [shwOk, Bool.and_eq_true, decide_eq_true_eq] at ok
      have dp := DR.dp dr ok.1.1.1
      cases dr with
      | lst h r => exact ⟨_, _, rfl, dp, ok.1.1.1, ok.1.1.2, ok.1.2, ok.2, h1 _ H1 F1 fe1 I1 (.str _)⟩
      | tup h r => exact ⟨_, _, rfl, dp, ok.1.1.1, ok.1.1.2, ok.1.2, ok.2, h1 _ H1 F1 fe1 I1 (.str _)⟩
      | _ => cases sq
    · rw [if_neg hh] at h1
      exact h1.elim
/-! ## the module's constants -/
theorem be_glI (i : Int) {t : Tok} (hm : X.mg x = some (.int i t)) (hg : Gl X x) (hd : (x == ("__debug__" : Str)) = false := by decide) : BE X (.Name x pos) (mC (.int i)) := fun W tk => (pe_glob (v := .int i) hg hm ⟨t, rfl⟩ hd).imp fun σ H Q ⟨_, _, F, _, I, h⟩ => h _ H F .refl I (.int i)
theorem be_glT {l : Addr} {vs : List V} {ds : List D} (hm : X.mg x = some (.ref l)) (hk : SqT X.K (fun _ => none) l vs) (hd : ∀ F, DRs X.K X.mg F vs ds) (hg : Gl X x) (hdb : (x == ("__debug__" : Str)) = false := by decide) : BE X (.Name x pos) (mC (.nd .tup ds)) :=
  fun W tk => (pe_glob (v := .ref l) hg hm rfl hdb).imp fun σ H Q ⟨_, _, F, _, I, h⟩ => h _ H F .refl I (.tup (Same.sqT (F := fun _ => none) (fun _ _ z => by cases z) hk) (hd F))
end
end B

set_option Elab.async false
set_option linter.all false
set_option maxRecDepth 100000
set_option maxHeartbeats 4000000
namespace B
open PySem PySem.Spec L2
/-! ## names for the rules' operations -/
def gSub := gI fun i j => i - j
def gFdiv := gIc cDiv fun i j => i / j
def gMod := gIc (fun _ j => decide (0 < j)) fun i j => i % j
def gPow := gIc cPow fun i j => i ^ j.toNat
def gShl := gIc cPow fun i j => i * 2 ^ j.toNat
def gBand := gI Builtin.bitAnd
def gBor := gI Builtin.bitOr
def gLt := gC fun i j => decide (i < j)
def gLe := gC fun i j => decide (i ≤ j)
def gGt := gC fun i j => decide (j < i)
def gGe := gC fun i j => decide (j ≤ i)
def gSum := gLI fun ns => some (.int ns.sum)
def gMax2 := gI2 fun i j => if j > i then j else i
def gMin2 := gI2 fun i j => if j < i then j else i
def gMax := gLI maxI
def gMin := gLI minI
def gAll := gLB fun bs => bs.all id
def gAny := gLB fun bs => bs.any id
section
variable {X : Cx} {k : Nat}
theorem od_sub : OpD X (binaryOp .Sub) gSub := opd_sub
theorem od_fdiv : OpD X (binaryOp .FloorDiv) gFdiv := opd_fdiv
theorem od_mod : OpD X (binaryOp .Mod) gMod := opd_mod
theorem od_pow : OpD X (binaryOp .Pow) gPow := opd_pow
theorem od_shl : OpD X (binaryOp .LShift) gShl := opd_shl
theorem od_band : OpD X (binaryOp .BitAnd) gBand := opd_band
theorem od_bor : OpD X (binaryOp .BitOr) gBor := opd_bor
theorem od_lt : OpD X (compareOp .Lt) gLt := opd_lt
theorem od_le : OpD X (compareOp .LtE) gLe := opd_le
theorem od_gt : OpD X (compareOp .Gt) gGt := opd_gt
theorem od_ge : OpD X (compareOp .GtE) gGe := opd_ge
theorem RoomG.u64 (r : RoomG k X.A) : X.A.units + 64 < cLine := by have := r.r.un; omega
theorem RoomG.u65 (r : RoomG k X.A) : X.A.units + 65 < cLine := by have := r.r.un; omega
theorem od_eq (r : RoomG k X.A) : OpD X (compareOp .Eq) gEq := opd_eq r.u64
theorem od_ne (r : RoomG k X.A) : OpD X (compareOp .NotEq) gNe := opd_ne r.u64
theorem od_in (r : RoomG k X.A) : OpD X (compareOp .In) gIn := opd_in r.u65
theorem od_notIn (r : RoomG k X.A) : OpD X (compareOp .NotIn) gNotIn := opd_notIn r.u65
end
theorem boot_len : bootBuiltins "len" = some (.builtin "len") := by decide +kernel
theorem boot_range : bootBuiltins "range" = some (.type "range") := by decide +kernel
theorem boot_isinstance : bootBuiltins "isinstance" = some (.builtin "isinstance") := by decide +kernel
theorem boot_int : bootBuiltins "int" = some (.type "int") := by decide +kernel
theorem boot_bool : bootBuiltins "bool" = some (.type "bool") := by decide +kernel
theorem boot_list : bootBuiltins "list" = some (.type "list") := by decide +kernel
theorem boot_tuple : bootBuiltins "tuple" = some (.type "tuple") := by decide +kernel
theorem boot_str : bootBuiltins "str" = some (.type "str") := by decide +kernel
theorem boot_dict : bootBuiltins "dict" = some (.type "dict") := by decide +kernel
theorem boot_set : bootBuiltins "set" = some (.type "set") := by decide +kernel
theorem boot_sorted : bootBuiltins "sorted" = some (.builtin "sorted") := by decide +kernel
theorem boot_repr : bootBuiltins "repr" = some (.builtin "repr") := by decide +kernel
theorem boot_min : bootBuiltins "min" = some (.builtin "min") := by decide +kernel
theorem boot_max : bootBuiltins "max" = some (.builtin "max") := by decide +kernel
theorem boot_sum : bootBuiltins "sum" = some (.builtin "sum") := by decide +kernel
theorem boot_all : bootBuiltins "all" = some (.builtin "all") := by decide +kernel
theorem boot_any : bootBuiltins "any" = some (.builtin "any") := by decide +kernel
theorem boot_abs : bootBuiltins "abs" = some (.builtin "abs") := by decide +kernel
/-! ## what the written part says -/
/-- built-in names that stay -/
structure Bl (mg : Str → Option Value) : Prop where
  len : mg "len" = none
  range : mg "range" = none
  isinstance : mg "isinstance" = none
  int : mg "int" = none
  bool : mg "bool" = none
  list : mg "list" = none
  tuple : mg "tuple" = none
  str : mg "str" = none
  dict : mg "dict" = none
  set : mg "set" = none
  sorted : mg "sorted" = none
  repr : mg "repr" = none
  min : mg "min" = none
  max : mg "max" = none
  sum : mg "sum" = none
  all : mg "all" = none
  any : mg "any" = none
  zip : mg "zip" = none
  enumerate : mg "enumerate" = none
  abs : mg "abs" = none
/-- a def of the top, all of its parameters handed in by place -/
structure Lk (K : PySem.W.Frag) (mg : Str → Option Value) (x : Str) (st : Stmt) (ps : List Str) : Prop where
  ex : ∃ f fd, L2.Fun K x x st f fd ∧ mg x = some (.ref f) ∧ Binds K fd ps []
def Ok (P : Program) (w : World) (K : PySem.W.Frag) (mg : Str → Option Value) (base : Heap) (k : Nat) (x : Str) (ps : List Str) (ks : List Bool) (r : List D → FR) : Prop :=
  ∃ f fd, FnG P w K mg base k f fd ps (spB K mg ks r) ∧ mg x = some (.ref f) ∧ PySem.W.keepIn K (.ref f) = true ∧ Binds K fd ps []
section
variable {P : Program} {w : World} {K : PySem.W.Frag} {mg : Str → Option Value} {base : Heap} {k : Nat} {x : Str} {st : Stmt} {N ps : List Str} {m : M Fl}
theorem ok_of (ks : List Bool) (L : Lk K mg x st ps) (S : FnScope N ps (defScope st)) (hk : ks.length = ps.length)
    (hb : ∀ (f : Addr) (cdv : Value) (A : Around) (outer : List PySem.Env) (s : Shared) (H : Hp) (E : XK), RoomG k (A.deeper (PyProof.Rows.envOfC x (defScope st) s.heap.objs.size f cdv)) → BSs (cxOf (L2.CX P w) P w K mg base N x (defScope st) f cdv A outer s H E) (defBody st) m) :
    Ok P w K mg base (k + 1) x ps ks (runB ks N.length m) := by
  obtain ⟨f, fd, F, hm, hbd⟩ := L.ex
  exact ⟨f, fd, fnB ks F S hk fun cdv A outer s H E hr => hb f cdv A outer s H E hr, hm, F.kp, hbd⟩
end
section
variable {X : Cx} {k j : Nat} {x : Str} {prm : List Str} {ks : List Bool} {f : List D → FR} {p pos : Pos} {e : Expr} {es : List Expr} {ma : M (List Pl)}
theorem be_c (O : Ok X.prog X.w X.K X.mg X.base j x prm ks f) (hr : RoomG k X.A) (hjk : j ≤ k) (ha : BA X (e :: es) ma) (hg : Gl X x := by rfl) (hdb : (x == ("__debug__" : Str)) = false := by decide)
    (he : starEach (e :: es) X.env = (false, eval e X.env) :: starEach es X.env := by rfl) (hpl : (backTo pos (starEach es X.env)).any (·.1) = false := by rfl) : BE X (.Call (.Name x p) (e :: es) [] pos) (mCallF ks f ma) := by
  obtain ⟨fa, fd, F, hm, hk, hb⟩ := O
  exact be_call F (hr.mono hjk) hm hk hb ha hg hdb he hpl
end
/-! ## defs with keyword-only parameters -/
/-- the items at these places -/
def pick {α : Type} (ix : List Nat) (l : List α) : List α := ix.filterMap fun i => l[i]?
theorem pick_rel {α β : Type} {R : α → β → Prop} {l : List α} {k : List β} (h : ∀ i : Nat, (l[i]? = none ∧ k[i]? = none) ∨ ∃ a b, l[i]? = some a ∧ k[i]? = some b ∧ R a b) (C : List α → List β → Prop) (nil : C [] []) (cons : ∀ a b x y, R a b → C x y → C (a :: x) (b :: y)) : ∀ ix : List Nat, C (pick ix l) (pick ix k)
  | [] => nil
  | i :: ix => by
    have ih := pick_rel h C nil cons ix
    unfold pick at ih ⊢
    rcases h i with ⟨e1, e2⟩ | ⟨a, b, e1, e2, r⟩
    · rw [List.filterMap_cons_none e1, List.filterMap_cons_none e2]
      exact ih
    · rw [List.filterMap_cons_some e1, List.filterMap_cons_some e2]
      exact cons _ _ _ _ r ih
theorem vals_at {vs : List V} {us : List Value} (r : Vals vs us) (i : Nat) : (vs[i]? = none ∧ us[i]? = none) ∨ ∃ a b, vs[i]? = some a ∧ us[i]? = some b ∧ RelV a b := by
  cases e : vs[i]? with
  | none => exact .inl ⟨rfl, by rw [List.getElem?_eq_none_iff, ← r.length]; exact List.getElem?_eq_none_iff.mp e⟩
  | some v => obtain ⟨u, e2, h⟩ := r.get e; exact .inr ⟨v, u, rfl, e2, h⟩
theorem PRs.at {K : PySem.W.Frag} {mg : Str → Option Value} {F : Hp} {σ : L2.St} : ∀ {vs : List V} {ps : List Pl} (_ : PRs K mg F σ vs ps) (i : Nat), (vs[i]? = none ∧ ps[i]? = none) ∨ ∃ a b, vs[i]? = some a ∧ ps[i]? = some b ∧ PR K mg F σ a b
  | _, _, .nil, i => .inl ⟨by simp, by simp⟩
  | _, _, .cons a b, 0 => .inr ⟨_, _, rfl, rfl, a⟩
  | _, _, .cons a b, i + 1 => by simpa using PRs.at b i
theorem vals_pick {vs : List V} {us : List Value} (r : Vals vs us) (ix : List Nat) : Vals (pick ix vs) (pick ix us) := pick_rel (R := RelV) (vals_at r) (fun a b => Vals a b) .nil (fun _ _ _ _ a b => .cons a b) ix
theorem PRs.pick {K : PySem.W.Frag} {mg : Str → Option Value} {F : Hp} {σ : L2.St} {vs : List V} {ps : List Pl} (r : PRs K mg F σ vs ps) (ix : List Nat) : PRs K mg F σ (B.pick ix vs) (B.pick ix ps) := pick_rel (R := PR K mg F σ) r.at (fun a b => PRs K mg F σ a b) .nil (fun _ _ _ _ a b => .cons a b) ix
def kp (ix : List Nat) (us ws : List Pl) : List Pl := pick ix (us ++ ws)
theorem kwOk_of {K : PySem.W.Frag} {mg : Str → Option Value} {fd : FuncData} {prm kn : List Str} {n : Nat} (ix : List Nat) (h : ∀ (s : Shared) (us ws : List Value), us.length = n → ws.length = kn.length → BindsTo s fd ⟨us, kn.zip ws⟩ (prm.zip (pick ix (us ++ ws)))) : KwOk K mg fd prm n kn (kp ix) :=
  ⟨⟨fun us ws => pick ix (us ++ ws), fun vs zs => pick ix (vs ++ zs), ⟨fun s us ws _ h1 h2 => h s us ws h1 h2, fun r1 r2 => vals_pick (r1.append r2) ix⟩, fun _ _ _ _ _ _ r1 r2 => (r1.append r2).pick ix⟩⟩
abbrev Pat := Nat × List Str × List Nat
def Pats (K : PySem.W.Frag) (mg : Str → Option Value) (fd : FuncData) (ps : List Str) (pats : List Pat) : Prop := ∀ q ∈ pats, KwOk K mg fd ps q.1 q.2.1 (kp q.2.2)
theorem pats_nil {K : PySem.W.Frag} {mg : Str → Option Value} {fd : FuncData} {ps : List Str} : Pats K mg fd ps [] := fun _ h => nomatch h
theorem pats_cons {K : PySem.W.Frag} {mg : Str → Option Value} {fd : FuncData} {ps : List Str} {q : Pat} {pats : List Pat} (h : KwOk K mg fd ps q.1 q.2.1 (kp q.2.2)) (t : Pats K mg fd ps pats) : Pats K mg fd ps (q :: pats) := fun p hp => by
  rcases List.mem_cons.mp hp with rfl | hp
  · exact h
  · exact t p hp
def Dfl (K : PySem.W.Frag) (mg : Str → Option Value) (fd : FuncData) (ps : List Str) (dd : List D) : Prop := ∃ dvs dv, Binds K fd ps dv ∧ Vals dvs dv ∧ DDs K mg dvs dd
structure LkD (K : PySem.W.Frag) (mg : Str → Option Value) (x : Str) (st : Stmt) (ps : List Str) (dd : List D) (pats : List Pat) : Prop where
  ex : ∃ f fd, L2.Fun K x x st f fd ∧ mg x = some (.ref f) ∧ Dfl K mg fd ps dd ∧ Pats K mg fd ps pats
def OkD (P : Program) (w : World) (K : PySem.W.Frag) (mg : Str → Option Value) (base : Heap) (k : Nat) (x : Str) (ps : List Str) (ks : List Bool) (r : List D → FR) (dd : List D) (pats : List Pat) : Prop :=
  ∃ f fd, FnG P w K mg base k f fd ps (spB K mg ks r) ∧ mg x = some (.ref f) ∧ PySem.W.keepIn K (.ref f) = true ∧ Dfl K mg fd ps dd ∧ Pats K mg fd ps pats
section
variable {P : Program} {w : World} {K : PySem.W.Frag} {mg : Str → Option Value} {base : Heap} {k : Nat} {x : Str} {st : Stmt} {N ps : List Str} {m : M Fl} {dd : List D} {pats : List Pat}
theorem okD_of (ks : List Bool) (L : LkD K mg x st ps dd pats) (S : FnScope N ps (defScope st)) (hk : ks.length = ps.length)
    (hb : ∀ (f : Addr) (cdv : Value) (A : Around) (outer : List PySem.Env) (s : Shared) (H : Hp) (E : XK), RoomG k (A.deeper (PyProof.Rows.envOfC x (defScope st) s.heap.objs.size f cdv)) → BSs (cxOf (L2.CX P w) P w K mg base N x (defScope st) f cdv A outer s H E) (defBody st) m) :
    OkD P w K mg base (k + 1) x ps ks (runB ks N.length m) dd pats := by
  obtain ⟨f, fd, F, hm, hd, hp⟩ := L.ex
  exact ⟨f, fd, fnB ks F S hk fun cdv A outer s H E hr => hb f cdv A outer s H E hr, hm, F.kp, hd, hp⟩
end
section
variable {X : Cx} {k j : Nat} {x : Str} {prm : List Str} {ks : List Bool} {f : List D → FR} {p pos : Pos} {e : Expr} {es : List Expr} {ma mk : M (List Pl)} {dd : List D} {pats : List Pat}
theorem be_d (O : OkD X.prog X.w X.K X.mg X.base j x prm ks f dd pats) (hr : RoomG k X.A) (hjk : j ≤ k) (ha : BA X (e :: es) ma) (hg : Gl X x := by rfl) (hdb : (x == ("__debug__" : Str)) = false := by decide)
    (he : starEach (e :: es) X.env = (false, eval e X.env) :: starEach es X.env := by rfl) (hpl : (backTo pos (starEach es X.env)).any (·.1) = false := by rfl) : BE X (.Call (.Name x p) (e :: es) [] pos) (mCallD ks f dd ma) := by
  obtain ⟨fa, fd, F, hm, hk, ⟨dvs, dv, hb, hd, hdd⟩, _⟩ := O
  exact be_callD F (hr.mono hjk) hm hk hb hd hdd ha hg hdb he hpl
theorem be_k {n : Nat} {kn : List Str} {ix : List Nat} {kws : List Keyword} (O : OkD X.prog X.w X.K X.mg X.base j x prm ks f dd pats) (hr : RoomG k X.A) (hjk : j ≤ k) (hq : (n, kn, ix) ∈ pats) (ha : BA X (e :: es) ma) (hkw : BKw X kws mk) (hg : Gl X x := by rfl)
    (hall : (backToKw pos (keywordEach kws X.env)).all (·.1.isSome) = true := by rfl) (hks : (backToKw pos (keywordEach kws X.env)).filterMap (·.1) = kn := by rfl) (hdb : (x == ("__debug__" : Str)) = false := by decide) (he : starEach (e :: es) X.env = (false, eval e X.env) :: starEach es X.env := by rfl)
    (hpl : ((backTo pos (starEach (e :: es) X.env)).any (·.1) || (backToKw pos (keywordEach kws X.env)).any (·.1.isNone)) = false := by rfl) : BE X (.Call (.Name x p) (e :: es) kws pos) (mCallK ks f n kn.length (kp ix) ma mk) := by
  obtain ⟨fa, fd, F, hm, hk, _, hp⟩ := O
  exact be_callK F (hr.mono hjk) hm hk (hp _ hq) ha hkw hg hall hks hdb he hpl
end
/-! ## the script -/
theorem sp_law {K : PySem.W.Frag} {mg : Str → Option Value} {r : List D → FR} {a : Addr} {ns : List Int} {H : Hp} (hS : SqL K H a (ns.map V.int)) (h : r [.nd .scr (ns.map D.int)] = .ok (.fz (.bl true)) []) : spB K mg [false] r [.ref a] H (fun v _ => v = .bl true) fun _ _ _ => False := by
  refine ⟨fun _ => none, H, [], _, ⟨fun _ _ z => (nomatch z), fun _ _ => rfl⟩, Same.refl _, fun _ z => (nomatch z), .nil, .fz (.scr hS (DRs.ints ns)) .nil, ?_⟩
  rw [h]
  intro v H' F' _ r
  cases (show DR K mg F' v (.bl true) from r)
  rfl
end B

set_option Elab.async false
set_option linter.all false
set_option maxRecDepth 100000
set_option maxHeartbeats 4000000
namespace B
open PySem PySem.Spec L2
/-! ## a name that isn't read again: its object as one's own -/
def mMv (i : Nat) : M Rs := fun β => match β[i]? with
  | some (.fz d) => .ok (.fz d) β
  | some (.own none d) => .ok (.own d) (β.set i .un)
  | _ => .stuck
theorem be_mv {X : Cx} {i : Nat} {x : Str} {pos : Pos} (hN : X.N[i]? = some x := by rfl) (hv : Vis X.env.scope x := by first | exact Or.inl rfl | exact Or.inr (Or.inl rfl) | exact Or.inr (Or.inr rfl)) (hd : (x == ("__debug__" : Str)) = false := by decide)
    (hcd : (x == ("__classdict__" : Str)) = false := by decide) : BE X (.Name x pos) (mMv i) := by
  refine fun W tk => (pe_var hN hv hd hcd).imp fun σ H Q h => ?_
  obtain ⟨G, io, F, β, I, h⟩ := h
  unfold mMv at h
  cases e : β[i]? with
  | none => rw [e] at h; exact h.elim
  | some s =>
    rw [e] at h
    cases s with
    | ex z0 => exact h.elim
    | gh _ => exact h.elim
    | un => exact h.elim
    | fz d =>
      obtain ⟨o, eo, v, rfl, r⟩ := I.sl i _ e
      exact ⟨v, eo, h v H F .refl I r⟩
    | own bo d =>
      cases bo with
      | some k => exact h.elim
      | none =>
        obtain ⟨v, eo, rr⟩ := I.take e
        exact ⟨v, eo, h v H F .refl (I.unset i) rr⟩
end B

set_option Elab.async false
set_option linter.all false
set_option maxRecDepth 100000
set_option maxHeartbeats 4000000
namespace B
open PySem PySem.Spec L2
/-! # what a run comes to: by what is wished for behind it -/
@[irreducible] def W {α : Type} (m : M α) (β : B.Env) (Q : α → B.Env → Prop) (E : Exn → B.Env → Prop) : Prop := match m β with
  | .ok a β' => Q a β'
  | .exc x β' => E x β'
  | .stuck => False
def optW {α : Type} (o : Option α) (Q : α → Prop) : Prop := match o with
  | some a => Q a
  | none => False
@[irreducible] def FW (x : FR) (Q : Rs → List D → Prop) (E : Exn → List D → Prop) : Prop := match x with
  | .ok r ios => Q r ios
  | .exc x ios => E x ios
  | .stuck => False
section
variable {α α' : Type} {m : M α} {β : B.Env} {Q : α → B.Env → Prop} {E : Exn → B.Env → Prop}
theorem W.mono {Q' : α → B.Env → Prop} {E' : Exn → B.Env → Prop} (h : W m β Q E) (hQ : ∀ a β, Q a β → Q' a β) (hE : ∀ x β, E x β → E' x β) : W m β Q' E' := by
  unfold W at h ⊢
  split at h
  · exact hQ _ _ h
  · exact hE _ _ h
  · exact h
theorem W.of_eq {a : α} {β' : B.Env} (e : m β = .ok a β') (h : Q a β') : W m β Q E := by
  unfold W
  rw [e]
  exact h
theorem W.eq (h : W m β Q E) (hE : ∀ x β, ¬ E x β) : ∃ a β', m β = .ok a β' ∧ Q a β' := by
  unfold W at h
  split at h
  · exact ⟨_, _, by assumption, h⟩
  · exact (hE _ _ h).elim
  · exact h.elim
theorem FW.mono {x : FR} {Q Q' : Rs → List D → Prop} {E E' : Exn → List D → Prop} (h : FW x Q E) (hQ : ∀ a b, Q a b → Q' a b) (hE : ∀ a b, E a b → E' a b) : FW x Q' E' := by
  unfold FW at h ⊢
  split at h
  · exact hQ _ _ h
  · exact hE _ _ h
  · exact h
theorem FW.of_eq {x : FR} {Q : Rs → List D → Prop} {E : Exn → List D → Prop} {r : Rs} {ios : List D} (e : x = .ok r ios) (h : Q r ios) : FW x Q E := by
  rw [e]
  with_unfolding_all exact h
theorem W_congr {Q' : α → B.Env → Prop} (h : ∀ a β1, Q a β1 ↔ Q' a β1) : W m β Q E ↔ W m β Q' E := by
  have e : Q = Q' := by
    funext a β1
    exact propext (h a β1)
  rw [e]
@[simp ↓] theorem optW_some {a : α} {P : α → Prop} : optW (some a) P ↔ P a := Iff.rfl
@[simp ↓] theorem optW_none {P : α → Prop} : optW none P ↔ False := Iff.rfl
theorem optW_ite {c : Prop} [Decidable c] {a : α} {P : α → Prop} : optW (if c then some a else none) P ↔ c ∧ P a := by
  by_cases h : c <;> simp [h, optW]
theorem optW_map {f : α → α'} {o : Option α} {P : α' → Prop} : optW (o.map f) P ↔ optW o fun a => P (f a) := by cases o <;> with_unfolding_all rfl
theorem optW_bind {f : α → Option α'} {o : Option α} {P : α' → Prop} : optW (o.bind f) P ↔ optW o fun a => optW (f a) P := by cases o <;> with_unfolding_all rfl
theorem optW_of {o : Option α} {P : α → Prop} {a : α} (e : o = some a) (h : P a) : optW o P := by rw [e]; exact h
@[simp ↓] theorem W_ret {a : α} : W (B.ret a) β Q E ↔ Q a β := by with_unfolding_all exact Iff.rfl
@[simp ↓] theorem W_stk : W (stk : M α) β Q E ↔ False := by with_unfolding_all exact Iff.rfl
@[simp ↓] theorem W_bnd {f : α → M α'} {Q : α' → B.Env → Prop} : W (bnd m f) β Q E ↔ W m β (fun a β1 => W (f a) β1 Q E) E := by
  unfold W bnd R.bnd
  cases m β <;> with_unfolding_all rfl
def nxW (f : Fl) (P P' : Prop) : Prop := match f with
  | .nx => P
  | _ => P'
@[simp ↓] theorem nxW_nx {P P' : Prop} : nxW .nx P P' ↔ P := Iff.rfl
@[simp ↓] theorem nxW_ret {r : Rs} {P P' : Prop} : nxW (.ret r) P P' ↔ P' := Iff.rfl
@[simp ↓] theorem nxW_brk {P P' : Prop} : nxW .brk P P' ↔ P' := Iff.rfl
@[simp ↓] theorem nxW_ct {P P' : Prop} : nxW .ct P P' ↔ P' := Iff.rfl
@[simp ↓] theorem W_seqF {m n : M Fl} {Q : Fl → B.Env → Prop} : W (seqF m n) β Q E ↔ W m β (fun f β1 => nxW f (W n β1 Q E) (Q f β1)) E := by
  unfold seqF
  exact W_bnd.trans (W_congr fun a β1 => by cases a <;> with_unfolding_all rfl)
@[simp ↓] theorem W_ifS {mt : M Bool} {a b : M Fl} {Q : Fl → B.Env → Prop} : W (mIfS mt a b) β Q E ↔ W mt β (fun k β1 => if k = true then W a β1 Q E else W b β1 Q E) E := by
  unfold mIfS
  refine W_bnd.trans (W_congr fun k β1 => ?_)
  cases k <;> with_unfolding_all rfl
@[simp ↓] theorem W_mIf {mt : M Bool} {a b : M Rs} {Q : Rs → B.Env → Prop} : W (mIf mt a b) β Q E ↔ W mt β (fun k β1 => if k = true then W a β1 Q E else W b β1 Q E) E := by
  unfold mIf
  refine W_bnd.trans (W_congr fun k β1 => ?_)
  cases k <;> with_unfolding_all rfl
def bW (r : Rs) (P : Bool → Prop) : Prop := match r with
  | .fz (.bl b) => P b
  | _ => False
@[simp ↓] theorem bW_bl {b : Bool} {P : Bool → Prop} : bW (.fz (.bl b)) P ↔ P b := Iff.rfl
@[simp ↓] theorem W_asB {me : M Rs} {Q : Bool → B.Env → Prop} : W (asB me) β Q E ↔ W me β (fun r β1 => bW r fun b => Q b β1) E := by
  unfold asB
  refine W_bnd.trans (W_congr fun r β1 => ?_)
  rcases r with d | d
  · cases d <;> with_unfolding_all rfl
  · with_unfolding_all rfl
@[simp ↓] theorem W_mTru {me : M Pl} {Q : Bool → B.Env → Prop} : W (mTru me) β Q E ↔ W me β (fun p β1 => optW (look β1 p) fun d => optW (truD d) fun b => Q b β1) E := by
  unfold mTru
  refine W_bnd.trans (W_congr fun p β1 => ?_)
  unfold W finT optW
  cases look β1 p with
  | none => with_unfolding_all rfl
  | some d => simp only [Option.bind_some]; cases truD d <;> with_unfolding_all rfl
@[simp ↓] theorem W_mAnd {m n : M Bool} {Q : Bool → B.Env → Prop} : W (mAnd m n) β Q E ↔ W m β (fun k β1 => if k = true then W n β1 Q E else Q false β1) E := by
  unfold mAnd
  refine W_bnd.trans (W_congr fun k β1 => ?_)
  cases k <;> with_unfolding_all rfl
@[simp ↓] theorem W_mOr {m n : M Bool} {Q : Bool → B.Env → Prop} : W (mOr m n) β Q E ↔ W m β (fun k β1 => if k = true then Q true β1 else W n β1 Q E) E := by
  unfold mOr
  refine W_bnd.trans (W_congr fun k β1 => ?_)
  cases k <;> with_unfolding_all rfl
@[simp ↓] theorem W_mNot {m : M Bool} {Q : Bool → B.Env → Prop} : W (mNot m) β Q E ↔ W m β (fun k β1 => Q (!k) β1) E := by
  unfold mNot
  rw [W_bnd]
  with_unfolding_all exact Iff.rfl
@[simp ↓] theorem W_mAndV {m n : M Rs} {Q : Rs → B.Env → Prop} : W (mAndV m n) β Q E ↔ W m β (fun r β1 => bW r fun k => if k = true then W n β1 Q E else Q (.fz (.bl false)) β1) E := by
  unfold mAndV
  refine W_bnd.trans (W_asB.trans (W_congr fun r β1 => ?_))
  rcases r with d | d
  · cases d with
    | bl k => cases k <;> with_unfolding_all rfl
    | _ => with_unfolding_all rfl
  · with_unfolding_all rfl
@[simp ↓] theorem W_mOrV {m n : M Rs} {Q : Rs → B.Env → Prop} : W (mOrV m n) β Q E ↔ W m β (fun r β1 => bW r fun k => if k = true then Q (.fz (.bl true)) β1 else W n β1 Q E) E := by
  unfold mOrV
  refine W_bnd.trans (W_asB.trans (W_congr fun r β1 => ?_))
  rcases r with d | d
  · cases d with
    | bl k => cases k <;> with_unfolding_all rfl
    | _ => with_unfolding_all rfl
  · with_unfolding_all rfl
@[simp ↓] theorem W_mNotV {m : M Rs} {Q : Rs → B.Env → Prop} : W (mNotV m) β Q E ↔ W m β (fun r β1 => bW r fun k => Q (.fz (.bl (!k))) β1) E := by
  unfold mNotV
  rw [W_bnd, W_asB]
  with_unfolding_all exact Iff.rfl
/-! names -/
def varW (s : Option Sl) (P : D → Prop) (P' : D → Prop) : Prop := match s with
  | some (.fz d) => P d
  | some (.own none d) => P' d
  | _ => False
@[simp ↓] theorem varW_fz {d : D} {P P' : D → Prop} : varW (some (.fz d)) P P' ↔ P d := Iff.rfl
@[simp ↓] theorem varW_own {d : D} {P P' : D → Prop} : varW (some (.own none d)) P P' ↔ P' d := Iff.rfl
@[simp ↓] theorem W_mVar {i : Nat} {Q : Rs → B.Env → Prop} : W (mVar i) β Q E ↔ varW β[i]? (fun d => Q (.fz d) β) (fun d => Q (.fz d) (β.set i (.fz d))) := by
  unfold W mVar varW
  rcases β[i]? with _ | _ | _ | _ | ⟨_ | _, _⟩ <;> with_unfolding_all rfl
@[simp ↓] theorem W_mMv {i : Nat} {Q : Rs → B.Env → Prop} : W (mMv i) β Q E ↔ varW β[i]? (fun d => Q (.fz d) β) (fun d => Q (.own d) (β.set i .un)) := by
  unfold W mMv varW
  rcases β[i]? with _ | _ | _ | _ | ⟨_ | _, _⟩ <;> with_unfolding_all rfl
@[simp ↓] theorem W_mRetVar {i : Nat} {Q : Fl → B.Env → Prop} : W (mRetVar i) β Q E ↔ varW β[i]? (fun d => Q (.ret (.fz d)) β) (fun d => Q (.ret (.own d)) (β.set i .un)) := by
  unfold W mRetVar varW
  rcases β[i]? with _ | _ | _ | _ | ⟨_ | _, _⟩ <;> with_unfolding_all rfl
def isSet : Option Sl → Prop
  | some (.fz _) => True
  | some (.own _ _) => True
  | _ => False
@[simp] theorem isSet_fz {d : D} : isSet (some (.fz d)) ↔ True := Iff.rfl
@[simp] theorem isSet_own {k : Option Nat} {d : D} : isSet (some (.own k d)) ↔ True := Iff.rfl
@[simp ↓] theorem W_mPl {i : Nat} {Q : Pl → B.Env → Prop} : W (mPl i) β Q E ↔ isSet β[i]? ∧ Q (.sl i) β := by
  unfold W mPl isSet
  rcases β[i]? with _ | _ | _ | _ | ⟨_, _⟩ <;> simp
@[simp ↓] theorem W_mC {d : D} {Q : Rs → B.Env → Prop} : W (mC d) β Q E ↔ Q (.fz d) β := by with_unfolding_all exact Iff.rfl
@[simp ↓] theorem W_mP {me : M Rs} {Q : Pl → B.Env → Prop} : W (mP me) β Q E ↔ W me β (fun r β1 => Q (.d r.d) β1) E := by
  unfold mP
  rw [W_bnd]
  with_unfolding_all exact Iff.rfl
@[simp] theorem Rs_d_fz {d : D} : (Rs.fz d).d = d := rfl
@[simp] theorem Rs_d_own {d : D} : (Rs.own d).d = d := rfl
@[simp] theorem look_d {d : D} : look β (.d d) = some d := rfl
def slD : Option Sl → Option D
  | some (.fz d) => some d
  | some (.own _ d) => some d
  | _ => none
@[simp] theorem slD_fz {d : D} : slD (some (.fz d)) = some d := rfl
@[simp] theorem slD_own {k : Option Nat} {d : D} : slD (some (.own k d)) = some d := rfl
@[simp] theorem look_sl {i : Nat} : look β (.sl i) = slD β[i]? := by
  show (match β[i]? with
    | some (.fz d) => some d
    | some (.own _ d) => some d
    | _ => none) = _
  generalize β[i]? = s
  rcases s with _ | _ | _ | _ | ⟨_, _⟩ <;> with_unfolding_all rfl
/-! operations -/
@[simp ↓] theorem W_fin2 {g : D → D → Option Rs} {p q : Pl} {Q : Rs → B.Env → Prop} : W (fin2 g p q) β Q E ↔ optW (look β p) fun d => optW (look β q) fun e => optW (g d e) fun r => Q r β := by
  unfold W fin2 optW
  cases look β p with
  | none => with_unfolding_all rfl
  | some d => cases look β q with
    | none => with_unfolding_all rfl
    | some e => simp only; cases g d e <;> with_unfolding_all rfl
@[simp ↓] theorem W_mOp {g : D → D → Option Rs} {ma mb : M Pl} {Q : Rs → B.Env → Prop} : W (mOp g ma mb) β Q E ↔ W ma β (fun p β1 => W mb β1 (fun q β2 => optW (look β2 p) fun d => optW (look β2 q) fun e => optW (g d e) fun r => Q r β2) E) E :=
  W_bnd.trans (W_congr fun p β1 => W_bnd.trans (W_congr fun q β2 => W_fin2))
@[simp ↓] theorem W_fin1 {g : D → Option Rs} {p : Pl} {Q : Rs → B.Env → Prop} : W (fin1 g p) β Q E ↔ optW (look β p) fun d => optW (g d) fun r => Q r β := by
  unfold W fin1 optW
  cases look β p with
  | none => with_unfolding_all rfl
  | some d => simp only [Option.bind_some]; cases g d <;> with_unfolding_all rfl
@[simp ↓] theorem W_mUn {g : D → Option Rs} {ma : M Pl} {Q : Rs → B.Env → Prop} : W (mUn g ma) β Q E ↔ W ma β (fun p β1 => W (fin1 g p) β1 Q E) E := by
  unfold mUn
  rw [W_bnd]
@[simp ↓] theorem W_mChain {g g' : D → D → Option Rs} {ma mb mc : M Pl} {Q : Rs → B.Env → Prop} : W (mChain g g' ma mb mc) β Q E ↔ W ma β (fun p β1 => W mb β1 (fun q β2 => W (fin2 g p q) β2 (fun r β3 => bW r fun k => if k = true then W mc β3 (fun r β4 => W (fin2 g' q r) β4 Q E) E else Q (.fz (.bl false)) β3) E) E) E := by
  unfold mChain
  refine W_bnd.trans (W_congr fun p β1 => ?_)
  refine W_bnd.trans (W_congr fun q β2 => ?_)
  refine W_bnd.trans (W_asB.trans (W_congr fun r β3 => ?_))
  rcases r with d | d
  · cases d with
    | bl k =>
      cases k
      · with_unfolding_all rfl
      · exact W_bnd
    | _ => with_unfolding_all rfl
  · with_unfolding_all rfl
@[simp ↓] theorem W_mCall {g : List D → Option Rs} {ma : M (List Pl)} {Q : Rs → B.Env → Prop} : W (mCall g ma) β Q E ↔ W ma β (fun ps β1 => optW (looks β1 ps) fun ds => optW (g ds) fun r => Q r β1) E := by
  unfold mCall
  refine W_bnd.trans (W_congr fun ps β1 => ?_)
  unfold W finA optW
  cases looks β1 ps with
  | none => with_unfolding_all rfl
  | some d => simp only [Option.bind_some]; cases g d <;> with_unfolding_all rfl
@[simp ↓] theorem W_mNil {Q : List Pl → B.Env → Prop} : W mNil β Q E ↔ Q [] β := by with_unfolding_all exact Iff.rfl
@[simp ↓] theorem W_mCons {ma : M Pl} {mr : M (List Pl)} {Q : List Pl → B.Env → Prop} : W (mCons ma mr) β Q E ↔ W ma β (fun p β1 => W mr β1 (fun ps β2 => Q (p :: ps) β2) E) E := by
  unfold mCons
  refine W_bnd.trans (W_congr fun p β1 => ?_)
  rw [W_bnd]
  with_unfolding_all rfl
@[simp] theorem looks_nil : looks β [] = some [] := rfl
@[simp] theorem looks_d {d : D} {ps : List Pl} : looks β (.d d :: ps) = (looks β ps).map (d :: ·) := by
  show (match look β (.d d), looks β ps with | some d, some ds => some (d :: ds) | _, _ => none) = _
  cases looks β ps <;> with_unfolding_all rfl
@[simp] theorem looks_sl {i : Nat} {ps : List Pl} : looks β (.sl i :: ps) = (slD β[i]?).bind fun d => (looks β ps).map (d :: ·) := by
  show (match look β (.sl i), looks β ps with | some d, some ds => some (d :: ds) | _, _ => none) = _
  rw [look_sl]
  cases slD β[i]? <;> cases looks β ps <;> with_unfolding_all rfl
@[simp] theorem allD_nil : allD [] = some [] := rfl
@[simp] theorem allD_d {d : D} {ps : List Pl} : allD (.d d :: ps) = (allD ps).map (d :: ·) := rfl
/-! statements -/
@[simp] theorem slOf_fz {d : D} : slOf (.fz d) = .fz d := rfl
@[simp] theorem slOf_own {d : D} : slOf (.own d) = .own none d := rfl
@[simp ↓] theorem W_mSet {i : Nat} {me : M Rs} {Q : Fl → B.Env → Prop} : W (mSet i me) β Q E ↔ W me β (fun r β1 => Q .nx (β1.set i (slOf r))) E := by
  unfold mSet
  rw [W_bnd]
  with_unfolding_all exact Iff.rfl
@[simp ↓] theorem W_mExpr {me : M Rs} {Q : Fl → B.Env → Prop} : W (mExpr me) β Q E ↔ W me β (fun r β1 => Q .nx β1) E := by
  unfold mExpr
  rw [W_bnd]
  with_unfolding_all exact Iff.rfl
@[simp ↓] theorem W_mRet {me : M Rs} {Q : Fl → B.Env → Prop} : W (mRet me) β Q E ↔ W me β (fun r β1 => Q (.ret r) β1) E := by
  unfold mRet
  rw [W_bnd]
  with_unfolding_all exact Iff.rfl
@[simp ↓] theorem W_mTup {ma : M (List Pl)} {Q : Rs → B.Env → Prop} : W (mTup ma) β Q E ↔ W ma β (fun ps β1 => optW (allD ps) fun ds => ds.length ≤ sizeLine ∧ Q (.fz (.nd .tup ds)) β1) E := by
  unfold mTup
  refine W_bnd.trans (W_congr fun ps β1 => ?_)
  cases allD ps with
  | none => with_unfolding_all rfl
  | some ds =>
    simp only [optW_some]
    by_cases h : ds.length ≤ sizeLine
    · rw [if_pos h]; simp [h]
    · rw [if_neg h]; simp [h]
@[simp ↓] theorem W_mLst {ma : M (List Pl)} {Q : Rs → B.Env → Prop} : W (mLst ma) β Q E ↔ W ma β (fun ps β1 => optW (allD ps) fun ds => ds.length ≤ sizeLine ∧ Q (.own (.nd .lst ds)) β1) E := by
  unfold mLst
  refine W_bnd.trans (W_congr fun ps β1 => ?_)
  cases allD ps with
  | none => with_unfolding_all rfl
  | some ds =>
    simp only [optW_some]
    by_cases h : ds.length ≤ sizeLine
    · rw [if_pos h]; simp [h]
    · rw [if_neg h]; simp [h]
@[simp ↓] theorem W_mNoPart {Q : Option Int → B.Env → Prop} : W mNoPart β Q E ↔ Q none β := by with_unfolding_all exact Iff.rfl
def iW (d : D) (P : Int → Prop) : Prop := match d with
  | .int i => P i
  | _ => False
@[simp ↓] theorem iW_int {i : Int} {P : Int → Prop} : iW (.int i) P ↔ P i := Iff.rfl
@[simp ↓] theorem W_mSl {ma : M Pl} {ml mh : M (Option Int)} {Q : Rs → B.Env → Prop} : W (mSl ma ml mh) β Q E ↔ W ma β (fun p β1 => W ml β1 (fun lo β2 => W mh β2 (fun hi β3 => W (fin1 (gSl lo hi) p) β3 Q E) E) E) E := by
  unfold mSl
  refine W_bnd.trans (W_congr fun p β1 => ?_)
  refine W_bnd.trans (W_congr fun q β2 => ?_)
  rw [W_bnd]
@[simp ↓] theorem W_mMut {T : String} {i : Nat} {g : D → List D → Option (D × D)} {ma : M (List Pl)} {Q : Rs → B.Env → Prop} : W (mMut T i g ma) β Q E ↔ W (ownTy T i) β (fun _ β1 => W ma β1 (fun ps β2 => W (finM i g ps) β2 Q E) E) E := by
  unfold mMut
  refine W_bnd.trans (W_congr fun p β1 => ?_)
  rw [W_bnd]
def ownW (s : Option Sl) (P : Option Nat → D → Prop) : Prop := match s with
  | some (.own k d) => P k d
  | _ => False
@[simp ↓] theorem ownW_own {k : Option Nat} {d : D} {P : Option Nat → D → Prop} : ownW (some (.own k d)) P ↔ P k d := Iff.rfl
@[simp ↓] theorem W_ownTy {T : String} {i : Nat} {Q : Unit → B.Env → Prop} : W (ownTy T i) β Q E ↔ ownW β[i]? fun _ d => isTy T d = true ∧ Q () β := by
  unfold W ownTy ownW
  rcases β[i]? with _ | _ | _ | _ | ⟨_, d⟩ | _
  · with_unfolding_all rfl
  · with_unfolding_all rfl
  · with_unfolding_all rfl
  · with_unfolding_all rfl
  · simp only
    by_cases h : isTy T d = true
    · rw [if_pos h]; simp [h]
    · rw [if_neg h]; simp [h]
  · with_unfolding_all rfl
@[simp ↓] theorem W_finM {i : Nat} {g : D → List D → Option (D × D)} {ps : List Pl} {Q : Rs → B.Env → Prop} : W (finM i g ps) β Q E ↔ ownW β[i]? fun k d => optW (allD ps) fun ds => optW (g d ds) fun q => Q (.fz q.1) (β.set i (.own k q.2)) := by
  unfold W finM ownW
  rcases β[i]? with _ | _ | _ | _ | ⟨k, d⟩ | _
  · with_unfolding_all rfl
  · with_unfolding_all rfl
  · with_unfolding_all rfl
  · with_unfolding_all rfl
  · simp only
    cases allD ps with
    | none => with_unfolding_all rfl
    | some ds =>
      simp only [optW_some]
      cases g d ds <;> with_unfolding_all rfl
  · with_unfolding_all rfl
@[simp] theorem isTy_lst {ds : List D} : isTy "list" (.nd .lst ds) = true := rfl
def ixW {ds : List D} (o : Option Nat) (P : Nat → Prop) : Prop := optW o P
@[simp ↓] theorem W_mSetIx {i : Nat} {me mk : M Rs} {Q : Fl → B.Env → Prop} : W (mSetIx i me mk) β Q E ↔ W me β (fun r β1 => isSet β1[i]? ∧ W mk β1 (fun kr β2 => W (setIx i r kr.d) β2 Q E) E) E := by
  unfold mSetIx
  refine W_bnd.trans (W_congr fun r β1 => ?_)
  rw [W_bnd, W_mPl, W_bnd]
def lstW (d : D) (P : List D → Prop) : Prop := match d with
  | .nd .lst ds => P ds
  | _ => False
@[simp ↓] theorem lstW_lst {ds : List D} {P : List D → Prop} : lstW (.nd .lst ds) P ↔ P ds := Iff.rfl
@[simp ↓] theorem W_setIx {i : Nat} {v : Rs} {kd : D} {Q : Fl → B.Env → Prop} : W (setIx i v kd) β Q E ↔ ownW β[i]? fun b d => lstW d fun ds => iW kd fun k => optW (ixN ds.length k) fun j => Q .nx (β.set i (.own b (.nd .lst (ds.set j v.d)))) := by
  unfold W setIx ownW
  rcases β[i]? with _ | _ | _ | _ | ⟨k, d⟩ | _
  · with_unfolding_all rfl
  · with_unfolding_all rfl
  · with_unfolding_all rfl
  · with_unfolding_all rfl
  · rcases d with _ | _ | _ | _ | ⟨_ | _ | _ | _ | _, ds⟩ <;> cases kd <;> try rfl
    simp only [lstW_lst, iW_int]
    cases ixN ds.length _ <;> with_unfolding_all rfl
  · with_unfolding_all rfl
@[simp ↓] theorem W_mAug {i : Nat} {f : Int → Int → Int} {me : M Rs} {Q : Fl → B.Env → Prop} : W (mAug i f me) β Q E ↔ varW β[i]? (fun d => iW d fun a => W me β (fun r β1 => iW r.d fun b => Q .nx (β1.set i (.fz (.int (f a b))))) E) (fun _ => False) := by
  have key : ∀ s : Option Sl, β[i]? = s → (W (mAug i f me) β Q E ↔ varW s (fun d => iW d fun a => W me β (fun r β1 => iW r.d fun b => Q .nx (β1.set i (.fz (.int (f a b))))) E) (fun _ => False)) := fun s e => by
    unfold W mAug
    rw [e]
    rcases s with _ | _ | d | _ | ⟨_ | _, d⟩ | _
    · with_unfolding_all exact Iff.rfl
    · with_unfolding_all exact Iff.rfl
    · cases d with
      | int a =>
        have q := (W_bnd (m := me) (β := β) (Q := Q) (E := E) (f := fun r => match r.d with | .int b => bnd (setR i (.fz (.int (f a b)))) fun _ => ret .nx | _ => stk)).trans (W_congr (Q' := fun r β1 => iW r.d fun b => Q .nx (β1.set i (.fz (.int (f a b))))) fun r β1 => by cases r.d <;> with_unfolding_all rfl)
        with_unfolding_all exact q
      | _ => with_unfolding_all exact Iff.rfl
    · with_unfolding_all exact Iff.rfl
    · with_unfolding_all exact Iff.rfl
    · with_unfolding_all exact Iff.rfl
    · with_unfolding_all exact Iff.rfl
  exact key _ rfl
@[simp ↓] theorem W_mAsg {g : D → M Unit} {me : M Rs} {Q : Fl → B.Env → Prop} : W (mAsg g me) β Q E ↔ W me β (fun r β1 => W (g r.d) β1 (fun _ β2 => Q .nx β2) (fun _ _ => False)) E := by
  unfold mAsg
  refine W_bnd.trans (W_congr fun r β1 => ?_)
  unfold W
  simp only []
  generalize g r.d β1 = x
  cases x <;> with_unfolding_all exact Iff.rfl
@[simp ↓] theorem W_gSet {i : Nat} {d : D} {Q : Unit → B.Env → Prop} : W (gSet i d) β Q E ↔ Q () (β.set i (.fz d)) := by with_unfolding_all exact Iff.rfl
@[simp ↓] theorem W_gsNil {Q : Unit → B.Env → Prop} : W (gsNil []) β Q E ↔ Q () β := by with_unfolding_all exact Iff.rfl
@[simp ↓] theorem W_gsCons {g : D → M Unit} {h : List D → M Unit} {d : D} {ds : List D} {Q : Unit → B.Env → Prop} : W (gsCons g h (d :: ds)) β Q E ↔ W (g d) β (fun _ β1 => W (h ds) β1 Q E) E := by
  show W (bnd (g d) fun _ => h ds) β Q E ↔ _
  rw [W_bnd]
@[simp ↓] theorem W_gUnp {n : Nat} {g : List D → M Unit} {ds : List D} {Q : Unit → B.Env → Prop} : W (gUnp n g (.nd .tup ds)) β Q E ↔ ds.length = n ∧ W (g ds) β Q E := by
  show W (if ds.length = n then g ds else stk) β Q E ↔ _
  by_cases h : ds.length = n
  · rw [if_pos h]; simp [h]
  · rw [if_neg h]; simp [h]
/-! calls -/
@[simp ↓] theorem W_mCallF {ks : List Bool} {f : List D → FR} {ma : M (List Pl)} {Q : Rs → B.Env → Prop} : W (mCallF ks f ma) β Q E ↔ W ma β (fun ps β1 => W (callF ks f ps) β1 Q E) E := by
  unfold mCallF
  rw [W_bnd]
@[simp ↓] theorem W_mCallD {ks : List Bool} {f : List D → FR} {dd : List D} {ma : M (List Pl)} {Q : Rs → B.Env → Prop} : W (mCallD ks f dd ma) β Q E ↔ W ma β (fun ps β1 => W (callF ks f (ps ++ dd.map Pl.d)) β1 Q E) E := by
  unfold mCallD
  rw [W_bnd]
@[simp ↓] theorem W_mCallK {ks : List Bool} {f : List D → FR} {n m : Nat} {gP : List Pl → List Pl → List Pl} {ma mk : M (List Pl)} {Q : Rs → B.Env → Prop} : W (mCallK ks f n m gP ma mk) β Q E ↔ W ma β (fun ps β1 => W mk β1 (fun qs β2 => (ps.length = n ∧ qs.length = m) ∧ W (callF ks f (gP ps qs)) β2 Q E) E) E := by
  unfold mCallK
  refine W_bnd.trans (W_congr fun ps β1 => ?_)
  refine W_bnd.trans (W_congr fun qs β2 => ?_)
  by_cases h : ps.length = n ∧ qs.length = m
  · rw [if_pos h]; simp [h]
  · rw [if_neg h]; simp [h]
@[simp ↓] theorem W_callF {ks : List Bool} {f : List D → FR} {ps : List Pl} {Q : Rs → B.Env → Prop} : W (callF ks f ps) β Q E ↔ optW (resA β ks ps) fun q => (q.2.1.Nodup ∧ ∀ j ∈ q.2.2, j ∉ q.2.1) ∧
    FW (f q.1) (fun r ios => (ios.length = q.2.1.length ∧ (q.2.2 = [] ∨ (immR r = true ∧ ios.all immK = true))) ∧ Q r (putIo β q.2.1 ios)) (fun x ios => (ios.length = q.2.1.length ∧ (q.2.2 = [] ∨ (immX x = true ∧ ios.all immK = true))) ∧ E x (putIo β q.2.1 ios)) := by
  unfold W callF
  cases resA β ks ps with
  | none => with_unfolding_all rfl
  | some q =>
    obtain ⟨ds, is, js⟩ := q
    simp only [optW_some]
    by_cases h : is.Nodup ∧ ∀ j ∈ js, j ∉ is
    · rw [if_pos h]
      cases f ds with
      | stuck => exact ⟨fun h => h.elim, fun h => by have h := h.2; unfold FW at h; exact h⟩
      | ok r ios =>
        unfold FW
        simp only
        by_cases h2 : ios.length = is.length ∧ (js = [] ∨ (immR r = true ∧ ios.all immK = true))
        · rw [if_pos h2]
          exact ⟨fun q => ⟨h, h2, q⟩, fun q => q.2.2⟩
        · rw [if_neg h2]
          exact ⟨fun q => q.elim, fun q => h2 q.2.1⟩
      | exc x ios =>
        unfold FW
        simp only
        by_cases h2 : ios.length = is.length ∧ (js = [] ∨ (immX x = true ∧ ios.all immK = true))
        · rw [if_pos h2]
          exact ⟨fun q => ⟨h, h2, q⟩, fun q => q.2.2⟩
        · rw [if_neg h2]
          exact ⟨fun q => q.elim, fun q => h2 q.2.1⟩
    · rw [if_neg h]
      exact ⟨fun h => h.elim, fun h' => h h'.1⟩
@[simp] theorem resA_nil : resA β [] [] = some ([], [], []) := rfl
@[simp] theorem resA_d {d : D} {ks : List Bool} {ps : List Pl} : resA β (false :: ks) (.d d :: ps) = (resA β ks ps).map (fun r : List D × List Nat × List Nat => (d :: r.1, r.2.1, r.2.2)) := rfl
def slRes (i : Nat) (s : Option Sl) : Option (D × List Nat) := match s with
  | some (.fz d) => some (d, [])
  | some (.own _ d) => some (d, [i])
  | _ => none
@[simp] theorem slRes_fz {i : Nat} {d : D} : slRes i (some (.fz d)) = some (d, []) := rfl
@[simp] theorem slRes_own {i : Nat} {k : Option Nat} {d : D} : slRes i (some (.own k d)) = some (d, [i]) := rfl
@[simp] theorem resA_sl {i : Nat} {ks : List Bool} {ps : List Pl} : resA β (false :: ks) (.sl i :: ps) = (slRes i β[i]?).bind fun q => (resA β ks ps).map (fun r : List D × List Nat × List Nat => (q.1 :: r.1, r.2.1, q.2 ++ r.2.2)) := by
  show (match β[i]? with
    | some (.fz d) => (resA β ks ps).map (fun r : List D × List Nat × List Nat => (d :: r.1, r.2.1, r.2.2))
    | some (.own _ d) => (resA β ks ps).map (fun r : List D × List Nat × List Nat => (d :: r.1, r.2.1, i :: r.2.2))
    | _ => none) = _
  rcases β[i]? with _ | _ | _ | _ | ⟨_, _⟩ <;> with_unfolding_all rfl
def slIo (s : Option Sl) : Option D := match s with
  | some (.own _ d) => some d
  | _ => none
@[simp] theorem slIo_own {k : Option Nat} {d : D} : slIo (some (.own k d)) = some d := rfl
@[simp] theorem resA_io {i : Nat} {ks : List Bool} {ps : List Pl} : resA β (true :: ks) (.sl i :: ps) = (slIo β[i]?).bind fun d => (resA β ks ps).map (fun r : List D × List Nat × List Nat => (d :: r.1, i :: r.2.1, r.2.2)) := by
  show (match β[i]? with
    | some (.own _ d) => (resA β ks ps).map (fun r : List D × List Nat × List Nat => (d :: r.1, i :: r.2.1, r.2.2))
    | _ => none) = _
  rcases β[i]? with _ | _ | _ | _ | ⟨_, _⟩ <;> with_unfolding_all rfl
@[simp] theorem putIo_nil {ds : List D} : putIo β [] ds = β := by cases ds <;> with_unfolding_all rfl
def slPut (β : B.Env) (i : Nat) (d : D) : Option Sl → B.Env
  | some (.own b _) => β.set i (.own b d)
  | _ => β
@[simp] theorem slPut_own {i : Nat} {d d' : D} {b : Option Nat} : slPut β i d (some (.own b d')) = β.set i (.own b d) := rfl
@[simp] theorem putIo_cons {i : Nat} {is : List Nat} {d : D} {ds : List D} : putIo β (i :: is) (d :: ds) = putIo (slPut β i d β[i]?) is ds := by
  show putIo (match β[i]? with
    | some (.own b _) => β.set i (.own b d)
    | _ => β) is ds = _
  rcases β[i]? with _ | _ | _ | _ | ⟨_, _⟩ <;> with_unfolding_all rfl
end
/-! defs -/
def retW (ks : List Bool) (Q : Rs → List D → Prop) (f : Fl) (β : B.Env) : Prop := match f with
  | .ret r => optW (endIo ks 0 β) (Q r)
  | .nx => optW (endIo ks 0 β) (Q (.fz .non))
  | _ => False
@[simp ↓] theorem retW_ret {ks : List Bool} {Q : Rs → List D → Prop} {r : Rs} {β : B.Env} : retW ks Q (.ret r) β ↔ optW (endIo ks 0 β) (Q r) := Iff.rfl
@[simp ↓] theorem retW_nx {ks : List Bool} {Q : Rs → List D → Prop} {β : B.Env} : retW ks Q .nx β ↔ optW (endIo ks 0 β) (Q (.fz .non)) := Iff.rfl
theorem FW_run {ks : List Bool} {n : Nat} {m : M Fl} {ds : List D} {Q : Rs → List D → Prop} {E : Exn → List D → Prop} : FW (runB ks n m ds) Q E ↔ W m (start0 ks n ds) (retW ks Q) (fun x β => optW (endIo ks 0 β) (E x)) := by
  unfold FW runB finF W retW
  cases m (start0 ks n ds) with
  | stuck => with_unfolding_all rfl
  | ok f β => cases f <;> first | with_unfolding_all rfl | (simp only; cases endIo ks 0 β <;> with_unfolding_all rfl)
  | exc x β => simp only; cases endIo ks 0 β <;> with_unfolding_all rfl
@[simp] theorem endIo_nil {j : Nat} {β : B.Env} : endIo [] j β = some [] := by cases β <;> with_unfolding_all rfl
@[simp] theorem endIo_f {ks : List Bool} {j : Nat} {s : Sl} {β : B.Env} : endIo (false :: ks) j (s :: β) = endIo ks j β := by cases s <;> with_unfolding_all rfl
@[simp] theorem endIo_t {ks : List Bool} {j : Nat} {d : D} {β : B.Env} : endIo (true :: ks) j (.own (some j) d :: β) = (endIo ks (j + 1) β).map (d :: ·) := by
  show (if j = j then _ else none) = _
  rw [if_pos rfl]
end B

set_option Elab.async false
set_option linter.all false
set_option maxRecDepth 100000
set_option maxHeartbeats 4000000
namespace B
open PySem PySem.Spec L2
/-! ## operations on data -/
def mulOk (i j : Int) : Prop := cMul i j = true ∨ cMulW i j = true
def divOk (j : Int) : Prop := cDiv 0 j = true
def powOk (i j : Int) : Prop := cPow i j = true
theorem small_of {i : Int} (h : -(2 ^ 64) < i) (h2 : i < 2 ^ 64) : smallI i = true := decide_eq_true ⟨h, h2⟩
theorem mulOk_l {i j : Int} (h : -(2 ^ 64) < i) (h2 : i < 2 ^ 64) : mulOk i j := .inl (by unfold cMul; rw [small_of h h2]; rfl)
theorem mulOk_r {i j : Int} (h : -(2 ^ 64) < j) (h2 : j < 2 ^ 64) : mulOk i j := .inl (by unfold cMul; rw [small_of h h2, Bool.or_true])
theorem log2_lt {n k : Nat} (h : n < 2 ^ k) (hk : 0 < k) : n.log2 < k := by
  by_cases hn : n = 0
  · subst hn; simpa using hk
  · exact (Nat.log2_lt hn).mpr h
theorem divOk_of {j : Int} (h : 0 < j) (h2 : j < 2 ^ 128) : divOk j := by
  unfold divOk cDiv
  rw [decide_eq_true_eq]
  refine ⟨h, ?_⟩
  have : j.natAbs < 2 ^ 128 := by omega
  have := log2_lt this (by decide)
  omega
theorem powOk_of {i j : Int} (h : 0 ≤ j) (h2 : j ≤ 1000000) (h3 : i.natAbs < 2 ^ 64) : powOk i j := decide_eq_true ⟨h, h2, h3⟩
section
variable {i j : Int} {P : Rs → Prop}
@[simp ↓] theorem w_add : optW (gAdd (.int i) (.int j)) P ↔ P (.fz (.int (i + j))) := Iff.rfl
@[simp ↓] theorem w_sub : optW (gSub (.int i) (.int j)) P ↔ P (.fz (.int (i - j))) := Iff.rfl
@[simp ↓] theorem w_mul : optW (gMul (.int i) (.int j)) P ↔ mulOk i j ∧ P (.fz (.int (i * j))) := by
  show optW (if cMul i j = true then some (.fz (.int (i * j))) else if cMulW i j = true then some (.fz (.int (i * j))) else none) P ↔ _
  unfold mulOk
  by_cases h : cMul i j = true
  · rw [if_pos h]; simp [h]
  · rw [if_neg h]
    by_cases h2 : cMulW i j = true
    · rw [if_pos h2]; simp [h2]
    · rw [if_neg h2]; simp [h, h2]
theorem w_gIc {C : Int → Int → Bool} {f : Int → Int → Int} : optW (gIc C f (.int i) (.int j)) P ↔ C i j = true ∧ P (.fz (.int (f i j))) := by
  show optW (if C i j = true then some (.fz (.int (f i j))) else none) P ↔ _
  exact optW_ite
@[simp ↓] theorem w_fdiv : optW (gFdiv (.int i) (.int j)) P ↔ divOk j ∧ P (.fz (.int (i / j))) := w_gIc
@[simp ↓] theorem w_mod : optW (gMod (.int i) (.int j)) P ↔ 0 < j ∧ P (.fz (.int (i % j))) := by
  unfold gMod
  rw [w_gIc, decide_eq_true_eq]
@[simp ↓] theorem w_pow : optW (gPow (.int i) (.int j)) P ↔ powOk i j ∧ P (.fz (.int (i ^ j.toNat))) := w_gIc
@[simp ↓] theorem w_shl : optW (gShl (.int i) (.int j)) P ↔ powOk i j ∧ P (.fz (.int (i * 2 ^ j.toNat))) := w_gIc
@[simp ↓] theorem w_lt : optW (gLt (.int i) (.int j)) P ↔ P (.fz (.bl (decide (i < j)))) := Iff.rfl
@[simp ↓] theorem w_le : optW (gLe (.int i) (.int j)) P ↔ P (.fz (.bl (decide (i ≤ j)))) := Iff.rfl
@[simp ↓] theorem w_gt : optW (gGt (.int i) (.int j)) P ↔ P (.fz (.bl (decide (j < i)))) := Iff.rfl
@[simp ↓] theorem w_ge : optW (gGe (.int i) (.int j)) P ↔ P (.fz (.bl (decide (j ≤ i)))) := Iff.rfl
theorem shp_int : shp (.int i) = true := rfl
theorem eqv_int : eqv (.int i) (.int j) = decide (i = j) := by
  show PyData.eqv (.int i) (.int j) = _
  unfold PyData.eqv
  by_cases h : i = j <;> simp [h]
@[simp ↓] theorem w_eq : optW (gEq (.int i) (.int j)) P ↔ P (.fz (.bl (decide (i = j)))) := by
  unfold gEq
  rw [if_pos ⟨shp_int, shp_int⟩, eqv_int]
  with_unfolding_all exact Iff.rfl
@[simp ↓] theorem w_ne : optW (gNe (.int i) (.int j)) P ↔ P (.fz (.bl (!decide (i = j)))) := by
  unfold gNe
  rw [if_pos ⟨shp_int, shp_int⟩, eqv_int]
  with_unfolding_all exact Iff.rfl
@[simp ↓] theorem w_neg : optW (gNeg (.int i)) P ↔ P (.fz (.int (-i))) := Iff.rfl
@[simp ↓] theorem w_int : optW (gInt [.int i]) P ↔ P (.fz (.int i)) := Iff.rfl
@[simp ↓] theorem w_intB {b : Bool} : optW (gInt [.bl b]) P ↔ P (.fz (.int (if b then 1 else 0))) := Iff.rfl
@[simp ↓] theorem w_max2 : optW (gMax2 [.int i, .int j]) P ↔ P (.fz (.int (if j > i then j else i))) := Iff.rfl
@[simp ↓] theorem w_min2 : optW (gMin2 [.int i, .int j]) P ↔ P (.fz (.int (if j < i then j else i))) := Iff.rfl
end
section
variable {ds es : List D} {P : Rs → Prop} {i : Int}
theorem ixN_of {n : Nat} (h : 0 ≤ i) (h2 : i < n) : ixN n i = some i.toNat := by unfold ixN; rw [if_pos h, if_pos h2]
theorem ixN_neg {n : Nat} (h : i < 0) (h2 : 0 ≤ i + n) : ixN n i = some (i + n).toNat := by
  unfold ixN
  rw [if_neg (by omega)]
  first
    | rw [if_pos (by omega)]
    | simp [h2]
theorem atI_of {α : Type} {l : List α} (h : 0 ≤ i) (h2 : i < l.length) : atI l i = l[i.toNat]? := by unfold atI; rw [ixN_of h h2]; rfl
theorem atI_neg {α : Type} {l : List α} (h : i < 0) (h2 : 0 ≤ i + l.length) : atI l i = l[(i + l.length).toNat]? := by unfold atI; rw [ixN_neg h h2]; rfl
theorem atI_nat' {α : Type} {l : List α} (k : Nat) : atI l (k : Int) = l[k]? := by
  by_cases h : k < l.length
  · rw [atI_of (by omega) (by omega)]; simp
  · unfold atI ixN
    rw [if_pos (by omega), if_neg (by omega), List.getElem?_eq_none (by omega)]
    with_unfolding_all rfl
@[simp] theorem atI_0 {α : Type} {l : List α} : atI l 0 = l[0]? := atI_nat' 0
@[simp] theorem atI_1 {α : Type} {l : List α} : atI l 1 = l[1]? := atI_nat' 1
@[simp] theorem atI_2 {α : Type} {l : List α} : atI l 2 = l[2]? := atI_nat' 2
@[simp ↓] theorem w_ixL : optW (gIx (.nd .lst ds) (.int i)) P ↔ optW (atI ds i) fun d => P (.fz d) := optW_map
@[simp ↓] theorem w_ixS : optW (gIx (.nd .scr ds) (.int i)) P ↔ optW (atI ds i) fun d => P (.fz d) := optW_map
@[simp ↓] theorem w_ixT : optW (gIx (.nd .tup ds) (.int i)) P ↔ optW (atI ds i) fun d => P (.fz d) := optW_map
@[simp ↓] theorem w_lenL : optW (gLen [.nd .lst ds]) P ↔ P (.fz (.int ds.length)) := Iff.rfl
@[simp ↓] theorem w_lenS : optW (gLen [.nd .scr ds]) P ↔ P (.fz (.int ds.length)) := Iff.rfl
@[simp ↓] theorem w_lenT : optW (gLen [.nd .tup ds]) P ↔ P (.fz (.int ds.length)) := Iff.rfl
@[simp ↓] theorem w_listL : optW (gList [.nd .lst ds]) P ↔ P (.own (.nd .lst ds)) := Iff.rfl
@[simp ↓] theorem w_listT : optW (gList [.nd .tup ds]) P ↔ P (.own (.nd .lst ds)) := Iff.rfl
@[simp ↓] theorem w_tupL : optW (gTuple [.nd .lst ds]) P ↔ P (.fz (.nd .tup ds)) := Iff.rfl
@[simp ↓] theorem w_cat : optW (gAdd (.nd .lst ds) (.nd .lst es)) P ↔ ds.length + es.length ≤ sizeLine ∧ P (.own (.nd .lst (ds ++ es))) := optW_ite
@[simp ↓] theorem w_catT : optW (gAdd (.nd .tup ds) (.nd .tup es)) P ↔ ds.length + es.length ≤ sizeLine ∧ P (.fz (.nd .tup (ds ++ es))) := optW_ite
@[simp ↓] theorem w_revL : optW (gRevL (.nd .lst ds)) P ↔ P (.own (.nd .lst ds.reverse)) := Iff.rfl
@[simp ↓] theorem w_slL {lo hi : Option Int} : optW (gSl lo hi (.nd .lst ds)) P ↔ P (.own (.nd .lst (cut ds lo hi))) := Iff.rfl
@[simp ↓] theorem w_slS {lo hi : Option Int} : optW (gSl lo hi (.nd .scr ds)) P ↔ P (.own (.nd .lst (cut ds lo hi))) := Iff.rfl
@[simp ↓] theorem w_slT {lo hi : Option Int} : optW (gSl lo hi (.nd .tup ds)) P ↔ P (.fz (.nd .tup (cut ds lo hi))) := Iff.rfl
@[simp ↓] theorem w_append {d : D} {P : D × D → Prop} : optW (gAppend (.nd .lst ds) [d]) P ↔ ds.length < sizeLine ∧ P (.non, .nd .lst (ds ++ [d])) := optW_ite
@[simp ↓] theorem w_extend {P : D × D → Prop} : optW (gExtend (.nd .lst ds) [.nd .lst es]) P ↔ ds.length + es.length ≤ sizeLine ∧ P (.non, .nd .lst (ds ++ es)) := optW_ite
@[simp ↓] theorem w_reverse {P : D × D → Prop} : optW (gReverse (.nd .lst ds) []) P ↔ P (.non, .nd .lst ds.reverse) := Iff.rfl
theorem w_isi {T : String} {d : D} {b : Bool} (h : isiD T d = some b) : optW (gIsi T d) P ↔ P (.fz (.bl b)) := by
  unfold gIsi
  rw [h]
  with_unfolding_all exact Iff.rfl
@[simp ↓] theorem w_truB {b : Bool} {P : Bool → Prop} : optW (truD (.bl b)) P ↔ P b := Iff.rfl
theorem mPart_of {α : Type} {me : M Rs} {β : B.Env} {Q : Option Int → B.Env → Prop} {E : Exn → B.Env → Prop} : W (mPart me) β Q E ↔ W me β (fun r β1 => match r with
    | .fz (.int i) => Q (some i) β1
    | _ => False) E := by
  unfold mPart
  refine W_bnd.trans (W_congr fun r β1 => ?_)
  rcases r with d | d
  · cases d <;> with_unfolding_all exact Iff.rfl
  · with_unfolding_all exact Iff.rfl
def fiW (r : Rs) (P : Int → Prop) : Prop := match r with
  | .fz (.int i) => P i
  | _ => False
@[simp ↓] theorem fiW_int {i : Int} {P : Int → Prop} : fiW (.fz (.int i)) P ↔ P i := Iff.rfl
@[simp ↓] theorem W_mPart {me : M Rs} {β : B.Env} {Q : Option Int → B.Env → Prop} {E : Exn → B.Env → Prop} : W (mPart me) β Q E ↔ W me β (fun r β1 => fiW r fun i => Q (some i) β1) E := by
  unfold mPart
  refine W_bnd.trans (W_congr fun r β1 => ?_)
  rcases r with d | d
  · cases d <;> with_unfolding_all exact Iff.rfl
  · with_unfolding_all exact Iff.rfl
end
/-! ## what is walked -/
section
variable {β : B.Env} {E : Exn → B.Env → Prop} {Q : List D → B.Env → Prop}
@[simp ↓] theorem W_mIter {me : M Rs} : W (mIter me) β Q E ↔ W me β (fun r β1 => optW (items r.d) fun ds => Q ds β1) E := by
  unfold mIter
  refine W_bnd.trans (W_congr fun r β1 => ?_)
  unfold liftO W
  cases items r.d <;> with_unfolding_all exact Iff.rfl
@[simp] theorem items_l {ds : List D} : items (.nd .lst ds) = some ds := rfl
@[simp] theorem items_s {ds : List D} : items (.nd .scr ds) = some ds := rfl
@[simp] theorem items_t {ds : List D} : items (.nd .tup ds) = some ds := rfl
def r1W (l : List D) (P : Int → Prop) : Prop := match l with
  | [.int j] => P j
  | _ => False
def r2W (l : List D) (P : Int → Int → Prop) : Prop := match l with
  | [.int i, .int j] => P i j
  | _ => False
@[simp ↓] theorem r1W_int {j : Int} {P : Int → Prop} : r1W [.int j] P ↔ P j := Iff.rfl
@[simp ↓] theorem r2W_int {i j : Int} {P : Int → Int → Prop} : r2W [.int i, .int j] P ↔ P i j := Iff.rfl
theorem inR_iff {i : Int} : inR i = true ↔ -(2 ^ 62) ≤ i ∧ i < 2 ^ 62 := by unfold inR; rw [decide_eq_true_eq]
@[simp ↓] theorem W_rngA {ps : List Pl} : W (rngA ps) β Q E ↔ optW (looks β ps) fun l => r1W l fun j => inR j = true ∧ Q (rng 0 j) β := by
  unfold W rngA
  cases looks β ps with
  | none => with_unfolding_all exact Iff.rfl
  | some l =>
    rcases l with _ | ⟨d, _ | ⟨d2, l⟩⟩
    · with_unfolding_all exact Iff.rfl
    · cases d with
      | int j =>
        simp only [optW_some, r1W_int]
        by_cases h : inR j = true
        · rw [if_pos h]; simp [h]
        · rw [if_neg h]; simp [h]
      | _ => with_unfolding_all exact Iff.rfl
    · cases d <;> with_unfolding_all exact Iff.rfl
@[simp ↓] theorem W_rngB {ps : List Pl} : W (rngB ps) β Q E ↔ optW (looks β ps) fun l => r2W l fun i j => (inR i = true ∧ inR j = true) ∧ Q (rng i j) β := by
  unfold W rngB
  cases looks β ps with
  | none => with_unfolding_all exact Iff.rfl
  | some l =>
    rcases l with _ | ⟨d, _ | ⟨d2, _ | ⟨d3, l⟩⟩⟩
    · with_unfolding_all exact Iff.rfl
    · cases d <;> with_unfolding_all exact Iff.rfl
    · cases d with
      | int i =>
        cases d2 with
        | int j =>
          simp only [optW_some, r2W_int]
          by_cases h : inR i = true ∧ inR j = true
          · rw [if_pos h]; simp [h]
          · rw [if_neg h]
            exact ⟨fun q => q.elim, fun q => h q.1⟩
        | _ => with_unfolding_all exact Iff.rfl
      | _ => with_unfolding_all exact Iff.rfl
    · cases d <;> cases d2 <;> with_unfolding_all exact Iff.rfl
@[simp ↓] theorem W_zipLL {ds es : List D} : W (zipA [.d (.nd .lst ds), .d (.nd .lst es)]) β Q E ↔ Q (zipD ds es) β := by with_unfolding_all exact Iff.rfl
@[simp ↓] theorem W_zipTT {ds es : List D} : W (zipA [.d (.nd .tup ds), .d (.nd .tup es)]) β Q E ↔ Q (zipD ds es) β := by with_unfolding_all exact Iff.rfl
end
/-! ## loops -/
section
variable {β : B.Env} {E : Exn → B.Env → Prop}
/-- how a turn ends -/
def flW (f : Fl) (N B : Prop) (R : Rs → Prop) : Prop := match f with
  | .nx => N
  | .ct => N
  | .brk => B
  | .ret r => R r
@[simp ↓] theorem flW_nx {N B : Prop} {R : Rs → Prop} : flW .nx N B R ↔ N := Iff.rfl
@[simp ↓] theorem flW_ct {N B : Prop} {R : Rs → Prop} : flW .ct N B R ↔ N := Iff.rfl
@[simp ↓] theorem flW_brk {N B : Prop} {R : Rs → Prop} : flW .brk N B R ↔ B := Iff.rfl
@[simp ↓] theorem flW_ret {N B : Prop} {R : Rs → Prop} {r : Rs} : flW (.ret r) N B R ↔ R r := Iff.rfl
@[simp ↓] theorem W_mFor {mi : M (List D)} {g : D → M Unit} {b : M Fl} {Q : Fl → B.Env → Prop} : W (mFor mi g b) β Q E ↔ W mi β (fun ds β1 => W (forL g b ds) β1 Q E) E := by
  unfold mFor
  exact W_bnd
theorem forL_nil {g : D → M Unit} {b : M Fl} {Q : Fl → B.Env → Prop} : W (forL g b []) β Q E ↔ Q .nx β := by with_unfolding_all exact Iff.rfl
theorem forL_cons {g : D → M Unit} {b : M Fl} {Q : Fl → B.Env → Prop} {d : D} {ds : List D} (h : W (g d) β (fun _ β1 => W b β1 (fun f β2 => flW f (W (forL g b ds) β2 Q E) (Q .nx β2) fun r => Q (.ret r) β2) E) fun _ _ => False) : W (forL g b (d :: ds)) β Q E := by
  unfold W at h ⊢
  simp only [forL]
  cases e : g d β with
  | stuck => rw [e] at h; exact h.elim
  | exc x β1 => rw [e] at h; exact h.elim
  | ok u β1 =>
    rw [e] at h
    simp only at h ⊢
    cases e2 : b β1 with
    | stuck => rw [e2] at h; exact h.elim
    | exc x β2 => rw [e2] at h; exact h
    | ok f β2 =>
      rw [e2] at h
      cases f <;> exact h
theorem W_forL {g : D → M Unit} {b : M Fl} {Q : Fl → B.Env → Prop} {ds : List D} (I : Nat → B.Env → Prop) (h0 : I 0 β)
    (step : ∀ i d β, ds[i]? = some d → I i β → W (g d) β (fun _ β1 => W b β1 (fun f β2 => flW f (I (i + 1) β2) (Q .nx β2) fun r => Q (.ret r) β2) E) fun _ _ => False) (fin : ∀ β, I ds.length β → Q .nx β) : W (forL g b ds) β Q E := by
  have key : ∀ (n i : Nat) (β : B.Env), i + n = ds.length → I i β → W (forL g b (ds.drop i)) β Q E := by
    intro n
    induction n with
    | zero =>
      intro i β hi h
      rw [List.drop_of_length_le (by omega)]
      have : i = ds.length := by omega
      subst this
      exact forL_nil.mpr (fin β h)
    | succ n ih =>
      intro i β hi h
      have hlt : i < ds.length := by omega
      rw [List.drop_eq_getElem_cons hlt]
      refine forL_cons ((step i _ β (List.getElem?_eq_getElem hlt) h).mono (fun _ β1 h1 => h1.mono (fun f β2 h2 => ?_) fun _ _ h => h) fun _ _ h => h)
      cases f with
      | nx => exact ih (i + 1) β2 (by omega) h2
      | ct => exact ih (i + 1) β2 (by omega) h2
      | brk => exact h2
      | ret r => exact h2
  have := key ds.length 0 β (by omega) h0
  rwa [List.drop_zero] at this
theorem whileN_more {c : M Bool} {b : M Fl} : ∀ {n m : Nat} {β : B.Env}, whileN c b n β ≠ .stuck → n ≤ m → whileN c b m β = whileN c b n β
  | 0, _, _, h, _ => absurd rfl h
  | n + 1, 0, _, _, hm => absurd hm (by omega)
  | n + 1, m + 1, β, h, hm => by
    simp only [whileN] at h ⊢
    cases e : c β with
    | stuck => with_unfolding_all rfl
    | exc x β1 => with_unfolding_all rfl
    | ok k β1 =>
      cases k with
      | false => with_unfolding_all rfl
      | true =>
        rw [e] at h
        simp only at h ⊢
        cases e2 : b β1 with
        | stuck => with_unfolding_all rfl
        | exc x β2 => with_unfolding_all rfl
        | ok f β2 =>
          rw [e2] at h
          cases f with
          | nx => exact whileN_more h (by omega)
          | ct => exact whileN_more h (by omega)
          | brk => with_unfolding_all rfl
          | ret r => with_unfolding_all rfl
theorem mWhile_eq {c : M Bool} {b : M Fl} {n : Nat} (h : whileN c b n β ≠ .stuck) : mWhile c b β = whileN c b n β := by
  unfold mWhile
  have hx : ∃ n, whileN c b n β ≠ .stuck := ⟨n, h⟩
  rw [dif_pos hx]
  rcases Nat.le_total n hx.choose with q | q
  · exact whileN_more h q
  · exact (whileN_more hx.choose_spec q).symm
theorem W_while {c : M Bool} {b : M Fl} {Q : Fl → B.Env → Prop} (I : Nat → B.Env → Prop)
    (step : ∀ n β, I n β → W c β (fun k β1 => if k = true then W b β1 (fun f β2 => flW f (∃ m, m < n ∧ I m β2) (Q .nx β2) fun r => Q (.ret r) β2) E else Q .nx β1) E) : ∀ {n : Nat} {β : B.Env}, I n β → W (mWhile c b) β Q E := by
  have key : ∀ (n : Nat) (β : B.Env), I n β → ∃ k, W (whileN c b k) β Q E := by
    intro n
    induction n using Nat.strongRecOn with
    | _ n ih =>
      intro β h
      have h := step n β h
      unfold W at h
      cases e : c β with
      | stuck => rw [e] at h; exact h.elim
      | exc x β1 =>
        rw [e] at h
        refine ⟨1, ?_⟩
        unfold W whileN
        rw [e]
        exact h
      | ok k β1 =>
        rw [e] at h
        cases k with
        | false =>
          refine ⟨1, ?_⟩
          unfold W whileN
          rw [e]
          simpa using h
        | true =>
          simp only [if_true] at h
          cases e2 : b β1 with
          | stuck => rw [e2] at h; exact h.elim
          | exc x β2 =>
            rw [e2] at h
            refine ⟨1, ?_⟩
            unfold W whileN
            rw [e]
            simp only
            rw [e2]
            exact h
          | ok f β2 =>
            rw [e2] at h
            cases f with
            | nx =>
              obtain ⟨m, hm, h⟩ := h
              obtain ⟨k, hk⟩ := ih m hm β2 h
              refine ⟨k + 1, ?_⟩
              unfold W whileN
              rw [e]
              simp only
              rw [e2]
              unfold W at hk
              exact hk
            | ct =>
              obtain ⟨m, hm, h⟩ := h
              obtain ⟨k, hk⟩ := ih m hm β2 h
              refine ⟨k + 1, ?_⟩
              unfold W whileN
              rw [e]
              simp only
              rw [e2]
              unfold W at hk
              exact hk
            | brk =>
              refine ⟨1, ?_⟩
              unfold W whileN
              rw [e]
              simp only
              rw [e2]
              exact h
            | ret r =>
              refine ⟨1, ?_⟩
              unfold W whileN
              rw [e]
              simp only
              rw [e2]
              exact h
  intro n β h
  obtain ⟨k, hk⟩ := key n β h
  have ns : whileN c b k β ≠ .stuck := fun z => by
    unfold W at hk
    rw [z] at hk
    exact hk
  unfold W at hk ⊢
  rw [mWhile_eq ns]
  exact hk
/-! comprehensions -/
abbrev noE : Exn → B.Env → Prop := fun _ _ => False
@[simp ↓] theorem W_mComp {vs : List Nat} {mi : M (List D)} {g : D → M Unit} {mt : M Bool} {me : M Rs} {Q : Rs → B.Env → Prop} : W (mComp vs mi g mt me) β Q E ↔ W mi β (fun ds β1 => W (compV g mt me vs ds) β1 Q E) E := by
  unfold mComp
  exact W_bnd
@[simp ↓] theorem W_mYes {Q : Bool → B.Env → Prop} : W mYes β Q E ↔ Q true β := by with_unfolding_all exact Iff.rfl
theorem compL_cons {g : D → M Unit} {mt : M Bool} {me : M Rs} {vs : List Nat} {d : D} {ds acc : List D} {Q : List D → B.Env → Prop}
    (h : W (g d) β (fun _ β1 => W mt β1 (fun k β2 => if k = true then W me β2 (fun r β3 => acc.length < sizeLine ∧ W (compL g mt me vs ds (acc ++ [r.d])) (wipeB β3 vs) Q noE) noE else W (compL g mt me vs ds acc) (wipeB β2 vs) Q noE) noE) noE) : W (compL g mt me vs (d :: ds) acc) β Q noE := by
  unfold W at h ⊢
  simp only [compL]
  cases e : g d β with
  | stuck => rw [e] at h; exact h.elim
  | exc x β1 => rw [e] at h; exact h.elim
  | ok u β1 =>
    rw [e] at h
    simp only at h ⊢
    cases e2 : mt β1 with
    | stuck => rw [e2] at h; exact h.elim
    | exc x β2 => rw [e2] at h; exact h.elim
    | ok k β2 =>
      rw [e2] at h
      cases k with
      | false => simpa using h
      | true =>
        simp only [if_true] at h ⊢
        cases e3 : me β2 with
        | stuck => rw [e3] at h; exact h.elim
        | exc x β3 => rw [e3] at h; exact h.elim
        | ok r β3 =>
          rw [e3] at h
          simp only at h ⊢
          rw [if_pos h.1]
          exact h.2
theorem W_compV {g : D → M Unit} {mt : M Bool} {me : M Rs} {vs : List Nat} {ds : List D} {Q : Rs → B.Env → Prop} (I : Nat → List D → B.Env → Prop) (hno : noOwn β vs = true) (h0 : I 0 [] (wipeB β vs))
    (step : ∀ i d acc β1, ds[i]? = some d → I i acc β1 → W (g d) β1 (fun _ β2 => W mt β2 (fun k β3 => if k = true then W me β3 (fun r β4 => acc.length < sizeLine ∧ I (i + 1) (acc ++ [r.d]) (wipeB β4 vs)) noE else I (i + 1) acc (wipeB β3 vs)) noE) noE)
    (fin : ∀ acc β1, I ds.length acc β1 → Q (.own (.nd .lst acc)) (backB β β1 vs)) : W (compV g mt me vs ds) β Q E := by
  have key : ∀ (n i : Nat) (acc : List D) (β1 : B.Env), i + n = ds.length → I i acc β1 → W (compL g mt me vs (ds.drop i) acc) β1 (fun acc β2 => I ds.length acc β2) noE := by
    intro n
    induction n with
    | zero =>
      intro i acc β1 hi h
      rw [List.drop_of_length_le (by omega)]
      have : i = ds.length := by omega
      subst this
      with_unfolding_all exact h
    | succ n ih =>
      intro i acc β1 hi h
      have hlt : i < ds.length := by omega
      rw [List.drop_eq_getElem_cons hlt]
      refine compL_cons ((step i _ acc β1 (List.getElem?_eq_getElem hlt) h).mono (fun _ β2 h2 => h2.mono (fun k β3 h3 => ?_) fun _ _ h => h) fun _ _ h => h)
      cases k with
      | false =>
        simp only [Bool.false_eq_true, if_false] at h3 ⊢
        exact ih (i + 1) acc _ (by omega) h3
      | true =>
        simp only [if_true] at h3 ⊢
        exact h3.mono (fun r β4 h4 => ⟨h4.1, ih (i + 1) _ _ (by omega) h4.2⟩) fun _ _ h => h
  have h := key ds.length 0 [] _ (by omega) h0
  rw [List.drop_zero] at h
  obtain ⟨acc, β1, e, hI⟩ := h.eq fun _ _ h => h
  unfold W compV
  rw [if_pos hno, e]
  exact fin acc β1 hI
/-- where all is told by functions and the slots stay -/
theorem W_compF {g : D → M Unit} {mt : M Bool} {me : M Rs} {vs : List Nat} {ds : List D} {Q : Rs → B.Env → Prop} (p : D → Bool) (f : D → D) (hno : noOwn β vs = true) (hlen : ds.length < sizeLine)
    (step : ∀ d, d ∈ ds → W (g d) (wipeB β vs) (fun _ β2 => W mt β2 (fun k β3 => k = p d ∧ if p d = true then W me β3 (fun r β4 => r.d = f d ∧ wipeB β4 vs = wipeB β vs) noE else wipeB β3 vs = wipeB β vs) noE) noE)
    (fin : Q (.own (.nd .lst ((ds.filter p).map f))) (backB β (wipeB β vs) vs)) : W (compV g mt me vs ds) β Q E := by
  refine W_compV (fun i acc β1 => acc = ((ds.take i).filter p).map f ∧ β1 = wipeB β vs) hno ⟨by simp, rfl⟩ (fun i d acc β1 hd ⟨ea, eb⟩ => ?_) fun acc β1 ⟨ea, eb⟩ => ?_
  · subst eb
    have hm : d ∈ ds := List.mem_of_getElem? hd
    have et : ds.take (i + 1) = ds.take i ++ [d] := by rw [List.take_add_one, hd]; rfl
    refine (step d hm).mono (fun _ β2 h2 => h2.mono (fun k β3 h3 => ?_) fun _ _ h => h) fun _ _ h => h
    obtain ⟨rfl, h3⟩ := h3
    by_cases hp : p d = true
    · rw [if_pos hp] at h3 ⊢
      refine h3.mono (fun r β4 h4 => ⟨?_, ?_, h4.2⟩) fun _ _ h => h
      · rw [ea, List.length_map]
        exact Nat.lt_of_le_of_lt (Nat.le_trans (List.length_filter_le _ _) (List.length_take_le' _ _)) hlen
      · rw [et, List.filter_append, List.map_append, ea, h4.1]
        simp [hp]
    · rw [if_neg hp] at h3 ⊢
      refine ⟨?_, h3⟩
      rw [et, List.filter_append, ea]
      simp [hp]
  · rw [List.take_length] at ea
    rw [ea, eb]
    exact fin
end
end B

set_option Elab.async false
set_option linter.all false
set_option maxRecDepth 100000
set_option maxHeartbeats 4000000
namespace B
open PySem PySem.Spec L2
/-! ## try with clauses of both kinds: with a name, without -/
abbrev Suite := Addr → Value → Option Addr → TS
/-- the name of a clause goes behind its suite -/
def endsBut (i : Option Nat) (D : Ends) : Ends := match i with
  | none => D
  | some i => { nx := fun σ' H' => D.nx (σ'.set i none) H', rt := D.rt, bk := fun σ' H' => D.bk (σ'.set i none) H', ct := fun σ' H' => D.ct (σ'.set i none) H' }
def nameIn (i : Option Nat) (a : Addr) (σ : L2.St) : L2.St := match i with
  | none => σ
  | some i => σ.set i (some (.ref a))
def wMix (K : PySem.W.Frag) (Wout : WX) (D : Ends) : List (Value × Option Nat × Suite) → WX
  | [] => Wout
  | (c, i, ts) :: r => fun cls d σ H => ∃ b, PySem.W.exmOne K cls c = some b ∧ (b = true → ∀ a, H a = none → ts a cls d (endsBut i D) (nameIn i a σ) H) ∧ (b = false → wMix K Wout D r cls d σ H)
inductive HdX (X : Cx) : List ExceptHandler → List (Value × Option Nat × Suite) → Prop
  | nil : HdX X [] []
  | cons {x : Str} {c : Value} {ts : Suite} {b₀ : Stmt} {suite : List Stmt} {np pos' : Pos} {hds : List ExceptHandler} {l : List (Value × Option Nat × Suite)} (hc : Names X x c)
      (hsu : ∀ (a : Addr) (oe : Obj) (cls : Value) (d : Option Addr) (pn : List (Addr × Obj)), Zc cls d oe → (∃ vs, oe.data = .fields vs) → PSs (X.suite a ((a, oe) :: pn)) (b₀ :: suite) (ts a cls d)) (r : HdX X hds l) :
      HdX X (.ExceptHandler (some (.Name x np)) none (b₀ :: suite) pos' :: hds) ((c, none, ts) :: l)
  | named {x n : Str} {i : Nat} {c : Value} {ts : Suite} {b₀ : Stmt} {suite : List Stmt} {np pos' : Pos} {hds : List ExceptHandler} {l : List (Value × Option Nat × Suite)} (hc : Names X x c) (hN : X.N.Nodup) (hi : X.N[i]? = some n) (hln : X.env.kindOf n = some .local)
      (hsu : ∀ (a : Addr) (oe : Obj) (cls : Value) (d : Option Addr) (pn : List (Addr × Obj)), Zc cls d oe → (∃ vs, oe.data = .fields vs) → PSs (X.suite a ((a, oe) :: pn)) (b₀ :: suite) (ts a cls d)) (r : HdX X hds l) :
      HdX X (.ExceptHandler (some (.Name x np)) (some n) (b₀ :: suite) pos' :: hds) ((c, some i, ts) :: l)
section
variable {X : Cx} {body : List Stmt} {h₀ : ExceptHandler} {hds : List ExceptHandler} {l : List (Value × Option Nat × Suite)} {pos : Pos} {tb : WX → TS} {Wout : WX}
/-- an exception on the ground of this frame -/
structure Fell (X : Cx) (pins : List (Addr × Obj)) (a : Addr) (B : Heap) (sI : Shared) (σ : L2.St) (H : Hp) (cls : Value) (d : Option Addr) (s' : Shared) : Prop where
  J : Inv X pins σ H sI
  nb : ∀ b o, sI.heap.get? b = some o → b ∉ frs X.stack → B.get? b = some o
  na : H a = none
  up : sI.heap.UpToSlots s'.heap
  os : s'.os = sI.os
  ag : PyProof.Rows.AllBare s'.gens
  fl : HandSPX.FlyingZ B (X.env :: X.outer) a (Zc cls d) s'.heap
theorem Fell.on {pins : List (Addr × Obj)} {a : Addr} {B : Heap} {sI s' : Shared} {σ : L2.St} {H : Hp} {cls : Value} {d : Option Addr} {h' : Heap} (f : Fell X pins a B sI σ H cls d s') (fl : HandSPX.FlyingZ B (X.env :: X.outer) a (Zc cls d) h') (up : s'.heap.UpToSlots h') :
    Fell X pins a B sI σ H cls d { s' with heap := h' } := ⟨f.J, f.nb, f.na, f.up.trans up, f.os, f.ag, fl⟩
/-- the suite's context -/
theorem Fell.suite {pins : List (Addr × Obj)} {a : Addr} {B : Heap} {sI s' : Shared} {σ : L2.St} {H : Hp} {cls : Value} {d : Option Addr} (f : Fell X pins a B sI σ H cls d s') (hf : X.env.frame = some X.env.locals) :
    Inv X pins σ H s' ∧ ∃ (oe : Obj) (vs : Array Value), s'.heap.get? a = some oe ∧ Zc cls d oe ∧ oe.data = .fields vs ∧ Inv (X.suite a ((a, oe) :: (X.pn ++ pins))) [] σ H s' := by
  have J := f.J.landed f.nb f.fl.1 f.up f.os f.ag
  obtain ⟨oe, vs, he, hz, hd⟩ := f.fl.there
  have out : a ∉ frs (X.env :: X.outer) := fun m => by
    obtain ⟨_, o, e, n⟩ := f.fl.2.2.1.mem m
    rw [he] at e
    cases e
    exact n _ hd
  refine ⟨J, oe, vs, he, hz, hd, J.suite he hd f.na (fun z => out (List.mem_filterMap.mpr ⟨X.env, List.mem_cons_self, by rw [hf, z]⟩)) fun m => ?_⟩
  obtain ⟨e, h1, h2⟩ := List.mem_filterMap.mp m
  exact out (List.mem_filterMap.mpr ⟨e, List.mem_cons_of_mem _ h1, h2⟩)
theorem handle_mix {pins : List (Addr × Obj)} {a : Addr} {B : Heap} {sI s' : Shared} {σ : L2.St} {H : Hp} {cls : Value} {d : Option Addr} {D : Ends} (hs : X.stack = X.env :: X.outer) (hf : X.env.frame = some X.env.locals) (ok : X.Ok) (tk : Takes X Wout) (f : Fell X pins a B sI σ H cls d s') (hh : HdX X hds l) :
    wMix X.K Wout D l cls d σ H → wpAny (model X.prog X.w) X.A (handleBy (.ref a) X.env hds) (SP X pins D) X.xe s' := by
  obtain ⟨J3, oe3, vs3, he3, hz3, hd3, S3⟩ := f.suite hf
  have tyL : PySem.W.Looks (model X.prog X.w) s'.heap (typeOf (.ref a)) cls := fun A Q E s k q => wpAny_typeOf_ref (k _ _ he3) (by rw [hz3.1]; exact q)
  have known : ∀ {x : Str} {c : Value} {np : Pos} {Q : Value → Shared → Prop} {E : Value → Shared → Prop}, Names X x c → Q c s' → wpAny (model X.prog X.w) (X.A.mark (some (.ref a))) (eval (.Name x np) X.env) Q E s' := by
    intro x c np Q E hc q
    obtain ⟨hg, hdb, hm | ⟨hm, hv, hn⟩⟩ := hc
    · exact ld_glob (X := X.suite a ((a, oe3) :: (X.pn ++ pins))) S3 hg hm q hdb
    · exact ld_blt (X := X.suite a ((a, oe3) :: (X.pn ++ pins))) S3 hg hm hv q hn hdb
  induction hh with
  | nil =>
    intro w
    refine wpAny_handleBy_nil ?_
    obtain ⟨_, _, _, oe, vs, T, _, _, he, _, hd, h1, _⟩ := id f.fl
    unfold PySem.passOn
    refine wpAny_bind (wpAny_field he hd h1 ?_)
    rw [if_neg (show ¬ ((Value.ref T == Value.none) = true) from by simp)]
    have up : wpAny (model X.prog X.w) X.A (setFlight (.ref a) X.env.frame) (fun _ s4 => wpAny (model X.prog X.w) X.A (throw (.ref a) : Sem Flow) (SP X pins D) X.xe s4) X.xe s' := by
      rw [hf]
      exact HandSPX.setFlight_upZ f.fl fun h4 hh4 up4 => wpAny_throw (tk _ _ ⟨a, B, sI, pins, σ, H, cls, d, rfl, f.J, f.nb, f.up.trans up4, .inr (.inr (by rw [hs]; exact hh4)), f.na, f.os, f.ag, w⟩)
    first
      | exact wpAny_bind (wpAny_pure (wpAny_bind up))
      | exact wpAny_bind up
  | @cons x c ts b₀ suite np pos' hds2 l2 hc hsu r ih =>
    intro ⟨b, hb, yes, no⟩
    refine wpAny_handleBy_cons (codeAny_handlers_test (known hc ((PySem.W.exm_one (M := model X.prog X.w) J3.kIn tyL hb).here ?_))) (by intro q; cases q)
    cases b with
    | false => exact ih (no rfl)
    | true =>
      refine codeAny_handlers_suite (HandSPX.lands_againZ f.fl fun h4 fl4 up4 => ?_)
      obtain ⟨_, oe4, vs4, _, hz4, hd4, S4⟩ := (f.on fl4 up4).suite hf
      refine wpAny_mono ((hsu a oe4 cls d (X.pn ++ pins) hz4 ⟨_, hd4⟩).run [] _ σ H _ S4 (yes rfl a f.na)) (fun fl s6 z => ?_) fun _ _ z => z.elim
      match fl, z with
      | .next, ⟨_, _, S6, q⟩ => exact ⟨_, _, S6.unsuite ok, q⟩
      | .brk, ⟨_, _, S6, q⟩ => exact ⟨_, _, S6.unsuite ok, q⟩
      | .cont, ⟨_, _, S6, q⟩ => exact ⟨_, _, S6.unsuite ok, q⟩
      | .ret _, ⟨_, _, _, S6, r6, q⟩ => exact ⟨_, _, _, S6.unsuite ok, r6, q⟩
  | @named x n i c ts b₀ suite np pos' hds2 l2 hc hN hi hln hsu r ih =>
    intro ⟨b, hb, yes, no⟩
    refine wpAny_handleBy_cons (codeAny_handlers_test (known hc ((PySem.W.exm_one (M := model X.prog X.w) J3.kIn tyL hb).here ?_))) (by intro q; cases q)
    cases b with
    | false => exact ih (no rfl)
    | true =>
      refine codeAny_handlers_suite_as (HandSPX.lands_againZ f.fl fun h4 fl4 up4 => ?_)
      obtain ⟨_, oe4, vs4, _, hz4, hd4, S4⟩ := (f.on fl4 up4).suite hf
      refine store_ok (X := X.suite a ((a, oe4) :: (X.pn ++ pins))) (v := .ref a) S4 hN hi (.inl hln) rfl (fun s5 S5 => ?_) (.inr hln)
      refine wpAny_mono ((hsu a oe4 cls d (X.pn ++ pins) hz4 ⟨_, hd4⟩).run [] s5 _ H _ S5 (yes rfl a f.na)) (fun fl s6 z => ?_) fun _ _ z => z.elim
      match fl, z with
      | .next, ⟨_, _, S6, q⟩ => exact gone_ok (S6.unsuite ok) hN hi hln fun s7 J7 => ⟨_, _, J7, q⟩
      | .brk, ⟨_, _, S6, q⟩ => exact gone_ok (S6.unsuite ok) hN hi hln fun s7 J7 => ⟨_, _, J7, q⟩
      | .cont, ⟨_, _, S6, q⟩ => exact gone_ok (S6.unsuite ok) hN hi hln fun s7 J7 => ⟨_, _, J7, q⟩
      | .ret _, ⟨_, _, _, S6, r6, q⟩ => exact gone_ok (S6.unsuite ok) hN hi hln fun s7 J7 => ⟨_, _, _, J7, r6, q⟩
theorem ps_try_mix (hs : X.stack = X.env :: X.outer) (hf : X.env.frame = some X.env.locals) (tk : Takes X Wout)
    (hb : ∀ (W : WX) (pn : List (Addr × Obj)) (xe : Value → Shared → Prop), Takes (X.tr pn xe) W → PassesOwn (model X.prog X.w) X.A X.env xe → PSs (X.tr pn xe) body (tb W)) (hh : HdX X (h₀ :: hds) l) : PS X (.Try body (h₀ :: hds) [] [] pos) (fun D σ H => tb (wMix X.K Wout D l) D σ H) := by
  refine ⟨fun pins s σ H D I h => ?_⟩
  have ok := I.ok
  have hfr : X.A.frames = some (X.env :: X.outer) := by rw [ok.frames, hs]
  refine wpAny_Try_except (wpAny_mono ((hb (wMix X.K Wout D l) (X.pn ++ pins) (fun e s₁ => wpAny (model X.prog X.w) X.A (noteFrame e X.env) (fun _ s₂ => wpAny (model X.prog X.w) X.A (setFlight e none) (fun _ s₃ =>
    wpAny (model X.prog X.w) X.A (handleBy e X.env (h₀ :: hds)) (SP X pins D) X.xe s₃) X.xe s₂) X.xe s₁) (fun u s' ⟨a, B, sI, pins', σ', H', cls, d, e, J', nb, up, sky, na, os, ag, w⟩ => ?_) PassesOwn.looking).run [] s σ H D (I.toTry _) h) (fun f s1 z => ?_) fun e s1 z => z)
  · subst e
    exact Sky.land (Z := Zc cls d) (a := a) (L := X.env.locals) Zc.steady hfr hf (by rw [← hs]; exact sky) fun h3 fl3 up3 => handle_mix hs hf ok tk ⟨J'.ofTry ok, nb, na, up.trans up3, os, ag, fl3⟩ hh w
  · match f, z with
    | .next, ⟨_, _, J', q⟩ => exact wpAny_execs_nil ⟨_, _, J'.ofTry ok, q⟩
    | .brk, ⟨_, _, J', q⟩ => exact ⟨_, _, J'.ofTry ok, q⟩
    | .cont, ⟨_, _, J', q⟩ => exact ⟨_, _, J'.ofTry ok, q⟩
    | .ret _, ⟨_, _, _, J', r, q⟩ => exact ⟨_, _, _, J'.ofTry ok, r, q⟩
end
end B

set_option Elab.async false
set_option linter.all false
set_option maxRecDepth 100000
set_option maxHeartbeats 4000000
namespace B
open PySem PySem.Spec L2
/-! ## raise -/
abbrev veTail : List Value := [.type "ValueError", .type "Exception", .type "BaseException", .type "object"]
/-- what the written part says of an exception's class without an __init__ of the program -/
structure XCls (K : PySem.W.Frag) (mg : Str → Option Value) (c : Str) : Prop where
  ex : ∃ C : Addr, mg c = some (.ref C) ∧ PySem.W.excIn K C veTail "ValueError.__new__" = true ∧ PySem.W.keepIn K (.ref C) = true ∧ PySem.W.subIn K (.ref C) (.type "BaseException") = some true ∧ PySem.W.typeIn K (.ref C) = some (.type "type")
def mRaise0 (c : Str) : M Fl := fun β => .exc ⟨c, []⟩ β
section
variable {X : Cx} {x : Str} {p p2 pos pos' : Pos}
theorem bs_raise0 {m : Str} {j : Nat} (Z : XCls X.K X.mg x) (hc : X.calm = true) (hg : Gl X x := by rfl) (hdb : (x == ("__debug__" : Str)) = false := by decide) :
    BS X (.Raise (some (.Call (.Name x p) [.Constant (.str m) j p2] [] pos)) none pos') (mRaise0 x) := by
  obtain ⟨C, gC, xC, kC, bC, tC⟩ := Z.ex
  exact fun W tk => (ps_raise hc tk (pmk_own PySem.F.excBase_ValueError xC gC kC (raises_own bC tC) hg hdb)).imp fun D σ H ⟨G, io, F, β, I, h⟩ => h σ (.ref C) none H F .refl I ⟨gC, .inl ⟨rfl, rfl⟩⟩
/-! with an __init__ that calls the base's and stores one field -/
/-- RuleError.__init__(self, ..): the base's, found through an own class -/
structure ReC (K : PySem.W.Frag) (mg : Str → Option Value) (c : Str) : Prop where
  ex : ∃ C : Addr, mg c = some (.ref C) ∧ PySem.W.readsIn K C (.type "type") = true ∧ PySem.W.specialIn K (.ref C) "__getattribute__" = some (some (.builtin "type.__getattribute__")) ∧ PySem.W.findCls K (.ref C) (.type "type") "__init__" = some (.val (.builtin "ValueError.__init__"))
theorem pe_reinit {e : Expr} {es : List Expr} {ta : TA} {p1 : Pos} (Z : ReC X.K X.mg x) (ha : PA X (e :: es) ta) (hg : Gl X x := by rfl) (hdb : (x == ("__debug__" : Str)) = false := by decide) {pl : Sem Bool}
    (hc : eval (.Call (.Attribute (.Name x p1) "__init__" p2) (e :: es) [] pos) X.env = (do
      let ov ← eval (.Name x p1) X.env
      standAt p2.atName
      let (f, first) ← holding [ov] (getMethod ov "__init__" pl)
      callWith pos f first (backTo pos (starEach (e :: es) X.env)) (backToKw pos (keywordEach [] X.env))) := by rfl)
    (he : starEach (e :: es) X.env = (false, eval e X.env) :: starEach es X.env := by rfl) (hpl : (backTo pos (starEach es X.env)).any (·.1) = false := by rfl) :
    PE X (.Call (.Attribute (.Name x p1) "__init__" p2) (e :: es) [] pos) (tVeI X.K ta) := by
  obtain ⟨C0, gC, rd, ga, vV⟩ := Z.ex
  refine ⟨fun pins s σ H Q I h => PySem.W.methodCall_KW (ld_glob I hg gC ?_ hdb) hc⟩
  refine PySem.W.method_cls I.kIn ga (PySem.W.cls_value I.kIn rd vV (by decide +kernel) ?_)
  show wpAny _ _ (callWith pos (Value.builtin "ValueError.__init__") [] (backTo pos (starEach (e :: es) X.env)) []) _ _ _
  refine PyProof.Rows.callWith_method1 (thn (ha.run pos pins _ σ H _ (I.tok _) h) fun us s1 ⟨vs, H1, I1, r1, a, C, ws, ev, hl, T, ea, q⟩ => ?_) he hpl
  subst ev
  cases r1 with
  | @cons _ u0 _ ur ra rw' =>
    cases (show u0 = Value.ref a from ra)
    exact oinit_ok T I1 ea (by rw [← Paired.length rw', sizeLine_eq]; omega) fun s' J => ⟨.non, H1, J, rfl, q⟩
/-- the promise of such an __init__, the field f -/
def spXI (K : PySem.W.Frag) (f : Str) : Sp := fun vs H Q E => ∃ a C y, vs = [.ref a, y] ∧ OexC K C ∧ H a = some (exo a C none) ∧ PySem.W.findIn K (.ref C) f = some none ∧
  ∀ dx, H dx = none → dx ≠ a → Q .non (upd (upd H dx (exd dx [(f, y)])) a (exo a C (some dx)))
/-- what the written part says of an exception's class with such an __init__ -/
structure XClsI (K : PySem.W.Frag) (mg : Str → Option Value) (c f : Str) (st : Stmt) (qual : Str) : Prop where
  ex : ∃ (C fI : Addr) (fd : FuncData), mg c = some (.ref C) ∧ OexC K C ∧ PySem.W.findIn K (.ref C) "__init__" = some (some (.ref fI)) ∧ PySem.W.typeIn K (.ref fI) = some (.type "function") ∧ L2.Fun K "__init__" qual st fI fd ∧ Binds K fd ["self", f] ([] : List Value) ∧ PySem.W.findIn K (.ref C) f = some none
def OkXI (P : Program) (w : World) (K : PySem.W.Frag) (mg : Str → Option Value) (base : Heap) (c f : Str) : Prop :=
  ∃ (C fI : Addr) (fd : FuncData), mg c = some (.ref C) ∧ OexC K C ∧ PySem.W.findIn K (.ref C) "__init__" = some (some (.ref fI)) ∧ PySem.W.typeIn K (.ref fI) = some (.type "function") ∧ Binds K fd ["self", f] ([] : List Value) ∧ PySem.W.findIn K (.ref C) f = some none ∧
    FnOk P w K mg base CX0 1 fI fd ["self", f] (spXI K f)
end
def tXI (K : PySem.W.Frag) (f tm : Str) : TS := fun D σ H => tVeI K (tCons (tVar 0) (tCons (tC (.str tm)) tNil)) σ H fun _ H1 => tOst K f (tVar 0) (tVar 1) D σ H1
theorem okXI_of {P : Program} {w : World} {K : PySem.W.Frag} {mg : Str → Option Value} {base : Heap} {c f qual tm : Str} {st : Stmt} (Z : XClsI K mg c f st qual) (S : FnScope ["self", f] ["self", f] (defScope st))
    (hb : ∀ (fI : Addr) (cdv : Value) (A : Around) (outer : List PySem.Env) (s : Shared) (H : Hp) (E : XK), PSs (cxOf CX0 P w K mg base ["self", f] qual (defScope st) fI cdv A outer s H E).nox (defBody st) (tXI K f tm)) : OkXI P w K mg base c f := by
  obtain ⟨C, fI, fd, gC, O, iC, tI, F, hbi, nf⟩ := Z.ex
  refine ⟨C, fI, fd, gC, O, iC, tI, hbi, nf, F.ok S (fun vs H Q E h => by obtain ⟨a, C, y, rfl, _⟩ := h; rfl) fun cdv A outer s H vs Q E hr hsp => ?_⟩
  obtain ⟨a, C', y, rfl, O', ea, nf', q⟩ := hsp
  refine ⟨_, hb fI cdv A outer s H E, ?_⟩
  refine ⟨_, rfl, a, C', [.str tm], rfl, by simp, O', ea, ?_⟩
  exact ⟨_, rfl, _, rfl, a, C', rfl, O', nf', .inl ⟨ea, fun dx h1 h2 => q dx h1 h2⟩⟩
section
variable {X : Cx} {x : Str} {p p2 pos pos' : Pos}
/-- raise C(e), C with such an __init__ -/
def mRaiseI (c f : Str) (ma : M Pl) : M Fl := bnd ma fun q => fun β => match q with
  | .d d => .exc ⟨c, [(f, d)]⟩ β
  | _ => .stuck
theorem bs_raiseI {e : Expr} {f : Str} {k : Nat} {ma : M Pl} (O : OkXI X.prog X.w X.K X.mg X.base x f) (hr : RoomG (k + 2) X.A) (hc : X.calm = true) (ha : BP X e ma) (hg : Gl X x := by rfl) (hdb : (x == ("__debug__" : Str)) = false := by decide)
    (he : starEach [e] X.env = (false, eval e X.env) :: starEach [] X.env := by rfl) (hpl : (backTo pos (starEach ([] : List Expr) X.env)).any (·.1) = false := by rfl) :
    BS X (.Raise (some (.Call (.Name x p) [e] [] pos)) none pos') (mRaiseI x f ma) := by
  obtain ⟨C, fI, fd, gC, O, iC, tI, hb, nf, Fn⟩ := O
  refine fun W tk => (ps_raise hc tk (pmk_oex (ds := []) (dvs := []) O iC tI Fn (hr.r.mono (by omega)) hb .nil pass0 hg gC (pa_cons (ha W tk) pa_nil he) hdb he hpl)).imp fun D σ H ⟨G, io, F, β, I, h⟩ => ?_
  refine ⟨G, io, F, β, I, h.of fun q β1 v H1 F1 fe1 I1 r1 h1 => ?_⟩
  refine ⟨by simp, fun a na => ⟨a, C, v, rfl, O, upd_same, nf, fun dx nd nda => ⟨rfl, dx, [(f, v)], upd_same, ?_, ?_, ?_⟩⟩⟩
  · rw [upd_ne nda, upd_same]
  · rwa [upd_ne nda] at nd
  · have eH : upd (del (upd (upd (upd H1 a (exo a C none)) dx (exd dx [(f, v)])) a (exo a C (some dx))) a) dx (.xd [(f, v)]) = upd H1 dx (.xd [(f, v)]) := by
      funext b
      by_cases h1 : b = dx
      · rw [h1, upd_same, upd_same]
      · rw [upd_ne h1, upd_ne h1]
        by_cases h2 : b = a
        · rw [h2, del_same, na]
        · rw [del_ne h2, upd_ne h2, upd_ne h1, upd_ne h2]
    rw [eH]
    have nd1 : H1 dx = none := by rwa [upd_ne nda] at nd
    cases q with
    | sl i => exact h1.elim
    | d d =>
      have sm : Same F1 (upd F1 dx (.xd [(f, v)])) := fun b u h => by
        rw [upd_ne (ne_of_none h (Same.free I1.sf nd1))]
        exact h
      obtain ⟨fe2, I2⟩ := I1.grow (H' := upd H1 dx (.xd [(f, v)])) (F' := upd F1 dx (.xd [(f, v)])) (fun b u h => by rw [upd_ne (ne_of_none h nd1)]; exact h) sm (fun b u h => by
        by_cases hb : b = dx
        · subst hb
          exact .inr nd1
        · rw [upd_ne hb] at h
          exact .inl h) (fun b u h => by
        by_cases hb : b = dx
        · subst hb
          rw [upd_same] at h ⊢
          exact h
        · rw [upd_ne hb] at h ⊢
          exact I1.sf _ _ h)
      exact h1 σ (.ref C) (some dx) _ _ fe2 I2 ⟨gC, .inr ⟨dx, [(f, v)], [d], rfl, upd_same, rfl, .cons (DR.mono sm r1) .nil, rfl⟩⟩
end
/-! ## try -/
def unSl (i : Option Nat) (β : B.Env) : B.Env := match i with
  | none => β
  | some i => β.set i .un
def exSl (i : Option Nat) (z : Ez) (β : B.Env) : B.Env := match i with
  | none => β
  | some i => β.set i (.ex z)
def suiteR (i : Option Nat) : R Fl → R Fl
  | .ok f β => .ok f (unSl i β)
  | _ => .stuck
abbrev Su := Addr → Value → Option Addr → M Fl
open Classical in
/-- a suite's run, the same wherever the exception is -/
noncomputable def exRun (f : Addr → Value → Option Addr → R Fl) : R Fl := if ∀ a c d, f a c d = f 0 .none none then f 0 .none none else .stuck
/-- a clause: which classes it takes, its name's slot, its suite -/
structure Hd where
  t : Str → Option Bool
  i : Option Nat
  m : Su
noncomputable def handleB : List Hd → Exn → M Fl
  | [], x => fun β => .exc x β
  | h :: r, x => fun β => match h.t x.cls with
    | some true => exRun fun a c d => suiteR h.i (h.m a c d (exSl h.i (ez a c d x) β))
    | some false => handleB r x β
    | none => .stuck
noncomputable def mTry (mb : M Fl) (hs : List Hd) : M Fl := fun β => match mb β with
  | .exc x β' => handleB hs x β'
  | r => r
theorem BI.setEx {K : PySem.W.Frag} {mg : Str → Option Value} {G : GT} {F H : Hp} {io : List Addr} {β : B.Env} {σ : L2.St} {z : Ez} (I : BI K mg G F io β σ H) (h : XZ K mg F z) (i : Nat) :
    BI K mg G F io (β.set i (.ex z)) (σ.set i (some (.ref z.a))) H := by
  have hl := I.len
  have nh : ∀ {l : Nat} {u : Sl}, (β.set i (.ex z))[l]? = some u → isOwn u = true → i ≠ l ∧ β[l]? = some u := fun {l u} e h => by
    by_cases hl : i = l
    · subst hl
      by_cases hi : i < β.length
      · rw [List.getElem?_set_self hi] at e
        cases e
        cases h
      · rw [List.getElem?_eq_none (by rw [List.length_set]; omega)] at e
        cases e
    · rw [List.getElem?_set_ne hl] at e
      exact ⟨hl, e⟩
  refine ⟨I.sg, I.sf, I.ioF, I.ioH, by rw [List.length_set, List.length_set]; exact hl, fun j s ej => ?_, fun j k s t b ej ek hj hk zj zk => ?_⟩
  · by_cases hj : i = j
    · subst hj
      by_cases hi : i < β.length
      · rw [List.getElem?_set_self hi] at ej
        cases ej
        exact ⟨_, List.getElem?_set_self (by omega), rfl, h⟩
      · rw [List.getElem?_eq_none (by rw [List.length_set]; omega)] at ej
        cases ej
    · rw [List.getElem?_set_ne hj] at ej
      rw [List.getElem?_set_ne hj]
      exact I.sl j s ej
  · obtain ⟨n1, e1⟩ := nh ej hj
    obtain ⟨n2, e2⟩ := nh ek hk
    rw [List.getElem?_set_ne n1] at zj
    rw [List.getElem?_set_ne n2] at zk
    exact I.apart j k s t b e1 e2 hj hk zj zk
/-- a slot let go, in the state too -/
theorem BI.gone {K : PySem.W.Frag} {mg : Str → Option Value} {G : GT} {F H : Hp} {io : List Addr} {β : B.Env} {σ : L2.St} (I : BI K mg G F io β σ H) (i : Nat) : BI K mg G F io (β.set i .un) (σ.set i none) H := by
  have J := I.unset i
  have nh : ∀ {l : Nat} {u : Sl}, (β.set i .un)[l]? = some u → isOwn u = true → i ≠ l := fun {l u} e h hl => by
    subst hl
    by_cases hi : i < β.length
    · rw [List.getElem?_set_self hi] at e
      cases e
      cases h
    · rw [List.getElem?_eq_none (by rw [List.length_set]; omega)] at e
      cases e
  refine ⟨J.sg, J.sf, J.ioF, J.ioH, by rw [List.length_set, List.length_set]; exact I.len, fun j s ej => ?_, fun j k s t b ej ek hj hk zj zk => ?_⟩
  · by_cases hj : i = j
    · subst hj
      obtain ⟨o, eo, _⟩ := J.sl i s ej
      have hi : i < β.length := by
        have := (List.getElem?_eq_some_iff.mp ej).1
        rwa [List.length_set] at this
      rw [List.getElem?_set_self hi] at ej
      cases ej
      exact ⟨none, List.getElem?_set_self (by rw [← I.len]; exact hi), trivial⟩
    · rw [List.getElem?_set_ne hj]
      exact J.sl j s ej
  · rw [List.getElem?_set_ne (nh ej hj)] at zj
    rw [List.getElem?_set_ne (nh ek hk)] at zk
    exact J.apart j k s t b ej ek hj hk zj zk
/-- the clauses -/
inductive HdB (X : Cx) : List ExceptHandler → List Hd → Prop
  | nil : HdB X [] []
  | cons {x : Str} {c : Value} {h : Hd} {b₀ : Stmt} {suite : List Stmt} {np pos' : Pos} {hds : List ExceptHandler} {l : List Hd} (hi : h.i = none) (hc : Names X x c) (ht : ∀ nm cls b, h.t nm = some b → X.mg nm = some cls → PySem.W.exmOne X.K cls c = some b)
      (hsu : ∀ (a : Addr) (oe : Obj) (cls : Value) (d : Option Addr) (pn : List (Addr × Obj)), Zc cls d oe → (∃ vs, oe.data = .fields vs) → BSs (X.suite a ((a, oe) :: pn)) (b₀ :: suite) (h.m a cls d)) (r : HdB X hds l) :
      HdB X (.ExceptHandler (some (.Name x np)) none (b₀ :: suite) pos' :: hds) (h :: l)
  | named {x n : Str} {i : Nat} {c : Value} {h : Hd} {b₀ : Stmt} {suite : List Stmt} {np pos' : Pos} {hds : List ExceptHandler} {l : List Hd} (hi : h.i = some i) (hc : Names X x c) (ht : ∀ nm cls b, h.t nm = some b → X.mg nm = some cls → PySem.W.exmOne X.K cls c = some b)
      (hN : X.N.Nodup) (hn : X.N[i]? = some n) (hln : X.env.kindOf n = some .local)
      (hsu : ∀ (a : Addr) (oe : Obj) (cls : Value) (d : Option Addr) (pn : List (Addr × Obj)), Zc cls d oe → (∃ vs, oe.data = .fields vs) → BSs (X.suite a ((a, oe) :: pn)) (b₀ :: suite) (h.m a cls d)) (r : HdB X hds l) :
      HdB X (.ExceptHandler (some (.Name x np)) (some n) (b₀ :: suite) pos' :: hds) (h :: l)
abbrev noW : WX := fun _ _ _ _ => False
theorem takes_no {X : Cx} {a : Addr} {pn : List (Addr × Obj)} : Takes (X.suite a pn) noW := fun u s' ⟨_, _, _, _, _, _, _, _, _, _, _, _, _, _, _, _, w⟩ => w
section
variable {X : Cx}
theorem suite_post {G : GT} {F1 H1 : Hp} {io : List Addr} {β : B.Env} {σ : L2.St} {a : Addr} {cls : Value} {d : Option Addr} {D : Ends} {x : Exn} {W : WX} {h : Hd} (I : BI X.K X.mg G F1 io β σ H1) (hx : XR X.K X.mg F1 cls d x)
    (hp : SPost X.K X.mg W G F1 io (exRun fun a c d => suiteR h.i (h.m a c d (exSl h.i (ez a c d x) β))) D) : sOf X.K X.mg noW (h.m a cls d) (endsBut h.i D) (nameIn h.i a σ) H1 := by
  unfold exRun at hp
  split at hp
  · rename_i al
    rw [← al a cls d] at hp
    have hp : SPost X.K X.mg W G F1 io (suiteR h.i (h.m a cls d (exSl h.i (ez a cls d x) β))) D := hp
    refine ⟨G, io, F1, exSl h.i (ez a cls d x) β, ?_, ?_⟩
    · cases h.i with
      | none => exact I
      | some i => exact I.setEx (z := ez a cls d x) (.ez hx) i
    · cases e : h.m a cls d (exSl h.i (ez a cls d x) β) with
      | stuck => rw [e] at hp; exact hp.elim
      | exc y β2 => rw [e] at hp; exact hp.elim
      | ok f β2 =>
        rw [e] at hp
        intro σ2 H2 F2 fe2 I2
        cases hi : h.i with
        | none =>
          have hp : SPost X.K X.mg W G F1 io (.ok f (unSl h.i β2)) D := hp
          rw [hi] at hp
          have := hp σ2 H2 F2 fe2 I2
          cases f <;> exact this
        | some i =>
          have hp : SPost X.K X.mg W G F1 io (.ok f (unSl h.i β2)) D := hp
          rw [hi] at hp
          cases f with
          | nx => exact hp (σ2.set i none) H2 F2 fe2 (I2.gone i)
          | brk => exact hp (σ2.set i none) H2 F2 fe2 (I2.gone i)
          | ct => exact hp (σ2.set i none) H2 F2 fe2 (I2.gone i)
          | ret r =>
            intro v rr
            refine hp σ2 H2 F2 fe2 (I2.unset i) v ?_
            cases r with
            | fz d => exact rr
            | own d =>
              obtain ⟨b, rfl, h1, h2, h3, h4, h5⟩ := rr
              refine ⟨b, rfl, h1, h2, h3, h4, fun j s ej hs => ?_⟩
              by_cases hj : i = j
              · subst hj
                have ej' : (β2.set i .un)[i]? = some s := ej
                have hlt := (List.getElem?_eq_some_iff.mp ej').1
                rw [List.length_set] at hlt
                rw [List.getElem?_set_self hlt] at ej'
                cases ej'
                cases hs
              · have ej' : (β2.set i .un)[j]? = some s := ej
                rw [List.getElem?_set_ne hj] at ej'
                exact h5 j s ej' hs
  · exact hp.elim
theorem handle_post {G : GT} {io : List Addr} {W : WX} {D : Ends} {hds : List ExceptHandler} {hs : List Hd} (hh : HdB X hds hs) : ∃ l, HdX X hds l ∧ ∀ (F1 H1 : Hp) (β : B.Env) (σ : L2.St) (cls : Value) (d : Option Addr) (x : Exn), BI X.K X.mg G F1 io β σ H1 → XR X.K X.mg F1 cls d x →
    SPost X.K X.mg W G F1 io (handleB hs x β) D → wMix X.K W D l cls d σ H1 := by
  induction hh with
  | nil => exact ⟨[], .nil, fun F1 H1 β σ cls d x I hx hp => hp σ cls d H1 F1 .refl I hx⟩
  | @cons x c h b₀ suite np pos' hds l hi hc ht hsu r ih =>
    obtain ⟨l', hl, k⟩ := ih
    refine ⟨(c, none, fun a cls d => sOf X.K X.mg noW (h.m a cls d)) :: l', .cons hc (fun a oe cls d pn z f => hsu a oe cls d pn z f noW takes_no) hl, fun F1 H1 β σ cls d y I hx hp => ?_⟩
    unfold handleB at hp
    cases e : h.t y.cls with
    | none => rw [e] at hp; exact hp.elim
    | some b =>
      rw [e] at hp
      refine ⟨b, ht _ _ _ e hx.1, fun eb a na => ?_, fun eb => ?_⟩
      · subst eb
        have := suite_post (a := a) (h := h) I hx hp
        rwa [hi] at this
      · subst eb
        exact k F1 H1 β σ cls d y I hx hp
  | @named x n i c h b₀ suite np pos' hds l hi hc ht hN hn hln hsu r ih =>
    obtain ⟨l', hl, k⟩ := ih
    refine ⟨(c, some i, fun a cls d => sOf X.K X.mg noW (h.m a cls d)) :: l', .named hc hN hn hln (fun a oe cls d pn z f => hsu a oe cls d pn z f noW takes_no) hl, fun F1 H1 β σ cls d y I hx hp => ?_⟩
    unfold handleB at hp
    cases e : h.t y.cls with
    | none => rw [e] at hp; exact hp.elim
    | some b =>
      rw [e] at hp
      refine ⟨b, ht _ _ _ e hx.1, fun eb a na => ?_, fun eb => ?_⟩
      · subst eb
        have := suite_post (a := a) (h := h) I hx hp
        rwa [hi] at this
      · subst eb
        exact k F1 H1 β σ cls d y I hx hp
variable {body : List Stmt} {h₀ : ExceptHandler} {hds : List ExceptHandler} {hs : List Hd} {pos : Pos} {mb : M Fl}
theorem bs_try (hs0 : X.stack = X.env :: X.outer) (hf : X.env.frame = some X.env.locals) (hb : ∀ (pn : List (Addr × Obj)) (xe : Value → Shared → Prop), PassesOwn (model X.prog X.w) X.A X.env xe → BSs (X.tr pn xe) body mb) (hh : HdB X (h₀ :: hds) hs) :
    BS X (.Try body (h₀ :: hds) [] [] pos) (mTry mb hs) := by
  refine fun W tk => ⟨fun pins s σ H D I ⟨G, io, F, β, J, h⟩ => ?_⟩
  obtain ⟨l, hl, k⟩ := handle_post (G := G) (io := io) (W := W) (D := D) hh
  refine (ps_try_mix (tb := fun W => sOf X.K X.mg W mb) hs0 hf tk (fun W pn xe tk p => hb pn xe p W tk) hl).run pins s σ H D I ⟨G, io, F, β, J, ?_⟩
  unfold mTry at h
  cases e : mb β with
  | stuck => rw [e] at h; exact h.elim
  | ok f β1 => rw [e] at h; exact h
  | exc x β1 =>
    rw [e] at h
    exact fun σ1 cls d H1 F1 fe I1 hx => k F1 H1 β1 σ1 cls d x I1 hx (h.mono fe)
end
/-! ## in a suite -/
/-- what the written part says of an exception's class, so that isinstance answers -/
structure XIs (K : PySem.W.Frag) (mg : Str → Option Value) (c : Str) : Prop where
  ex : ∃ C : Addr, mg c = some (.ref C) ∧ (PySem.W.clsIn K C).isSome = true ∧ PySem.W.findIn K (.ref C) "__getattribute__" = some (some (.builtin "BaseException.__getattribute__")) ∧ PySem.W.findIn K (.ref C) "__getattr__" = some none ∧
    PySem.W.subIn K (.ref C) (.type "BaseException") = some true ∧ PySem.W.findIn K (.ref C) "__class__" = some (some (.builtin "object.__class__")) ∧ PySem.W.hasDictIn K C = true ∧ PySem.W.mroIn K C (.type "object") = some true
structure XObj (K : PySem.W.Frag) : Prop where
  hn : PySem.W.specialIn K (.builtin "object.__class__") "__get__" = some (some (.builtin "getset_descriptor.__get__"))
  ht : PySem.W.takesIn K (.builtin "object.__class__") = some true
/-- isinstance(e, T), e the exception that the suite holds -/
def rIsX (K : PySem.W.Frag) (cls : Value) (d : Option Addr) (a : Addr) : List V → Hp → VK → Prop := fun xs H Q => ∃ (c : V) (cv : Value) (b : Bool), xs = [.ref a, c] ∧ (∀ u, RelV c u → u = cv) ∧ PySem.W.kitOne K cls cv = some b ∧ (∀ dd, d = some dd → ∃ fs, H dd = some (.xd fs)) ∧ Q (.bl b) H
def rIsXT (K : PySem.W.Frag) (cls : Value) (d : Option Addr) (a : Addr) : List V → Hp → VK → Prop := fun xs H Q => ∃ (tp : Addr) (cs : List V) (us : List Value) (b : Bool), xs = [.ref a, .ref tp] ∧ H tp = some (.tup cs) ∧ Paired ClsV cs us ∧ PySem.W.kitAny K cls us = some b ∧ (∀ dd, d = some dd → ∃ fs, H dd = some (.xd fs)) ∧ Q (.bl b) H
theorem findObj_dataX {K : PySem.W.Frag} {C : Addr} {name : Str} {a g : Value} {od : Option Obj} {ns : Option Addr} (hc : (PySem.W.clsIn K C).isSome = true) (ha : PySem.W.findIn K (.ref C) name = some (some a)) (hg : PySem.W.specialIn K a "__get__" = some (some g)) (ht : PySem.W.takesIn K a = some true) : PySem.W.findObj K C od name = some (.bind g a) := by
  cases od with
  | none => exact PySem.W.findObj_dataN hc ha hg ht
  | some o => exact PySem.W.findObj_data hc ha hg ht
section
variable {X : Cx} {a : Addr} {oe : Obj} {pn : List (Addr × Obj)} {cls : Value} {d : Option Addr} {c : Str}
theorem inst_suite {pins : List (Addr × Obj)} {σ : L2.St} {H : Hp} {s : Shared} {C : Addr} (hz : Zc (.ref C) d oe) (hf : ∃ vs, oe.data = .fields vs) (I : Inv (X.suite a ((a, oe) :: pn)) pins σ H s) (hd : ∀ dd, d = some dd → ∃ fs, H dd = some (.xd fs)) : ∃ od, PySem.W.InstAt s.heap a oe C od := by
  obtain ⟨hget, _⟩ := I.pin (a, oe) (List.mem_append.mpr (.inl List.mem_cons_self))
  obtain ⟨vs, hv⟩ := hf
  obtain ⟨oc, odd, oda, osl⟩ := oe
  obtain ⟨h1, h2⟩ := hz
  dsimp only at h1 h2 hv
  subst h1 h2 hv
  cases odd with
  | none => exact ⟨none, hget, rfl, rfl, trivial⟩
  | some dd =>
    obtain ⟨fs, e⟩ := hd dd rfl
    obtain ⟨mA, ⟨o, es, ep, ho, _⟩, _⟩ := (show ObjOk X.prog X.w H s.heap dd (.xd fs) from I.hok dd _ e)
    exact ⟨some o, hget, rfl, rfl, ho⟩
theorem call_isX (Z : XIs X.K X.mg c) (O : XObj X.K) (hm : X.mg c = some cls) (hz : Zc cls d oe) (hf : ∃ vs, oe.data = .fields vs) : CallR (X.suite a ((a, oe) :: pn)) (.builtin "isinstance") (rIsX X.K cls d a) := by
  intro pins s σ H xs us Q I r h
  obtain ⟨C, gC, cl, h1, h2, h3, h4, h5, h6⟩ := Z.ex
  cases gC.symm.trans hm
  obtain ⟨k, cv, b, rfl, hcv, e, hd, q⟩ := h
  obtain ⟨u1, u2, rfl, r1, r2⟩ := vals2 r
  cases (show u1 = Value.ref a from r1)
  cases hcv _ r2
  obtain ⟨od, J⟩ := inst_suite hz hf I hd
  exact PySem.W.kia_one (PySem.W.kitx_exc cl h1 h2 h3 h4 O.hn O.ht h6) I.kIn J e (fun z => nomatch z) fun tk => ⟨.bl b, H, I.tok tk, rfl, q⟩
theorem call_isXT (Z : XIs X.K X.mg c) (O : XObj X.K) (hm : X.mg c = some cls) (hz : Zc cls d oe) (hf : ∃ vs, oe.data = .fields vs) : CallR (X.suite a ((a, oe) :: pn)) (.builtin "isinstance") (rIsXT X.K cls d a) := by
  intro pins s σ H xs us Q I r h
  obtain ⟨C, gC, cl, h1, h2, h3, h4, h5, h6⟩ := Z.ex
  cases gC.symm.trans hm
  obtain ⟨tp, cs, ws, b, rfl, hT, k, e, hd, q⟩ := h
  obtain ⟨u1, u2, rfl, r1, r2⟩ := vals2 r
  cases (show u1 = Value.ref a from r1)
  cases (show u2 = Value.ref tp from r2)
  obtain ⟨od, J⟩ := inst_suite hz hf I hd
  obtain ⟨_, its, rv, o, h1', h2', n, h3'⟩ := (show ObjOk X.prog X.w H s.heap tp (.tup cs) from I.hok tp _ hT)
  cases ClsV.all k rv
  obtain ⟨oc, od', dt, sl⟩ := o
  simp only at h2' h3'
  subst h2' h3'
  exact PySem.W.kia_tup (PySem.W.kitx_exc cl h1 h2 h3 h4 O.hn O.ht h6) I.kIn J h1' e (fun z => nomatch z) fun tk => ⟨.bl b, H, I.tok tk, rfl, q⟩
open Classical in
/-- isinstance(e, T), in the suite: by a table -/
noncomputable def mIsE (i : Nat) (tab : Str → Option Bool) (a : Addr) (cls : Value) (d : Option Addr) : M Rs := fun β => match β[i]? with
  | some (.ex z) => if z.a = a ∧ z.cls = cls ∧ z.dd = d then (match tab z.x.cls with
    | some b => .ok (.fz (.bl b)) β
    | none => .stuck) else .stuck
  | _ => .stuck
open Classical in
/-- e.f -/
noncomputable def mXf (i : Nat) (f : Str) (ok : Str → Bool) (a : Addr) (cls : Value) (d : Option Addr) : M Rs := fun β => match β[i]? with
  | some (.ex z) => if (z.a = a ∧ z.cls = cls ∧ z.dd = d) ∧ ok z.x.cls = true then (match z.x.fs.lookup f with
    | some v => .ok (.fz v) β
    | none => .stuck) else .stuck
  | _ => .stuck
/-- a class, by its name -/
inductive ClsNm (X : Cx) (y : Str) : V → Value → Prop
  | own (C : Addr) (hg : Gl X y) (hm : X.mg y = some (.ref C)) (hd : (y == ("__debug__" : Str)) = false) : ClsNm X y (.ref C) (.ref C)
  | ty (n : String) (hg : Gl X y) (hm : X.mg y = none) (hb : bootBuiltins y = some (.type n)) (hn : y ≠ "__name__") (hd : (y == ("__debug__" : Str)) = false) : ClsNm X y (.ty n) (.type n)
theorem ClsNm.clsV {y : Str} {v : V} {cv : Value} (h : ClsNm X y v cv) : ClsV v cv := by
  cases h with
  | own C => exact .own C
  | ty n => exact .ty n
theorem ClsNm.suite {y : Str} {v : V} {cv : Value} (h : ClsNm X y v cv) : ClsNm (X.suite a pn) y v cv := by
  cases h with
  | own C hg hm hd => exact .own C hg hm hd
  | ty n hg hm hb hn hd => exact .ty n hg hm hb hn hd
theorem pe_clsnm {y : Str} {v : V} {cv : Value} {pos : Pos} (h : ClsNm X y v cv) : PE X (.Name y pos) (tC v) := by
  cases h with
  | own C hg hm hd => exact pe_glob hg hm rfl hd
  | ty n hg hm hb hn hd => exact pe_bltn (v := .ty n) hg hm hb rfl hn hd
theorem XR.xd {K : PySem.W.Frag} {mg : Str → Option Value} {F H : Hp} {x : Exn} (h : XR K mg F cls d x) (sf : Same F H) : ∀ dd, d = some dd → ∃ fs, H dd = some (.xd fs) := fun dd e => by
  obtain ⟨_, ⟨_, h⟩ | ⟨dd', fs, ds, h, h2, _⟩⟩ := h
  · rw [h] at e
    cases e
  · rw [h] at e
    cases e
    exact ⟨fs, sf _ _ h2⟩
section
variable {x y : Str} {i : Nat} {p px py pos : Pos} {tab : Str → Option Bool} {v : V} {cv : Value}
/-- what a table says, rightly -/
def TabIs (X : Cx) (tab : Str → Option Bool) (cv : Value) : Prop := ∀ k b, tab k = some b → XIs X.K X.mg k ∧ ∀ cls, X.mg k = some cls → PySem.W.kitOne X.K cls cv = some b
theorem be_isE (hz : Zc cls d oe) (hf : ∃ vs, oe.data = .fields vs) (O : XObj X.K) (cn : ClsNm X y v cv) (ht : TabIs X tab cv) (hm : X.mg "isinstance" = none) (hN : X.N[i]? = some x) (hv : Vis X.env.scope x) (hg : Gl X "isinstance" := by rfl)
    (hd : (x == ("__debug__" : Str)) = false := by decide) (hcd : (x == ("__classdict__" : Str)) = false := by decide) (he : starEach [.Name x px, .Name y py] (X.suite a ((a, oe) :: pn)).env = (false, eval (.Name x px) (X.suite a ((a, oe) :: pn)).env) :: starEach [.Name y py] (X.suite a ((a, oe) :: pn)).env := by rfl) :
    BE (X.suite a ((a, oe) :: pn)) (.Call (.Name "isinstance" p) [.Name x px, .Name y py] [] pos) (mIsE i tab a cls d) := by
  refine fun W tk => ⟨fun pins s σ H Q I ⟨G, io, F, β, J, h⟩ => ?_⟩
  unfold mIsE at h
  cases e : β[i]? with
  | none => rw [e] at h; exact h.elim
  | some sl =>
    cases sl with
    | un => rw [e] at h; exact h.elim
    | fz _ => rw [e] at h; exact h.elim
    | own _ _ => rw [e] at h; exact h.elim
    | gh _ => rw [e] at h; exact h.elim
    | ex z =>
      rw [e] at h
      simp only at h
      split at h
      · rename_i hc
        obtain ⟨c1, c2, c3⟩ := hc
        subst c1 c2 c3
        cases et : tab z.x.cls with
        | none => rw [et] at h; exact h.elim
        | some b =>
          rw [et] at h
          obtain ⟨o, eo, rfl, xz⟩ := J.sl i _ e
          have xr := xz.r
          obtain ⟨Z, hk⟩ := ht _ _ et
          exact (pe_callB (call_isX Z O xr.1 hz hf) hg hm boot_isinstance (pa_cons (pe_var hN hv hd hcd) (pa_cons (pe_clsnm cn.suite) pa_nil)) (by decide) (by decide) he).run pins s σ H Q I
            ⟨_, eo, v, cv, b, rfl, fun u r => cn.clsV.eq r, hk _ xr.1, xr.xd J.sf, h _ H F .refl J (.bl b)⟩
      · exact h.elim
/-- the items' classes -/
inductive ClsNms (X : Cx) : List Str → List V → List Value → Prop
  | nil : ClsNms X [] [] []
  | cons {y : Str} {ys : List Str} {v : V} {vs : List V} {c : Value} {cs : List Value} : ClsNm X y v c → ClsNms X ys vs cs → ClsNms X (y :: ys) (v :: vs) (c :: cs)
theorem ClsNms.paired {ys : List Str} {vs : List V} {cs : List Value} (h : ClsNms X ys vs cs) : Paired ClsV vs cs := by
  induction h with
  | nil => exact .nil
  | cons a _ ih => exact .cons a.clsV ih
def tCs : List V → TA
  | [] => tNil
  | v :: vs => tCons (tC v) (tCs vs)
theorem tCs_run : ∀ {vs : List V} {σ : L2.St} {H : Hp} {Q : List V → Hp → Prop}, Q vs H → tCs vs σ H Q
  | [], _, _, _, h => h
  | v :: vs, _, _, _, h => tCs_run (vs := vs) h
def TabIsT (X : Cx) (tab : Str → Option Bool) (cs : List Value) : Prop := ∀ k b, tab k = some b → XIs X.K X.mg k ∧ ∀ cls, X.mg k = some cls → PySem.W.kitAny X.K cls cs = some b
theorem be_isET {ys : List Str} {vs : List V} {cs : List Value} {es : List Expr} {x1 : Nat} {tpos : Pos} (hz : Zc cls d oe) (hf : ∃ vs, oe.data = .fields vs) (O : XObj X.K) (cn : ClsNms X ys vs cs) (hes : PA (X.suite a ((a, oe) :: pn)) es (tCs vs)) (ht : TabIsT X tab cs) (hm : X.mg "isinstance" = none) (hN : X.N[i]? = some x) (hv : Vis X.env.scope x) (hg : Gl X "isinstance" := by rfl)
    (hl : vs.length ≤ 100 := by decide) (hd : (x == ("__debug__" : Str)) = false := by decide) (hcd : (x == ("__classdict__" : Str)) = false := by decide)
    (he : starEach [.Name x px, .Tuple es x1 tpos] (X.suite a ((a, oe) :: pn)).env = (false, eval (.Name x px) (X.suite a ((a, oe) :: pn)).env) :: starEach [.Tuple es x1 tpos] (X.suite a ((a, oe) :: pn)).env := by rfl) :
    BE (X.suite a ((a, oe) :: pn)) (.Call (.Name "isinstance" p) [.Name x px, .Tuple es x1 tpos] [] pos) (mIsE i tab a cls d) := by
  refine fun W tk => ⟨fun pins s σ H Q I ⟨G, io, F, β, J, h⟩ => ?_⟩
  unfold mIsE at h
  cases e : β[i]? with
  | none => rw [e] at h; exact h.elim
  | some sl =>
    cases sl with
    | un => rw [e] at h; exact h.elim
    | fz _ => rw [e] at h; exact h.elim
    | own _ _ => rw [e] at h; exact h.elim
    | gh _ => rw [e] at h; exact h.elim
    | ex z =>
      rw [e] at h
      simp only at h
      split at h
      · rename_i hc
        obtain ⟨c1, c2, c3⟩ := hc
        subst c1 c2 c3
        cases et : tab z.x.cls with
        | none => rw [et] at h; exact h.elim
        | some b =>
          rw [et] at h
          obtain ⟨o, eo, rfl, xz⟩ := J.sl i _ e
          have xr := xz.r
          obtain ⟨Z, hk⟩ := ht _ _ et
          refine (pe_callB (call_isXT Z O xr.1 hz hf) hg hm boot_isinstance (pa_cons (pe_var hN hv hd hcd) (pa_cons (pe_tup hes) pa_nil)) (by decide) (by decide) he).run pins s σ H Q I ?_
          refine ⟨_, eo, tCs_run ⟨by rw [sizeLine_eq]; omega, fun tp htp => ?_⟩⟩
          have sh : Same H (upd H tp (.tup vs)) := fun b u hb => by
            rw [upd_ne (ne_of_none hb htp)]
            exact hb
          obtain ⟨fe, J'⟩ := J.grow sh (Same.refl F) (fun _ _ h => .inl h) (J.sf.trans sh)
          exact ⟨tp, vs, cs, b, rfl, upd_same, cn.paired, hk _ xr.1, xr.xd J'.sf, h _ _ F fe J' (.bl b)⟩
      · exact h.elim
/-- an exception's field may be read -/
structure XFld (K : PySem.W.Frag) (mg : Str → Option Value) (c f : Str) : Prop where
  ex : ∃ C : Addr, mg c = some (.ref C) ∧ XfC K C ∧ PySem.W.findIn K (.ref C) f = some none
theorem be_xf {f : Str} {ok : Str → Bool} (hz : Zc cls d oe) (hf : ∃ vs, oe.data = .fields vs) (ht : ∀ k, ok k = true → XFld X.K X.mg k f) (hN : X.N[i]? = some x) (hv : Vis X.env.scope x) (hd : (x == ("__debug__" : Str)) = false := by decide) (hcd : (x == ("__classdict__" : Str)) = false := by decide)
    (hb : attributeBase (.Name x px) f (X.suite a ((a, oe) :: pn)).env (eval (.Name x px) (X.suite a ((a, oe) :: pn)).env) = eval (.Name x px) (X.suite a ((a, oe) :: pn)).env := by rfl) : BE (X.suite a ((a, oe) :: pn)) (.Attribute (.Name x px) f pos) (mXf i f ok a cls d) := by
  refine fun W tk => ⟨fun pins s σ H Q I ⟨G, io, F, β, J, h⟩ => ?_⟩
  unfold mXf at h
  cases e : β[i]? with
  | none => rw [e] at h; exact h.elim
  | some sl =>
    cases sl with
    | un => rw [e] at h; exact h.elim
    | fz _ => rw [e] at h; exact h.elim
    | own _ _ => rw [e] at h; exact h.elim
    | gh _ => rw [e] at h; exact h.elim
    | ex z =>
      rw [e] at h
      simp only at h
      split at h
      · rename_i hc
        obtain ⟨⟨c1, c2, c3⟩, hok⟩ := hc
        subst c1 c2 c3
        cases el : z.x.fs.lookup f with
        | none => rw [el] at h; exact h.elim
        | some w =>
          rw [el] at h
          obtain ⟨o, eo, rfl, xz⟩ := J.sl i _ e
          obtain ⟨hm, xr⟩ := xz.r
          obtain ⟨C, gC, T, nf⟩ := (ht _ hok).ex
          have ec : z.cls = .ref C := Option.some.inj (hm.symm.trans gC)
          rcases xr with ⟨ef, _⟩ | ⟨dd, fs, ds, e1, e2, e3, e4, e5⟩
          · rw [ef] at el
            cases el
          · have key : ((fs.map (·.1)).zip ds).lookup f = some w := by
              rw [e3, e5]
              have : (z.x.fs.map (·.1)).zip (z.x.fs.map (·.2)) = z.x.fs := by
                generalize z.x.fs = l
                induction l with
                | nil => rfl
                | cons q l ih => rw [List.map_cons, List.map_cons, List.zip_cons_cons, ih]
              rw [this]
              exact el
            obtain ⟨v', ev, dr⟩ := DRs.look e4 key
            refine (pe_xf T nf (ec ▸ hz) hf (pe_var hN hv hd hcd) hb).run pins s σ H Q I ?_
            exact ⟨_, eo, rfl, rfl, dd, fs, v', e1, J.sf _ _ e2, ev, h _ H F .refl J dr⟩
      · exact h.elim
/-! operations there -/
theorem os_eq {k : Nat} (r : RoomG k X.A) : OpD (X.suite a pn) (compareOp .Eq) gEq := opd_eq (X := X.suite a pn) r.u64
theorem os_ne {k : Nat} (r : RoomG k X.A) : OpD (X.suite a pn) (compareOp .NotEq) gNe := opd_ne (X := X.suite a pn) r.u64
theorem os_in {k : Nat} (r : RoomG k X.A) : OpD (X.suite a pn) (compareOp .In) gIn := opd_in (X := X.suite a pn) r.u65
end
end
/-! ## by what is wished for -/
section
variable {β : B.Env} {Q : Fl → B.Env → Prop} {E : Exn → B.Env → Prop}
@[simp ↓] theorem W_raise0 {c : Str} : W (mRaise0 c) β Q E ↔ E ⟨c, []⟩ β := by with_unfolding_all exact Iff.rfl
def plD (q : Pl) (P : D → Prop) : Prop := match q with
  | .d d => P d
  | _ => False
@[simp ↓] theorem plD_d {d : D} {P : D → Prop} : plD (.d d) P ↔ P d := Iff.rfl
@[simp ↓] theorem W_raiseI {c f : Str} {ma : M Pl} : W (mRaiseI c f ma) β Q E ↔ W ma β (fun q β1 => plD q fun d => E ⟨c, [(f, d)]⟩ β1) E := by
  unfold mRaiseI
  refine W_bnd.trans (W_congr fun q β1 => ?_)
  cases q <;> with_unfolding_all exact Iff.rfl
theorem W_try {mb : M Fl} {hs : List Hd} (h : W mb β Q fun x β1 => W (handleB hs x) β1 Q E) : W (mTry mb hs) β Q E := by
  unfold W mTry at *
  cases e : mb β with
  | stuck => rw [e] at h; exact h
  | ok f β1 => rw [e] at h; exact h
  | exc x β1 => rw [e] at h; exact h
theorem W_hnil {x : Exn} (h : E x β) : W (handleB [] x) β Q E := by
  unfold W handleB
  exact h
theorem W_hno {h : Hd} {r : List Hd} {x : Exn} (e : h.t x.cls = some false) (k : W (handleB r x) β Q E) : W (handleB (h :: r) x) β Q E := by
  have : handleB (h :: r) x = handleB r x := by
    funext b
    show (match h.t x.cls with
      | some true => _
      | some false => handleB r x b
      | none => .stuck) = _
    rw [e]
  rw [this]
  exact k
theorem W_hyes {h : Hd} {r : List Hd} {x : Exn} (f0 : Fl) (β0 : B.Env) (e : h.t x.cls = some true) (k : ∀ a c d, W (h.m a c d) (exSl h.i (ez a c d x) β) (fun f β1 => f = f0 ∧ unSl h.i β1 = β0) fun _ _ => False) (q : Q f0 β0) : W (handleB (h :: r) x) β Q E := by
  have al : ∀ a c d, suiteR h.i (h.m a c d (exSl h.i (ez a c d x) β)) = .ok f0 β0 := fun a c d => by
    have := k a c d
    unfold W at this
    cases e : h.m a c d (exSl h.i (ez a c d x) β) with
    | stuck => rw [e] at this; exact this.elim
    | exc y β1 => rw [e] at this; exact this.elim
    | ok f β1 =>
      rw [e] at this
      obtain ⟨rfl, rfl⟩ := this
      rfl
  have ex : handleB (h :: r) x β = .ok f0 β0 := by
    show (match h.t x.cls with
      | some true => exRun fun a c d => suiteR h.i (h.m a c d (exSl h.i (ez a c d x) β))
      | some false => handleB r x β
      | none => .stuck) = _
    rw [e]
    show exRun _ = _
    unfold exRun
    rw [if_pos fun a c d => (al a c d).trans (al 0 .none none).symm]
    exact al _ _ _
  exact W.of_eq ex q
def exW (s : Option Sl) (P : Ez → Prop) : Prop := match s with
  | some (.ex z) => P z
  | _ => False
@[simp ↓] theorem exW_ex {z : Ez} {P : Ez → Prop} : exW (some (.ex z)) P ↔ P z := Iff.rfl
@[simp ↓] theorem W_mIsE {i : Nat} {tab : Str → Option Bool} {a : Addr} {cls : Value} {d : Option Addr} {Q : Rs → B.Env → Prop} : W (mIsE i tab a cls d) β Q E ↔ exW β[i]? fun z => (z.a = a ∧ z.cls = cls ∧ z.dd = d) ∧ optW (tab z.x.cls) fun b => Q (.fz (.bl b)) β := by
  unfold W mIsE exW
  rcases β[i]? with _ | _ | _ | z | ⟨_, _⟩ | _
  · with_unfolding_all rfl
  · with_unfolding_all rfl
  · with_unfolding_all rfl
  · simp only
    by_cases h : z.a = a ∧ z.cls = cls ∧ z.dd = d
    · rw [if_pos h]
      cases tab z.x.cls with
      | none => simp [h]
      | some b => simp [h]
    · rw [if_neg h]
      simp [h]
  · with_unfolding_all rfl
  · with_unfolding_all rfl
@[simp ↓] theorem W_mXf {i : Nat} {f : Str} {ok : Str → Bool} {a : Addr} {cls : Value} {d : Option Addr} {Q : Rs → B.Env → Prop} : W (mXf i f ok a cls d) β Q E ↔ exW β[i]? fun z => ((z.a = a ∧ z.cls = cls ∧ z.dd = d) ∧ ok z.x.cls = true) ∧ optW (z.x.fs.lookup f) fun w => Q (.fz w) β := by
  unfold W mXf exW
  rcases β[i]? with _ | _ | _ | z | ⟨_, _⟩ | _
  · with_unfolding_all rfl
  · with_unfolding_all rfl
  · with_unfolding_all rfl
  · simp only
    by_cases h : (z.a = a ∧ z.cls = cls ∧ z.dd = d) ∧ ok z.x.cls = true
    · rw [if_pos h]
      cases z.x.fs.lookup f with
      | none => simp [h]
      | some b => simp [h]
    · rw [if_neg h]
      simp [h]
  · with_unfolding_all rfl
  · with_unfolding_all rfl
end
end B

set_option Elab.async false
set_option linter.all false
set_option maxRecDepth 100000
set_option maxHeartbeats 4000000
namespace B
open PySem PySem.Spec L2
open PySem.W (dataLt alike dataLe AllAlike Sortable)
/-! ## order of data -/
def cmpOk (d e : D) : Bool := ((toPy d).canLay0 && (toPy e).canLay0) && (alike (toPy d) (toPy e) && !isN d) && decide ((toPy d).depth ≤ 64)
def gLtX : D → D → Option Rs
  | .int i, .int j => some (.fz (.bl (decide (i < j))))
  | d, e => if cmpOk d e = true then some (.fz (.bl (dataLt (toPy d) (toPy e)))) else none
def gGtX : D → D → Option Rs
  | .int i, .int j => some (.fz (.bl (decide (j < i))))
  | d, e => if cmpOk d e = true then some (.fz (.bl (dataLt (toPy e) (toPy d)))) else none
def gLtD (d e : D) : Option Rs := if cmpOk d e = true then some (.fz (.bl (dataLt (toPy d) (toPy e)))) else none
def gGtD (d e : D) : Option Rs := if cmpOk d e = true then some (.fz (.bl (dataLt (toPy e) (toPy d)))) else none
theorem isN_py {d : D} (h : isN d = false) : toPy d ≠ .none := by
  cases d with
  | nd t ds => rcases t with _ | _ | _ | _ | _ <;> (intro q; cases q)
  | non => cases h
  | bl b => intro q; cases q
  | int b => intro q; cases q
  | str b => intro q; cases q
section
variable {X : Cx}
theorem opd_ltD (hu : X.A.units + 64 < cLine) : OpD X (compareOp .Lt) gLtD := by
  intro pins s σ H x y v u Q I rx ry ⟨F, d, e, rs, sf, hx, hy, hg, q⟩
  unfold gLtD at hg
  split at hg
  · rename_i hc
    cases hg
    unfold cmpOk at hc
    simp only [Bool.and_eq_true, decide_eq_true_eq, Bool.not_eq_true'] at hc
    obtain ⟨⟨⟨h1, h2⟩, h3, h4⟩, h5⟩ := hc
    obtain ⟨as, ra⟩ := Dp.reads I _ _ _ ((hx.dr sf).dp h1) rx
    obtain ⟨bs, rb⟩ := Dp.reads I _ _ _ ((hy.dr sf).dp h2) ry
    exact PySem.W.lt_data ra rb h3 (isN_py h4) (by omega) ⟨.bl _, H, I, rfl, q _ _ (NR.val sf (.bl _))⟩
  · cases hg
theorem opd_gtD (hu : X.A.units + 64 < cLine) : OpD X (compareOp .Gt) gGtD := by
  intro pins s σ H x y v u Q I rx ry ⟨F, d, e, rs, sf, hx, hy, hg, q⟩
  unfold gGtD at hg
  split at hg
  · rename_i hc
    cases hg
    unfold cmpOk at hc
    simp only [Bool.and_eq_true, decide_eq_true_eq, Bool.not_eq_true'] at hc
    obtain ⟨⟨⟨h1, h2⟩, h3, h4⟩, h5⟩ := hc
    obtain ⟨as, ra⟩ := Dp.reads I _ _ _ ((hx.dr sf).dp h1) rx
    obtain ⟨bs, rb⟩ := Dp.reads I _ _ _ ((hy.dr sf).dp h2) ry
    exact PySem.W.gt_data ra rb h3 (isN_py h4) (by omega) ⟨.bl _, H, I, rfl, q _ _ (NR.val sf (.bl _))⟩
  · cases hg
theorem od_ltX {k : Nat} (r : RoomG k X.A) : OpD X (compareOp .Lt) gLtX := by
  refine ((od_lt).alt (opd_ltD r.u64)).congr fun d e rs h => ?_
  unfold gLtX at h
  split at h
  · exact h
  · rename_i hn
    have e0 : gLt d e = none := by
      unfold gLt gC
      split
      · exact (hn _ _ rfl rfl).elim
      · rfl
    rw [e0]
    exact h
theorem od_gtX {k : Nat} (r : RoomG k X.A) : OpD X (compareOp .Gt) gGtX := by
  refine ((od_gt).alt (opd_gtD r.u64)).congr fun d e rs h => ?_
  unfold gGtX at h
  split at h
  · exact h
  · rename_i hn
    have e0 : gGt d e = none := by
      unfold gGt gC
      split
      · exact (hn _ _ rfl rfl).elim
      · rfl
    rw [e0]
    exact h
end
@[simp ↓] theorem w_ltX {i j : Int} {P : Rs → Prop} : optW (gLtX (.int i) (.int j)) P ↔ P (.fz (.bl (decide (i < j)))) := Iff.rfl
@[simp ↓] theorem w_gtX {i j : Int} {P : Rs → Prop} : optW (gGtX (.int i) (.int j)) P ↔ P (.fz (.bl (decide (j < i)))) := Iff.rfl
/-! ## sorted -/
def leD (a b : D) : Bool := dataLe false toPy a b
def sortD (ds : List D) : List D := ds.mergeSort leD
/-- what sorted asks of the items -/
def sortOk (ds : List D) : Prop := (∀ d ∈ ds, (toPy d).canLay0 = true ∧ (toPy d).depth ≤ 50) ∧ AllAlike (ds.map toPy) ∧ Sortable (ds.map toPy)
open Classical in
noncomputable def gSorted : List D → Option Rs
  | [.nd .lst ds] => if sortOk ds then some (.own (.nd .lst (sortD ds))) else none
  | [.nd .tup ds] => none
  | _ => none
theorem DRs.zip {K : PySem.W.Frag} {mg : Str → Option Value} {F : Hp} : ∀ {vs : List V} {ds : List D}, DRs K mg F vs ds → ∀ p ∈ vs.zip ds, DR K mg F p.1 p.2
  | _, _, .nil, p, h => by cases h
  | _, _, .cons a b, p, h => by
    rw [List.zip_cons_cons] at h
    rcases List.mem_cons.mp h with rfl | h
    · exact a
    · exact DRs.zip b p h
theorem DRs.of_zip {K : PySem.W.Frag} {mg : Str → Option Value} {F : Hp} : ∀ {ps : List (V × D)}, (∀ p ∈ ps, DR K mg F p.1 p.2) → DRs K mg F (ps.map (·.1)) (ps.map (·.2))
  | [], _ => .nil
  | p :: ps, h => .cons (h p List.mem_cons_self) (DRs.of_zip fun q hq => h q (List.mem_cons_of_mem _ hq))
theorem zip_fst {α β : Type} : ∀ {as : List α} {bs : List β}, as.length = bs.length → (as.zip bs).map (·.1) = as
  | [], [], _ => rfl
  | a :: as, b :: bs, h => by rw [List.zip_cons_cons, List.map_cons, zip_fst (Nat.succ.inj h)]
theorem zip_snd {α β : Type} : ∀ {as : List α} {bs : List β}, as.length = bs.length → (as.zip bs).map (·.2) = bs
  | [], [], _ => rfl
  | a :: as, b :: bs, h => by rw [List.zip_cons_cons, List.map_cons, zip_snd (Nat.succ.inj h)]
theorem each_vals : ∀ {vs : List V} {us : List Value} {ds : List D}, Vals vs us → vs.length = ds.length → PySem.W.EachIs (fun u (p : V × D) => RelV p.1 u) us (vs.zip ds)
  | _, _, [], .nil, _ => .nil
  | _, _, d :: ds, .cons r t, h => .cons r (each_vals t (Nat.succ.inj h))
theorem vals_each : ∀ {us : List Value} {ps : List (V × D)}, PySem.W.EachIs (fun u (p : V × D) => RelV p.1 u) us ps → Vals (ps.map (·.1)) us
  | _, _, .nil => .nil
  | _, _, .cons r t => .cons r (vals_each t)
section
variable {X : Cx}
theorem cd_sorted (hu : X.A.units + 64 < cLine) : CallD X (.builtin "sorted") gSorted := by
  intro pins s σ H xs us Q I r ⟨F, ds, rs, sf, hx, hg, q⟩
  unfold gSorted at hg
  split at hg
  · rename_i ds
    split at hg
    · rename_i hc
      cases hg
      obtain ⟨c1, c2, c3⟩ := hc
      cases hx with
      | cons h1 h2 =>
        cases h2
        cases h1 with
        | @lst a vs _ ha rd =>
          rw [Vals.ref1 r]
          obtain ⟨its, rv, hl, hz⟩ := I.list (xs := vs) (.inl (.inl ha))
          have el := rd.length
          have rdH := rd.mono sf
          have e0 := each_vals rv el
          have er : PySem.W.EachIs (fun v (p : V × D) => ∃ as, PySem.Reads s.heap v (toPy p.2) as) its (vs.zip ds) := by
            have key : ∀ {vs : List V} {us : List Value} {ds : List D}, Vals vs us → DRs X.K X.mg H vs ds → (∀ d ∈ ds, (toPy d).canLay0 = true) → PySem.W.EachIs (fun v (p : V × D) => ∃ as, PySem.Reads s.heap v (toPy p.2) as) us (vs.zip ds) := by
              intro vs us ds r1 r2
              induction r1 generalizing ds with
              | nil => intro _; exact .nil
              | cons a b ih =>
                intro h
                cases r2 with
                | cons c d => exact .cons (Dp.reads I _ _ _ (c.dp (h _ List.mem_cons_self)) a) (ih d fun x hx => h x (List.mem_cons_of_mem _ hx))
            exact key rv rdH fun d hd => (c1 d hd).1
          have em : (vs.zip ds).map (fun p => toPy p.2) = ds.map toPy := by
            rw [show (fun p : V × D => toPy p.2) = toPy ∘ (fun p : V × D => p.2) from rfl, ← List.map_map, zip_snd el]
          refine PySem.W.sorted_data (enc := fun p : V × D => toPy p.2) hl.isList e0 er (by rw [em]; exact c2) (by rw [em]; exact c3) (by rw [List.length_zip, ← el, Nat.min_self]; exact hz) (fun p hp => ?_) fun out ho eo => ?_
          · have := (c1 p.2 (List.of_mem_zip hp).2).2
            omega
          · obtain ⟨ep, he'⟩ := PyProof.Rows.sortedAll_at s.heap its out.toArray
            have n2 : H (s.heap.objs.size + 1) = none := I.hok.fresh (Nat.le_succ _)
            have rz := vals_each eo
            have hlen : (((vs.zip ds).mergeSort (dataLe false fun p : V × D => toPy p.2)).map (·.1)).length ≤ sizeLine := by
              rw [List.length_map, List.length_mergeSort, List.length_zip, ← el, Nat.min_self]
              exact hz
            refine ⟨.ref _, upd H (s.heap.objs.size + 1) (.lst (((vs.zip ds).mergeSort (dataLe false fun p : V × D => toPy p.2)).map (·.1))), I.laid (t' := s.toks) (fun _ _ => PyProof.Rows.sortedAll_old) (Nat.le_succ _) ⟨hlen, out, ep, rz, he'⟩, rfl, q _ _ ?_⟩
            have ed : ((vs.zip ds).mergeSort (dataLe false fun p : V × D => toPy p.2)).map (·.2) = sortD ds := by
              have e1 := List.map_mergeSort (r := dataLe false fun p : V × D => toPy p.2) (s := leD) (f := fun p : V × D => p.2) (l := vs.zip ds) (fun a _ b _ => rfl)
              rw [zip_snd el] at e1
              exact e1
            rw [← ed]
            exact NR.lst n2 (DRs.of_zip fun p hp => rd.zip p (List.mem_mergeSort.mp hp))
    · cases hg
  · cases hg
  · cases hg
end
/-! ## methods that read -/
def isTyP : String → D → Bool
  | "list", .nd .lst _ => true
  | "dict", .nd .dct _ => true
  | "str", .str _ => true
  | "list", .nd .scr _ => true
  | _, _ => false
def MetD (X : Cx) (T id : String) (g : D → List D → Option Rs) : Prop := ∃ r, MtR X id r ∧ ∀ (F H : Hp) (x : V) (d : D) (xs : List V) (ds : List D) (rs : Rs) (Q : VK), Same F H → HR X.K X.mg F H x d → HRs X.K X.mg F H xs ds → isTyP T d = true → g d ds = some rs → (∀ z H', NR X.K X.mg F H rs z H' → Q z H') → r x xs H Q
theorem isTyP_v {K : PySem.W.Frag} {mg : Str → Option Value} {F H : Hp} {x : V} {T : String} {d : D} (h : HR K mg F H x d) (e : isTyP T d = true) : tyV K T x H := by
  unfold isTyP at e
  split at e
  · cases h with
    | lst h r => exact .inl ⟨rfl, _, .inl (.inl h)⟩
  · cases h with
    | dK h r q => exact .inr (.inr (.inl ⟨rfl, .inl ⟨_, h⟩⟩))
    | dT h r q => exact .inr (.inr (.inl ⟨rfl, .inr ⟨_, h⟩⟩))
  · cases h
    rfl
  · cases h with
    | scr h r => exact .inl ⟨rfl, _, h⟩
  · cases e
def tyP (T : String) (p : Pl) : M Unit := fun β => match look β p with
  | some d => if isTyP T d = true then .ok () β else .stuck
  | none => .stuck
def finMet (T : String) (g : D → List D → Option Rs) (p : Pl) (ps : List Pl) : M Rs := fun β => match look β p, looks β ps with
  | some d, some ds => if isTyP T d = true then (match g d ds with
    | some r => .ok r β
    | none => .stuck) else .stuck
  | _, _ => .stuck
def mMet (T : String) (g : D → List D → Option Rs) (mo : M Pl) (ma : M (List Pl)) : M Rs := bnd mo fun p => bnd (tyP T p) fun _ => bnd ma fun ps => finMet T g p ps
section
variable {X : Cx} {apos cpos : Pos} {o e : Expr} {es : List Expr} {mo : M Pl} {ma : M (List Pl)} {T id' : String} {name : Str} {g : D → List D → Option Rs}
theorem finMet_post {W : WX} {G : GT} {F H : Hp} {io : List Addr} {β : B.Env} {σ : L2.St} {p : Pl} {ps : List Pl} {v : V} {vs : List V} {r : V → List V → Hp → VK → Prop} {Q : VK} (I : BI X.K X.mg G F io β σ H) (rv : PR X.K X.mg F σ v p) (rp : PRs X.K X.mg F σ vs ps)
    (k : ∀ (F H : Hp) (x : V) (d : D) (xs : List V) (ds : List D) (rs : Rs) (Q : VK), Same F H → HR X.K X.mg F H x d → HRs X.K X.mg F H xs ds → isTyP T d = true → g d ds = some rs → (∀ z H', NR X.K X.mg F H rs z H' → Q z H') → r x xs H Q)
    (h : Post X.K X.mg W (relE X.K X.mg) G F io σ (finMet T g p ps β) Q) : r v vs H Q := by
  unfold finMet at h
  cases e1 : look β p with
  | none => rw [e1] at h; exact h.elim
  | some d =>
    cases e2 : looks β ps with
    | none => rw [e1, e2] at h; exact h.elim
    | some ds =>
      rw [e1, e2] at h
      simp only at h
      split at h
      · rename_i ht
        cases e3 : g d ds with
        | none => rw [e3] at h; exact h.elim
        | some rs =>
          rw [e3] at h
          refine k F H v d vs ds rs Q I.sf (I.look rv e1) (I.looks rp e2) ht e3 fun z H' n => ?_
          obtain ⟨F', fe, I', rr⟩ := I.step n
          exact h z H' F' fe I' rr
      · exact h.elim
theorem be_met (pa : PlainAttrs T) (slot : Slot T name id') (hty : typeOf (.builtin id') = pure (.type "method_descriptor")) (hm : MetD X T id' g) (ho : BP X o mo) (ha : BA X (e :: es) ma)
    (hbase : attributeBase o name X.env (eval o X.env) = eval o X.env := by rfl)
    (hfew : ((backTo cpos (starEach (e :: es) X.env)).all (fun x => !x.1) && (backToKw cpos (keywordEach [] X.env)).all (fun x => x.1.isSome)
      && decide ((e :: es).length + ([] : List Keyword).length + (if ([] : List Keyword).isEmpty then 0 else 1) < 30)) = true := by rfl)
    (hline : (apos.endLine == cpos.line) = true := by rfl) (hs : starEach (e :: es) X.env = (false, eval e X.env) :: starEach es X.env := by rfl) (hplain : (backTo cpos (starEach es X.env)).any (·.1) = false := by rfl) :
    BE X (.Call (.Attribute o name apos) (e :: es) [] cpos) (mMet T g mo ma) := by
  obtain ⟨r, hr, k⟩ := hm
  refine fun W tk => (pe_bm pa slot hty hr (ho W tk) (ha W tk) hbase hfew hline hs hplain).imp fun σ H Q ⟨G, io, F, β, I, h⟩ => ⟨G, io, F, β, I, h.bnd fun p β1 v H1 F1 fe1 I1 r1 h1 => ?_⟩
  unfold bnd tyP at h1
  cases e1 : look β1 p with
  | none => rw [e1] at h1; exact h1.elim
  | some d =>
    rw [e1] at h1
    simp only at h1
    by_cases ht : isTyP T d = true
    · rw [if_pos ht] at h1
      refine ⟨isTyP_v (I1.look r1 e1) ht, G, io, F1, β1, I1, Post.bnd (f := fun ps => finMet T g p ps) (h1.mono fe1) fun ps β2 vs H2 F2 fe2 I2 r2 h2 => ?_⟩
      exact finMet_post I2 (r1.mono fe2.same) r2 k (h2.mono fe2)
    · rw [if_neg ht] at h1
      exact h1.elim
/-! list.count, list.index -/
def gCount : D → List D → Option Rs
  | .nd .lst ds, [d] => if shp d = true ∧ shp (.nd .lst ds) = true ∧ PyData.plainAll (toPys ds) = true ∧ (toPy d).plain = true then some (.fz (.int (ds.countP fun z => eqv z d : Nat))) else none
  | _, _ => none
theorem count_py (d : D) : ∀ ds : List D, ((toPys ds).countP fun z => PyData.eqv z (toPy d)) = ds.countP fun z => eqv z d
  | [] => rfl
  | e :: ds => by
    rw [toPys, List.countP_cons, List.countP_cons, count_py d ds]
    rfl
def rCountD (K : PySem.W.Frag) : V → List V → Hp → VK → Prop := fun x xs H Q => ∃ (a : Addr) (y : V) (d : PyData) (ds : List PyData), x = V.ref a ∧ xs = [y] ∧ Dp K H (V.ref a) (.list ds) ∧ Dp K H y d ∧ PyData.plainAll ds = true ∧ d.plain = true ∧ min (PyData.depthAll ds) d.depth ≤ 64 ∧ Q (.int (ds.countP fun z => PyData.eqv z d : Nat)) H
theorem mt_countD (hu : X.A.units + 65 < cLine) : MtR X "list.count" (rCountD X.K) := by
  intro pins s σ H x xs v us Q I rx rxs h
  obtain ⟨a, y, d, ds, rfl, rfl, hl, hy, p1, p2, p3, q⟩ := h
  cases rx
  obtain ⟨u, rfl, ru⟩ := rxs.one
  obtain ⟨bs, rb⟩ := Dp.reads I _ _ _ hy ru
  cases hl with
  | lst hs ha =>
    obtain ⟨its, rv, hp, _⟩ := I.list hs
    obtain ⟨as, ra⟩ := Dp.readsAll I _ _ _ ha rv
    exact SeqAt.count_list_data hp.isList (by simpa using ra) rb p1 p2 (by omega) ⟨.int _, H, I.tok _, ⟨s.toks, rfl⟩, q⟩
theorem md_count {k : Nat} (r : RoomG k X.A) : MetD X "list" "list.count" gCount := by
  refine ⟨_, mt_countD r.u65, fun F H x d xs ds rs Q sf hx hxs ht hg q => ?_⟩
  unfold gCount at hg
  split at hg
  · split at hg
    · rename_i l e hc
      obtain ⟨h1, h2, h3, h4⟩ := hc
      cases hg
      cases hxs with
      | cons he hn =>
        cases hn
        have hl := (hx.dr sf).dp (shp_lay h2)
        cases hx with
        | lst hx rx =>
          refine ⟨_, _, toPy e, toPys l, rfl, rfl, hl, (he.dr sf).dp (shp_lay h1), h3, h4, ?_, ?_⟩
          · unfold shp SeqAt.shaped at h1
            rw [Bool.and_eq_true, decide_eq_true_eq] at h1
            omega
          · rw [count_py]
            exact q _ _ (NR.val sf (.int _))
    · cases hg
  · cases hg
theorem any_find {ds : List D} {d : D} (h : (ds.findIdx? fun z => eqv z d) = some j) : True := trivial
def gIndex : D → List D → Option Rs
  | .nd .lst ds, [d] => if shp d = true ∧ shp (.nd .lst ds) = true then (ds.findIdx? fun z => eqv z d).map fun j => .fz (.int (j : Nat)) else none
  | _, _ => none
theorem toPys_get : ∀ {ds : List D} {i : Nat}, (toPys ds)[i]? = (ds[i]?).map toPy
  | [], i => rfl
  | d :: ds, 0 => rfl
  | d :: ds, i + 1 => by
    rw [toPys, List.getElem?_cons_succ, List.getElem?_cons_succ, toPys_get]
theorem md_index {k : Nat} (r : RoomG k X.A) : MetD X "list" "list.index" gIndex := by
  refine ⟨_, mt_indexD r.u65, fun F H x d xs ds rs Q sf hx hxs ht hg q => ?_⟩
  unfold gIndex at hg
  split at hg
  · split at hg
    · rename_i l e hc
      obtain ⟨h1, h2⟩ := hc
      obtain ⟨j, hj, e2⟩ := Option.map_eq_some_iff.mp hg
      cases e2
      obtain ⟨hlt, hp, hb⟩ := List.findIdx?_eq_some_iff_getElem.mp hj
      cases hxs with
      | cons he hn =>
        cases hn
        have hl := (hx.dr sf).dp (shp_lay h2)
        cases hx with
        | lst hx rx =>
          refine ⟨_, _, toPy e, toPys l, j, toPy l[j], rfl, rfl, hl, (he.dr sf).dp (shp_lay h1), h2, h1, ?_, hp, fun m z' hm hz => ?_, q _ _ (NR.val sf (.int _))⟩
          · rw [toPys_get, List.getElem?_eq_getElem hlt]
            rfl
          · rw [toPys_get, List.getElem?_eq_getElem (by omega)] at hz
            cases hz
            have := hb m hm
            simpa [eqv] using this
    · cases hg
  · cases hg
/-! ## clear, insert -/
def gClear : D → List D → Option (D × D)
  | .nd .lst ds, [] => some (.non, .nd .lst [])
  | _, _ => none
theorem mu_clear : MutD X "list" "list.clear" gClear := by
  refine ⟨_, mt_clear, fun F H a d vs ds rd d' sf fa o r hg Q q => ?_⟩
  unfold gClear at hg
  split at hg
  · cases hg
    cases r
    cases o with
    | lst h rl => exact ⟨_, _, rfl, rfl, h, q _ _ (.lst upd_same .nil) .non⟩
  · cases hg
def gInsert : D → List D → Option (D × D)
  | .nd .lst ds, [.int i, d] => if ds.length < sizeLine ∧ 0 ≤ i ∧ i < 2 ^ 63 then some (.non, .nd .lst (ds.take i.toNat ++ [d] ++ ds.drop i.toNat)) else none
  | _, _ => none
theorem mu_insert : MutD X "list" "list.insert" gInsert := by
  refine ⟨_, mt_insert, fun F H a d vs ds rd d' sf fa o r hg Q q => ?_⟩
  unfold gInsert at hg
  split at hg
  · split at hg
    · rename_i hc
      cases hg
      cases o with
      | lst h rl =>
        cases r with
        | cons r1 r2 =>
          cases r2 with
          | cons r3 r4 =>
            cases r4
            cases r1
            exact ⟨_, _, _, _, rfl, rfl, h, by rw [rl.length]; exact hc.1, hc.2.1, hc.2.2, q _ _ (.lst upd_same (((rl.take _).append (.cons r3 .nil)).append (rl.drop _))) .non⟩
    · cases hg
  · cases hg
end
/-! ## sorted(set(..)) of tuples of ints -/
def tupI? : D → Option (List Int)
  | .nd .tup ds => ints? ds
  | _ => none
def tups? : List D → Option (List (List Int))
  | [] => some []
  | d :: ds => match tupI? d, tups? ds with
    | some k, some ks => some (k :: ks)
    | _, _ => none
def tupD (ns : List Int) : D := .nd .tup (ns.map D.int)
theorem tups_of : ∀ {ds : List D} {ks : List (List Int)}, tups? ds = some ks → ds = ks.map tupD
  | [], ks, h => by cases h; rfl
  | d :: ds, ks, h => by
    unfold tups? at h
    cases e1 : tupI? d with
    | none => rw [e1] at h; cases h
    | some k =>
      cases e2 : tups? ds with
      | none => rw [e1, e2] at h; cases h
      | some l =>
        rw [e1, e2] at h
        cases h
        unfold tupI? at e1
        split at e1
        · rw [ints_of e1, tups_of e2]
          rfl
        · cases e1
theorem tups_map : ∀ ks : List (List Int), tups? (ks.map tupD) = some ks
  | [] => rfl
  | k :: ks => by
    show (match ints? (k.map D.int), tups? (ks.map tupD) with
      | some k, some ks => some (k :: ks)
      | _, _ => none) = _
    rw [ints_map, tups_map ks]
/-- put in its place, once -/
def tins (x : List Int) : List (List Int) → List (List Int)
  | [] => [x]
  | y :: ys => if x = y then y :: ys else if x < y then x :: y :: ys else y :: tins x ys
def tset (ks : List (List Int)) : List (List Int) := ks.foldr tins []
theorem mem_tins {x z : List Int} : ∀ {ys : List (List Int)}, z ∈ tins x ys ↔ z = x ∨ z ∈ ys
  | [] => by simp [tins]
  | y :: ys => by
    unfold tins
    split
    · rename_i h
      subst h
      simp
    · split
      · simp
      · rw [List.mem_cons, mem_tins, List.mem_cons]
        constructor
        · rintro (h | h | h)
          · exact .inr (.inl h)
          · exact .inl h
          · exact .inr (.inr h)
        · rintro (h | h | h)
          · exact .inr (.inl h)
          · exact .inl h
          · exact .inr (.inr h)
theorem mem_tset {z : List Int} : ∀ {ks : List (List Int)}, z ∈ tset ks ↔ z ∈ ks
  | [] => by simp [tset]
  | k :: ks => by
    show z ∈ tins k (tset ks) ↔ _
    rw [mem_tins, mem_tset, List.mem_cons]
theorem lt_asymm' {a b : List Int} (h : a < b) : ¬ b < a := fun q => List.lt_irrefl a (List.lt_trans h q)
theorem tins_sorted {x : List Int} : ∀ {ys : List (List Int)}, ys.Pairwise (· < ·) → (tins x ys).Pairwise (· < ·)
  | [], _ => by simp [tins]
  | y :: ys, h => by
    obtain ⟨h1, h2⟩ := List.pairwise_cons.mp h
    unfold tins
    split
    · exact h
    · rename_i hne
      split
      · rename_i hlt
        exact List.pairwise_cons.mpr ⟨fun z hz => (List.mem_cons.mp hz).elim (fun e => e ▸ hlt) fun hz => List.lt_trans hlt (h1 z hz), h⟩
      · rename_i hnlt
        have hyx : y < x := by
          rcases List.le_iff_lt_or_eq.mp (List.not_lt.mp hnlt) with h | h
          · exact h
          · exact absurd h.symm hne
        refine List.pairwise_cons.mpr ⟨fun z hz => ?_, tins_sorted h2⟩
        rcases mem_tins.mp hz with e | hz
        · exact e ▸ hyx
        · exact h1 z hz
theorem tset_sorted : ∀ ks : List (List Int), (tset ks).Pairwise (· < ·)
  | [] => .nil
  | k :: ks => tins_sorted (tset_sorted ks)
/-- two strictly rising lists with the same members -/
theorem rising_eq : ∀ {a b : List (List Int)}, a.Pairwise (· < ·) → b.Pairwise (· < ·) → (∀ z, z ∈ a ↔ z ∈ b) → a = b
  | [], [], _, _, _ => rfl
  | [], y :: b, _, _, h => absurd ((h y).mpr List.mem_cons_self) (by simp)
  | x :: a, [], _, _, h => absurd ((h x).mp List.mem_cons_self) (by simp)
  | x :: a, y :: b, ha, hb, h => by
    obtain ⟨a1, a2⟩ := List.pairwise_cons.mp ha
    obtain ⟨b1, b2⟩ := List.pairwise_cons.mp hb
    have e : x = y := by
      rcases List.mem_cons.mp ((h x).mp List.mem_cons_self) with e | m
      · exact e
      · rcases List.mem_cons.mp ((h y).mpr List.mem_cons_self) with e | m'
        · exact e.symm
        · exact absurd (a1 y m') (lt_asymm' (b1 x m))
    subst e
    rw [rising_eq a2 b2 fun z => ?_]
    constructor
    · intro hz
      rcases List.mem_cons.mp ((h z).mp (List.mem_cons_of_mem _ hz)) with e | m
      · exact absurd (e ▸ a1 z hz) (List.lt_irrefl x)
      · exact m
    · intro hz
      rcases List.mem_cons.mp ((h z).mpr (List.mem_cons_of_mem _ hz)) with e | m
      · exact absurd (e ▸ b1 z hz) (List.lt_irrefl x)
      · exact m
theorem code_lt_of {B : Int} : ∀ {a b : List Int}, a.length = b.length → TS.Bd B a → TS.Bd B b → (TS.code B a < TS.code B b ↔ a < b)
  | [], [], _, _, _ => by simp [TS.code]
  | x :: a, y :: b, hl, h1, h2 => by
    have hl' : a.length = b.length := Nat.succ.inj hl
    rw [List.cons_lt_cons_iff]
    rcases Int.lt_trichotomy x y with h | h | h
    · exact ⟨fun _ => .inl h, fun _ => TS.code_lt hl' h1.tail h2.tail h⟩
    · subst h
      rw [TS.code_same hl', code_lt_of hl' h1.tail h2.tail]
      constructor
      · exact fun h => .inr ⟨rfl, h⟩
      · rintro (h | ⟨_, h⟩)
        · omega
        · exact h
    · constructor
      · intro q
        have := TS.code_lt hl'.symm h2.tail h1.tail h
        omega
      · rintro (h | ⟨h, _⟩) <;> omega
def maxOf (ks : List (List Int)) : Int := (ks.flatten.foldr max 0) + 1
theorem foldr_max : ∀ {l : List Int} {x : Int}, x ∈ l → x ≤ l.foldr max 0
  | y :: l, x, h => by
    rw [List.foldr_cons]
    rcases List.mem_cons.mp h with e | h
    · omega
    · have := foldr_max h
      omega
theorem bd_maxOf {ks : List (List Int)} {k : List Int} (hk : k ∈ ks) (h0 : ∀ x ∈ k, 0 ≤ x) : TS.Bd (maxOf ks) k := fun x hx => by
  have := foldr_max (l := ks.flatten) (List.mem_flatten.mpr ⟨k, hk, hx⟩)
  have := h0 x hx
  unfold maxOf
  omega
/-- the tuples, all of one length, of no negative number -/
def setOk (ks : List (List Int)) : Prop := ks.length < 64 ∧ (∀ k ∈ ks, ∀ l ∈ ks, k.length = l.length) ∧ (∀ k ∈ ks, k ≠ []) ∧ ∀ k ∈ ks, ∀ x ∈ k, 0 ≤ x
open Classical in
noncomputable def gSortSet : D → Option Rs
  | .nd .lst ds => (tups? ds).bind fun ks => if setOk ks then some (.own (.nd .lst ((tset ks).map tupD))) else none
  | _ => none
end B

set_option Elab.async false
set_option linter.all false
set_option maxRecDepth 100000
set_option maxHeartbeats 4000000
namespace B
open PySem PySem.Spec L2
theorem DRs.tups {K : PySem.W.Frag} {mg : Str → Option Value} {F : Hp} : ∀ {ks : List (List Int)} {vs : List V}, DRs K mg F vs (ks.map tupD) → ∃ ps : List (Addr × List Int), vs = ps.map (fun p => V.ref p.1) ∧ ps.map (·.2) = ks ∧ ∀ p ∈ ps, SqT K F p.1 (p.2.map V.int) ∧ DR K mg F (.ref p.1) (tupD p.2)
  | [], _, .nil => ⟨[], rfl, rfl, fun _ h => nomatch h⟩
  | k :: ks, _, .cons (v := v) a b => by
    obtain ⟨ps, e1, e2, e3⟩ := DRs.tups b
    have ha := a
    cases a with
    | @tup t ws _ h r =>
      have := r.int_of
      subst this
      exact ⟨(t, k) :: ps, by rw [e1]; rfl, by rw [List.map_cons, e2], fun p hp => by
        rcases List.mem_cons.mp hp with e | hp
        · subst e
          exact ⟨h, ha⟩
        · exact e3 p hp⟩
theorem nodup_snd {α β : Type} : ∀ {l : List (α × β)}, (l.map (·.2)).Nodup → ∀ p ∈ l, ∀ q ∈ l, p.2 = q.2 → p = q
  | [], _, p, hp, _, _, _ => nomatch hp
  | x :: l, h, p, hp, q, hq, e => by
    rw [List.map_cons] at h
    obtain ⟨h1, h2⟩ := List.nodup_cons.mp h
    rcases List.mem_cons.mp hp with e1 | hp <;> rcases List.mem_cons.mp hq with e2 | hq
    · rw [e1, e2]
    · exact absurd (List.mem_map.mpr ⟨q, hq, by rw [← e, e1]⟩) h1
    · exact absurd (List.mem_map.mpr ⟨p, hp, by rw [e, e2]⟩) h1
    · exact nodup_snd h2 p hp q hq e
theorem rising_of {B : Int} : ∀ {l : List (List Int)}, l.Pairwise (fun a b => TS.code B a ≤ TS.code B b) → l.Nodup → (∀ a ∈ l, ∀ b ∈ l, a.length = b.length) → (∀ a ∈ l, TS.Bd B a) → l.Pairwise (· < ·)
  | [], _, _, _, _ => .nil
  | a :: l, h, nd, hl, hb => by
    obtain ⟨h1, h2⟩ := List.pairwise_cons.mp h
    obtain ⟨n1, n2⟩ := List.nodup_cons.mp nd
    refine List.pairwise_cons.mpr ⟨fun b mb => ?_, rising_of h2 n2 (fun a ma b mb => hl a (List.mem_cons_of_mem _ ma) b (List.mem_cons_of_mem _ mb)) fun a ma => hb a (List.mem_cons_of_mem _ ma)⟩
    have e := hl a List.mem_cons_self b (List.mem_cons_of_mem _ mb)
    have b1 := hb a List.mem_cons_self
    have b2 := hb b (List.mem_cons_of_mem _ mb)
    have hle := h1 b mb
    have hnl : ¬ b < a := fun q => by
      have := (code_lt_of e.symm b2 b1).mpr q
      omega
    rcases List.le_iff_lt_or_eq.mp (List.not_lt.mp hnl) with q | q
    · exact q
    · exact absurd (q ▸ mb) n1
section
variable {X : Cx} {a : Expr} {ma : M Pl} {p p2 q pos : Pos}
theorem be_sortSet (hg : Gl X "sorted") (hm : X.mg "sorted" = none) (hg2 : Gl X "set") (hm2 : X.mg "set" = none) (hc : X.calm = true) (hu : X.A.units + 64 < cLine) (ha : BP X a ma) (na : starEach [a] X.env = (false, eval a X.env) :: starEach [] X.env := by rfl)
    (nb : starEach [.Call (.Name "set" p2) [a] [] q] X.env = (false, eval (.Call (.Name "set" p2) [a] [] q) X.env) :: starEach [] X.env := by rfl) :
    BE X (.Call (.Name "sorted" p) [.Call (.Name "set" p2) [a] [] q] [] pos) (mUn gSortSet ma) := by
  refine fun W tk => (pe_callB (cr_sortedT hc) hg hm boot_sorted (pa_cons (pe_callTy (cr_setOfT hc hu) hg2 hm2 boot_set (pa_cons (ha W tk) pa_nil na) (by decide) (by decide) na) pa_nil nb) (by decide) (by decide) nb).imp fun σ H Q ⟨G, io, F, β, I, h⟩ => ?_
  refine ⟨G, io, F, β, I, h.bnd fun pl β1 v H1 F1 fe1 I1 r1 h1 => ?_⟩
  obtain ⟨F, d, r, sf, hx, hgr, q⟩ := fin1_post I1 r1 (h1.mono fe1)
  unfold gSortSet at hgr
  split at hgr
  · rename_i ds
    obtain ⟨ks, e1, e2⟩ := Option.bind_eq_some_iff.mp hgr
    split at e2
    · rename_i ok
      cases e2
      obtain ⟨k1, k2, k3, k4⟩ := ok
      have e3 := tups_of e1
      subst e3
      cases hx with
      | @lst l vs _ hl rd =>
        obtain ⟨ps, rfl, hks, hps⟩ := rd.tups
        have bd : ∀ p ∈ ps, p.2 ∈ ks := fun p hp => hks ▸ List.mem_map.mpr ⟨p, hp, rfl⟩
        refine ⟨l, ps, rfl, .inl (.inl hl), fun p hp => Same.sqT sf (hps p hp).1, by rw [← hks, List.length_map] at k1; exact k1, fun s L hs sub all => ?_⟩
        have sub2 : ∀ p ∈ L, p.2 ∈ ks := fun p hp => bd p (sub p hp)
        have sh : Same H1 (upd H1 s (SetTO X.prog X.w s L)) := fun b u hb => by
          rw [upd_ne (ne_of_none hb hs)]
          exact hb
        obtain ⟨dd, hd1, hd2⟩ : ∃ dd, 1 ≤ dd ∧ ∀ p ∈ L, p.2.length = dd := by
          cases L with
          | nil => exact ⟨1, Nat.le_refl _, fun _ h => nomatch h⟩
          | cons p0 L =>
            refine ⟨p0.2.length, List.length_pos_iff.mpr (k3 _ (sub2 p0 List.mem_cons_self)), fun p hp => k2 _ (sub2 p hp) _ (sub2 p0 List.mem_cons_self)⟩
        refine ⟨s, L, dd, maxOf ks, rfl, upd_same, fun p hp => Same.sqT sh (Same.sqT sf (hps p (sub p hp)).1), hd1, fun p hp => ⟨hd2 p hp, bd_maxOf (sub2 p hp) (k4 _ (sub2 p hp))⟩, fun L' z pm nd len pw hz => ?_⟩
        have hz1 : H1 z = none := by
          by_cases e : z = s
          · subst e
            rw [upd_same] at hz
            cases hz
          · rwa [upd_ne e] at hz
        have mL : ∀ p, p ∈ L' ↔ p ∈ L := fun p => pm.mem_iff
        have eL : L'.map (·.2) = tset ks := by
          refine rising_eq (rising_of (B := maxOf ks) (List.pairwise_map.mpr pw) nd (fun a ha b hb => ?_) fun a ha => ?_) (tset_sorted ks) fun k => ?_
          · obtain ⟨p, hp, rfl⟩ := List.mem_map.mp ha
            obtain ⟨q, hq, rfl⟩ := List.mem_map.mp hb
            exact k2 _ (sub2 p ((mL p).mp hp)) _ (sub2 q ((mL q).mp hq))
          · obtain ⟨p, hp, rfl⟩ := List.mem_map.mp ha
            exact bd_maxOf (sub2 p ((mL p).mp hp)) (k4 _ (sub2 p ((mL p).mp hp)))
          · rw [mem_tset]
            constructor
            · intro h
              obtain ⟨p, hp, rfl⟩ := List.mem_map.mp h
              exact sub2 p ((mL p).mp hp)
            · intro h
              rw [← hks] at h
              obtain ⟨p, hp, rfl⟩ := List.mem_map.mp h
              obtain ⟨q, hq, e⟩ := List.mem_map.mp (all p hp)
              exact List.mem_map.mpr ⟨q, (mL q).mpr hq, e⟩
        have dr : DRs X.K X.mg F (L'.map fun q => V.ref q.1) ((tset ks).map tupD) := by
          rw [← eL, List.map_map]
          have key : ∀ l : List (Addr × List Int), (∀ p ∈ l, DR X.K X.mg F (.ref p.1) (tupD p.2)) → DRs X.K X.mg F (l.map fun q => V.ref q.1) (l.map (tupD ∘ fun x => x.2)) := by
            intro l
            induction l with
            | nil => intro _; exact .nil
            | cons p l ih => intro h; exact .cons (h p List.mem_cons_self) (ih fun q hq => h q (List.mem_cons_of_mem _ hq))
          exact key L' fun p hp => (hps p (sub p ((mL p).mp hp))).2
        refine q _ _ ⟨fun b u hb => ?_, z, rfl, hz1, .lst upd_same dr⟩
        rw [upd_ne (ne_of_none (sh b u hb) hz)]
        exact sh b u hb
    · cases e2
  · cases hgr
end
end B

set_option Elab.async false
set_option linter.all false
set_option maxRecDepth 100000
set_option maxHeartbeats 4000000
namespace B
open PySem PySem.Spec L2
/-! ## own classes -/
/-- what the written part says of a class with an __init__ (st: its def) -/
structure ICls (K : PySem.W.Frag) (mg : Str → Option Value) (c : Str) (flds : List Str) (st : Stmt) (qual : Str) (ps : List Str) : Prop where
  ex : ∃ (C fi : Addr) (fd : FuncData), mg c = some (.ref C) ∧ Cls K C ∧ (∀ f ∈ flds, NoAttr K C f) ∧ Mk K C fi ∧ L2.Fun K "__init__" qual st fi fd ∧ Binds K fd ps []
theorem ICls.fld {X : Cx} {c : Str} {flds : List Str} {st : Stmt} {qual : Str} {ps : List Str} (Z : ICls X.K X.mg c flds st qual ps) {f : Str} (hf : f ∈ flds) : FldOk X c f := fun C e => by
  obtain ⟨C', fi, fd, g, cl, na, _⟩ := Z.ex
  cases g.symm.trans e
  exact ⟨cl, na f hf⟩
/-- a method: __eq__ -/
structure MCls (K : PySem.W.Frag) (mg : Str → Option Value) (c m : Str) (st : Stmt) (qual : Str) (ps : List Str) : Prop where
  ex : ∃ (C fi : Addr) (fd : FuncData), mg c = some (.ref C) ∧ PySem.W.findIn K (.ref C) m = some (some (.ref fi)) ∧ PySem.W.isFn K (.ref fi) = true ∧ L2.Fun K m qual st fi fd ∧ Binds K fd ps []
/-- a def's promise, wherever it is found -/
def OkM (P : Program) (w : World) (K : PySem.W.Frag) (mg : Str → Option Value) (base : Heap) (k : Nat) (c m : Str) (ps : List Str) (ks : List Bool) (r : List D → FR) : Prop :=
  ∃ (C fi : Addr) (fd : FuncData), mg c = some (.ref C) ∧ PySem.W.findIn K (.ref C) m = some (some (.ref fi)) ∧ PySem.W.isFn K (.ref fi) = true ∧ PySem.W.keepIn K (.ref fi) = true ∧ FnG P w K mg base k fi fd ps (spB K mg ks r) ∧ Binds K fd ps []
def OkI (P : Program) (w : World) (K : PySem.W.Frag) (mg : Str → Option Value) (base : Heap) (k : Nat) (c : Str) (ps : List Str) (ks : List Bool) (r : List D → FR) : Prop :=
  ∃ (C fi : Addr) (fd : FuncData), mg c = some (.ref C) ∧ Mk K C fi ∧ FnG P w K mg base k fi fd ps (spB K mg ks r) ∧ Binds K fd ps []
section
variable {P : Program} {w : World} {K : PySem.W.Frag} {mg : Str → Option Value} {base : Heap} {k : Nat} {c m qual : Str} {st : Stmt} {N ps flds : List Str} {mf : M Fl}
theorem okM_of (ks : List Bool) (L : MCls K mg c m st qual ps) (S : FnScope N ps (defScope st)) (hk : ks.length = ps.length)
    (hb : ∀ (f : Addr) (cdv : Value) (A : Around) (outer : List PySem.Env) (s : Shared) (H : Hp) (E : XK), RoomG k (A.deeper (PyProof.Rows.envOfC qual (defScope st) s.heap.objs.size f cdv)) → BSs (cxOf (L2.CX P w) P w K mg base N qual (defScope st) f cdv A outer s H E) (defBody st) mf) :
    OkM P w K mg base (k + 1) c m ps ks (runB ks N.length mf) := by
  obtain ⟨C, fi, fd, g, h1, h2, F, b⟩ := L.ex
  exact ⟨C, fi, fd, g, h1, h2, F.kp, fnB ks F S hk fun cdv A outer s H E => hb fi cdv A outer s H E, b⟩
theorem okI_of (ks : List Bool) (L : ICls K mg c flds st qual ps) (S : FnScope N ps (defScope st)) (hk : ks.length = ps.length)
    (hb : ∀ (f : Addr) (cdv : Value) (A : Around) (outer : List PySem.Env) (s : Shared) (H : Hp) (E : XK), RoomG k (A.deeper (PyProof.Rows.envOfC qual (defScope st) s.heap.objs.size f cdv)) → BSs (cxOf (L2.CX P w) P w K mg base N qual (defScope st) f cdv A outer s H E) (defBody st) mf) :
    OkI P w K mg base (k + 1) c ps ks (runB ks N.length mf) := by
  obtain ⟨C, fi, fd, g, _, _, M, F, b⟩ := L.ex
  exact ⟨C, fi, fd, g, M, fnB ks F S hk fun cdv A outer s H E => hb fi cdv A outer s H E, b⟩
end
theorem FnG.imp {P : Program} {w : World} {K : PySem.W.Frag} {mg : Str → Option Value} {base : Heap} {k : Nat} {f : Addr} {fd : FuncData} {ps : List Str} {sp sp' : Sp} (F : FnG P w K mg base k f fd ps sp) (h : ∀ vs H Q E, sp' vs H Q E → sp vs H Q E) : FnG P w K mg base k f fd ps sp' :=
  ⟨fun vs H Q E q => F.len vs H Q E (h _ _ _ _ q), fun hr e0 b r q => F.run hr e0 b r (h _ _ _ _ q)⟩
def lenN (n : Nat) (f : List D → FR) (ds : List D) : FR := if ds.length = n then f ds else .stuck
theorem spB_lenN {K : PySem.W.Frag} {mg : Str → Option Value} {ks : List Bool} {n : Nat} {f : List D → FR} {vs : List V} {H : Hp} {Q : VK} {E : XK} (h : spB K mg ks (lenN n f) vs H Q E) : spB K mg ks f vs H Q E := by
  obtain ⟨T, F, io, ds, h0, h1, h2, h3, h4, h5⟩ := h
  refine ⟨T, F, io, ds, h0, h1, h2, h3, h4, ?_⟩
  unfold lenN at h5
  by_cases hl : ds.length = n
  · rwa [if_pos hl] at h5
  · rw [if_neg hl] at h5
    exact h5.elim
def mMk (c : Str) (n : Nat) (f : List D → FR) (ma : M (List Pl)) : M Rs := mMake c (lenN (n + 1) f) ma
section
variable {X : Cx} {k j : Nat} {x c : Str} {p pos : Pos} {e : Expr} {es : List Expr} {ma : M (List Pl)} {prm : List Str} {g : List D → FR}
theorem be_mk (n : Nat) (O : OkI X.prog X.w X.K X.mg X.base j x prm (true :: List.replicate n false) g) (hr : RoomG k X.A) (hjk : j + 1 ≤ k) (ha : BA X (e :: es) ma) (hg : Gl X x := by rfl) (hdb : (x == ("__debug__" : Str)) = false := by decide)
    (he : starEach (e :: es) X.env = (false, eval e X.env) :: starEach es X.env := by rfl) (hpl : (backTo pos (starEach es X.env)).any (·.1) = false := by rfl) :
    BE X (.Call (.Name x p) (e :: es) [] pos) (mMk x n g ma) := by
  obtain ⟨C, fi, fd, gC, M, F, b⟩ := O
  refine be_make n M (F.imp fun _ _ _ _ => spB_lenN (n := n + 1)) (hr.mono hjk) gC b (fun ps ds _ h => Decidable.byContradiction fun q => h ?_) ha hg hdb he hpl
  unfold lenN
  rw [if_neg]
  rw [List.length_cons]
  omega
/-! ### == and != by the class's own __eq__ -/
def eqRun (c : Str) (g : List D → FR) : D → D → Option Bool
  | .nd (.ins c1 n1) d1, .nd (.ins c2 n2) d2 => if c1 = c ∧ c2 = c then (match g [.nd (.ins c1 n1) d1, .nd (.ins c2 n2) d2] with
    | .ok (.fz (.bl b)) [] => some b
    | _ => none) else none
  | _, _ => none
def gOwnEq (c : Str) (g : List D → FR) (d e : D) : Option Rs := (eqRun c g d e).map fun b => .fz (.bl b)
def gOwnNe (c : Str) (g : List D → FR) (d e : D) : Option Rs := (eqRun c g d e).map fun b => .fz (.bl (!b))
theorem eqRun_some {c : Str} {g : List D → FR} {d e : D} {b : Bool} (h : eqRun c g d e = some b) : ∃ n1 d1 n2 d2, d = .nd (.ins c n1) d1 ∧ e = .nd (.ins c n2) d2 ∧ g [d, e] = .ok (.fz (.bl b)) [] := by
  unfold eqRun at h
  split at h
  · split at h
    · rename_i hc
      obtain ⟨h1, h2⟩ := hc
      subst h1 h2
      split at h
      · rename_i hb
        cases h
        exact ⟨_, _, _, _, rfl, rfl, hb⟩
      · cases h
    · cases h
  · cases h
/-- the run of the class's own __eq__ -/
theorem eq_code {pins : List (Addr × Obj)} {σ : L2.St} {s : Shared} {H : Hp} {f a b : Addr} {fd : FuncData} {ps : List Str} {g : List D → FR} {d e : D} {r : Bool} {A : PySem.Around} (Fn : FnG X.prog X.w X.K X.mg X.base j f fd ps (spB X.K X.mg [false, false] g)) (hr : RoomG j A) (hA : A.frames = X.A.frames) (hb : Binds X.K fd ps [])
    (I : Inv X pins σ H s) (hx : DR X.K X.mg H (.ref a) d) (hy : DR X.K X.mg H (.ref b) e) (hg : g [d, e] = .ok (.fz (.bl r)) []) :
    codeAny (model X.prog X.w) A (.call (.ref f) ⟨[.ref a, .ref b], []⟩) (fun q s' => q = .ok (.ret (.bool r)) ∧ ∃ H', Inv X pins σ H' s' ∧ Same H H') s := by
  have hsp : spB X.K X.mg [false, false] g [.ref a, .ref b] H (fun v H' => v = .bl r ∧ Same H H') (fun _ _ _ => False) := by
    refine ⟨fun _ => none, H, [], [d, e], ⟨fun _ _ z => (nomatch z), fun _ _ => rfl⟩, Same.refl _, (fun _ h => nomatch h), .nil, .fz hx (.fz hy .nil), ?_⟩
    rw [hg]
    intro v H' F' A' rr
    cases (show DR X.K X.mg F' v (.bl r) from rr)
    exact ⟨rfl, fun b o h => A'.keep b o h (by simp) rfl⟩
  have r2 : Vals [V.ref a, V.ref b] [Value.ref a, Value.ref b] := .cons rfl (.cons rfl .nil)
  have hl := Fn.len _ _ _ _ hsp
  have e0 : Env0 X.prog X.w X.K X.mg X.base A X.stack s H := by
    have e := I.env0
    exact ⟨by rw [hA]; exact e.frames, e.mod, e.bs, e.bsz, e.funs, e.frf, e.hok, e.bare⟩
  refine codeAny_mono (Fn.run hr e0 (us := [.ref a, .ref b]) (by
    have := hb s [.ref a, .ref b] I.kIn (by simpa using hl)
    simpa using this) r2 hsp) fun q s' hq => ?_
  cases q with
  | error er =>
    obtain ⟨_, _, _, _, _, _, _, _, _, _, _, _, q⟩ := hq
    exact q.elim
  | ok fl =>
    cases fl with
    | ret w =>
      obtain ⟨z, H', I', rz, ez, ex⟩ := I.after hq
      subst ez
      cases rz
      exact ⟨rfl, H', I', ex⟩
    | next => exact False.elim hq
    | brk => exact False.elim hq
    | cont => exact False.elim hq
theorem opd_ownEq (O : OkM X.prog X.w X.K X.mg X.base j c "__eq__" prm [false, false] g) (hr : RoomG k X.A) (hjk : j ≤ k) : OpD X (compareOp .Eq) (gOwnEq c g) := by
  obtain ⟨C, f, fd, gC, hs, hf, kp, Fn, hb⟩ := O
  intro pins s σ H x y v u Q I rx ry ⟨F, d, e, rs, sf, hx, hy, hg, q⟩
  obtain ⟨b, eb, hrs⟩ := Option.map_eq_some_iff.mp hg
  subst hrs
  obtain ⟨n1, d1, n2, d2, ed, ee, hrun⟩ := eqRun_some eb
  have dx := hx.dr sf
  have dy := hy.dr sf
  subst ed ee
  cases hx with
  | @ins a C1 dxa _ fs _ ha g1 r1 =>
    cases hy with
    | @ins b' C2 dxb _ fs2 _ hb' g2 r2 =>
      cases g1.symm.trans gC
      cases g2.symm.trans gC
      cases rx
      cases ry
      obtain ⟨mA, J, _⟩ := ins_get I.hok ha
      obtain ⟨mB, J', _⟩ := ins_get I.hok hb'
      obtain ⟨od, J, _⟩ := J.look
      obtain ⟨od', J', _⟩ := J'.look
      obtain ⟨m, hF⟩ := I.fr
      refine PySem.W.cmp_K (op := .Eq) (tb := .ref C) hr.r.units0 hF I.ok.mod.kin J J'.type (by simp [PySem.W.notFirst]) hs hf ?_
      refine wpAny_call (codeAny_mono (eq_code Fn (hr.mono hjk) rfl hb I dx dy hrun) fun q1 s1 ⟨e1, H1, I1, sh⟩ => ?_)
      subst e1
      exact ⟨.bl b, H1, I1, rfl, q _ _ ⟨sh, F, Same.refl _, fun _ _ h => .inl h, sf.trans sh, .bl b⟩⟩
/-- what the written part says for != by == -/
structure NeCls (K : PySem.W.Frag) (C f : Addr) : Prop where
  ex : ∃ nm q N bs hdct sn sub ab col dd k0 k1 k2 k3 k5 newId, K.lookup C = some (excClassObj nm q C N bs [.type "object"] hdct sn sub ab col dd k0 k1 k2 k3 k5 newId) ∧ PySem.W.nsOkIn K N = true ∧ PySem.W.nsIn K N "__eq__" = some (some (.ref f)) ∧ PySem.W.nsIn K N "__ne__" = some none
theorem ns_at {K : PySem.W.Frag} {h : Heap} {N : Addr} {m1 : Str → Option Value} {nm : Str} {v : Value} (KX : K.In h) (Gn : h.Ns N m1) (q : PySem.W.nsIn K N nm = some (some v)) : m1 nm = some v := by
  obtain ⟨ob, ens, epx, gt, dt, _, fd⟩ := Gn
  unfold PySem.W.nsIn at q
  split at q
  · rename_i c1 d1 e1 n1 s1 lk
    have z := KX _ _ lk
    rw [gt] at z
    cases z
    cases dt
    split at q
    · rename_i en hen
      cases q
      rw [← fd]
      unfold nsFind findBy
      rw [← Array.find?_toList, hen]
      rfl
    · split at q <;> cases q
  · cases q
theorem NeCls.own {K : PySem.W.Frag} {C f a : Addr} {h : Heap} {ox : Obj} (Z : NeCls K C f) (KX : K.In h) (hf : PySem.W.isFn K (.ref f) = true) (hx : h.get? a = some ox) (hc : ox.cls = .ref C) : h.OwnEqNoNe a C f "object" [.type "object"] := by
  obtain ⟨nm, q, N, bs, hdct, sn, sub, ab, col, dd, k0, k1, k2, k3, k5, newId, l1, l2, l3, l4⟩ := Z.ex
  have ns := Heap.Ns.of_isNs (PySem.W.isNs_of_in KX l2)
  have tf := beq_iff_eq.mp hf
  obtain ⟨of, ef, ec⟩ : ∃ of, h.get? f = some of ∧ of.cls = .type "function" := by
    have tf : Option.map (fun x : Obj => x.cls) (List.lookup f K) = some (.type "function") := tf
    cases e : List.lookup f K with
    | none => rw [e] at tf; cases tf
    | some o =>
      rw [e] at tf
      exact ⟨o, KX _ _ e, Option.some.inj tf⟩
  exact ⟨ox, of, nm, q, N, bs, hdct, sn, sub, ab, col, dd, k0, k1, k2, k3, k5, newId, _, _, hx, hc, KX _ _ l1, ns, ns_at KX ns l3, ef, ec, PySem.F.cmp_object.mro, PySem.F.cmp_object.eq.lookup, PySem.W.nsMap_none_of_in KX l2 l4⟩
theorem opd_ownNe (O : OkM X.prog X.w X.K X.mg X.base j c "__eq__" prm [false, false] g) (Z : ∀ C f, X.mg c = some (.ref C) → PySem.W.findIn X.K (.ref C) "__eq__" = some (some (.ref f)) → NeCls X.K C f) (hr : RoomG k X.A) (hjk : j + 1 ≤ k) : OpD X (compareOp .NotEq) (gOwnNe c g) := by
  obtain ⟨C, f, fd, gC, hs, hf, kp, Fn, hb⟩ := O
  intro pins s σ H x y v u Q I rx ry ⟨F, d, e, rs, sf, hx, hy, hg, q⟩
  obtain ⟨b, eb, hrs⟩ := Option.map_eq_some_iff.mp hg
  subst hrs
  obtain ⟨n1, d1, n2, d2, ed, ee, hrun⟩ := eqRun_some eb
  have dx := hx.dr sf
  have dy := hy.dr sf
  subst ed ee
  cases hx with
  | @ins a C1 dxa _ fs _ ha g1 r1 =>
    cases hy with
    | @ins b' C2 dxb _ fs2 _ hb' g2 r2 =>
      cases g1.symm.trans gC
      cases g2.symm.trans gC
      cases rx
      cases ry
      obtain ⟨mA, J, _⟩ := ins_get I.hok ha
      obtain ⟨mB, J', _⟩ := ins_get I.hok hb'
      obtain ⟨od, J, _⟩ := J.look
      obtain ⟨od', J', _⟩ := J'.look
      have OW := (Z C f gC hs).own I.kIn hf J.at_ J.cls
      have hu := hr.r.un
      obtain ⟨hp, gg, dd, tt, os⟩ := s
      refine compareOp_ne_ownEq PySem.F.cmp_object OW J'.at_ J'.cls (by omega) ?_
      have hr1 : RoomG j X.A.in1 := ⟨(hr.r.mono hjk).in1, hr.g⟩
      refine wpAny_call (codeAny_mono (eq_code Fn hr1 rfl hb I dx dy hrun) fun q1 s1 ⟨e1, H1, I1, sh⟩ => ?_)
      subst e1
      exact ⟨b, rfl, .bl (!b), H1, I1, rfl, q _ _ ⟨sh, F, Same.refl _, fun _ _ h => .inl h, sf.trans sh, .bl _⟩⟩
/-! ### isinstance(x, C) -/
structure IsiC (K : PySem.W.Frag) (mg : Str → Option Value) (c : Str) : Prop where
  ex : ∃ C : Addr, mg c = some (.ref C) ∧ Cls K C ∧ PySem.W.findIn K (.ref C) "__class__" = some (some (.builtin "object.__class__")) ∧ PySem.W.specialIn K (.builtin "object.__class__") "__get__" = some (some (.builtin "getset_descriptor.__get__")) ∧
    PySem.W.takesIn K (.builtin "object.__class__") = some true ∧ PySem.W.mroIn K C (.type "object") = some true ∧ PySem.W.kitOne K (.ref C) (.ref C) = some true ∧ ∀ t ∈ ["NoneType", "bool", "int", "str", "tuple", "list", "dict"], PySem.W.kitOne K (.type t) (.ref C) = some false
def gIsiC (c : Str) : D → Option Rs
  | .nd (.ins c' ns) ds => if c' = c then some (.fz (.bl true)) else none
  | d => (tyD d).map fun _ => .fz (.bl false)
theorem tyD_mem {d : D} {t : String} (h : tyD d = some t) : t ∈ ["NoneType", "bool", "int", "str", "tuple", "list", "dict"] := by
  cases d with
  | nd tg ds => cases tg <;> cases h <;> decide
  | non => cases h; decide
  | bl b => cases h; decide
  | int b => cases h; decide
  | str b => cases h; decide
theorem be_isiC {y : Str} {a : Expr} {ma : M Pl} {p2 : Pos} (Z : IsiC X.K X.mg y) (hm : X.mg "isinstance" = none) (ha : BP X a ma) (hg : Gl X "isinstance" := by rfl) (hg2 : Gl X y := by rfl) (hd : (y == ("__debug__" : Str)) = false := by decide)
    (hs : starEach [a, .Name y p2] X.env = (false, eval a X.env) :: starEach [.Name y p2] X.env := by rfl) : BE X (.Call (.Name "isinstance" p) [a, .Name y p2] [] pos) (mUn (gIsiC y) ma) := by
  obtain ⟨C, gC, cl, h1, h2, h3, h4, h5, h6⟩ := Z.ex
  refine fun W tk => (pe_callB call_isi hg hm boot_isinstance (pa_cons (ha W tk) (pa_cons (pe_glob (v := .ref C) hg2 gC rfl hd) pa_nil) hs) (by decide) (by decide) hs).imp fun σ H Q ⟨G, io, F, β, I, h⟩ => ?_
  refine ⟨G, io, F, β, I, h.bnd fun pl β1 v H1 F1 fe1 I1 r1 hh => ?_⟩
  obtain ⟨F, d, r, sf, hx, hgr, q⟩ := fin1_post I1 r1 (hh.mono fe1)
  unfold gIsiC at hgr
  split at hgr
  · split at hgr
    · rename_i ec
      cases hgr
      subst ec
      cases hx with
      | ins e g1 rr =>
        cases g1.symm.trans gC
        exact ⟨_, _, _, _, true, rfl, .own C, .base (.ins e cl h1 h2 h3 h4), h5, q _ _ (NR.val sf (.bl true))⟩
    · cases hgr
  · obtain ⟨t, et, er⟩ := Option.map_eq_some_iff.mp hgr
    cases er
    exact ⟨_, _, _, _, false, rfl, .own C, hx.tyx sf et, h6 t (tyD_mem et), q _ _ (NR.val sf (.bl false))⟩
end
/-! ## by what is wished for -/
section
variable {β : B.Env} {E : Exn → B.Env → Prop}
def mkW (r : Rs) (ios : List D) (P : D → Prop) : Prop := match r, ios with
  | .fz .non, [d] => P d
  | _, _ => False
@[simp ↓] theorem mkW_mk {d : D} {P : D → Prop} : mkW (.fz .non) [d] P ↔ P d := Iff.rfl
@[simp ↓] theorem W_mMk {c : Str} {n : Nat} {f : List D → FR} {ma : M (List Pl)} {Q : Rs → B.Env → Prop} : W (mMk c n f ma) β Q E ↔ W ma β (fun ps β1 => optW (allD ps) fun ds => ds.length = n ∧ FW (f (insD c [] :: ds)) (fun r ios => mkW r ios fun d => Q (.fz d) β1) (fun x _ => E x β1)) E := by
  unfold mMk mMake
  refine W_bnd.trans (W_congr fun ps β1 => ?_)
  unfold W makeF
  cases allD ps with
  | none => with_unfolding_all rfl
  | some ds =>
    simp only [optW_some]
    unfold lenN
    rw [List.length_cons]
    by_cases h : ds.length = n
    · rw [if_pos (by omega)]
      unfold FW
      cases f (insD c [] :: ds) with
      | stuck => simp [h]
      | exc x ios => simp [h]
      | ok r ios =>
        simp only [h, true_and]
        unfold mkW
        rcases r with d | d
        · cases d with
          | non =>
            rcases ios with _ | ⟨d, _ | ⟨d2, l⟩⟩ <;> with_unfolding_all exact Iff.rfl
          | _ => with_unfolding_all exact Iff.rfl
        · with_unfolding_all exact Iff.rfl
    · rw [if_neg (by omega)]
      simp [h]
end
end B

set_option Elab.async false
set_option linter.all false
set_option maxRecDepth 100000
set_option maxHeartbeats 4000000
namespace B
open PySem PySem.Spec L2
/-! ## tables of exceptions' classes -/
theorem lookup_mem {l : List (Str × Bool)} {k : Str} {b : Bool} (h : l.lookup k = some b) : (k, b) ∈ l := by
  induction l with
  | nil => cases h
  | cons p l ih =>
    obtain ⟨x, y⟩ := p
    rw [List.lookup_cons] at h
    cases e : k == x with
    | true =>
      rw [e] at h
      cases h
      rw [eq_of_beq e]
      exact List.mem_cons_self
    | false =>
      rw [e] at h
      exact List.mem_cons_of_mem _ (ih h)
def tabF (l : List (Str × Bool)) : Str → Option Bool := fun c => l.lookup c
/-- a clause's class -/
structure XExm (K : PySem.W.Frag) (mg : Str → Option Value) (x : Str) (l : List (Str × Bool)) : Prop where
  ex : ∃ C : Addr, mg x = some (.ref C) ∧ ∀ p ∈ l, ∀ cls, mg p.1 = some cls → PySem.W.exmOne K cls (.ref C) = some p.2
structure XKit (K : PySem.W.Frag) (mg : Str → Option Value) (y : Str) (l : List (Str × Bool)) : Prop where
  ex : ∃ C : Addr, mg y = some (.ref C) ∧ ∀ p ∈ l, XIs K mg p.1 ∧ ∀ cls, mg p.1 = some cls → PySem.W.kitOne K cls (.ref C) = some p.2
structure XKitB (K : PySem.W.Frag) (mg : Str → Option Value) (y : Str) (n : String) (l : List (Str × Bool)) : Prop where
  ex : mg y = none ∧ bootBuiltins y = some (.type n) ∧ ∀ p ∈ l, XIs K mg p.1 ∧ ∀ cls, mg p.1 = some cls → PySem.W.kitOne K cls (.type n) = some p.2
inductive NmAt (mg : Str → Option Value) : List Str → List Addr → Prop
  | nil : NmAt mg [] []
  | cons {y : Str} {C : Addr} {ys : List Str} {cs : List Addr} : mg y = some (.ref C) → NmAt mg ys cs → NmAt mg (y :: ys) (C :: cs)
structure XKitT (K : PySem.W.Frag) (mg : Str → Option Value) (ys : List Str) (l : List (Str × Bool)) : Prop where
  ex : ∃ cs : List Addr, NmAt mg ys cs ∧ ∀ p ∈ l, XIs K mg p.1 ∧ ∀ cls, mg p.1 = some cls → PySem.W.kitAny K cls (cs.map Value.ref) = some p.2
section
variable {X : Cx} {x n : Str} {i : Nat} {m : Su} {b₀ : Stmt} {suite : List Stmt} {np pos' : Pos} {hds : List ExceptHandler} {hs : List Hd} {l : List (Str × Bool)}
theorem hd_as (Z : XExm X.K X.mg x l) (hN : X.N.Nodup) (hsu : ∀ (a : Addr) (oe : Obj) (cls : Value) (d : Option Addr) (pn : List (Addr × Obj)), Zc cls d oe → (∃ vs, oe.data = .fields vs) → BSs (X.suite a ((a, oe) :: pn)) (b₀ :: suite) (m a cls d)) (r : HdB X hds hs)
    (hg : Gl X x := by rfl) (hd : (x == ("__debug__" : Str)) = false := by decide) (hn : X.N[i]? = some n := by rfl) (hln : X.env.kindOf n = some .local := by rfl) : HdB X (.ExceptHandler (some (.Name x np)) (some n) (b₀ :: suite) pos' :: hds) (⟨tabF l, some i, m⟩ :: hs) := by
  obtain ⟨C, gC, k⟩ := Z.ex
  exact .named rfl ⟨hg, hd, .inl gC⟩ (fun nm cls b e => k _ (lookup_mem e) cls) hN hn hln hsu r
theorem hd_no (Z : XExm X.K X.mg x l) (hsu : ∀ (a : Addr) (oe : Obj) (cls : Value) (d : Option Addr) (pn : List (Addr × Obj)), Zc cls d oe → (∃ vs, oe.data = .fields vs) → BSs (X.suite a ((a, oe) :: pn)) (b₀ :: suite) (m a cls d)) (r : HdB X hds hs)
    (hg : Gl X x := by rfl) (hd : (x == ("__debug__" : Str)) = false := by decide) : HdB X (.ExceptHandler (some (.Name x np)) none (b₀ :: suite) pos' :: hds) (⟨tabF l, none, m⟩ :: hs) := by
  obtain ⟨C, gC, k⟩ := Z.ex
  exact .cons rfl ⟨hg, hd, .inl gC⟩ (fun nm cls b e => k _ (lookup_mem e) cls) hsu r
end
section
variable {X : Cx} {a : Addr} {oe : Obj} {pn : List (Addr × Obj)} {cls : Value} {d : Option Addr} {x y : Str} {i : Nat} {p px py pos : Pos} {l : List (Str × Bool)}
theorem be_isX (hz : Zc cls d oe) (hf : ∃ vs, oe.data = .fields vs) (O : XObj X.K) (Z : XKit X.K X.mg y l) (hm : X.mg "isinstance" = none) (hN : X.N[i]? = some x := by rfl) (hv : Vis X.env.scope x := by first | exact Or.inl rfl | exact Or.inr (Or.inl rfl) | exact Or.inr (Or.inr rfl)) (hg : Gl X "isinstance" := by rfl) (hg2 : Gl X y := by rfl)
    (hd : (x == ("__debug__" : Str)) = false := by decide) (hcd : (x == ("__classdict__" : Str)) = false := by decide) (hd2 : (y == ("__debug__" : Str)) = false := by decide) (he : starEach [.Name x px, .Name y py] (X.suite a ((a, oe) :: pn)).env = (false, eval (.Name x px) (X.suite a ((a, oe) :: pn)).env) :: starEach [.Name y py] (X.suite a ((a, oe) :: pn)).env := by rfl) :
    BE (X.suite a ((a, oe) :: pn)) (.Call (.Name "isinstance" p) [.Name x px, .Name y py] [] pos) (mIsE i (tabF l) a cls d) := by
  obtain ⟨C, gC, k⟩ := Z.ex
  exact be_isE hz hf O (.own C hg2 gC hd2) (fun c b e => k _ (lookup_mem e)) hm hN hv hg hd hcd he
theorem be_isXB {n : String} (hz : Zc cls d oe) (hf : ∃ vs, oe.data = .fields vs) (O : XObj X.K) (Z : XKitB X.K X.mg y n l) (hm : X.mg "isinstance" = none) (hN : X.N[i]? = some x := by rfl) (hv : Vis X.env.scope x := by first | exact Or.inl rfl | exact Or.inr (Or.inl rfl) | exact Or.inr (Or.inr rfl)) (hg : Gl X "isinstance" := by rfl) (hg2 : Gl X y := by rfl)
    (hd : (x == ("__debug__" : Str)) = false := by decide) (hcd : (x == ("__classdict__" : Str)) = false := by decide) (hd2 : (y == ("__debug__" : Str)) = false := by decide) (hn2 : y ≠ "__name__" := by decide) (he : starEach [.Name x px, .Name y py] (X.suite a ((a, oe) :: pn)).env = (false, eval (.Name x px) (X.suite a ((a, oe) :: pn)).env) :: starEach [.Name y py] (X.suite a ((a, oe) :: pn)).env := by rfl) :
    BE (X.suite a ((a, oe) :: pn)) (.Call (.Name "isinstance" p) [.Name x px, .Name y py] [] pos) (mIsE i (tabF l) a cls d) := by
  obtain ⟨hm2, hb, k⟩ := Z.ex
  exact be_isE hz hf O (.ty n hg2 hm2 hb hn2 hd2) (fun c b e => k _ (lookup_mem e)) hm hN hv hg hd hcd he
/-- the names of a tuple of classes -/
inductive NmsE (X : Cx) : List Str → List Expr → Prop
  | nil : NmsE X [] []
  | cons {y : Str} {py : Pos} {ys : List Str} {es : List Expr} (hg : Gl X y) (hd : (y == ("__debug__" : Str)) = false) (hs : starEach (.Name y py :: es) X.env = (false, eval (.Name y py) X.env) :: starEach es X.env) : NmsE X ys es → NmsE X (y :: ys) (.Name y py :: es)
theorem NmsE.all {ys : List Str} {es : List Expr} {cs : List Addr} (h : NmsE X ys es) (hc : NmAt X.mg ys cs) : ClsNms X ys (cs.map V.ref) (cs.map Value.ref) ∧ PA (X.suite a ((a, oe) :: pn)) es (tCs (cs.map V.ref)) := by
  induction h generalizing cs with
  | nil =>
    cases hc
    exact ⟨.nil, pa_nil⟩
  | cons hg hd hs _ ih =>
    cases hc with
    | cons g r =>
      obtain ⟨h1, h2⟩ := ih r
      exact ⟨.cons (.own _ hg g hd) h1, pa_cons (pe_clsnm (.own _ hg g hd)) h2 hs⟩
theorem be_isXT {ys : List Str} {es : List Expr} {x1 : Nat} {tpos : Pos} (hz : Zc cls d oe) (hf : ∃ vs, oe.data = .fields vs) (O : XObj X.K) (Z : XKitT X.K X.mg ys l) (ne : NmsE X ys es) (hm : X.mg "isinstance" = none) (hN : X.N[i]? = some x := by rfl) (hv : Vis X.env.scope x := by first | exact Or.inl rfl | exact Or.inr (Or.inl rfl) | exact Or.inr (Or.inr rfl)) (hg : Gl X "isinstance" := by rfl)
    (hl : ys.length ≤ 100 := by decide) (hd : (x == ("__debug__" : Str)) = false := by decide) (hcd : (x == ("__classdict__" : Str)) = false := by decide)
    (he : starEach [.Name x px, .Tuple es x1 tpos] (X.suite a ((a, oe) :: pn)).env = (false, eval (.Name x px) (X.suite a ((a, oe) :: pn)).env) :: starEach [.Tuple es x1 tpos] (X.suite a ((a, oe) :: pn)).env := by rfl) :
    BE (X.suite a ((a, oe) :: pn)) (.Call (.Name "isinstance" p) [.Name x px, .Tuple es x1 tpos] [] pos) (mIsE i (tabF l) a cls d) := by
  obtain ⟨cs, hc, k⟩ := Z.ex
  obtain ⟨h1, h2⟩ := ne.all hc
  have len : ∀ {ys : List Str} {cs : List Addr}, NmAt X.mg ys cs → cs.length = ys.length := by
    intro ys cs h
    induction h with
    | nil => rfl
    | cons _ _ ih => rw [List.length_cons, List.length_cons, ih]
  exact be_isET hz hf O h1 h2 (fun c b e => k _ (lookup_mem e)) hm hN hv hg (by rw [List.length_map, len hc]; exact hl) hd hcd he
end
/-! ## how these are told from the written part -/
theorem XIs.of {K : PySem.W.Frag} {mg : Str → Option Value} {c : Str} {C : Addr} (g : mg c = some (.ref C)) (h1 : PySem.W.findIn K (.ref C) "__getattribute__" = some (some (.builtin "BaseException.__getattribute__"))) (h2 : PySem.W.findIn K (.ref C) "__getattr__" = some none) (h3 : PySem.W.subIn K (.ref C) (.type "BaseException") = some true)
    (h4 : PySem.W.findIn K (.ref C) "__class__" = some (some (.builtin "object.__class__"))) (h5 : PySem.W.hasDictIn K C = true) (h6 : PySem.W.mroIn K C (.type "object") = some true) : XIs K mg c := by
  obtain ⟨cd, hc, _⟩ := PySem.W.any_some h5
  exact ⟨C, g, by rw [hc]; rfl, h1, h2, h3, h4, h5, h6⟩
theorem at_pair {mg : Str → Option Value} {c : Str} {C : Addr} {P : Value → Prop} (g : mg c = some (.ref C)) (h : P (.ref C)) : ∀ cls, mg c = some cls → P cls := fun cls e => by
  cases g.symm.trans e
  exact h
theorem all_nil {P : Str × Bool → Prop} : ∀ p ∈ ([] : List (Str × Bool)), P p := fun _ h => nomatch h
theorem all_cons {P : Str × Bool → Prop} {q : Str × Bool} {l : List (Str × Bool)} (h : P q) (r : ∀ p ∈ l, P p) : ∀ p ∈ q :: l, P p := fun p hp => by
  rcases List.mem_cons.mp hp with e | hp
  · exact e ▸ h
  · exact r p hp
theorem mem_nil {α : Type} {P : α → Prop} : ∀ p ∈ ([] : List α), P p := fun _ h => nomatch h
theorem mem_cons {α : Type} {P : α → Prop} {q : α} {l : List α} (h : P q) (r : ∀ p ∈ l, P p) : ∀ p ∈ q :: l, P p := fun p hp => by
  rcases List.mem_cons.mp hp with e | hp
  · exact e ▸ h
  · exact r p hp
def xfOk (l : List Str) (c : Str) : Bool := decide (c ∈ l)
theorem xfOk_all {K : PySem.W.Frag} {mg : Str → Option Value} {f : Str} {l : List Str} (h : ∀ c ∈ l, XFld K mg c f) : ∀ k, xfOk l k = true → XFld K mg k f := fun k e => h k (of_decide_eq_true e)
/-! methods in a suite -/
theorem ms_index {X : Cx} {a : Addr} {pn : List (Addr × Obj)} {k : Nat} (r : RoomG k X.A) : MetD (X.suite a pn) "list" "list.index" gIndex := by
  refine ⟨_, mt_indexD (X := X.suite a pn) r.u65, fun F H x d xs ds rs Q sf hx hxs ht hg q => ?_⟩
  unfold gIndex at hg
  split at hg
  · split at hg
    · rename_i l e hc
      obtain ⟨h1, h2⟩ := hc
      obtain ⟨j, hj, e2⟩ := Option.map_eq_some_iff.mp hg
      cases e2
      obtain ⟨hlt, hp, hb⟩ := List.findIdx?_eq_some_iff_getElem.mp hj
      cases hxs with
      | cons he hn =>
        cases hn
        have hl := (hx.dr sf).dp (shp_lay h2)
        cases hx with
        | lst hx rx =>
          refine ⟨_, _, toPy e, toPys l, j, toPy l[j], rfl, rfl, hl, (he.dr sf).dp (shp_lay h1), h2, h1, ?_, hp, fun m z' hm hz => ?_, q _ _ (NR.val sf (.int _))⟩
          · rw [toPys_get, List.getElem?_eq_getElem hlt]
            rfl
          · rw [toPys_get, List.getElem?_eq_getElem (by omega)] at hz
            cases hz
            have := hb m hm
            simpa [eqv] using this
    · cases hg
  · cases hg
theorem ms_count {X : Cx} {a : Addr} {pn : List (Addr × Obj)} {k : Nat} (r : RoomG k X.A) : MetD (X.suite a pn) "list" "list.count" gCount := by
  refine ⟨_, mt_countD (X := X.suite a pn) r.u65, fun F H x d xs ds rs Q sf hx hxs ht hg q => ?_⟩
  unfold gCount at hg
  split at hg
  · split at hg
    · rename_i l e hc
      obtain ⟨h1, h2, h3, h4⟩ := hc
      cases hg
      cases hxs with
      | cons he hn =>
        cases hn
        have hl := (hx.dr sf).dp (shp_lay h2)
        cases hx with
        | lst hx rx =>
          refine ⟨_, _, toPy e, toPys l, rfl, rfl, hl, (he.dr sf).dp (shp_lay h1), h3, h4, ?_, ?_⟩
          · unfold shp SeqAt.shaped at h1
            rw [Bool.and_eq_true, decide_eq_true_eq] at h1
            omega
          · rw [count_py]
            exact q _ _ (NR.val sf (.int _))
    · cases hg
  · cases hg
end B

set_option Elab.async false
set_option linter.all false
set_option maxRecDepth 100000
set_option maxHeartbeats 4000000
namespace B
open PySem PySem.Spec L2
/-! ## list(range(n)) -/
section
variable {X : Cx}
theorem cr_range1 : CallR X (.type "range") (fun vs H Q => ∃ j, vs = [V.int j] ∧ ∀ p, H p = none → Q (.ref p) (upd H p (.rng 0 j))) := by
  intro pins s σ H vs us Q I r h
  obtain ⟨j, rfl, q⟩ := h
  obtain ⟨u1, rfl, rj⟩ := r.one
  obtain ⟨t, rfl⟩ := rj
  refine call_range_1 ⟨.ref s.heap.objs.size, upd H s.heap.objs.size (.rng 0 j), I.laid (t' := s.toks + 1 + 1) (fun b o e => Heap.get?_push_of_some _ e) (Nat.le_refl _) ⟨s.toks, t, s.toks + 1, Heap.get?_push_size _ rfl⟩, rfl, q _ (I.hok.fresh (Nat.le_refl _))⟩
theorem cr_listRng (hc : X.calm = true) : CallR X (.type "list") (fun vs H Q => ∃ (r : Addr) (n : Nat), vs = [V.ref r] ∧ H r = some (.rng 0 (n : Int)) ∧ n ≤ 1000000 ∧ ∀ p, H p = none → Q (.ref p) (upd H p (.lst ((List.range n).map fun i : Nat => V.int (i : Int))))) := by
  intro pins s σ H vs us Q I r h
  obtain ⟨a, n, rfl, ha, hn, q⟩ := h
  obtain ⟨u1, rfl, rj⟩ := r.one
  cases rj
  obtain ⟨t, u, v, e⟩ := (show ObjOk X.prog X.w H s.heap a (.rng 0 (n : Int)) from I.hok a _ ha)
  have sz : Builtin.Range.rangeSize 0 (n : Int) 1 = n := by
    rw [rangeSize_one]
    split <;> omega
  have sm : Builtin.Range.small 0 (n : Int) 1 = true := small_one (by decide) (by decide) (by omega) (by omega)
  refine call_list_range (I.ok.hd hc) e sm sz (by omega) fun h' tk acc' c' k he hi => ?_
  refine ⟨.ref s.heap.objs.size, upd H s.heap.objs.size (.lst ((List.range n).map fun i : Nat => V.int (i : Int))), I.laid (t' := tk) k (Nat.le_refl _) ⟨?_, acc'.toList, c', ?_, ?_⟩, rfl, q _ (I.hok.fresh (Nat.le_refl _))⟩
  · rw [List.length_map, List.length_range, sizeLine_eq]
    omega
  · refine vals_of_at (by rw [List.length_map, List.length_range, Array.length_toList, hi.1]) fun j x w h1 h2 => ?_
    obtain ⟨tk', e2⟩ := hi.2 j w (by rw [← Array.getElem?_toList]; exact h2)
    rw [List.getElem?_map] at h1
    have hj : j < n := by
      rw [Array.getElem?_toList] at h2
      have := (Array.getElem?_eq_some_iff.mp h2).1
      rw [hi.1] at this
      exact this
    rw [List.getElem?_range hj] at h1
    cases h1
    exact ⟨tk', by rw [e2, Int.mul_one, Int.zero_add]⟩
  · rw [Array.toArray_toList]
    exact he
def gListRng : D → Option Rs
  | .int n => if 0 ≤ n ∧ n ≤ 1000000 then some (.own (.nd .lst ((List.range n.toNat).map fun i : Nat => D.int (i : Int)))) else none
  | _ => none
theorem DRs.rng {K : PySem.W.Frag} {mg : Str → Option Value} {F : Hp} (l : List Nat) : DRs K mg F (l.map fun i : Nat => V.int (i : Int)) (l.map fun i : Nat => D.int (i : Int)) := by
  induction l with
  | nil => exact .nil
  | cons a l ih => exact .cons (.int _) ih
theorem be_listRng {a : Expr} {ma : M Pl} {p p2 q pos : Pos} (hm : X.mg "list" = none) (hm2 : X.mg "range" = none) (hc : X.calm = true) (ha : BP X a ma) (hg : Gl X "list" := by rfl) (hg2 : Gl X "range" := by rfl) (na : starEach [a] X.env = (false, eval a X.env) :: starEach [] X.env := by rfl)
    (nb : starEach [.Call (.Name "range" p2) [a] [] q] X.env = (false, eval (.Call (.Name "range" p2) [a] [] q) X.env) :: starEach [] X.env := by rfl) :
    BE X (.Call (.Name "list" p) [.Call (.Name "range" p2) [a] [] q] [] pos) (mUn gListRng ma) := by
  refine fun W tk => (pe_callTy (cr_listRng hc) hg hm boot_list (pa_cons (pe_callTy cr_range1 hg2 hm2 boot_range (pa_cons (ha W tk) pa_nil na) (by decide) (by decide) na) pa_nil nb) (by decide) (by decide) nb).imp fun σ H Q ⟨G, io, F, β, I, h⟩ => ?_
  refine ⟨G, io, F, β, I, h.bnd fun pl β1 v H1 F1 fe1 I1 r1 h1 => ?_⟩
  obtain ⟨F, d, r, sf, hx, hgr, q⟩ := fin1_post I1 r1 (h1.mono fe1)
  unfold gListRng at hgr
  split at hgr
  · rename_i n
    split at hgr
    · rename_i hn
      cases hgr
      cases hx
      refine ⟨n, rfl, fun s hs => ?_⟩
      have sh : Same H1 (upd H1 s (.rng 0 n)) := fun b u hb => by
        rw [upd_ne (ne_of_none hb hs)]
        exact hb
      refine ⟨s, n.toNat, rfl, by rw [upd_same]; congr 2; omega, by omega, fun z hz => ?_⟩
      have hz1 : H1 z = none := by
        by_cases e : z = s
        · subst e
          rw [upd_same] at hz
          cases hz
        · rwa [upd_ne e] at hz
      refine q _ _ ⟨fun b u hb => ?_, z, rfl, hz1, .lst upd_same (DRs.rng _)⟩
      rw [upd_ne (ne_of_none (sh b u hb) hz)]
      exact sh b u hb
    · cases hgr
  · cases hgr
end
/-! ## a op b op c, as a test -/
theorem bt_chain {X : Cx} {a b c : Expr} {pos : Pos} {op op' : CmpOp} {g g' : D → D → Option Rs} {ma mb mc : M Pl} (ho : OpD X (compareOp op) g) (ho' : OpD X (compareOp op') g') (ha : BP X a ma) (hb : BP X b mb) (hc : BP X c mc)
    (hm : lastMarks [op, op'] [b, c] = false := by first | rfl | exact nomark _) : BT X (.Compare a [op, op'] [b, c] pos) (asB (mChain g g' ma mb mc)) := by
  refine fun W tk => (pt_chain ho ho' (ha W tk) (hb W tk) (hc W tk) hm).imp fun σ H Q h => ?_
  obtain ⟨G, io, F, β, I, h⟩ := h
  have h := asB_post h
  refine ⟨G, io, F, β, I, h.bnd fun p β1 v H1 F1 fe1 I1 r1 h1 => ⟨G, io, F1, β1, I1, (h1.mono fe1).bnd fun q β2 w H2 F2 fe2 I2 r2 h2 => ?_⟩⟩
  have h2 := h2.mono fe2
  refine fin2_post (Q := fun z H3 => ∃ k, z = .bl k ∧ _) I2 (r1.mono fe2.same) r2 (asB_ok h2 _ fun k β3 H3 F3 fe3 I3 h3 => ?_)
  refine ⟨k, rfl, ?_⟩
  cases k with
  | true =>
    refine ⟨G, io, F3, β3, I3, (h3.mono fe3).bnd fun r β4 u H4 F4 fe4 I4 r4 h4 => ?_⟩
    exact fin2_post I4 ((r2.mono fe3.same).mono fe4.same) r4 (h4.mono fe4)
  | false => exact h3 _ H3 F3 fe3 I3 (.bl false)
@[simp ↓] theorem W_mPar {i j : Nat} {ma : M (List Pl)} {β : B.Env} {Q : Fl → B.Env → Prop} {E : Exn → B.Env → Prop} : W (mPar i j ma) β Q E ↔ W ma β (fun ps β1 => optW (allD ps) fun ds => match ds with
  | [d, e] => Q .nx ((β1.set i (.fz d)).set j (.fz e))
  | _ => False) E := by
  unfold mPar
  refine W_bnd.trans (W_congr fun ps β1 => ?_)
  unfold W
  cases allD ps with
  | none => with_unfolding_all rfl
  | some ds =>
    rcases ds with _ | ⟨d, _ | ⟨e, _ | ⟨f, l⟩⟩⟩ <;> with_unfolding_all exact Iff.rfl
end B

set_option Elab.async false
set_option linter.all false
set_option maxRecDepth 100000
set_option maxHeartbeats 4000000
namespace B
open PySem PySem.Spec L2
/-! ## repr, of a number too -/
def gRepr2 : D → Option Rs
  | .int i => if i.natAbs.log2 < 1920 then some (.fz (.str (toString i))) else none
  | d => gRepr d
section
variable {X : Cx} {p pos : Pos} {a : Expr} {ma : M Pl}
theorem be_repr2 (hG : X.A.guards = some []) (hu : X.A.units + 64 < cLine) (hg : Gl X "repr") (hm : X.mg "repr" = none) (ha : BP X a ma) (hs : starEach [a] X.env = (false, eval a X.env) :: starEach [] X.env := by rfl)
    (hpl : (backTo pos (starEach [] X.env)).any (·.1) = false := by rfl) : BE X (.Call (.Name "repr" p) [a] [] pos) (mUn gRepr2 ma) := by
  have cr : CallR X (.builtin "repr") (fun xs H Q => (∃ i, xs = [.int i] ∧ i.natAbs.log2 < 1920 ∧ Q (.str (toString i)) H) ∨ ∃ (l : Addr) (d : PyData), xs = [.ref l] ∧ Dp X.K H (.ref l) d ∧ d.canLay0 = true ∧ d.showable = true ∧ d.shown.length ≤ sizeLine ∧ d.depth ≤ 50 ∧ Q (.str d.shown) H) := by
    intro pins s σ H xs us Q I r h
    rcases h with h | ⟨l, d, e, dp, c1, c2, c3, c4, q⟩
    · exact SkE.call_repr_int pins s σ H xs us Q I r h
    · subst e
      cases r with
      | cons r rr =>
        cases rr
        cases r
        obtain ⟨as, rd⟩ := Dp.reads I d _ _ dp rfl
        exact PySem.repr_of_reads' rd c2 (PyData.noDict_hsm (PyData.hasDict_of_canLay d c1)) hG (by omega) (fun _ _ e => e) (fun h' u tk hk => ⟨.str d.shown, H, I.kept (t' := tk) hk, ⟨u, rfl⟩, q⟩) c3
  refine fun W tk => (pe_callB cr hg hm PyProof.Rows.boot_repr (pa_cons (ha W tk) pa_nil hs) (by decide) (by decide) hs hpl).imp fun σ H Q ⟨G, io, F, β, I, h⟩ => ⟨G, io, F, β, I, h.bnd fun q β1 v H1 F1 fe1 I1 r1 h1 => ?_⟩
  obtain ⟨F, d, r, sf, hx, hgr, q⟩ := fin1_post I1 r1 (h1.mono fe1)
  unfold gRepr2 at hgr
  split at hgr
  · split at hgr
    · rename_i hl
      cases hgr
      cases hx
      exact .inl ⟨_, rfl, hl, q _ _ (NR.val sf (.str _))⟩
    · cases hgr
  · unfold gRepr at hgr
    split at hgr
    · rename_i hh
      cases hgr
      obtain ⟨sq, ok⟩ := hh
      simp only [shwOk, Bool.and_eq_true, decide_eq_true_eq] at ok
      have dp := DR.dp (hx.dr sf) ok.1.1.1
      cases hx with
      | lst h r => exact .inr ⟨_, _, rfl, dp, ok.1.1.1, ok.1.1.2, ok.1.2, ok.2, q _ _ (NR.val sf (.str _))⟩
      | tup h r => exact .inr ⟨_, _, rfl, dp, ok.1.1.1, ok.1.1.2, ok.1.2, ok.2, q _ _ (NR.val sf (.str _))⟩
      | _ => cases sq
    · cases hgr
end
/-! ## by what is wished for -/
section
variable {P : Rs → Prop} {ds : List D}
theorem w_sorted (ok : sortOk ds) : optW (gSorted [.nd .lst ds]) P ↔ P (.own (.nd .lst (sortD ds))) := by
  have e : gSorted [.nd .lst ds] = some (.own (.nd .lst (sortD ds))) := by
    unfold gSorted
    exact if_pos ok
  rw [e]
  exact Iff.rfl
theorem w_sortSet {ks : List (List Int)} (ok : setOk ks) : optW (gSortSet (.nd .lst (ks.map tupD))) P ↔ P (.own (.nd .lst ((tset ks).map tupD))) := by
  have e : gSortSet (.nd .lst (ks.map tupD)) = some (.own (.nd .lst ((tset ks).map tupD))) := by
    unfold gSortSet
    show (tups? (ks.map tupD)).bind _ = _
    rw [tups_map]
    exact if_pos ok
  rw [e]
  exact Iff.rfl
@[simp ↓] theorem w_listRng {n : Nat} : optW (gListRng (.int (n : Int))) P ↔ n ≤ 1000000 ∧ P (.own (.nd .lst ((List.range n).map fun i : Nat => D.int (i : Int)))) := by
  show optW (if 0 ≤ (n : Int) ∧ (n : Int) ≤ 1000000 then some (Rs.own (.nd .lst ((List.range (n : Int).toNat).map fun i : Nat => D.int (i : Int)))) else none) P ↔ _
  rw [optW_ite, Int.toNat_natCast]
  constructor
  · rintro ⟨⟨_, h⟩, q⟩
    exact ⟨by omega, q⟩
  · rintro ⟨h, q⟩
    exact ⟨⟨by omega, by omega⟩, q⟩
@[simp ↓] theorem w_clear {P : D × D → Prop} : optW (gClear (.nd .lst ds) []) P ↔ P (.non, .nd .lst []) := Iff.rfl
theorem w_insert {i : Int} {d : D} {P : D × D → Prop} : optW (gInsert (.nd .lst ds) [.int i, d]) P ↔ (ds.length < sizeLine ∧ 0 ≤ i ∧ i < 2 ^ 63) ∧ P (.non, .nd .lst (ds.take i.toNat ++ [d] ++ ds.drop i.toNat)) := optW_ite
theorem w_reprI {i : Int} (h : i.natAbs.log2 < 1920) : optW (gRepr2 (.int i)) P ↔ P (.fz (.str (toString i))) := by
  show optW (if i.natAbs.log2 < 1920 then _ else _) P ↔ _
  rw [if_pos h]
  exact Iff.rfl
end
/-- sorted ints -/
theorem sortOk_ints (ns : List Int) : sortOk (ns.map D.int) := by
  refine ⟨fun d hd => ?_, fun a ha b hb => ?_, .inr fun d hd => ?_⟩
  · obtain ⟨z, _, rfl⟩ := List.mem_map.mp hd
    exact ⟨by simp [toPy, PyData.canLay0], by simp [toPy, PyData.depth]⟩
  · rw [List.map_map] at ha hb
    obtain ⟨z, _, rfl⟩ := List.mem_map.mp ha
    obtain ⟨y, _, rfl⟩ := List.mem_map.mp hb
    simp [toPy, PySem.W.alike]
  · rw [List.map_map] at hd
    obtain ⟨z, _, rfl⟩ := List.mem_map.mp hd
    exact ⟨fun h => (nomatch h), fun xs h => (nomatch h)⟩
theorem sortD_ints {ns ms : List Int} (hp : ns.Perm ms) (hs : ms.Pairwise (· ≤ ·)) : sortD (ns.map D.int) = ms.map D.int := by
  have hm := List.map_mergeSort (r := fun a b : Int => decide (a ≤ b)) (s := leD) (f := D.int) (l := ns) (fun a _ b _ => (congrFun (congrFun (PySem.W.dataLe_int (fun z : Int => z)) a) b).symm)
  unfold sortD
  rw [← hm]
  congr 1
  refine PySem.W.lks_uniq ((List.mergeSort_perm _ _).trans hp) ?_ hs
  have := List.pairwise_mergeSort (le := fun a b : Int => decide (a ≤ b)) (fun a b c h1 h2 => by simp at *; omega) (fun a b => by simp; omega) ns
  exact this.imp fun h => by simpa using h
theorem sort_ints {ns ms : List Int} (hp : ns.Perm ms) (hs : ms.Pairwise (· ≤ ·)) {P : Rs → Prop} : optW (gSorted [.nd .lst (ns.map D.int)]) P ↔ P (.own (.nd .lst (ms.map D.int))) := by
  rw [w_sorted (sortOk_ints ns), sortD_ints hp hs]
theorem imms_ints : ∀ ns : List Int, imms (ns.map D.int) = true
  | [] => rfl
  | n :: ns => by
    show (imm (.int n) && imms (ns.map D.int)) = true
    rw [imms_ints ns]
    rfl
theorem imms_co (l : List Nat) : imms (l.map (D.int ∘ fun k : Nat => (k : Int))) = true := by
  have := imms_ints (l.map fun k : Nat => (k : Int))
  rw [List.map_map] at this
  exact this
end B

set_option Elab.async false
set_option linter.all false
set_option maxRecDepth 100000
set_option maxHeartbeats 4000000
namespace B
open PySem PySem.Spec L2
/-! ## lambdas handed to a def -/
/-- a code object more, if it is new -/
def Grown (H : Hp) (P c : Addr) (q : Str) (H1 : Hp) : Prop := H1 = H ∨ ∃ ps, H c = none ∧ c ≠ P ∧ LamX.TabS H1 P q ∧ H1 = upd (upd H P (.tbl ps)) c (LamX.CodeO c q)
section
variable {X : Cx} {pins : List (Addr × Obj)} {σ : L2.St} {H : Hp} {s : Shared}
theorem lam_new {c P : Addr} {prm : Arguments} {body : Expr} {sc : Scope} {pos : Pos} {E Q : Value → Shared → Prop} (I : Inv X pins σ H s) (TB : LamX.TabB X.base X.mg c P) (hc : X.env.code = .ref c) (tab : LamX.TabS H P (X.env.qual ++ "<lambda>"))
    (nod : defaultsOf prm X.env = ([], [])) (fr : ∀ y ∈ sc.names, y.2 = .free → ∃ c, X.env.cells.lookup y.1 = some c)
    (go : ∀ (f c' : Addr) (pm tv : Value) (H1 : Hp) (s' : Shared), Inv X pins σ H1 s' → Grown H P c' (X.env.qual ++ "<lambda>") H1 → s'.heap.get? f = some (PySem.W.kla_obj "<lambda>" (X.env.qual ++ "<lambda>") prm body sc (cloFrom X.env.cells sc.names []) pm c' tv) →
      H1 f = none → f ∉ frs X.stack → H1 c' = some (LamX.CodeO c' (X.env.qual ++ "<lambda>")) → Q (.ref f) s') :
    wpAny (model X.prog X.w) X.A (eval (.Lambda prm body sc pos) X.env) Q E s := by
  obtain ⟨ps, hP, trip, names⟩ := tab
  have real := I.hok P _ hP
  have gl := I.mod.glob.keeps I.bk
  have bu := TB.bm.keeps I.bk
  have hd := TB.code.keeps I.bk
  have cl := closure_ok fr
  have outside : ∀ f, s.heap.objs.size ≤ f → f ∉ frs X.stack := fun f big z => (List.mem_cons.mp (I.stkSub _ z)).elim (fun e => by
    have lt := I.lt
    rw [← e] at lt
    exact Nat.lt_irrefl _ (Nat.lt_of_lt_of_le lt big)) fun e => I.nofs big e
  refine PySem.W.kla_eval nod ?_
  cases found : codeAmong pos ps.toList with
  | some cv =>
    obtain ⟨c', rfl, known⟩ := names pos cv found
    refine PySem.W.kla_makeFunctionHit cl I.ok.glob gl hc hd real trip found bu fun tv h' tk keep big => ?_
    have J := I.kept (h' := h'.push (PySem.W.kla_obj "<lambda>" (X.env.qual ++ "<lambda>") prm body sc (cloFrom X.env.cells sc.names []) ((X.mg "__name__").getD .none) c' tv)) (t' := tk) fun b o e => Heap.get?_push_of_some _ (keep b o e)
    exact go _ c' _ tv H _ J (.inl rfl) (Heap.get?_push_size _ rfl) (I.hok.fresh big) (outside _ big) known
  | none =>
    refine PySem.W.kla_makeFunction (c := c) cl I.ok.glob gl hc hd real trip found TB.gP bu fun cn tv h' tk hx big small rec_ row => ?_
    obtain ⟨c', oc, vs, t, e, at_, dat, nm⟩ := rec_
    cases e
    have fresh : H cn = none := I.hok.fresh big
    have cP : cn ≠ P := fun z => by rw [z, hP] at fresh; cases fresh
    have sizes : s.heap.objs.size ≤ h'.objs.size := by omega
    have J := LamX.inv_table (t' := tk) (more := #[rawInt pos.line, rawInt pos.col, .ref cn]) (h' := h'.push (PySem.W.kla_obj "<lambda>" (X.env.qual ++ "<lambda>") prm body sc (cloFrom X.env.cells sc.names []) ((X.mg "__name__").getD .none) cn tv)) (q := X.env.qual ++ "<lambda>") I hP
      (fun b o hb e => Heap.get?_push_of_some _ (hx b o hb e)) (Heap.get?_push_of_some _ row) big ⟨oc, vs, t, Heap.get?_push_of_some _ at_, dat, nm⟩
    have eq : (ps ++ #[rawInt pos.line, rawInt pos.col, .ref cn]).toList = ps.toList ++ [rawInt pos.line, rawInt pos.col, .ref cn] := by simp
    refine go _ cn _ tv _ _ J (.inr ⟨_, fresh, cP, ⟨_, by rw [upd_ne cP.symm, upd_same], by rw [eq]; exact PySem.TriplesOk_snoc _ _ _ _ trip, fun p2 cv hcv => ?_⟩, rfl⟩) (Heap.get?_push_size _ rfl) ?_ (outside _ sizes) upd_same
    · rw [eq] at hcv
      rcases LamX.among_app _ trip hcv with z | z
      · obtain ⟨d, e1, e2⟩ := names p2 cv z
        have ne1 : d ≠ cn := fun w => by rw [w, fresh] at e2; cases e2
        have ne2 : d ≠ P := fun w => by
          rw [w, hP] at e2
          exact LamX.codeO_ne ps (Option.some.inj e2).symm
        exact ⟨d, e1, by rw [upd_ne ne1, upd_ne ne2]; exact e2⟩
      · exact ⟨cn, z, upd_same⟩
    · have n1 : h'.objs.size ≠ cn := by omega
      have n2 : h'.objs.size ≠ P := fun z => by
        have lt := Heap.lt_size real
        rw [← z] at lt
        exact Nat.lt_irrefl _ (Nat.lt_of_lt_of_le lt sizes)
      rw [upd_ne n1, upd_ne n2]
      exact I.hok.fresh sizes
/-- what was handed in is called -/
theorem ask_pe {CXg : CXT} {Eg : XK} {Ng : List Str} {qg : Str} {sg : Scope} {g f c' : Addr} {cdg pm tv : Value} {prm : Arguments} {body : Expr} {sc : Scope} {k i : Nat} {a : Str} {pn : List (Addr × Obj)} {xe : Value → Shared → Prop} {E : L2.St → XK} {t : XK → TE} {p1 p2 : Pos}
    (I : Inv X pins σ H s) (L : LamX.LamS X.env.scope sc) (lam : s.heap.get? f = some (PySem.W.kla_obj "<lambda>" (X.env.qual ++ "<lambda>") prm body sc (cloFrom X.env.cells sc.names []) pm c' tv)) (new : H f = none) (noframe : f ∉ frs X.stack)
    (none_ : bindArgs (PySem.W.kla_fn "<lambda>" (X.env.qual ++ "<lambda>") prm body sc (cloFrom X.env.cells sc.names []) pm (.ref c') tv) ⟨[], []⟩ = pure [])
    (out : ∀ σ, PassesAt (L2.CX X.prog X.w) ((cxOf CXg X.prog X.w X.K X.mg X.base Ng qg sg g cdg X.A X.stack s H Eg).tr pn xe) σ (E σ)) (room : RoomG (k + 1) (X.A.deeper (PyProof.Rows.envOfC qg sg s.heap.objs.size g cdg)))
    (hbody : ∀ (s1 : Shared) (H1 : Hp) (E1 : XK), PE (LamX.lamCx X (X.A.deeper (PyProof.Rows.envOfC qg sg s.heap.objs.size g cdg)) (PyProof.Rows.envOfC qg sg s.heap.objs.size g cdg :: X.stack) s1 H1 E1 sc f c') body (t E1))
    (hN : Ng[i]? = some a) (hv : Vis sg a) (hd : (a == ("__debug__" : Str)) = false) (hcd : (a == ("__classdict__" : Str)) = false) :
    PE ((cxOf CXg X.prog X.w X.K X.mg X.base Ng qg sg g cdg X.A X.stack s H Eg).tr pn xe) (.Call (.Name a p1) [] [] p2) (fun τ HZ Q => τ[i]? = some (some (.ref f)) ∧ HZ c' = some (LamX.CodeO c' (X.env.qual ++ "<lambda>")) ∧ t (E τ) σ HZ Q) where
  run ps sZ τ HZ Q IZ := by
    rintro ⟨slot, code, pre⟩
    have name := (pe_var (X := (cxOf CXg X.prog X.w X.K X.mg X.base Ng qg sg g cdg X.A X.stack s H Eg).tr pn xe) (pos := p1) (i := i) hN hv hd hcd).run ps sZ τ HZ (fun v H1 => v = .ref f ∧ H1 = HZ) IZ ⟨_, slot, rfl, rfl⟩
    refine wpAny_Call_Name_kw (thn name fun u s1 hu => ?_)
    obtain ⟨v, H1, J, rel, rfl, rfl⟩ := hu
    cases (show u = Value.ref f from rel)
    have stays := J.base.keep f _ lam new noframe (fun z => nomatch z)
    have run : codeAny (model X.prog X.w) (X.A.deeper (PyProof.Rows.envOfC qg sg s.heap.objs.size g cdg)) (.call (.ref f) ⟨[], []⟩) (CR (L2.CX X.prog X.w) (PyProof.Rows.envOfC qg sg s.heap.objs.size g cdg :: X.stack) X.prog X.w H1 s1 Q (E τ)) s1 := by
      obtain ⟨⟨oc, vs, tk, oat, odat, onm⟩, _, _⟩ := J.hok c' _ code
      refine PySem.W.kla_callFunE room.r.depth stays rfl L.co L.gen rfl ⟨c', oc, vs, tk, rfl, oat, odat, onm⟩ ?_
      rw [none_]
      refine wpAny_pure (wpAny_newFunctionEnv (fun y hy => (L.own y hy).2) (fun y hy => nomatch hy) (fun h1 names more => ⟨J.nolimit.fresh _ more, PySem.W.kla_codeExpr ?_⟩) L.kind)
      have all : ∀ b o, s1.heap.get? b = some o → h1.get? b = some o := fun b o e => more.extBut b o (Nat.ne_of_lt (Heap.lt_size e)) (Heap.get?_push_of_some _ e)
      have start := LamX.lam_start2 (tk := s1.toks + ([] : List (Str × Value)).length) (E := E τ) (c' := c') (f := f) I L J.env0 room.r.hd J.base names all
      refine wpAny_mono ((hbody s1 H1 (E τ)).run [] _ σ H1 Q start pre) (fun v s' z => ?_) fun e s' z => z
      obtain ⟨w', H', J', rv, q⟩ := z
      exact ⟨w', H', J'.os, J'.bare, J'.base, J'.hok, rv, q⟩
    exact PySem.W.callWith_F0 ⟨_, _, _, _, stays⟩ (wpAny_call (codeAny_mono run fun r s' q => match r, q with
      | .error e, q => out τ ps H1 s1 e s' J q
      | .ok (.ret u), q => J.after q
      | .ok .next, q => q.elim
      | .ok .brk, q => q.elim
      | .ok .cont, q => q.elim))
end
end B

set_option Elab.async false
set_option linter.all false
set_option maxRecDepth 100000
set_option maxHeartbeats 4000000
namespace B
open PySem PySem.Spec L2
/-! ## lambdas: what they mean -/
/-- while a lambda runs, all of its maker's names are data that stays -/
def lendS : Sl → Sl
  | .own _ d => .fz d
  | .fz d => .fz d
  | _ => .un
def lendB (β : B.Env) : B.Env := β.map lendS
/-- the outcome o of what was handed in, that the slot i tells of -/
noncomputable def mAsk (i : Nat) (z : Ez) (o : R Rs) : M Rs := open Classical in fun β => match β[i]? with
  | some (.ex z') => if z' = z then (match o with
    | .ok r _ => .ok r β
    | .exc x _ => .exc x β
    | .stuck => .stuck) else .stuck
  | _ => .stuck
def envIs (o : R Rs) (β : B.Env) : Prop := match o with
  | .ok _ β1 => β1 = β
  | .exc _ β1 => β1 = β
  | .stuck => False
def z0 : Ez := ez 0 .none none ⟨"", []⟩
def lamAt (n : Nat) (m : Ez → R Rs → M Fl) (o : R Rs) (z : Ez) : FR := finF [false] (m z o (.ex z :: List.replicate (n - 1) .un))
noncomputable def lamRun (n : Nat) (m : Ez → R Rs → M Fl) (o : R Rs) : FR := open Classical in if ∀ z, lamAt n m o z = lamAt n m o z0 then lamAt n m o z0 else .stuck
noncomputable def mLam (gi : Nat) (ts : List (Addr × Str)) (n : Nat) (m : Ez → R Rs → M Fl) (me : M Rs) : M Rs := open Classical in fun β =>
  if β[gi]? = some (.gh ts) ∧ envIs (me (lendB β)) (lendB β) then (match lamRun n m (me (lendB β)) with
    | .ok r [] => if immR r = true then .ok r β else .stuck
    | _ => .stuck) else .stuck
def ownIx (β : B.Env) : List Nat := (List.range β.length).filter fun i => match β[i]? with
  | some (.own _ _) => true
  | _ => false
section
variable {K : PySem.W.Frag} {mg : Str → Option Value} {G : GT} {F F' H H' : Hp} {io : List Addr} {β : B.Env} {σ : L2.St}
theorem own_ix : OwnS β (ownIx β) := fun j hj => by
  have := (List.mem_filter.mp hj).2
  cases e : β[j]? with
  | none => rw [e] at this; cases this
  | some s =>
    rw [e] at this
    cases s with
    | own b d => exact ⟨b, d, rfl⟩
    | un => cases this
    | fz _ => cases this
    | ex _ => cases this
    | gh _ => cases this
theorem ix_own {i : Nat} {b : Option Nat} {d : D} (e : β[i]? = some (.own b d)) : i ∈ ownIx β := List.mem_filter.mpr ⟨List.mem_range.mpr (List.getElem?_eq_some_iff.mp e).1, by rw [e]⟩
/-- what the names hold, as data -/
theorem BI.lent (I : BI K mg G F io β σ H) : ∃ vs ds, DRs K mg (withL F H σ (ownIx β)) vs ds ∧ ∀ (i : Nat) (d : D), (lendB β)[i]? = some (Sl.fz d) → ∃ (j : Nat) (v : V), σ[i]? = some (some v) ∧ vs[j]? = some v ∧ ds[j]? = some d := by
  have one : ∀ (i : Nat) (d : D), (lendB β)[i]? = some (Sl.fz d) → ∃ v, σ[i]? = some (some v) ∧ DR K mg (withL F H σ (ownIx β)) v d := fun i d e => by
    unfold lendB at e
    rw [List.getElem?_map] at e
    obtain ⟨s, es, e2⟩ := Option.map_eq_some_iff.mp e
    obtain ⟨o, eo, r⟩ := I.sl i s es
    cases s with
    | un => cases e2
    | ex _ => cases e2
    | gh _ => cases e2
    | fz d' =>
      cases e2
      obtain ⟨v, ev, dr⟩ := r
      exact ⟨v, by rw [eo, ev], dr.mono (withL_same I own_ix).1⟩
    | own b d' =>
      cases e2
      obtain ⟨a, ea, _, _, _, _, ow⟩ := r
      refine ⟨.ref a, by rw [eo, ea], ow.dr (withL_same I own_ix).1 ?_⟩
      unfold withL
      rw [if_pos ⟨i, ix_own es, by rw [eo, ea]⟩]
  have all : ∀ n : Nat, ∃ vs ds, DRs K mg (withL F H σ (ownIx β)) vs ds ∧ ∀ (i : Nat) (d : D), i < n → (lendB β)[i]? = some (Sl.fz d) → ∃ (j : Nat) (v : V), σ[i]? = some (some v) ∧ vs[j]? = some v ∧ ds[j]? = some d := fun n => by
    induction n with
    | zero => exact ⟨[], [], .nil, fun i d h => by omega⟩
    | succ n ih =>
      obtain ⟨vs, ds, r, k⟩ := ih
      by_cases h : ∃ d, (lendB β)[n]? = some (Sl.fz d)
      · obtain ⟨d, e⟩ := h
        obtain ⟨v, ev, dr⟩ := one n d e
        refine ⟨vs ++ [v], ds ++ [d], r.append (.cons dr .nil), fun i d2 hi e2 => ?_⟩
        by_cases hn : i = n
        · subst hn
          rw [e] at e2
          cases e2
          exact ⟨vs.length, v, ev, by simp, by rw [r.length]; simp⟩
        · obtain ⟨j, v2, q1, q2, q3⟩ := k i d2 (by omega) e2
          have l1 := (List.getElem?_eq_some_iff.mp q2).1
          have l2 := (List.getElem?_eq_some_iff.mp q3).1
          exact ⟨j, v2, q1, by rw [List.getElem?_append_left l1]; exact q2, by rw [List.getElem?_append_left l2]; exact q3⟩
      · refine ⟨vs, ds, r, fun i d2 hi e2 => ?_⟩
        by_cases hn : i = n
        · subst hn
          exact absurd ⟨d2, e2⟩ h
        · exact k i d2 (by omega) e2
  obtain ⟨vs, ds, r, k⟩ := all β.length
  refine ⟨vs, ds, r, fun i d e => k i d ?_ e⟩
  have := (List.getElem?_eq_some_iff.mp e).1
  unfold lendB at this
  simpa using this
/-- the maker's view while the lambda runs -/
theorem BI.view {Gi : GT} {Fi HZ : Hp} {ioi : List Addr} {βi : B.Env} {τ : L2.St} {i : Nat} {z : Ez} (J : BI K mg Gi Fi ioi βi τ HZ) (e : βi[i]? = some (.ex z)) (hl : β.length = σ.length)
    (cov : ∀ (i : Nat) (d : D), (lendB β)[i]? = some (Sl.fz d) → ∃ (j : Nat) (v : V), σ[i]? = some (some v) ∧ z.vs[j]? = some v ∧ z.ds[j]? = some d) : BI K mg (butIo Gi.t HZ []) Fi [] (lendB β) σ HZ := by
  obtain ⟨o, eo, _, xz⟩ := J.sl i _ e
  have no : ∀ {j : Nat} {s : Sl}, (lendB β)[j]? = some s → isOwn s = true → False := fun {j s} e h => by
    unfold lendB at e
    rw [List.getElem?_map] at e
    obtain ⟨s', _, rfl⟩ := Option.map_eq_some_iff.mp e
    cases s' <;> cases h
  refine ⟨⟨fun a o h => ?_, J.sg.t, fun a o h => ?_⟩, J.sf, fun _ h => (nomatch h), fun _ h => (nomatch h), by unfold lendB; rw [List.length_map]; exact hl, fun j s es => ?_, fun j l s t a e1 _ h1 => (no e1 h1).elim⟩
  · unfold butIo at h
    simp only at h
    split at h
    · cases h
    · exact h
  · unfold butIo at h ⊢
    simp only at h ⊢
    split at h
    · cases h
    · rename_i q
      cases z : Gi.t a with
      | none => rfl
      | some x => exact absurd (.inr (by rw [z]; simp)) q
  · have es' := es
    unfold lendB at es
    rw [List.getElem?_map] at es
    obtain ⟨s', e', rfl⟩ := Option.map_eq_some_iff.mp es
    have hj : j < σ.length := by
      rw [← hl]
      exact (List.getElem?_eq_some_iff.mp e').1
    have un : ∃ o, σ[j]? = some o ∧ SlR K mg (butIo Gi.t HZ []) Fi [] HZ o .un := ⟨_, List.getElem?_eq_getElem hj, trivial⟩
    have fz : ∀ d, lendS s' = .fz d → ∃ o, σ[j]? = some o ∧ SlR K mg (butIo Gi.t HZ []) Fi [] HZ o (.fz d) := fun d h => by
      obtain ⟨l, v, q1, q2, q3⟩ := cov j d (by rw [es', h])
      obtain ⟨d2, q4, dr⟩ := xz.vs.get q2
      rw [q3] at q4
      cases q4
      exact ⟨_, q1, v, rfl, dr⟩
    cases s' with
    | un => exact un
    | ex _ => exact un
    | gh _ => exact un
    | fz d => exact fz d rfl
    | own b d => exact fz d rfl
end
section
variable {X : Cx}
/-- the outcome of what was handed in -/
theorem be_ask {pins : List (Addr × Obj)} {σ : L2.St} {H : Hp} {s : Shared} {CXg : CXT} {Eg : XK} {Ng : List Str} {qg : Str} {sg : Scope} {g f c' : Addr} {cdg pm tv : Value} {prm : Arguments} {body : Expr} {sc : Scope} {k i : Nat} {a : Str} {pn : List (Addr × Obj)} {xe : Value → Shared → Prop} {p1 p2 : Pos}
    {β : B.Env} {me : M Rs} {z : Ez} (I : Inv X pins σ H s) (L : LamX.LamS X.env.scope sc) (lam : s.heap.get? f = some (PySem.W.kla_obj "<lambda>" (X.env.qual ++ "<lambda>") prm body sc (cloFrom X.env.cells sc.names []) pm c' tv)) (new : H f = none) (noframe : f ∉ frs X.stack)
    (none_ : bindArgs (PySem.W.kla_fn "<lambda>" (X.env.qual ++ "<lambda>") prm body sc (cloFrom X.env.cells sc.names []) pm (.ref c') tv) ⟨[], []⟩ = pure [])
    (room : RoomG (k + 1) (X.A.deeper (PyProof.Rows.envOfC qg sg s.heap.objs.size g cdg)))
    (hme : ∀ (s1 : Shared) (H1 : Hp) (E1 : XK), BE (LamX.lamCx X (X.A.deeper (PyProof.Rows.envOfC qg sg s.heap.objs.size g cdg)) (PyProof.Rows.envOfC qg sg s.heap.objs.size g cdg :: X.stack) s1 H1 E1 sc f c') body me)
    (hz : z.a = f ∧ (c', LamX.CodeO c' (X.env.qual ++ "<lambda>")) ∈ z.cs) (hl : β.length = σ.length) (cov : ∀ (i : Nat) (d : D), (lendB β)[i]? = some (Sl.fz d) → ∃ (j : Nat) (v : V), σ[i]? = some (some v) ∧ z.vs[j]? = some v ∧ z.ds[j]? = some d) (ei : envIs (me (lendB β)) (lendB β))
    (hN : Ng[i]? = some a) (hv : Vis sg a) (hd : (a == ("__debug__" : Str)) = false) (hcd : (a == ("__classdict__" : Str)) = false) :
    BE ((cxOf CXg X.prog X.w X.K X.mg X.base Ng qg sg g cdg X.A X.stack s H Eg).tr pn xe) (.Call (.Name a p1) [] [] p2) (mAsk i z (me (lendB β))) := by
  intro W tk
  refine (ask_pe (t := fun E1 => gOf X.K X.mg (fun cls d _ H => E1 cls d H) (relE X.K X.mg) me) I L lam new noframe none_ (fun τ => passAt tk τ) room (fun s1 H1 E1 => hme s1 H1 E1 (fun cls d _ H => E1 cls d H) (takes_of rfl rfl rfl rfl)) hN hv hd hcd).imp fun τ HZ Q h => ?_
  obtain ⟨Gi, ioi, Fi, βi, J, h⟩ := h
  unfold mAsk at h
  cases es : βi[i]? with
  | none => rw [es] at h; exact h.elim
  | some sl =>
    rw [es] at h
    cases sl with
    | un => exact h.elim
    | fz _ => exact h.elim
    | own _ _ => exact h.elim
    | gh _ => exact h.elim
    | ex z' =>
      simp only at h
      split at h
      case isFalse => exact h.elim
      rename_i ez
      subst ez
      obtain ⟨o, eo, eo2, xz⟩ := J.sl i _ es
      refine ⟨by rw [eo, eo2, hz.1], J.sf _ _ (xz.cs _ hz.2), butIo Gi.t HZ [], [], Fi, lendB β, J.view es hl cov, ?_⟩
      have aft : ∀ {F' H' : Hp}, FE (butIo Gi.t HZ []) [] Fi F' → BI X.K X.mg (butIo Gi.t HZ []) F' [] (lendB β) σ H' → FE Gi ioi Fi F' ∧ BI X.K X.mg Gi F' ioi βi τ H' := fun {F' H'} fe Vw => by
        have ow : OwnS βi [] := fun j hj => nomatch hj
        have wl : withL Fi HZ τ [] = Fi := by
          funext b
          unfold withL
          rw [if_neg fun ⟨j, hj, _⟩ => (nomatch hj)]
        have A : After X.K X.mg Gi.t (withL Fi HZ τ []) HZ [] [] F' H' := by
          rw [wl]
          exact ⟨fe.same, fun a o q => (fe.new a o q).imp id fun q => (butIo_none q.1 q.2).2, Vw.sf, fun _ h => (nomatch h), fun b o q _ tb => Vw.sg.g b o (by unfold butIo; simp only; rw [if_neg (fun z => z.elim (fun z => nomatch z) fun z => z tb)]; exact q), Vw.sg.t, .nil⟩
        obtain ⟨fe2, J2, _, _, c0⟩ := J.call .nil .nil ow (fun _ h => (nomatch h)) rfl A (.inl rfl)
        rw [c0 rfl] at fe2 J2
        exact ⟨fe2, J2⟩
      unfold envIs at ei
      cases eo3 : me (lendB β) with
      | stuck => rw [eo3] at h; exact h.elim
      | ok r β1 =>
        rw [eo3] at h ei
        cases (show β1 = lendB β from ei)
        intro v H' F' fe Vw rr
        obtain ⟨fe2, J2⟩ := aft fe Vw
        refine h v H' F' fe2 J2 ?_
        cases r with
        | fz d => exact rr
        | own d =>
          obtain ⟨x, rfl, f1, g1, _, ow, _⟩ := rr
          have hx : HZ x = none := (butIo_none g1 (fun z => nomatch z)).2
          refine ⟨x, rfl, f1, J.sg.free hx, fun z => ?_, ow, fun j t e1 e2 e3 => ?_⟩
          · obtain ⟨u, hu⟩ := J.ioH x z
            rw [hu] at hx
            cases hx
          · cases t with
            | un => cases e2
            | fz _ => cases e2
            | ex _ => cases e2
            | gh _ => cases e2
            | own b d2 =>
              obtain ⟨w, ew, x2, q, _, _, _, _, r2⟩ := J.sl j _ e1
              obtain ⟨u, hu, _⟩ := r2.there
              rw [e3, q] at ew
              have := V.ref.inj (Option.some.inj (Option.some.inj ew))
              rw [this, hu] at hx
              cases hx
      | exc x β1 =>
        rw [eo3] at h ei
        cases (show β1 = lendB β from ei)
        intro cls d H' F' fe Vw xr
        obtain ⟨fe2, J2⟩ := aft fe Vw
        exact h cls d H' F' fe2 J2 xr
end
end B

set_option Elab.async false
set_option linter.all false
set_option maxRecDepth 100000
set_option maxHeartbeats 4000000
namespace B
open PySem PySem.Spec L2
/-! ## a lambda handed to a def -/
/-- a def of one parameter that calls it -/
structure LamFn (P : Program) (w : World) (K : PySem.W.Frag) (mg : Str → Option Value) (base : Heap) (k : Nat) (x a : Str) (n : Nat) (m : Ez → R Rs → M Fl) : Prop where
  ex : ∃ (fa : Addr) (fd : FuncData) (st : Stmt) (N : List Str), Fun K x x st fa fd ∧ FnScope N [a] (defScope st) ∧ N.length = n ∧ N[0]? = some a ∧ Vis (defScope st) a ∧ mg x = some (.ref fa) ∧ PySem.W.keepIn K (.ref fa) = true ∧ Binds K fd [a] [] ∧
    ∀ (cdv : Value) (A : Around) (outer : List PySem.Env) (s : Shared) (H : Hp) (E : XK) (z : Ez) (o : R Rs), RoomG k (A.deeper (PyProof.Rows.envOfC x (defScope st) s.heap.objs.size fa cdv)) →
      (∀ (pn : List (Addr × Obj)) (xe : Value → Shared → Prop) (p1 p2 : Pos), BE ((cxOf (L2.CX P w) P w K mg base N x (defScope st) fa cdv A outer s H E).tr pn xe) (.Call (.Name a p1) [] [] p2) (mAsk 0 z o)) →
      BSs (cxOf (L2.CX P w) P w K mg base N x (defScope st) fa cdv A outer s H E) (defBody st) (m z o)
section
variable {K : PySem.W.Frag} {mg : Str → Option Value} {G : GT} {F F' H H' : Hp} {io : List Addr} {β : B.Env} {σ : L2.St}
/-- the state in which the def starts -/
theorem lam_start {N : List Str} {a : Str} {z : Ez} {T : Addr → Option Str} (hn : N[0]? = some a) (tt : ∀ a q, T a = some q → F a = none ∧ LamX.TabS H a q) (sf : Same F H) (xz : XZ K mg F z) : BI K mg (butIo T H []) F [] (.ex z :: List.replicate (N.length - 1) .un) (L2.start N [.ref z.a]) H := by
  have hl : 0 < N.length := (List.getElem?_eq_some_iff.mp hn).1
  have no : ∀ {i : Nat} {s : Sl}, (Sl.ex z :: List.replicate (N.length - 1) Sl.un)[i]? = some s → isOwn s = true → False := fun {i s} e h => by
    cases i with
    | zero => cases e; cases h
    | succ i =>
      rw [List.getElem?_cons_succ, List.getElem?_replicate] at e
      split at e
      · cases e; cases h
      · cases e
  refine ⟨⟨fun a o h => ?_, tt, fun a o h => ?_⟩, sf, fun _ h => (nomatch h), fun _ h => (nomatch h), ?_, fun i s e => ?_, fun i j s t a e1 _ h1 => (no e1 h1).elim⟩
  · unfold butIo at h
    simp only at h
    split at h
    · cases h
    · exact h
  · unfold butIo at h ⊢
    simp only at h ⊢
    split at h
    · cases h
    · rename_i q
      cases z : T a with
      | none => rfl
      | some x => exact absurd (.inr (by rw [z]; simp)) q
  · unfold L2.start
    rw [List.length_cons, List.length_replicate, List.length_append, List.length_map, List.length_replicate]
    simp
    omega
  · unfold L2.start
    cases i with
    | zero =>
      cases e
      exact ⟨_, rfl, rfl, xz⟩
    | succ i =>
      rw [List.getElem?_cons_succ, List.getElem?_replicate] at e
      split at e
      · rename_i hi
        cases e
        refine ⟨none, ?_, trivial⟩
        simp only [List.map_cons, List.map_nil, List.cons_append, List.nil_append, List.getElem?_cons_succ, List.length_singleton]
        rw [List.getElem?_replicate, if_pos hi]
      · cases e
open Classical in
/-- F without the new code object -/
noncomputable def noCode (F Fl : Hp) (c : Addr) : Hp := fun b => if b = c ∧ Fl c = none then none else F b
theorem lamRun_all {n : Nat} {m : Ez → R Rs → M Fl} {o : R Rs} {r : Rs} (h : lamRun n m o = .ok r []) (z : Ez) : lamAt n m o z = .ok r [] := by
  unfold lamRun at h
  split at h
  · rename_i q
    rw [q z, h]
  · cases h
/-- behind the lambda -/
theorem BI.behind {c P : Addr} {q : Str} {H1 : Hp} (I : BI K mg G F io β σ H) (hP : G.t P = some q) (gr : Grown H P c q H1) (hc : H1 c = some (LamX.CodeO c q)) (fe : FE (butIo G.t H1 []) [] (upd (withL F H σ (ownIx β)) c (LamX.CodeO c q)) F') {β' : B.Env} {σ' : L2.St} (J : BI K mg (butIo G.t H1 []) F' [] β' σ' H') :
    ∃ F2, FE G io F F2 ∧ BI K mg G F2 io β σ H' ∧ Tups F' F2 ∧ Frzs F' F2 ∧ ∀ a, (F' a = none → F2 a = none) ∧ (H1 a = none → H a = none) := by
  have tabP := (I.sg.t P q hP).2
  have grow : ∀ b o, H b = some o → b ≠ P → H1 b = some o := fun b o h n => by
    rcases gr with rfl | ⟨ps, hc0, _, _, rfl⟩
    · exact h
    · rw [upd_ne (ne_of_none h hc0), upd_ne n]
      exact h
  have back : ∀ a, H1 a = none → H a = none := fun a h => by
    cases e : H a with
    | none => rfl
    | some o =>
      by_cases hb : a = P
      · obtain ⟨ps, h1, _⟩ := tabP
        rcases gr with rfl | ⟨ps2, hc2, ne, _, rfl⟩
        · rw [h] at e; cases e
        · rw [hb, upd_ne ne.symm, upd_same] at h
          cases h
      · rw [grow a o e hb] at h
        cases h
  have ow := own_ix (β := β)
  have wl := withL_same I ow
  have wc : ∀ o, withL F H σ (ownIx β) c = some o → o = LamX.CodeO c q := fun o e => by
    have h := wl.2 c o e
    have cP : c ≠ P := fun z => by
      obtain ⟨ps, h1, _⟩ := tabP
      rcases gr with rfl | ⟨_, hc2, ne, _, _⟩
      · rw [z, h1] at hc
        exact LamX.codeO_ne ps (Option.some.inj hc).symm
      · exact ne z
    have := grow c o h cP
    rw [hc] at this
    exact (Option.some.inj this).symm
  have A : After K mg G.t (withL F H σ (ownIx β)) H [] [] (noCode F' (withL F H σ (ownIx β)) c) H' := by
    refine ⟨fun b o e => ?_, fun b o e => ?_, fun b o e => ?_, fun _ h => (nomatch h), fun b o e _ tb => ?_, fun b q2 e => ?_, .nil⟩
    · unfold noCode
      rw [if_neg fun z => by rw [z.1, z.2] at e; cases e]
      refine fe.same b o ?_
      by_cases hb : b = c
      · subst hb
        rw [upd_same, wc o e]
      · rw [upd_ne hb]
        exact e
    · unfold noCode at e
      split at e
      · cases e
      · rename_i n
        rcases fe.new b o e with h | ⟨h, _⟩
        · by_cases hb : b = c
          · subst hb
            cases z : withL F H σ (ownIx β) b with
            | none => exact absurd ⟨rfl, z⟩ n
            | some u =>
              rw [upd_same] at h
              rw [← Option.some.inj h, wc u z]
              exact .inl rfl
          · rw [upd_ne hb] at h
            exact .inl h
        · exact .inr (back b (butIo_none h (fun z => nomatch z)).2)
    · unfold noCode at e
      split at e
      · cases e
      · exact J.sf b o e
    · refine J.sg.g b o ?_
      unfold butIo
      simp only
      rw [if_neg fun z => z.elim (fun z => nomatch z) fun z => z tb]
      exact grow b o e fun z => by rw [z, hP] at tb; cases tb
    · obtain ⟨f1, t1⟩ := J.sg.t b q2 e
      refine ⟨?_, t1⟩
      unfold noCode
      split
      · rfl
      · exact f1
  obtain ⟨fe2, J2, tp, fz, _⟩ := I.call .nil .nil ow (fun _ _ h => nomatch h) rfl A (.inr rfl)
  refine ⟨_, fe2, J2, fun a xs e => tp a xs ?_, fun a ob u e => fz a ob u ?_, fun a => ⟨fun e => ?_, back a⟩⟩
  · unfold noCode
    rw [if_neg fun z => ?_]
    · exact e
    · have := fe.same c _ upd_same
      rw [← z.1, e] at this
      unfold LamX.CodeO at this
      cases this
  · unfold noCode
    rw [if_neg fun z => ?_]
    · exact e
    · have := fe.same c _ upd_same
      rw [← z.1, e] at this
      unfold LamX.CodeO at this
      cases this
  · unfold cutL noCode
    split
    · rfl
    · split
      · rfl
      · exact e
end
section
variable {X : Cx}
theorem be_lam {x a : Str} {n j k gi : Nat} {ts : List (Addr × Str)} {m : Ez → R Rs → M Fl} {me : M Rs} {c P : Addr} {prm : Arguments} {body : Expr} {sc : Scope} {p lpos pos : Pos} (O : LamFn X.prog X.w X.K X.mg X.base j x a n m) (hr : RoomG k X.A) (hjk : j + 2 ≤ k)
    (TB : LamX.TabB X.base X.mg c P) (hcode : X.env.code = .ref c) (L : LamX.LamS X.env.scope sc) (nod : defaultsOf prm X.env = ([], []))
    (hbind : ∀ (q : Str) (cl : List (Str × Addr)) (pm cv ctv : Value), bindArgs (PySem.W.kla_fn "<lambda>" q prm body sc cl pm cv ctv) ⟨[], []⟩ = pure [])
    (hme : ∀ (A : Around) (outer : List PySem.Env) (s : Shared) (H : Hp) (E : XK) (f c' : Addr), RoomG j (A.deeper (LamX.lamEnv X sc s.heap.objs.size f c')) → BE (LamX.lamCx X A outer s H E sc f c') body me)
    (hT : (P, X.env.qual ++ "<lambda>") ∈ ts)
    (hg : Gl X x := by rfl) (hdb : (x == ("__debug__" : Str)) = false := by decide) (hd : (a == ("__debug__" : Str)) = false := by decide) (hcd : (a == ("__classdict__" : Str)) = false := by decide) :
    BE X (.Call (.Name x p) [.Lambda prm body sc lpos] [] pos) (mLam gi ts n m me) := by
  refine fun W tk => ⟨fun pins s σ H Q I h => ?_⟩
  obtain ⟨G, io, F, β, J, h⟩ := h
  unfold mLam at h
  split at h
  case isFalse => exact h.elim
  rename_i hyp
  obtain ⟨eg, ei⟩ := hyp
  obtain ⟨o, _, gh⟩ := J.sl gi _ eg
  have hP := gh _ hT
  split at h
  case h_2 => exact h.elim
  rename_i r er
  split at h
  case isFalse => exact h.elim
  rename_i hi
  obtain ⟨fa, fd, st, N, Fn, S, hn, hN, hv, hm, hk, hb, hbody⟩ := O.ex
  obtain ⟨oc, od, kV, doc, pmm, an, cdv, ct, osl, rfl, lk, hcd2⟩ := Fn.ex
  refine wpAny_Call_Name_kw (ld_glob I hg hm (PySem.W.callWith_K (h₀ := X.base) I.ok.mod.kin hk (Calls.spliced_cons (lam_new I TB hcode (J.sg.t P _ hP).2 nod (L.has I.ok) fun f c' pm tv H1 s' I1 gr lam new nofr hco => Calls.spliced_nil ⟨I1.kIn, ?_⟩)) (by rfl) (by rfl)) hdb)
  obtain ⟨vs, ds, dr, cov⟩ := J.lent
  have room2 : RoomG (j + 1) X.A := hr.mono (by omega)
  have tt : ∀ b q, G.t b = some q → upd (withL F H σ (ownIx β)) c' (LamX.CodeO c' (X.env.qual ++ "<lambda>")) b = none ∧ LamX.TabS H1 b q := fun b q e => by
    obtain ⟨f1, t1⟩ := J.sg.t b q e
    have nl : withL F H σ (ownIx β) b = none := by
      unfold withL
      rw [if_neg fun z => by rw [GT.tn (lent_none J own_ix z).2.1] at e; cases e]
      exact f1
    have bc : b ≠ c' := fun z => by
      obtain ⟨ps, h1, _⟩ := t1
      rcases gr with rfl | ⟨_, hc2, _, _, _⟩
      · rw [z, hco] at h1
        exact LamX.codeO_ne ps (Option.some.inj h1)
      · rw [z, hc2] at h1
        cases h1
    refine ⟨by rw [upd_ne bc]; exact nl, ?_⟩
    rcases gr with rfl | ⟨ps, hc2, ne, tP, e1⟩
    · exact t1
    · by_cases hb : b = P
      · subst hb
        rw [hP] at e
        cases e
        exact tP
      · rw [e1]
        refine tab_upd (tab_upd t1 hb fun c q z => ?_) bc (nc_none (by rw [upd_ne ne]; exact hc2))
        obtain ⟨ps, h1, _⟩ := (J.sg.t P _ hP).2
        rw [h1] at z
        exact LamX.codeO_ne ps (Option.some.inj z).symm
  have sub : ∀ b o, H b = some o → b ≠ P → H1 b = some o := fun b o e n => by
    rcases gr with rfl | ⟨ps, hc2, _, _, rfl⟩
    · exact e
    · rw [upd_ne (ne_of_none e hc2), upd_ne n]
      exact e
  have wl := withL_same J own_ix
  have wP : ∀ b o, withL F H σ (ownIx β) b = some o → b ≠ P := fun b o e z => by
    have := (tt P _ hP).1
    by_cases hb : P = c'
    · rw [hb, upd_same] at this
      cases this
    · rw [upd_ne hb, ← z, e] at this
      cases this
  have sfs : Same (upd (withL F H σ (ownIx β)) c' (LamX.CodeO c' (X.env.qual ++ "<lambda>"))) H1 := fun b o e => by
    by_cases hb : b = c'
    · subst hb
      rw [upd_same] at e
      rw [← e]
      exact hco
    · rw [upd_ne hb] at e
      exact sub b o (wl.2 b o e) (wP b o e)
  have sms : Same (withL F H σ (ownIx β)) (upd (withL F H σ (ownIx β)) c' (LamX.CodeO c' (X.env.qual ++ "<lambda>"))) := fun b o e => by
    by_cases hb : b = c'
    · subst hb
      have := sub b o (wl.2 b o e) (wP b o e)
      rw [hco] at this
      rw [upd_same]
      exact this
    · rw [upd_ne hb]
      exact e
  let z : Ez := ⟨f, .ref fa, none, ⟨x, []⟩, vs, ds, [(c', LamX.CodeO c' (X.env.qual ++ "<lambda>"))]⟩
  have xz : XZ X.K X.mg (upd (withL F H σ (ownIx β)) c' (LamX.CodeO c' (X.env.qual ++ "<lambda>"))) z := ⟨⟨hm, .inl ⟨rfl, rfl⟩⟩, dr.mono sms, fun q hq => by
    rw [List.mem_singleton.mp hq]
    exact upd_same⟩
  have at_ := lamRun_all er z
  have rc : codeAny (model X.prog X.w) X.A (.call (.ref fa) ⟨[.ref f], []⟩) (CR (L2.CX X.prog X.w) X.stack X.prog X.w H1 s' Q fun _ _ _ => False) s' := by
    refine LamX.run_ofS (N := N) (ps := [a]) (us := [.ref f]) (vs := [.ref f]) lk hcd2 S room2.r I1.env0 (hb s' [.ref f] I1.kIn rfl) (.cons rfl .nil) rfl fun _ => ?_
    have rg : RoomG j (X.A.deeper (PyProof.Rows.envOfC x (defScope st) s'.heap.objs.size fa cdv)) := room2.deeper _
    have rg1 : RoomG (j + 1) (X.A.deeper (PyProof.Rows.envOfC x (defScope st) s'.heap.objs.size fa cdv)) := (hr.mono hjk).deeper _
    refine ⟨_, hbody cdv X.A X.stack s' H1 (fun _ _ _ => False) z (me (lendB β)) rg (fun pn xe p1 p2 => be_ask (k := j) I1 L lam new nofr (hbind _ _ _ _ _) rg1 (fun s1 H2 E1 => hme _ _ s1 H2 E1 f c' (rg1.deeper _)) ⟨rfl, List.mem_singleton_self _⟩ J.len cov ei hN hv hd hcd) (fun cls d _ H => False) (takes_of rfl rfl rfl rfl), ?_⟩
    refine ⟨_, [], _, _, lam_start (z := z) hN tt sfs xz, ?_⟩
    unfold lamAt at at_
    rw [hn] at *
    cases em : m z (me (lendB β)) (.ex z :: List.replicate (n - 1) .un) with
    | stuck => rw [em] at at_; cases at_
    | exc y β1 =>
      rw [em] at at_
      simp only [finF] at at_
      split at at_ <;> cases at_
    | ok fl β1 =>
      rw [em] at at_
      intro σ' H' F' fe J'
      obtain ⟨F2, fe2, J2, tp, fz, nn⟩ := J.behind hP gr hco fe J'
      cases fl with
      | brk => cases at_
      | ct => cases at_
      | nx =>
        simp only [finF] at at_
        split at at_
        · cases at_
          exact h .non H' F2 fe2 J2 .non
        · cases at_
      | ret r' =>
        simp only [finF] at at_
        split at at_
        · cases at_
          intro v rr
          refine h v H' F2 fe2 J2 ?_
          cases r with
          | fz d => exact DR.imm tp fz rr hi
          | own d =>
            obtain ⟨b, rfl, f1, g1, _, ow, _⟩ := rr
            have hx := (nn b).2 (butIo_none g1 (fun z => nomatch z)).2
            refine ⟨b, rfl, (nn b).1 f1, J.sg.free hx, fun z => ?_, ow.immF tp fz hi, fun i t e1 e2 e3 => ?_⟩
            · obtain ⟨u, hu⟩ := J.ioH b z
              rw [hu] at hx
              cases hx
            · cases t with
              | un => cases e2
              | fz _ => cases e2
              | gh _ => cases e2
              | ex _ => cases e2
              | own b2 d2 =>
                obtain ⟨w, ew, x2, q, _, _, _, _, r2⟩ := J.sl i _ e1
                obtain ⟨u, hu, _⟩ := r2.there
                rw [e3, q] at ew
                have := V.ref.inj (Option.some.inj (Option.some.inj ew))
                rw [this, hu] at hx
                cases hx
        · cases at_
  refine wpAny_call (codeAny_mono rc fun q s2 hq => ?_)
  match q, hq with
  | .error e, hq =>
    obtain ⟨_, _, _, _, _, _, _, _, _, _, _, _, q⟩ := hq
    exact q.elim
  | .ok (.ret u), hq => exact I1.after hq
  | .ok .next, hq => exact hq.elim
  | .ok .brk, hq => exact hq.elim
  | .ok .cont, hq => exact hq.elim
end
end B

set_option Elab.async false
set_option linter.all false
set_option maxRecDepth 100000
set_option maxHeartbeats 4000000
namespace B
open PySem PySem.Spec L2
/-! ## defs that make lambdas: a slot more tells of the tables of code objects -/
noncomputable def runT (ks : List Bool) (n gi : Nat) (m : List (Addr × Str) → M Fl) (ds : List D) : FR := open Classical in
  if ∀ ts, finF ks (m ts ((start0 ks n ds).set gi (.gh ts))) = finF ks (m [] ((start0 ks n ds).set gi (.gh []))) then finF ks (m [] ((start0 ks n ds).set gi (.gh []))) else .stuck
theorem runT_all {ks : List Bool} {n gi : Nat} {m : List (Addr × Str) → M Fl} {ds : List D} {x : FR} (h : runT ks n gi m ds = x) (hx : x ≠ .stuck) (ts : List (Addr × Str)) : finF ks (m ts ((start0 ks n ds).set gi (.gh ts))) = x := by
  unfold runT at h
  split at h
  · rename_i q
    rw [q ts, h]
  · exact absurd h.symm hx
/-- a def's promise where the tables ts are known -/
def spBT (K : PySem.W.Frag) (mg : Str → Option Value) (ts : List (Addr × Str)) (ks : List Bool) (f : List D → FR) : Sp := fun vs H Q E => ∃ T F io ds, (∀ p ∈ ts, T p.1 = some p.2) ∧ ((∀ a q, T a = some q → F a = none ∧ LamX.TabS H a q) ∧ ∀ a ∈ io, T a = none) ∧ Same F H ∧ (∀ a ∈ io, F a = none) ∧ io.Nodup ∧ AR K mg F H ks io vs ds ∧ match f ds with
  | .stuck => False
  | .ok r ios => ∀ v H' F', After K mg T F H io ios F' H' → (match r with
    | .fz d => DR K mg F' v d
    | .own d => ∃ a, v = .ref a ∧ H a = none ∧ F' a = none ∧ OwnR K mg F' H' a d) → Q v H'
  | .exc x ios => ∀ cls d H' F', After K mg T F H io ios F' H' → XR K mg F' cls d x → E cls d H'
/-- a def whose code object is known -/
structure FunC (K : PySem.W.Frag) (x : Str) (st : Stmt) (f c : Addr) (fd : FuncData) : Prop where
  ex : ∃ (oc : Value) (od : Option Addr) (kV doc pm : Value) (an : Option Addr) (ct : Value) (osl : Array (Option Value)),
    fd = PySem.W.fnOf x x (defArgs st) (defBody st) (defScope st) .none kV doc pm an (.ref c) ct ∧ K.lookup f = some ⟨oc, od, .func fd, osl⟩ ∧ PySem.W.codeIn K (.ref c) x = true
section
variable {K : PySem.W.Frag} {mg : Str → Option Value} {G : GT} {F F' H H' : Hp} {io : List Addr} {β : B.Env} {σ : L2.St}
theorem BI.ghost (I : BI K mg G F io β σ H) {i : Nat} {ts : List (Addr × Str)} (e : β[i]? = some .un) (h : ∀ p ∈ ts, G.t p.1 = some p.2) : BI K mg G F io (β.set i (.gh ts)) σ H := by
  have hi := (List.getElem?_eq_some_iff.mp e).1
  have old : ∀ {j : Nat} {s : Sl}, (β.set i (.gh ts))[j]? = some s → isOwn s = true → β[j]? = some s := fun {j s} ej hs => by
    by_cases hj : i = j
    · subst hj
      rw [List.getElem?_set_self hi] at ej
      cases ej
      cases hs
    · rwa [List.getElem?_set_ne hj] at ej
  refine ⟨I.sg, I.sf, I.ioF, I.ioH, by rw [List.length_set]; exact I.len, fun j s ej => ?_, fun j k s t b ej ek hj hk => I.apart j k s t b (old ej hj) (old ek hk) hj hk⟩
  by_cases hj : i = j
  · subst hj
    rw [List.getElem?_set_self hi] at ej
    cases ej
    obtain ⟨o, eo, _⟩ := I.sl i _ e
    exact ⟨o, eo, h⟩
  · rw [List.getElem?_set_ne hj] at ej
    exact I.sl j s ej
end
section
variable {P : Program} {w : World} {K : PySem.W.Frag} {mg : Str → Option Value} {base : Heap}
/-- the rule for such a def -/
theorem fnBT {x : Str} {st : Stmt} {f c : Addr} {fd : FuncData} {N ps : List Str} {k gi : Nat} {m : List (Addr × Str) → M Fl} (ts : List (Addr × Str)) (ks : List Bool) (Fn : FunC K x st f c fd) (S : FnScope N ps (defScope st)) (hk : ks.length = ps.length) (hg1 : ks.length ≤ gi) (hg2 : gi < N.length)
    (hb : ∀ (A : Around) (outer : List PySem.Env) (s : Shared) (H : Hp) (E : XK), RoomG k (A.deeper (PyProof.Rows.envOfC x (defScope st) s.heap.objs.size f (.ref c))) → BSs (cxOf (L2.CX P w) P w K mg base N x (defScope st) f (.ref c) A outer s H E) (defBody st) (m ts)) :
    FnG P w K mg base (k + 1) f fd ps (spBT K mg ts ks (runT ks N.length gi m)) := by
  obtain ⟨oc, od, kV, doc, pm, an, ct, osl, rfl, lk, hcd⟩ := Fn.ex
  refine fnG_raw lk hcd S (fun vs H Q E ⟨T, F, io, ds, _, _, _, _, _, ar, _⟩ => by rw [ar.len.1, hk]) fun A outer s H vs Q E hr h => ?_
  refine ⟨_, hb A outer s H E hr (fun cls d _ H' => E cls d H') (takes_of rfl rfl rfl rfl), ?_⟩
  obtain ⟨T, F, io, ds, tq, tt, sf, fi, nd, ar, h⟩ := h
  have hpl : ps.length ≤ N.length := by
    have := congrArg List.length S.pre
    rw [List.length_take] at this
    omega
  have I0 := bi_start (N := N) sf tt fi nd ar (by omega)
  have eun : (start0 ks N.length ds)[gi]? = some .un := by
    unfold start0
    have := par_len (j := 0) ar.len.2
    rw [List.getElem?_append_right (by omega), List.getElem?_replicate, if_pos (by omega)]
  have I := I0.ghost eun (ts := ts) fun p hp => tq p hp
  refine ⟨_, io, F, _, I, ?_⟩
  have aft : ∀ {β : B.Env} {σ' : L2.St} {H' F' : Hp} {ios : List D}, endIo ks 0 β = some ios → FE (butIo T H io) io F F' → BI K mg (butIo T H io) F' io β σ' H' → After K mg T F H io ios F' H' := fun {β σ' H' F' ios} e fe I' =>
    ⟨fe.same, fun a o q => (fe.new a o q).imp id fun ⟨q1, q2⟩ => (butIo_none q1 q2).2, I'.sf, I'.ioF, fun b o q nb tb => I'.sg.g b o (by unfold butIo; simp only; rw [if_neg (fun z => z.elim nb fun z => z tb)]; exact q), I'.sg.t, endIo_ok I' (n := 0) e (by rw [ar.io_len]; simp)⟩
  cases er : runT ks N.length gi m ds with
  | stuck => rw [er] at h; exact h.elim
  | ok r ios =>
    rw [er] at h
    have e0 := runT_all er (by simp) ts
    cases e : m ts ((start0 ks N.length ds).set gi (.gh ts)) with
    | stuck => rw [e] at e0; cases e0
    | exc y β =>
      rw [e] at e0
      simp only [finF] at e0
      split at e0 <;> cases e0
    | ok fl β =>
      rw [e] at e0
      intro σ' H' F' fe I'
      cases fl with
      | brk => cases e0
      | ct => cases e0
      | nx =>
        simp only [finF] at e0
        split at e0
        · rename_i e2
          cases e0
          exact h .non H' F' (aft e2 fe I') .non
        · cases e0
      | ret r' =>
        intro v rr
        simp only [finF] at e0
        split at e0
        · rename_i e2
          cases e0
          refine h v H' F' (aft e2 fe I') ?_
          cases r with
          | fz d => exact rr
          | own d =>
            obtain ⟨a, ea, f1, g1, ni, o, _⟩ := rr
            exact ⟨a, ea, (butIo_none g1 ni).2, f1, o⟩
        · cases e0
  | exc y ios =>
    rw [er] at h
    have e0 := runT_all er (by simp) ts
    cases e : m ts ((start0 ks N.length ds).set gi (.gh ts)) with
    | stuck => rw [e] at e0; cases e0
    | ok fl β =>
      rw [e] at e0
      cases fl <;> simp only [finF] at e0 <;> first | cases e0 | (split at e0 <;> cases e0)
    | exc y' β =>
      rw [e] at e0
      intro σ' cls d H' F' fe I' xr
      simp only [finF] at e0
      split at e0
      · rename_i e2
        cases e0
        exact h cls d H' F' (aft e2 fe I') xr
      · cases e0
end
end B

set_option Elab.async false
set_option linter.all false
set_option maxRecDepth 100000
set_option maxHeartbeats 4000000
namespace B
open PySem PySem.Spec L2
/-! ## the law's end, with tables -/
section
variable {P : Program} {w : World} {K : PySem.W.Frag} {mg mb : Str → Option Value} {k : Nat} {fa a : Addr} {fd : FuncData} {x : Str} {sp : Sp} {s₁ : Shared} {vs : List Value} {ns : List Int}
open Classical in
/-- the script's place and the empty tables -/
noncomputable def withTabs (H : Hp) (cs : List (Addr × Addr)) : Hp := fun b => if b ∈ cs.map (·.2) then some (.tbl #[]) else H b
theorem law_endT {H : Hp} {cs : List (Addr × Addr)} (S : Scr P w K a ns s₁ H) (KX : K.In s₁.heap) (hns : s₁.heap.Ns mainGlobals mg) (hb : s₁.heap.Ns builtinsNs mb) (hbb : ∀ x : Str, x ≠ "__name__" → mb x = bootBuiltins x) (hlim : s₁.heap.NoLimit) (hg : s₁.gens = #[])
    (bmain : ∃ (bm : Addr) (ob : Obj), mg "__builtins__" = some (.ref bm) ∧ bm ≠ builtinsNs ∧ s₁.heap.get? bm = some ob ∧ ob.cls = .type "module" ∧ ob.dict = some builtinsNs ∧ ob.data = .plain)
    (hcs : ∀ p ∈ cs, PySem.W.CodeHd s₁.heap p.1 p.2 ∧ s₁.heap.get? p.2 = some (PySem.W.tabObj #[])) (nK : ∀ p ∈ cs, K.lookup p.2 = none)
    (ha : s₁.heap.get? a = some { cls := .type "list", data := .seq vs.toArray }) (hr : RoomG k callerA) (F : ∀ base : Heap, K.In base → base.Ns mainGlobals mg → (∀ p ∈ cs, LamX.TabB base mg p.1 p.2) → FnG P w K mg base k fa fd [x] sp) (hbind : ∀ (s : Shared) (u : Value), BindsTo s fd ⟨[u], []⟩ [(x, u)])
    (hsp : sp [.ref a] (withTabs H cs) (fun v _ => v = .bl true) fun _ _ _ => False) (hCX : ∀ e s', L2.CX P w [] (withTabs H cs) s₁ (fun _ _ _ => False) e s' → False) :
    codeAny (model P w) callerA (.call (.ref fa) ⟨[.ref a], []⟩) (fun r s' => r = .ok (.ret (.bool true)) ∧ OldK s₁.heap s'.heap ∧ s'.os = s₁.os ∧ PyProof.Rows.AllBare s'.gens) s₁ := by
  have isTab : ∀ {b : Addr}, b ∈ cs.map (·.2) → s₁.heap.get? b = some (PySem.W.tabObj #[]) := fun {b} hb => by
    obtain ⟨p, hp, rfl⟩ := List.mem_map.mp hb
    exact (hcs p hp).2
  have tab : ∀ {b : Addr}, b ∈ cs.map (·.2) → withTabs H cs b = some (.tbl #[]) := fun {b} hb => by unfold withTabs; rw [if_pos hb]
  have rest : ∀ {b : Addr}, b ∉ cs.map (·.2) → withTabs H cs b = H b := fun {b} hb => by unfold withTabs; rw [if_neg hb]
  -- what is neither a table nor a row is hidden by nothing
  have free : ∀ {b : Addr} {o : Obj}, s₁.heap.get? b = some o → o.data ≠ .fields #[] → (∀ its n, o.data ≠ .seq its n) → withTabs H cs b = none := fun {b o} e h1 h2 => by
    have nb : b ∉ cs.map (·.2) := fun z => by
      rw [isTab z] at e
      cases e
      exact h1 rfl
    rw [rest nb]
    cases q : H b with
    | none => rfl
    | some u =>
      obtain ⟨rfl, _⟩ := S.only b u q
      rw [ha] at e
      cases e
      exact (h2 _ _ rfl).elim
  have kept : ∀ {b : Addr} {o : Obj}, s₁.heap.get? b = some o → o.data ≠ .fields #[] → (∀ its n, o.data ≠ .seq its n) → (hidT s₁.heap (withTabs H cs)).get? b = some o := fun e h1 h2 => hidT_get e (free e h1 h2)
  have nsK : ∀ {b : Addr} {m : Str → Option Value}, s₁.heap.Ns b m → (hidT s₁.heap (withTabs H cs)).Ns b m := fun ⟨o, es, ep, e, d, r⟩ => ⟨o, es, ep, kept e (by rw [d]; nofun) (by rw [d]; nofun), d, r⟩
  have inB : K.In (hidT s₁.heap (withTabs H cs)) := fun b o e => hidT_get (KX b o e) (by
    have nb : b ∉ cs.map (·.2) := fun z => by
      obtain ⟨p, hp, rfl⟩ := List.mem_map.mp z
      rw [nK p hp] at e
      cases e
    rw [rest nb]
    cases q : H b with
    | none => rfl
    | some u =>
      obtain ⟨rfl, n, _⟩ := S.only b u q
      rw [n] at e
      cases e)
  have ok : HOk P w (withTabs H cs) s₁.heap := fun b u e => by
    by_cases hb : b ∈ cs.map (·.2)
    · rw [tab hb] at e
      cases e
      exact isTab hb
    · rw [rest hb] at e
      obtain ⟨_, _, ob, xs, rfl⟩ := S.only b u e
      exact S.ok b _ e
  have base : Mod K mg (hidT s₁.heap (withTabs H cs)) := ⟨inB, nsK hns, ⟨mb, nsK hb, hbb⟩, hlim.elim fun mc h => ⟨mc, nsK h.1, h.2⟩⟩
  have TB : ∀ p ∈ cs, LamX.TabB (hidT s₁.heap (withTabs H cs)) mg p.1 p.2 := fun p hp => by
    obtain ⟨hd, hP⟩ := hcs p hp
    refine ⟨?_, ?_, fun z => ?_⟩
    · obtain ⟨o, us, file, tf, flags, tg, inF, text, tt, e1, r1, r2, r3, r⟩ := hd
      exact ⟨o, us, file, tf, flags, tg, inF, text, tt, kept e1 (fun z => by rw [r2] at z; cases z; simp at r3) (fun _ _ z => by rw [r2] at z; cases z), r1, r2, r3, r⟩
    · obtain ⟨bm, ob, b1, b2, b3, b4, b5, b6⟩ := bmain
      have n1 : bm ≠ mainGlobals := fun q => by
        obtain ⟨o, es, ep, e, hd, _⟩ := hns
        rw [q, e] at b3
        cases b3
        rw [hd] at b6
        cases b6
      have n2 : bm ≠ p.2 := fun q => by
        rw [q, hP] at b3
        cases b3
        cases b6
      exact ⟨bm, ob, b1, b2, n1, n2, kept b3 (by rw [b6]; nofun) (by rw [b6]; nofun), b4, b5, b6⟩
    · obtain ⟨o, es, ep, e, hd, _⟩ := hns
      rw [z, hP] at e
      cases e
      cases hd
  have e0 : Env0 P w K mg (hidT s₁.heap (withTabs H cs)) callerA [] s₁ (withTabs H cs) := ⟨rfl, base, fun b o e => of_hidT e, Nat.le_of_eq (hidT_size _ _), trivial, fun b hb => (nomatch hb), ok, .of_eq hg⟩
  refine codeAny_mono ((F _ inB (nsK hns) TB).run (us := [.ref a]) (vs := [.ref a]) hr e0 (hbind s₁ (.ref a)) (.cons rfl .nil) hsp) fun r s' h => ?_
  match r, h with
  | .error e, h => exact (hCX e s' h).elim
  | .ok (.ret u), ⟨v, H', os, bare, un, hok', r', q⟩ =>
    cases (show v = .bl true from q)
    cases (show u = Value.bool true from r')
    have more : ∀ b ∈ cs.map (·.2), ∃ ps : Array Value, s'.heap.get? b = some (PySem.W.tabObj ps) := fun b hb => by
      obtain ⟨ps, z⟩ := un.tbls b #[] (tab hb)
      exact ⟨_, hok' b _ z⟩
    have same : ∀ b o, b ∉ cs.map (·.2) → s₁.heap.get? b = some o → s'.heap.get? b = some o := fun b o nb e => by
      cases q : H b with
      | none => exact un.keep b o e (by rw [rest nb]; exact q) (fun z => nomatch z) (fun z => nomatch z)
      | some u =>
        obtain ⟨_, _, ob, xs, rfl⟩ := S.only b u q
        have k1 := (S.ok b _ q).1
        have k2 := (hok' b _ (un.frzs b ob _ (by rw [rest nb]; exact q))).1
        rw [e] at k1
        cases k1
        exact k2
    refine ⟨rfl, ⟨fun b o e => ?_, fun b o e => ?_⟩, os, bare⟩
    · by_cases hb : b ∈ cs.map (·.2)
      · obtain ⟨ps, hm⟩ := more b hb
        obtain ⟨p, hp, rfl⟩ := List.mem_map.mp hb
        rw [(hcs p hp).2] at e
        cases e
        exact .inr (.inl ⟨((hcs p hp).1.tab (hcs p hp).2).isCodeTable, rfl, #[], ps, rfl, by rw [Array.empty_append]; exact hm⟩)
      · exact .inl (same b o hb e)
    · by_cases hb : b ∈ cs.map (·.2)
      · obtain ⟨ps, hm⟩ := more b hb
        exact ⟨_, hm⟩
      · exact ⟨o, same b o hb e⟩
end
theorem walk_BT {l : PySem.W.OpenLaw} {n k : Nat} {q : Program} {loose : List Str} {XP : (Str → Option Value) → Heap → Prop} {YP : World → Heap → Prop} {d : DefRec} {K : Params → PySem.W.Frag} {x : Str}
    (hn : l.most = some n) (hn2 : n ≤ sizeLine) (hdf : d.params.defaults = []) (hr : Room k callerA) (hY : ∀ (w : World) (h : Heap), YP w h → (K w.params).In h)
    (F : ∀ (w : World) (mg : Str → Option Value) (fa : Addr) (h : Heap), (K w.params).In h → h.Ns mainGlobals mg → (∀ (d' : DefRec) (y : Str) (c P : Addr), (PyProof.Rows.recsOf q).find? (fun e => e.name == y) = some d' → PySem.W.tabIn (K w.params) y = some (c, P) → PySem.W.CodeHd h c P ∧ h.get? P = some (PySem.W.tabObj #[])) → mg d.name = some (.ref fa) →
      ∃ (fd : FuncData) (cs : List (Addr × Addr)) (sp : Sp), (∀ p ∈ cs, PySem.W.CodeHd h p.1 p.2 ∧ h.get? p.2 = some (PySem.W.tabObj #[])) ∧ (∀ p ∈ cs, (K w.params).lookup p.2 = none) ∧ (∀ (s : Shared) (u : Value), BindsTo s fd ⟨[u], []⟩ [(x, u)]) ∧
        (∀ (H : Hp) (a : Addr) (ns : List Int), ns.length ≤ n → (∀ z ∈ ns, Builtin.Int.intBits z ≤ 1048576) → SqL (K w.params) H a (ns.map V.int) → (∀ p ∈ cs, H p.2 = some (.tbl #[])) → sp [.ref a] H (fun v _ => v = .bl true) fun _ _ _ => False) ∧
        ∀ base : Heap, (K w.params).In base → base.Ns mainGlobals mg → (∀ p ∈ cs, LamX.TabB base mg p.1 p.2) → FnG l.prog w (K w.params) mg base k fa fd [x] sp) :
    PySem.W.WalkO q loose XP YP l.row.toRowW d [] (fun f vs => PySem.call f vs) := by
  refine Att.attach_callB hn hdf fun w s₀ s₁ mg mb fa o pm cd doc a vs ns G Y ho hd hcd hmg hobj hints hlen hbits hg => ?_
  have KX := hY w _ Y
  obtain ⟨fd, cs, sp, hcs, nK, hb, hsp, hF⟩ := F w mg fa _ KX G.T.g (fun d' y c P e1 e2 => PySem.W.tab_of G.T KX e1 e2) hmg
  obtain ⟨H, S⟩ := scr_of (P := l.prog) (w := w) KX hobj hints (Nat.le_trans hlen hn2)
  have na : a ∉ cs.map (·.2) := fun z => by
    obtain ⟨p, hp, e⟩ := List.mem_map.mp z
    have := (hcs p hp).2
    rw [e, hobj] at this
    cases this
  have sq : SqL (K w.params) (withTabs H cs) a (ns.map V.int) := by
    rcases S.sq with h | h
    · rcases h with h | ⟨o, h⟩
      · exact .inl (.inl (by unfold withTabs; rw [if_neg na]; exact h))
      · exact .inl (.inr ⟨o, by unfold withTabs; rw [if_neg na]; exact h⟩)
    · exact .inr h
  exact law_endT S KX G.T.g G.T.b G.T.builtins G.T.nolimit hg G.T.bmain hcs nK hobj ⟨hr, rfl⟩ hF hb (hsp _ a ns hlen hbits sq fun p hp => by unfold withTabs; rw [if_pos (List.mem_map.mpr ⟨p, hp, rfl⟩)]) fun e s' h => by
    obtain ⟨_, _, _, _, _, _, _, _, _, _, _, _, z⟩ := h
    exact z
/-- the script where tables are known -/
theorem sp_lawT {K : PySem.W.Frag} {mg : Str → Option Value} {r : List D → FR} {a : Addr} {ns : List Int} {H : Hp} {ts : List (Addr × Str)} (hS : SqL K H a (ns.map V.int)) (nd : (ts.map (·.1)).Nodup) (ht : ∀ p ∈ ts, H p.1 = some (.tbl #[])) (h : r [.nd .scr (ns.map D.int)] = .ok (.fz (.bl true)) []) : spBT K mg ts [false] r [.ref a] H (fun v _ => v = .bl true) fun _ _ _ => False := by
  have look : ∀ p ∈ ts, ts.lookup p.1 = some p.2 := by
    clear ht h hS
    induction ts with
    | nil => exact fun _ h => nomatch h
    | cons q ts ih =>
      intro p hp
      obtain ⟨n1, n2⟩ := List.nodup_cons.mp nd
      rw [List.lookup_cons]
      rcases List.mem_cons.mp hp with rfl | hp
      · simp
      · have : (p.1 == q.1) = false := beq_eq_false_iff_ne.mpr fun z => n1 (List.mem_map.mpr ⟨p, hp, z⟩)
        rw [this]
        exact ih n2 p hp
  have mem : ∀ {b : Addr} {q : Str}, ts.lookup b = some q → (b, q) ∈ ts := fun {b q} e => by
    clear ht h hS look nd
    induction ts with
    | nil => cases e
    | cons p ts ih =>
      rw [List.lookup_cons] at e
      split at e
      · rename_i z
        cases e
        rw [eq_of_beq z]
        exact List.mem_cons_self
      · exact List.mem_cons_of_mem _ (ih e)
  open Classical in
  refine ⟨fun b => ts.lookup b, fun b => if b ∈ ts.map (·.1) then none else H b, [], _, look, ⟨fun b q e => ?_, fun _ z => (nomatch z)⟩, fun b o e => ?_, fun _ z => (nomatch z), .nil, .fz (.scr ?_ (DRs.ints ns)) .nil, ?_⟩
  · have m := mem e
    have hb : b ∈ ts.map (·.1) := List.mem_map.mpr ⟨_, m, rfl⟩
    exact ⟨if_pos hb, LamX.TabS.nil (ht _ m)⟩
  · simp only at e
    split at e
    · cases e
    · exact e
  · rcases hS with q | q
    · have na : a ∉ ts.map (·.1) := fun z => by
        obtain ⟨p, hp, e⟩ := List.mem_map.mp z
        have := ht p hp
        rw [e] at this
        rcases q with q | ⟨o, q⟩ <;> rw [this] at q <;> cases q
      rcases q with q | ⟨o, q⟩
      · exact .inl (.inl (by simp only; rw [if_neg na]; exact q))
      · exact .inl (.inr ⟨o, by simp only; rw [if_neg na]; exact q⟩)
    · exact .inr q
  · rw [h]
    intro v H' F' _ r
    cases (show DR K mg F' v (.bl true) from r)
    rfl
end B

set_option Elab.async false
set_option linter.all false
set_option maxRecDepth 100000
set_option maxHeartbeats 4000000
namespace B
open PySem PySem.Spec L2
/-! ## len(set(..)) of ints, doubles among them -/
def unlikeN (ns : List Int) : Nat := (PyProof.Rows.firstMet (fun i => ns.getD i 0) ns.length).length
def gLenSetD : D → Option Rs
  | .nd .lst ds => (ints? ds).bind fun ns => if ns.length ≤ 4000 then some (.fz (.int (unlikeN ns))) else none
  | _ => none
section
variable {X : Cx} {a : Expr} {p p2 q pos : Pos}
theorem pe_lenSetG {ta : TE} (hg : Gl X "len") (hm : X.mg "len" = none) (hg2 : Gl X "set") (hm2 : X.mg "set" = none) (arg : PE X a ta) (hc : X.calm = true) (one : starEach [a] X.env = (false, eval a X.env) :: starEach [] X.env) :
    PE X (.Call (.Name "len" p) [.Call (.Name "set" p2) [a] [] q] [] pos) fun σ H Q => ta σ H fun x H1 => ∃ (l : Addr) (ns : List Int), x = .ref l ∧ SqL X.K H1 l (ns.map V.int) ∧ ns.length ≤ 4000 ∧ Q (.int (unlikeN ns)) H1 where
  run pins s σ H Q I h := PyProof.Rows.Call_ (ld_blt I hg hm PySem.boot_len (PyProof.Rows.callWith_builtin1 (PyProof.Rows.args_cons (PyProof.Rows.Call_ (ld_blt I hg2 hm2 PyProof.Rows.boot_set (PyProof.Rows.callWith_type1 (PyProof.Rows.args_cons (thn (arg.run pins s σ H _ I h) fun v s1 hv => by
    obtain ⟨x, H1, J, rel, l, ns, rfl, sq, few, q1⟩ := hv
    cases rel
    obtain ⟨its, r, pl, hz⟩ := J.list sq
    have size : its.toArray.size = ns.length := by rw [List.size_toArray, ← r.length, List.length_map]
    refine PyProof.Rows.args_nil (PySem.call_set_list (J.ok.hd hc) pl.isList (by simpa using RZ.intsAre_vals r) (by rw [size]; unfold PySem.scanBound; omega) fun h' tk hS hk => PyProof.Rows.args_nil ?_)
    rw [size] at hS
    obtain ⟨o, es, ep, t, ho, hex, hd, _, _, _, hf, hn⟩ := hS
    have le := PyProof.Rows.firstMet_length_le (fun i => ns.getD i 0) ns.length
    have J2 := J.kept (h' := h') (t' := tk) fun b o e => hk b o (Heap.lt_size e) e
    exact PySem.call_len_set ho hex hd hf (by rw [hn]; omega) ⟨.int (unlikeN ns), H1, J2.tok _, ⟨_, by rw [hn]; rfl⟩, q1⟩) one) one rfl))) rfl) rfl rfl))
theorem be_lenSetD {ma : M Pl} (hg : Gl X "len") (hm : X.mg "len" = none) (hg2 : Gl X "set") (hm2 : X.mg "set" = none) (hc : X.calm = true) (ha : BP X a ma) (na : starEach [a] X.env = (false, eval a X.env) :: starEach [] X.env := by rfl) :
    BE X (.Call (.Name "len" p) [.Call (.Name "set" p2) [a] [] q] [] pos) (mUn gLenSetD ma) := by
  refine fun W tk => (pe_lenSetG hg hm hg2 hm2 (ha W tk) hc na).imp fun σ H Q ⟨G, io, F, β, I, h⟩ => ⟨G, io, F, β, I, h.bnd fun q β1 v H1 F1 fe1 I1 r1 h1 => ?_⟩
  unfold fin1 at h1
  cases e1 : look β1 q with
  | none => rw [e1] at h1; exact h1.elim
  | some d =>
    rw [e1] at h1
    simp only [Option.bind_some] at h1
    cases e2 : gLenSetD d with
    | none => rw [e2] at h1; exact h1.elim
    | some r =>
      rw [e2] at h1
      unfold gLenSetD at e2
      split at e2
      · obtain ⟨ns, e, e2⟩ := Option.bind_eq_some_iff.mp e2
        split at e2
        · rename_i hl
          cases e2
          have e := ints_of e
          subst e
          have hr := I1.look r1 e1
          cases hr with
          | @lst l vs ds hl' r => exact ⟨l, ns, rfl, .inl (.inl (by rw [hl', DRs.intsV r])), hl, h1 _ H1 F1 fe1 I1 (.int _)⟩
        · cases e2
      · cases e2
/-! ## {} -/
def mDict0 : M Rs := ret (.own (.nd .dct []))
theorem be_dict0 : BE X (.Dict [] [] pos) mDict0 := fun W tk => pe_dnewK.imp fun σ H Q ⟨G, io, F, β, I, h⟩ p hp => by
  obtain ⟨F', fe, I', r⟩ := I.step (r := .own (.nd .dct [])) (H' := upd H p (.dK [])) (v := .ref p) ⟨fun b o e => by rw [upd_ne (ne_of_none e hp)]; exact e, p, rfl, hp, .dK upd_same .nil .nil⟩
  exact h _ _ F' fe I' r
/-! ## a def that takes a lambda -/
theorem lam_of {P : Program} {w : World} {K : PySem.W.Frag} {mg : Str → Option Value} {base : Heap} {k : Nat} {x a : Str} {st : Stmt} {N : List Str} {m : Ez → R Rs → M Fl} (L : Lk K mg x st [a]) (S : FnScope N [a] (defScope st)) (h0 : N[0]? = some a) (hv : Vis (defScope st) a)
    (hb : ∀ (f : Addr) (cdv : Value) (A : Around) (outer : List PySem.Env) (s : Shared) (H : Hp) (E : XK) (z : Ez) (o : R Rs), RoomG k (A.deeper (PyProof.Rows.envOfC x (defScope st) s.heap.objs.size f cdv)) →
      (∀ (pn : List (Addr × Obj)) (xe : Value → Shared → Prop) (p1 p2 : Pos), BE ((cxOf (L2.CX P w) P w K mg base N x (defScope st) f cdv A outer s H E).tr pn xe) (.Call (.Name a p1) [] [] p2) (mAsk 0 z o)) →
      BSs (cxOf (L2.CX P w) P w K mg base N x (defScope st) f cdv A outer s H E) (defBody st) (m z o)) : LamFn P w K mg base k x a N.length m := by
  obtain ⟨f, fd, F, hm, hbd⟩ := L.ex
  exact ⟨f, fd, st, N, F, S, rfl, h0, hv, hm, F.kp, hbd, fun cdv A outer s H E z o => hb f cdv A outer s H E z o⟩
end
end B

set_option Elab.async false
set_option linter.all false
set_option maxRecDepth 100000
set_option maxHeartbeats 4000000
namespace B
open PySem PySem.Spec L2
/-! ## what is wished for behind lambdas -/
theorem FW_fin {ks : List Bool} {m : M Fl} {β : B.Env} {Q : Rs → List D → Prop} {E : Exn → List D → Prop} : FW (finF ks (m β)) Q E ↔ W m β (retW ks Q) (fun x β => optW (endIo ks 0 β) (E x)) := by
  unfold FW finF W retW
  cases m β with
  | stuck => with_unfolding_all rfl
  | ok f β => cases f <;> first | with_unfolding_all rfl | (simp only; cases endIo ks 0 β <;> with_unfolding_all rfl)
  | exc x β => simp only; cases endIo ks 0 β <;> with_unfolding_all rfl
theorem FW_is {x : FR} {r : Rs} {ios : List D} (h : FW x (fun r' ios' => r' = r ∧ ios' = ios) fun _ _ => False) : x = .ok r ios := by
  unfold FW at h
  cases x with
  | stuck => exact h.elim
  | exc _ _ => exact h.elim
  | ok r' ios' => rw [h.1, h.2]
theorem FW_ok {r : Rs} {ios : List D} {Q : Rs → List D → Prop} {E : Exn → List D → Prop} (h : Q r ios) : FW (.ok r ios) Q E := by
  unfold FW
  exact h
/-- a def that makes lambdas, whatever the tables are -/
theorem FW_runT {ks : List Bool} {n gi : Nat} {m : List (Addr × Str) → M Fl} {ds : List D} {Q : Rs → List D → Prop} {E : Exn → List D → Prop} (r : Rs) (ios : List D)
    (h : ∀ ts, W (m ts) ((start0 ks n ds).set gi (.gh ts)) (retW ks fun r' ios' => r' = r ∧ ios' = ios) fun _ _ => False) (q : Q r ios) : FW (runT ks n gi m ds) Q E := by
  have one : ∀ ts, finF ks (m ts ((start0 ks n ds).set gi (.gh ts))) = .ok r ios := fun ts => FW_is (FW_fin.mpr ((h ts).mono (fun _ _ h => h) fun _ _ h => h.elim))
  unfold runT
  rw [if_pos fun ts => by rw [one ts, one []], one []]
  exact FW_ok q
/-- a def called with a lambda of the outcome o: it tells w -/
theorem lamRun_of {n : Nat} {m : Ez → R Rs → M Fl} {o : R Rs} {w : Rs} (h : ∀ z, W (m z o) (.ex z :: List.replicate (n - 1) .un) (retW [false] fun r' ios' => r' = w ∧ ios' = []) fun _ _ => False) : lamRun n m o = .ok w [] := by
  have one : ∀ z, lamAt n m o z = .ok w [] := fun z => FW_is (FW_fin.mpr ((h z).mono (fun _ _ h => h) fun _ _ h => h.elim))
  unfold lamRun
  rw [if_pos fun z => by rw [one z, one z0], one z0]
section
variable {β : B.Env} {E : Exn → B.Env → Prop} {Q : Rs → B.Env → Prop}
theorem W_mLam {gi : Nat} {ts : List (Addr × Str)} {n : Nat} {m : Ez → R Rs → M Fl} {me : M Rs} (hg : β[gi]? = some (.gh ts))
    (h : W me (lendB β) (fun r β1 => β1 = lendB β ∧ ∃ w, lamRun n m (.ok r (lendB β)) = .ok w [] ∧ immR w = true ∧ Q w β) fun x β1 => β1 = lendB β ∧ ∃ w, lamRun n m (.exc x (lendB β)) = .ok w [] ∧ immR w = true ∧ Q w β) : W (mLam gi ts n m me) β Q E := by
  unfold W at h ⊢
  unfold mLam
  cases e : me (lendB β) with
  | stuck => rw [e] at h; exact h.elim
  | ok r β1 =>
    rw [e] at h
    obtain ⟨h1, w, h2, h3, h4⟩ := h
    subst h1
    rw [if_pos ⟨hg, rfl⟩, h2]
    simp only
    rw [if_pos h3]
    exact h4
  | exc x β1 =>
    rw [e] at h
    obtain ⟨h1, w, h2, h3, h4⟩ := h
    subst h1
    rw [if_pos ⟨hg, rfl⟩, h2]
    simp only
    rw [if_pos h3]
    exact h4
theorem W_mAsk_ok {i : Nat} {z : Ez} {r : Rs} {β' : B.Env} (h : β[i]? = some (.ex z)) (q : Q r β) : W (mAsk i z (.ok r β')) β Q E := by
  unfold W mAsk
  rw [h]
  simp only [if_true]
  exact q
theorem W_mAsk_exc {i : Nat} {z : Ez} {x : Exn} {β' : B.Env} (h : β[i]? = some (.ex z)) (q : E x β) : W (mAsk i z (.exc x β')) β Q E := by
  unfold W mAsk
  rw [h]
  simp only [if_true]
  exact q
/-! len(set(..)) -/
theorem unlike_nodup {ns : List Int} (h : ns.Nodup) : unlikeN ns = ns.length := by
  unfold unlikeN
  rw [RZ.firstMet_nodup h _ (Nat.le_refl _), List.take_length]
theorem w_lenSetD {ns : List Int} (hl : ns.length ≤ 4000) {P : Rs → Prop} : optW (gLenSetD (.nd .lst (ns.map D.int))) P ↔ P (.fz (.int (unlikeN ns))) := by
  unfold gLenSetD
  simp only
  have e : ints? (ns.map D.int) = some ns := ints_map ns
  rw [e]
  simp only [Option.bind_some]
  rw [if_pos hl]
  exact Iff.rfl
@[simp ↓] theorem W_mDict0 : W mDict0 β Q E ↔ Q (.own (.nd .dct [])) β := by with_unfolding_all exact Iff.rfl
@[simp ↓] theorem W_tyP {T : String} {p : Pl} {Q : Unit → B.Env → Prop} : W (tyP T p) β Q E ↔ optW (look β p) fun d => isTyP T d = true ∧ Q () β := by
  unfold W tyP optW
  cases look β p with
  | none => with_unfolding_all rfl
  | some d =>
    simp only
    by_cases h : isTyP T d = true
    · rw [if_pos h]; simp [h]
    · rw [if_neg h]; simp [h]
@[simp ↓] theorem W_mMet {T : String} {g : D → List D → Option Rs} {mo : M Pl} {ma : M (List Pl)} : W (mMet T g mo ma) β Q E ↔ W mo β (fun p β1 => W (tyP T p) β1 (fun _ β2 => W ma β2 (fun ps β3 => optW (look β3 p) fun d => optW (looks β3 ps) fun ds => isTyP T d = true ∧ optW (g d ds) fun r => Q r β3) E) E) E := by
  unfold mMet
  refine W_bnd.trans (W_congr fun p β1 => W_bnd.trans (W_congr fun _ β2 => W_bnd.trans (W_congr fun ps β3 => ?_)))
  unfold W finMet optW
  cases look β3 p with
  | none => with_unfolding_all rfl
  | some d =>
    cases looks β3 ps with
    | none => with_unfolding_all rfl
    | some ds =>
      simp only
      by_cases h : isTyP T d = true
      · rw [if_pos h]
        cases g d ds <;> simp [h]
      · rw [if_neg h]; simp [h]
@[simp] theorem isTyP_lst {ds : List D} : isTyP "list" (.nd .lst ds) = true := rfl
/-! rows of truths -/
theorem toPys_bls : ∀ bs : List Bool, toPys (bs.map D.bl) = bs.map PyData.bool
  | [] => rfl
  | b :: bs => by
    show PyData.bool b :: toPys (bs.map D.bl) = _
    rw [toPys_bls bs]
    rfl
theorem lay_bls : ∀ bs : List Bool, PyData.canLayAll0 (bs.map PyData.bool) = true
  | [] => by simp [PyData.canLayAll0]
  | b :: bs => by simp [PyData.canLayAll0, PyData.canLay0, lay_bls bs]
theorem depth_bls : ∀ bs : List Bool, PyData.depthAll (bs.map PyData.bool) = 0
  | [] => by simp [PyData.depthAll]
  | b :: bs => by simp [PyData.depthAll, PyData.depth, depth_bls bs]
theorem plain_bls : ∀ bs : List Bool, PyData.plainAll (bs.map PyData.bool) = true
  | [] => by simp [PyData.plainAll]
  | b :: bs => by simp [PyData.plainAll, PyData.plain, plain_bls bs]
theorem shp_bls (bs : List Bool) : shp (.nd .lst (bs.map D.bl)) = true := by
  unfold shp SeqAt.shaped
  show (PyData.canLay0 (.list (toPys (bs.map D.bl))) && decide (PyData.depth (.list (toPys (bs.map D.bl))) ≤ 64)) = true
  rw [toPys_bls]
  simp [PyData.canLay0, PyData.depth, lay_bls, depth_bls]
theorem shp_bl (b : Bool) : shp (.bl b) = true := by
  unfold shp SeqAt.shaped
  show (PyData.canLay0 (.bool b) && decide (PyData.depth (.bool b) ≤ 64)) = true
  simp [PyData.canLay0, PyData.depth]
theorem eqv_bl (a b : Bool) : eqv (.bl a) (.bl b) = (a == b) := by
  show PyData.eqv (.bool a) (.bool b) = _
  cases a <;> cases b <;> simp [PyData.eqv]
theorem w_countB {bs : List Bool} {b : Bool} {P : Rs → Prop} : optW (gCount (.nd .lst (bs.map D.bl)) [.bl b]) P ↔ P (.fz (.int (bs.count b : Nat))) := by
  unfold gCount
  simp only
  rw [if_pos ⟨shp_bl b, shp_bls bs, by rw [toPys_bls]; exact plain_bls bs, by show PyData.plain (.bool b) = true; simp [PyData.plain]⟩]
  have : (bs.map D.bl).countP (fun z => eqv z (.bl b)) = bs.count b := by
    rw [List.countP_map]
    unfold List.count
    congr 1
  rw [this]
  exact Iff.rfl
theorem w_indexB {bs : List Bool} {b : Bool} {i : Nat} (h : bs.findIdx? (· == b) = some i) {P : Rs → Prop} : optW (gIndex (.nd .lst (bs.map D.bl)) [.bl b]) P ↔ P (.fz (.int (i : Nat))) := by
  unfold gIndex
  simp only
  rw [if_pos ⟨shp_bl b, shp_bls bs⟩]
  have : (bs.map D.bl).findIdx? (fun z => eqv z (.bl b)) = some i := by
    rw [List.findIdx?_map]
    rw [← h]
    congr 1
  rw [this]
  exact Iff.rfl
end
end B

set_option Elab.async false
set_option linter.all false
set_option maxRecDepth 100000
set_option maxHeartbeats 4000000
namespace B
open PySem PySem.Spec L2
/-! ## repr of a tuple that may hold empty dicts -/
def dct0 : D → Bool
  | .nd .dct [] => true
  | _ => false
def okIt (d : D) : Bool := ((toPy d).canLay0 || dct0 d) && (toPy d).showable
def shwOk3 (ds : List D) : Bool := ds.all okIt && decide ((toPy (.nd .tup ds)).shown.length ≤ sizeLine) && decide ((toPy (.nd .tup ds)).depth ≤ 50)
def gRepr3 : D → Option Rs
  | .nd .tup ds => if shwOk3 ds = true then some (.fz (.str (toPy (.nd .tup ds)).shown)) else none
  | _ => none
section
variable {X : Cx} {pins : List (Addr × Obj)} {σ : L2.St} {H : Hp} {s : Shared}
theorem rd_item (I : Inv X pins σ H s) {v : V} {u : Value} {d : D} (h : DR X.K X.mg H v d) (r : RelV v u) (ok : okIt d = true) : ∃ as, Reads s.heap u (toPy d) as ∧ ((toPy d).hasDict = true → sysModules ∉ as) := by
  unfold okIt at ok
  rw [Bool.and_eq_true, Bool.or_eq_true] at ok
  rcases ok.1 with lay | dc
  · obtain ⟨as, rd⟩ := Dp.reads I _ _ _ (DR.dp h lay) r
    exact ⟨as, rd, PyData.noDict_hsm (PyData.hasDict_of_canLay _ lay)⟩
  · unfold dct0 at dc
    split at dc
    case h_2 => cases dc
    have key : ∀ {a : Addr} {o : Obj} {n : Nat}, s.heap.get? a = some o → o.cls = .type "dict" → o.data = .dict #[] n → (a == sysModules) = false → ∃ as, Reads s.heap (.ref a) (toPy (.nd .dct [])) as ∧ ((toPy (.nd .dct [])).hasDict = true → sysModules ∉ as) := fun {a o n} e1 e2 e3 e4 =>
      ⟨_, .dict (kvs := []) e1 e2 e3 .nil .nil, fun _ z => by
        simp at z
        rw [← z] at e4
        simp at e4⟩
    generalize hes : ([] : List D) = es at h
    cases h with
    | dK hH rs q =>
      subst hes
      rename_i a kvs ds0
      cases r
      have e0 : kvs = [] := by
        generalize hk : kvs.map (·.1) = ks at q
        cases q
        exact List.map_eq_nil_iff.mp hk
      subst e0
      obtain ⟨_, hs, vs, kv, dd⟩ := dk_of I.hok hH
      cases kv
      obtain ⟨o, es, ep, ho, hex, hd, _, pr, _⟩ := dd
      have : es = #[] := by
        generalize hl : es.toList = l at pr
        cases pr
        exact Array.toList_eq_nil_iff.mp hl
      subst this
      exact key ho hex.1 hd hs
    | dT hH rs q =>
      subst hes
      rename_i a kvs ds0
      cases r
      have e0 : kvs = [] := by
        generalize hk : kvs.map (·.1) = ks at q
        cases q
        exact List.map_eq_nil_iff.mp hk
      subst e0
      obtain ⟨_, hs, xs, pr, o, es, ep, ho, hex, hd, hes, _⟩ := dt_of I.hok hH
      cases pr
      have : es = #[] := Array.toList_eq_nil_iff.mp hes
      subst this
      exact key ho hex.1 hd hs
theorem rd_all (I : Inv X pins σ H s) : ∀ {vs : List V} {us : List Value} {ds : List D}, DRs X.K X.mg H vs ds → Vals vs us → ds.all okIt = true → (∀ t ∈ PyData.shownAll (toPys ds), t.length ≤ sizeLine) →
    ∃ as bs, ReadsAll s.heap us (toPys ds) as ∧ ReadAtMost s.heap (PyData.depthAll (toPys ds)) bs ∧ ReprAllK X.prog X.w bs s.heap (PyData.depthAll (toPys ds)) us (PyData.shownAll (toPys ds))
  | _, _, _, .nil, .nil, _, _ => ⟨[], [], .nil, (fun _ h => nomatch h), by simp only [toPys, PyData.shownAll]; exact .nil⟩
  | _, _, _, .cons (d := d) (ds := ds) h t, .cons r rr, ok, hz => by
    rw [List.all_cons, Bool.and_eq_true] at ok
    simp only [toPys, PyData.shownAll, PyData.depthAll] at hz ⊢
    have sh : (toPy d).showable = true := by
      have := ok.1
      unfold okIt at this
      exact (Bool.and_eq_true .. ▸ this).2
    obtain ⟨as, rd, sm⟩ := rd_item I h r ok.1
    obtain ⟨bs, b1, k1⟩ := ReprK.of_reads (prog := X.prog) (w := X.w) rd sh sm (hz _ List.mem_cons_self)
    obtain ⟨as2, bs2, rd2, b2, k2⟩ := rd_all I t rr ok.2 fun x hx => hz x (List.mem_cons_of_mem _ hx)
    exact ⟨as ++ as2, bs ++ bs2, .cons rd rd2, (b1.mono (Nat.le_max_left _ _)).append (b2.mono (Nat.le_max_right _ _)), .cons ((k1.more fun b hb => List.mem_append_left _ hb).level_le (Nat.le_max_left _ _)) (k2.more_le (fun b hb => List.mem_append_right _ hb) (Nat.le_max_right _ _))⟩
end
section
variable {X : Cx} {p pos : Pos} {a : Expr} {ma : M Pl}
theorem be_repr3 (hG : X.A.guards = some []) (hu : X.A.units + 64 < cLine) (hg : Gl X "repr") (hm : X.mg "repr" = none) (ha : BP X a ma) (hs : starEach [a] X.env = (false, eval a X.env) :: starEach [] X.env := by rfl)
    (hpl : (backTo pos (starEach [] X.env)).any (·.1) = false := by rfl) : BE X (.Call (.Name "repr" p) [a] [] pos) (mUn gRepr3 ma) := by
  have cr : CallR X (.builtin "repr") (fun xs H Q => ∃ (l : Addr) (vs : List V) (ds : List D), xs = [.ref l] ∧ SqT X.K H l vs ∧ DRs X.K X.mg H vs ds ∧ shwOk3 ds = true ∧ Q (.str (toPy (.nd .tup ds)).shown) H) := by
    intro pins s σ H xs us Q I r ⟨l, vs, ds, e, sq, dr, ok, q⟩
    subst e
    cases r with
    | cons r rr =>
      cases rr
      cases r
      simp only [shwOk3, Bool.and_eq_true, decide_eq_true_eq] at ok
      obtain ⟨its, rv, ⟨o, ho, hc, n, hd⟩, _⟩ := I.tuple sq
      have eT : (toPy (.nd .tup ds)).shown = tupleText (PyData.shownAll (toPys ds)) := by
        show PyData.shown (.tuple (toPys ds)) = _
        simp only [PyData.shown]
      have eD : (toPy (.nd .tup ds)).depth = PyData.depthAll (toPys ds) + 1 := by
        show PyData.depth (.tuple (toPys ds)) = _
        simp only [PyData.depth]
      rw [eT] at ok q
      rw [eD] at ok
      obtain ⟨as, bs, rd, b1, k1⟩ := rd_all I dr rv ok.1.1 fun t ht => Nat.le_trans (tupleText_mem_le ht) ok.1.2
      have rt : Reads s.heap (.ref l) (.tuple (toPys ds)) as := .tuple ho hc hd rd
      have hna : l ∉ bs := not_mem_of_deeper rt (by simp only [PyData.depth]; omega) b1
      exact call_repr_slot (by omega) ⟨o, ho, hc⟩ F.slot_tuple_repr (call_tuple_reprK ho hc hd hna k1 hG (fun b _ => Clear.nil b) (by show X.A.units + 1 + _ < cLine; omega) (fun _ _ e => e) (fun h' u tk hk => ⟨_, _, rfl, .str _, H, I.kept (t' := tk) hk, ⟨u, rfl⟩, q⟩) ok.1.2)
  refine fun W tk => (pe_callB cr hg hm PyProof.Rows.boot_repr (pa_cons (ha W tk) pa_nil hs) (by decide) (by decide) hs hpl).imp fun σ H Q ⟨G, io, F, β, I, h⟩ => ⟨G, io, F, β, I, h.bnd fun q β1 v H1 F1 fe1 I1 r1 h1 => ?_⟩
  unfold fin1 at h1
  cases e1 : look β1 q with
  | none => rw [e1] at h1; exact h1.elim
  | some d =>
    rw [e1] at h1
    simp only [Option.bind_some] at h1
    cases e2 : gRepr3 d with
    | none => rw [e2] at h1; exact h1.elim
    | some r =>
      rw [e2] at h1
      unfold gRepr3 at e2
      split at e2
      · rename_i ds
        split at e2
        · rename_i ok
          cases e2
          have dr := (I1.look r1 e1).dr I1.sf
          cases dr with
          | tup h r => exact ⟨_, _, _, rfl, h, r, ok, h1 _ H1 F1 fe1 I1 (.str _)⟩
        · cases e2
      · cases e2
end
end B

set_option Elab.async false
set_option linter.all false
set_option maxRecDepth 100000
set_option maxHeartbeats 4000000
namespace K53
open PySem PySem.Spec L2 B
def topS (i : Nat) : Stmt := PySem.Challenge.pw_ringrules_k53_what_are_no_names.main.body.getD i (.Pass ⟨0, 0, 0, 0⟩)
abbrev st_L_digit : Stmt := topS 28
abbrev st_L_of : Stmt := topS 29
abbrev st_L_great : Stmt := topS 30
abbrev st_L_names : Stmt := topS 31
abbrev st_L_ring_of : Stmt := topS 32
abbrev st_L_cell_at : Stmt := topS 27
abbrev st_L_odd_names : Stmt := topS 34
abbrev st_L_refused : Stmt := topS 33
abbrev st_L_due : Stmt := topS 35
abbrev st_P_is_from : Stmt := topS 13
abbrev st_P_sure_bits : Stmt := topS 14
abbrev st_P_are_unlike : Stmt := topS 15
abbrev st_P_sure_names : Stmt := topS 16
abbrev st_P_figures_of : Stmt := topS 17
abbrev st_P_rounds : Stmt := topS 18
abbrev st_P_paint_by : Stmt := topS 19
abbrev st_P_painted : Stmt := topS 20
abbrev st_P_paint : Stmt := topS 21
abbrev st_P_posts_in : Stmt := topS 22
abbrev st_P_posts : Stmt := topS 23
abbrev st_P_thinned_in : Stmt := topS 24
abbrev st_P_thinned : Stmt := topS 25
abbrev st_L_law : Stmt := topS 36
abbrev st_XTooFew : Stmt := inClass (topS 5) 0
abbrev st_XNoKind : Stmt := inClass (topS 6) 0
noncomputable def m_L_digit : M Fl :=
  seqF (mIfS (asB (mOp gEq (mP (mCall gLen (mCons (mPl 0) (mNil)))) (mP (mC (.int 1))))) (seqF (mSet 3 (mOp gIx (mPl 0) (mP (mC (.int 0)))))
  (seqF (mSetIx 0 (mOp gIx (mP (mLst (mCons (mP (mC (.int 0))) (mCons (mP (mVar 3)) (mNil))))) (mP (mCall gInt (mCons (mP (mOp gGe (mPl 3) (mP (mOp gPow (mP (mC (.int 10))) (mP (mC (.int 18))))))) (mNil))))) (mC (.int 0)))
  (mExpr (mMut "list" 0 gExtend (mCons (mP (mLst (mCons (mP (mOp gMod (mPl 3) (mP (mC (.int 2147483647))))) (mCons (mP (mC (.int 0))) (mNil))))) (mNil)))))) (ret .nx))
  (seqF (mIfS (asB (mOp gGtX (mP (mOp gIx (mPl 0) (mP (mC (.int 0))))) (mP (mC (.int 0))))) (seqF (mSet 4 (mOp gMod (mP (mOp gIx (mPl 0) (mP (mC (.int 0))))) (mPl 1)))
  (seqF (mSetIx 0 (mOp gFdiv (mP (mOp gIx (mPl 0) (mP (mC (.int 0))))) (mPl 1)) (mC (.int 0)))
  (mRetVar 4))) (ret .nx))
  (seqF (mSetIx 0 (mOp gAdd (mP (mOp gIx (mPl 0) (mP (mC (.int 2))))) (mP (mC (.int 1)))) (mC (.int 2)))
  (seqF (mSet 2 (mOp gMod (mP (mOp gMul (mP (mOp gAdd (mP (mOp gAdd (mP (mOp gIx (mPl 0) (mP (mC (.int 1))))) (mP (mOp gMul (mP (mC (.int 7919))) (mP (mOp gIx (mPl 0) (mP (mC (.int 2))))))))) (mP (mC (.int 1))))) (mP (mC (.int 48271))))) (mP (mC (.int 2147483647)))))
  (seqF (mSet 2 (mOp gMod (mP (mOp gMul (mPl 2) (mP (mOp gAdd (mP (mOp gFdiv (mPl 2) (mP (mC (.int 1009))))) (mP (mC (.int 69621))))))) (mP (mC (.int 2147483647)))))
  (mRet (mOp gMod (mP (mOp gMod (mP (mOp gMul (mPl 2) (mP (mOp gAdd (mP (mOp gFdiv (mPl 2) (mP (mC (.int 2003))))) (mP (mC (.int 40692))))))) (mP (mC (.int 2147483399))))) (mPl 1)))))))
noncomputable def r_L_digit : List D → FR := runB [true, false] 5 m_L_digit
noncomputable def m_L_of : M Fl :=
  mRet (mOp gIx (mPl 1) (mP (mCallF [true, false] r_L_digit (mCons (mPl 0) (mCons (mP (mCall gLen (mCons (mPl 1) (mNil)))) (mNil))))))
noncomputable def r_L_of : List D → FR := runB [true, false] 2 m_L_of
noncomputable def m_L_great : M Fl :=
  seqF (mSet 1 (mC (.int 0)))
  (seqF (mFor (bnd (mCons (mP (mC (.int 5))) (mNil)) rngA) (gSet 2) (mSet 1 (mOp gAdd (mP (mOp gMul (mPl 1) (mP (mC (.int 65536))))) (mP (mCallF [true, false] r_L_digit (mCons (mPl 0) (mCons (mP (mC (.int 65536))) (mNil))))))))
  (mRetVar 1))
noncomputable def r_L_great : List D → FR := runB [true] 3 m_L_great
noncomputable def m_L_names : M Fl :=
  seqF (mSet 3 (mOp gShl (mP (mC (.int 1))) (mPl 2)))
  (seqF (mSet 4 (mCallF [true, false] r_L_digit (mCons (mPl 0) (mCons (mP (mC (.int 4))) (mNil)))))
  (seqF (mSet 5 (mLst (mNil)))
  (seqF (mSet 6 (mOp gMod (mP (mCallF [true] r_L_great (mCons (mPl 0) (mNil)))) (mPl 3)))
  (seqF (mFor (bnd (mCons (mPl 1) (mNil)) rngA) (gSet 7) (seqF (mIfS (asB (mOp gEq (mPl 4) (mP (mC (.int 0))))) (mSet 6 (mOp gMod (mP (mOp gAdd (mPl 6) (mP (mC (.int 1))))) (mPl 3))) (mIfS (asB (mOp gEq (mPl 4) (mP (mC (.int 1))))) (mSet 6 (mOp gMod (mP (mCallF [true] r_L_great (mCons (mPl 0) (mNil)))) (mPl 3))) (mIfS (asB (mOp gEq (mPl 4) (mP (mC (.int 2))))) (mSet 6 (mOp gMod (mP (mOp gAdd (mP (mOp gAdd (mPl 6) (mP (mC (.int 1))))) (mP (mCallF [true, false] r_L_digit (mCons (mPl 0) (mCons (mP (mC (.int 5))) (mNil))))))) (mPl 3))) (mSet 6 (mOp gMod (mP (mOp gAdd (mP (mOp gMul (mP (mC (.int 2))) (mPl 6))) (mP (mCallF [true, false] r_L_digit (mCons (mPl 0) (mCons (mP (mC (.int 2))) (mNil))))))) (mPl 3))))))
  (seqF (mWhile (asB (mOp gIn (mPl 6) (mPl 5))) (mSet 6 (mOp gMod (mP (mOp gAdd (mPl 6) (mP (mC (.int 1))))) (mPl 3))))
  (mExpr (mMut "list" 5 gAppend (mCons (mP (mVar 6)) (mNil)))))))
  (mRetVar 5)))))
noncomputable def r_L_names : List D → FR := runB [true, false, false] 8 m_L_names
noncomputable def m_L_ring_of : M Fl :=
  seqF (mSet 2 (mCallF [true, false] r_L_of (mCons (mPl 0) (mCons (mP (mLst (mCons (mP (mC (.int 64))) (mCons (mP (mC (.int 64))) (mCons (mP (mOp gAdd (mP (mC (.int 1))) (mP (mCallF [true, false] r_L_digit (mCons (mPl 0) (mCons (mP (mC (.int 64))) (mNil))))))) (mCons (mP (mOp gAdd (mP (mC (.int 2))) (mP (mCallF [true, false] r_L_digit (mCons (mPl 0) (mCons (mP (mC (.int 6))) (mNil))))))) (mNil))))))) (mNil)))))
  (seqF (mSet 3 (mOp gAdd (mP (mC (.int 2))) (mP (mCallF [true, false] r_L_digit (mCons (mPl 0) (mCons (mP (mOp gSub (mPl 1) (mP (mC (.int 1))))) (mNil)))))))
  (seqF (mIfS (asB (mOp gLtX (mPl 2) (mP (mC (.int 10))))) (mSet 3 (mCall gMin2 (mCons (mPl 3) (mCons (mP (mOp gShl (mP (mC (.int 1))) (mPl 2))) (mNil))))) (ret .nx))
  (mRet (mTup (mCons (mP (mVar 2)) (mCons (mP (mCallF [true, false, false] r_L_names (mCons (mPl 0) (mCons (mPl 3) (mCons (mPl 2) (mNil)))))) (mNil)))))))
noncomputable def r_L_ring_of : List D → FR := runB [true, false] 4 m_L_ring_of
noncomputable def m_L_cell_at : M Fl :=
  seqF (mIfS (asB (mOp gLtX (mPl 1) (mP (mCall gLen (mCons (mPl 0) (mNil)))))) (mRet (mOp gIx (mPl 0) (mPl 1))) (ret .nx))
  (mRet (mC (.int 0)))
noncomputable def r_L_cell_at : List D → FR := runB [false, false] 2 m_L_cell_at
noncomputable def m_L_odd_names : M Fl :=
  seqF (mSet 3 (mCallF [true, false] r_L_digit (mCons (mPl 0) (mCons (mP (mCall gLen (mCons (mPl 1) (mNil)))) (mNil)))))
  (seqF (mSet 4 (mCallF [true, false] r_L_of (mCons (mPl 0) (mCons (mP (mLst (mCons (mP (mOp gIx (mPl 1) (mP (mOp gSub (mPl 3) (mP (mC (.int 1))))))) (mCons (mP (mUn gNeg (mP (mC (.int 1))))) (mCons (mP (mOp gShl (mP (mC (.int 1))) (mPl 2))) (mCons (mP (mC (.bl true))) (mCons (mP (mC (.bl false))) (mCons (mP (mC .non)) (mCons (mP (mC (.str "0"))) (mCons (mP (mLst (mCons (mP (mC (.int 0))) (mNil)))) (mCons (mP (mTup (mCons (mP (mC (.int 0))) (mNil)))) (mNil)))))))))))) (mNil)))))
  (seqF (mSet 5 (mOp gMul (mP (mLst (mCons (mP (mOp gAdd (mP (mOp gAdd (mP (mSl (mPl 1) (mNoPart) (mPart (mVar 3)))) (mP (mLst (mCons (mP (mVar 4)) (mNil)))))) (mP (mSl (mPl 1) (mPart (mOp gAdd (mPl 3) (mP (mC (.int 1))))) (mNoPart))))) (mNil)))) (mP (mC (.int 6)))))
  (seqF (mSet 5 (mOp gAdd (mPl 5) (mP (mLst (mCons (mP (mLst (mNil))) (mCons (mP (mSl (mPl 1) (mNoPart) (mPart (mC (.int 1))))) (mCons (mP (mCall gTuple (mCons (mPl 1) (mNil)))) (mCons (mP (mC .non)) (mCons (mP (mC (.str "names"))) (mCons (mP (mDict0)) (mCons (mP (mOp gAdd (mPl 1) (mP (mSl (mPl 1) (mNoPart) (mPart (mC (.int 1))))))) (mCons (mP (mC (.int 5))) (mNil)))))))))))))
  (mRet (mCallF [true, false] r_L_of (mCons (mPl 0) (mCons (mP (mVar 5)) (mNil))))))))
noncomputable def r_L_odd_names : List D → FR := runB [true, false, false] 6 m_L_odd_names
noncomputable def m_L_refused (z : Ez) (o : R Rs) : M Fl :=
  seqF (mTry (mExpr (mAsk 0 z o)) (⟨tabF [("NoBits", true), ("NoNames", true), ("TooFew", true), ("NoLevel", true)], some 1, fun a cls d => seqF (mSet 2 (mLst (mCons (mP (mIsE 1 (tabF [("NoBits", true), ("NoNames", false), ("TooFew", false), ("NoLevel", false)]) a cls d)) (mCons (mP (mIsE 1 (tabF [("NoBits", false), ("NoNames", true), ("TooFew", false), ("NoLevel", false)]) a cls d)) (mCons (mP (mIsE 1 (tabF [("NoBits", false), ("NoNames", false), ("TooFew", false), ("NoLevel", true)]) a cls d)) (mCons (mP (mIsE 1 (tabF [("NoBits", false), ("NoNames", false), ("TooFew", true), ("NoLevel", false)]) a cls d)) (mNil)))))))
  (seqF (mSet 2 (mOp gAdd (mPl 2) (mP (mLst (mCons (mP (mIsE 1 (tabF [("NoBits", false), ("NoNames", false), ("TooFew", false), ("NoLevel", false)]) a cls d)) (mCons (mP (mIsE 1 (tabF [("NoBits", false), ("NoNames", false), ("TooFew", false), ("NoLevel", false)]) a cls d)) (mNil)))))))
  (seqF (mIfS (mOr (asB (mOp gNe (mP (mMet "list" gCount (mPl 2) (mCons (mP (mC (.bl true))) (mNil)))) (mP (mC (.int 1))))) (mNot (mTru (mP (mIsE 1 (tabF [("NoBits", true), ("NoNames", true), ("TooFew", true), ("NoLevel", true)]) a cls d))))) (mRet (mC (.str "several"))) (ret .nx))
  (mRet (mOp gIx (mP (mLst (mCons (mP (mC (.str "figs"))) (mCons (mP (mC (.str "names"))) (mCons (mP (mC (.str "level"))) (mCons (mP (mC (.str "told"))) (mCons (mP (mC (.str "kind"))) (mCons (mP (mC (.str "view"))) (mNil))))))))) (mP (mMet "list" gIndex (mPl 2) (mCons (mP (mC (.bl true))) (mNil))))))))⟩ :: []))
  (mRet (mC (.str "told")))
noncomputable def m_L_due : M Fl :=
  mRet (mOp gIx (mP (mOp gAdd (mP (mComp [2, 3] (bnd (mCons (mP (mVar 0)) (mCons (mP (mVar 1)) (mNil))) zipA) (gUnp 2 (gsCons (gSet 2) (gsCons (gSet 3) (gsNil)))) (mTru (mPl 3)) (mVar 2))) (mP (mLst (mCons (mP (mC (.str "told"))) (mNil)))))) (mP (mC (.int 0))))
noncomputable def r_L_due : List D → FR := runB [false, false] 4 m_L_due
noncomputable def m_P_is_from : M Fl :=
  mRet (mAndV (mUn (gIsi "int") (mPl 0)) (mAndV (mNotV (mUn (gIsi "bool") (mPl 0))) (mChain gLe gLe (mPl 1) (mPl 0) (mPl 2))))
noncomputable def r_P_is_from : List D → FR := runB [false, false, false] 3 m_P_is_from
noncomputable def m_P_sure_bits : M Fl :=
  mIfS (mNot (mTru (mP (mCallF [false, false, false] r_P_is_from (mCons (mPl 0) (mCons (mP (mC (.int 1))) (mCons (mP (mC (.int 64))) (mNil)))))))) (mRaise0 "NoBits") (ret .nx)
noncomputable def r_P_sure_bits : List D → FR := runB [false] 1 m_P_sure_bits
noncomputable def m_P_are_unlike : M Fl :=
  seqF (mIfS (mOr (mNot (mTru (mP (mUn (gIsi "list") (mPl 0))))) (mNot (mTru (mP (mCall gAll (mCons (mP (mComp [2] (mIter (mVar 0)) (gSet 2) (mYes) (mCallF [false, false, false] r_P_is_from (mCons (mPl 2) (mCons (mP (mC (.int 0))) (mCons (mP (mOp gSub (mP (mOp gShl (mP (mC (.int 1))) (mPl 1))) (mP (mC (.int 1))))) (mNil))))))) (mNil))))))) (mRet (mC (.bl false))) (ret .nx))
  (mRet (mOp gEq (mP (mUn gLenSetD (mPl 0))) (mP (mCall gLen (mCons (mPl 0) (mNil))))))
noncomputable def r_P_are_unlike : List D → FR := runB [false, false] 3 m_P_are_unlike
noncomputable def m_P_sure_names : M Fl :=
  mIfS (mOr (mNot (mTru (mP (mCallF [false, false] r_P_are_unlike (mCons (mPl 0) (mCons (mPl 1) (mNil))))))) (asB (mOp gLtX (mP (mCall gLen (mCons (mPl 0) (mNil)))) (mP (mC (.int 2)))))) (mRaise0 "NoNames") (ret .nx)
noncomputable def r_P_sure_names : List D → FR := runB [false, false] 2 m_P_sure_names
noncomputable def m_P_figures_of : M Fl :=
  seqF (mSet 1 (mC (.int 0)))
  (seqF (mWhile (asB (mOp gGtX (mPl 0) (mP (mC (.int 0))))) (seqF (mSet 0 (mOp gFdiv (mPl 0) (mP (mC (.int 2)))))
  (mAug 1 (fun a b => a + b) (mC (.int 1)))))
  (mRetVar 1))
noncomputable def r_P_figures_of : List D → FR := runB [false] 2 m_P_figures_of
noncomputable def m_P_rounds : M Fl :=
  seqF (mExpr (mCallF [false] r_P_sure_bits (mCons (mPl 0) (mNil))))
  (seqF (mSet 1 (mOp gShl (mP (mC (.int 1))) (mPl 0)))
  (seqF (mSet 2 (mC (.int 0)))
  (seqF (mWhile (asB (mOp gGtX (mPl 1) (mP (mC (.int 6))))) (seqF (mSet 1 (mOp gMul (mP (mC (.int 2))) (mP (mCallF [false] r_P_figures_of (mCons (mP (mOp gSub (mPl 1) (mP (mC (.int 1))))) (mNil))))))
  (mAug 2 (fun a b => a + b) (mC (.int 1)))))
  (mRetVar 2))))
noncomputable def r_P_rounds : List D → FR := runB [false] 3 m_P_rounds
noncomputable def m_P_paint_by : M Fl :=
  seqF (mSet 2 (mC (.int 0)))
  (seqF (mWhile (asB (mOp gEq (mP (mOp gMod (mPl 0) (mP (mC (.int 2))))) (mP (mOp gMod (mPl 1) (mP (mC (.int 2))))))) (seqF (mSet 0 (mOp gFdiv (mPl 0) (mP (mC (.int 2)))))
  (seqF (mSet 1 (mOp gFdiv (mPl 1) (mP (mC (.int 2)))))
  (mAug 2 (fun a b => a + b) (mC (.int 1))))))
  (mRet (mOp gAdd (mP (mOp gMul (mP (mC (.int 2))) (mPl 2))) (mP (mOp gMod (mPl 0) (mP (mC (.int 2))))))))
noncomputable def r_P_paint_by : List D → FR := runB [false, false] 3 m_P_paint_by
noncomputable def m_P_painted : M Fl :=
  seqF (mSet 2 (mCall gLen (mCons (mPl 0) (mNil))))
  (seqF (mSet 3 (mCall gList (mCons (mPl 0) (mNil))))
  (seqF (mFor (bnd (mCons (mP (mCallF [false] r_P_rounds (mCons (mPl 1) (mNil)))) (mNil)) rngA) (gSet 4) (mSet 3 (mComp [7] (bnd (mCons (mPl 2) (mNil)) rngA) (gSet 7) (mYes) (mCallF [false, false] r_P_paint_by (mCons (mP (mOp gIx (mPl 3) (mPl 7))) (mCons (mP (mOp gIx (mPl 3) (mP (mOp gMod (mP (mOp gAdd (mPl 7) (mP (mC (.int 1))))) (mPl 2))))) (mNil)))))))
  (seqF (mFor (mIter (mC (.nd .tup [.int 5, .int 4, .int 3]))) (gSet 5) (seqF (mSet 6 (mCall gList (mCons (mPl 3) (mNil))))
  (seqF (mFor (bnd (mCons (mPl 2) (mNil)) rngA) (gSet 7) (mIfS (asB (mOp gEq (mP (mOp gIx (mPl 3) (mPl 7))) (mPl 5))) (seqF (mSet 8 (mTup (mCons (mP (mOp gIx (mPl 3) (mP (mOp gSub (mPl 7) (mP (mC (.int 1))))))) (mCons (mP (mOp gIx (mPl 3) (mP (mOp gMod (mP (mOp gAdd (mPl 7) (mP (mC (.int 1))))) (mPl 2))))) (mNil)))))
  (mSetIx 6 (mOp gIx (mP (mComp [9] (mIter (mTup (mCons (mP (mC (.int 0))) (mCons (mP (mC (.int 1))) (mCons (mP (mC (.int 2))) (mNil)))))) (gSet 9) (asB (mOp gNotIn (mPl 9) (mPl 8))) (mVar 9))) (mP (mC (.int 0)))) (mVar 7))) (ret .nx)))
  (mSet 3 (mMv 6)))))
  (mRetVar 3))))
noncomputable def r_P_painted : List D → FR := runB [false, false] 10 m_P_painted
noncomputable def m_P_paint : M Fl :=
  seqF (mExpr (mCallF [false] r_P_sure_bits (mCons (mPl 1) (mNil))))
  (seqF (mExpr (mCallF [false, false] r_P_sure_names (mCons (mPl 0) (mCons (mPl 1) (mNil)))))
  (mRet (mCallF [false, false] r_P_painted (mCons (mPl 0) (mCons (mPl 1) (mNil))))))
noncomputable def r_P_paint : List D → FR := runB [false, false] 2 m_P_paint
noncomputable def m_P_posts_in : M Fl :=
  seqF (mSet 2 (mCall gLen (mCons (mPl 0) (mNil))))
  (seqF (mSet 3 (mCallF [false, false] r_P_painted (mCons (mPl 0) (mCons (mPl 1) (mNil)))))
  (seqF (mSet 4 (mComp [7] (mIter (mVar 0)) (gSet 7) (mYes) (mC (.bl false))))
  (seqF (mFor (mIter (mTup (mCons (mP (mC (.int 0))) (mCons (mP (mC (.int 1))) (mCons (mP (mC (.int 2))) (mNil)))))) (gSet 5) (mFor (bnd (mCons (mPl 2) (mNil)) rngA) (gSet 6) (mIfS (mAnd (asB (mOp gEq (mP (mOp gIx (mPl 3) (mPl 6))) (mPl 5))) (mAnd (mNot (mTru (mP (mOp gIx (mPl 4) (mP (mOp gSub (mPl 6) (mP (mC (.int 1))))))))) (mNot (mTru (mP (mOp gIx (mPl 4) (mP (mOp gMod (mP (mOp gAdd (mPl 6) (mP (mC (.int 1))))) (mPl 2))))))))) (mSetIx 4 (mC (.bl true)) (mVar 6)) (ret .nx))))
  (mRet (mComp [6] (bnd (mCons (mPl 2) (mNil)) rngA) (gSet 6) (mTru (mP (mOp gIx (mPl 4) (mPl 6)))) (mVar 6))))))
noncomputable def r_P_posts_in : List D → FR := runB [false, false] 8 m_P_posts_in
noncomputable def m_P_posts : M Fl :=
  seqF (mExpr (mCallF [false] r_P_sure_bits (mCons (mPl 1) (mNil))))
  (seqF (mExpr (mCallF [false, false] r_P_sure_names (mCons (mPl 0) (mCons (mPl 1) (mNil)))))
  (mRet (mCallF [false, false] r_P_posts_in (mCons (mPl 0) (mCons (mPl 1) (mNil))))))
noncomputable def r_P_posts : List D → FR := runB [false, false] 2 m_P_posts
noncomputable def m_P_thinned_in : M Fl :=
  seqF (mSet 3 (mUn gListRng (mP (mCall gLen (mCons (mPl 0) (mNil))))))
  (seqF (mFor (bnd (mCons (mPl 1) (mNil)) rngA) (gSet 4) (seqF (mIfS (asB (mOp gLtX (mP (mCall gLen (mCons (mPl 3) (mNil)))) (mP (mC (.int 2))))) (mRaiseI "TooFew" "level" (mP (mVar 4))) (ret .nx))
  (seqF (mSet 5 (mComp [6] (mIter (mVar 3)) (gSet 6) (mYes) (mOp gIx (mPl 0) (mPl 6))))
  (mSet 3 (mComp [7] (mIter (mCallF [false, false] r_P_posts_in (mCons (mPl 5) (mCons (mPl 2) (mNil))))) (gSet 7) (mYes) (mOp gIx (mPl 3) (mPl 7)))))))
  (mRetVar 3))
noncomputable def r_P_thinned_in : List D → FR := runB [false, false, false] 8 m_P_thinned_in
noncomputable def m_P_thinned : M Fl :=
  seqF (mExpr (mCallF [false] r_P_sure_bits (mCons (mPl 2) (mNil))))
  (seqF (mExpr (mCallF [false, false] r_P_sure_names (mCons (mPl 0) (mCons (mPl 2) (mNil)))))
  (seqF (mIfS (mNot (mTru (mP (mCallF [false, false, false] r_P_is_from (mCons (mPl 1) (mCons (mP (mC (.int 0))) (mCons (mP (mC (.int 6))) (mNil)))))))) (mRaise0 "NoLevel") (ret .nx))
  (mRet (mCallF [false, false, false] r_P_thinned_in (mCons (mPl 0) (mCons (mPl 1) (mCons (mPl 2) (mNil))))))))
noncomputable def r_P_thinned : List D → FR := runB [false, false, false] 3 m_P_thinned
noncomputable def m_L_law (ts : List (Addr × Str)) : M Fl :=
  seqF (mFor (mIter (mOp gAdd (mP (mLst (mCons (mP (mCallF [false, false] r_L_cell_at (mCons (mPl 0) (mCons (mP (mC (.int 0))) (mNil))))) (mNil)))) (mP (mSl (mPl 0) (mPart (mC (.int 1))) (mPart (mC (.int 8))))))) (gSet 1) (seqF (mSet 2 (mLst (mCons (mP (mVar 1)) (mNil))))
  (seqF (mSet 3 (mComp [7] (bnd (mCons (mP (mC (.int 3))) (mNil)) rngA) (gSet 7) (mYes) (mOp gEq (mP (mCallF [true, false] r_L_digit (mCons (mPl 2) (mCons (mP (mC (.int 3))) (mNil))))) (mP (mC (.int 0))))))
  (seqF (mAsg (gUnp 2 (gsCons (gSet 9) (gsCons (gSet 10) (gsNil)))) (mCallF [true, false] r_L_ring_of (mCons (mPl 2) (mCons (mP (mC (.int 12))) (mNil)))))
  (seqF (mSet 4 (mCallF [true, false] r_L_digit (mCons (mPl 2) (mCons (mP (mC (.int 7))) (mNil)))))
  (seqF (mIfS (mTru (mP (mOp gIx (mPl 3) (mP (mC (.int 1)))))) (mSet 10 (mCallF [true, false, false] r_L_odd_names (mCons (mPl 2) (mCons (mPl 10) (mCons (mPl 9) (mNil)))))) (ret .nx))
  (seqF (mIfS (mTru (mP (mOp gIx (mPl 3) (mP (mC (.int 0)))))) (mSet 9 (mCallF [true, false] r_L_of (mCons (mPl 2) (mCons (mP (mLst (mCons (mP (mC (.int 0))) (mCons (mP (mC (.int 65))) (mCons (mP (mUn gNeg (mP (mC (.int 1))))) (mCons (mP (mC (.bl true))) (mCons (mP (mC (.bl false))) (mCons (mP (mC .non)) (mCons (mP (mC (.str "8"))) (mCons (mP (mLst (mCons (mP (mC (.int 8))) (mNil)))) (mCons (mP (mOp gPow (mP (mC (.int 10))) (mP (mC (.int 40))))) (mNil)))))))))))) (mNil))))) (ret .nx))
  (seqF (mIfS (mTru (mP (mOp gIx (mPl 3) (mP (mC (.int 2)))))) (mSet 4 (mCallF [true, false] r_L_of (mCons (mPl 2) (mCons (mP (mLst (mCons (mP (mUn gNeg (mP (mC (.int 1))))) (mCons (mP (mC (.int 7))) (mCons (mP (mC (.bl true))) (mCons (mP (mC (.bl false))) (mCons (mP (mC .non)) (mCons (mP (mC (.str "1"))) (mCons (mP (mLst (mCons (mP (mC (.int 1))) (mNil)))) (mCons (mP (mOp gPow (mP (mC (.int 10))) (mP (mC (.int 40))))) (mNil))))))))))) (mNil))))) (ret .nx))
  (seqF (mSet 5 (mUn gRepr3 (mP (mTup (mCons (mP (mVar 9)) (mCons (mP (mVar 10)) (mCons (mP (mVar 4)) (mNil))))))))
  (seqF (mSet 6 (mLst (mCons (mP (mC (.str "figs"))) (mCons (mP (mC (.str "names"))) (mCons (mP (mC (.str "level"))) (mNil))))))
  (seqF (mFor (bnd (mCons (mP (mC (.int 2))) (mNil)) rngA) (gSet 7) (seqF (mIfS (asB (mOp gNe (mP (mLam 11 ts 3 m_L_refused (mCallF [false] r_P_rounds (mCons (mPl 9) (mNil))))) (mP (mCallF [false, false] r_L_due (mCons (mPl 6) (mCons (mP (mSl (mPl 3) (mNoPart) (mPart (mC (.int 1))))) (mNil))))))) (mRet (mC (.bl false))) (ret .nx))
  (seqF (mIfS (asB (mOp gNe (mP (mLam 11 ts 3 m_L_refused (mCallK [false, false] r_P_paint 1 1 (kp [0, 1]) (mCons (mPl 10) (mNil)) (mCons (mPl 9) (mNil))))) (mP (mCallF [false, false] r_L_due (mCons (mPl 6) (mCons (mP (mSl (mPl 3) (mNoPart) (mPart (mC (.int 2))))) (mNil))))))) (mRet (mC (.bl false))) (ret .nx))
  (seqF (mIfS (asB (mOp gNe (mP (mLam 11 ts 3 m_L_refused (mCallK [false, false] r_P_posts 1 1 (kp [0, 1]) (mCons (mPl 10) (mNil)) (mCons (mPl 9) (mNil))))) (mP (mCallF [false, false] r_L_due (mCons (mPl 6) (mCons (mP (mSl (mPl 3) (mNoPart) (mPart (mC (.int 2))))) (mNil))))))) (mRet (mC (.bl false))) (ret .nx))
  (mIfS (asB (mOp gNe (mP (mLam 11 ts 3 m_L_refused (mCallK [false, false, false] r_P_thinned 2 1 (kp [0, 1, 2]) (mCons (mPl 10) (mCons (mPl 4) (mNil))) (mCons (mPl 9) (mNil))))) (mP (mCallF [false, false] r_L_due (mCons (mPl 6) (mCons (mPl 3) (mNil))))))) (mRet (mC (.bl false))) (ret .nx))))))
  (seqF (mIfS (asB (mOp gNe (mP (mUn gRepr3 (mP (mTup (mCons (mP (mVar 9)) (mCons (mP (mVar 10)) (mCons (mP (mVar 4)) (mNil)))))))) (mPl 5))) (mRet (mC (.bl false))) (ret .nx))
  (seqF (mSet 8 (mCallF [true, false, false] r_L_names (mCons (mPl 2) (mCons (mP (mOp gAdd (mP (mC (.int 2))) (mP (mCallF [true, false] r_L_digit (mCons (mPl 2) (mCons (mP (mC (.int 8))) (mNil))))))) (mCons (mP (mC (.int 64))) (mNil))))))
  (seqF (mSetIx 8 (mOp gShl (mP (mC (.int 1))) (mP (mC (.int 64)))) (mCallF [true, false] r_L_digit (mCons (mPl 2) (mCons (mP (mCall gLen (mCons (mPl 8) (mNil)))) (mNil)))))
  (seqF (mIfS (asB (mOp gNe (mP (mLam 11 ts 3 m_L_refused (mCallD [false, false] r_P_paint [.int 64] (mCons (mPl 8) (mNil))))) (mP (mC (.str "names"))))) (mRet (mC (.bl false))) (ret .nx))
  (seqF (mIfS (asB (mOp gNe (mP (mLam 11 ts 3 m_L_refused (mCallD [false, false] r_P_posts [.int 64] (mCons (mPl 8) (mNil))))) (mP (mC (.str "names"))))) (mRet (mC (.bl false))) (ret .nx))
  (mIfS (asB (mOp gNe (mP (mLam 11 ts 3 m_L_refused (mCallD [false, false, false] r_P_thinned [.int 64] (mCons (mPl 8) (mCons (mP (mC (.int 1))) (mNil)))))) (mP (mC (.str "names"))))) (mRet (mC (.bl false))) (ret .nx))))))))))))))))))
  (mRet (mC (.bl true)))
noncomputable def r_L_law : List D → FR := runT [false] 12 11 m_L_law
end K53

set_option Elab.async false
set_option linter.all false
set_option maxRecDepth 100000
set_option maxHeartbeats 4000000
namespace K53
open PySem PySem.Spec L2 B
abbrev N_L_digit : List Str := ["_law_state", "_law_base", "_law_mixed", "_law_cell", "_law_found"]
abbrev q_L_digit : List Str := ["_law_state", "_law_base"]
theorem sc_L_digit : FnScope N_L_digit q_L_digit (defScope st_L_digit) := ⟨rfl, rfl, rfl, by decide +kernel, rfl, by decide +kernel, by decide +kernel⟩
abbrev N_L_of : List Str := ["_law_state", "_law_some"]
abbrev q_L_of : List Str := ["_law_state", "_law_some"]
theorem sc_L_of : FnScope N_L_of q_L_of (defScope st_L_of) := ⟨rfl, rfl, rfl, by decide +kernel, rfl, by decide +kernel, by decide +kernel⟩
abbrev N_L_great : List Str := ["_law_state", "_law_found", "_law_turn"]
abbrev q_L_great : List Str := ["_law_state"]
theorem sc_L_great : FnScope N_L_great q_L_great (defScope st_L_great) := ⟨rfl, rfl, rfl, by decide +kernel, rfl, by decide +kernel, by decide +kernel⟩
abbrev N_L_names : List Str := ["_law_state", "_law_amount", "_law_figs", "_law_high", "_law_style", "_law_found", "_law_last", "_law_k"]
abbrev q_L_names : List Str := ["_law_state", "_law_amount", "_law_figs"]
theorem sc_L_names : FnScope N_L_names q_L_names (defScope st_L_names) := ⟨rfl, rfl, rfl, by decide +kernel, rfl, by decide +kernel, by decide +kernel⟩
abbrev N_L_ring_of : List Str := ["_law_state", "_law_most", "_law_figs", "_law_amount"]
abbrev q_L_ring_of : List Str := ["_law_state", "_law_most"]
theorem sc_L_ring_of : FnScope N_L_ring_of q_L_ring_of (defScope st_L_ring_of) := ⟨rfl, rfl, rfl, by decide +kernel, rfl, by decide +kernel, by decide +kernel⟩
abbrev N_L_cell_at : List Str := ["_law_script", "_law_k"]
abbrev q_L_cell_at : List Str := ["_law_script", "_law_k"]
theorem sc_L_cell_at : FnScope N_L_cell_at q_L_cell_at (defScope st_L_cell_at) := ⟨rfl, rfl, rfl, by decide +kernel, rfl, by decide +kernel, by decide +kernel⟩
abbrev N_L_odd_names : List Str := ["_law_state", "_law_houses", "_law_figs", "_law_place", "_law_odd", "_law_some"]
abbrev q_L_odd_names : List Str := ["_law_state", "_law_houses", "_law_figs"]
theorem sc_L_odd_names : FnScope N_L_odd_names q_L_odd_names (defScope st_L_odd_names) := ⟨rfl, rfl, rfl, by decide +kernel, rfl, by decide +kernel, by decide +kernel⟩
abbrev N_L_refused : List Str := ["_law_ask", "e", "_law_some"]
abbrev q_L_refused : List Str := ["_law_ask"]
theorem sc_L_refused : FnScope N_L_refused q_L_refused (defScope st_L_refused) := ⟨rfl, rfl, rfl, by decide +kernel, rfl, by decide +kernel, by decide +kernel⟩
abbrev N_L_due : List Str := ["_law_words", "_law_bad", "_law_word", "_law_odd"]
abbrev q_L_due : List Str := ["_law_words", "_law_bad"]
theorem sc_L_due : FnScope N_L_due q_L_due (defScope st_L_due) := ⟨rfl, rfl, rfl, by decide +kernel, rfl, by decide +kernel, by decide +kernel⟩
abbrev N_P_is_from : List Str := ["thing", "low", "high"]
abbrev q_P_is_from : List Str := ["thing", "low", "high"]
theorem sc_P_is_from : FnScope N_P_is_from q_P_is_from (defScope st_P_is_from) := ⟨rfl, rfl, rfl, by decide +kernel, rfl, by decide +kernel, by decide +kernel⟩
abbrev N_P_sure_bits : List Str := ["bits"]
abbrev q_P_sure_bits : List Str := ["bits"]
theorem sc_P_sure_bits : FnScope N_P_sure_bits q_P_sure_bits (defScope st_P_sure_bits) := ⟨rfl, rfl, rfl, by decide +kernel, rfl, by decide +kernel, by decide +kernel⟩
abbrev N_P_are_unlike : List Str := ["thing", "bits", "name"]
abbrev q_P_are_unlike : List Str := ["thing", "bits"]
theorem sc_P_are_unlike : FnScope N_P_are_unlike q_P_are_unlike (defScope st_P_are_unlike) := ⟨rfl, rfl, rfl, by decide +kernel, rfl, by decide +kernel, by decide +kernel⟩
abbrev N_P_sure_names : List Str := ["names", "bits"]
abbrev q_P_sure_names : List Str := ["names", "bits"]
theorem sc_P_sure_names : FnScope N_P_sure_names q_P_sure_names (defScope st_P_sure_names) := ⟨rfl, rfl, rfl, by decide +kernel, rfl, by decide +kernel, by decide +kernel⟩
abbrev N_P_figures_of : List Str := ["number", "found"]
abbrev q_P_figures_of : List Str := ["number"]
theorem sc_P_figures_of : FnScope N_P_figures_of q_P_figures_of (defScope st_P_figures_of) := ⟨rfl, rfl, rfl, by decide +kernel, rfl, by decide +kernel, by decide +kernel⟩
abbrev N_P_rounds : List Str := ["bits", "many", "found"]
abbrev q_P_rounds : List Str := ["bits"]
theorem sc_P_rounds : FnScope N_P_rounds q_P_rounds (defScope st_P_rounds) := ⟨rfl, rfl, rfl, by decide +kernel, rfl, by decide +kernel, by decide +kernel⟩
abbrev N_P_paint_by : List Str := ["mine", "its", "place"]
abbrev q_P_paint_by : List Str := ["mine", "its"]
theorem sc_P_paint_by : FnScope N_P_paint_by q_P_paint_by (defScope st_P_paint_by) := ⟨rfl, rfl, rfl, by decide +kernel, rfl, by decide +kernel, by decide +kernel⟩
abbrev N_P_painted : List Str := ["names", "bits", "many", "paints", "turn", "last", "later", "k", "beside", "one"]
abbrev q_P_painted : List Str := ["names", "bits"]
theorem sc_P_painted : FnScope N_P_painted q_P_painted (defScope st_P_painted) := ⟨rfl, rfl, rfl, by decide +kernel, rfl, by decide +kernel, by decide +kernel⟩
abbrev N_P_paint : List Str := ["names", "bits"]
abbrev q_P_paint : List Str := ["names", "bits"]
theorem sc_P_paint : FnScope N_P_paint q_P_paint (defScope st_P_paint) := ⟨rfl, rfl, rfl, by decide +kernel, rfl, by decide +kernel, by decide +kernel⟩
abbrev N_P_posts_in : List Str := ["names", "bits", "many", "paints", "marks", "one", "k", "name"]
abbrev q_P_posts_in : List Str := ["names", "bits"]
theorem sc_P_posts_in : FnScope N_P_posts_in q_P_posts_in (defScope st_P_posts_in) := ⟨rfl, rfl, rfl, by decide +kernel, rfl, by decide +kernel, by decide +kernel⟩
abbrev N_P_posts : List Str := ["names", "bits"]
abbrev q_P_posts : List Str := ["names", "bits"]
theorem sc_P_posts : FnScope N_P_posts q_P_posts (defScope st_P_posts) := ⟨rfl, rfl, rfl, by decide +kernel, rfl, by decide +kernel, by decide +kernel⟩
abbrev N_P_thinned_in : List Str := ["names", "level", "bits", "found", "turn", "some", "place", "k"]
abbrev q_P_thinned_in : List Str := ["names", "level", "bits"]
theorem sc_P_thinned_in : FnScope N_P_thinned_in q_P_thinned_in (defScope st_P_thinned_in) := ⟨rfl, rfl, rfl, by decide +kernel, rfl, by decide +kernel, by decide +kernel⟩
abbrev N_P_thinned : List Str := ["names", "level", "bits"]
abbrev q_P_thinned : List Str := ["names", "level", "bits"]
theorem sc_P_thinned : FnScope N_P_thinned q_P_thinned (defScope st_P_thinned) := ⟨rfl, rfl, rfl, by decide +kernel, rfl, by decide +kernel, by decide +kernel⟩
abbrev N_L_law : List Str := ["_law_script", "_law_cell", "_law_state", "_law_bad", "_law_level", "_law_kept", "_law_words", "_law_turn", "_law_great_here", "_law_figs", "_law_houses", "_gh"]
abbrev q_L_law : List Str := ["_law_script"]
theorem sc_L_law : FnScope N_L_law q_L_law (defScope st_L_law) := ⟨rfl, rfl, rfl, by decide +kernel, rfl, by decide +kernel, by decide +kernel⟩
/-- what the written part says -/
structure Wr (K : PySem.W.Frag) (mg : Str → Option Value) : Prop where
  bl : Bl mg
  c_MOST_BITS : ∃ t, mg "MOST_BITS" = some (.int 64 t)
  c_MOST_LEVEL : ∃ t, mg "MOST_LEVEL" = some (.int 6 t)
  c_FEW : ∃ t, mg "FEW" = some (.int 6 t)
  c_LAST_PAINTS : ∃ l vs, mg "LAST_PAINTS" = some (.ref l) ∧ SqT K (fun _ => none) l vs ∧ ∀ F, DRs K mg F vs [.int 5, .int 4, .int 3]
  x_NoBits : XCls K mg "NoBits"
  x_NoNames : XCls K mg "NoNames"
  x_NoLevel : XCls K mg "NoLevel"
  x_TooFew : XClsI K mg "TooFew" "level" st_XTooFew "TooFew.__init__"
  re : ReC K mg "RuleError"
  e_L_refused_RuleError : XExm K mg "RuleError" [("NoBits", true), ("NoNames", true), ("TooFew", true), ("NoLevel", true)]
  ki_TooFew_L_refused_RuleError : XKit K mg "TooFew" [("NoBits", false), ("NoNames", false), ("TooFew", true), ("NoLevel", false)]
  ki_NoLevel_L_refused_RuleError : XKit K mg "NoLevel" [("NoBits", false), ("NoNames", false), ("TooFew", false), ("NoLevel", true)]
  ki_NoNames_L_refused_RuleError : XKit K mg "NoNames" [("NoBits", false), ("NoNames", true), ("TooFew", false), ("NoLevel", false)]
  ki_NoBits_L_refused_RuleError : XKit K mg "NoBits" [("NoBits", true), ("NoNames", false), ("TooFew", false), ("NoLevel", false)]
  ki_NoView_L_refused_RuleError : XKit K mg "NoView" [("NoBits", false), ("NoNames", false), ("TooFew", false), ("NoLevel", false)]
  ki_NoKind_L_refused_RuleError : XKit K mg "NoKind" [("NoBits", false), ("NoNames", false), ("TooFew", false), ("NoLevel", false)]
  kb_ValueError_L_refused_RuleError : XKitB K mg "ValueError" "ValueError" [("NoBits", true), ("NoNames", true), ("TooFew", true), ("NoLevel", true)]
  xo : XObj K
  k_L_digit : Lk K mg "_law_digit" st_L_digit q_L_digit
  k_L_of : Lk K mg "_law_of" st_L_of q_L_of
  k_L_great : Lk K mg "_law_great" st_L_great q_L_great
  k_L_names : Lk K mg "_law_names" st_L_names q_L_names
  k_L_ring_of : Lk K mg "_law_ring_of" st_L_ring_of q_L_ring_of
  k_L_cell_at : Lk K mg "_law_cell_at" st_L_cell_at q_L_cell_at
  k_L_odd_names : Lk K mg "_law_odd_names" st_L_odd_names q_L_odd_names
  k_L_refused : Lk K mg "_law_refused" st_L_refused q_L_refused
  k_L_due : Lk K mg "_law_due" st_L_due q_L_due
  k_P_is_from : Lk K mg "is_from" st_P_is_from q_P_is_from
  k_P_sure_bits : Lk K mg "sure_bits" st_P_sure_bits q_P_sure_bits
  k_P_are_unlike : Lk K mg "are_unlike" st_P_are_unlike q_P_are_unlike
  k_P_sure_names : Lk K mg "sure_names" st_P_sure_names q_P_sure_names
  k_P_figures_of : Lk K mg "figures_of" st_P_figures_of q_P_figures_of
  k_P_rounds : Lk K mg "rounds" st_P_rounds q_P_rounds
  k_P_paint_by : Lk K mg "paint_by" st_P_paint_by q_P_paint_by
  k_P_painted : Lk K mg "painted" st_P_painted q_P_painted
  k_P_paint : LkD K mg "paint" st_P_paint q_P_paint [.int 64] [(1, ["bits"], [0, 1])]
  k_P_posts_in : Lk K mg "posts_in" st_P_posts_in q_P_posts_in
  k_P_posts : LkD K mg "posts" st_P_posts q_P_posts [.int 64] [(1, ["bits"], [0, 1])]
  k_P_thinned_in : Lk K mg "thinned_in" st_P_thinned_in q_P_thinned_in
  k_P_thinned : LkD K mg "thinned" st_P_thinned q_P_thinned [.int 64] [(2, ["bits"], [0, 1, 2])]
section
variable {P : Program} {w : World} {K : PySem.W.Frag} {mg : Str → Option Value} {base : Heap} 
variable {X : Cx} {pos : Pos}
theorem be_c_MOST_BITS (Z : Wr X.K X.mg) (hg : Gl X "MOST_BITS" := by rfl) : BE X (.Name "MOST_BITS" pos) (mC (.int 64)) := Z.c_MOST_BITS.elim fun _ h => be_glI _ h hg
theorem be_c_MOST_LEVEL (Z : Wr X.K X.mg) (hg : Gl X "MOST_LEVEL" := by rfl) : BE X (.Name "MOST_LEVEL" pos) (mC (.int 6)) := Z.c_MOST_LEVEL.elim fun _ h => be_glI _ h hg
theorem be_c_FEW (Z : Wr X.K X.mg) (hg : Gl X "FEW" := by rfl) : BE X (.Name "FEW" pos) (mC (.int 6)) := Z.c_FEW.elim fun _ h => be_glI _ h hg
theorem be_c_LAST_PAINTS (Z : Wr X.K X.mg) (hg : Gl X "LAST_PAINTS" := by rfl) : BE X (.Name "LAST_PAINTS" pos) (mC (.nd .tup [.int 5, .int 4, .int 3])) := let ⟨_, _, h1, h2, h3⟩ := Z.c_LAST_PAINTS; be_glT h1 h2 h3 hg
variable (Z : Wr K mg)
include Z
theorem ox_TooFew : OkXI P w K mg base "TooFew" "level" :=
  okXI_of (tm := "too few houses") Z.x_TooFew ⟨rfl, rfl, rfl, by decide +kernel, rfl, by decide +kernel, by decide +kernel⟩ fun fI cdv A outer s H E => pss_cons (ps_expr (pe_reinit Z.re (pa_cons (pv 0) (pa_cons pe_str pa_nil)))) (pss_one (ps_ost (pv 0) (pv 1)))
theorem ok_L_digit : Ok P w K mg base 1 "_law_digit" q_L_digit [true, false] r_L_digit :=
  ok_of (N := N_L_digit) (m := m_L_digit) [true, false] Z.k_L_digit sc_L_digit rfl fun f cdv A outer s H E hr =>
  bs_cons (bs_if (bt_cmp (od_eq hr) (bp_of (be_callB cd_len (by rfl) Z.bl.len B.boot_len (ba_cons (bp_var (i := 0)) (ba_nil)))) (bp_of (be_int))) (bs_cons (bs_set (i := 3) sc_L_digit.nd rfl (by first | exact Or.inl rfl | exact Or.inr rfl) (be_ix (bp_var (i := 0)) (bp_of (be_int))))
  (bs_cons (bs_setIx (i := 0) rfl (by first | exact Or.inl rfl | exact Or.inr (Or.inl rfl) | exact Or.inr (Or.inr rfl)) (be_ix (bp_of (be_lst (ba_cons (bp_of (be_int)) (ba_cons (bp_of (be_var (i := 3))) (ba_nil))))) (bp_of (be_callTy cd_int (by rfl) Z.bl.int B.boot_int (ba_cons (bp_of (be_cmp od_ge (bp_var (i := 3)) (bp_of (be_op od_pow (bp_of (be_int)) (bp_of (be_int)))))) (ba_nil))))) (be_int))
  (bs_one (bs_expr (be_mut (i := 0) PySem.F.plainAttrs_list PySem.F.slot_list_extend PySem.F.type_list_extend mu_extend rfl (by first | exact Or.inl rfl | exact Or.inr (Or.inl rfl) | exact Or.inr (Or.inr rfl)) (ba_cons (bp_of (be_lst (ba_cons (bp_of (be_op od_mod (bp_var (i := 3)) (bp_of (be_int)))) (ba_cons (bp_of (be_int)) (ba_nil))))) (ba_nil))))))) (bs_nil))
  (bs_cons (bs_if (bt_cmp (od_gtX hr) (bp_of (be_ix (bp_var (i := 0)) (bp_of (be_int)))) (bp_of (be_int))) (bs_cons (bs_set (i := 4) sc_L_digit.nd rfl (by first | exact Or.inl rfl | exact Or.inr rfl) (be_op od_mod (bp_of (be_ix (bp_var (i := 0)) (bp_of (be_int)))) (bp_var (i := 1))))
  (bs_cons (bs_setIx (i := 0) rfl (by first | exact Or.inl rfl | exact Or.inr (Or.inl rfl) | exact Or.inr (Or.inr rfl)) (be_op od_fdiv (bp_of (be_ix (bp_var (i := 0)) (bp_of (be_int)))) (bp_var (i := 1))) (be_int))
  (bs_one (bs_retVar (i := 4))))) (bs_nil))
  (bs_cons (bs_setIx (i := 0) rfl (by first | exact Or.inl rfl | exact Or.inr (Or.inl rfl) | exact Or.inr (Or.inr rfl)) (be_op opd_add (bp_of (be_ix (bp_var (i := 0)) (bp_of (be_int)))) (bp_of (be_int))) (be_int))
  (bs_cons (bs_set (i := 2) sc_L_digit.nd rfl (by first | exact Or.inl rfl | exact Or.inr rfl) (be_op od_mod (bp_of (be_op opd_mul (bp_of (be_op opd_add (bp_of (be_op opd_add (bp_of (be_ix (bp_var (i := 0)) (bp_of (be_int)))) (bp_of (be_op opd_mul (bp_of (be_int)) (bp_of (be_ix (bp_var (i := 0)) (bp_of (be_int)))))))) (bp_of (be_int)))) (bp_of (be_int)))) (bp_of (be_int))))
  (bs_cons (bs_set (i := 2) sc_L_digit.nd rfl (by first | exact Or.inl rfl | exact Or.inr rfl) (be_op od_mod (bp_of (be_op opd_mul (bp_var (i := 2)) (bp_of (be_op opd_add (bp_of (be_op od_fdiv (bp_var (i := 2)) (bp_of (be_int)))) (bp_of (be_int)))))) (bp_of (be_int))))
  (bs_one (bs_ret (be_op od_mod (bp_of (be_op od_mod (bp_of (be_op opd_mul (bp_var (i := 2)) (bp_of (be_op opd_add (bp_of (be_op od_fdiv (bp_var (i := 2)) (bp_of (be_int)))) (bp_of (be_int)))))) (bp_of (be_int)))) (bp_var (i := 1)))))))))
theorem ok_L_of : Ok P w K mg base 2 "_law_of" q_L_of [true, false] r_L_of :=
  ok_of (N := N_L_of) (m := m_L_of) [true, false] Z.k_L_of sc_L_of rfl fun f cdv A outer s H E hr =>
  bs_one (bs_ret (be_ix (bp_var (i := 1)) (bp_of (be_c (ok_L_digit Z) hr (by decide) (ba_cons (bp_var (i := 0)) (ba_cons (bp_of (be_callB cd_len (by rfl) Z.bl.len B.boot_len (ba_cons (bp_var (i := 1)) (ba_nil)))) (ba_nil)))))))
theorem ok_L_great : Ok P w K mg base 2 "_law_great" q_L_great [true] r_L_great :=
  ok_of (N := N_L_great) (m := m_L_great) [true] Z.k_L_great sc_L_great rfl fun f cdv A outer s H E hr =>
  bs_cons (bs_set (i := 1) sc_L_great.nd rfl (by first | exact Or.inl rfl | exact Or.inr rfl) (be_int))
  (bs_cons (bs_for (passes_of rfl) rfl (bi_range1 Z.bl.range (ba_cons (bp_of (be_int)) (ba_nil))) (bg_name (i := 2) sc_L_great.nd rfl (by first | exact Or.inl rfl | exact Or.inr rfl)) (bs_one (bs_set (i := 1) sc_L_great.nd rfl (by first | exact Or.inl rfl | exact Or.inr rfl) (be_op opd_add (bp_of (be_op opd_mul (bp_var (i := 1)) (bp_of (be_int)))) (bp_of (be_c (ok_L_digit Z) hr (by decide) (ba_cons (bp_var (i := 0)) (ba_cons (bp_of (be_int)) (ba_nil)))))))))
  (bs_one (bs_retVar (i := 1))))
theorem ok_L_names : Ok P w K mg base 3 "_law_names" q_L_names [true, false, false] r_L_names :=
  ok_of (N := N_L_names) (m := m_L_names) [true, false, false] Z.k_L_names sc_L_names rfl fun f cdv A outer s H E hr =>
  bs_cons (bs_set (i := 3) sc_L_names.nd rfl (by first | exact Or.inl rfl | exact Or.inr rfl) (be_op od_shl (bp_of (be_int)) (bp_var (i := 2))))
  (bs_cons (bs_set (i := 4) sc_L_names.nd rfl (by first | exact Or.inl rfl | exact Or.inr rfl) (be_c (ok_L_digit Z) hr (by decide) (ba_cons (bp_var (i := 0)) (ba_cons (bp_of (be_int)) (ba_nil)))))
  (bs_cons (bs_set (i := 5) sc_L_names.nd rfl (by first | exact Or.inl rfl | exact Or.inr rfl) (be_lst (ba_nil)))
  (bs_cons (bs_set (i := 6) sc_L_names.nd rfl (by first | exact Or.inl rfl | exact Or.inr rfl) (be_op od_mod (bp_of (be_c (ok_L_great Z) hr (by decide) (ba_cons (bp_var (i := 0)) (ba_nil)))) (bp_var (i := 3))))
  (bs_cons (bs_for (passes_of rfl) rfl (bi_range1 Z.bl.range (ba_cons (bp_var (i := 1)) (ba_nil))) (bg_name (i := 7) sc_L_names.nd rfl (by first | exact Or.inl rfl | exact Or.inr rfl)) (bs_cons (bs_if (bt_cmp (od_eq hr) (bp_var (i := 4)) (bp_of (be_int))) (bs_one (bs_set (i := 6) sc_L_names.nd rfl (by first | exact Or.inl rfl | exact Or.inr rfl) (be_op od_mod (bp_of (be_op opd_add (bp_var (i := 6)) (bp_of (be_int)))) (bp_var (i := 3))))) (bs_one (bs_if (bt_cmp (od_eq hr) (bp_var (i := 4)) (bp_of (be_int))) (bs_one (bs_set (i := 6) sc_L_names.nd rfl (by first | exact Or.inl rfl | exact Or.inr rfl) (be_op od_mod (bp_of (be_c (ok_L_great Z) hr (by decide) (ba_cons (bp_var (i := 0)) (ba_nil)))) (bp_var (i := 3))))) (bs_one (bs_if (bt_cmp (od_eq hr) (bp_var (i := 4)) (bp_of (be_int))) (bs_one (bs_set (i := 6) sc_L_names.nd rfl (by first | exact Or.inl rfl | exact Or.inr rfl) (be_op od_mod (bp_of (be_op opd_add (bp_of (be_op opd_add (bp_var (i := 6)) (bp_of (be_int)))) (bp_of (be_c (ok_L_digit Z) hr (by decide) (ba_cons (bp_var (i := 0)) (ba_cons (bp_of (be_int)) (ba_nil))))))) (bp_var (i := 3))))) (bs_one (bs_set (i := 6) sc_L_names.nd rfl (by first | exact Or.inl rfl | exact Or.inr rfl) (be_op od_mod (bp_of (be_op opd_add (bp_of (be_op opd_mul (bp_of (be_int)) (bp_var (i := 6)))) (bp_of (be_c (ok_L_digit Z) hr (by decide) (ba_cons (bp_var (i := 0)) (ba_cons (bp_of (be_int)) (ba_nil))))))) (bp_var (i := 3))))))))))
  (bs_cons (bs_while (passes_of rfl) (bt_cmp (od_in hr) (bp_var (i := 6)) (bp_var (i := 5))) (bs_one (bs_set (i := 6) sc_L_names.nd rfl (by first | exact Or.inl rfl | exact Or.inr rfl) (be_op od_mod (bp_of (be_op opd_add (bp_var (i := 6)) (bp_of (be_int)))) (bp_var (i := 3))))))
  (bs_one (bs_expr (be_mut (i := 5) PySem.F.plainAttrs_list PySem.F.slot_list_append PySem.F.type_list_append mu_append rfl (by first | exact Or.inl rfl | exact Or.inr (Or.inl rfl) | exact Or.inr (Or.inr rfl)) (ba_cons (bp_of (be_var (i := 6))) (ba_nil))))))))
  (bs_one (bs_retVar (i := 5)))))))
theorem ok_L_ring_of : Ok P w K mg base 4 "_law_ring_of" q_L_ring_of [true, false] r_L_ring_of :=
  ok_of (N := N_L_ring_of) (m := m_L_ring_of) [true, false] Z.k_L_ring_of sc_L_ring_of rfl fun f cdv A outer s H E hr =>
  bs_cons (bs_set (i := 2) sc_L_ring_of.nd rfl (by first | exact Or.inl rfl | exact Or.inr rfl) (be_c (ok_L_of Z) hr (by decide) (ba_cons (bp_var (i := 0)) (ba_cons (bp_of (be_lst (ba_cons (bp_of (be_int)) (ba_cons (bp_of (be_int)) (ba_cons (bp_of (be_op opd_add (bp_of (be_int)) (bp_of (be_c (ok_L_digit Z) hr (by decide) (ba_cons (bp_var (i := 0)) (ba_cons (bp_of (be_int)) (ba_nil))))))) (ba_cons (bp_of (be_op opd_add (bp_of (be_int)) (bp_of (be_c (ok_L_digit Z) hr (by decide) (ba_cons (bp_var (i := 0)) (ba_cons (bp_of (be_int)) (ba_nil))))))) (ba_nil))))))) (ba_nil)))))
  (bs_cons (bs_set (i := 3) sc_L_ring_of.nd rfl (by first | exact Or.inl rfl | exact Or.inr rfl) (be_op opd_add (bp_of (be_int)) (bp_of (be_c (ok_L_digit Z) hr (by decide) (ba_cons (bp_var (i := 0)) (ba_cons (bp_of (be_op od_sub (bp_var (i := 1)) (bp_of (be_int)))) (ba_nil)))))))
  (bs_cons (bs_if (bt_cmp (od_ltX hr) (bp_var (i := 2)) (bp_of (be_int))) (bs_one (bs_set (i := 3) sc_L_ring_of.nd rfl (by first | exact Or.inl rfl | exact Or.inr rfl) (be_callB (cd_min2 rfl) (by rfl) Z.bl.min B.boot_min (ba_cons (bp_var (i := 3)) (ba_cons (bp_of (be_op od_shl (bp_of (be_int)) (bp_var (i := 2)))) (ba_nil)))))) (bs_nil))
  (bs_one (bs_ret (be_tup (ba_cons (bp_of (be_var (i := 2))) (ba_cons (bp_of (be_c (ok_L_names Z) hr (by decide) (ba_cons (bp_var (i := 0)) (ba_cons (bp_var (i := 3)) (ba_cons (bp_var (i := 2)) (ba_nil)))))) (ba_nil))))))))
theorem ok_L_cell_at : Ok P w K mg base 1 "_law_cell_at" q_L_cell_at [false, false] r_L_cell_at :=
  ok_of (N := N_L_cell_at) (m := m_L_cell_at) [false, false] Z.k_L_cell_at sc_L_cell_at rfl fun f cdv A outer s H E hr =>
  bs_cons (bs_if (bt_cmp (od_ltX hr) (bp_var (i := 1)) (bp_of (be_callB cd_len (by rfl) Z.bl.len B.boot_len (ba_cons (bp_var (i := 0)) (ba_nil))))) (bs_one (bs_ret (be_ix (bp_var (i := 0)) (bp_var (i := 1))))) (bs_nil))
  (bs_one (bs_ret (be_int)))
theorem ok_L_odd_names : Ok P w K mg base 3 "_law_odd_names" q_L_odd_names [true, false, false] r_L_odd_names :=
  ok_of (N := N_L_odd_names) (m := m_L_odd_names) [true, false, false] Z.k_L_odd_names sc_L_odd_names rfl fun f cdv A outer s H E hr =>
  bs_cons (bs_set (i := 3) sc_L_odd_names.nd rfl (by first | exact Or.inl rfl | exact Or.inr rfl) (be_c (ok_L_digit Z) hr (by decide) (ba_cons (bp_var (i := 0)) (ba_cons (bp_of (be_callB cd_len (by rfl) Z.bl.len B.boot_len (ba_cons (bp_var (i := 1)) (ba_nil)))) (ba_nil)))))
  (bs_cons (bs_set (i := 4) sc_L_odd_names.nd rfl (by first | exact Or.inl rfl | exact Or.inr rfl) (be_c (ok_L_of Z) hr (by decide) (ba_cons (bp_var (i := 0)) (ba_cons (bp_of (be_lst (ba_cons (bp_of (be_ix (bp_var (i := 1)) (bp_of (be_op od_sub (bp_var (i := 3)) (bp_of (be_int)))))) (ba_cons (bp_of (be_un und_neg (bp_of (be_int)))) (ba_cons (bp_of (be_op od_shl (bp_of (be_int)) (bp_var (i := 2)))) (ba_cons (bp_of (be_bl)) (ba_cons (bp_of (be_bl)) (ba_cons (bp_of (be_non)) (ba_cons (bp_of (be_str)) (ba_cons (bp_of (be_lst (ba_cons (bp_of (be_int)) (ba_nil)))) (ba_cons (bp_of (be_tup (ba_cons (bp_of (be_int)) (ba_nil)))) (ba_nil)))))))))))) (ba_nil)))))
  (bs_cons (bs_set (i := 5) sc_L_odd_names.nd rfl (by first | exact Or.inl rfl | exact Or.inr rfl) (be_op opd_mul (bp_of (be_lst (ba_cons (bp_of (be_op opd_add (bp_of (be_op opd_add (bp_of (be_slice (bp_var (i := 1)) (bo_none) (bo_some (be_var (i := 3))))) (bp_of (be_lst (ba_cons (bp_of (be_var (i := 4))) (ba_nil)))))) (bp_of (be_slice (bp_var (i := 1)) (bo_some (be_op opd_add (bp_var (i := 3)) (bp_of (be_int)))) (bo_none))))) (ba_nil)))) (bp_of (be_int))))
  (bs_cons (bs_set (i := 5) sc_L_odd_names.nd rfl (by first | exact Or.inl rfl | exact Or.inr rfl) (be_op opd_add (bp_var (i := 5)) (bp_of (be_lst (ba_cons (bp_of (be_lst (ba_nil))) (ba_cons (bp_of (be_slice (bp_var (i := 1)) (bo_none) (bo_some (be_int)))) (ba_cons (bp_of (be_callTy cd_tuple (by rfl) Z.bl.tuple B.boot_tuple (ba_cons (bp_var (i := 1)) (ba_nil)))) (ba_cons (bp_of (be_non)) (ba_cons (bp_of (be_str)) (ba_cons (bp_of (be_dict0)) (ba_cons (bp_of (be_op opd_add (bp_var (i := 1)) (bp_of (be_slice (bp_var (i := 1)) (bo_none) (bo_some (be_int)))))) (ba_cons (bp_of (be_int)) (ba_nil)))))))))))))
  (bs_one (bs_ret (be_c (ok_L_of Z) hr (by decide) (ba_cons (bp_var (i := 0)) (ba_cons (bp_of (be_var (i := 5))) (ba_nil)))))))))
theorem ok_L_refused : LamFn P w K mg base 7 "_law_refused" "_law_ask" 3 m_L_refused :=
  lam_of (N := N_L_refused) (m := m_L_refused) Z.k_L_refused sc_L_refused rfl (by first | exact Or.inl rfl | exact Or.inr (Or.inl rfl) | exact Or.inr (Or.inr rfl)) fun f cdv A outer s H E z o hr hask =>
  bs_cons (bs_try rfl rfl (fun pn xe pp => bs_one (bs_expr ((hask pn xe _ _)))) (hd_as Z.e_L_refused_RuleError sc_L_refused.nd (fun a oe cls d pn hz hf => bs_cons (bs_set (i := 2) sc_L_refused.nd rfl (by first | exact Or.inl rfl | exact Or.inr rfl) (be_lst (ba_cons (bp_of (be_isX hz hf Z.xo Z.ki_NoBits_L_refused_RuleError Z.bl.isinstance)) (ba_cons (bp_of (be_isX hz hf Z.xo Z.ki_NoNames_L_refused_RuleError Z.bl.isinstance)) (ba_cons (bp_of (be_isX hz hf Z.xo Z.ki_NoLevel_L_refused_RuleError Z.bl.isinstance)) (ba_cons (bp_of (be_isX hz hf Z.xo Z.ki_TooFew_L_refused_RuleError Z.bl.isinstance)) (ba_nil)))))))
  (bs_cons (bs_set (i := 2) sc_L_refused.nd rfl (by first | exact Or.inl rfl | exact Or.inr rfl) (be_op opd_add (bp_var (i := 2)) (bp_of (be_lst (ba_cons (bp_of (be_isX hz hf Z.xo Z.ki_NoKind_L_refused_RuleError Z.bl.isinstance)) (ba_cons (bp_of (be_isX hz hf Z.xo Z.ki_NoView_L_refused_RuleError Z.bl.isinstance)) (ba_nil)))))))
  (bs_cons (bs_if (bt_w (bw_or (bt_cmp (os_ne hr) (bp_of (be_met PySem.F.plainAttrs_list PySem.F.slot_list_count PySem.F.type_list_count (ms_count hr) (bp_var (i := 2)) (ba_cons (bp_of (be_bl)) (ba_nil)))) (bp_of (be_int))) (bw_or1 (bt_not (bt_tru (bp_of (be_isXB hz hf Z.xo Z.kb_ValueError_L_refused_RuleError Z.bl.isinstance))))))) (bs_one (bs_ret (be_str))) (bs_nil))
  (bs_one (bs_ret (be_ix (bp_of (be_lst (ba_cons (bp_of (be_str)) (ba_cons (bp_of (be_str)) (ba_cons (bp_of (be_str)) (ba_cons (bp_of (be_str)) (ba_cons (bp_of (be_str)) (ba_cons (bp_of (be_str)) (ba_nil))))))))) (bp_of (be_met PySem.F.plainAttrs_list PySem.F.slot_list_index PySem.F.type_list_index (ms_index hr) (bp_var (i := 2)) (ba_cons (bp_of (be_bl)) (ba_nil)))))))))) .nil))
  (bs_one (bs_ret (be_str)))
theorem ok_L_due : Ok P w K mg base 1 "_law_due" q_L_due [false, false] r_L_due :=
  ok_of (N := N_L_due) (m := m_L_due) [false, false] Z.k_L_due sc_L_due rfl fun f cdv A outer s H E hr =>
  bs_one (bs_ret (be_ix (bp_of (be_op opd_add (bp_of (be_comp rfl sc_L_due.nd (bi_zip (by rfl) Z.bl.zip (ba_cons (bp_of (be_var (i := 0))) (ba_cons (bp_of (be_var (i := 1))) (ba_nil)))) rfl (blkOk_by (N := N_L_due) (sc := defScope st_L_due) (own := [("_law_word", 2), ("_law_odd", 3)]) (by decide +kernel)) (fun _ _ _ _ _ => bg_tup rfl (bgs_cons (bg_name (i := 2) sc_L_due.nd rfl (by first | exact Or.inl rfl | exact Or.inr rfl)) (bgs_cons (bg_name (i := 3) sc_L_due.nd rfl (by first | exact Or.inl rfl | exact Or.inr rfl)) (bgs_nil)))) (fun _ _ _ _ _ => bts_one (bt_tru (bp_var (i := 3)))) (fun _ _ _ _ _ => be_var (i := 2)))) (bp_of (be_lst (ba_cons (bp_of (be_str)) (ba_nil)))))) (bp_of (be_int))))
theorem ok_P_is_from : Ok P w K mg base 1 "is_from" q_P_is_from [false, false, false] r_P_is_from :=
  ok_of (N := N_P_is_from) (m := m_P_is_from) [false, false, false] Z.k_P_is_from sc_P_is_from rfl fun f cdv A outer s H E hr =>
  bs_one (bs_ret (be_and (be_isi "int" (by rfl) Z.bl.isinstance (by rfl) Z.bl.int B.boot_int (bp_var (i := 0))) (be_and (be_not (be_isi "bool" (by rfl) Z.bl.isinstance (by rfl) Z.bl.bool B.boot_bool (bp_var (i := 0)))) (be_one (be_chain od_le od_le (bp_var (i := 1)) (bp_var (i := 0)) (bp_var (i := 2)))))))
theorem ok_P_sure_bits : Ok P w K mg base 2 "sure_bits" q_P_sure_bits [false] r_P_sure_bits :=
  ok_of (N := N_P_sure_bits) (m := m_P_sure_bits) [false] Z.k_P_sure_bits sc_P_sure_bits rfl fun f cdv A outer s H E hr =>
  bs_one (bs_if (bt_not (bt_tru (bp_of (be_c (ok_P_is_from Z) hr (by decide) (ba_cons (bp_var (i := 0)) (ba_cons (bp_of (be_int)) (ba_cons (bp_of ((be_c_MOST_BITS Z))) (ba_nil)))))))) (bs_one (bs_raise0 Z.x_NoBits rfl)) (bs_nil))
theorem ok_P_are_unlike : Ok P w K mg base 2 "are_unlike" q_P_are_unlike [false, false] r_P_are_unlike :=
  ok_of (N := N_P_are_unlike) (m := m_P_are_unlike) [false, false] Z.k_P_are_unlike sc_P_are_unlike rfl fun f cdv A outer s H E hr =>
  bs_cons (bs_if (bt_w (bw_or (bt_not (bt_tru (bp_of (be_isi "list" (by rfl) Z.bl.isinstance (by rfl) Z.bl.list B.boot_list (bp_var (i := 0)))))) (bw_or1 (bt_not (bt_tru (bp_of (be_callB (cd_all rfl) (by rfl) Z.bl.all B.boot_all (ba_cons (bp_of (be_comp rfl sc_P_are_unlike.nd (bi_seq (be_var (i := 0))) rfl (blkOk_by (N := N_P_are_unlike) (sc := defScope st_P_are_unlike) (own := [("name", 2)]) (by decide +kernel)) (fun _ _ _ _ _ => bg_name (i := 2) sc_P_are_unlike.nd rfl (by first | exact Or.inl rfl | exact Or.inr rfl)) (fun _ _ _ _ _ => bts_nil) (fun _ _ _ _ _ => be_c (ok_P_is_from Z) hr (by decide) (ba_cons (bp_var (i := 2)) (ba_cons (bp_of (be_int)) (ba_cons (bp_of (be_op od_sub (bp_of (be_op od_shl (bp_of (be_int)) (bp_var (i := 1)))) (bp_of (be_int)))) (ba_nil))))))) (ba_nil))))))))) (bs_one (bs_ret (be_bl))) (bs_nil))
  (bs_one (bs_ret (be_cmp (od_eq hr) (bp_of (be_lenSetD (by rfl) Z.bl.len (by rfl) Z.bl.set rfl (bp_var (i := 0)))) (bp_of (be_callB cd_len (by rfl) Z.bl.len B.boot_len (ba_cons (bp_var (i := 0)) (ba_nil)))))))
theorem ok_P_sure_names : Ok P w K mg base 3 "sure_names" q_P_sure_names [false, false] r_P_sure_names :=
  ok_of (N := N_P_sure_names) (m := m_P_sure_names) [false, false] Z.k_P_sure_names sc_P_sure_names rfl fun f cdv A outer s H E hr =>
  bs_one (bs_if (bt_w (bw_or (bt_not (bt_tru (bp_of (be_c (ok_P_are_unlike Z) hr (by decide) (ba_cons (bp_var (i := 0)) (ba_cons (bp_var (i := 1)) (ba_nil))))))) (bw_or1 (bt_cmp (od_ltX hr) (bp_of (be_callB cd_len (by rfl) Z.bl.len B.boot_len (ba_cons (bp_var (i := 0)) (ba_nil)))) (bp_of (be_int)))))) (bs_one (bs_raise0 Z.x_NoNames rfl)) (bs_nil))
theorem ok_P_figures_of : Ok P w K mg base 1 "figures_of" q_P_figures_of [false] r_P_figures_of :=
  ok_of (N := N_P_figures_of) (m := m_P_figures_of) [false] Z.k_P_figures_of sc_P_figures_of rfl fun f cdv A outer s H E hr =>
  bs_cons (bs_set (i := 1) sc_P_figures_of.nd rfl (by first | exact Or.inl rfl | exact Or.inr rfl) (be_int))
  (bs_cons (bs_while (passes_of rfl) (bt_cmp (od_gtX hr) (bp_var (i := 0)) (bp_of (be_int))) (bs_cons (bs_set (i := 0) sc_P_figures_of.nd rfl (by first | exact Or.inl rfl | exact Or.inr rfl) (be_op od_fdiv (bp_var (i := 0)) (bp_of (be_int))))
  (bs_one (bs_aug (i := 1) ip_add sc_P_figures_of.nd rfl (by first | exact Or.inl rfl | exact Or.inr rfl) (be_int)))))
  (bs_one (bs_retVar (i := 1))))
theorem ok_P_rounds : Ok P w K mg base 3 "rounds" q_P_rounds [false] r_P_rounds :=
  ok_of (N := N_P_rounds) (m := m_P_rounds) [false] Z.k_P_rounds sc_P_rounds rfl fun f cdv A outer s H E hr =>
  bs_cons (bs_expr (be_c (ok_P_sure_bits Z) hr (by decide) (ba_cons (bp_var (i := 0)) (ba_nil))))
  (bs_cons (bs_set (i := 1) sc_P_rounds.nd rfl (by first | exact Or.inl rfl | exact Or.inr rfl) (be_op od_shl (bp_of (be_int)) (bp_var (i := 0))))
  (bs_cons (bs_set (i := 2) sc_P_rounds.nd rfl (by first | exact Or.inl rfl | exact Or.inr rfl) (be_int))
  (bs_cons (bs_while (passes_of rfl) (bt_cmp (od_gtX hr) (bp_var (i := 1)) (bp_of ((be_c_FEW Z)))) (bs_cons (bs_set (i := 1) sc_P_rounds.nd rfl (by first | exact Or.inl rfl | exact Or.inr rfl) (be_op opd_mul (bp_of (be_int)) (bp_of (be_c (ok_P_figures_of Z) hr (by decide) (ba_cons (bp_of (be_op od_sub (bp_var (i := 1)) (bp_of (be_int)))) (ba_nil))))))
  (bs_one (bs_aug (i := 2) ip_add sc_P_rounds.nd rfl (by first | exact Or.inl rfl | exact Or.inr rfl) (be_int)))))
  (bs_one (bs_retVar (i := 2))))))
theorem ok_P_paint_by : Ok P w K mg base 1 "paint_by" q_P_paint_by [false, false] r_P_paint_by :=
  ok_of (N := N_P_paint_by) (m := m_P_paint_by) [false, false] Z.k_P_paint_by sc_P_paint_by rfl fun f cdv A outer s H E hr =>
  bs_cons (bs_set (i := 2) sc_P_paint_by.nd rfl (by first | exact Or.inl rfl | exact Or.inr rfl) (be_int))
  (bs_cons (bs_while (passes_of rfl) (bt_cmp (od_eq hr) (bp_of (be_op od_mod (bp_var (i := 0)) (bp_of (be_int)))) (bp_of (be_op od_mod (bp_var (i := 1)) (bp_of (be_int))))) (bs_cons (bs_set (i := 0) sc_P_paint_by.nd rfl (by first | exact Or.inl rfl | exact Or.inr rfl) (be_op od_fdiv (bp_var (i := 0)) (bp_of (be_int))))
  (bs_cons (bs_set (i := 1) sc_P_paint_by.nd rfl (by first | exact Or.inl rfl | exact Or.inr rfl) (be_op od_fdiv (bp_var (i := 1)) (bp_of (be_int))))
  (bs_one (bs_aug (i := 2) ip_add sc_P_paint_by.nd rfl (by first | exact Or.inl rfl | exact Or.inr rfl) (be_int))))))
  (bs_one (bs_ret (be_op opd_add (bp_of (be_op opd_mul (bp_of (be_int)) (bp_var (i := 2)))) (bp_of (be_op od_mod (bp_var (i := 0)) (bp_of (be_int))))))))
theorem ok_P_painted : Ok P w K mg base 4 "painted" q_P_painted [false, false] r_P_painted :=
  ok_of (N := N_P_painted) (m := m_P_painted) [false, false] Z.k_P_painted sc_P_painted rfl fun f cdv A outer s H E hr =>
  bs_cons (bs_set (i := 2) sc_P_painted.nd rfl (by first | exact Or.inl rfl | exact Or.inr rfl) (be_callB cd_len (by rfl) Z.bl.len B.boot_len (ba_cons (bp_var (i := 0)) (ba_nil))))
  (bs_cons (bs_set (i := 3) sc_P_painted.nd rfl (by first | exact Or.inl rfl | exact Or.inr rfl) (be_callTy cd_list (by rfl) Z.bl.list B.boot_list (ba_cons (bp_var (i := 0)) (ba_nil))))
  (bs_cons (bs_for (passes_of rfl) rfl (bi_range1 Z.bl.range (ba_cons (bp_of (be_c (ok_P_rounds Z) hr (by decide) (ba_cons (bp_var (i := 1)) (ba_nil)))) (ba_nil))) (bg_name (i := 4) sc_P_painted.nd rfl (by first | exact Or.inl rfl | exact Or.inr rfl)) (bs_one (bs_set (i := 3) sc_P_painted.nd rfl (by first | exact Or.inl rfl | exact Or.inr rfl) (be_comp rfl sc_P_painted.nd (bi_range1 Z.bl.range (ba_cons (bp_var (i := 2)) (ba_nil))) rfl (blkOk_by (N := N_P_painted) (sc := defScope st_P_painted) (own := [("k", 7)]) (by decide +kernel)) (fun _ _ _ _ _ => bg_name (i := 7) sc_P_painted.nd rfl (by first | exact Or.inl rfl | exact Or.inr rfl)) (fun _ _ _ _ _ => bts_nil) (fun _ _ _ _ _ => be_c (ok_P_paint_by Z) hr (by decide) (ba_cons (bp_of (be_ix (bp_var (i := 3)) (bp_var (i := 7)))) (ba_cons (bp_of (be_ix (bp_var (i := 3)) (bp_of (be_op od_mod (bp_of (be_op opd_add (bp_var (i := 7)) (bp_of (be_int)))) (bp_var (i := 2)))))) (ba_nil))))))))
  (bs_cons (bs_for (passes_of rfl) rfl (bi_seq ((be_c_LAST_PAINTS Z))) (bg_name (i := 5) sc_P_painted.nd rfl (by first | exact Or.inl rfl | exact Or.inr rfl)) (bs_cons (bs_set (i := 6) sc_P_painted.nd rfl (by first | exact Or.inl rfl | exact Or.inr rfl) (be_callTy cd_list (by rfl) Z.bl.list B.boot_list (ba_cons (bp_var (i := 3)) (ba_nil))))
  (bs_cons (bs_for (passes_of rfl) rfl (bi_range1 Z.bl.range (ba_cons (bp_var (i := 2)) (ba_nil))) (bg_name (i := 7) sc_P_painted.nd rfl (by first | exact Or.inl rfl | exact Or.inr rfl)) (bs_one (bs_if (bt_cmp (od_eq hr) (bp_of (be_ix (bp_var (i := 3)) (bp_var (i := 7)))) (bp_var (i := 5))) (bs_cons (bs_set (i := 8) sc_P_painted.nd rfl (by first | exact Or.inl rfl | exact Or.inr rfl) (be_tup (ba_cons (bp_of (be_ix (bp_var (i := 3)) (bp_of (be_op od_sub (bp_var (i := 7)) (bp_of (be_int)))))) (ba_cons (bp_of (be_ix (bp_var (i := 3)) (bp_of (be_op od_mod (bp_of (be_op opd_add (bp_var (i := 7)) (bp_of (be_int)))) (bp_var (i := 2)))))) (ba_nil)))))
  (bs_one (bs_setIx (i := 6) rfl (by first | exact Or.inl rfl | exact Or.inr (Or.inl rfl) | exact Or.inr (Or.inr rfl)) (be_ix (bp_of (be_comp rfl sc_P_painted.nd (bi_seq (be_tup (ba_cons (bp_of (be_int)) (ba_cons (bp_of (be_int)) (ba_cons (bp_of (be_int)) (ba_nil)))))) rfl (blkOk_by (N := N_P_painted) (sc := defScope st_P_painted) (own := [("one", 9)]) (by decide +kernel)) (fun _ _ _ _ _ => bg_name (i := 9) sc_P_painted.nd rfl (by first | exact Or.inl rfl | exact Or.inr rfl)) (fun _ _ _ _ _ => bts_one (bt_cmp (od_notIn hr) (bp_var (i := 9)) (bp_var (i := 8)))) (fun _ _ _ _ _ => be_var (i := 9)))) (bp_of (be_int))) (be_var (i := 7))))) (bs_nil))))
  (bs_one (bs_set (i := 3) sc_P_painted.nd rfl (by first | exact Or.inl rfl | exact Or.inr rfl) (be_mv (i := 6)))))))
  (bs_one (bs_retVar (i := 3))))))
theorem ok_P_paint : OkD P w K mg base 5 "paint" q_P_paint [false, false] r_P_paint [.int 64] [(1, ["bits"], [0, 1])] :=
  okD_of (N := N_P_paint) (m := m_P_paint) [false, false] Z.k_P_paint sc_P_paint rfl fun f cdv A outer s H E hr =>
  bs_cons (bs_expr (be_c (ok_P_sure_bits Z) hr (by decide) (ba_cons (bp_var (i := 1)) (ba_nil))))
  (bs_cons (bs_expr (be_c (ok_P_sure_names Z) hr (by decide) (ba_cons (bp_var (i := 0)) (ba_cons (bp_var (i := 1)) (ba_nil)))))
  (bs_one (bs_ret (be_c (ok_P_painted Z) hr (by decide) (ba_cons (bp_var (i := 0)) (ba_cons (bp_var (i := 1)) (ba_nil)))))))
theorem ok_P_posts_in : Ok P w K mg base 5 "posts_in" q_P_posts_in [false, false] r_P_posts_in :=
  ok_of (N := N_P_posts_in) (m := m_P_posts_in) [false, false] Z.k_P_posts_in sc_P_posts_in rfl fun f cdv A outer s H E hr =>
  bs_cons (bs_set (i := 2) sc_P_posts_in.nd rfl (by first | exact Or.inl rfl | exact Or.inr rfl) (be_callB cd_len (by rfl) Z.bl.len B.boot_len (ba_cons (bp_var (i := 0)) (ba_nil))))
  (bs_cons (bs_set (i := 3) sc_P_posts_in.nd rfl (by first | exact Or.inl rfl | exact Or.inr rfl) (be_c (ok_P_painted Z) hr (by decide) (ba_cons (bp_var (i := 0)) (ba_cons (bp_var (i := 1)) (ba_nil)))))
  (bs_cons (bs_set (i := 4) sc_P_posts_in.nd rfl (by first | exact Or.inl rfl | exact Or.inr rfl) (be_comp rfl sc_P_posts_in.nd (bi_seq (be_var (i := 0))) rfl (blkOk_by (N := N_P_posts_in) (sc := defScope st_P_posts_in) (own := [("name", 7)]) (by decide +kernel)) (fun _ _ _ _ _ => bg_name (i := 7) sc_P_posts_in.nd rfl (by first | exact Or.inl rfl | exact Or.inr rfl)) (fun _ _ _ _ _ => bts_nil) (fun _ _ _ _ _ => be_bl)))
  (bs_cons (bs_for (passes_of rfl) rfl (bi_seq (be_tup (ba_cons (bp_of (be_int)) (ba_cons (bp_of (be_int)) (ba_cons (bp_of (be_int)) (ba_nil)))))) (bg_name (i := 5) sc_P_posts_in.nd rfl (by first | exact Or.inl rfl | exact Or.inr rfl)) (bs_one (bs_for (passes_of rfl) rfl (bi_range1 Z.bl.range (ba_cons (bp_var (i := 2)) (ba_nil))) (bg_name (i := 6) sc_P_posts_in.nd rfl (by first | exact Or.inl rfl | exact Or.inr rfl)) (bs_one (bs_if (bt_w (bw_and (bt_cmp (od_eq hr) (bp_of (be_ix (bp_var (i := 3)) (bp_var (i := 6)))) (bp_var (i := 5))) (bw_and (bt_not (bt_tru (bp_of (be_ix (bp_var (i := 4)) (bp_of (be_op od_sub (bp_var (i := 6)) (bp_of (be_int)))))))) (bw_and1 (bt_not (bt_tru (bp_of (be_ix (bp_var (i := 4)) (bp_of (be_op od_mod (bp_of (be_op opd_add (bp_var (i := 6)) (bp_of (be_int)))) (bp_var (i := 2)))))))))))) (bs_one (bs_setIx (i := 4) rfl (by first | exact Or.inl rfl | exact Or.inr (Or.inl rfl) | exact Or.inr (Or.inr rfl)) (be_bl) (be_var (i := 6)))) (bs_nil))))))
  (bs_one (bs_ret (be_comp rfl sc_P_posts_in.nd (bi_range1 Z.bl.range (ba_cons (bp_var (i := 2)) (ba_nil))) rfl (blkOk_by (N := N_P_posts_in) (sc := defScope st_P_posts_in) (own := [("k", 6)]) (by decide +kernel)) (fun _ _ _ _ _ => bg_name (i := 6) sc_P_posts_in.nd rfl (by first | exact Or.inl rfl | exact Or.inr rfl)) (fun _ _ _ _ _ => bts_one (bt_tru (bp_of (be_ix (bp_var (i := 4)) (bp_var (i := 6)))))) (fun _ _ _ _ _ => be_var (i := 6))))))))
theorem ok_P_posts : OkD P w K mg base 6 "posts" q_P_posts [false, false] r_P_posts [.int 64] [(1, ["bits"], [0, 1])] :=
  okD_of (N := N_P_posts) (m := m_P_posts) [false, false] Z.k_P_posts sc_P_posts rfl fun f cdv A outer s H E hr =>
  bs_cons (bs_expr (be_c (ok_P_sure_bits Z) hr (by decide) (ba_cons (bp_var (i := 1)) (ba_nil))))
  (bs_cons (bs_expr (be_c (ok_P_sure_names Z) hr (by decide) (ba_cons (bp_var (i := 0)) (ba_cons (bp_var (i := 1)) (ba_nil)))))
  (bs_one (bs_ret (be_c (ok_P_posts_in Z) hr (by decide) (ba_cons (bp_var (i := 0)) (ba_cons (bp_var (i := 1)) (ba_nil)))))))
theorem ok_P_thinned_in : Ok P w K mg base 6 "thinned_in" q_P_thinned_in [false, false, false] r_P_thinned_in :=
  ok_of (N := N_P_thinned_in) (m := m_P_thinned_in) [false, false, false] Z.k_P_thinned_in sc_P_thinned_in rfl fun f cdv A outer s H E hr =>
  bs_cons (bs_set (i := 3) sc_P_thinned_in.nd rfl (by first | exact Or.inl rfl | exact Or.inr rfl) (be_listRng Z.bl.list Z.bl.range rfl (bp_of (be_callB cd_len (by rfl) Z.bl.len B.boot_len (ba_cons (bp_var (i := 0)) (ba_nil))))))
  (bs_cons (bs_for (passes_of rfl) rfl (bi_range1 Z.bl.range (ba_cons (bp_var (i := 1)) (ba_nil))) (bg_name (i := 4) sc_P_thinned_in.nd rfl (by first | exact Or.inl rfl | exact Or.inr rfl)) (bs_cons (bs_if (bt_cmp (od_ltX hr) (bp_of (be_callB cd_len (by rfl) Z.bl.len B.boot_len (ba_cons (bp_var (i := 3)) (ba_nil)))) (bp_of (be_int))) (bs_one (bs_raiseI (k := 0) (ox_TooFew Z) (hr.mono (by decide)) rfl (bp_of (be_var (i := 4))))) (bs_nil))
  (bs_cons (bs_setComp (i := 5) rfl sc_P_thinned_in.nd rfl rfl (sw_true rfl rfl rfl (by decide +kernel)) (bi_seq (be_var (i := 3))) rfl (blkOk_by (N := N_P_thinned_in) (sc := defScope st_P_thinned_in) (own := [("place", 6)]) (by decide +kernel)) (fun _ _ _ _ _ => bg_name (i := 6) sc_P_thinned_in.nd rfl (by first | exact Or.inl rfl | exact Or.inr rfl)) (fun _ _ _ _ _ => bts_nil) (fun _ _ _ _ _ => be_ix (bp_var (i := 0)) (bp_var (i := 6))))
  (bs_one (bs_set (i := 3) sc_P_thinned_in.nd rfl (by first | exact Or.inl rfl | exact Or.inr rfl) (be_comp rfl sc_P_thinned_in.nd (bi_seq (be_c (ok_P_posts_in Z) hr (by decide) (ba_cons (bp_var (i := 5)) (ba_cons (bp_var (i := 2)) (ba_nil))))) rfl (blkOk_by (N := N_P_thinned_in) (sc := defScope st_P_thinned_in) (own := [("k", 7)]) (by decide +kernel)) (fun _ _ _ _ _ => bg_name (i := 7) sc_P_thinned_in.nd rfl (by first | exact Or.inl rfl | exact Or.inr rfl)) (fun _ _ _ _ _ => bts_nil) (fun _ _ _ _ _ => be_ix (bp_var (i := 3)) (bp_var (i := 7)))))))))
  (bs_one (bs_retVar (i := 3))))
theorem ok_P_thinned : OkD P w K mg base 7 "thinned" q_P_thinned [false, false, false] r_P_thinned [.int 64] [(2, ["bits"], [0, 1, 2])] :=
  okD_of (N := N_P_thinned) (m := m_P_thinned) [false, false, false] Z.k_P_thinned sc_P_thinned rfl fun f cdv A outer s H E hr =>
  bs_cons (bs_expr (be_c (ok_P_sure_bits Z) hr (by decide) (ba_cons (bp_var (i := 2)) (ba_nil))))
  (bs_cons (bs_expr (be_c (ok_P_sure_names Z) hr (by decide) (ba_cons (bp_var (i := 0)) (ba_cons (bp_var (i := 2)) (ba_nil)))))
  (bs_cons (bs_if (bt_not (bt_tru (bp_of (be_c (ok_P_is_from Z) hr (by decide) (ba_cons (bp_var (i := 1)) (ba_cons (bp_of (be_int)) (ba_cons (bp_of ((be_c_MOST_LEVEL Z))) (ba_nil)))))))) (bs_one (bs_raise0 Z.x_NoLevel rfl)) (bs_nil))
  (bs_one (bs_ret (be_c (ok_P_thinned_in Z) hr (by decide) (ba_cons (bp_var (i := 0)) (ba_cons (bp_var (i := 1)) (ba_cons (bp_var (i := 2)) (ba_nil)))))))))
theorem ok_L_law {f c Pt : Addr} {fd : FuncData} (TB : LamX.TabB base mg c Pt) (F : FunC K "law" st_L_law f c fd) : FnG P w K mg base 10 f fd q_L_law (spBT K mg [(Pt, (PyProof.Rows.envOfC "law" (defScope st_L_law) 0 0 .none).qual ++ "<lambda>")] [false] r_L_law) :=
  fnBT (N := N_L_law) (gi := 11) (m := m_L_law) [(Pt, (PyProof.Rows.envOfC "law" (defScope st_L_law) 0 0 .none).qual ++ "<lambda>")] [false] F sc_L_law rfl (by decide) (by decide) fun A outer s H E hr =>
  bs_cons (bs_for (passes_of rfl) rfl (bi_seq (be_op opd_add (bp_of (be_lst (ba_cons (bp_of (be_c (ok_L_cell_at Z) hr (by decide) (ba_cons (bp_var (i := 0)) (ba_cons (bp_of (be_int)) (ba_nil))))) (ba_nil)))) (bp_of (be_slice (bp_var (i := 0)) (bo_some (be_int)) (bo_some (be_int)))))) (bg_name (i := 1) sc_L_law.nd rfl (by first | exact Or.inl rfl | exact Or.inr rfl)) (bs_cons (bs_set (i := 2) sc_L_law.nd rfl (by first | exact Or.inl rfl | exact Or.inr rfl) (be_lst (ba_cons (bp_of (be_var (i := 1))) (ba_nil))))
  (bs_cons (bs_setComp (i := 3) rfl sc_L_law.nd rfl rfl (sw_true rfl rfl rfl (by decide +kernel)) (bi_range1 Z.bl.range (ba_cons (bp_of (be_int)) (ba_nil))) rfl (blkOk_by (N := N_L_law) (sc := defScope st_L_law) (own := [("_law_turn", 7)]) (by decide +kernel)) (fun _ _ _ _ _ => bg_name (i := 7) sc_L_law.nd rfl (by first | exact Or.inl rfl | exact Or.inr rfl)) (fun _ _ _ _ _ => bts_nil) (fun _ _ _ _ _ => be_cmp (od_eq hr) (bp_of (be_c (ok_L_digit Z) hr (by decide) (ba_cons (bp_var (i := 2)) (ba_cons (bp_of (be_int)) (ba_nil))))) (bp_of (be_int))))
  (bs_cons (bs_asg (be_c (ok_L_ring_of Z) hr (by decide) (ba_cons (bp_var (i := 2)) (ba_cons (bp_of (be_int)) (ba_nil)))) (bg_tup rfl (bgs_cons (bg_name (i := 9) sc_L_law.nd rfl (by first | exact Or.inl rfl | exact Or.inr rfl)) (bgs_cons (bg_name (i := 10) sc_L_law.nd rfl (by first | exact Or.inl rfl | exact Or.inr rfl)) (bgs_nil)))))
  (bs_cons (bs_set (i := 4) sc_L_law.nd rfl (by first | exact Or.inl rfl | exact Or.inr rfl) (be_c (ok_L_digit Z) hr (by decide) (ba_cons (bp_var (i := 2)) (ba_cons (bp_of (be_int)) (ba_nil)))))
  (bs_cons (bs_if (bt_tru (bp_of (be_ix (bp_var (i := 3)) (bp_of (be_int))))) (bs_one (bs_set (i := 10) sc_L_law.nd rfl (by first | exact Or.inl rfl | exact Or.inr rfl) (be_c (ok_L_odd_names Z) hr (by decide) (ba_cons (bp_var (i := 2)) (ba_cons (bp_var (i := 10)) (ba_cons (bp_var (i := 9)) (ba_nil))))))) (bs_nil))
  (bs_cons (bs_if (bt_tru (bp_of (be_ix (bp_var (i := 3)) (bp_of (be_int))))) (bs_one (bs_set (i := 9) sc_L_law.nd rfl (by first | exact Or.inl rfl | exact Or.inr rfl) (be_c (ok_L_of Z) hr (by decide) (ba_cons (bp_var (i := 2)) (ba_cons (bp_of (be_lst (ba_cons (bp_of (be_int)) (ba_cons (bp_of (be_int)) (ba_cons (bp_of (be_un und_neg (bp_of (be_int)))) (ba_cons (bp_of (be_bl)) (ba_cons (bp_of (be_bl)) (ba_cons (bp_of (be_non)) (ba_cons (bp_of (be_str)) (ba_cons (bp_of (be_lst (ba_cons (bp_of (be_int)) (ba_nil)))) (ba_cons (bp_of (be_op od_pow (bp_of (be_int)) (bp_of (be_int)))) (ba_nil)))))))))))) (ba_nil)))))) (bs_nil))
  (bs_cons (bs_if (bt_tru (bp_of (be_ix (bp_var (i := 3)) (bp_of (be_int))))) (bs_one (bs_set (i := 4) sc_L_law.nd rfl (by first | exact Or.inl rfl | exact Or.inr rfl) (be_c (ok_L_of Z) hr (by decide) (ba_cons (bp_var (i := 2)) (ba_cons (bp_of (be_lst (ba_cons (bp_of (be_un und_neg (bp_of (be_int)))) (ba_cons (bp_of (be_int)) (ba_cons (bp_of (be_bl)) (ba_cons (bp_of (be_bl)) (ba_cons (bp_of (be_non)) (ba_cons (bp_of (be_str)) (ba_cons (bp_of (be_lst (ba_cons (bp_of (be_int)) (ba_nil)))) (ba_cons (bp_of (be_op od_pow (bp_of (be_int)) (bp_of (be_int)))) (ba_nil))))))))))) (ba_nil)))))) (bs_nil))
  (bs_cons (bs_set (i := 5) sc_L_law.nd rfl (by first | exact Or.inl rfl | exact Or.inr rfl) (be_repr3 hr.g hr.u64 (by rfl) Z.bl.repr (bp_of (be_tup (ba_cons (bp_of (be_var (i := 9))) (ba_cons (bp_of (be_var (i := 10))) (ba_cons (bp_of (be_var (i := 4))) (ba_nil))))))))
  (bs_cons (bs_set (i := 6) sc_L_law.nd rfl (by first | exact Or.inl rfl | exact Or.inr rfl) (be_lst (ba_cons (bp_of (be_str)) (ba_cons (bp_of (be_str)) (ba_cons (bp_of (be_str)) (ba_nil))))))
  (bs_cons (bs_for (passes_of rfl) rfl (bi_range1 Z.bl.range (ba_cons (bp_of (be_int)) (ba_nil))) (bg_name (i := 7) sc_L_law.nd rfl (by first | exact Or.inl rfl | exact Or.inr rfl)) (bs_cons (bs_if (bt_cmp (od_ne hr) (bp_of (be_lam (gi := 11) (ok_L_refused Z) hr (by decide) TB rfl (LamX.lamS_by (sc := defScope st_L_law) (by decide +kernel)) rfl (fun _ _ _ _ _ => rfl) (fun A outer s H E f c' hr => be_c (ok_P_rounds Z) hr (by decide) (ba_cons (bp_var (i := 9)) (ba_nil))) (.head _))) (bp_of (be_c (ok_L_due Z) hr (by decide) (ba_cons (bp_var (i := 6)) (ba_cons (bp_of (be_slice (bp_var (i := 3)) (bo_none) (bo_some (be_int)))) (ba_nil)))))) (bs_one (bs_ret (be_bl))) (bs_nil))
  (bs_cons (bs_if (bt_cmp (od_ne hr) (bp_of (be_lam (gi := 11) (ok_L_refused Z) hr (by decide) TB rfl (LamX.lamS_by (sc := defScope st_L_law) (by decide +kernel)) rfl (fun _ _ _ _ _ => rfl) (fun A outer s H E f c' hr => be_k (ok_P_paint Z) hr (by decide) (.head _) (ba_cons (bp_var (i := 10)) (ba_nil)) (bk_cons (bp_var (i := 9)) (bk_nil))) (.head _))) (bp_of (be_c (ok_L_due Z) hr (by decide) (ba_cons (bp_var (i := 6)) (ba_cons (bp_of (be_slice (bp_var (i := 3)) (bo_none) (bo_some (be_int)))) (ba_nil)))))) (bs_one (bs_ret (be_bl))) (bs_nil))
  (bs_cons (bs_if (bt_cmp (od_ne hr) (bp_of (be_lam (gi := 11) (ok_L_refused Z) hr (by decide) TB rfl (LamX.lamS_by (sc := defScope st_L_law) (by decide +kernel)) rfl (fun _ _ _ _ _ => rfl) (fun A outer s H E f c' hr => be_k (ok_P_posts Z) hr (by decide) (.head _) (ba_cons (bp_var (i := 10)) (ba_nil)) (bk_cons (bp_var (i := 9)) (bk_nil))) (.head _))) (bp_of (be_c (ok_L_due Z) hr (by decide) (ba_cons (bp_var (i := 6)) (ba_cons (bp_of (be_slice (bp_var (i := 3)) (bo_none) (bo_some (be_int)))) (ba_nil)))))) (bs_one (bs_ret (be_bl))) (bs_nil))
  (bs_one (bs_if (bt_cmp (od_ne hr) (bp_of (be_lam (gi := 11) (ok_L_refused Z) hr (by decide) TB rfl (LamX.lamS_by (sc := defScope st_L_law) (by decide +kernel)) rfl (fun _ _ _ _ _ => rfl) (fun A outer s H E f c' hr => be_k (ok_P_thinned Z) hr (by decide) (.head _) (ba_cons (bp_var (i := 10)) (ba_cons (bp_var (i := 4)) (ba_nil))) (bk_cons (bp_var (i := 9)) (bk_nil))) (.head _))) (bp_of (be_c (ok_L_due Z) hr (by decide) (ba_cons (bp_var (i := 6)) (ba_cons (bp_var (i := 3)) (ba_nil)))))) (bs_one (bs_ret (be_bl))) (bs_nil)))))))
  (bs_cons (bs_if (bt_cmp (od_ne hr) (bp_of (be_repr3 hr.g hr.u64 (by rfl) Z.bl.repr (bp_of (be_tup (ba_cons (bp_of (be_var (i := 9))) (ba_cons (bp_of (be_var (i := 10))) (ba_cons (bp_of (be_var (i := 4))) (ba_nil)))))))) (bp_var (i := 5))) (bs_one (bs_ret (be_bl))) (bs_nil))
  (bs_cons (bs_set (i := 8) sc_L_law.nd rfl (by first | exact Or.inl rfl | exact Or.inr rfl) (be_c (ok_L_names Z) hr (by decide) (ba_cons (bp_var (i := 2)) (ba_cons (bp_of (be_op opd_add (bp_of (be_int)) (bp_of (be_c (ok_L_digit Z) hr (by decide) (ba_cons (bp_var (i := 2)) (ba_cons (bp_of (be_int)) (ba_nil))))))) (ba_cons (bp_of (be_int)) (ba_nil))))))
  (bs_cons (bs_setIx (i := 8) rfl (by first | exact Or.inl rfl | exact Or.inr (Or.inl rfl) | exact Or.inr (Or.inr rfl)) (be_op od_shl (bp_of (be_int)) (bp_of (be_int))) (be_c (ok_L_digit Z) hr (by decide) (ba_cons (bp_var (i := 2)) (ba_cons (bp_of (be_callB cd_len (by rfl) Z.bl.len B.boot_len (ba_cons (bp_var (i := 8)) (ba_nil)))) (ba_nil)))))
  (bs_cons (bs_if (bt_cmp (od_ne hr) (bp_of (be_lam (gi := 11) (ok_L_refused Z) hr (by decide) TB rfl (LamX.lamS_by (sc := defScope st_L_law) (by decide +kernel)) rfl (fun _ _ _ _ _ => rfl) (fun A outer s H E f c' hr => be_d (ok_P_paint Z) hr (by decide) (ba_cons (bp_var (i := 8)) (ba_nil))) (.head _))) (bp_of (be_str))) (bs_one (bs_ret (be_bl))) (bs_nil))
  (bs_cons (bs_if (bt_cmp (od_ne hr) (bp_of (be_lam (gi := 11) (ok_L_refused Z) hr (by decide) TB rfl (LamX.lamS_by (sc := defScope st_L_law) (by decide +kernel)) rfl (fun _ _ _ _ _ => rfl) (fun A outer s H E f c' hr => be_d (ok_P_posts Z) hr (by decide) (ba_cons (bp_var (i := 8)) (ba_nil))) (.head _))) (bp_of (be_str))) (bs_one (bs_ret (be_bl))) (bs_nil))
  (bs_one (bs_if (bt_cmp (od_ne hr) (bp_of (be_lam (gi := 11) (ok_L_refused Z) hr (by decide) TB rfl (LamX.lamS_by (sc := defScope st_L_law) (by decide +kernel)) rfl (fun _ _ _ _ _ => rfl) (fun A outer s H E f c' hr => be_d (ok_P_thinned Z) hr (by decide) (ba_cons (bp_var (i := 8)) (ba_cons (bp_of (be_int)) (ba_nil)))) (.head _))) (bp_of (be_str))) (bs_one (bs_ret (be_bl))) (bs_nil)))))))))))))))))))
  (bs_one (bs_ret (be_bl)))
end
end K53

set_option Elab.async false
set_option linter.all false
set_option maxRecDepth 100000
set_option maxHeartbeats 4000000
namespace K53
open PySem PySem.Spec L2 B
theorem sz {n : Nat} (h : n ≤ 1000000) : n ≤ sizeLine := by rw [sizeLine_eq]; omega
theorem szlt {n : Nat} (h : n ≤ 1000000) : n < sizeLine := by rw [sizeLine_eq]; omega
/-! ## draws -/
def St (d : D) : Prop := (∃ c : Int, d = .nd .lst [.int c]) ∨ ∃ a b c : Int, d = .nd .lst [.int a, .int b, .int c]
abbrev nX : Exn → List D → Prop := fun _ _ => False
theorem m_pos {i j : Int} (h : 0 < j) : 0 ≤ i % j := Int.emod_nonneg i (Int.ne_of_gt h)
theorem m_lt {i j : Int} (h : 0 < j) : i % j < j := Int.emod_lt_of_pos i h
theorem mixed (x b : Int) (Q : Int → Prop) (hb : 0 < b) (h : ∀ v, 0 ≤ v → v < b → Q v) : mulOk x 48271 ∧ divOk 1009 ∧ mulOk (x * 48271 % 2147483647) (x * 48271 % 2147483647 / 1009 + 69621) ∧ divOk 2003 ∧
    mulOk (x * 48271 % 2147483647 * (x * 48271 % 2147483647 / 1009 + 69621) % 2147483647) (x * 48271 % 2147483647 * (x * 48271 % 2147483647 / 1009 + 69621) % 2147483647 / 2003 + 40692) ∧ 0 < b ∧
    Q (x * 48271 % 2147483647 * (x * 48271 % 2147483647 / 1009 + 69621) % 2147483647 * (x * 48271 % 2147483647 * (x * 48271 % 2147483647 / 1009 + 69621) % 2147483647 / 2003 + 40692) % 2147483399 % b) := by
  have p : (0 : Int) < 2147483647 := by decide
  refine ⟨mulOk_r (by decide) (by decide), divOk_of (by decide) (by decide), ?_⟩
  generalize e1 : x * 48271 % 2147483647 = y
  have y1 : 0 ≤ y := e1 ▸ m_pos p
  have y2 : y < 2147483647 := e1 ▸ m_lt p
  refine ⟨mulOk_l (by omega) (by omega), divOk_of (by decide) (by decide), ?_⟩
  generalize e2 : y * (y / 1009 + 69621) % 2147483647 = z
  have z1 : 0 ≤ z := e2 ▸ m_pos p
  have z2 : z < 2147483647 := e2 ▸ m_lt p
  exact ⟨mulOk_l (by omega) (by omega), hb, h _ (m_pos hb) (m_lt hb)⟩
theorem digit {s : D} (hs : St s) {b : Int} (hb : 0 < b) (hb2 : b < 2 ^ 62) {Q} {E} (h : ∀ v s, St s → 0 ≤ v → v < b → Q (.fz (.int v)) [s]) : FW (r_L_digit [s, .int b]) Q E := by
  unfold r_L_digit m_L_digit
  rw [FW_run]
  rcases hs with ⟨c, rfl⟩ | ⟨a, s1, s2, rfl⟩
  · simp [start0, par, ixN]
    refine ⟨sz (by decide), powOk_of (by decide) (by decide) (by decide), ?_⟩
    by_cases hc : (1000000000000000000 : Int) ≤ c
    · simp [hc]
      refine ⟨sz (by decide), sz (by decide), ?_⟩
      have : 0 < c := by omega
      simp [this]
      exact ⟨hb, divOk_of hb (by omega), h _ _ (.inr ⟨_, _, _, rfl⟩) (m_pos hb) (m_lt hb)⟩
    · simp [hc]
      exact ⟨sz (by decide), sz (by decide), mulOk_l (by decide) (by decide), mixed _ b (fun v => Q (.fz (.int v)) _) hb fun v h1 h2 => h v _ (.inr ⟨_, _, _, rfl⟩) h1 h2⟩
  · simp [start0, par, ixN]
    split
    · exact ⟨hb, divOk_of hb (by omega), h _ _ (.inr ⟨_, _, _, rfl⟩) (m_pos hb) (m_lt hb)⟩
    · exact ⟨mulOk_l (by decide) (by decide), mixed _ b (fun v => Q (.fz (.int v)) _) hb fun v h1 h2 => h v _ (.inr ⟨_, _, _, rfl⟩) h1 h2⟩
/-- one of a list -/
theorem of_ {s : D} (hs : St s) {ds : List D} (hd : ds ≠ []) (hl : ds.length < 1000) {Q} {E} (h : ∀ d s, d ∈ ds → St s → Q (.fz d) [s]) : FW (r_L_of [s, .nd .lst ds]) Q E := by
  unfold r_L_of m_L_of
  rw [FW_run]
  have hpos : 0 < ds.length := List.length_pos_iff.mpr hd
  simp [start0, par]
  refine digit hs (by omega) (by omega) fun v s' st h1 h2 => ?_
  simp
  obtain ⟨k, rfl⟩ := Int.eq_ofNat_of_zero_le h1
  have hk : k < ds.length := by omega
  rw [atI_nat', List.getElem?_eq_getElem hk]
  simp
  exact h _ _ (List.getElem_mem hk) st
theorem great {s : D} (hs : St s) {Q} {E} (h : ∀ v s, St s → 0 ≤ v → Q (.fz (.int v)) [s]) : FW (r_L_great [s]) Q E := by
  unfold r_L_great m_L_great
  rw [FW_run]
  simp [start0, par]
  refine ⟨by rfl, W_forL (fun i β => ∃ s' v sl, St s' ∧ 0 ≤ v ∧ β = [.own (some 0) s', .fz (.int v), sl]) ⟨s, 0, .un, hs, by decide, rfl⟩ (fun i d β hd hI => ?_) fun β hI => ?_⟩
  · obtain ⟨s', v, sl, hs', hv, rfl⟩ := hI
    simp
    refine ⟨mulOk_r (by decide) (by decide), digit hs' (by decide) (by decide) fun w s'' st h1 h2 => ?_⟩
    simp
    exact ⟨st, by omega⟩
  · obtain ⟨s', v, sl, hs', hv, rfl⟩ := hI
    simp
    exact h v s' hs' hv
end K53

set_option Elab.async false
set_option linter.all false
set_option maxRecDepth 100000
set_option maxHeartbeats 4000000
namespace K53
open PySem PySem.Spec L2 B
/-! ## lists of ints -/
abbrev iL (ns : List Int) : D := .nd .lst (ns.map D.int)
theorem toPys_ints : ∀ ns : List Int, toPys (ns.map D.int) = ns.map PyData.int
  | [] => rfl
  | n :: ns => by
    show PyData.int n :: toPys (ns.map D.int) = _
    rw [toPys_ints ns]
    rfl
theorem canLay_ints : ∀ ns : List Int, PyData.canLayAll0 (ns.map PyData.int) = true
  | [] => by simp [PyData.canLayAll0]
  | n :: ns => by simp [PyData.canLayAll0, PyData.canLay0, canLay_ints ns]
theorem depth_ints : ∀ ns : List Int, PyData.depthAll (ns.map PyData.int) = 0
  | [] => by simp [PyData.depthAll]
  | n :: ns => by simp [PyData.depthAll, PyData.depth, depth_ints ns]
theorem shp_iL (ns : List Int) : shp (iL ns) = true := by
  unfold shp SeqAt.shaped
  show (PyData.canLay0 (.list (toPys (ns.map D.int))) && decide (PyData.depth (.list (toPys (ns.map D.int))) ≤ 64)) = true
  rw [toPys_ints]
  simp [PyData.canLay0, PyData.depth, canLay_ints, depth_ints]
theorem eqvAll_ints : ∀ ns ms : List Int, PyData.eqvAll (ns.map PyData.int) (ms.map PyData.int) = decide (ns = ms)
  | [], [] => by simp [PyData.eqvAll]
  | [], _ :: _ => by simp [PyData.eqvAll]
  | _ :: _, [] => by simp [PyData.eqvAll]
  | n :: ns, m :: ms => by
    simp only [List.map_cons, PyData.eqvAll, PyData.eqv, eqvAll_ints ns ms]
    by_cases h : n = m <;> by_cases h2 : ns = ms <;> simp [h, h2]
theorem eqv_iL (ns ms : List Int) : eqv (iL ns) (iL ms) = decide (ns = ms) := by
  unfold eqv
  show PyData.eqv (.list (toPys (ns.map D.int))) (.list (toPys (ms.map D.int))) = _
  rw [toPys_ints, toPys_ints]
  simp only [PyData.eqv, eqvAll_ints]
theorem w_eqL {ns ms : List Int} {P : Rs → Prop} : optW (gEq (iL ns) (iL ms)) P ↔ P (.fz (.bl (decide (ns = ms)))) := by
  unfold gEq
  rw [if_pos ⟨shp_iL ns, shp_iL ms⟩, eqv_iL]
  exact Iff.rfl
theorem w_neL {ns ms : List Int} {P : Rs → Prop} : optW (gNe (iL ns) (iL ms)) P ↔ P (.fz (.bl (!decide (ns = ms)))) := by
  unfold gNe
  rw [if_pos ⟨shp_iL ns, shp_iL ms⟩, eqv_iL]
  exact Iff.rfl
theorem any_ints (n : Int) : ∀ ns : List Int, ((ns.map D.int).any fun z => eqv z (.int n)) = decide (n ∈ ns)
  | [] => by simp
  | m :: ns => by
    rw [List.map_cons, List.any_cons, any_ints n ns, eqv_int]
    by_cases h : m = n
    · subst h; simp
    · have h' : n ≠ m := fun z => h z.symm
      simp [h, h']
theorem w_inL {n : Int} {ns : List Int} {P : Rs → Prop} : optW (gIn (.int n) (iL ns)) P ↔ P (.fz (.bl (decide (n ∈ ns)))) := by
  unfold gIn
  show optW ((if shp (.int n) = true ∧ shp (iL ns) = true then some ((ns.map D.int).any fun z => eqv z (.int n)) else none).map _) P ↔ _
  rw [if_pos ⟨shp_int, shp_iL ns⟩, any_ints]
  exact Iff.rfl
theorem ints_all : ∀ ns : List Int, (ns.map D.int).all flt = true
  | [] => rfl
  | n :: ns => by rw [List.map_cons, List.all_cons, ints_all ns]; rfl
theorem w_notInT {n : Int} {ns : List Int} {P : Rs → Prop} : optW (gNotIn (.int n) (.nd .tup (ns.map D.int))) P ↔ P (.fz (.bl (!decide (n ∈ ns)))) := by
  unfold gNotIn
  show optW ((if flt (.int n) = true ∧ (ns.map D.int).all flt = true then some ((ns.map D.int).any fun z => eqv z (.int n)) else none).map _) P ↔ _
  rw [if_pos ⟨rfl, ints_all ns⟩, any_ints]
  exact Iff.rfl
theorem w_notInL {n : Int} {ns : List Int} {P : Rs → Prop} : optW (gNotIn (.int n) (iL ns)) P ↔ P (.fz (.bl (!decide (n ∈ ns)))) := by
  unfold gNotIn
  show optW ((if shp (.int n) = true ∧ shp (iL ns) = true then some ((ns.map D.int).any fun z => eqv z (.int n)) else none).map _) P ↔ _
  rw [if_pos ⟨shp_int, shp_iL ns⟩, any_ints]
  exact Iff.rfl
theorem nodup_le {l m : List Int} (h : l.Nodup) (hs : ∀ x ∈ l, x ∈ m) : l.length ≤ m.length := by
  induction l generalizing m with
  | nil => exact Nat.zero_le _
  | cons a l ih =>
    obtain ⟨h1, h2⟩ := List.nodup_cons.mp h
    have ha : a ∈ m := hs a List.mem_cons_self
    have := ih (m := m.erase a) h2 fun x hx => (List.mem_erase_of_ne fun (e : x = a) => h1 (e ▸ hx)).mpr (hs x (List.mem_cons_of_mem _ hx))
    rw [List.length_erase_of_mem ha] at this
    have : 0 < m.length := List.length_pos_of_mem ha
    rw [List.length_cons]
    omega
/-! ## names -/
/-- so many unlike numbers below 2 ^ f -/
structure Nm (f : Nat) (ns : List Int) : Prop where
  nd : ns.Nodup
  lo : ∀ x ∈ ns, 0 ≤ x
  hi : ∀ x ∈ ns, x < 2 ^ f
theorem free_step {h l : Int} {ns : List Int} {j : Nat} (hh : (ns.length : Int) < h) (hl : 0 ≤ l) (hl2 : l < h) (hj : j ≤ ns.length) (hs : ∀ i : Nat, i ≤ j → (l + i) % h ∈ ns) : j + 1 ≤ ns.length := by
  have key : ((List.range (j + 1)).map fun i : Nat => (l + (i : Int)) % h).length ≤ ns.length := by
    apply nodup_le
    · refine List.pairwise_map.mpr (List.Pairwise.imp_of_mem ?_ (List.pairwise_lt_range (n := j + 1)))
      intro a b ha hb hab e
      have ha' : a < j + 1 := List.mem_range.mp ha
      have hb' : b < j + 1 := List.mem_range.mp hb
      have e2 := Int.emod_emod_of_dvd (l + a) (Int.dvd_refl h)
      have d1 : (l + b - (l + a)) % h = 0 := by rw [Int.sub_emod, ← e]; simp
      have d2 : l + (b : Int) - (l + a) = (b : Int) - a := by omega
      rw [d2, Int.emod_eq_of_lt (by omega) (by omega)] at d1
      omega
    · intro x hx
      obtain ⟨i, hi, rfl⟩ := List.mem_map.mp hx
      exact hs i (by have := List.mem_range.mp hi; omega)
  rw [List.length_map, List.length_range] at key
  exact key
theorem pow_cast (f : Nat) : ((2 : Int) ^ f) = ((2 ^ f : Nat) : Int) := by rw [Int.natCast_pow]; rfl
theorem W_seq_of {m n : M Fl} {β : B.Env} {Q : Fl → B.Env → Prop} {E : Exn → B.Env → Prop} (R : B.Env → Prop) (h : W m β (fun f β1 => f = .nx ∧ R β1) E) (h2 : ∀ β1, R β1 → W n β1 Q E) : W (seqF m n) β Q E := by
  rw [W_seqF]
  exact h.mono (fun f β1 ⟨e, r⟩ => by subst e; exact h2 β1 r) fun _ _ h => h
theorem names {s : D} (hs : St s) {n f : Nat} (hf : f ≤ 64) (hn : n ≤ 1000) (hnf : n ≤ 2 ^ f) {Q} {E} (h : ∀ ns s, St s → Nm f ns → ns.length = n → Q (.own (iL ns)) [s]) : FW (r_L_names [s, .int n, .int f]) Q E := by
  unfold r_L_names m_L_names
  rw [FW_run]
  have hp : (0 : Int) < 2 ^ f := by rw [pow_cast]; exact Int.natCast_pos.mpr (Nat.two_pow_pos f)
  have hp64 : (2 : Int) ^ f ≤ 2 ^ 64 := by rw [pow_cast, pow_cast]; exact Int.ofNat_le.mpr (Nat.pow_le_pow_right (by decide) hf)
  simp [start0, par]
  refine ⟨powOk_of (by omega) (by omega) (by decide), digit hs (by decide) (by decide) fun st s1 hs1 h1 h2 => ?_⟩
  simp
  refine great hs1 fun g s2 hs2 g1 => ?_
  simp [hp]
  refine ⟨inR_iff.mpr (by omega), W_forL (fun i β => ∃ s' ns last sl, St s' ∧ Nm f ns ∧ ns.length = i ∧ 0 ≤ last ∧ last < 2 ^ f ∧ β = [.own (some 0) s', .fz (.int n), .fz (.int f), .fz (.int (2 ^ f)), .fz (.int st), .own none (iL ns), .fz (.int last), sl])
    ⟨s2, [], g % 2 ^ f, .un, hs2, ⟨.nil, fun _ z => (nomatch z), fun _ z => (nomatch z)⟩, rfl, m_pos hp, m_lt hp, rfl⟩ (fun i d β hd hI => ?_) fun β hI => ?_⟩
  · obtain ⟨s', ns, last, sl, hs', hN, hl, l1, l2, rfl⟩ := hI
    have hi : i < n := by
      have := (List.getElem?_eq_some_iff.mp hd).1
      simpa [rng] using this
    -- the loop that looks for one that is free
    have loop : ∀ (s'' : D) (l : Int) (sl : Sl) {Q : Fl → B.Env → Prop} {E : Exn → B.Env → Prop}, St s'' → 0 ≤ l → l < 2 ^ f → (∀ l', 0 ≤ l' → l' < 2 ^ f → l' ∉ ns → Q .nx [.own (some 0) s'', .fz (.int n), .fz (.int f), .fz (.int (2 ^ f)), .fz (.int st), .own none (iL ns), .fz (.int l'), sl]) →
        W (mWhile (asB (mOp gIn (mPl 6) (mPl 5))) (mSet 6 (mOp gMod (mP (mOp gAdd (mPl 6) (mP (mC (.int 1))))) (mPl 3)))) [.own (some 0) s'', .fz (.int n), .fz (.int f), .fz (.int (2 ^ f)), .fz (.int st), .own none (iL ns), .fz (.int l), sl] Q E := by
      intro s'' l sl Q E hs'' hl1 hl2 hQ
      refine W_while (fun m β => ∃ j : Nat, m + j = ns.length ∧ (∀ i : Nat, i < j → (l + i) % 2 ^ f ∈ ns) ∧ β = [.own (some 0) s'', .fz (.int n), .fz (.int f), .fz (.int (2 ^ f)), .fz (.int st), .own none (iL ns), .fz (.int ((l + j) % 2 ^ f)), sl]) (fun m β hI => ?_) (n := ns.length) ⟨0, rfl, fun i hi => (nomatch hi), by simp [Int.emod_eq_of_lt hl1 hl2]⟩
      obtain ⟨j, hm, hall, rfl⟩ := hI
      simp [w_inL]
      split
      · rename_i hin
        have hall' : ∀ i : Nat, i ≤ j → (l + i) % 2 ^ f ∈ ns := fun i hi => by
          rcases Nat.lt_or_ge i j with q | q
          · exact hall i q
          · have : i = j := by omega
            subst this
            exact hin
        have := free_step (h := 2 ^ f) (l := l) (by rw [pow_cast]; omega) hl1 hl2 (by omega) hall'
        refine ⟨hp, m - 1, by omega, j + 1, by omega, fun i hi => hall' i (by omega), ?_⟩
        congr 1
        omega
      · rename_i hin
        exact hQ _ (m_pos hp) (m_lt hp) hin
    have rest : ∀ (s'' : D) (l : Int) (sl : Sl) {E : Exn → B.Env → Prop} {Bk : B.Env → Prop} {Rk : Rs → B.Env → Prop}, St s'' → 0 ≤ l → l < 2 ^ f → W (seqF (mWhile (asB (mOp gIn (mPl 6) (mPl 5))) (mSet 6 (mOp gMod (mP (mOp gAdd (mPl 6) (mP (mC (.int 1))))) (mPl 3))))
  (mExpr (mMut "list" 5 gAppend (mCons (mP (mVar 6)) (mNil))))) [.own (some 0) s'', .fz (.int n), .fz (.int f), .fz (.int (2 ^ f)), .fz (.int st), .own none (iL ns), .fz (.int l), sl] (fun f_1 β2 => flW f_1 (∃ s' ns last sl, St s' ∧ Nm f ns ∧ ns.length = i + 1 ∧ 0 ≤ last ∧ last < 2 ^ f ∧ β2 = [.own (some 0) s', .fz (.int n), .fz (.int f), .fz (.int (2 ^ f)), .fz (.int st), .own none (iL ns), .fz (.int last), sl]) (Bk β2) fun r => Rk r β2) E := by
      intro s'' l sl E Bk Rk hs'' hl1 hl2
      rw [W_seqF]
      refine loop s'' l sl hs'' hl1 hl2 fun l' q1 q2 q3 => ?_
      simp
      refine ⟨szlt (by omega), s'', hs'', ns ++ [l'], ⟨List.nodup_append.mpr ⟨hN.nd, by simp, fun a ha b hb => ?_⟩, fun x hx => ?_, fun x hx => ?_⟩, by simp [hl], l', q1, q2, by simp⟩
      · rw [List.mem_singleton] at hb
        subst hb
        exact fun e => q3 (e ▸ ha)
      · rcases List.mem_append.mp hx with q | q
        · exact hN.lo x q
        · rw [List.mem_singleton] at q; subst q; exact q1
      · rcases List.mem_append.mp hx with q | q
        · exact hN.hi x q
        · rw [List.mem_singleton] at q; subst q; exact q2
    rw [W_gSet]
    refine W_seq_of (fun β1 => ∃ s'' l sl, St s'' ∧ 0 ≤ l ∧ l < 2 ^ f ∧ β1 = [.own (some 0) s'', .fz (.int n), .fz (.int f), .fz (.int (2 ^ f)), .fz (.int st), .own none (iL ns), .fz (.int l), sl]) ?_ fun β1 ⟨s'', l, sl, a1, a2, a3, e⟩ => e ▸ rest s'' l sl a1 a2 a3
    simp [hp]
    split
    · exact ⟨s', hs', _, m_pos hp, m_lt hp, rfl, rfl⟩
    split
    · refine great hs' fun g s2 hs2 g1 => ?_
      simp [hp]
      exact ⟨s2, hs2, _, m_pos hp, m_lt hp, rfl, rfl⟩
    split
    · refine digit hs' (by decide) (by decide) fun v s2 hs2 g1 g2 => ?_
      simp [hp]
      exact ⟨s2, hs2, _, m_pos hp, m_lt hp, rfl, rfl⟩
    · refine ⟨mulOk_l (by decide) (by decide), digit hs' (by decide) (by decide) fun v s2 hs2 g1 g2 => ?_⟩
      simp [hp]
      exact ⟨s2, hs2, _, m_pos hp, m_lt hp, rfl, rfl⟩
  · obtain ⟨s', ns, last, sl, hs', hN, hl, l1, l2, rfl⟩ := hI
    simp
    exact h ns s' hs' hN (by simpa [rng] using hl)
end K53

set_option Elab.async false
set_option linter.all false
set_option maxRecDepth 100000
set_option maxHeartbeats 4000000
namespace K53
open PySem PySem.Spec L2 B
/-! ## how often paints are made fewer -/
/-- the least k with 2 ^ k not below m -/
def clog (m : Nat) : Nat := if m ≤ 1 then 0 else (m - 1).log2 + 1
theorem le_clog (m : Nat) : m ≤ 2 ^ clog m := by
  unfold clog
  split
  · omega
  · have := Nat.lt_log2_self (n := m - 1)
    omega
theorem lt_of_clog {m k : Nat} (h : k < clog m) : 2 ^ k < m := by
  unfold clog at h
  split at h
  · omega
  · have h2 := Nat.log2_self_le (n := m - 1) (by omega)
    have h3 : 2 ^ k ≤ 2 ^ (m - 1).log2 := Nat.pow_le_pow_right (by decide) (by omega)
    omega
theorem clog_eq {m k : Nat} (h1 : m ≤ 2 ^ k) (h2 : ∀ j, j < k → 2 ^ j < m) : clog m = k := by
  rcases Nat.lt_trichotomy (clog m) k with q | q | q
  · have := h2 _ q; have := le_clog m; omega
  · exact q
  · have := lt_of_clog q; omega
theorem lin_pow : ∀ j : Nat, 2 * (j + 4) ≤ 2 ^ (j + 3)
  | 0 => by decide
  | j + 1 => by
    have := lin_pow j
    have e : 2 ^ (j + 1 + 3) = 2 * 2 ^ (j + 3) := by rw [show j + 1 + 3 = (j + 3) + 1 by omega, Nat.pow_succ]; omega
    omega
theorem clog_less {m : Nat} (h : 6 < m) : 2 * clog m < m := by
  by_cases hk : clog m ≤ 3
  · omega
  · have h1 := lt_of_clog (m := m) (k := clog m - 1) (by omega)
    have h2 := lin_pow (clog m - 4)
    have e1 : clog m - 4 + 3 = clog m - 1 := by omega
    have e2 : clog m - 4 + 4 = clog m := by omega
    rw [e1, e2] at h2
    omega
/-- r rounds from m colours on -/
def Rr : Nat → Nat → Prop
  | 0, m => m ≤ 6
  | r + 1, m => 6 < m ∧ Rr r (2 * clog m)
theorem Rr_ex : ∀ m : Nat, ∃ r, r ≤ m ∧ Rr r m := by
  intro m
  induction m using Nat.strongRecOn with
  | _ m ih =>
    by_cases h : m ≤ 6
    · exact ⟨0, Nat.zero_le _, h⟩
    · obtain ⟨r, h1, h2⟩ := ih (2 * clog m) (clog_less (by omega))
      exact ⟨r + 1, by have := clog_less (m := m) (by omega); omega, by omega, h2⟩
theorem clog_pow {f : Nat} : clog (2 ^ f) = f := clog_eq (Nat.le_refl _) fun j hj => Nat.pow_lt_pow_right (by decide) hj
theorem Rr_f {f : Nat} (hf : f ≤ 64) : ∃ r, r ≤ 200 ∧ Rr r (2 ^ f) := by
  by_cases h : 2 ^ f ≤ 6
  · exact ⟨0, by omega, h⟩
  · obtain ⟨r, h1, h2⟩ := Rr_ex (2 * clog (2 ^ f))
    rw [clog_pow] at h1
    exact ⟨r + 1, by omega, by omega, h2⟩
end K53

set_option Elab.async false
set_option linter.all false
set_option maxRecDepth 100000
set_option maxHeartbeats 4000000
namespace K53
open PySem PySem.Spec L2 B
theorem isi_int_int (i : Int) : isiD "int" (.int i) = some true := by show kitB "int" "int" = _; decide +kernel
theorem isi_int_bool (i : Int) : isiD "bool" (.int i) = some false := by show kitB "int" "bool" = _; decide +kernel
theorem isi_lst_list (ds : List D) : isiD "list" (.nd .lst ds) = some true := by show kitB "list" "list" = _; decide +kernel
theorem p_nn {k : Nat} : (0 : Int) ≤ 2 ^ k := by rw [pow_cast]; exact Int.natCast_nonneg _
theorem is_from (i lo hi : Int) {Q} {E} (h : Q (.fz (.bl (decide (lo ≤ i ∧ i ≤ hi)))) []) : FW (r_P_is_from [.int i, .int lo, .int hi]) Q E := by
  unfold r_P_is_from m_P_is_from
  rw [FW_run]
  simp [start0, par, w_isi (isi_int_int i), w_isi (isi_int_bool i)]
  split
  · rename_i h1
    simpa [h1] using h
  · rename_i h1
    simpa [h1] using h
theorem sure_bits {f : Nat} (h1 : 1 ≤ f) (h2 : f ≤ 64) {Q} {E} (h : Q (.fz .non) []) : FW (r_P_sure_bits [.int f]) Q E := by
  unfold r_P_sure_bits m_P_sure_bits
  rw [FW_run]
  simp [start0, par]
  refine is_from _ _ _ ?_
  have e : (1 : Int) ≤ f ∧ (f : Int) ≤ 64 := by omega
  simp [e]
  exact h
theorem figures (n : Nat) {Q} {E} (h : Q (.fz (.int (clog (n + 1)))) []) : FW (r_P_figures_of [.int n]) Q E := by
  unfold r_P_figures_of m_P_figures_of
  rw [FW_run]
  simp [start0, par]
  refine W_while (fun m β => ∃ k : Nat, m + k = clog (n + 1) ∧ β = [.fz (.int ((n / 2 ^ k : Nat) : Int)), .fz (.int k)]) (fun m β hI => ?_) (n := clog (n + 1)) ⟨0, rfl, by simp⟩
  obtain ⟨k, hk, rfl⟩ := hI
  rw [W_asB, W_mOp]
  simp
  split
  · rename_i hp
    have hp' : 2 ^ k ≤ n := by
      rcases Nat.lt_or_ge n (2 ^ k) with q | q
      · rw [pow_cast, ← Int.natCast_ediv, Nat.div_eq_of_lt q] at hp
        exact absurd hp (by decide)
      · exact q
    have : k < clog (n + 1) := by
      rcases Nat.lt_or_ge k (clog (n + 1)) with q | q
      · exact q
      · have := le_clog (n + 1)
        have h3 : 2 ^ clog (n + 1) ≤ 2 ^ k := Nat.pow_le_pow_right (by decide) q
        omega
    refine ⟨divOk_of (by decide) (by decide), m - 1, by omega, k + 1, by omega, ?_, by simp⟩
    rw [Int.ediv_ediv_of_nonneg p_nn, Int.pow_succ]
  · rename_i hp
    have hp' : n < 2 ^ k := by
      rcases Nat.lt_or_ge n (2 ^ k) with q | q
      · exact q
      · rw [pow_cast, ← Int.natCast_ediv] at hp
        have := Nat.div_pos q (Nat.two_pow_pos k)
        omega
    have : clog (n + 1) = k := by
      rcases Nat.lt_or_ge k (clog (n + 1)) with q | q
      · have := lt_of_clog q; omega
      · omega
    rw [← this]
    exact h
theorem rounds {f r : Nat} (h1 : 1 ≤ f) (hf : f ≤ 64) (hr : Rr r (2 ^ f)) {Q} {E} (h : Q (.fz (.int r)) []) : FW (r_P_rounds [.int f]) Q E := by
  unfold r_P_rounds m_P_rounds
  rw [FW_run]
  simp [start0, par]
  refine sure_bits h1 hf ?_
  simp
  refine ⟨powOk_of (by omega) (by omega) (by decide), ?_⟩
  refine W_while (fun m β => ∃ (am fo : Nat), Rr m am ∧ am ≤ 2 ^ 64 ∧ fo + m = r ∧ β = [.fz (.int f), .fz (.int am), .fz (.int fo)]) (fun m β hI => ?_) (n := r) ⟨2 ^ f, 0, hr, Nat.pow_le_pow_right (by decide) hf, by omega, by simp [Int.natCast_pow]⟩
  obtain ⟨am, fo, hR, ha, hm, rfl⟩ := hI
  rw [W_asB, W_mOp]
  simp
  split
  · rename_i hlt
    cases m with
    | zero => exact absurd (show am ≤ 6 from hR) (by omega)
    | succ m =>
      have e : (am : Int) - 1 = ((am - 1 : Nat) : Int) := by omega
      rw [e]
      refine figures (am - 1) ?_
      have e2 : am - 1 + 1 = am := by omega
      rw [e2]
      have hcl : clog am ≤ 64 := by
        rcases Nat.lt_or_ge 64 (clog am) with q | q
        · have := lt_of_clog q; omega
        · exact q
      simp
      exact ⟨mulOk_l (by decide) (by decide), m, by omega, 2 * clog am, hR.2, by omega, fo + 1, by omega, by omega, by omega⟩
  · rename_i hlt
    cases m with
    | zero =>
      have : fo = r := by omega
      subst this
      exact h
    | succ m => exact absurd hR.1 (by omega)
/-! ## one house's paint by the next one's -/
/-- the lowest place below k at which a and b are unlike -/
def low : Nat → Int → Int → Nat
  | 0, _, _ => 0
  | k + 1, a, b => if a % 2 = b % 2 then low k (a / 2) (b / 2) + 1 else 0
def bit (a : Int) (p : Nat) : Int := a / 2 ^ p % 2
def pb (a b : Int) : Int := 2 * (low 64 a b : Nat) + bit a (low 64 a b)
theorem bit_succ (a : Int) (p : Nat) : bit (a / 2) p = bit a (p + 1) := by
  unfold bit
  rw [Int.ediv_ediv_of_nonneg (by decide), Int.pow_succ, Int.mul_comm]
theorem bit_zero (a : Int) : bit a 0 = a % 2 := by simp [bit]
theorem low_spec : ∀ (k : Nat) {a b : Int}, 0 ≤ a → 0 ≤ b → a < 2 ^ k → b < 2 ^ k → a ≠ b → low k a b < k ∧ bit a (low k a b) ≠ bit b (low k a b) ∧ ∀ q, q < low k a b → bit a q = bit b q
  | 0, a, b, h1, h2, h3, h4, hne => by simp at h3 h4; omega
  | k + 1, a, b, h1, h2, h3, h4, hne => by
    unfold low
    split
    · rename_i he
      rw [Int.pow_succ] at h3 h4
      obtain ⟨i1, i2, i3⟩ := low_spec k (a := a / 2) (b := b / 2) (by omega) (by omega) (by omega) (by omega) (by omega)
      rw [bit_succ, bit_succ] at i2
      refine ⟨by omega, i2, fun q hq => ?_⟩
      cases q with
      | zero => rw [bit_zero, bit_zero]; exact he
      | succ q => rw [← bit_succ, ← bit_succ]; exact i3 q (by omega)
    · rename_i he
      exact ⟨by omega, by rw [bit_zero, bit_zero]; exact he, fun q hq => absurd hq (by omega)⟩
theorem bit01 (a : Int) (p : Nat) : bit a p = 0 ∨ bit a p = 1 := by unfold bit; omega
theorem paint_by {a b : Int} (h1 : 0 ≤ a) (h2 : 0 ≤ b) (h3 : a < 2 ^ 64) (h4 : b < 2 ^ 64) (hne : a ≠ b) {Q} {E} (h : Q (.fz (.int (pb a b))) []) : FW (r_P_paint_by [.int a, .int b]) Q E := by
  obtain ⟨l1, l2, l3⟩ := low_spec 64 h1 h2 h3 h4 hne
  unfold r_P_paint_by m_P_paint_by
  rw [FW_run]
  simp [start0, par]
  refine W_while (fun m β => ∃ k : Nat, m + k = low 64 a b ∧ β = [.fz (.int (a / 2 ^ k)), .fz (.int (b / 2 ^ k)), .fz (.int k)]) (fun m β hI => ?_) (n := low 64 a b) ⟨0, rfl, by simp⟩
  obtain ⟨k, hk, rfl⟩ := hI
  simp
  split
  · rename_i he
    have hlt : k < low 64 a b := by
      rcases Nat.lt_or_ge k (low 64 a b) with q | q
      · exact q
      · have : k = low 64 a b := by omega
        subst this
        exact absurd he l2
    refine ⟨divOk_of (by decide) (by decide), m - 1, by omega, k + 1, by omega, ?_, ?_, by simp⟩
    · rw [Int.ediv_ediv_of_nonneg p_nn, Int.pow_succ]
    · rw [Int.ediv_ediv_of_nonneg p_nn, Int.pow_succ]
  · rename_i he
    have : k = low 64 a b := by
      rcases Nat.lt_or_ge k (low 64 a b) with q | q
      · exact absurd (l3 k q) he
      · omega
    subst this
    exact ⟨mulOk_l (by decide) (by decide), h⟩
end K53

set_option Elab.async false
set_option linter.all false
set_option maxRecDepth 100000
set_option maxHeartbeats 4000000
namespace K53
open PySem PySem.Spec L2 B
theorem filter0 {n k : Nat} {p : Nat → Bool} (hk : k < n) (hp : p k = true) (hq : ∀ j, j < k → p j = false) : ∃ r, (List.range n).filter p = k :: r := by
  have e : (List.range n).filter p = (List.range k).filter p ++ ((List.range' k (n - k)).filter p) := by
    rw [← List.filter_append]
    congr 1
    rw [List.range_eq_range', List.range_eq_range']
    have := List.range'_append (s := 0) (m := k) (n := n - k) (step := 1)
    simp only [Nat.zero_add, Nat.one_mul] at this
    rw [this]
    congr 1
    omega
  have e1 : (List.range k).filter p = [] := by
    rw [List.filter_eq_nil_iff]
    intro j hj
    rw [hq j (List.mem_range.mp hj)]
    decide
  have e2 : n - k = (n - k - 1) + 1 := by omega
  rw [e, e1, List.nil_append, e2, List.range'_succ, List.filter_cons_of_pos hp]
  exact ⟨_, rfl⟩
def dN : D → Nat
  | .int i => i.toNat
  | _ => 0
theorem rng0 (n : Nat) : rng 0 n = (List.range n).map fun k : Nat => D.int (k : Int) := by
  unfold rng
  simp
/-! ## rings of paints: g tells each place's -/
def ring (n : Nat) (g : Nat → Int) : List Int := (List.range n).map g
theorem ring_len (n : Nat) (g : Nat → Int) : (ring n g).length = n := by simp [ring]
theorem ring_get {n k : Nat} {g : Nat → Int} (h : k < n) : (ring n g)[k]? = some (g k) := by
  unfold ring
  rw [List.getElem?_map, List.getElem?_range h]
  rfl
theorem ring_of_list (h : List Int) : h = ring h.length (fun k => h.getD k 0) := by
  apply List.ext_getElem?
  intro k
  by_cases hk : k < h.length
  · rw [ring_get hk, List.getElem?_eq_getElem hk, List.getD_eq_getElem?_getD, List.getElem?_eq_getElem hk]
    rfl
  · rw [List.getElem?_eq_none (by omega), List.getElem?_eq_none (by rw [ring_len]; omega)]
theorem ring_ext {n : Nat} {g g' : Nat → Int} (h : ∀ k, k < n → g k = g' k) : ring n g = ring n g' := by
  unfold ring
  exact List.map_congr_left fun k hk => h k (List.mem_range.mp hk)
def nx (n k : Nat) : Nat := if k + 1 = n then 0 else k + 1
def pv (n k : Nat) : Nat := if k = 0 then n - 1 else k - 1
theorem nx_lt {n k : Nat} (h : k < n) : nx n k < n := by unfold nx; split <;> omega
theorem pv_lt {n k : Nat} (h : k < n) : pv n k < n := by unfold pv; split <;> omega
theorem nx_pv {n k : Nat} (h : k < n) (h2 : 2 ≤ n) : nx n (pv n k) = k := by unfold nx pv; split <;> split <;> omega
/-- colours below m, neighbours unlike -/
structure Pr (n : Nat) (m : Int) (g : Nat → Int) : Prop where
  lo : ∀ k, k < n → 0 ≤ g k
  hi : ∀ k, k < n → g k < m
  ne : ∀ k, k < n → g k ≠ g (nx n k)
def stp (n : Nat) (g : Nat → Int) (k : Nat) : Int := pb (g k) (g (nx n k))
theorem pb_ne {a b c : Int} (h : pb a b = pb b c) (ha : 0 ≤ a) (hb : 0 ≤ b) (ha2 : a < 2 ^ 64) (hb2 : b < 2 ^ 64) (hab : a ≠ b) : False := by
  obtain ⟨_, l2, _⟩ := low_spec 64 ha hb ha2 hb2 hab
  unfold pb at h
  have h1 := bit01 a (low 64 a b)
  have h2 := bit01 b (low 64 b c)
  have : low 64 a b = low 64 b c := by omega
  rw [← this] at h h2
  exact l2 (by omega)
theorem low_lt {a b : Int} {q : Nat} (ha : 0 ≤ a) (hb : 0 ≤ b) (ha2 : a < 2 ^ 64) (hb2 : b < 2 ^ 64) (hab : a ≠ b) (hq : a < 2 ^ q) (hq2 : b < 2 ^ q) : low 64 a b < q := by
  obtain ⟨_, l2, l3⟩ := low_spec 64 ha hb ha2 hb2 hab
  rcases Nat.lt_or_ge (low 64 a b) q with h | h
  · exact h
  · exfalso
    have p1 : (2 : Int) ^ q ≤ 2 ^ low 64 a b := by rw [pow_cast, pow_cast]; exact Int.ofNat_le.mpr (Nat.pow_le_pow_right (by decide) h)
    apply l2
    unfold bit
    rw [Int.ediv_eq_zero_of_lt ha (by omega), Int.ediv_eq_zero_of_lt hb (by omega)]
theorem Pr.step {n m : Nat} {g : Nat → Int} (h : Pr n m g) (hm : m ≤ 2 ^ 64) : Pr n (2 * clog m : Nat) (stp n g) := by
  have hm' : (m : Int) ≤ 2 ^ 64 := by omega
  refine ⟨fun k hk => ?_, fun k hk => ?_, fun k hk e => ?_⟩
  · unfold stp pb
    have := bit01 (g k) (low 64 (g k) (g (nx n k)))
    omega
  · have hn := nx_lt hk
    have hc := le_clog m
    have q1 : (m : Int) ≤ 2 ^ clog m := by rw [pow_cast]; omega
    have a1 := h.hi k hk
    have a2 := h.hi _ hn
    have := low_lt (q := clog m) (h.lo k hk) (h.lo _ hn) (by omega) (by omega) (h.ne k hk) (by omega) (by omega)
    unfold stp pb
    have := bit01 (g k) (low 64 (g k) (g (nx n k)))
    omega
  · have hn := nx_lt hk
    have a1 := h.hi k hk
    have a2 := h.hi _ hn
    exact pb_ne e (h.lo k hk) (h.lo _ hn) (by omega) (by omega) (h.ne k hk)
/-- a colour in 0, 1, 2 that is neither of two -/
def fr (x y : Int) : Int := if 0 ≠ x ∧ 0 ≠ y then 0 else if 1 ≠ x ∧ 1 ≠ y then 1 else 2
theorem fr_spec (x y : Int) : fr x y ≠ x ∧ fr x y ≠ y ∧ 0 ≤ fr x y ∧ fr x y < 3 := by
  unfold fr
  split
  · omega
  · split <;> omega
def red (n : Nat) (last : Int) (g : Nat → Int) (k : Nat) : Int := if g k = last then fr (g (pv n k)) (g (nx n k)) else g k
theorem Pr.red {n : Nat} {last : Int} {g : Nat → Int} (h : Pr n (last + 1) g) (hl : 3 ≤ last) (hn : 2 ≤ n) : Pr n last (red n last g) := by
  refine ⟨fun k hk => ?_, fun k hk => ?_, fun k hk => ?_⟩
  · unfold K53.red
    have := fr_spec (g (pv n k)) (g (nx n k))
    have := h.lo k hk
    split <;> omega
  · unfold K53.red
    have := fr_spec (g (pv n k)) (g (nx n k))
    have := h.hi k hk
    split <;> omega
  · have h1 := h.ne k hk
    have e : pv n (nx n k) = k := by unfold pv nx; split <;> split <;> omega
    unfold K53.red
    have f1 := fr_spec (g (pv n k)) (g (nx n k))
    have f2 := fr_spec (g (pv n (nx n k))) (g (nx n (nx n k)))
    rw [e] at f2 ⊢
    split <;> split <;> omega
end K53

set_option Elab.async false
set_option linter.all false
set_option maxRecDepth 100000
set_option maxHeartbeats 4000000
namespace K53
open PySem PySem.Spec L2 B
def its (n : Nat) (g : Nat → Int) : Nat → Nat → Int
  | 0 => g
  | i + 1 => stp n (its n g i)
def mm (m : Nat) : Nat → Nat
  | 0 => m
  | i + 1 => 2 * clog (mm m i)
theorem Rr_mm {m r : Nat} (h : Rr r m) : ∀ i, i ≤ r → Rr (r - i) (mm m i)
  | 0, _ => h
  | i + 1, hi => by
    have ih := Rr_mm h i (by omega)
    have e : r - i = (r - (i + 1)) + 1 := by omega
    rw [e] at ih
    exact ih.2
theorem mm_le {m r : Nat} (h : Rr r m) (hm : m ≤ 2 ^ 64) : ∀ i, i ≤ r → mm m i ≤ 2 ^ 64
  | 0, _ => hm
  | i + 1, hi => by
    have ih := mm_le h hm i (by omega)
    have q := Rr_mm h i (by omega)
    have e : r - i = (r - (i + 1)) + 1 := by omega
    rw [e] at q
    have := clog_less q.1
    show 2 * clog (mm m i) ≤ _
    omega
theorem its_Pr {n m r : Nat} {g : Nat → Int} (h : Rr r m) (hm : m ≤ 2 ^ 64) (p : Pr n m g) : ∀ i, i ≤ r → Pr n (mm m i) (its n g i)
  | 0, _ => p
  | i + 1, hi => (its_Pr h hm p i (by omega)).step (mm_le h hm i (by omega))
theorem its_end {n m r : Nat} {g : Nat → Int} (h : Rr r m) (hm : m ≤ 2 ^ 64) (p : Pr n m g) : Pr n 6 (its n g r) := by
  have q := its_Pr h hm p r (Nat.le_refl _)
  have z := Rr_mm h r (Nat.le_refl _)
  rw [Nat.sub_self] at z
  have z : mm m r ≤ 6 := z
  exact ⟨q.lo, fun k hk => by have := q.hi k hk; omega, q.ne⟩
def rd (n : Nat) (g : Nat → Int) : Nat → Nat → Int
  | 0 => g
  | Nat.succ i => red n (5 - Int.ofNat i) (rd n g i)
theorem rd_Pr {n : Nat} {g : Nat → Int} (p : Pr n 6 g) (hn : 2 ≤ n) : ∀ i : Nat, i ≤ 3 → Pr n (6 - (i : Int)) (rd n g i)
  | 0, _ => p
  | Nat.succ i, hi => by
    have q := rd_Pr p hn i (by omega)
    have e : (6 : Int) - (i : Int) = (5 - (i : Int)) + 1 := by omega
    rw [e] at q
    have q2 := q.red (by omega) hn
    have e2 : (6 : Int) - ((Nat.succ i : Nat) : Int) = 5 - (i : Int) := by omega
    rw [e2]
    exact q2
/-- the paints in the end -/
def fin_ (n r : Nat) (g : Nat → Int) : Nat → Int := rd n (its n g r) 3
theorem at_ring {n k : Nat} {g : Nat → Int} (h : k < n) : atI ((ring n g).map D.int) (k : Int) = some (.int (g k)) := by
  rw [atI_nat', List.getElem?_map, ring_get h]
  rfl
theorem at_pv {n k : Nat} {g : Nat → Int} (h : k < n) : atI ((ring n g).map D.int) ((k : Int) - 1) = some (.int (g (pv n k))) := by
  unfold pv
  split
  · rename_i hk
    subst hk
    rw [atI_neg (by omega) (by rw [List.length_map, ring_len]; omega), List.length_map, ring_len]
    have e : (((0 : Nat) : Int) - 1 + (n : Int)).toNat = n - 1 := by omega
    rw [e, List.getElem?_map, ring_get (by omega)]
    rfl
  · have e : (k : Int) - 1 = ((k - 1 : Nat) : Int) := by omega
    rw [e, at_ring (by omega)]
theorem nx_mod {n k : Nat} (h : k < n) : ((k : Int) + 1) % n = (nx n k : Nat) := by
  unfold nx
  split
  · rename_i e
    have : (k : Int) + 1 = n := by omega
    rw [this, Int.emod_self]
    rfl
  · rw [Int.emod_eq_of_lt (by omega) (by omega)]
    omega
theorem map_rng {n : Nat} {g : Nat → Int} (F : D → D) (h : ∀ k : Nat, k < n → F (.int k) = .int (g k)) : ((rng 0 n).filter fun _ => true).map F = (ring n g).map D.int := by
  rw [rng0, List.filter_eq_self.mpr fun _ _ => rfl, List.map_map]
  unfold ring
  rw [List.map_map]
  exact List.map_congr_left fun k hk => h k (List.mem_range.mp hk)
theorem rng_len (n : Nat) : (rng 0 (n : Int)).length = n := by rw [rng0]; simp
theorem rng_get {n i : Nat} {d : D} (h : (rng 0 (n : Int))[i]? = some d) : i < n ∧ d = .int i := by
  rw [rng0, List.getElem?_map] at h
  obtain ⟨k, h1, rfl⟩ := Option.map_eq_some_iff.mp h
  obtain ⟨h2, h3⟩ := List.getElem?_eq_some_iff.mp h1
  rw [List.length_range] at h2
  rw [List.getElem_range] at h3
  subst h3
  exact ⟨h2, rfl⟩
/-- the first k places made anew -/
def mix (n : Nat) (last : Int) (g : Nat → Int) (k j : Nat) : Int := if j < k then red n last g j else g j
theorem mix_set {n k : Nat} {last : Int} {g : Nat → Int} (hk : k < n) : ((ring n (mix n last g k)).map D.int).set k (.int (red n last g k)) = (ring n (mix n last g (k + 1))).map D.int := by
  apply List.ext_getElem?
  intro j
  rw [List.getElem?_set]
  by_cases hj : j < n
  · rw [List.getElem?_map, ring_get hj, List.getElem?_map, ring_get hj]
    unfold mix
    split
    · rename_i e
      subst e
      rw [if_pos (by rw [List.length_map, ring_len]; exact hk), if_pos (by omega)]
      rfl
    · rename_i e
      by_cases q : j < k
      · rw [if_pos q, if_pos (by omega)]
      · rw [if_neg q, if_neg (by omega)]
  · rw [if_neg (by omega), List.getElem?_eq_none (by rw [List.length_map, ring_len]; omega), List.getElem?_eq_none (by rw [List.length_map, ring_len]; omega)]
theorem mix_same {n k : Nat} {last : Int} {g : Nat → Int} (h : g k ≠ last) : ring n (mix n last g k) = ring n (mix n last g (k + 1)) := by
  apply ring_ext
  intro j _
  unfold mix
  by_cases q : j < k
  · rw [if_pos q, if_pos (by omega)]
  · by_cases q2 : j = k
    · subst q2
      rw [if_neg q, if_pos (by omega)]
      unfold red
      rw [if_neg h]
    · rw [if_neg q, if_neg (by omega)]
theorem mix_zero {n : Nat} {last : Int} {g : Nat → Int} : mix n last g 0 = g := by
  funext j
  unfold mix
  rw [if_neg (by omega)]
theorem mix_all {n : Nat} {last : Int} {g : Nat → Int} : ring n (mix n last g n) = ring n (red n last g) := ring_ext fun j hj => by
  unfold mix
  rw [if_pos hj]
def dI : D → Int
  | .int i => i
  | _ => 0
theorem fr_eq (x y : Int) : fr x y = if (0 : Int) ∈ [x, y] then (if (1 : Int) ∈ [x, y] then 2 else 1) else 0 := by
  unfold fr
  simp only [List.mem_cons, List.not_mem_nil, or_false]
  split <;> split <;> (try split) <;> (try split) <;> omega
theorem three {x y : Int} : ∃ r : List Int, ([D.int 0, .int 1, .int 2].filter fun d => !decide (dI d ∈ [x, y])) = (fr x y :: r).map D.int ∧ ∀ z ∈ r, fr x y ≤ z := by
  rw [fr_eq]
  have e : ([D.int 0, .int 1, .int 2].filter fun d => !decide (dI d ∈ [x, y])) = (if (0 : Int) ∈ [x, y] then [] else [D.int 0]) ++ ((if (1 : Int) ∈ [x, y] then [] else [D.int 1]) ++ (if (2 : Int) ∈ [x, y] then [] else [D.int 2])) := by
    simp only [List.filter_cons, List.filter_nil, dI]
    by_cases m0 : (0 : Int) ∈ [x, y] <;> by_cases m1 : (1 : Int) ∈ [x, y] <;> by_cases m2 : (2 : Int) ∈ [x, y] <;> simp only [m0, m1, m2] <;> rfl
  rw [e]
  by_cases m0 : (0 : Int) ∈ [x, y]
  · by_cases m1 : (1 : Int) ∈ [x, y]
    · by_cases m2 : (2 : Int) ∈ [x, y]
      · simp only [List.mem_cons, List.not_mem_nil, or_false] at m0 m1 m2
        omega
      · rw [if_pos m0, if_pos m1, if_neg m2, if_pos m0, if_pos m1]
        exact ⟨[], rfl, fun z h => nomatch h⟩
    · rw [if_pos m0, if_neg m1, if_pos m0, if_neg m1]
      by_cases m2 : (2 : Int) ∈ [x, y]
      · rw [if_pos m2]
        exact ⟨[], rfl, fun z h => nomatch h⟩
      · rw [if_neg m2]
        exact ⟨[2], rfl, by simp⟩
  · rw [if_neg m0, if_neg m0]
    by_cases m1 : (1 : Int) ∈ [x, y] <;> by_cases m2 : (2 : Int) ∈ [x, y]
    · rw [if_pos m1, if_pos m2]; exact ⟨[], rfl, fun z h => nomatch h⟩
    · rw [if_pos m1, if_neg m2]; exact ⟨[2], rfl, by simp⟩
    · rw [if_neg m1, if_pos m2]; exact ⟨[1], rfl, by simp⟩
    · rw [if_neg m1, if_neg m2]; exact ⟨[1, 2], rfl, by simp⟩
end K53

set_option Elab.async false
set_option linter.all false
set_option maxRecDepth 100000
set_option maxHeartbeats 4000000
namespace K53
open PySem PySem.Spec L2 B
theorem w_notInT2 {z x y : Int} {P : Rs → Prop} : optW (gNotIn (.int z) (.nd .tup [.int x, .int y])) P ↔ P (.fz (.bl (!decide (z ∈ [x, y])))) := w_notInT (ns := [x, y])
theorem isLen {n : Nat} {g : Nat → Int} : ((ring n g).map D.int).length = n := by rw [List.length_map, ring_len]
theorem get543 {i : Nat} {d : D} (h : [D.int 5, .int 4, .int 3][i]? = some d) : i < 3 ∧ d = .int (5 - (i : Int)) := by
  match i, h with
  | 0, h => cases h; exact ⟨by decide, rfl⟩
  | 1, h => cases h; exact ⟨by decide, rfl⟩
  | 2, h => cases h; exact ⟨by decide, rfl⟩
  | i + 3, h => simp at h
/-- a pass over all places, one colour made fewer -/
theorem pass {n : Nat} {last : Int} {G : Nat → Int} (hn : 2 ≤ n) (hn2 : n ≤ 1000) (p : Pr n (last + 1) G) (a b s4 s7 s8 : Sl) {Q : Fl → B.Env → Prop} {E : Exn → B.Env → Prop}
    (h : ∀ s7 s8, Q .nx [a, b, .fz (.int n), .own none (iL (ring n G)), s4, .fz (.int last), .own none (iL (ring n (red n last G))), s7, s8, .un]) :
    W (mFor (bnd (mCons (mPl 2) mNil) rngA) (gSet 7) (mIfS (asB (mOp gEq (mP (mOp gIx (mPl 3) (mPl 7))) (mPl 5))) (seqF (mSet 8 (mTup (mCons (mP (mOp gIx (mPl 3) (mP (mOp gSub (mPl 7) (mP (mC (.int 1))))))) (mCons (mP (mOp gIx (mPl 3) (mP (mOp gMod (mP (mOp gAdd (mPl 7) (mP (mC (.int 1))))) (mPl 2))))) (mNil)))))
  (mSetIx 6 (mOp gIx (mP (mComp [9] (mIter (mTup (mCons (mP (mC (.int 0))) (mCons (mP (mC (.int 1))) (mCons (mP (mC (.int 2))) (mNil)))))) (gSet 9) (asB (mOp gNotIn (mPl 9) (mPl 8))) (mVar 9))) (mP (mC (.int 0)))) (mVar 7))) (ret .nx)))
  [a, b, .fz (.int n), .own none (iL (ring n G)), s4, .fz (.int last), .own none (iL (ring n G)), s7, s8, .un] Q E := by
  simp
  refine ⟨inR_iff.mpr (by omega), W_forL (fun k β => ∃ s7 s8, k ≤ n ∧ β = [a, b, .fz (.int n), .own none (iL (ring n G)), s4, .fz (.int last), .own none (iL (ring n (mix n last G k))), s7, s8, .un]) ⟨s7, s8, Nat.zero_le _, by rw [mix_zero]⟩ (fun k d β hd hI => ?_) fun β hI => ?_⟩
  · obtain ⟨s7, s8, hk0, e⟩ := hI
    subst e
    have hk := (rng_get hd).1
    have ed := (rng_get hd).2
    subst ed
    have hx := nx_lt hk
    have hnp : (0 : Int) < n := by omega
    simp [at_ring hk]
    split
    · rename_i hl
      simp [at_pv hk, hnp, nx_mod hk, at_ring hx]
      have er : fr (G (pv n k)) (G (nx n k)) = red n last G k := by unfold red; rw [if_pos hl]
      obtain ⟨r, hr, _⟩ := three (x := G (pv n k)) (y := G (nx n k))
      refine ⟨by omega, sz (by decide), sz (by decide), W_compF (fun d => !decide (dI d ∈ [G (pv n k), G (nx n k)])) id (by rfl) (szlt (by decide)) (fun d hd => ?_) ?_⟩
      · have : ∃ z : Int, d = .int z := by
          simp only [List.mem_cons, List.not_mem_nil, or_false] at hd
          rcases hd with e | e | e <;> exact ⟨_, e⟩
        obtain ⟨z, e⟩ := this
        subst e
        simp [wipeB, w_notInT2, dI]
      · rw [hr, List.map_id, er]
        simp [wipeB, backB]
        rw [ring_len, ixN_of (n := n) (i := (k : Int)) (by omega) (by omega)]
        exact ⟨by omega, mix_set hk⟩
    · rename_i hl
      exact ⟨by omega, by rw [mix_same hl]⟩
  · obtain ⟨s7, s8, hk0, e⟩ := hI
    rw [rng_len] at e
    subst e
    simp only [mix_all]
    exact h s7 s8
/-- three colours made fewer, whatever the body is that makes one so -/
theorem passes {n : Nat} {G : Nat → Int} {body : M Fl} (hn : 2 ≤ n) (pe : Pr n 6 G) (a b : Sl)
    (step : ∀ (last : Int) (G : Nat → Int) (s4 s6 s7 s8 : Sl) (Q : Fl → B.Env → Prop) (E : Exn → B.Env → Prop), Pr n (last + 1) G → (∀ s6 s7 s8, Q .nx [a, b, .fz (.int n), .own none (iL (ring n (red n last G))), s4, .fz (.int last), s6, s7, s8, .un]) →
      W body [a, b, .fz (.int n), .own none (iL (ring n G)), s4, .fz (.int last), s6, s7, s8, .un] Q E) (s4 s5 s6 s7 s8 : Sl) {Q : Fl → B.Env → Prop} {E : Exn → B.Env → Prop}
    (h : ∀ s4 s5 s6 s7 s8, Q .nx [a, b, .fz (.int n), .own none (iL (ring n (rd n G 3))), s4, s5, s6, s7, s8, .un]) :
    W (forL (gSet 5) body [D.int 5, .int 4, .int 3]) [a, b, .fz (.int n), .own none (iL (ring n G)), s4, s5, s6, s7, s8, .un] Q E := by
  refine W_forL (fun i β => ∃ s4 s5 s6 s7 s8, i ≤ 3 ∧ β = [a, b, .fz (.int n), .own none (iL (ring n (rd n G i))), s4, s5, s6, s7, s8, .un]) ⟨_, _, _, _, _, Nat.zero_le _, rfl⟩ (fun i d β hd hI => ?_) fun β hI => ?_
  · obtain ⟨s4, s5, s6, s7, s8, hi, e⟩ := hI
    subst e
    have ed := get543 hd
    have hi2 := ed.1
    have ed := ed.2
    subst ed
    have q := rd_Pr pe hn i hi
    have e1 : (6 : Int) - (i : Int) = (5 - (i : Int)) + 1 := by omega
    rw [e1] at q
    rw [W_gSet]
    refine step _ _ _ _ _ _ _ _ q fun s6 s7 s8 => ?_
    exact ⟨_, _, _, _, _, by omega, rfl⟩
  · obtain ⟨s4, s5, s6, s7, s8, hi, e⟩ := hI
    subst e
    exact h s4 s5 s6 s7 s8
theorem pbody {n : Nat} (hn : 2 ≤ n) (hn2 : n ≤ 1000) (a b : Sl) (last : Int) (G : Nat → Int) (s4 s6 s7 s8 : Sl) (Q : Fl → B.Env → Prop) (E : Exn → B.Env → Prop) (q : Pr n (last + 1) G) (h : ∀ s6 s7 s8, Q .nx [a, b, .fz (.int n), .own none (iL (ring n (red n last G))), s4, .fz (.int last), s6, s7, s8, .un]) :
    W (seqF (mSet 6 (mCall gList (mCons (mPl 3) mNil))) (seqF (mFor (bnd (mCons (mPl 2) mNil) rngA) (gSet 7) (mIfS (asB (mOp gEq (mP (mOp gIx (mPl 3) (mPl 7))) (mPl 5))) (seqF (mSet 8 (mTup (mCons (mP (mOp gIx (mPl 3) (mP (mOp gSub (mPl 7) (mP (mC (.int 1))))))) (mCons (mP (mOp gIx (mPl 3) (mP (mOp gMod (mP (mOp gAdd (mPl 7) (mP (mC (.int 1))))) (mPl 2))))) (mNil)))))
  (mSetIx 6 (mOp gIx (mP (mComp [9] (mIter (mTup (mCons (mP (mC (.int 0))) (mCons (mP (mC (.int 1))) (mCons (mP (mC (.int 2))) (mNil)))))) (gSet 9) (asB (mOp gNotIn (mPl 9) (mPl 8))) (mVar 9))) (mP (mC (.int 0)))) (mVar 7))) (B.ret .nx))) (mSet 3 (mMv 6)))) [a, b, .fz (.int n), .own none (iL (ring n G)), s4, .fz (.int last), s6, s7, s8, .un] Q E := by
  refine W_seq_of (fun β => β = [a, b, .fz (.int n), .own none (iL (ring n G)), s4, .fz (.int last), .own none (iL (ring n G)), s7, s8, .un]) (by simp) fun β e => ?_
  rw [e, W_seqF]
  refine pass hn hn2 q _ _ _ _ _ fun s7 s8 => ?_
  simp
  exact h _ _ _
theorem painted {n r f : Nat} {g : Nat → Int} (hn : 2 ≤ n) (hn2 : n ≤ 1000) (f1 : 1 ≤ f) (f2 : f ≤ 64) (hr : Rr r (2 ^ f)) (hr2 : r ≤ 200) (p : Pr n ((2 ^ f : Nat) : Int) g) {Q} {E} (h : Q (.own (iL (ring n (fin_ n r g)))) []) : FW (r_P_painted [iL (ring n g), .int f]) Q E := by
  have hm : 2 ^ f ≤ 2 ^ 64 := Nat.pow_le_pow_right (by decide) f2
  unfold r_P_painted m_P_painted
  rw [FW_run]
  simp [start0, par, ring_len]
  refine rounds f1 f2 hr ?_
  simp
  refine ⟨inR_iff.mpr (by omega), W_forL (fun i β => ∃ sl, i ≤ r ∧ β = [.fz (iL (ring n g)), .fz (.int f), .fz (.int n), .own none (iL (ring n (its n g i))), sl, .un, .un, .un, .un, .un]) ⟨.un, Nat.zero_le _, rfl⟩ (fun i d β hd hI => ?_) fun β hI => ?_⟩
  · obtain ⟨sl, hi, e⟩ := hI
    subst e
    have hi2 := (rng_get hd).1
    have ed := (rng_get hd).2
    subst ed
    have pi := its_Pr hr hm p i hi
    have mi := mm_le hr hm i hi
    simp
    refine ⟨inR_iff.mpr (by omega), W_compF (fun _ => true) (fun d => .int (stp n (its n g i) (dN d))) (by rfl) (by rw [rng_len]; exact szlt (by omega)) (fun d hd => ?_) ?_⟩
    · obtain ⟨k, hk⟩ := List.getElem?_of_mem hd
      have hk2 := (rng_get hk).1
      have ed := (rng_get hk).2
      subst ed
      have hx := nx_lt hk2
      have a1 := pi.hi k hk2
      have a2 := pi.hi _ hx
      have hnp : (0 : Int) < n := by omega
      simp [wipeB, at_ring hk2, nx_mod hk2, at_ring hx]
      refine ⟨by omega, paint_by (pi.lo k hk2) (pi.lo _ hx) (by omega) (by omega) (pi.ne k hk2) ?_⟩
      simp [dN]
      rfl
    · have e := map_rng (n := n) (g := stp n (its n g i)) (fun d => D.int (stp n (its n g i) (dN d))) fun k hk => by simp [dN]
      rw [e]
      simp [wipeB, backB]
      exact ⟨by omega, rfl⟩
  · obtain ⟨sl, hi, e⟩ := hI
    rw [rng_len] at e
    subst e
    have pe := its_end hr hm p
    simp
    refine passes hn pe _ _ (pbody hn hn2 _ _) _ _ _ _ _ fun s4 s5 s6 s7 s8 => ?_
    simp
    exact h
end K53

set_option Elab.async false
set_option linter.all false
set_option maxRecDepth 100000
set_option maxHeartbeats 4000000
namespace K53
open PySem PySem.Spec L2 B
theorem ints_ring (ns : List Int) : ints? (ns.map D.int) = some ns := ints_map ns
theorem foldl_min_same {m : Int} : ∀ {r : List Int}, (∀ z ∈ r, m ≤ z) → r.foldl (fun a b => if b < a then b else a) m = m
  | [], _ => rfl
  | z :: r, h => by
    have hz := h z List.mem_cons_self
    rw [List.foldl_cons, if_neg (by omega)]
    exact foldl_min_same fun x hx => h x (List.mem_cons_of_mem _ hx)
theorem w_min {m : Int} {r : List Int} (h : ∀ z ∈ r, m ≤ z) {P : Rs → Prop} : optW (gMin [.nd .lst ((m :: r).map D.int)]) P ↔ P (.fz (.int m)) := by
  unfold gMin gLI
  show optW ((ints? ((m :: r).map D.int)).bind fun ns => (minI ns).map Rs.fz) P ↔ _
  rw [ints_ring]
  show optW (some (Rs.fz (.int (r.foldl (fun a b => if b < a then b else a) m)))) P ↔ _
  rw [foldl_min_same h]
  exact Iff.rfl
theorem w_min' {m : Int} {r : List Int} (h : ∀ z ∈ r, m ≤ z) {P : Rs → Prop} : optW (gMin [.nd .lst (D.int m :: r.map D.int)]) P ↔ P (.fz (.int m)) := w_min h
theorem dbl {n k : Nat} {g : Nat → Int} (hk : k < n) : atI ((ring n g).map D.int ++ (ring n g).map D.int) ((k : Int) + 1) = some (.int (g (nx n k))) := by
  have e : (k : Int) + 1 = ((k + 1 : Nat) : Int) := by omega
  rw [e, atI_nat']
  unfold nx
  split
  · rename_i q
    rw [List.getElem?_append_right (by rw [isLen]; omega), isLen, List.getElem?_map, ring_get (by omega)]
    have : k + 1 - n = 0 := by omega
    rw [this]
    rfl
  · rw [List.getElem?_append_left (by rw [isLen]; omega), List.getElem?_map, ring_get (by omega)]
    rfl
theorem w_notInL2 {z x y : Int} {P : Rs → Prop} : optW (gNotIn (.int z) (.nd .lst [.int x, .int y])) P ↔ P (.fz (.bl (!decide (z ∈ [x, y])))) := w_notInL (ns := [x, y])
/-- where a place is made anew its neighbours stand as they were -/
theorem mix_pv {n k : Nat} {last : Int} {G : Nat → Int} (p : Pr n (last + 1) G) (hn : 2 ≤ n) (hk : k < n) (hl : G k = last) : mix n last G k (pv n k) = G (pv n k) := by
  unfold mix
  split
  · unfold red
    have := p.ne (pv n k) (pv_lt hk)
    rw [nx_pv hk hn, hl] at this
    rw [if_neg this]
  · rfl
theorem mix_nx {n k : Nat} {last : Int} {G : Nat → Int} (p : Pr n (last + 1) G) (hk : k < n) (hl : G k = last) : mix n last G k (nx n k) = G (nx n k) := by
  unfold mix
  split
  · unfold red
    have := p.ne k hk
    rw [hl] at this
    rw [if_neg fun e => this e.symm]
  · rfl
theorem mix_at {n k : Nat} {last : Int} {G : Nat → Int} : mix n last G k k = G k := by
  unfold mix
  rw [if_neg (by omega)]
def pbD : D → D
  | .nd .tup [.int a, .int b] => .int (pb a b)
  | _ => .non
theorem cut1 (ns : List D) (h : ns ≠ []) : cut ns (some 1) none ++ cut ns none (some 1) = ns.drop 1 ++ ns.take 1 := by
  have hl : 0 < ns.length := List.length_pos_iff.mpr h
  unfold cut HT.sIx
  simp
  have : min 1 ns.length = 1 := by omega
  rw [this]
  simp
  exact List.take_of_length_le (by simp)
theorem rot_get {n k : Nat} {g : Nat → Int} (hk : k < n) : (((ring n g).map D.int).drop 1 ++ ((ring n g).map D.int).take 1)[k]? = some (.int (g (nx n k))) := by
  unfold nx
  split
  · rw [List.getElem?_append_right (by rw [List.length_drop, isLen]; omega), List.length_drop, isLen]
    have : k - (n - 1) = 0 := by omega
    rw [this, List.getElem?_take_of_lt (by omega), List.getElem?_map, ring_get (by omega)]
    rfl
  · rw [List.getElem?_append_left (by rw [List.length_drop, isLen]; omega), List.getElem?_drop, List.getElem?_map, Nat.add_comm, ring_get (by omega)]
    rfl
theorem zip_get {n k : Nat} {g : Nat → Int} {d : D} (h : (zipD ((ring n g).map D.int) (((ring n g).map D.int).drop 1 ++ ((ring n g).map D.int).take 1))[k]? = some d) : k < n ∧ d = .nd .tup [.int (g k), .int (g (nx n k))] := by
  unfold zipD at h
  rw [List.getElem?_zipWith] at h
  by_cases hk : k < n
  · rw [rot_get hk, List.getElem?_map, ring_get hk] at h
    cases h
    exact ⟨hk, rfl⟩
  · rw [List.getElem?_eq_none (l := (ring n g).map D.int) (by rw [isLen]; omega)] at h
    cases h
theorem zip_len {n : Nat} {g : Nat → Int} (hn : 2 ≤ n) : (zipD ((ring n g).map D.int) (((ring n g).map D.int).drop 1 ++ ((ring n g).map D.int).take 1)).length = n := by
  unfold zipD
  rw [List.length_zipWith, List.length_append, List.length_drop, List.length_take, isLen]
  omega
theorem zip_map {n : Nat} {g : Nat → Int} (hn : 2 ≤ n) : ((zipD ((ring n g).map D.int) (((ring n g).map D.int).drop 1 ++ ((ring n g).map D.int).take 1)).filter fun _ => true).map pbD = (ring n (stp n g)).map D.int := by
  rw [List.filter_eq_self.mpr fun _ _ => rfl]
  apply List.ext_getElem?
  intro k
  rw [List.getElem?_map]
  by_cases hk : k < n
  · cases e : (zipD ((ring n g).map D.int) (((ring n g).map D.int).drop 1 ++ ((ring n g).map D.int).take 1))[k]? with
    | none =>
      rw [List.getElem?_eq_none_iff, zip_len hn] at e
      omega
    | some d =>
      obtain ⟨_, rfl⟩ := zip_get e
      rw [List.getElem?_map, ring_get hk]
      rfl
  · rw [List.getElem?_eq_none (by rw [zip_len hn]; omega), List.getElem?_eq_none (by rw [isLen]; omega)]
    rfl
end K53

set_option Elab.async false
set_option linter.all false
set_option maxRecDepth 100000
set_option maxHeartbeats 4000000
namespace K53
open PySem PySem.Spec L2 B
theorem w_all {bs : List Bool} {P : Rs → Prop} : optW (gAll [.nd .lst (bs.map D.bl)]) P ↔ P (.fz (.bl (bs.all id))) := by
  unfold gAll gLB
  show optW ((bls? (bs.map D.bl)).map fun ns => Rs.fz (.bl (ns.all id))) P ↔ _
  rw [bls_map]
  exact Iff.rfl
theorem Nm_pr {n f : Nat} {g : Nat → Int} (h : Nm f (ring n g)) (hn : 2 ≤ n) : Pr n ((2 ^ f : Nat) : Int) g := by
  have mem : ∀ k, k < n → g k ∈ ring n g := fun k hk => List.mem_of_getElem? (ring_get hk)
  refine ⟨fun k hk => h.lo _ (mem k hk), fun k hk => by rw [← pow_cast]; exact h.hi _ (mem k hk), fun k hk e => ?_⟩
  have hx := nx_lt hk
  have l1 : k < (ring n g).length := by rw [ring_len]; exact hk
  have l2 : nx n k < (ring n g).length := by rw [ring_len]; exact hx
  have e1 : (ring n g)[k] = g k := Option.some.inj ((List.getElem?_eq_getElem l1).symm.trans (ring_get hk))
  have e2 : (ring n g)[nx n k] = g (nx n k) := Option.some.inj ((List.getElem?_eq_getElem l2).symm.trans (ring_get hx))
  have key : k = nx n k := by
    rcases Nat.lt_trichotomy k (nx n k) with q | q | q
    · exact absurd (e1.trans (e.trans e2.symm)) (List.pairwise_iff_getElem.mp h.nd k (nx n k) l1 l2 q)
    · exact q
    · exact absurd (e1.trans (e.trans e2.symm)).symm (List.pairwise_iff_getElem.mp h.nd (nx n k) k l2 l1 q)
  have this := key
  unfold nx at this
  split at this <;> omega
theorem fin_Pr {n f r : Nat} {g : Nat → Int} (hn : 2 ≤ n) (f2 : f ≤ 64) (hr : Rr r (2 ^ f)) (p : Pr n ((2 ^ f : Nat) : Int) g) : Pr n 3 (fin_ n r g) := rd_Pr (its_end hr (Nat.pow_le_pow_right (by decide) f2) p) hn 3 (Nat.le_refl _)
end K53

set_option Elab.async false
set_option linter.all false
set_option maxRecDepth 100000
set_option maxHeartbeats 4000000
namespace K53
open PySem PySem.Spec L2 B
/-- a slot that owns nothing -/
def NS : Sl → Prop
  | .own _ _ => False
  | _ => True
theorem NS.no {s : Sl} (h : NS s) : (match some s with
  | some (.own _ _) => false
  | _ => true) = true := by cases s <;> first | rfl | cases h
@[simp] theorem NS_un : NS .un := trivial
@[simp] theorem NS_fz {d : D} : NS (.fz d) := trivial
/-! ## posts -/
def mk (n : Nat) (c : Nat → Int) : Nat → Nat → Bool
  | 0, _ => false
  | i + 1, k => mk n c i k || (decide (c k = (i : Int)) && (!mk n c i (pv n k) && !mk n c i (nx n k)))
theorem pv_nx {n k : Nat} (h : k < n) (h2 : 2 ≤ n) : pv n (nx n k) = k := by unfold nx pv; split <;> split <;> omega
section
variable {n : Nat} {c : Nat → Int}
theorem mk_other {i k : Nat} (h : c k ≠ (i : Int)) : mk n c (i + 1) k = mk n c i k := by
  show (mk n c i k || (decide (c k = (i : Int)) && _)) = _
  rw [decide_eq_false h]
  simp
theorem mk_pv {i k : Nat} (p : Pr n 3 c) (hn : 2 ≤ n) (hk : k < n) (h : c k = (i : Int)) : mk n c (i + 1) (pv n k) = mk n c i (pv n k) := mk_other fun e => by
  have := p.ne (pv n k) (pv_lt hk)
  rw [nx_pv hk hn] at this
  exact this (e.trans h.symm)
theorem mk_nx {i k : Nat} (p : Pr n 3 c) (hk : k < n) (h : c k = (i : Int)) : mk n c (i + 1) (nx n k) = mk n c i (nx n k) := mk_other fun e => p.ne k hk (h.trans e.symm)
theorem mk_up {i j k : Nat} (h : i ≤ j) (m : mk n c i k = true) : mk n c j k = true := by
  induction h with
  | refl => exact m
  | step _ ih =>
    show (mk n c _ k || _) = true
    rw [ih]
    rfl
/-- no two posts side by side -/
theorem post_apart (p : Pr n 3 c) (hn : 2 ≤ n) {i k : Nat} (hk : k < n) : mk n c i k = true → mk n c i (nx n k) = true → False := by
  induction i with
  | zero => intro h; cases h
  | succ i ih =>
    intro h1 h2
    by_cases e1 : c k = (i : Int)
    · rw [mk_nx p hk e1] at h2
      have h1 : (mk n c i k || (decide (c k = (i : Int)) && (!mk n c i (pv n k) && !mk n c i (nx n k)))) = true := h1
      rw [h2] at h1
      simp at h1
      exact ih h1 h2
    · rw [mk_other e1] at h1
      by_cases e2 : c (nx n k) = (i : Int)
      · have h2 : (mk n c i (nx n k) || (decide (c (nx n k) = (i : Int)) && (!mk n c i (pv n (nx n k)) && !mk n c i (nx n (nx n k))))) = true := h2
        rw [pv_nx hk hn, h1] at h2
        simp at h2
        exact ih h1 h2
      · rw [mk_other e2] at h2
        exact ih h1 h2
/-- where no post is there is one beside -/
theorem post_near (p : Pr n 3 c) {k : Nat} (hk : k < n) (h : mk n c 3 k = false) : mk n c 3 (pv n k) = true ∨ mk n c 3 (nx n k) = true := by
  have h0 := p.lo k hk
  have h3 := p.hi k hk
  obtain ⟨i, hi, e⟩ : ∃ i : Nat, i < 3 ∧ c k = (i : Int) := ⟨(c k).toNat, by omega, by omega⟩
  have hm : mk n c (i + 1) k = false := by
    cases q : mk n c (i + 1) k with
    | false => rfl
    | true => rw [mk_up (by omega) q] at h; cases h
  have hm : (mk n c i k || (decide (c k = (i : Int)) && (!mk n c i (pv n k) && !mk n c i (nx n k)))) = false := hm
  rw [decide_eq_true e] at hm
  simp at hm
  cases q : mk n c i (pv n k) with
  | true => exact .inl (mk_up (by omega) q)
  | false => exact .inr (mk_up (by omega) (hm.2 q))
end
/-- the places of the posts -/
def PL (n : Nat) (c : Nat → Int) : List Nat := (List.range n).filter (mk n c 3)
abbrev nL (l : List Nat) : D := iL (l.map fun k : Nat => (k : Int))
/-! the program's -/
abbrev bL (n : Nat) (m : Nat → Bool) : D := .nd .lst ((List.range n).map fun k => D.bl (m k))
def mkx (n : Nat) (c : Nat → Int) (i k j : Nat) : Bool := if j < k then mk n c (i + 1) j else mk n c i j
theorem mkx_zero {n i : Nat} {c : Nat → Int} : mkx n c i 0 = mk n c i := by
  funext j
  simp [mkx]
theorem bL_ext {n : Nat} {m m' : Nat → Bool} (h : ∀ k, k < n → m k = m' k) : bL n m = bL n m' := by
  show D.nd .lst _ = D.nd .lst _
  congr 1
  exact List.map_congr_left fun k hk => by rw [h k (List.mem_range.mp hk)]
theorem mkx_all {n i : Nat} {c : Nat → Int} : bL n (mkx n c i n) = bL n (mk n c (i + 1)) := bL_ext fun k hk => by simp [mkx, hk]
theorem at_bL {n k : Nat} {m : Nat → Bool} (h : k < n) : atI ((List.range n).map fun k => D.bl (m k)) (k : Int) = some (.bl (m k)) := by
  rw [atI_nat', List.getElem?_map, List.getElem?_range h]
  rfl
theorem at_bLp {n k : Nat} {m : Nat → Bool} (h : k < n) : atI ((List.range n).map fun k => D.bl (m k)) ((k : Int) - 1) = some (.bl (m (pv n k))) := by
  have hl : ((List.range n).map fun k => D.bl (m k)).length = n := by simp
  by_cases e : k = 0
  · subst e
    rw [atI_neg (by omega) (by rw [hl]; omega), hl]
    have e2 : ((0 : Nat) - 1 + (n : Int) : Int).toNat = n - 1 := by omega
    rw [show (((0 : Nat) : Int) - 1 + (n : Int)).toNat = n - 1 by omega]
    rw [List.getElem?_map, List.getElem?_range (by omega)]
    simp [pv]
  · have e2 : (k : Int) - 1 = ((k - 1 : Nat) : Int) := by omega
    rw [e2, at_bL (by omega)]
    simp [pv, e]
theorem bL_set {n k : Nat} {m m' : Nat → Bool} (hk : k < n) (h1 : m' k = true) (h2 : ∀ j, j ≠ k → m' j = m j) : ((List.range n).map fun k => D.bl (m k)).set k (.bl true) = (List.range n).map fun k => D.bl (m' k) := by
  apply List.ext_getElem?
  intro j
  by_cases hj : j = k
  · subst hj
    rw [List.getElem?_set_self (by simp; exact hk), List.getElem?_map, List.getElem?_range hk]
    simp [h1]
  · rw [List.getElem?_set_ne (Ne.symm hj), List.getElem?_map, List.getElem?_map]
    by_cases hl : j < n
    · rw [List.getElem?_range hl]
      simp [h2 j hj]
    · rw [List.getElem?_eq_none (by simp; omega)]
      rfl
theorem mkx_yes {n i k : Nat} {c : Nat → Int} (p : Pr n 3 c) (hn : 2 ≤ n) (hk : k < n) (h : c k = (i : Int)) : (mkx n c i k (pv n k) = mk n c i (pv n k)) ∧ mkx n c i k (nx n k) = mk n c i (nx n k) := by
  unfold mkx
  constructor
  · split
    · exact mk_pv p hn hk h
    · rfl
  · split
    · exact mk_nx p hk h
    · rfl
theorem mkx_succ {n i k : Nat} {c : Nat → Int} (j : Nat) (hj : j ≠ k) : mkx n c i (k + 1) j = mkx n c i k j := by
  unfold mkx
  by_cases h : j < k
  · rw [if_pos h, if_pos (by omega)]
  · rw [if_neg h, if_neg (by omega)]
theorem mkx_at {n i k : Nat} {c : Nat → Int} : mkx n c i (k + 1) k = mk n c (i + 1) k := by simp [mkx]
theorem mkx_old {n i k : Nat} {c : Nat → Int} : mkx n c i k k = mk n c i k := by simp [mkx]
theorem mk_step {n i k : Nat} {c : Nat → Int} : mk n c (i + 1) k = (mk n c i k || (decide (c k = (i : Int)) && (!mk n c i (pv n k) && !mk n c i (nx n k)))) := rfl
theorem mkx_stay {n i k : Nat} {c : Nat → Int} (h : mk n c (i + 1) k = mk n c i k) (a : Nat) (ha : a < n) : mkx n c i k a = mkx n c i (k + 1) a := by
  by_cases e : a = k
  · subst e
    rw [mkx_at, mkx_old, h]
  · exact (mkx_succ a e).symm
theorem mkx_put {n i k : Nat} {c : Nat → Int} (hk : k < n) (h : mk n c (i + 1) k = true) : ((List.range n).map fun k1 => D.bl (mkx n c i k k1)).set k (.bl true) = (List.range n).map fun k1 => D.bl (mkx n c i (k + 1) k1) :=
  bL_set hk (by rw [mkx_at, h]) fun j hj => mkx_succ j hj
theorem posts_in {n r f : Nat} {g : Nat → Int} (hn : 2 ≤ n) (hn2 : n ≤ 1000) (f1 : 1 ≤ f) (f2 : f ≤ 64) (hr : Rr r (2 ^ f)) (hr2 : r ≤ 200) (p : Pr n ((2 ^ f : Nat) : Int) g) {Q} {E} (h : Q (.own (nL (PL n (fin_ n r g)))) []) : FW (r_P_posts_in [iL (ring n g), .int f]) Q E := by
  have pf := fin_Pr hn f2 hr p
  generalize hc : fin_ n r g = c at pf h
  unfold r_P_posts_in m_P_posts_in
  rw [FW_run]
  simp [start0, par, ring_len]
  refine painted hn hn2 f1 f2 hr hr2 p ?_
  rw [hc]
  simp
  refine W_compF (fun _ => true) (fun _ => .bl false) (by rfl) (by rw [isLen]; exact szlt (by omega)) (fun d hd => by simp [wipeB]) ?_
  have e0 : ((List.map D.int (ring n g)).filter fun _ => true).map (fun _ => D.bl false) = (List.range n).map fun k => D.bl (mk n c 0 k) := by
    rw [List.filter_eq_self.mpr fun _ _ => rfl, List.map_map]
    unfold ring
    rw [List.map_map]
    rfl
  rw [e0]
  simp [wipeB, backB]
  refine ⟨sz (by decide), W_forL (fun i β => ∃ s5 s6, NS s6 ∧ β = [.fz (iL (ring n g)), .fz (.int f), .fz (.int n), .own none (iL (ring n c)), .own none (bL n (mk n c i)), s5, s6, .un]) ⟨_, _, NS_un, rfl⟩ (fun i d β hd hI => ?_) fun β hI => ?_⟩
  · obtain ⟨s5, s6, hs6, rfl⟩ := hI
    have hd3 : i < 3 ∧ d = .int (i : Int) := by
      match i, hd with
      | 0, hd => simp at hd; exact ⟨by decide, hd.symm⟩
      | 1, hd => simp at hd; exact ⟨by decide, hd.symm⟩
      | 2, hd => simp at hd; exact ⟨by decide, hd.symm⟩
      | i + 3, hd => simp at hd
    obtain ⟨hi, rfl⟩ := hd3
    simp
    refine ⟨inR_iff.mpr (by omega), W_forL (fun k β => ∃ s6, NS s6 ∧ β = [.fz (iL (ring n g)), .fz (.int f), .fz (.int n), .own none (iL (ring n c)), .own none (bL n (mkx n c i k)), .fz (.int i), s6, .un]) ⟨_, hs6, by rw [mkx_zero]⟩ (fun k d β hd hI => ?_) fun β hI => ?_⟩
    · obtain ⟨s6, hs6, rfl⟩ := hI
      obtain ⟨hk, rfl⟩ := rng_get hd
      simp [at_ring hk]
      by_cases e : c k = (i : Int)
      · obtain ⟨y1, y2⟩ := mkx_yes pf hn hk e
        simp [e, at_bLp hk, y1, nx_mod hk, at_bL (nx_lt hk), y2]
        cases q1 : mk n c i (pv n k) with
        | true =>
          simp
          exact mkx_stay (by rw [mk_step, q1]; simp)
        | false =>
          cases q2 : mk n c i (nx n k) with
          | true =>
            simp
            exact ⟨by omega, mkx_stay (k := k) (by rw [mk_step (k := k), q2]; simp)⟩
          | false =>
            have hk0 : 0 < n := by omega
            simp [hk0, ixN_of (show (0 : Int) ≤ (k : Int) by omega) (show (k : Int) < (n : Int) by omega)]
            exact mkx_put hk (by rw [mk_step, q1, q2, decide_eq_true e]; simp)
      · simp [e]
        exact mkx_stay (mk_other e)
    · obtain ⟨s6, hs6, rfl⟩ := hI
      simp
      rw [rng_len]
      exact ⟨_, _, hs6, fun a ha => (by simp [mkx, ha]), rfl, rfl⟩
  · obtain ⟨s5, s6, hs6, rfl⟩ := hI
    simp
    refine ⟨inR_iff.mpr (by omega), W_compF (fun d => mk n c 3 (dN d)) id (by cases s6 <;> first | rfl | cases hs6) (by rw [rng_len]; exact szlt (by omega)) (fun d hd => ?_) ?_⟩
    · obtain ⟨k, hk0⟩ := List.getElem?_of_mem hd
      obtain ⟨hk, rfl⟩ := rng_get hk0
      simp [wipeB, at_bL hk, dN]
    · have e1 : (((rng 0 (n : Int)).filter fun d => mk n c 3 (dN d)).map id) = ((PL n c).map fun k : Nat => (k : Int)).map D.int := by
        rw [List.map_id, rng0, List.filter_map, List.map_map]
        rfl
      rw [e1]
      simp only [wipeB, backB]
      simp
      rw [← List.map_map]
      exact h
end K53

set_option Elab.async false
set_option linter.all false
set_option maxRecDepth 100000
set_option maxHeartbeats 4000000
namespace K53
open PySem PySem.Spec L2 B
theorem mk_lt {n k : Nat} {c : Nat → Int} : ∀ {i : Nat}, mk n c i k = true → ∃ i' : Nat, i' < i ∧ c k = (i' : Int)
  | 0, h => by cases h
  | i + 1, h => by
    by_cases e : c k = (i : Int)
    · exact ⟨i, by omega, e⟩
    · rw [mk_other e] at h
      obtain ⟨i', h1, h2⟩ := mk_lt h
      exact ⟨i', by omega, h2⟩
/-- a list of the places where m holds -/
structure FD (n : Nat) (m : Nat → Bool) (fl : List Int) : Prop where make ::
  nd : fl.Nodup
  sub : ∀ z ∈ fl, ∃ j : Nat, j < n ∧ z = (j : Int)
  mem : ∀ j : Nat, j < n → ((j : Int) ∈ fl ↔ m j = true)
theorem FD.len {n : Nat} {m : Nat → Bool} {fl : List Int} (h : FD n m fl) : fl.length ≤ n := by
  have := nodup_le h.nd (m := (List.range n).map fun k : Nat => (k : Int)) fun z hz => by
    obtain ⟨j, hj, rfl⟩ := h.sub z hz
    exact List.mem_map.mpr ⟨j, List.mem_range.mpr hj, rfl⟩
  simpa using this
theorem FD.ext {n : Nat} {m m' : Nat → Bool} {fl : List Int} (h : FD n m fl) (e : ∀ j, j < n → m j = m' j) : FD n m' fl := ⟨h.nd, h.sub, fun j hj => by rw [h.mem j hj, e j hj]⟩
theorem FD.put {n k : Nat} {m m' : Nat → Bool} {fl : List Int} (h : FD n m fl) (hk : k < n) (h0 : m k = false) (h1 : m' k = true) (e : ∀ j, j ≠ k → m' j = m j) : FD n m' (fl ++ [(k : Int)]) := by
  refine ⟨?_, fun z hz => ?_, fun j hj => ?_⟩
  · refine List.nodup_append.mpr ⟨h.nd, by simp, fun z hz y hy => ?_⟩
    rw [List.mem_singleton] at hy
    subst hy
    intro e2
    rw [e2, h.mem k hk, h0] at hz
    cases hz
  · rcases List.mem_append.mp hz with hz | hz
    · exact h.sub z hz
    · rw [List.mem_singleton] at hz
      exact ⟨k, hk, hz⟩
  · rw [List.mem_append, h.mem j hj, List.mem_singleton]
    by_cases ej : j = k
    · subst ej
      simp [h0, h1]
    · rw [e j ej]
      constructor
      · rintro (q | q)
        · exact q
        · omega
      · exact .inl
theorem FD.sorted {n : Nat} {c : Nat → Int} {fl : List Int} (h : FD n (mk n c 3) fl) : fl.Perm ((PL n c).map fun k : Nat => (k : Int)) := by
  refine (List.perm_ext_iff_of_nodup h.nd ?_).mpr fun z => ?_
  · refine List.pairwise_map.mpr (List.Pairwise.imp ?_ (List.Pairwise.sublist List.filter_sublist (List.pairwise_lt_range (n := n))))
    intro a b hab e
    omega
  · constructor
    · intro hz
      obtain ⟨j, hj, rfl⟩ := h.sub z hz
      exact List.mem_map.mpr ⟨j, List.mem_filter.mpr ⟨List.mem_range.mpr hj, (h.mem j hj).mp hz⟩, rfl⟩
    · intro hz
      obtain ⟨j, hj, rfl⟩ := List.mem_map.mp hz
      obtain ⟨h1, h2⟩ := List.mem_filter.mp hj
      exact (h.mem j (List.mem_range.mp h1)).mpr h2
theorem PL_rising (n : Nat) (c : Nat → Int) : (PL n c).Pairwise (· < ·) := List.Pairwise.sublist List.filter_sublist (List.pairwise_lt_range (n := n))
theorem pv_mod {n k : Nat} (h : k < n) : ((k : Int) - 1) % n = (pv n k : Nat) := by
  unfold pv
  split
  · rename_i e
    subst e
    have e2 : ((0 : Nat) : Int) - 1 = -1 := by omega
    rw [e2]
    have : (-1 : Int) % (n : Int) = (n : Int) - 1 := by
      have h3 : (-1 : Int) % (n : Int) = ((n : Int) - 1) % (n : Int) := by
        have e4 : ((n : Int) - 1) = -1 + n := by omega
        rw [e4, Int.add_emod_right]
      rw [h3]
      exact Int.emod_eq_of_lt (by omega) (by omega)
    rw [this]
    omega
  · have e2 : (k : Int) - 1 = ((k - 1 : Nat) : Int) := by omega
    rw [e2]
    exact Int.emod_eq_of_lt (by omega) (by omega)
end K53

set_option Elab.async false
set_option linter.all false
set_option maxRecDepth 100000
set_option maxHeartbeats 4000000
namespace K53
open PySem PySem.Spec L2 B
/-! ## thinned -/
def at0 (pl : List Nat) (j : Nat) : Nat := pl.getD j 0
/-- the next places -/
def stepT (r : Nat) (g : Nat → Int) (pl : List Nat) : List Nat := (PL pl.length (fin_ pl.length r fun j => g (at0 pl j))).map (at0 pl)
def itT (n r : Nat) (g : Nat → Int) : Nat → List Nat
  | 0 => List.range n
  | i + 1 => stepT r g (itT n r g i)
/-- the first time ahead of which fewer than two are left -/
def few (n r : Nat) (g : Nat → Int) (lev : Nat) : Option Nat := (List.range lev).find? fun i => decide ((itT n r g i).length < 2)
/-- places, rising, below n -/
structure Pl (n : Nat) (pl : List Nat) : Prop where
  up : pl.Pairwise (· < ·)
  lt : ∀ k ∈ pl, k < n
theorem at0_get {pl : List Nat} {j : Nat} (h : j < pl.length) : pl[j]? = some (at0 pl j) := by
  rw [List.getElem?_eq_getElem h]
  simp [at0, List.getD, List.getElem?_eq_getElem h]
theorem at0_mem {pl : List Nat} {j : Nat} (h : j < pl.length) : at0 pl j ∈ pl := List.mem_of_getElem? (at0_get h)
theorem Pl.mono {n : Nat} {pl : List Nat} (h : Pl n pl) {i j : Nat} (hij : i < j) (hj : j < pl.length) : at0 pl i < at0 pl j := by
  have e1 := at0_get (pl := pl) (j := i) (by omega)
  have e2 := at0_get hj
  rw [List.getElem?_eq_getElem (by omega)] at e1
  rw [List.getElem?_eq_getElem hj] at e2
  rw [← Option.some.inj e1, ← Option.some.inj e2]
  exact List.pairwise_iff_getElem.mp h.up i j (by omega) hj hij
theorem PL_lt {n k : Nat} {c : Nat → Int} (h : k ∈ PL n c) : k < n := List.mem_range.mp (List.mem_filter.mp h).1
theorem Pl.step {n r : Nat} {g : Nat → Int} {pl : List Nat} (h : Pl n pl) : Pl n (stepT r g pl) := by
  refine ⟨?_, fun k hk => ?_⟩
  · refine List.pairwise_map.mpr (List.Pairwise.imp_of_mem (fun {a b} ha hb hab => h.mono hab (PL_lt hb)) (PL_rising _ _))
  · obtain ⟨j, hj, rfl⟩ := List.mem_map.mp hk
    exact h.lt _ (at0_mem (PL_lt hj))
theorem Pl.all {n r : Nat} {g : Nat → Int} : ∀ i, Pl n (itT n r g i)
  | 0 => ⟨List.pairwise_lt_range, fun k hk => List.mem_range.mp hk⟩
  | i + 1 => (Pl.all i).step
theorem Pl.len {n : Nat} {pl : List Nat} (h : Pl n pl) : pl.length ≤ n := by
  have := nodup_le (l := pl.map fun k : Nat => (k : Int)) (m := (List.range n).map fun k : Nat => (k : Int)) (List.pairwise_map.mpr (h.up.imp fun q => by omega)) fun x hx => by
    obtain ⟨k, hk, rfl⟩ := List.mem_map.mp hx
    exact List.mem_map.mpr ⟨k, List.mem_range.mpr (h.lt k hk), rfl⟩
  simpa using this
/-- the names there -/
theorem Nm.sub {n f : Nat} {g : Nat → Int} {pl : List Nat} (h : Nm f (ring n g)) (hp : Pl n pl) : Nm f (ring pl.length fun j => g (at0 pl j)) := by
  have mem : ∀ j, j < pl.length → g (at0 pl j) ∈ ring n g := fun j hj => List.mem_map.mpr ⟨_, List.mem_range.mpr (hp.lt _ (at0_mem hj)), rfl⟩
  have inj : ∀ a b, a < b → b < n → g a ≠ g b := fun a b hab hb => by
    have l1 : a < (ring n g).length := by rw [ring_len]; omega
    have l2 : b < (ring n g).length := by rw [ring_len]; exact hb
    have := List.pairwise_iff_getElem.mp h.nd a b l1 l2 hab
    have e1 : (ring n g)[a] = g a := Option.some.inj ((List.getElem?_eq_getElem l1).symm.trans (ring_get (by omega)))
    have e2 : (ring n g)[b] = g b := Option.some.inj ((List.getElem?_eq_getElem l2).symm.trans (ring_get hb))
    rw [e1, e2] at this
    exact this
  refine ⟨?_, fun x hx => ?_, fun x hx => ?_⟩
  · refine List.pairwise_map.mpr (List.Pairwise.imp_of_mem (fun {a b} ha hb hab => ?_) (List.pairwise_lt_range (n := pl.length)))
    exact inj _ _ (hp.mono hab (List.mem_range.mp hb)) (hp.lt _ (at0_mem (List.mem_range.mp hb)))
  · obtain ⟨j, hj, rfl⟩ := List.mem_map.mp hx
    exact h.lo _ (mem j (List.mem_range.mp hj))
  · obtain ⟨j, hj, rfl⟩ := List.mem_map.mp hx
    exact h.hi _ (mem j (List.mem_range.mp hj))
theorem map_nL {pl : List Nat} (F : D → D) (g : Nat → Int) (h : ∀ k, k ∈ pl → F (.int (k : Int)) = .int (g k)) : (((pl.map fun k : Nat => (k : Int)).map D.int).filter fun _ => true).map F = (pl.map g).map D.int := by
  rw [List.filter_eq_self.mpr fun _ _ => rfl, List.map_map, List.map_map, List.map_map]
  exact List.map_congr_left fun k hk => h k hk
theorem ring_sub {pl : List Nat} (g : Nat → Int) : pl.map g = ring pl.length fun j => g (at0 pl j) := by
  apply List.ext_getElem?
  intro i
  by_cases h : i < pl.length
  · rw [List.getElem?_map, ring_get h, at0_get h]
    rfl
  · rw [List.getElem?_eq_none (by simp; omega), List.getElem?_eq_none (by rw [ring_len]; omega)]
theorem few_none {n r lev : Nat} {g : Nat → Int} (h : ∀ j, j < lev → 2 ≤ (itT n r g j).length) : few n r g lev = none := List.find?_eq_none.mpr fun j hj => by
  have := h j (List.mem_range.mp hj)
  simp
  omega
theorem find_first {p : Nat → Bool} {lev i : Nat} (hi : i < lev) (hp : p i = true) (h : ∀ j, j < i → p j = false) : (List.range lev).find? p = some i := by
  obtain ⟨l, e⟩ := filter0 hi hp h
  rw [← List.head?_filter, e]
  rfl
theorem few_some {n r lev i : Nat} {g : Nat → Int} (hi : i < lev) (hl : (itT n r g i).length < 2) (h : ∀ j, j < i → 2 ≤ (itT n r g j).length) : few n r g lev = some i :=
  find_first hi (by simpa using hl) fun j hj => by
    have := h j hj
    simp
    omega
theorem map_co {pl : List Nat} (F : D → D) (g : Nat → Int) (h : ∀ k, k ∈ pl → F (.int (k : Int)) = .int (g k)) : ((pl.map (D.int ∘ fun k : Nat => (k : Int))).filter fun _ => true).map F = (pl.map g).map D.int := by
  have := map_nL F g h
  rw [List.map_map] at this
  exact this
theorem mem_co {pl : List Nat} {d : D} (h : d ∈ pl.map (D.int ∘ fun k : Nat => (k : Int))) : ∃ k : Nat, k ∈ pl ∧ d = .int (k : Int) := by
  obtain ⟨k, hk, rfl⟩ := List.mem_map.mp h
  exact ⟨k, hk, rfl⟩
theorem at_ringL {n k : Nat} {g : Nat → Int} (h : k < n) : atI ((ring n g).map D.int) (k : Int) = some (.int (g k)) := at_ring h
theorem get_pl {pl : List Nat} {k : Nat} (h : k < pl.length) : atI ((pl.map fun k : Nat => (k : Int)).map D.int) (k : Int) = some (.int (at0 pl k)) := by
  rw [atI_nat', List.getElem?_map, List.getElem?_map, at0_get h]
  rfl
theorem thinned_in {n r f lev : Nat} {g : Nat → Int} (hn2 : n ≤ 1000) (f1 : 1 ≤ f) (f2 : f ≤ 64) (hlv : lev ≤ 1000) (hr : Rr r (2 ^ f)) (hr2 : r ≤ 200) (hN : Nm f (ring n g)) {Q} {E} (h : few n r g lev = none → Q (.own (nL (itT n r g lev))) [])
    (he : ∀ t, few n r g lev = some t → E ⟨"TooFew", [("level", .int (t : Int))]⟩ []) : FW (r_P_thinned_in [iL (ring n g), .int lev, .int f]) Q E := by
  unfold r_P_thinned_in m_P_thinned_in
  rw [FW_run]
  simp [start0, par, ring_len]
  refine ⟨by omega, inR_iff.mpr (by omega), W_forL (fun i β => ∃ s4 s5, (∀ j, j < i → 2 ≤ (itT n r g j).length) ∧ β = [.fz (iL (ring n g)), .fz (.int lev), .fz (.int f), .own none (nL (itT n r g i)), s4, s5, .un, .un]) ?_ (fun i d β hd hI => ?_) fun β hI => ?_⟩
  · refine ⟨.un, .un, fun j hj => by omega, ?_⟩
    have e : (List.range n).map (fun i : Nat => D.int (i : Int)) = ((itT n r g 0).map fun k : Nat => (k : Int)).map D.int := by
      rw [List.map_map]
      rfl
    rw [e]
  · obtain ⟨s4, s5, hj, rfl⟩ := hI
    obtain ⟨hi, rfl⟩ := rng_get hd
    have hpl := Pl.all (n := n) (r := r) (g := g) i
    have hll := hpl.len
    generalize hq : itT n r g i = pl at hpl hll
    simp
    by_cases hl : pl.length < 2
    · have hl' : (pl.length : Int) < 2 := by omega
      simp [hl']
      exact he i (few_some hi (by rw [hq]; exact hl) hj)
    · have hl' : ¬ (pl.length : Int) < 2 := by omega
      simp [hl']
      refine W_compF (fun _ => true) (fun d => .int (g (dN d))) (by rfl) (by rw [List.length_map]; exact szlt (by omega)) (fun d hd => ?_) ?_
      · obtain ⟨k, hk, rfl⟩ := mem_co hd
        simp [wipeB, at_ring (hpl.lt k hk), dN]
      · rw [map_co (fun d => .int (g (dN d))) g fun k hk => rfl, ring_sub]
        have hN' := hN.sub hpl
        have pr := Nm_pr hN' (by omega)
        simp [wipeB, backB]
        refine posts_in (by omega) (by omega) f1 f2 hr hr2 pr ?_
        simp [immR, immK, imms_co]
        have hP : ∀ k, k ∈ PL pl.length (fin_ pl.length r fun j => g (at0 pl j)) → k < pl.length := fun k hk => PL_lt hk
        have hll2 : (PL pl.length (fin_ pl.length r fun j => g (at0 pl j))).length ≤ pl.length := by
          have := List.length_filter_le (mk pl.length (fin_ pl.length r fun j => g (at0 pl j)) 3) (List.range pl.length)
          rw [List.length_range] at this
          exact this
        refine W_compF (fun _ => true) (fun d => .int ((at0 pl (dN d) : Nat) : Int)) (by rfl) (by rw [List.length_map]; exact szlt (by omega)) (fun d hd => ?_) ?_
        · obtain ⟨k, hk, rfl⟩ := mem_co hd
          have hg := get_pl (hP k hk)
          rw [List.map_map] at hg
          simp [wipeB, hg, dN]
        · rw [map_co (fun d => .int ((at0 pl (dN d) : Nat) : Int)) (fun k => ((at0 pl k : Nat) : Int)) fun k hk => rfl]
          have eq2 : (PL pl.length (fin_ pl.length r fun j => g (at0 pl j))).map (fun k => ((at0 pl k : Nat) : Int)) = (itT n r g (i + 1)).map fun k : Nat => (k : Int) := by
            show _ = (stepT r g (itT n r g i)).map _
            rw [hq]
            unfold stepT
            rw [List.map_map]
            rfl
          rw [eq2]
          simp [wipeB, backB]
          exact fun j hj' => by
            rcases Nat.lt_or_ge j i with h | h
            · exact hj j h
            · rw [show j = i by omega, hq]
              omega
  · obtain ⟨s4, s5, hj, rfl⟩ := hI
    rw [rng_len] at hj ⊢
    simp
    exact h (few_none hj)
end K53

set_option Elab.async false
set_option linter.all false
set_option maxRecDepth 100000
set_option maxHeartbeats 4000000
namespace K53
open PySem PySem.Spec L2 B
/-! ## whatever is handed in -/
def isF (d : D) (lo hi : Int) : Bool := match d with
  | .int i => decide (lo ≤ i ∧ i ≤ hi)
  | _ => false
theorem isi_of {d : D} {t T : String} {b : Bool} (h : tyD d = some t) (k : kitB t T = some b) : isiD T d = some b := by
  unfold isiD
  rw [h]
  exact k
theorem is_fromD {d : D} (h : (tyD d).isSome = true) (lo hi : Int) {Q} {E} (q : Q (.fz (.bl (isF d lo hi))) []) : FW (r_P_is_from [d, .int lo, .int hi]) Q E := by
  have other : ∀ t, tyD d = some t → kitB t "int" = some false → isF d lo hi = false → FW (r_P_is_from [d, .int lo, .int hi]) Q E := fun t ht k e => by
    rw [e] at q
    unfold r_P_is_from m_P_is_from
    rw [FW_run]
    simp [start0, par, w_isi (isi_of ht k)]
    exact q
  cases d with
  | int i => exact is_from i lo hi q
  | bl b =>
    unfold r_P_is_from m_P_is_from
    rw [FW_run]
    simp [start0, par, w_isi (isi_of (d := .bl b) (T := "int") (b := true) rfl (by decide +kernel)), w_isi (isi_of (d := .bl b) (T := "bool") (b := true) rfl (by decide +kernel))]
    exact q
  | non => exact other _ rfl (by decide +kernel) rfl
  | str x => exact other _ rfl (by decide +kernel) rfl
  | nd t ds =>
    cases t with
    | ins c fs => cases h
    | tup => exact other _ rfl (by decide +kernel) rfl
    | lst => exact other _ rfl (by decide +kernel) rfl
    | dct => exact other _ rfl (by decide +kernel) rfl
    | scr => exact other _ rfl (by decide +kernel) rfl
theorem sure_bitsD {d : D} (h : (tyD d).isSome = true) {Q} {E} (q : isF d 1 64 = true → Q (.fz .non) []) (qe : isF d 1 64 = false → E ⟨"NoBits", []⟩ []) : FW (r_P_sure_bits [d]) Q E := by
  unfold r_P_sure_bits m_P_sure_bits
  rw [FW_run]
  simp [start0, par]
  refine is_fromD h _ _ ?_
  cases e : isF d 1 64 with
  | true => simp; exact q e
  | false => simp; exact qe e
/-- names of a ring -/
def isN (d : D) (f : Nat) : Bool := match d with
  | .nd .lst ds => (ds.all fun x => isF x 0 (2 ^ f - 1)) && decide (unlikeN (ds.map dI) = ds.length)
  | _ => false
theorem ints_allF {ds : List D} {lo hi : Int} (h : (ds.all fun x => isF x lo hi) = true) : ds = (ds.map dI).map D.int := by
  induction ds with
  | nil => rfl
  | cons d ds ih =>
    rw [List.all_cons, Bool.and_eq_true] at h
    rw [List.map_cons, List.map_cons, ← ih h.2]
    congr 1
    cases d with
    | int i => rfl
    | _ => cases h.1
theorem are_unlikeD {d : D} {f : Nat} (f2 : f ≤ 64) (h : (tyD d).isSome = true) (hs : ∀ c, d ≠ .nd .scr c) (hc : ∀ ds, d = .nd .lst ds → (∀ x ∈ ds, (tyD x).isSome = true) ∧ ds.length ≤ 1000) {Q} {E} (q : Q (.fz (.bl (isN d f))) []) : FW (r_P_are_unlike [d, .int f]) Q E := by
  have other : ∀ t, tyD d = some t → kitB t "list" = some false → isN d f = false → FW (r_P_are_unlike [d, .int f]) Q E := fun t ht k e => by
    rw [e] at q
    unfold r_P_are_unlike m_P_are_unlike
    rw [FW_run]
    simp [start0, par, w_isi (isi_of ht k)]
    exact q
  cases d with
  | int i => exact other _ rfl (by decide +kernel) rfl
  | bl b => exact other _ rfl (by decide +kernel) rfl
  | non => exact other _ rfl (by decide +kernel) rfl
  | str x => exact other _ rfl (by decide +kernel) rfl
  | nd t ds =>
    cases t with
    | ins c fs => cases h
    | tup => exact other _ rfl (by decide +kernel) rfl
    | dct => exact other _ rfl (by decide +kernel) rfl
    | scr => exact absurd rfl (hs ds)
    | lst =>
      obtain ⟨ht, hl⟩ := hc ds rfl
      unfold r_P_are_unlike m_P_are_unlike
      rw [FW_run]
      simp [start0, par, w_isi (isi_lst_list _)]
      refine W_compF (fun _ => true) (fun x => .bl (isF x 0 (2 ^ f - 1))) (by rfl) (szlt (by omega)) (fun x hx => ?_) ?_
      · simp [wipeB]
        exact ⟨powOk_of (by omega) (by omega) (by decide), is_fromD (ht x hx) _ _ (by simp)⟩
      · have e : (ds.filter fun _ => true).map (fun x => D.bl (isF x 0 (2 ^ f - 1))) = (ds.map fun x => isF x 0 (2 ^ f - 1)).map D.bl := by
          rw [List.filter_eq_self.mpr fun _ _ => rfl, List.map_map]
          rfl
        rw [e]
        have e3 : (ds.map fun x => isF x 0 (2 ^ f - 1)).all id = ds.all fun x => isF x 0 (2 ^ f - 1) := by rw [List.all_map]; rfl
        simp only [backB, wipeB]
        cases ha : (ds.all fun x => isF x 0 (2 ^ f - 1)) with
        | false =>
          have : isN (.nd .lst ds) f = false := by show ((ds.all fun x => isF x 0 (2 ^ f - 1)) && _) = false; rw [ha]; rfl
          rw [this] at q
          simp
          rw [← List.map_map, w_all, e3, ha]
          simp
          exact q
        | true =>
          have : isN (.nd .lst ds) f = decide (unlikeN (ds.map dI) = ds.length) := by show ((ds.all fun x => isF x 0 (2 ^ f - 1)) && _) = _; rw [ha]; rfl
          rw [this] at q
          simp
          rw [← List.map_map, w_all, e3, ha]
          simp
          rw [ints_allF ha, w_lenSetD (by rw [List.length_map]; omega)]
          simp
          rw [show decide (((unlikeN (ds.map dI) : Nat) : Int) = ((ds.length : Nat) : Int)) = decide (unlikeN (ds.map dI) = ds.length) from decide_eq_decide.mpr (by omega)]
          exact q
/-- so many -/
def lenN : D → Nat
  | .nd _ ds => ds.length
  | _ => 0
/-- what may be handed in as names -/
structure Thg (d : D) : Prop where
  ty : (tyD d).isSome = true
  ns : ∀ c, d ≠ .nd .scr c
  ls : ∀ ds, d = .nd .lst ds → (∀ x ∈ ds, (tyD x).isSome = true) ∧ ds.length ≤ 1000
theorem sure_namesD {d : D} {f : Nat} (f2 : f ≤ 64) (h : Thg d) {Q} {E} (q : isN d f = true → 2 ≤ lenN d → Q (.fz .non) []) (qe : ¬ (isN d f = true ∧ 2 ≤ lenN d) → E ⟨"NoNames", []⟩ []) : FW (r_P_sure_names [d, .int f]) Q E := by
  unfold r_P_sure_names m_P_sure_names
  rw [FW_run]
  simp [start0, par]
  refine are_unlikeD f2 h.ty h.ns h.ls ?_
  cases e : isN d f with
  | false =>
    simp
    exact qe (by simp [e])
  | true =>
    simp
    cases d with
    | nd t ds =>
      cases t with
      | lst =>
        simp
        by_cases hl : ds.length < 2
        · have hl' : (ds.length : Int) < 2 := by omega
          simp [hl']
          exact qe (by simp [e, lenN]; omega)
        · have hl' : ¬ (ds.length : Int) < 2 := by omega
          simp [hl']
          exact q e (by simp [lenN]; omega)
      | _ => cases e
    | _ => cases e
/-! ### good names are so -/
theorem isN_of {ns : List Int} {f : Nat} (h : Nm f ns) : isN (iL ns) f = true := by
  show (((ns.map D.int).all fun x => isF x 0 (2 ^ f - 1)) && decide (unlikeN ((ns.map D.int).map dI) = (ns.map D.int).length)) = true
  have e : (ns.map D.int).map dI = ns := by
    rw [List.map_map]
    exact List.map_id _
  rw [e, unlike_nodup h.nd, List.length_map]
  simp
  intro x hx
  have h1 := h.lo x hx
  have h2 := h.hi x hx
  simp [isF]
  omega
/-! ### doubles are seen -/
theorem firstMet_step {ns : List Int} : ∀ i, i ≤ ns.length → (PyProof.Rows.firstMet (fun j => ns.getD j 0) i).length = i → PyProof.Rows.firstMet (fun j => ns.getD j 0) i = ns.take i ∧ (ns.take i).Nodup
  | 0, _, _ => by
    rw [PyProof.Rows.firstMet_zero]
    exact ⟨rfl, .nil⟩
  | i + 1, hi, h => by
    have le := PyProof.Rows.firstMet_length_le (fun j => ns.getD j 0) i
    have hlt : i < ns.length := hi
    have e1 : ns.getD i 0 = ns[i] := by rw [List.getD_eq_getElem?_getD, List.getElem?_eq_getElem hlt]; rfl
    rw [PyProof.Rows.firstMet_succ] at h ⊢
    unfold PyProof.Rows.step_dedup at h ⊢
    simp only [e1] at h ⊢
    split at h
    · omega
    · rename_i hn
      rw [List.length_append, List.length_singleton] at h
      obtain ⟨ih1, ih2⟩ := firstMet_step (ns := ns) i (by omega) (by omega)
      rw [if_neg hn]
      rw [ih1] at hn ⊢
      have e2 : ns.take (i + 1) = ns.take i ++ [ns[i]] := by rw [List.take_add_one, List.getElem?_eq_getElem hlt]; rfl
      rw [e2]
      refine ⟨rfl, List.nodup_append.mpr ⟨ih2, by simp, fun a ha b hb e => hn ?_⟩⟩
      rw [List.mem_singleton] at hb
      subst hb
      subst e
      exact List.any_eq_true.mpr ⟨_, ha, by simp⟩
theorem unlike_iff {ns : List Int} (h : unlikeN ns = ns.length) : ns.Nodup := by
  have := (firstMet_step ns.length (Nat.le_refl _) h).2
  rwa [List.take_length] at this
end K53

set_option Elab.async false
set_option linter.all false
set_option maxRecDepth 100000
set_option maxHeartbeats 4000000
namespace K53
open PySem PySem.Spec L2 B
/-! ## which refusal comes -/
theorem ref_ok {r : Rs} {β : B.Env} : lamRun 3 m_L_refused (.ok r β) = .ok (.fz (.str "told")) [] := lamRun_of fun z => by
  unfold m_L_refused
  rw [W_seqF]
  refine W_try ?_
  simp
  refine W_mAsk_ok rfl ?_
  simp [handleB]
theorem ref_exc {x : Exn} {β : B.Env} {w : Str} (k : (x.cls = "NoBits" ∧ w = "figs") ∨ (x.cls = "NoNames" ∧ w = "names") ∨ (x.cls = "NoLevel" ∧ w = "level") ∨ (x.cls = "TooFew" ∧ w = "told")) : lamRun 3 m_L_refused (.exc x β) = .ok (.fz (.str w)) [] := lamRun_of fun z => by
  obtain ⟨c, fs⟩ := x
  simp only at k
  rcases k with ⟨rfl, rfl⟩ | ⟨rfl, rfl⟩ | ⟨rfl, rfl⟩ | ⟨rfl, rfl⟩
  · unfold m_L_refused
    rw [W_seqF]
    refine W_try ?_
    simp
    refine W_mAsk_exc rfl ?_
    refine W_hyes (.ret (.fz (.str "figs"))) [.ex z, .un, .own none (.nd .lst (([true, false, false, false, false, false] : List Bool).map D.bl))] (by rfl) (fun a c d => ?_) ?_
    · have e0 : tabF [("NoBits", true), ("NoNames", false), ("TooFew", false), ("NoLevel", false)] "NoBits" = some true := by rfl
      have e1 : tabF [("NoBits", false), ("NoNames", true), ("TooFew", false), ("NoLevel", false)] "NoBits" = some false := by rfl
      have e2 : tabF [("NoBits", false), ("NoNames", false), ("TooFew", false), ("NoLevel", true)] "NoBits" = some false := by rfl
      have e3 : tabF [("NoBits", false), ("NoNames", false), ("TooFew", true), ("NoLevel", false)] "NoBits" = some false := by rfl
      have e4 : tabF [("NoBits", false), ("NoNames", false), ("TooFew", false), ("NoLevel", false)] "NoBits" = some false := by rfl
      have e5 : tabF [("NoBits", true), ("NoNames", true), ("TooFew", true), ("NoLevel", true)] "NoBits" = some true := by rfl
      have s4 : 4 ≤ sizeLine := sz (by decide)
      have s2 : 2 ≤ sizeLine := sz (by decide)
      have s6 : 6 ≤ sizeLine := sz (by decide)
      simp [exSl, unSl, e0, e1, e2, e3, e4, e5, s4, s2, s6]
      refine (w_countB (bs := [true, false, false, false, false, false])).mpr ?_
      simp [e5]
      refine (w_indexB (bs := [true, false, false, false, false, false]) (i := 0) (by rfl)).mpr ?_
      simp
    · simp
  · unfold m_L_refused
    rw [W_seqF]
    refine W_try ?_
    simp
    refine W_mAsk_exc rfl ?_
    refine W_hyes (.ret (.fz (.str "names"))) [.ex z, .un, .own none (.nd .lst (([false, true, false, false, false, false] : List Bool).map D.bl))] (by rfl) (fun a c d => ?_) ?_
    · have e0 : tabF [("NoBits", true), ("NoNames", false), ("TooFew", false), ("NoLevel", false)] "NoNames" = some false := by rfl
      have e1 : tabF [("NoBits", false), ("NoNames", true), ("TooFew", false), ("NoLevel", false)] "NoNames" = some true := by rfl
      have e2 : tabF [("NoBits", false), ("NoNames", false), ("TooFew", false), ("NoLevel", true)] "NoNames" = some false := by rfl
      have e3 : tabF [("NoBits", false), ("NoNames", false), ("TooFew", true), ("NoLevel", false)] "NoNames" = some false := by rfl
      have e4 : tabF [("NoBits", false), ("NoNames", false), ("TooFew", false), ("NoLevel", false)] "NoNames" = some false := by rfl
      have e5 : tabF [("NoBits", true), ("NoNames", true), ("TooFew", true), ("NoLevel", true)] "NoNames" = some true := by rfl
      have s4 : 4 ≤ sizeLine := sz (by decide)
      have s2 : 2 ≤ sizeLine := sz (by decide)
      have s6 : 6 ≤ sizeLine := sz (by decide)
      simp [exSl, unSl, e0, e1, e2, e3, e4, e5, s4, s2, s6]
      refine (w_countB (bs := [false, true, false, false, false, false])).mpr ?_
      simp [e5]
      refine (w_indexB (bs := [false, true, false, false, false, false]) (i := 1) (by rfl)).mpr ?_
      simp
    · simp
  · unfold m_L_refused
    rw [W_seqF]
    refine W_try ?_
    simp
    refine W_mAsk_exc rfl ?_
    refine W_hyes (.ret (.fz (.str "level"))) [.ex z, .un, .own none (.nd .lst (([false, false, true, false, false, false] : List Bool).map D.bl))] (by rfl) (fun a c d => ?_) ?_
    · have e0 : tabF [("NoBits", true), ("NoNames", false), ("TooFew", false), ("NoLevel", false)] "NoLevel" = some false := by rfl
      have e1 : tabF [("NoBits", false), ("NoNames", true), ("TooFew", false), ("NoLevel", false)] "NoLevel" = some false := by rfl
      have e2 : tabF [("NoBits", false), ("NoNames", false), ("TooFew", false), ("NoLevel", true)] "NoLevel" = some true := by rfl
      have e3 : tabF [("NoBits", false), ("NoNames", false), ("TooFew", true), ("NoLevel", false)] "NoLevel" = some false := by rfl
      have e4 : tabF [("NoBits", false), ("NoNames", false), ("TooFew", false), ("NoLevel", false)] "NoLevel" = some false := by rfl
      have e5 : tabF [("NoBits", true), ("NoNames", true), ("TooFew", true), ("NoLevel", true)] "NoLevel" = some true := by rfl
      have s4 : 4 ≤ sizeLine := sz (by decide)
      have s2 : 2 ≤ sizeLine := sz (by decide)
      have s6 : 6 ≤ sizeLine := sz (by decide)
      simp [exSl, unSl, e0, e1, e2, e3, e4, e5, s4, s2, s6]
      refine (w_countB (bs := [false, false, true, false, false, false])).mpr ?_
      simp [e5]
      refine (w_indexB (bs := [false, false, true, false, false, false]) (i := 2) (by rfl)).mpr ?_
      simp
    · simp
  · unfold m_L_refused
    rw [W_seqF]
    refine W_try ?_
    simp
    refine W_mAsk_exc rfl ?_
    refine W_hyes (.ret (.fz (.str "told"))) [.ex z, .un, .own none (.nd .lst (([false, false, false, true, false, false] : List Bool).map D.bl))] (by rfl) (fun a c d => ?_) ?_
    · have e0 : tabF [("NoBits", true), ("NoNames", false), ("TooFew", false), ("NoLevel", false)] "TooFew" = some false := by rfl
      have e1 : tabF [("NoBits", false), ("NoNames", true), ("TooFew", false), ("NoLevel", false)] "TooFew" = some false := by rfl
      have e2 : tabF [("NoBits", false), ("NoNames", false), ("TooFew", false), ("NoLevel", true)] "TooFew" = some false := by rfl
      have e3 : tabF [("NoBits", false), ("NoNames", false), ("TooFew", true), ("NoLevel", false)] "TooFew" = some true := by rfl
      have e4 : tabF [("NoBits", false), ("NoNames", false), ("TooFew", false), ("NoLevel", false)] "TooFew" = some false := by rfl
      have e5 : tabF [("NoBits", true), ("NoNames", true), ("TooFew", true), ("NoLevel", true)] "TooFew" = some true := by rfl
      have s4 : 4 ≤ sizeLine := sz (by decide)
      have s2 : 2 ≤ sizeLine := sz (by decide)
      have s6 : 6 ≤ sizeLine := sz (by decide)
      simp [exSl, unSl, e0, e1, e2, e3, e4, e5, s4, s2, s6]
      refine (w_countB (bs := [false, false, false, true, false, false])).mpr ?_
      simp [e5]
      refine (w_indexB (bs := [false, false, false, true, false, false]) (i := 3) (by rfl)).mpr ?_
      have e6 : atI [D.str "figs", D.str "names", D.str "level", D.str "told", D.str "kind", D.str "view"] (3 : Int) = some (.str "told") := by rfl
      simp [e6]
    · simp
end K53

set_option Elab.async false
set_option linter.all false
set_option maxRecDepth 100000
set_option maxHeartbeats 4000000
namespace K53
open PySem PySem.Spec L2 B
/-! ## the calls -/
theorem goodF {d : D} (h : isF d 1 64 = true) : ∃ f : Nat, d = .int f ∧ 1 ≤ f ∧ f ≤ 64 := by
  cases d with
  | int i =>
    simp [isF] at h
    exact ⟨i.toNat, by congr 1; omega, by omega, by omega⟩
  | _ => cases h
theorem goodL {d : D} (h : isF d 0 6 = true) : ∃ f : Nat, d = .int f ∧ f ≤ 6 := by
  cases d with
  | int i =>
    simp [isF] at h
    exact ⟨i.toNat, by congr 1; omega, by omega⟩
  | _ => cases h
theorem goodN {d : D} {f : Nat} (h : isN d f = true) (h2 : 2 ≤ lenN d) (hl : lenN d ≤ 900) : ∃ n g, d = iL (ring n g) ∧ Nm f (ring n g) ∧ 2 ≤ n ∧ n ≤ 900 := by
  cases d with
  | nd t ds =>
    cases t with
    | lst =>
      have h : ((ds.all fun x => isF x 0 (2 ^ f - 1)) && decide (unlikeN (ds.map dI) = ds.length)) = true := h
      rw [Bool.and_eq_true, decide_eq_true_eq] at h
      have e := ints_allF h.1
      have er := ring_of_list (ds.map dI)
      have nd : (ds.map dI).Nodup := unlike_iff (by rw [h.2, List.length_map])
      refine ⟨ds.length, fun k => (ds.map dI).getD k 0, ?_, ?_, h2, hl⟩
      · rw [List.length_map] at er
        rw [← er]
        show D.nd .lst ds = D.nd .lst ((ds.map dI).map D.int)
        rw [← e]
      · rw [List.length_map] at er
        rw [← er]
        have mem : ∀ x ∈ ds.map dI, 0 ≤ x ∧ x < 2 ^ f := fun x hx => by
          have hx2 : D.int x ∈ ds := by
            rw [e]
            exact List.mem_map.mpr ⟨x, hx, rfl⟩
          have := List.all_eq_true.mp h.1 _ hx2
          simp [isF] at this
          omega
        exact ⟨nd, fun x hx => (mem x hx).1, fun x hx => (mem x hx).2⟩
    | _ => cases h
  | _ => cases h
theorem roundsD {d : D} (h : (tyD d).isSome = true) {Q} {E} (q : isF d 1 64 = true → ∀ r : Nat, Q (.fz (.int r)) []) (qe : isF d 1 64 = false → E ⟨"NoBits", []⟩ []) : FW (r_P_rounds [d]) Q E := by
  cases e : isF d 1 64 with
  | true =>
    obtain ⟨f, rfl, f1, f2⟩ := goodF e
    obtain ⟨r, hr2, hr⟩ := Rr_f f2
    exact rounds f1 f2 hr (q e r)
  | false =>
    unfold r_P_rounds m_P_rounds
    rw [FW_run]
    simp [start0, par]
    refine sure_bitsD h (fun z => (by rw [e] at z; cases z)) fun _ => ?_
    exact ⟨rfl, qe e⟩
/-- the first two parts of what is asked of a call -/
def Bad2 (nd fd : D) : Prop := ∃ f : Nat, fd = .int f ∧ 1 ≤ f ∧ f ≤ 64 ∧ ¬ (isN nd f = true ∧ 2 ≤ lenN nd)
def Good2 (nd fd : D) : Prop := ∃ f n g, fd = .int ((f : Nat) : Int) ∧ 1 ≤ f ∧ f ≤ 64 ∧ nd = iL (ring n g) ∧ Nm f (ring n g) ∧ 2 ≤ n ∧ n ≤ 900
theorem two {nd fd : D} (hl : lenN nd ≤ 900) : isF fd 1 64 = false ∨ Bad2 nd fd ∨ Good2 nd fd := by
  cases e : isF fd 1 64 with
  | false => exact .inl rfl
  | true =>
    obtain ⟨f, rfl, f1, f2⟩ := goodF e
    by_cases h : isN nd f = true ∧ 2 ≤ lenN nd
    · obtain ⟨n, g, e1, e2, e3, e4⟩ := goodN h.1 h.2 hl
      exact .inr (.inr ⟨f, n, g, rfl, f1, f2, e1, e2, e3, e4⟩)
    · exact .inr (.inl ⟨f, rfl, f1, f2, h⟩)
theorem paintD {nd fd : D} (hf : (tyD fd).isSome = true) (hn : Thg nd) (hl : lenN nd ≤ 900) {Q} {E} (q1 : isF fd 1 64 = false → E ⟨"NoBits", []⟩ []) (q2 : Bad2 nd fd → E ⟨"NoNames", []⟩ []) (q3 : Good2 nd fd → ∀ r, Q r []) : FW (r_P_paint [nd, fd]) Q E := by
  unfold r_P_paint m_P_paint
  rw [FW_run]
  rcases two (fd := fd) hl with e | e | e
  · simp [start0, par]
    refine sure_bitsD hf (fun z => (by rw [e] at z; cases z)) fun _ => ⟨rfl, q1 e⟩
  · have e' := e
    obtain ⟨f, rfl, f1, f2, bad⟩ := e
    simp [start0, par]
    refine sure_bits f1 f2 ?_
    simp
    refine sure_namesD f2 hn (fun a b => absurd ⟨a, b⟩ bad) fun _ => ⟨rfl, q2 e'⟩
  · have e' := e
    obtain ⟨f, n, g, rfl, f1, f2, rfl, hN, n2, n9⟩ := e
    obtain ⟨r, hr2, hr⟩ := Rr_f f2
    simp [start0, par]
    refine sure_bits f1 f2 ?_
    simp
    refine sure_namesD f2 hn (fun a b => ?_) fun z => absurd ⟨isN_of hN, by simp [lenN, ring_len]; exact n2⟩ z
    simp
    refine painted n2 (by omega) f1 f2 hr hr2 (Nm_pr hN n2) ?_
    simp
    exact q3 e' _
theorem postsD {nd fd : D} (hf : (tyD fd).isSome = true) (hn : Thg nd) (hl : lenN nd ≤ 900) {Q} {E} (q1 : isF fd 1 64 = false → E ⟨"NoBits", []⟩ []) (q2 : Bad2 nd fd → E ⟨"NoNames", []⟩ []) (q3 : Good2 nd fd → ∀ r, Q r []) : FW (r_P_posts [nd, fd]) Q E := by
  unfold r_P_posts m_P_posts
  rw [FW_run]
  rcases two (fd := fd) hl with e | e | e
  · simp [start0, par]
    refine sure_bitsD hf (fun z => (by rw [e] at z; cases z)) fun _ => ⟨rfl, q1 e⟩
  · have e' := e
    obtain ⟨f, rfl, f1, f2, bad⟩ := e
    simp [start0, par]
    refine sure_bits f1 f2 ?_
    simp
    refine sure_namesD f2 hn (fun a b => absurd ⟨a, b⟩ bad) fun _ => ⟨rfl, q2 e'⟩
  · have e' := e
    obtain ⟨f, n, g, rfl, f1, f2, rfl, hN, n2, n9⟩ := e
    obtain ⟨r, hr2, hr⟩ := Rr_f f2
    simp [start0, par]
    refine sure_bits f1 f2 ?_
    simp
    refine sure_namesD f2 hn (fun a b => ?_) fun z => absurd ⟨isN_of hN, by simp [lenN, ring_len]; exact n2⟩ z
    simp
    refine posts_in n2 (by omega) f1 f2 hr hr2 (Nm_pr hN n2) ?_
    simp
    exact q3 e' _
theorem thinnedD {nd ld fd : D} (hf : (tyD fd).isSome = true) (hn : Thg nd) (hl : lenN nd ≤ 900) (hd : (tyD ld).isSome = true) {Q} {E} (q1 : isF fd 1 64 = false → E ⟨"NoBits", []⟩ []) (q2 : Bad2 nd fd → E ⟨"NoNames", []⟩ [])
    (q4 : Good2 nd fd → isF ld 0 6 = false → E ⟨"NoLevel", []⟩ []) (q3 : Good2 nd fd → isF ld 0 6 = true → (∀ r, Q r []) ∧ ∀ t : Nat, E ⟨"TooFew", [("level", .int (t : Int))]⟩ []) : FW (r_P_thinned [nd, ld, fd]) Q E := by
  unfold r_P_thinned m_P_thinned
  rw [FW_run]
  rcases two (fd := fd) hl with e | e | e
  · simp [start0, par]
    refine sure_bitsD hf (fun z => (by rw [e] at z; cases z)) fun _ => ⟨rfl, q1 e⟩
  · have e' := e
    obtain ⟨f, rfl, f1, f2, bad⟩ := e
    simp [start0, par]
    refine sure_bits f1 f2 ?_
    simp
    refine sure_namesD f2 hn (fun a b => absurd ⟨a, b⟩ bad) fun _ => ⟨rfl, q2 e'⟩
  · have e' := e
    obtain ⟨f, n, g, rfl, f1, f2, rfl, hN, n2, n9⟩ := e
    obtain ⟨r, hr2, hr⟩ := Rr_f f2
    simp [start0, par]
    refine sure_bits f1 f2 ?_
    simp
    refine sure_namesD f2 hn (fun a b => ?_) fun z => absurd ⟨isN_of hN, by simp [lenN, ring_len]; exact n2⟩ z
    simp
    refine is_fromD hd _ _ ?_
    cases el : isF ld 0 6 with
    | false =>
      simp
      exact q4 e' el
    | true =>
      obtain ⟨lev, rfl, hlv⟩ := goodL el
      obtain ⟨h1, h2⟩ := q3 e' el
      simp
      refine thinned_in (by omega) f1 f2 (by omega) hr hr2 hN (fun _ => ?_) fun t _ => ?_
      · simp
        exact h1 _
      · exact ⟨rfl, h2 t⟩
end K53

set_option Elab.async false
set_option linter.all false
set_option maxRecDepth 100000
set_option maxHeartbeats 4000000
namespace K53
open PySem PySem.Spec L2 B
/-! ## what is due -/
def words : List D := [.str "figs", .str "names", .str "level"]
def dueW : List Str → List Bool → Str
  | w :: ws, b :: bs => if b = true then w else dueW ws bs
  | _, _ => "told"
def blD : D → Bool
  | .nd .tup [_, .bl b] => b
  | _ => false
def fstD : D → D
  | .nd .tup [d, _] => d
  | _ => .non
@[simp] theorem blD_pair (d : D) (b : Bool) : blD (.nd .tup [d, .bl b]) = b := rfl
@[simp] theorem fstD_pair (d e : D) : fstD (.nd .tup [d, e]) = d := rfl
theorem zip_mem : ∀ (ws : List Str) (bs : List Bool) (d : D), d ∈ zipD (ws.map D.str) (bs.map D.bl) → ∃ w b, d = .nd .tup [.str w, .bl b]
  | [], _, d, h => by simp [zipD] at h
  | _ :: _, [], d, h => by simp [zipD] at h
  | w :: ws, b :: bs, d, h => by
    have c : zipD ((w :: ws).map D.str) ((b :: bs).map D.bl) = .nd .tup [.str w, .bl b] :: zipD (ws.map D.str) (bs.map D.bl) := rfl
    rw [c] at h
    rcases List.mem_cons.mp h with e | h
    · exact ⟨w, b, e⟩
    · exact zip_mem ws bs d h
theorem due_list : ∀ (ws : List Str) (bs : List Bool), ∃ r, (((zipD (ws.map D.str) (bs.map D.bl)).filter blD).map fstD ++ [D.str "told"]) = .str (dueW ws bs) :: r
  | [], _ => ⟨[], by simp [zipD, dueW]⟩
  | _ :: _, [] => ⟨[], by simp [zipD, dueW]⟩
  | w :: ws, b :: bs => by
    obtain ⟨r, e⟩ := due_list ws bs
    have c : zipD ((w :: ws).map D.str) ((b :: bs).map D.bl) = .nd .tup [.str w, .bl b] :: zipD (ws.map D.str) (bs.map D.bl) := rfl
    rw [c]
    cases b with
    | true => exact ⟨((zipD (ws.map D.str) (bs.map D.bl)).filter blD).map fstD ++ [D.str "told"], by
      rw [List.filter_cons_of_pos (by rfl), List.map_cons]
      rfl⟩
    | false => exact ⟨r, by
      rw [List.filter_cons_of_neg (by simp)]
      exact e⟩
theorem due {bs : List Bool} (hl : bs.length ≤ 1000) {Q} {E} (q : Q (.fz (.str (dueW ["figs", "names", "level"] bs))) []) : FW (r_L_due [.nd .lst words, .nd .lst (bs.map D.bl)]) Q E := by
  unfold r_L_due m_L_due
  rw [FW_run]
  simp [start0, par]
  have zl : (zipD words (bs.map D.bl)).length ≤ 3 := by
    unfold zipD words
    rw [List.length_zipWith]
    simp
    omega
  refine W_compF blD fstD (by rfl) (szlt (by omega)) (fun d hd => ?_) ?_
  · obtain ⟨w, b, rfl⟩ := zip_mem ["figs", "names", "level"] bs d hd
    simp [wipeB]
  · obtain ⟨r, e⟩ := due_list ["figs", "names", "level"] bs
    simp [wipeB, backB]
    have fl := List.length_filter_le blD (zipD words (bs.map D.bl))
    refine ⟨sz (by decide), sz (by omega), ?_⟩
    have e : List.map fstD (List.filter blD (zipD words (bs.map D.bl))) ++ [D.str "told"] = D.str (dueW ["figs", "names", "level"] bs) :: r := e
    simp only [e]
    exact q
end K53

set_option Elab.async false
set_option linter.all false
set_option maxRecDepth 100000
set_option maxHeartbeats 4000000
namespace K53
open PySem PySem.Spec L2 B
/-! ## what is shown -/
theorem join_len {ts : List Str} {b : Nat} (h : ∀ t ∈ ts, t.length ≤ b) : (Str.join ", " ts).length ≤ ts.length * (b + 2) := by
  by_cases he : ts = []
  · subst he
    exact Nat.le_trans (Nat.le_of_eq (show (Str.join ", " []).length = 0 by decide +kernel)) (Nat.zero_le _)
  · have h1 := join_length_add ts he
    have h2 : ∀ l : List Str, (∀ t ∈ l, t.length ≤ b) → piled l ≤ l.length * (b + 2) := by
      intro l
      induction l with
      | nil => intro _; rw [piled_nil]; exact Nat.zero_le _
      | cons t l ih =>
        intro hl
        have := hl t List.mem_cons_self
        have := ih fun x hx => hl x (List.mem_cons_of_mem _ hx)
        rw [piled_cons, List.length_cons, Nat.add_mul]
        omega
    have := h2 ts h
    omega
theorem ok_app (a b : Str) : PyData.strOk (a ++ b) = (PyData.strOk a && PyData.strOk b) := by
  unfold PyData.strOk
  show (a.cps ++ b.cps).all _ = _
  rw [Array.all_append]
theorem ok_join : ∀ ts : List Str, (∀ t ∈ ts, PyData.strOk t = true) → PyData.strOk (Str.join ", " ts) = true
  | [], _ => by decide +kernel
  | [x], h => h x List.mem_cons_self
  | x :: y :: r, h => by
    have ih := ok_join (y :: r) fun t ht => h t (List.mem_cons_of_mem _ ht)
    show PyData.strOk (x ++ ", " ++ Str.join ", " (y :: r)) = true
    rw [ok_app, ok_app, ih, h x List.mem_cons_self]
    decide +kernel
theorem ok_of (s : String) : PyData.strOk (Str.ofString s) = true := by
  rw [Str.ofString_eq_toList]
  unfold PyData.strOk
  simp
  intro c _
  exact c.valid.elim (fun h => by have : c.toNat < 55296 := h; omega) fun h => by have : c.toNat < 1114112 := h.2; omega
/-- small things -/
structure Sm (n k : Nat) (d : D) : Prop where
  lay : (toPy d).canLay0 = true ∨ dct0 d = true
  sh : (toPy d).showable = true
  len : (toPy d).shown.length ≤ n
  ok : PyData.strOk (toPy d).shown = true
  dep : (toPy d).depth ≤ k
theorem Sm.mono {n m k l : Nat} {d : D} (h : Sm n k d) (a : n ≤ m) (b : k ≤ l) : Sm m l d := ⟨h.lay, h.sh, Nat.le_trans h.len a, h.ok, Nat.le_trans h.dep b⟩
theorem Sm.it {n k : Nat} {d : D} (h : Sm n k d) : okIt d = true := by
  unfold okIt
  rw [h.sh]
  rcases h.lay with q | q <;> rw [q] <;> simp
theorem sm_int {z : Int} (h0 : 0 ≤ z) (h : z < 10 ^ 41) : Sm 60 0 (.int z) := by
  refine ⟨.inl (by simp [toPy, PyData.canLay0]), ?_, ?_, ?_, ?_⟩
  · simp only [toPy, PyData.showable, decide_eq_true_eq]
    have h2 : z.natAbs < 2 ^ 200 := by
      have : (10 : Int) ^ 41 ≤ 2 ^ 200 := by decide
      omega
    have := log2_lt h2 (by decide)
    omega
  · simp only [toPy, PyData.shown]
    exact Nat.le_trans (PyProof.Rows.toString_length_le (k := 41) h0 (by decide) h) (by decide)
  · simp only [toPy, PyData.shown]
    exact ok_of _
  · simp only [toPy, PyData.depth]
    exact Nat.le_refl _
theorem sm_m1 : Sm 60 0 (.int (-1)) := ⟨.inl (by simp [toPy, PyData.canLay0]), by simp only [toPy, PyData.showable]; decide, by simp only [toPy, PyData.shown]; decide +kernel, by simp only [toPy, PyData.shown]; exact ok_of _, by simp only [toPy, PyData.depth]; exact Nat.le_refl _⟩
theorem sm_non : Sm 60 0 .non := ⟨.inl (by simp [toPy, PyData.canLay0]), by simp only [toPy, PyData.showable], by simp only [toPy, PyData.shown]; decide +kernel, by simp only [toPy, PyData.shown]; decide +kernel, by simp only [toPy, PyData.depth]; exact Nat.le_refl _⟩
theorem sm_bl (b : Bool) : Sm 60 0 (.bl b) := ⟨.inl (by simp [toPy, PyData.canLay0]), by simp only [toPy, PyData.showable], by cases b <;> simp only [toPy, PyData.shown] <;> decide +kernel, by cases b <;> simp only [toPy, PyData.shown] <;> decide +kernel, by simp only [toPy, PyData.depth]; exact Nat.le_refl _⟩
theorem sm_str {x : Str} (h : (PyData.strOk x && decide ((PyData.str x).shown.length ≤ 60) && PyData.strOk (PyData.str x).shown) = true) : Sm 60 0 (.str x) := by
  simp only [Bool.and_eq_true, decide_eq_true_eq] at h
  exact ⟨.inl (by simp [toPy, PyData.canLay0, h.1.1]), by simp only [toPy, PyData.showable], h.1.2, h.2, by simp only [toPy, PyData.depth]; exact Nat.le_refl _⟩
theorem sm_dct : Sm 60 1 (.nd .dct []) := ⟨.inr rfl, by simp only [toPy, PyData.showable, PyData.showableKv], by simp only [toPy, PyData.shown, PyData.shownKv]; decide +kernel, by simp only [toPy, PyData.shown, PyData.shownKv]; decide +kernel, by simp only [toPy, PyData.depth, PyData.depthKv]; decide⟩
/-- rows of small things -/
theorem sm_all {n k : Nat} : ∀ {ds : List D}, (∀ d ∈ ds, Sm n k d) → (∀ d ∈ ds, (toPy d).canLay0 = true) → PyData.canLayAll0 (toPys ds) = true ∧ PyData.showableAll (toPys ds) = true ∧ PyData.depthAll (toPys ds) ≤ k ∧ (PyData.shownAll (toPys ds)).length = ds.length ∧ ∀ t ∈ PyData.shownAll (toPys ds), t.length ≤ n ∧ PyData.strOk t = true
  | [], _, _ => by
    simp only [toPys, PyData.canLayAll0, PyData.showableAll, PyData.depthAll, PyData.shownAll]
    exact ⟨trivial, trivial, Nat.zero_le _, rfl, fun t h => (nomatch h)⟩
  | d :: ds, h, hl => by
    obtain ⟨a1, a2, a3, a4, a5⟩ := sm_all (ds := ds) (fun x hx => h x (List.mem_cons_of_mem _ hx)) fun x hx => hl x (List.mem_cons_of_mem _ hx)
    have s := h d List.mem_cons_self
    simp only [toPys, PyData.canLayAll0, PyData.showableAll, PyData.depthAll, PyData.shownAll]
    refine ⟨by rw [hl d List.mem_cons_self, a1]; rfl, by rw [s.sh, a2]; rfl, Nat.max_le.mpr ⟨s.dep, a3⟩, by simp [a4], fun t ht => ?_⟩
    rcases List.mem_cons.mp ht with rfl | ht
    · exact ⟨s.len, s.ok⟩
    · exact a5 t ht
theorem sm_lst {n k m : Nat} {ds : List D} (h : ∀ d ∈ ds, Sm n k d) (hl : ∀ d ∈ ds, (toPy d).canLay0 = true) (hm : ds.length ≤ m) : Sm (m * (n + 2) + 2) (k + 1) (.nd .lst ds) := by
  obtain ⟨a1, a2, a3, a4, a5⟩ := sm_all h hl
  have jl := join_len (ts := PyData.shownAll (toPys ds)) (b := n) fun t ht => (a5 t ht).1
  have jo := ok_join (PyData.shownAll (toPys ds)) fun t ht => (a5 t ht).2
  have mm : ds.length * (n + 2) ≤ m * (n + 2) := Nat.mul_le_mul_right _ hm
  have e1 : (("[" : String) : Str).length = 1 := rfl
  have e2 : (("]" : String) : Str).length = 1 := rfl
  refine ⟨.inl ?_, ?_, ?_, ?_, ?_⟩
  · simp only [toPy, PyData.canLay0]
    exact a1
  · simp only [toPy, PyData.showable]
    exact a2
  · show (PyData.list (toPys ds)).shown.length ≤ _
    rw [PyData.shown_list, strLen_append, strLen_append, e1, e2]
    rw [a4] at jl
    omega
  · show PyData.strOk (PyData.list (toPys ds)).shown = true
    rw [PyData.shown_list, ok_app, ok_app, jo]
    decide +kernel
  · simp only [toPy, PyData.depth]
    omega
theorem sm_tup {n k m : Nat} {ds : List D} (h : ∀ d ∈ ds, Sm n k d) (hl : ∀ d ∈ ds, (toPy d).canLay0 = true) (hm : ds.length ≤ m) : Sm (m * (n + 2) + 3) (k + 1) (.nd .tup ds) := by
  obtain ⟨a1, a2, a3, a4, a5⟩ := sm_all h hl
  have jl := join_len (ts := PyData.shownAll (toPys ds)) (b := n) fun t ht => (a5 t ht).1
  have jo := ok_join (PyData.shownAll (toPys ds)) fun t ht => (a5 t ht).2
  have mm : ds.length * (n + 2) ≤ m * (n + 2) := Nat.mul_le_mul_right _ hm
  have e0 : (toPy (.nd .tup ds)).shown = tupleText (PyData.shownAll (toPys ds)) := by
    show PyData.shown (.tuple (toPys ds)) = _
    simp only [PyData.shown]
  have e1 : (("(" : String) : Str).length = 1 := rfl
  have e2 : ((if (PyData.shownAll (toPys ds)).length == 1 then ",)" else ")" : String) : Str).length ≤ 2 := by split <;> decide +kernel
  have e3 : PyData.strOk ((if (PyData.shownAll (toPys ds)).length == 1 then ",)" else ")" : String) : Str) = true := ok_of _
  refine ⟨.inl ?_, ?_, ?_, ?_, ?_⟩
  · simp only [toPy, PyData.canLay0]
    exact a1
  · simp only [toPy, PyData.showable]
    exact a2
  · rw [e0]
    unfold tupleText
    rw [strLen_append, strLen_append, e1]
    rw [a4] at jl
    omega
  · rw [e0]
    unfold tupleText
    rw [ok_app, ok_app, jo, e3]
    decide +kernel
  · simp only [toPy, PyData.depth]
    omega
/-- the tuple that is shown -/
theorem shown3 {n k : Nat} {a b c : D} (ha : Sm n k a) (hb : Sm n k b) (hc : Sm n k c) (hn : n ≤ 100000) (hk : k ≤ 40) : shwOk3 [a, b, c] = true ∧ PyData.strOk (toPy (.nd .tup [a, b, c])).shown = true := by
  have al : ∀ t ∈ PyData.shownAll (toPys [a, b, c]), t.length ≤ n ∧ PyData.strOk t = true := fun t ht => by
    simp only [toPys, PyData.shownAll, List.mem_cons, List.not_mem_nil, or_false] at ht
    rcases ht with rfl | rfl | rfl
    · exact ⟨ha.len, ha.ok⟩
    · exact ⟨hb.len, hb.ok⟩
    · exact ⟨hc.len, hc.ok⟩
  have jl := join_len (ts := PyData.shownAll (toPys [a, b, c])) (b := n) fun t ht => (al t ht).1
  have jo := ok_join (PyData.shownAll (toPys [a, b, c])) fun t ht => (al t ht).2
  have e0 : (toPy (.nd .tup [a, b, c])).shown = tupleText (PyData.shownAll (toPys [a, b, c])) := by
    show PyData.shown (.tuple (toPys [a, b, c])) = _
    simp only [PyData.shown]
  have e4 : (PyData.shownAll (toPys [a, b, c])).length = 3 := by simp only [toPys, PyData.shownAll]; rfl
  have e1 : (("(" : String) : Str).length = 1 := rfl
  have e2 : ((if (PyData.shownAll (toPys [a, b, c])).length == 1 then ",)" else ")" : String) : Str).length ≤ 2 := by split <;> decide +kernel
  have e3 : PyData.strOk ((if (PyData.shownAll (toPys [a, b, c])).length == 1 then ",)" else ")" : String) : Str) = true := ok_of _
  constructor
  · unfold shwOk3
    simp only [Bool.and_eq_true, decide_eq_true_eq]
    refine ⟨⟨by simp [ha.it, hb.it, hc.it], ?_⟩, ?_⟩
    · rw [e0]
      unfold tupleText
      rw [strLen_append, strLen_append, e1]
      rw [e4] at jl
      exact sz (by omega)
    · have d1 := ha.dep
      have d2 := hb.dep
      have d3 := hc.dep
      simp only [toPy, toPys, PyData.depth, PyData.depthAll]
      omega
  · rw [e0]
    unfold tupleText
    rw [ok_app, ok_app, jo, e3]
    decide +kernel
end K53

set_option Elab.async false
set_option linter.all false
set_option maxRecDepth 100000
set_option maxHeartbeats 4000000
namespace K53
open PySem PySem.Spec L2 B
/-! ## what are no names -/
structure Odd (f : Nat) (d : D) : Prop where
  t : Thg d
  l : lenN d ≤ 900
  bad : ¬ (isN d f = true ∧ 2 ≤ lenN d)
  s : Sm 4000 3 d
theorem cut_take {α : Type} (xs : List α) (a : Nat) : cut xs none (some (a : Int)) = xs.take a := by
  unfold cut
  rw [HT.sIx_nat]
  simp [HT.sIx]
theorem cut_drop {α : Type} (xs : List α) (a : Nat) : cut xs (some (a : Int)) none = xs.drop a := by
  unfold cut
  rw [HT.sIx_nat]
  simp [HT.sIx]
  by_cases h : a ≤ xs.length
  · rw [Nat.min_eq_left h]
    exact List.take_of_length_le (by simp)
  · rw [Nat.min_eq_right (by omega), List.drop_of_length_le (Nat.le_refl _), List.drop_of_length_le (by omega)]
    simp
/-- atoms that are no names, of which one is put among names -/
structure At (d : D) : Prop where
  ty : (tyD d).isSome = true
  lay : (toPy d).canLay0 = true
  s : Sm 70 1 d
theorem at_int {z : Int} (h0 : 0 ≤ z) (h : z < 10 ^ 41) : At (.int z) := ⟨rfl, by simp [toPy, PyData.canLay0], (sm_int h0 h).mono (by decide) (by decide)⟩
theorem nm_int {f : Nat} {ns : List Int} (f2 : f ≤ 64) (h : Nm f ns) : ∀ d ∈ ns.map D.int, At d := fun d hd => by
  obtain ⟨x, hx, rfl⟩ := List.mem_map.mp hd
  have h1 := h.lo x hx
  have h2 := h.hi x hx
  have hp : (2 : Int) ^ f ≤ 2 ^ 64 := by rw [pow_cast, pow_cast]; exact Int.ofNat_le.mpr (Nat.pow_le_pow_right (by decide) f2)
  have h3 : (2 : Int) ^ 64 ≤ 10 ^ 41 := by decide
  exact at_int h1 (by omega)
theorem odd_lst {f : Nat} {ds : List D} (hd : ∀ d ∈ ds, At d) (hl : ds.length ≤ 50) (bad : ¬ (isN (.nd .lst ds) f = true ∧ 2 ≤ ds.length)) : Odd f (.nd .lst ds) := by
  refine ⟨⟨rfl, fun c z => (by cases z), fun es e => ?_⟩, by simp [lenN]; omega, bad, (sm_lst (fun d h => (hd d h).s) (fun d h => (hd d h).lay) hl).mono (by decide) (by decide)⟩
  cases e
  exact ⟨fun x hx => (hd x hx).ty, by omega⟩
theorem odd_flat {f : Nat} {d : D} (ht : (tyD d).isSome = true) (h1 : ∀ c, d ≠ .nd .scr c) (h2 : ∀ ds, d ≠ .nd .lst ds) (h3 : isN d f = false) (h4 : lenN d ≤ 900) (s : Sm 4000 3 d) : Odd f d :=
  ⟨⟨ht, h1, fun ds e => absurd e (h2 ds)⟩, h4, fun z => (by rw [h3] at z; cases z.1), s⟩
theorem not_all {f : Nat} {ds : List D} {d : D} (hd : d ∈ ds) (h : isF d 0 (2 ^ f - 1) = false) : ¬ (isN (.nd .lst ds) f = true ∧ 2 ≤ ds.length) := fun z => by
  have z1 : ((ds.all fun x => isF x 0 (2 ^ f - 1)) && decide (unlikeN (ds.map dI) = ds.length)) = true := z.1
  rw [Bool.and_eq_true] at z1
  have := List.all_eq_true.mp z1.1 d hd
  rw [h] at this
  cases this
theorem not_unlike {f : Nat} {ns : List Int} (h : ¬ ns.Nodup) : ¬ (isN (iL ns) f = true ∧ 2 ≤ (ns.map D.int).length) := fun z => by
  have z1 : (((ns.map D.int).all fun x => isF x 0 (2 ^ f - 1)) && decide (unlikeN ((ns.map D.int).map dI) = (ns.map D.int).length)) = true := z.1
  rw [Bool.and_eq_true, decide_eq_true_eq] at z1
  have e : (ns.map D.int).map dI = ns := by
    rw [List.map_map]
    exact List.map_id _
  rw [e, List.length_map] at z1
  exact h (unlike_iff z1.2)
theorem w_mulL6 {ds : List D} (h : ds.length ≤ 100) {P : Rs → Prop} : optW (gMul (.nd .lst ds) (.int 6)) P ↔ P (.own (.nd .lst (List.replicate 6 ds).flatten)) := by
  unfold gMul
  simp only
  rw [if_pos ⟨by decide, by decide, by rw [show (6 : Int).toNat = 6 from rfl]; exact sz (by omega)⟩]
  exact Iff.rfl
theorem odd_names {s : D} {n f : Nat} {g : Nat → Int} (hs : St s) (f1 : 1 ≤ f) (f2 : f ≤ 64) (hN : Nm f (ring n g)) (h2 : 2 ≤ n) (hl : n ≤ 40) {Q} {E} (h : ∀ d s', Odd f d → St s' → Q (.fz d) [s']) : FW (r_L_odd_names [s, iL (ring n g), .int f]) Q E := by
  unfold r_L_odd_names m_L_odd_names
  rw [FW_run]
  simp [start0, par, ring_len]
  refine digit hs (by omega) (by omega) fun v s1 hs1 v1 v2 => ?_
  obtain ⟨a, rfl⟩ := Int.eq_ofNat_of_zero_le v1
  have ha : a < n := by omega
  simp [at_pv ha]
  refine ⟨powOk_of (by omega) (by omega) (by decide), sz (by decide), sz (by decide), of_ (ds := [.int (g (pv n a)), .int (-1), .int (2 ^ f), .bl true, .bl false, .non, .str "0", .nd .lst [.int 0], .nd .tup [.int 0]]) hs1 (by simp) (by simp) fun d s2 hd hs2 => ?_⟩
  simp
  have ea : ((a : Int) + 1) = ((a + 1 : Nat) : Int) := by omega
  rw [ea, cut_take, cut_drop, show (some (1 : Int)) = some ((1 : Nat) : Int) from rfl, cut_take, w_mulL6 (by simp)]
  have rl : (ring n g).length = n := ring_len n g
  have ats := nm_int f2 hN
  have atd : At d ∧ (isF d 0 (2 ^ f - 1) = true → d = .int (g (pv n a))) := by
    have hp0 : (0 : Int) < 2 ^ f := by rw [pow_cast]; exact Int.natCast_pos.mpr (Nat.two_pow_pos f)
    have hp : (2 : Int) ^ f ≤ 2 ^ 64 := by rw [pow_cast, pow_cast]; exact Int.ofNat_le.mpr (Nat.pow_le_pow_right (by decide) f2)
    have h3 : (2 : Int) ^ 64 < 10 ^ 41 := by decide
    simp only [List.mem_cons, List.not_mem_nil, or_false] at hd
    rcases hd with rfl | rfl | rfl | rfl | rfl | rfl | rfl | rfl | rfl
    · exact ⟨ats _ (List.mem_map.mpr ⟨_, List.mem_of_getElem? (ring_get (pv_lt ha)), rfl⟩), fun _ => rfl⟩
    · exact ⟨⟨rfl, by simp [toPy, PyData.canLay0], sm_m1.mono (by decide) (by decide)⟩, fun z => by simp [isF] at z⟩
    · exact ⟨at_int (by omega) (by omega), fun z => by simp [isF] at z; omega⟩
    · exact ⟨⟨rfl, by simp [toPy, PyData.canLay0], (sm_bl true).mono (by decide) (by decide)⟩, fun z => by cases z⟩
    · exact ⟨⟨rfl, by simp [toPy, PyData.canLay0], (sm_bl false).mono (by decide) (by decide)⟩, fun z => by cases z⟩
    · exact ⟨⟨rfl, by simp [toPy, PyData.canLay0], sm_non.mono (by decide) (by decide)⟩, fun z => by cases z⟩
    · exact ⟨⟨rfl, by simp only [toPy, PyData.canLay0]; decide +kernel, (sm_str (by decide +kernel)).mono (by decide) (by decide)⟩, fun z => by cases z⟩
    · exact ⟨⟨rfl, by simp [toPy, toPys, PyData.canLay0, PyData.canLayAll0], (sm_lst (m := 1) (fun d h => by rw [List.mem_singleton.mp h]; exact sm_int (by decide) (by decide)) (fun d h => by rw [List.mem_singleton.mp h]; simp [toPy, PyData.canLay0]) (by decide)).mono (by decide) (by decide)⟩, fun z => by cases z⟩
    · exact ⟨⟨rfl, by simp [toPy, toPys, PyData.canLay0, PyData.canLayAll0], (sm_tup (m := 1) (fun d h => by rw [List.mem_singleton.mp h]; exact sm_int (by decide) (by decide)) (fun d h => by rw [List.mem_singleton.mp h]; simp [toPy, PyData.canLay0]) (by decide)).mono (by decide) (by decide)⟩, fun z => by cases z⟩
  have mixd : Odd f (.nd .lst (((ring n g).map D.int).take a ++ d :: ((ring n g).map D.int).drop (a + 1))) := by
    refine odd_lst (fun x hx => ?_) (by simp [rl]; omega) ?_
    · rcases List.mem_append.mp hx with hx | hx
      · exact ats x (List.mem_of_mem_take hx)
      · rcases List.mem_cons.mp hx with rfl | hx
        · exact atd.1
        · exact ats x (List.mem_of_mem_drop hx)
    · cases e : isF d 0 (2 ^ f - 1) with
      | false => exact not_all (d := d) (List.mem_append_right _ List.mem_cons_self) e
      | true =>
        have ed := atd.2 e
        subst ed
        have eL : ((ring n g).map D.int).take a ++ D.int (g (pv n a)) :: ((ring n g).map D.int).drop (a + 1) = ((ring n g).take a ++ g (pv n a) :: (ring n g).drop (a + 1)).map D.int := by simp
        rw [eL]
        refine not_unlike fun nd => ?_
        obtain ⟨_, n2, n3⟩ := List.nodup_append.mp nd
        have gp := ring_get (g := g) (pv_lt ha)
        by_cases hlt : pv n a < a
        · have : g (pv n a) ∈ (ring n g).take a := List.mem_of_getElem? (by rw [List.getElem?_take, if_pos hlt]; exact gp)
          exact n3 _ this _ List.mem_cons_self rfl
        · have hgt : a < pv n a := by unfold pv at hlt ⊢; split at hlt <;> split <;> omega
          have : g (pv n a) ∈ (ring n g).drop (a + 1) := List.mem_of_getElem? (i := pv n a - (a + 1)) (by rw [List.getElem?_drop, show a + 1 + (pv n a - (a + 1)) = pv n a by omega]; exact gp)
          exact (List.nodup_cons.mp n2).1 this
  simp [rl]
  refine ⟨sz (by decide), sz (by omega), sz (by omega), sz (by decide), sz (by omega), sz (by decide), sz (by decide), of_ (by assumption) (by simp) (by simp) fun d' s3 hd' hs3 => ?_⟩
  simp
  refine h d' s3 ?_ hs3
  have six : ∀ {x : D}, x ∈ [x] → True := fun _ => trivial
  simp only [List.mem_cons, List.not_mem_nil, or_false] at hd'
  rcases hd' with rfl | rfl | rfl | rfl | rfl | rfl | rfl | rfl | rfl | rfl | rfl | rfl | rfl | rfl
  · exact mixd
  · exact mixd
  · exact mixd
  · exact mixd
  · exact mixd
  · exact mixd
  · exact odd_lst (fun _ h => (nomatch h)) (by simp) fun z => absurd z.2 (by simp)
  · exact odd_lst (fun x hx => ats x (List.mem_of_mem_take hx)) (by simp; omega) fun z => absurd z.2 (by simp; omega)
  · exact odd_flat rfl (fun c z => (by cases z)) (fun c z => (by cases z)) rfl (by simp [lenN, rl]; omega) ((sm_tup (m := 40) (fun d h => (ats d h).s) (fun d h => (ats d h).lay) (by simp [rl]; omega)).mono (by decide) (by decide))
  · exact odd_flat rfl (fun c z => (by cases z)) (fun c z => (by cases z)) rfl (by simp [lenN]) (sm_non.mono (by decide) (by decide))
  · exact odd_flat rfl (fun c z => (by cases z)) (fun c z => (by cases z)) rfl (by simp [lenN]) ((sm_str (by decide +kernel)).mono (by decide) (by decide))
  · exact odd_flat rfl (fun c z => (by cases z)) (fun c z => (by cases z)) rfl (by simp [lenN]) (sm_dct.mono (by decide) (by decide))
  · refine odd_lst (fun x hx => ?_) (by simp [rl]; omega) ?_
    · rcases List.mem_append.mp hx with hx | hx
      · exact ats x hx
      · exact ats x (List.mem_of_mem_take hx)
    · have eL : (ring n g).map D.int ++ ((ring n g).map D.int).take 1 = (ring n g ++ (ring n g).take 1).map D.int := by simp
      rw [eL]
      refine not_unlike fun nd => ?_
      obtain ⟨_, _, n3⟩ := List.nodup_append.mp nd
      have g0 := ring_get (g := g) (k := 0) (n := n) (by omega)
      exact n3 _ (List.mem_of_getElem? g0) (g 0) (List.mem_of_getElem? (i := 0) (by rw [List.getElem?_take]; simpa using g0)) rfl
  · exact odd_flat rfl (fun c z => (by cases z)) (fun c z => (by cases z)) rfl (by simp [lenN]) ((sm_int (by decide) (by decide)).mono (by decide) (by decide))
end K53

set_option Elab.async false
set_option linter.all false
set_option maxRecDepth 100000
set_option maxHeartbeats 4000000
namespace K53
open PySem PySem.Spec L2 B
/-! ## the law -/
theorem lam_told {me : M Rs} {β : B.Env} {ts : List (Addr × Str)} {w : Str} {Q : Rs → B.Env → Prop} {E : Exn → B.Env → Prop} (hg : β[11]? = some (.gh ts))
    (h : W me (lendB β) (fun _ β1 => β1 = lendB β ∧ w = "told") fun x β1 => β1 = lendB β ∧ ((x.cls = "NoBits" ∧ w = "figs") ∨ (x.cls = "NoNames" ∧ w = "names") ∨ (x.cls = "NoLevel" ∧ w = "level") ∨ (x.cls = "TooFew" ∧ w = "told"))) (q : Q (.fz (.str w)) β) : W (mLam 11 ts 3 m_L_refused me) β Q E :=
  W_mLam hg (h.mono (fun r β1 ⟨a, b⟩ => ⟨a, _, ref_ok, rfl, by rw [← b]; exact q⟩) fun x β1 ⟨a, b⟩ => ⟨a, .fz (.str w), ref_exc b, rfl, q⟩)
theorem w_neW {x : Str} (h : x = "figs" ∨ x = "names" ∨ x = "level" ∨ x = "told") {P : Rs → Prop} : optW (gNe (.str x) (.str x)) P ↔ P (.fz (.bl false)) := by
  unfold gNe
  have ok : PyData.strOk x = true := by rcases h with rfl | rfl | rfl | rfl <;> exact ok_of _
  have s : shp (.str x) = true := by
    unfold shp SeqAt.shaped
    show (PyData.canLay0 (.str x) && decide (PyData.depth (.str x) ≤ 64)) = true
    simp [PyData.canLay0, PyData.depth, ok]
  rw [if_pos ⟨s, s⟩]
  have e : eqv (.str x) (.str x) = true := by
    unfold eqv
    show PyData.eqv (.str x) (.str x) = true
    simp [PyData.eqv]
  rw [e]
  exact Iff.rfl
theorem w_neT {x : Str} (ok : PyData.strOk x = true) {P : Rs → Prop} : optW (gNe (.str x) (.str x)) P ↔ P (.fz (.bl false)) := by
  unfold gNe
  have s : shp (.str x) = true := by
    unfold shp SeqAt.shaped
    show (PyData.canLay0 (.str x) && decide (PyData.depth (.str x) ≤ 64)) = true
    simp [PyData.canLay0, PyData.depth, ok]
  rw [if_pos ⟨s, s⟩]
  have e : eqv (.str x) (.str x) = true := by
    unfold eqv
    show PyData.eqv (.str x) (.str x) = true
    simp [PyData.eqv]
  rw [e]
  exact Iff.rfl
/-- three draws -/
theorem bads {s : D} (hs : St s) (sc x s3 s4 s5 s6 s7 s8 s9 s10 : Sl) (hn : NS s7) {ts : List (Addr × Str)} {Q : Fl → B.Env → Prop} {E : Exn → B.Env → Prop} (h : ∀ s b0 b1 b2, St s → Q .nx [sc, x, .own none s, .own none (.nd .lst [.bl b0, .bl b1, .bl b2]), s4, s5, s6, s7, s8, s9, s10, .gh ts]) :
    W (mSet 3 (mComp [7] (bnd (mCons (mP (mC (.int 3))) (mNil)) rngA) (gSet 7) (mYes) (mOp gEq (mP (mCallF [true, false] r_L_digit (mCons (mPl 2) (mCons (mP (mC (.int 3))) (mNil))))) (mP (mC (.int 0)))))) [sc, x, .own none s, s3, s4, s5, s6, s7, s8, s9, s10, .gh ts] Q E := by
  simp
  refine ⟨by rfl, W_compV (fun i acc β1 => ∃ s bs, St s ∧ acc = bs.map D.bl ∧ bs.length = i ∧ β1 = [sc, x, .own none s, s3, s4, s5, s6, .un, s8, s9, s10, .gh ts]) (by cases s7 <;> first | rfl | cases hn) ⟨s, [], hs, rfl, rfl, by simp [wipeB]⟩ (fun i d acc β1 hd hI => ?_) fun acc β1 hI => ?_⟩
  · obtain ⟨s, bs, hs, rfl, hl, rfl⟩ := hI
    have hi : i < 3 := (rng_get (n := 3) hd).1
    simp
    refine digit hs (by decide) (by decide) fun v s1 hs1 v1 v2 => ?_
    simp [wipeB]
    refine ⟨szlt (by omega), s1, hs1, bs ++ [decide (v = 0)], by simp, by simp [hl], rfl⟩
  · obtain ⟨s, bs, hs, rfl, hl, rfl⟩ := hI
    have h3 : (rng 0 3).length = 3 := rng_len 3
    rw [h3] at hl
    match bs, hl with
    | [b0, b1, b2], _ =>
      simp [backB]
      exact h s b0 b1 b2 hs
end K53

set_option Elab.async false
set_option linter.all false
set_option maxRecDepth 100000
set_option maxHeartbeats 4000000
namespace K53
open PySem PySem.Spec L2 B
theorem ring_of12 {s : D} (hs : St s) {Q} {E} (h : ∀ (f : Nat) ns s, St s → 1 ≤ f → f ≤ 64 → Nm f ns → 2 ≤ ns.length → ns.length ≤ 12 → Q (.fz (.nd .tup [.int f, iL ns])) [s]) : FW (r_L_ring_of [s, (.int 12)]) Q E := by
  unfold r_L_ring_of m_L_ring_of
  rw [FW_run]
  refine W_seq_of (fun β => ∃ (s' : D) (f : Nat), St s' ∧ 1 ≤ f ∧ f ≤ 64 ∧ β = [.own (some 0) s', .fz (.int 12), .fz (.int f), .un]) ?_ ?_
  · simp [start0, par]
    refine digit hs (by decide) (by decide) fun v s1 hs1 v1 v2 => ?_
    simp
    refine digit hs1 (by decide) (by decide) fun u s2 hs2 u1 u2 => ?_
    simp
    refine ⟨sz (by decide), of_ hs2 (by simp) (by simp) fun d s3 hd hs3 => ?_⟩
    obtain ⟨a, rfl⟩ := Int.eq_ofNat_of_zero_le v1
    obtain ⟨b, rfl⟩ := Int.eq_ofNat_of_zero_le u1
    have : ∃ f : Nat, 1 ≤ f ∧ f ≤ 64 ∧ d = .int f := by
      simp only [List.mem_cons, List.not_mem_nil, or_false] at hd
      rcases hd with rfl | rfl | rfl | rfl
      · exact ⟨64, by decide, by decide, rfl⟩
      · exact ⟨64, by decide, by decide, rfl⟩
      · exact ⟨1 + a, by omega, by omega, by simp⟩
      · exact ⟨2 + b, by omega, by omega, by simp⟩
    obtain ⟨f, f1, f2, rfl⟩ := this
    simp
    exact ⟨s3, hs3, f, f1, f2, rfl, rfl⟩
  · rintro β ⟨s', f, hs', f1, f2, rfl⟩
    have hp2 : 2 ^ 1 ≤ 2 ^ f := Nat.pow_le_pow_right (by decide) f1
    refine W_seq_of (fun β => ∃ (s' : D) (n : Nat), St s' ∧ 2 ≤ n ∧ n ≤ 12 ∧ β = [.own (some 0) s', .fz (.int 12), .fz (.int f), .fz (.int n)]) ?_ ?_
    · simp
      refine digit hs' (by decide) (by decide) fun v s1 hs1 v1 v2 => ?_
      obtain ⟨a, rfl⟩ := Int.eq_ofNat_of_zero_le v1
      simp
      exact ⟨s1, hs1, 2 + a, by omega, by omega, rfl, by simp⟩
    · rintro β ⟨s', n, hs', n1, n2, rfl⟩
      refine W_seq_of (fun β => ∃ (n : Nat), 2 ≤ n ∧ n ≤ 12 ∧ n ≤ 2 ^ f ∧ β = [.own (some 0) s', .fz (.int 12), .fz (.int f), .fz (.int n)]) ?_ ?_
      · simp
        split
        · refine ⟨powOk_of (by omega) (by omega) (by decide), ?_⟩
          rename_i hf
          by_cases hlt : (2 : Int) ^ f < n
          · rw [if_pos hlt]
            rw [pow_cast] at hlt ⊢
            exact ⟨2 ^ f, by omega, by omega, by omega, rfl⟩
          · rw [if_neg hlt]
            rw [pow_cast] at hlt
            exact ⟨n, by omega, by omega, by omega, rfl⟩
        · rename_i hf
          have : 2 ^ 10 ≤ 2 ^ f := Nat.pow_le_pow_right (by decide) (by omega)
          exact ⟨n, by omega, by omega, by omega, rfl⟩
      · rintro β ⟨n, n1, n2, n3, rfl⟩
        simp
        refine names hs' f2 (by omega) n3 fun ns s2 hs2 hN hl => ?_
        simp
        exact ⟨sz (by decide), h f ns s2 hs2 f1 f2 hN (by omega) (by omega)⟩
theorem dueW_in (bs : List Bool) : dueW ["figs", "names", "level"] bs = "figs" ∨ dueW ["figs", "names", "level"] bs = "names" ∨ dueW ["figs", "names", "level"] bs = "level" ∨ dueW ["figs", "names", "level"] bs = "told" := by
  match bs with
  | [] => exact .inr (.inr (.inr rfl))
  | true :: _ => exact .inl rfl
  | [false] => exact .inr (.inr (.inr rfl))
  | false :: true :: _ => exact .inr (.inl rfl)
  | [false, false] => exact .inr (.inr (.inr rfl))
  | false :: false :: true :: _ => exact .inr (.inr (.inl rfl))
  | false :: false :: false :: _ => exact .inr (.inr (.inr rfl))
theorem cut_1 (a b c : D) : cut [a, b, c] none (some 1) = [a] := cut_take [a, b, c] 1
theorem cut_2 (a b c : D) : cut [a, b, c] none (some 2) = [a, b] := cut_take [a, b, c] 2
/-- what is put together for a turn -/
structure Put (b0 b1 b2 : Bool) (fd nd ld : D) : Prop where
  tf : (tyD fd).isSome = true
  tn : Thg nd
  ln : lenN nd ≤ 900
  tl : (tyD ld).isSome = true
  f0 : b0 = true → isF fd 1 64 = false
  f1 : b0 = false → isF fd 1 64 = true
  n1 : b0 = false → b1 = true → Bad2 nd fd
  n2 : b0 = false → b1 = false → Good2 nd fd
  l1 : b2 = true → isF ld 0 6 = false
  l2 : b2 = false → isF ld 0 6 = true
theorem bad_good {nd fd : D} (b : Bad2 nd fd) (g : Good2 nd fd) : False := by
  obtain ⟨f, e, _, _, bad⟩ := b
  obtain ⟨f', n, g, e2, _, _, rfl, hN, n2, _⟩ := g
  rw [e] at e2
  have : f = f' := by
    have := D.int.inj e2
    omega
  subst this
  exact bad ⟨isN_of hN, by simp [lenN, ring_len]; exact n2⟩
theorem turns {b0 b1 b2 : Bool} {fd nd ld : D} (p : Put b0 b1 b2 fd nd ld) (sc x st s5 s7 s8 : Sl) (n7 : NS s7) {ts : List (Addr × Str)} {Q : Fl → B.Env → Prop} {E : Exn → B.Env → Prop} (h : ∀ s7, NS s7 → Q .nx [sc, x, st, .own none (.nd .lst [.bl b0, .bl b1, .bl b2]), .fz ld, s5, .own none (.nd .lst words), s7, s8, .fz fd, .fz nd, .gh ts]) :
    W (mFor (bnd (mCons (mP (mC (.int 2))) (mNil)) rngA) (gSet 7) (seqF (mIfS (asB (mOp gNe (mP (mLam 11 ts 3 m_L_refused (mCallF [false] r_P_rounds (mCons (mPl 9) (mNil))))) (mP (mCallF [false, false] r_L_due (mCons (mPl 6) (mCons (mP (mSl (mPl 3) (mNoPart) (mPart (mC (.int 1))))) (mNil))))))) (mRet (mC (.bl false))) (B.ret .nx))
  (seqF (mIfS (asB (mOp gNe (mP (mLam 11 ts 3 m_L_refused (mCallK [false, false] r_P_paint 1 1 (kp [0, 1]) (mCons (mPl 10) (mNil)) (mCons (mPl 9) (mNil))))) (mP (mCallF [false, false] r_L_due (mCons (mPl 6) (mCons (mP (mSl (mPl 3) (mNoPart) (mPart (mC (.int 2))))) (mNil))))))) (mRet (mC (.bl false))) (B.ret .nx))
  (seqF (mIfS (asB (mOp gNe (mP (mLam 11 ts 3 m_L_refused (mCallK [false, false] r_P_posts 1 1 (kp [0, 1]) (mCons (mPl 10) (mNil)) (mCons (mPl 9) (mNil))))) (mP (mCallF [false, false] r_L_due (mCons (mPl 6) (mCons (mP (mSl (mPl 3) (mNoPart) (mPart (mC (.int 2))))) (mNil))))))) (mRet (mC (.bl false))) (B.ret .nx))
  (mIfS (asB (mOp gNe (mP (mLam 11 ts 3 m_L_refused (mCallK [false, false, false] r_P_thinned 2 1 (kp [0, 1, 2]) (mCons (mPl 10) (mCons (mPl 4) (mNil))) (mCons (mPl 9) (mNil))))) (mP (mCallF [false, false] r_L_due (mCons (mPl 6) (mCons (mPl 3) (mNil))))))) (mRet (mC (.bl false))) (B.ret .nx)))))) [sc, x, st, .own none (.nd .lst [.bl b0, .bl b1, .bl b2]), .fz ld, s5, .own none (.nd .lst words), s7, s8, .fz fd, .fz nd, .gh ts] Q E := by
  simp
  refine ⟨by rfl, W_forL (fun i β => ∃ s7, NS s7 ∧ β = [sc, x, st, .own none (.nd .lst [.bl b0, .bl b1, .bl b2]), .fz ld, s5, .own none (.nd .lst words), s7, s8, .fz fd, .fz nd, .gh ts]) ⟨_, n7, rfl⟩ (fun i d β hd hI => ?_) fun β hI => ?_⟩
  · obtain ⟨s7, n7, rfl⟩ := hI
    simp
    refine lam_told (w := dueW ["figs", "names", "level"] [b0]) rfl ?_ ?_
    · simp [lendB, lendS]
      refine roundsD p.tf (fun q r => ?_) fun q => ?_
      · have : b0 = false := by cases e : b0 with | false => rfl | true => rw [p.f0 e] at q; cases q
        subst this
        simp [dueW]
      · have : b0 = true := by cases e : b0 with | true => rfl | false => rw [p.f1 e] at q; cases q
        subst this
        simp [dueW]
    simp [cut_1, cut_2]
    refine due (bs := [b0]) (by simp) ?_
    simp [immR, imm, w_neW (dueW_in [b0])]
    refine lam_told (w := dueW ["figs", "names", "level"] [b0, b1]) rfl ?_ ?_
    · simp [lendB, lendS, kp, pick]
      refine paintD p.tf p.tn p.ln (fun q => ?_) (fun q => ?_) fun q r => ?_
      · have : b0 = true := by cases e : b0 with | true => rfl | false => rw [p.f1 e] at q; cases q
        subst this
        simp [dueW]
      · have e0 : b0 = false := by
          cases e : b0 with
          | false => rfl
          | true =>
            obtain ⟨f, rfl, f1, f2, _⟩ := q
            have := p.f0 e
            simp [isF] at this
            omega
        have e1 : b1 = true := by
          cases e : b1 with
          | true => rfl
          | false => exact (bad_good q (p.n2 e0 e)).elim
        subst e0 e1
        simp [dueW]
      · have e0 : b0 = false := by
          cases e : b0 with
          | false => rfl
          | true =>
            obtain ⟨f, n, g, rfl, f1, f2, _⟩ := q
            have := p.f0 e
            simp [isF] at this
            omega
        have e1 : b1 = false := by
          cases e : b1 with
          | false => rfl
          | true => exact (bad_good (p.n1 e0 e) q).elim
        subst e0 e1
        simp [dueW]
    simp [cut_1, cut_2]
    refine due (bs := [b0, b1]) (by simp) ?_
    simp [immR, imm, w_neW (dueW_in [b0, b1])]
    refine lam_told (w := dueW ["figs", "names", "level"] [b0, b1]) rfl ?_ ?_
    · simp [lendB, lendS, kp, pick]
      refine postsD p.tf p.tn p.ln (fun q => ?_) (fun q => ?_) fun q r => ?_
      · have : b0 = true := by cases e : b0 with | true => rfl | false => rw [p.f1 e] at q; cases q
        subst this
        simp [dueW]
      · have e0 : b0 = false := by
          cases e : b0 with
          | false => rfl
          | true =>
            obtain ⟨f, rfl, f1, f2, _⟩ := q
            have := p.f0 e
            simp [isF] at this
            omega
        have e1 : b1 = true := by
          cases e : b1 with
          | true => rfl
          | false => exact (bad_good q (p.n2 e0 e)).elim
        subst e0 e1
        simp [dueW]
      · have e0 : b0 = false := by
          cases e : b0 with
          | false => rfl
          | true =>
            obtain ⟨f, n, g, rfl, f1, f2, _⟩ := q
            have := p.f0 e
            simp [isF] at this
            omega
        have e1 : b1 = false := by
          cases e : b1 with
          | false => rfl
          | true => exact (bad_good (p.n1 e0 e) q).elim
        subst e0 e1
        simp [dueW]
    simp [cut_1, cut_2]
    refine due (bs := [b0, b1]) (by simp) ?_
    simp [immR, imm, w_neW (dueW_in [b0, b1])]
    refine lam_told (w := dueW ["figs", "names", "level"] [b0, b1, b2]) rfl ?_ ?_
    · simp [lendB, lendS, kp, pick]
      refine thinnedD p.tf p.tn p.ln p.tl (fun q => ?_) (fun q => ?_) (fun q ql => ?_) fun q ql => ?_
      · have : b0 = true := by cases e : b0 with | true => rfl | false => rw [p.f1 e] at q; cases q
        subst this
        simp [dueW]
      · have e0 : b0 = false := by
          cases e : b0 with
          | false => rfl
          | true =>
            obtain ⟨f, rfl, f1, f2, _⟩ := q
            have := p.f0 e
            simp [isF] at this
            omega
        have e1 : b1 = true := by
          cases e : b1 with
          | true => rfl
          | false => exact (bad_good q (p.n2 e0 e)).elim
        subst e0 e1
        simp [dueW]
      · have e0 : b0 = false := by
          cases e : b0 with
          | false => rfl
          | true =>
            obtain ⟨f, n, g, rfl, f1, f2, _⟩ := q
            have := p.f0 e
            simp [isF] at this
            omega
        have e1 : b1 = false := by
          cases e : b1 with
          | false => rfl
          | true => exact (bad_good (p.n1 e0 e) q).elim
        have e2 : b2 = true := by cases e : b2 with | true => rfl | false => rw [p.l2 e] at ql; cases ql
        subst e0 e1 e2
        simp [dueW]
      · have e0 : b0 = false := by
          cases e : b0 with
          | false => rfl
          | true =>
            obtain ⟨f, n, g, rfl, f1, f2, _⟩ := q
            have := p.f0 e
            simp [isF] at this
            omega
        have e1 : b1 = false := by
          cases e : b1 with
          | false => rfl
          | true => exact (bad_good (p.n1 e0 e) q).elim
        have e2 : b2 = false := by cases e : b2 with | false => rfl | true => rw [p.l1 e] at ql; cases ql
        subst e0 e1 e2
        exact ⟨fun r => by simp [dueW], fun t => by simp [dueW]⟩
    simp
    refine due (bs := [b0, b1, b2]) (by simp) ?_
    simp [immR, imm, w_neW (dueW_in [b0, b1, b2])]
  · obtain ⟨s7, n7, rfl⟩ := hI
    exact h s7 n7
end K53

set_option Elab.async false
set_option linter.all false
set_option maxRecDepth 100000
set_option maxHeartbeats 4000000
namespace K53
open PySem PySem.Spec L2 B
/-- an odd thing among figures or levels -/
structure OddI (lo hi : Int) (d : D) : Prop where
  ty : (tyD d).isSome = true
  no : isF d lo hi = false
  s : Sm 4000 3 d
theorem oi_int {lo hi z : Int} (h0 : 0 ≤ z) (h : z < 10 ^ 41) (n : ¬ (lo ≤ z ∧ z ≤ hi)) : OddI lo hi (.int z) := ⟨rfl, by simp only [isF, decide_eq_false_iff_not]; exact n, (sm_int h0 h).mono (by decide) (by decide)⟩
theorem oi_m1 {lo hi : Int} (n : -1 < lo) : OddI lo hi (.int (-1)) := ⟨rfl, by simp only [isF, decide_eq_false_iff_not]; omega, sm_m1.mono (by decide) (by decide)⟩
theorem oi_bl {lo hi : Int} (b : Bool) : OddI lo hi (.bl b) := ⟨rfl, rfl, (sm_bl b).mono (by decide) (by decide)⟩
theorem oi_non {lo hi : Int} : OddI lo hi .non := ⟨rfl, rfl, sm_non.mono (by decide) (by decide)⟩
theorem oi_str {lo hi : Int} {x : Str} (h : (PyData.strOk x && decide ((PyData.str x).shown.length ≤ 60) && PyData.strOk (PyData.str x).shown) = true) : OddI lo hi (.str x) := ⟨rfl, rfl, (sm_str h).mono (by decide) (by decide)⟩
theorem oi_lst {lo hi z : Int} (h0 : 0 ≤ z) (h : z < 10 ^ 41) : OddI lo hi (.nd .lst [.int z]) := ⟨rfl, rfl, (sm_lst (m := 1) (fun d h' => by rw [List.mem_singleton.mp h']; exact sm_int h0 h) (fun d h' => by rw [List.mem_singleton.mp h']; simp [toPy, PyData.canLay0]) (by simp)).mono (by decide) (by decide)⟩
section
variable {sc x s5 s6 s7 s8 : Sl} {ts : List (Addr × Str)} {E : Exn → B.Env → Prop} {b0 b1 b2 : Bool}
theorem houses1 {s ld : D} {n f : Nat} {g : Nat → Int} (hs : St s) (f1 : 1 ≤ f) (f2 : f ≤ 64) (hN : Nm f (ring n g)) (h2 : 2 ≤ n) (hl : n ≤ 40) {Q : Fl → B.Env → Prop} (h : ∀ s nd, St s → (b1 = true → Odd f nd) → (b1 = false → nd = iL (ring n g)) → Q .nx [sc, x, .own none s, .own none (.nd .lst [.bl b0, .bl b1, .bl b2]), .fz ld, s5, s6, s7, s8, .fz (.int f), .fz nd, .gh ts]) :
    W (mIfS (mTru (mP (mOp gIx (mPl 3) (mP (mC (.int 1)))))) (mSet 10 (mCallF [true, false, false] r_L_odd_names (mCons (mPl 2) (mCons (mPl 10) (mCons (mPl 9) (mNil)))))) (B.ret .nx)) [sc, x, .own none s, .own none (.nd .lst [.bl b0, .bl b1, .bl b2]), .fz ld, s5, s6, s7, s8, .fz (.int f), .fz (iL (ring n g)), .gh ts] Q E := by
  simp
  cases b1 with
  | false =>
    simp
    exact h s _ hs (fun z => by cases z) fun _ => rfl
  | true =>
    simp
    refine odd_names hs f1 f2 hN h2 hl fun d s' o hs' => ?_
    simp
    exact h s' d hs' (fun _ => o) fun z => by cases z
theorem figs1 {s ld nd : D} {f : Nat} (hs : St s) {Q : Fl → B.Env → Prop} (h : ∀ s fd, St s → (b0 = true → OddI 1 64 fd) → (b0 = false → fd = .int f) → Q .nx [sc, x, .own none s, .own none (.nd .lst [.bl b0, .bl b1, .bl b2]), .fz ld, s5, s6, s7, s8, .fz fd, .fz nd, .gh ts]) :
    W (mIfS (mTru (mP (mOp gIx (mPl 3) (mP (mC (.int 0)))))) (mSet 9 (mCallF [true, false] r_L_of (mCons (mPl 2) (mCons (mP (mLst (mCons (mP (mC (.int 0))) (mCons (mP (mC (.int 65))) (mCons (mP (mUn gNeg (mP (mC (.int 1))))) (mCons (mP (mC (.bl true))) (mCons (mP (mC (.bl false))) (mCons (mP (mC .non)) (mCons (mP (mC (.str "8"))) (mCons (mP (mLst (mCons (mP (mC (.int 8))) (mNil)))) (mCons (mP (mOp gPow (mP (mC (.int 10))) (mP (mC (.int 40))))) (mNil)))))))))))) (mNil))))) (B.ret .nx)) [sc, x, .own none s, .own none (.nd .lst [.bl b0, .bl b1, .bl b2]), .fz ld, s5, s6, s7, s8, .fz (.int f), .fz nd, .gh ts] Q E := by
  simp
  cases b0 with
  | false =>
    simp
    exact h s _ hs (fun z => by cases z) fun _ => rfl
  | true =>
    simp
    refine ⟨sz (by decide), powOk_of (by decide) (by decide) (by decide), sz (by decide), of_ (ds := [.int 0, .int 65, .int (-1), .bl true, .bl false, .non, .str "8", .nd .lst [.int 8], .int 10000000000000000000000000000000000000000]) hs (by simp) (by simp) fun d s' hd hs' => ?_⟩
    simp
    refine h s' d hs' (fun _ => ?_) fun z => by cases z
    simp only [List.mem_cons, List.not_mem_nil, or_false] at hd
    rcases hd with rfl | rfl | rfl | rfl | rfl | rfl | rfl | rfl | rfl
    · exact oi_int (by decide) (by decide) (by omega)
    · exact oi_int (by decide) (by decide) (by omega)
    · exact oi_m1 (by decide)
    · exact oi_bl _
    · exact oi_bl _
    · exact oi_non
    · exact oi_str (by decide +kernel)
    · exact oi_lst (by decide) (by decide)
    · exact oi_int (by decide) (by decide) (by decide)
theorem level1 {s ld fd nd : D} (hs : St s) {Q : Fl → B.Env → Prop} (h : ∀ s ld', St s → (b2 = true → OddI 0 6 ld') → (b2 = false → ld' = ld) → Q .nx [sc, x, .own none s, .own none (.nd .lst [.bl b0, .bl b1, .bl b2]), .fz ld', s5, s6, s7, s8, .fz fd, .fz nd, .gh ts]) :
    W (mIfS (mTru (mP (mOp gIx (mPl 3) (mP (mC (.int 2)))))) (mSet 4 (mCallF [true, false] r_L_of (mCons (mPl 2) (mCons (mP (mLst (mCons (mP (mUn gNeg (mP (mC (.int 1))))) (mCons (mP (mC (.int 7))) (mCons (mP (mC (.bl true))) (mCons (mP (mC (.bl false))) (mCons (mP (mC .non)) (mCons (mP (mC (.str "1"))) (mCons (mP (mLst (mCons (mP (mC (.int 1))) (mNil)))) (mCons (mP (mOp gPow (mP (mC (.int 10))) (mP (mC (.int 40))))) (mNil))))))))))) (mNil))))) (B.ret .nx)) [sc, x, .own none s, .own none (.nd .lst [.bl b0, .bl b1, .bl b2]), .fz ld, s5, s6, s7, s8, .fz fd, .fz nd, .gh ts] Q E := by
  simp
  cases b2 with
  | false =>
    simp
    exact h s _ hs (fun z => by cases z) fun _ => rfl
  | true =>
    simp
    refine ⟨sz (by decide), powOk_of (by decide) (by decide) (by decide), sz (by decide), of_ (ds := [.int (-1), .int 7, .bl true, .bl false, .non, .str "1", .nd .lst [.int 1], .int 10000000000000000000000000000000000000000]) hs (by simp) (by simp) fun d s' hd hs' => ?_⟩
    simp
    refine h s' d hs' (fun _ => ?_) fun z => by cases z
    simp only [List.mem_cons, List.not_mem_nil, or_false] at hd
    rcases hd with rfl | rfl | rfl | rfl | rfl | rfl | rfl | rfl
    · exact oi_m1 (by decide)
    · exact oi_int (by decide) (by decide) (by omega)
    · exact oi_bl _
    · exact oi_bl _
    · exact oi_non
    · exact oi_str (by decide +kernel)
    · exact oi_lst (by decide) (by decide)
    · exact oi_int (by decide) (by decide) (by decide)
end
end K53

set_option Elab.async false
set_option linter.all false
set_option maxRecDepth 100000
set_option maxHeartbeats 4000000
namespace K53
open PySem PySem.Spec L2 B
theorem great_bad {ns : List D} (h : D.int 18446744073709551616 ∈ ns) : Bad2 (.nd .lst ns) (.int 64) := ⟨64, rfl, by decide, by decide, not_all h (by decide)⟩
theorem tail1 {s sc x s3 s4 s5 s6 s7 s8 s9 s10 : _} (hs : St s) {ts : List (Addr × Str)} {Q : Fl → B.Env → Prop} {E : Exn → B.Env → Prop} (h : ∀ s s8, St s → Q .nx [sc, x, .own none s, s3, s4, s5, s6, s7, s8, s9, s10, .gh ts]) :
    W (seqF (mSet 8 (mCallF [true, false, false] r_L_names (mCons (mPl 2) (mCons (mP (mOp gAdd (mP (mC (.int 2))) (mP (mCallF [true, false] r_L_digit (mCons (mPl 2) (mCons (mP (mC (.int 8))) (mNil))))))) (mCons (mP (mC (.int 64))) (mNil))))))
  (seqF (mSetIx 8 (mOp gShl (mP (mC (.int 1))) (mP (mC (.int 64)))) (mCallF [true, false] r_L_digit (mCons (mPl 2) (mCons (mP (mCall gLen (mCons (mPl 8) (mNil)))) (mNil)))))
  (seqF (mIfS (asB (mOp gNe (mP (mLam 11 ts 3 m_L_refused (mCallD [false, false] r_P_paint [.int 64] (mCons (mPl 8) (mNil))))) (mP (mC (.str "names"))))) (mRet (mC (.bl false))) (B.ret .nx))
  (seqF (mIfS (asB (mOp gNe (mP (mLam 11 ts 3 m_L_refused (mCallD [false, false] r_P_posts [.int 64] (mCons (mPl 8) (mNil))))) (mP (mC (.str "names"))))) (mRet (mC (.bl false))) (B.ret .nx))
  (mIfS (asB (mOp gNe (mP (mLam 11 ts 3 m_L_refused (mCallD [false, false, false] r_P_thinned [.int 64] (mCons (mPl 8) (mCons (mP (mC (.int 1))) (mNil)))))) (mP (mC (.str "names"))))) (mRet (mC (.bl false))) (B.ret .nx)))))) [sc, x, .own none s, s3, s4, s5, s6, s7, s8, s9, s10, .gh ts] Q E := by
  simp
  refine digit hs (by decide) (by decide) fun v s1 hs1 v1 v2 => ?_
  obtain ⟨a, rfl⟩ := Int.eq_ofNat_of_zero_le v1
  simp
  have e1 : (2 : Int) + (a : Int) = ((2 + a : Nat) : Int) := by omega
  rw [e1]
  refine names (f := 64) hs1 (by decide) (by omega) (by have : 2 + 8 ≤ 2 ^ 64 := by decide
                                                        omega) fun ns s2 hs2 hN hl => ?_
  simp
  refine ⟨powOk_of (by decide) (by decide) (by decide), digit hs2 (by omega) (by omega) fun u s3' hs3 u1 u2 => ?_⟩
  simp [ixN_of u1 u2]
  have bd : Bad2 (.nd .lst ((ns.map D.int).set u.toNat (.int 18446744073709551616))) (.int 64) := great_bad (List.mem_set (by simp; omega) _)
  have thg : Thg (.nd .lst ((ns.map D.int).set u.toNat (.int 18446744073709551616))) := ⟨rfl, fun c z => (by cases z), fun ds e => by
    cases e
    refine ⟨fun x hx => ?_, by simp; omega⟩
    rcases List.mem_or_eq_of_mem_set hx with hx | rfl
    · obtain ⟨y, _, rfl⟩ := List.mem_map.mp hx
      rfl
    · rfl⟩
  have len : lenN (.nd .lst ((ns.map D.int).set u.toNat (.int 18446744073709551616))) ≤ 900 := by simp [lenN]; omega
  refine lam_told (w := "names") rfl ?_ ?_
  · simp [lendB, lendS]
    refine paintD rfl thg len (fun q => by simp [isF] at q) (fun _ => by simp) fun q => (bad_good bd q).elim
  simp [w_neW (x := "names") (.inr (.inl rfl))]
  refine lam_told (w := "names") rfl ?_ ?_
  · simp [lendB, lendS]
    refine postsD rfl thg len (fun q => by simp [isF] at q) (fun _ => by simp) fun q => (bad_good bd q).elim
  simp [w_neW (x := "names") (.inr (.inl rfl))]
  refine lam_told (w := "names") rfl ?_ ?_
  · simp [lendB, lendS]
    refine thinnedD rfl thg len rfl (fun q => by simp [isF] at q) (fun _ => by simp) (fun q => (bad_good bd q).elim) fun q => (bad_good bd q).elim
  simp [w_neW (x := "names") (.inr (.inl rfl))]
  exact h _ _ hs3
end K53

set_option Elab.async false
set_option linter.all false
set_option maxRecDepth 100000
set_option maxHeartbeats 4000000
namespace K53
open PySem PySem.Spec L2 B
theorem cell_at {ns : List Int} {Q} {E} (h : ∀ c : Int, Q (.fz (.int c)) []) : FW (r_L_cell_at [.nd .scr (ns.map D.int), .int 0]) Q E := by
  unfold r_L_cell_at m_L_cell_at
  rw [FW_run]
  simp [start0, par]
  cases ns with
  | nil => simp; exact h 0
  | cons c r =>
    simp
    exact h c
theorem put {b0 b1 b2 : Bool} {f n : Nat} {g : Nat → Int} {fd nd ld ld0 : D} (f1 : 1 ≤ f) (f2 : f ≤ 64) (hN : Nm f (ring n g)) (h2 : 2 ≤ n) (hl : n ≤ 40) (hn1 : b1 = true → Odd f nd) (hn2 : b1 = false → nd = iL (ring n g)) (hf1 : b0 = true → OddI 1 64 fd) (hf2 : b0 = false → fd = .int f) (hl1 : b2 = true → OddI 0 6 ld) (hl2 : b2 = false → ld = ld0) (l0 : ∃ lev : Nat, ld0 = .int lev ∧ lev ≤ 6) :
    Put b0 b1 b2 fd nd ld ∧ Sm 4000 3 fd ∧ Sm 4000 3 nd ∧ Sm 4000 3 ld := by
  obtain ⟨lev, rfl, hlev⟩ := l0
  have rl : (ring n g).length = n := ring_len n g
  have hp : ((f : Nat) : Int) < 10 ^ 41 := Int.lt_of_le_of_lt (show ((f : Nat) : Int) ≤ 64 by omega) (by decide)
  have hq : ((lev : Nat) : Int) < 10 ^ 41 := Int.lt_of_le_of_lt (show ((lev : Nat) : Int) ≤ 64 by omega) (by decide)
  have F : (tyD fd).isSome = true ∧ (b0 = true → isF fd 1 64 = false) ∧ (b0 = false → isF fd 1 64 = true) ∧ Sm 4000 3 fd := by
    cases b0 with
    | true => exact ⟨(hf1 rfl).ty, fun _ => (hf1 rfl).no, fun z => (by cases z), (hf1 rfl).s⟩
    | false =>
      rw [hf2 rfl]
      exact ⟨rfl, fun z => (by cases z), fun _ => by simp [isF]; omega, (sm_int (by omega) hp).mono (by decide) (by decide)⟩
  have L : (tyD ld).isSome = true ∧ (b2 = true → isF ld 0 6 = false) ∧ (b2 = false → isF ld 0 6 = true) ∧ Sm 4000 3 ld := by
    cases b2 with
    | true => exact ⟨(hl1 rfl).ty, fun _ => (hl1 rfl).no, fun z => (by cases z), (hl1 rfl).s⟩
    | false =>
      rw [hl2 rfl]
      exact ⟨rfl, fun z => (by cases z), fun _ => by simp [isF]; omega, (sm_int (by omega) hq).mono (by decide) (by decide)⟩
  have N : Thg nd ∧ lenN nd ≤ 900 ∧ Sm 4000 3 nd := by
    cases b1 with
    | true => exact ⟨(hn1 rfl).t, (hn1 rfl).l, (hn1 rfl).s⟩
    | false =>
      rw [hn2 rfl]
      refine ⟨⟨rfl, fun c z => (by cases z), fun ds e => ?_⟩, by simp [lenN, rl]; omega, (sm_lst (fun d h => (nm_int f2 hN d h).s) (fun d h => (nm_int f2 hN d h).lay) (m := 40) (by simp [rl]; omega)).mono (by decide) (by decide)⟩
      cases e
      exact ⟨fun x hx => (nm_int f2 hN x hx).ty, by simp [rl]; omega⟩
  refine ⟨⟨F.1, N.1, N.2.1, L.1, F.2.1, F.2.2.1, fun a b => ?_, fun a b => ?_, L.2.1, L.2.2.1⟩, F.2.2.2, N.2.2, L.2.2.2⟩
  · exact ⟨f, hf2 a, f1, f2, (hn1 b).bad⟩
  · exact ⟨f, n, g, hf2 a, f1, f2, hn2 b, hN, h2, by omega⟩
end K53

set_option Elab.async false
set_option linter.all false
set_option maxRecDepth 100000
set_option maxHeartbeats 4000000
namespace K53
open PySem PySem.Spec L2 B
theorem law_true (ns : List Int) (hl : ns.length ≤ 63) (hb : ∀ z ∈ ns, Builtin.Int.intBits z ≤ 1048576) : r_L_law [.nd .scr (ns.map D.int)] = .ok (.fz (.bl true)) [] := by
  have key : FW (r_L_law [.nd .scr (ns.map D.int)]) (fun r ios => r = .fz (.bl true) ∧ ios = []) (fun _ _ => False) := by
    unfold r_L_law
    refine FW_runT (.fz (.bl true)) [] (fun ts => ?_) ⟨rfl, rfl⟩
    unfold m_L_law
    have hin : ∀ c d, d ∈ D.int c :: cut (List.map D.int ns) (some 1) (some 8) → ∃ x : Int, d = .int x := by
      intro c d hd
      rcases List.mem_cons.mp hd with e | e
      · exact ⟨c, e⟩
      · have := List.mem_of_mem_drop (List.mem_of_mem_take e)
        obtain ⟨x, _, e⟩ := List.mem_map.mp this
        exact ⟨x, e.symm⟩
    have hcl : (cut (List.map D.int ns) (some 1) (some 8)).length ≤ 63 := by
      unfold cut
      rw [List.length_take, List.length_drop, List.length_map]
      omega
    simp [start0, par]
    refine cell_at fun c => ?_
    simp
    refine ⟨sz (by decide), sz (by omega), W_forL (fun i β => ∃ s1 s2 s3 s4 s5 s6 s7 s8 s9 s10, NS s7 ∧ β = [.fz (.nd .scr (ns.map D.int)), s1, s2, s3, s4, s5, s6, s7, s8, s9, s10, .gh ts]) ⟨_, _, _, _, _, _, _, _, _, _, NS_un, rfl⟩ (fun i d β hd hI => ?_) fun β hI => ?_⟩
    · obtain ⟨s1, s2, s3, s4, s5, s6, s7, s8, s9, s10, n7, rfl⟩ := hI
      obtain ⟨x, rfl⟩ := hin c d (List.mem_of_getElem? hd)
      rw [W_gSet]
      refine W_seq_of (fun β => β = [.fz (.nd .scr (ns.map D.int)), .fz (.int x), .own none (.nd .lst [.int x]), s3, s4, s5, s6, s7, s8, s9, s10, .gh ts]) (by simp; exact sz (by decide)) fun β e => ?_
      subst e
      rw [W_seqF]
      refine bads (.inl ⟨x, rfl⟩) _ _ _ _ _ _ _ _ _ _ n7 fun s b0 b1 b2 hs => ?_
      refine W_seq_of (fun β => ∃ (s : D) (f : Nat) (nm : List Int), St s ∧ 1 ≤ f ∧ f ≤ 64 ∧ Nm f nm ∧ 2 ≤ nm.length ∧ nm.length ≤ 40 ∧ β = [.fz (.nd .scr (ns.map D.int)), .fz (.int x), .own none s, .own none (.nd .lst [.bl b0, .bl b1, .bl b2]), s4, s5, s6, s7, s8, .fz (.int f), .fz (iL nm), .gh ts]) ?_ ?_
      · simp
        refine ring_of12 hs fun f nm s hs f1 f2 hN h2 h25 => ?_
        simp
        exact ⟨s, hs, f, f1, f2, nm, hN, h2, by omega, rfl, rfl, rfl⟩
      · rintro β ⟨s, f, nm, hs, f1, f2, hN, h2, h9, rfl⟩
        have er := ring_of_list nm
        rw [er] at hN ⊢
        refine W_seq_of (fun β => ∃ (s : D) (lev : Nat), St s ∧ lev ≤ 6 ∧ β = [.fz (.nd .scr (ns.map D.int)), .fz (.int x), .own none s, .own none (.nd .lst [.bl b0, .bl b1, .bl b2]), .fz (.int lev), s5, s6, s7, s8, .fz (.int f), .fz (iL (ring nm.length fun k => nm.getD k 0)), .gh ts]) ?_ ?_
        · simp
          refine digit hs (by decide) (by decide) fun v s1 hs1 v1 v2 => ?_
          obtain ⟨a, rfl⟩ := Int.eq_ofNat_of_zero_le v1
          simp
          exact ⟨s1, hs1, a, by omega, rfl, rfl⟩
        · rintro β ⟨s, lev, hs, hlev, rfl⟩
          rw [W_seqF]
          refine houses1 hs f1 f2 hN h2 h9 fun s nd hs hn1 hn2 => ?_
          rw [flW_nx, W_seqF]
          refine figs1 hs fun s fd hs hf1 hf2 => ?_
          rw [flW_nx, W_seqF]
          refine level1 hs fun s ld hs hl1 hl2 => ?_
          rw [flW_nx]
          obtain ⟨p, sf, sn, sl⟩ := put f1 f2 hN h2 h9 hn1 hn2 hf1 hf2 hl1 hl2 ⟨lev, rfl, hlev⟩
          obtain ⟨ok3, str3⟩ := shown3 sf sn sl (by decide) (by decide)
          have wr : ∀ {P : Rs → Prop}, optW (gRepr3 (.nd .tup [fd, nd, ld])) P ↔ P (.fz (.str (toPy (.nd .tup [fd, nd, ld])).shown)) := fun {P} => by
            unfold gRepr3
            simp only
            rw [if_pos ok3]
            exact Iff.rfl
          refine W_seq_of (fun β => β = [.fz (.nd .scr (ns.map D.int)), .fz (.int x), .own none s, .own none (.nd .lst [.bl b0, .bl b1, .bl b2]), .fz ld, .fz (.str (toPy (.nd .tup [fd, nd, ld])).shown), s6, s7, s8, .fz fd, .fz nd, .gh ts]) (by simp [wr]; exact sz (by decide)) fun β e => ?_
          subst e
          refine W_seq_of (fun β => β = [.fz (.nd .scr (ns.map D.int)), .fz (.int x), .own none s, .own none (.nd .lst [.bl b0, .bl b1, .bl b2]), .fz ld, .fz (.str (toPy (.nd .tup [fd, nd, ld])).shown), .own none (.nd .lst words), s7, s8, .fz fd, .fz nd, .gh ts]) (by simp [words]; exact sz (by decide)) fun β e => ?_
          subst e
          rw [W_seqF]
          refine turns p _ _ _ _ _ _ n7 fun s7' n7' => ?_
          rw [flW_nx]
          refine W_seq_of (fun β => β = [.fz (.nd .scr (ns.map D.int)), .fz (.int x), .own none s, .own none (.nd .lst [.bl b0, .bl b1, .bl b2]), .fz ld, .fz (.str (toPy (.nd .tup [fd, nd, ld])).shown), .own none (.nd .lst words), s7', s8, .fz fd, .fz nd, .gh ts]) (by simp [wr, w_neT str3]; exact sz (by decide)) fun β e => ?_
          subst e
          exact tail1 hs fun s s8 hs => ⟨_, _, _, _, _, _, _, _, _, _, n7', rfl⟩
    · obtain ⟨s1, s2, s3, s4, s5, s6, s7, s8, s9, s10, n7, rfl⟩ := hI
      simp
  unfold FW at key
  split at key
  · rename_i r ios e
    rw [e, key.1, key.2]
  · exact key.elim
  · exact key.elim
end K53

set_option Elab.async false
set_option linter.all false
set_option maxRecDepth 100000
set_option maxHeartbeats 4000000
namespace K53
open PySem PySem.Spec L2 B
theorem all_mk {l : PySem.W.OpenLaw} {w : World} {K : PySem.W.Frag} {h : Heap} {mg : Str → Option Value} {fa a_L_digit a_L_of a_L_great a_L_names a_L_ring_of a_L_cell_at a_L_odd_names a_L_refused a_L_due a_P_is_from a_P_sure_bits a_P_are_unlike a_P_sure_names a_P_figures_of a_P_rounds a_P_paint_by a_P_painted a_P_paint a_P_posts_in a_P_posts a_P_thinned_in a_P_thinned a_L_law : Addr} {a_RuleError : Addr} {a_NoNames : Addr} {a_NoBits : Addr} {a_NoLevel : Addr} {a_TooFew : Addr} {a_NoKind : Addr} {a_NoView : Addr} {D_P_paint : Addr} {t_P_paint_bits : Tok} {D_P_posts : Addr} {t_P_posts_bits : Tok} {D_P_thinned : Addr} {t_P_thinned_bits : Tok} {t_MOST_BITS : Tok} {t_MOST_LEVEL : Tok} {t_FEW : Tok} {b_LAST_PAINTS : Addr} {t_LAST_PAINTS_0 t_LAST_PAINTS_1 t_LAST_PAINTS_2 : Tok} {n_LAST_PAINTS : Nat} {c_law Pt : Addr} (X : K.In h) (G : h.Ns mainGlobals mg) (hfa : mg "law" = some (.ref fa))
    {xnm_TooFew xq_TooFew : Str} {xN_TooFew : Addr} {xbs_TooFew xbm_TooFew xsub_TooFew : List Value} {xsn_TooFew : List Str} {xab_TooFew : Bool} {xcol_TooFew : Option Bool} {xdd_TooFew xod_TooFew xan_TooFew : Option Addr} {x0_TooFew x1_TooFew x2_TooFew x3_TooFew x5_TooFew : Option Value} {fi_TooFew : Addr} {xoc_TooFew xkV_TooFew xdc_TooFew xpm_TooFew xcd_TooFew xct_TooFew : Value} {xsl_TooFew : Array (Option Value)}
    {od_L_digit an_L_digit : Option Addr} {sl_L_digit : Array (Option Value)} {oc_L_digit kV_L_digit dc_L_digit pm_L_digit cd_L_digit ct_L_digit : Value}
    {od_L_of an_L_of : Option Addr} {sl_L_of : Array (Option Value)} {oc_L_of kV_L_of dc_L_of pm_L_of cd_L_of ct_L_of : Value}
    {od_L_great an_L_great : Option Addr} {sl_L_great : Array (Option Value)} {oc_L_great kV_L_great dc_L_great pm_L_great cd_L_great ct_L_great : Value}
    {od_L_names an_L_names : Option Addr} {sl_L_names : Array (Option Value)} {oc_L_names kV_L_names dc_L_names pm_L_names cd_L_names ct_L_names : Value}
    {od_L_ring_of an_L_ring_of : Option Addr} {sl_L_ring_of : Array (Option Value)} {oc_L_ring_of kV_L_ring_of dc_L_ring_of pm_L_ring_of cd_L_ring_of ct_L_ring_of : Value}
    {od_L_cell_at an_L_cell_at : Option Addr} {sl_L_cell_at : Array (Option Value)} {oc_L_cell_at kV_L_cell_at dc_L_cell_at pm_L_cell_at cd_L_cell_at ct_L_cell_at : Value}
    {od_L_odd_names an_L_odd_names : Option Addr} {sl_L_odd_names : Array (Option Value)} {oc_L_odd_names kV_L_odd_names dc_L_odd_names pm_L_odd_names cd_L_odd_names ct_L_odd_names : Value}
    {od_L_refused an_L_refused : Option Addr} {sl_L_refused : Array (Option Value)} {oc_L_refused kV_L_refused dc_L_refused pm_L_refused cd_L_refused ct_L_refused : Value}
    {od_L_due an_L_due : Option Addr} {sl_L_due : Array (Option Value)} {oc_L_due kV_L_due dc_L_due pm_L_due cd_L_due ct_L_due : Value}
    {od_P_is_from an_P_is_from : Option Addr} {sl_P_is_from : Array (Option Value)} {oc_P_is_from kV_P_is_from dc_P_is_from pm_P_is_from cd_P_is_from ct_P_is_from : Value}
    {od_P_sure_bits an_P_sure_bits : Option Addr} {sl_P_sure_bits : Array (Option Value)} {oc_P_sure_bits kV_P_sure_bits dc_P_sure_bits pm_P_sure_bits cd_P_sure_bits ct_P_sure_bits : Value}
    {od_P_are_unlike an_P_are_unlike : Option Addr} {sl_P_are_unlike : Array (Option Value)} {oc_P_are_unlike kV_P_are_unlike dc_P_are_unlike pm_P_are_unlike cd_P_are_unlike ct_P_are_unlike : Value}
    {od_P_sure_names an_P_sure_names : Option Addr} {sl_P_sure_names : Array (Option Value)} {oc_P_sure_names kV_P_sure_names dc_P_sure_names pm_P_sure_names cd_P_sure_names ct_P_sure_names : Value}
    {od_P_figures_of an_P_figures_of : Option Addr} {sl_P_figures_of : Array (Option Value)} {oc_P_figures_of kV_P_figures_of dc_P_figures_of pm_P_figures_of cd_P_figures_of ct_P_figures_of : Value}
    {od_P_rounds an_P_rounds : Option Addr} {sl_P_rounds : Array (Option Value)} {oc_P_rounds kV_P_rounds dc_P_rounds pm_P_rounds cd_P_rounds ct_P_rounds : Value}
    {od_P_paint_by an_P_paint_by : Option Addr} {sl_P_paint_by : Array (Option Value)} {oc_P_paint_by kV_P_paint_by dc_P_paint_by pm_P_paint_by cd_P_paint_by ct_P_paint_by : Value}
    {od_P_painted an_P_painted : Option Addr} {sl_P_painted : Array (Option Value)} {oc_P_painted kV_P_painted dc_P_painted pm_P_painted cd_P_painted ct_P_painted : Value}
    {od_P_paint an_P_paint : Option Addr} {sl_P_paint : Array (Option Value)} {oc_P_paint  dc_P_paint pm_P_paint cd_P_paint ct_P_paint : Value}
    {od_P_posts_in an_P_posts_in : Option Addr} {sl_P_posts_in : Array (Option Value)} {oc_P_posts_in kV_P_posts_in dc_P_posts_in pm_P_posts_in cd_P_posts_in ct_P_posts_in : Value}
    {od_P_posts an_P_posts : Option Addr} {sl_P_posts : Array (Option Value)} {oc_P_posts  dc_P_posts pm_P_posts cd_P_posts ct_P_posts : Value}
    {od_P_thinned_in an_P_thinned_in : Option Addr} {sl_P_thinned_in : Array (Option Value)} {oc_P_thinned_in kV_P_thinned_in dc_P_thinned_in pm_P_thinned_in cd_P_thinned_in ct_P_thinned_in : Value}
    {od_P_thinned an_P_thinned : Option Addr} {sl_P_thinned : Array (Option Value)} {oc_P_thinned  dc_P_thinned pm_P_thinned cd_P_thinned ct_P_thinned : Value}
    {od_L_law an_L_law : Option Addr} {sl_L_law : Array (Option Value)} {oc_L_law kV_L_law dc_L_law pm_L_law cd_L_law ct_L_law : Value}
    {od_LAST_PAINTS : Option Addr} {sl_LAST_PAINTS : Array (Option Value)}
    (g_RuleError : PySem.W.nsIn K mainGlobals "RuleError" = some (some (.ref a_RuleError)))
    (g_NoNames : PySem.W.nsIn K mainGlobals "NoNames" = some (some (.ref a_NoNames)))
    (g_NoBits : PySem.W.nsIn K mainGlobals "NoBits" = some (some (.ref a_NoBits)))
    (g_NoLevel : PySem.W.nsIn K mainGlobals "NoLevel" = some (some (.ref a_NoLevel)))
    (g_TooFew : PySem.W.nsIn K mainGlobals "TooFew" = some (some (.ref a_TooFew)))
    (g_NoKind : PySem.W.nsIn K mainGlobals "NoKind" = some (some (.ref a_NoKind)))
    (g_NoView : PySem.W.nsIn K mainGlobals "NoView" = some (some (.ref a_NoView)))
    (xi_NoNames : PySem.W.excIn K a_NoNames veTail "ValueError.__new__" = true)
    (xk_NoNames : PySem.W.keepIn K (.ref a_NoNames) = true)
    (xt_NoNames : PySem.W.typeIn K (.ref a_NoNames) = some (.type "type"))
    (xs_NoNames : PySem.W.subIn K (.ref a_NoNames) (.type "BaseException") = some true)
    (xg_NoNames : PySem.W.findIn K (.ref a_NoNames) "__getattribute__" = some (some (.builtin "BaseException.__getattribute__")))
    (xgg_NoNames : PySem.W.findIn K (.ref a_NoNames) "__getattr__" = some none)
    (xd_NoNames : PySem.W.hasDictIn K a_NoNames = true)
    (xc_NoNames : PySem.W.findIn K (.ref a_NoNames) "__class__" = some (some (.builtin "object.__class__")))
    (xm_NoNames : PySem.W.mroIn K a_NoNames (.type "object") = some true)
    (xi_NoBits : PySem.W.excIn K a_NoBits veTail "ValueError.__new__" = true)
    (xk_NoBits : PySem.W.keepIn K (.ref a_NoBits) = true)
    (xt_NoBits : PySem.W.typeIn K (.ref a_NoBits) = some (.type "type"))
    (xs_NoBits : PySem.W.subIn K (.ref a_NoBits) (.type "BaseException") = some true)
    (xg_NoBits : PySem.W.findIn K (.ref a_NoBits) "__getattribute__" = some (some (.builtin "BaseException.__getattribute__")))
    (xgg_NoBits : PySem.W.findIn K (.ref a_NoBits) "__getattr__" = some none)
    (xd_NoBits : PySem.W.hasDictIn K a_NoBits = true)
    (xc_NoBits : PySem.W.findIn K (.ref a_NoBits) "__class__" = some (some (.builtin "object.__class__")))
    (xm_NoBits : PySem.W.mroIn K a_NoBits (.type "object") = some true)
    (xi_NoLevel : PySem.W.excIn K a_NoLevel veTail "ValueError.__new__" = true)
    (xk_NoLevel : PySem.W.keepIn K (.ref a_NoLevel) = true)
    (xt_NoLevel : PySem.W.typeIn K (.ref a_NoLevel) = some (.type "type"))
    (xs_NoLevel : PySem.W.subIn K (.ref a_NoLevel) (.type "BaseException") = some true)
    (xg_NoLevel : PySem.W.findIn K (.ref a_NoLevel) "__getattribute__" = some (some (.builtin "BaseException.__getattribute__")))
    (xgg_NoLevel : PySem.W.findIn K (.ref a_NoLevel) "__getattr__" = some none)
    (xd_NoLevel : PySem.W.hasDictIn K a_NoLevel = true)
    (xc_NoLevel : PySem.W.findIn K (.ref a_NoLevel) "__class__" = some (some (.builtin "object.__class__")))
    (xm_NoLevel : PySem.W.mroIn K a_NoLevel (.type "object") = some true)
    (xk_TooFew : PySem.W.keepIn K (.ref a_TooFew) = true)
    (xt_TooFew : PySem.W.typeIn K (.ref a_TooFew) = some (.type "type"))
    (xs_TooFew : PySem.W.subIn K (.ref a_TooFew) (.type "BaseException") = some true)
    (xg_TooFew : PySem.W.findIn K (.ref a_TooFew) "__getattribute__" = some (some (.builtin "BaseException.__getattribute__")))
    (xgg_TooFew : PySem.W.findIn K (.ref a_TooFew) "__getattr__" = some none)
    (xd_TooFew : PySem.W.hasDictIn K a_TooFew = true)
    (xc_TooFew : PySem.W.findIn K (.ref a_TooFew) "__class__" = some (some (.builtin "object.__class__")))
    (xm_TooFew : PySem.W.mroIn K a_TooFew (.type "object") = some true)
    (xl_TooFew : K.lookup a_TooFew = some (PySem.excClassObj xnm_TooFew xq_TooFew a_TooFew xN_TooFew xbs_TooFew xbm_TooFew true xsn_TooFew xsub_TooFew xab_TooFew xcol_TooFew xdd_TooFew x0_TooFew x1_TooFew x2_TooFew x3_TooFew x5_TooFew "ValueError.__new__"))
    (xv_TooFew : PySem.HandSPX.refsVE xbm_TooFew = true)
    (xa_TooFew : PySem.W.findIn K (.ref a_TooFew) "__setattr__" = some (some (.builtin "object.__setattr__")))
    (xn_TooFew : PySem.W.findIn K (.ref a_TooFew) "__init__" = some (some (.ref fi_TooFew)))
    (xy_TooFew : PySem.W.typeIn K (.ref fi_TooFew) = some (.type "function"))
    (xfl_TooFew : K.lookup fi_TooFew = some ⟨xoc_TooFew, xod_TooFew, .func (PySem.W.fnOf "__init__" "TooFew.__init__" (defArgs st_XTooFew) (defBody st_XTooFew) (defScope st_XTooFew) .none xkV_TooFew xdc_TooFew xpm_TooFew xan_TooFew xcd_TooFew xct_TooFew), xsl_TooFew⟩)
    (xfc_TooFew : PySem.W.codeIn K xcd_TooFew "TooFew.__init__" = true)
    (xfk_TooFew : PySem.W.keepIn K (.ref fi_TooFew) = true)
    (xf_TooFew : PySem.W.findIn K (.ref a_TooFew) "level" = some none)
    (rr_RuleError : PySem.W.readsIn K a_RuleError (.type "type") = true)
    (rg_RuleError : PySem.W.specialIn K (.ref a_RuleError) "__getattribute__" = some (some (.builtin "type.__getattribute__")))
    (rv_RuleError : PySem.W.findCls K (.ref a_RuleError) (.type "type") "__init__" = some (.val (.builtin "ValueError.__init__")))
    (em_NoBits_RuleError : PySem.W.exmOne K (.ref a_NoBits) (.ref a_RuleError) = some true)
    (em_NoNames_RuleError : PySem.W.exmOne K (.ref a_NoNames) (.ref a_RuleError) = some true)
    (em_TooFew_RuleError : PySem.W.exmOne K (.ref a_TooFew) (.ref a_RuleError) = some true)
    (em_NoLevel_RuleError : PySem.W.exmOne K (.ref a_NoLevel) (.ref a_RuleError) = some true)
    (kp_NoBits_TooFew : PySem.W.kitOne K (.ref a_NoBits) (.ref a_TooFew) = some false)
    (kp_NoNames_TooFew : PySem.W.kitOne K (.ref a_NoNames) (.ref a_TooFew) = some false)
    (kp_TooFew_TooFew : PySem.W.kitOne K (.ref a_TooFew) (.ref a_TooFew) = some true)
    (kp_NoLevel_TooFew : PySem.W.kitOne K (.ref a_NoLevel) (.ref a_TooFew) = some false)
    (kp_NoBits_NoLevel : PySem.W.kitOne K (.ref a_NoBits) (.ref a_NoLevel) = some false)
    (kp_NoNames_NoLevel : PySem.W.kitOne K (.ref a_NoNames) (.ref a_NoLevel) = some false)
    (kp_TooFew_NoLevel : PySem.W.kitOne K (.ref a_TooFew) (.ref a_NoLevel) = some false)
    (kp_NoLevel_NoLevel : PySem.W.kitOne K (.ref a_NoLevel) (.ref a_NoLevel) = some true)
    (kp_NoBits_NoNames : PySem.W.kitOne K (.ref a_NoBits) (.ref a_NoNames) = some false)
    (kp_NoNames_NoNames : PySem.W.kitOne K (.ref a_NoNames) (.ref a_NoNames) = some true)
    (kp_TooFew_NoNames : PySem.W.kitOne K (.ref a_TooFew) (.ref a_NoNames) = some false)
    (kp_NoLevel_NoNames : PySem.W.kitOne K (.ref a_NoLevel) (.ref a_NoNames) = some false)
    (kp_NoBits_NoBits : PySem.W.kitOne K (.ref a_NoBits) (.ref a_NoBits) = some true)
    (kp_NoNames_NoBits : PySem.W.kitOne K (.ref a_NoNames) (.ref a_NoBits) = some false)
    (kp_TooFew_NoBits : PySem.W.kitOne K (.ref a_TooFew) (.ref a_NoBits) = some false)
    (kp_NoLevel_NoBits : PySem.W.kitOne K (.ref a_NoLevel) (.ref a_NoBits) = some false)
    (kp_NoBits_NoView : PySem.W.kitOne K (.ref a_NoBits) (.ref a_NoView) = some false)
    (kp_NoNames_NoView : PySem.W.kitOne K (.ref a_NoNames) (.ref a_NoView) = some false)
    (kp_TooFew_NoView : PySem.W.kitOne K (.ref a_TooFew) (.ref a_NoView) = some false)
    (kp_NoLevel_NoView : PySem.W.kitOne K (.ref a_NoLevel) (.ref a_NoView) = some false)
    (kp_NoBits_NoKind : PySem.W.kitOne K (.ref a_NoBits) (.ref a_NoKind) = some false)
    (kp_NoNames_NoKind : PySem.W.kitOne K (.ref a_NoNames) (.ref a_NoKind) = some false)
    (kp_TooFew_NoKind : PySem.W.kitOne K (.ref a_TooFew) (.ref a_NoKind) = some false)
    (kp_NoLevel_NoKind : PySem.W.kitOne K (.ref a_NoLevel) (.ref a_NoKind) = some false)
    (zb_ValueError : PySem.W.nsIn K mainGlobals "ValueError" = some none)
    (kq_NoBits_ValueError : PySem.W.kitOne K (.ref a_NoBits) (.type "ValueError") = some true)
    (kq_NoNames_ValueError : PySem.W.kitOne K (.ref a_NoNames) (.type "ValueError") = some true)
    (kq_TooFew_ValueError : PySem.W.kitOne K (.ref a_TooFew) (.type "ValueError") = some true)
    (kq_NoLevel_ValueError : PySem.W.kitOne K (.ref a_NoLevel) (.type "ValueError") = some true)
    (xo_n : PySem.W.specialIn K (.builtin "object.__class__") "__get__" = some (some (.builtin "getset_descriptor.__get__")))
    (xo_t : PySem.W.takesIn K (.builtin "object.__class__") = some true)
    (h_L_digit : PySem.W.nsIn K mainGlobals "_law_digit" = some (some (.ref a_L_digit)))
    (l_L_digit : K.lookup a_L_digit = some ⟨oc_L_digit, od_L_digit, .func (PySem.W.fnOf "_law_digit" "_law_digit" (defArgs st_L_digit) (defBody st_L_digit) (defScope st_L_digit) .none kV_L_digit dc_L_digit pm_L_digit an_L_digit cd_L_digit ct_L_digit), sl_L_digit⟩)
    (c_L_digit : PySem.W.codeIn K cd_L_digit "_law_digit" = true)
    (k_L_digit : PySem.W.keepIn K (.ref a_L_digit) = true)
    (h_L_of : PySem.W.nsIn K mainGlobals "_law_of" = some (some (.ref a_L_of)))
    (l_L_of : K.lookup a_L_of = some ⟨oc_L_of, od_L_of, .func (PySem.W.fnOf "_law_of" "_law_of" (defArgs st_L_of) (defBody st_L_of) (defScope st_L_of) .none kV_L_of dc_L_of pm_L_of an_L_of cd_L_of ct_L_of), sl_L_of⟩)
    (c_L_of : PySem.W.codeIn K cd_L_of "_law_of" = true)
    (k_L_of : PySem.W.keepIn K (.ref a_L_of) = true)
    (h_L_great : PySem.W.nsIn K mainGlobals "_law_great" = some (some (.ref a_L_great)))
    (l_L_great : K.lookup a_L_great = some ⟨oc_L_great, od_L_great, .func (PySem.W.fnOf "_law_great" "_law_great" (defArgs st_L_great) (defBody st_L_great) (defScope st_L_great) .none kV_L_great dc_L_great pm_L_great an_L_great cd_L_great ct_L_great), sl_L_great⟩)
    (c_L_great : PySem.W.codeIn K cd_L_great "_law_great" = true)
    (k_L_great : PySem.W.keepIn K (.ref a_L_great) = true)
    (h_L_names : PySem.W.nsIn K mainGlobals "_law_names" = some (some (.ref a_L_names)))
    (l_L_names : K.lookup a_L_names = some ⟨oc_L_names, od_L_names, .func (PySem.W.fnOf "_law_names" "_law_names" (defArgs st_L_names) (defBody st_L_names) (defScope st_L_names) .none kV_L_names dc_L_names pm_L_names an_L_names cd_L_names ct_L_names), sl_L_names⟩)
    (c_L_names : PySem.W.codeIn K cd_L_names "_law_names" = true)
    (k_L_names : PySem.W.keepIn K (.ref a_L_names) = true)
    (h_L_ring_of : PySem.W.nsIn K mainGlobals "_law_ring_of" = some (some (.ref a_L_ring_of)))
    (l_L_ring_of : K.lookup a_L_ring_of = some ⟨oc_L_ring_of, od_L_ring_of, .func (PySem.W.fnOf "_law_ring_of" "_law_ring_of" (defArgs st_L_ring_of) (defBody st_L_ring_of) (defScope st_L_ring_of) .none kV_L_ring_of dc_L_ring_of pm_L_ring_of an_L_ring_of cd_L_ring_of ct_L_ring_of), sl_L_ring_of⟩)
    (c_L_ring_of : PySem.W.codeIn K cd_L_ring_of "_law_ring_of" = true)
    (k_L_ring_of : PySem.W.keepIn K (.ref a_L_ring_of) = true)
    (h_L_cell_at : PySem.W.nsIn K mainGlobals "_law_cell_at" = some (some (.ref a_L_cell_at)))
    (l_L_cell_at : K.lookup a_L_cell_at = some ⟨oc_L_cell_at, od_L_cell_at, .func (PySem.W.fnOf "_law_cell_at" "_law_cell_at" (defArgs st_L_cell_at) (defBody st_L_cell_at) (defScope st_L_cell_at) .none kV_L_cell_at dc_L_cell_at pm_L_cell_at an_L_cell_at cd_L_cell_at ct_L_cell_at), sl_L_cell_at⟩)
    (c_L_cell_at : PySem.W.codeIn K cd_L_cell_at "_law_cell_at" = true)
    (k_L_cell_at : PySem.W.keepIn K (.ref a_L_cell_at) = true)
    (h_L_odd_names : PySem.W.nsIn K mainGlobals "_law_odd_names" = some (some (.ref a_L_odd_names)))
    (l_L_odd_names : K.lookup a_L_odd_names = some ⟨oc_L_odd_names, od_L_odd_names, .func (PySem.W.fnOf "_law_odd_names" "_law_odd_names" (defArgs st_L_odd_names) (defBody st_L_odd_names) (defScope st_L_odd_names) .none kV_L_odd_names dc_L_odd_names pm_L_odd_names an_L_odd_names cd_L_odd_names ct_L_odd_names), sl_L_odd_names⟩)
    (c_L_odd_names : PySem.W.codeIn K cd_L_odd_names "_law_odd_names" = true)
    (k_L_odd_names : PySem.W.keepIn K (.ref a_L_odd_names) = true)
    (h_L_refused : PySem.W.nsIn K mainGlobals "_law_refused" = some (some (.ref a_L_refused)))
    (l_L_refused : K.lookup a_L_refused = some ⟨oc_L_refused, od_L_refused, .func (PySem.W.fnOf "_law_refused" "_law_refused" (defArgs st_L_refused) (defBody st_L_refused) (defScope st_L_refused) .none kV_L_refused dc_L_refused pm_L_refused an_L_refused cd_L_refused ct_L_refused), sl_L_refused⟩)
    (c_L_refused : PySem.W.codeIn K cd_L_refused "_law_refused" = true)
    (k_L_refused : PySem.W.keepIn K (.ref a_L_refused) = true)
    (h_L_due : PySem.W.nsIn K mainGlobals "_law_due" = some (some (.ref a_L_due)))
    (l_L_due : K.lookup a_L_due = some ⟨oc_L_due, od_L_due, .func (PySem.W.fnOf "_law_due" "_law_due" (defArgs st_L_due) (defBody st_L_due) (defScope st_L_due) .none kV_L_due dc_L_due pm_L_due an_L_due cd_L_due ct_L_due), sl_L_due⟩)
    (c_L_due : PySem.W.codeIn K cd_L_due "_law_due" = true)
    (k_L_due : PySem.W.keepIn K (.ref a_L_due) = true)
    (h_P_is_from : PySem.W.nsIn K mainGlobals "is_from" = some (some (.ref a_P_is_from)))
    (l_P_is_from : K.lookup a_P_is_from = some ⟨oc_P_is_from, od_P_is_from, .func (PySem.W.fnOf "is_from" "is_from" (defArgs st_P_is_from) (defBody st_P_is_from) (defScope st_P_is_from) .none kV_P_is_from dc_P_is_from pm_P_is_from an_P_is_from cd_P_is_from ct_P_is_from), sl_P_is_from⟩)
    (c_P_is_from : PySem.W.codeIn K cd_P_is_from "is_from" = true)
    (k_P_is_from : PySem.W.keepIn K (.ref a_P_is_from) = true)
    (h_P_sure_bits : PySem.W.nsIn K mainGlobals "sure_bits" = some (some (.ref a_P_sure_bits)))
    (l_P_sure_bits : K.lookup a_P_sure_bits = some ⟨oc_P_sure_bits, od_P_sure_bits, .func (PySem.W.fnOf "sure_bits" "sure_bits" (defArgs st_P_sure_bits) (defBody st_P_sure_bits) (defScope st_P_sure_bits) .none kV_P_sure_bits dc_P_sure_bits pm_P_sure_bits an_P_sure_bits cd_P_sure_bits ct_P_sure_bits), sl_P_sure_bits⟩)
    (c_P_sure_bits : PySem.W.codeIn K cd_P_sure_bits "sure_bits" = true)
    (k_P_sure_bits : PySem.W.keepIn K (.ref a_P_sure_bits) = true)
    (h_P_are_unlike : PySem.W.nsIn K mainGlobals "are_unlike" = some (some (.ref a_P_are_unlike)))
    (l_P_are_unlike : K.lookup a_P_are_unlike = some ⟨oc_P_are_unlike, od_P_are_unlike, .func (PySem.W.fnOf "are_unlike" "are_unlike" (defArgs st_P_are_unlike) (defBody st_P_are_unlike) (defScope st_P_are_unlike) .none kV_P_are_unlike dc_P_are_unlike pm_P_are_unlike an_P_are_unlike cd_P_are_unlike ct_P_are_unlike), sl_P_are_unlike⟩)
    (c_P_are_unlike : PySem.W.codeIn K cd_P_are_unlike "are_unlike" = true)
    (k_P_are_unlike : PySem.W.keepIn K (.ref a_P_are_unlike) = true)
    (h_P_sure_names : PySem.W.nsIn K mainGlobals "sure_names" = some (some (.ref a_P_sure_names)))
    (l_P_sure_names : K.lookup a_P_sure_names = some ⟨oc_P_sure_names, od_P_sure_names, .func (PySem.W.fnOf "sure_names" "sure_names" (defArgs st_P_sure_names) (defBody st_P_sure_names) (defScope st_P_sure_names) .none kV_P_sure_names dc_P_sure_names pm_P_sure_names an_P_sure_names cd_P_sure_names ct_P_sure_names), sl_P_sure_names⟩)
    (c_P_sure_names : PySem.W.codeIn K cd_P_sure_names "sure_names" = true)
    (k_P_sure_names : PySem.W.keepIn K (.ref a_P_sure_names) = true)
    (h_P_figures_of : PySem.W.nsIn K mainGlobals "figures_of" = some (some (.ref a_P_figures_of)))
    (l_P_figures_of : K.lookup a_P_figures_of = some ⟨oc_P_figures_of, od_P_figures_of, .func (PySem.W.fnOf "figures_of" "figures_of" (defArgs st_P_figures_of) (defBody st_P_figures_of) (defScope st_P_figures_of) .none kV_P_figures_of dc_P_figures_of pm_P_figures_of an_P_figures_of cd_P_figures_of ct_P_figures_of), sl_P_figures_of⟩)
    (c_P_figures_of : PySem.W.codeIn K cd_P_figures_of "figures_of" = true)
    (k_P_figures_of : PySem.W.keepIn K (.ref a_P_figures_of) = true)
    (h_P_rounds : PySem.W.nsIn K mainGlobals "rounds" = some (some (.ref a_P_rounds)))
    (l_P_rounds : K.lookup a_P_rounds = some ⟨oc_P_rounds, od_P_rounds, .func (PySem.W.fnOf "rounds" "rounds" (defArgs st_P_rounds) (defBody st_P_rounds) (defScope st_P_rounds) .none kV_P_rounds dc_P_rounds pm_P_rounds an_P_rounds cd_P_rounds ct_P_rounds), sl_P_rounds⟩)
    (c_P_rounds : PySem.W.codeIn K cd_P_rounds "rounds" = true)
    (k_P_rounds : PySem.W.keepIn K (.ref a_P_rounds) = true)
    (h_P_paint_by : PySem.W.nsIn K mainGlobals "paint_by" = some (some (.ref a_P_paint_by)))
    (l_P_paint_by : K.lookup a_P_paint_by = some ⟨oc_P_paint_by, od_P_paint_by, .func (PySem.W.fnOf "paint_by" "paint_by" (defArgs st_P_paint_by) (defBody st_P_paint_by) (defScope st_P_paint_by) .none kV_P_paint_by dc_P_paint_by pm_P_paint_by an_P_paint_by cd_P_paint_by ct_P_paint_by), sl_P_paint_by⟩)
    (c_P_paint_by : PySem.W.codeIn K cd_P_paint_by "paint_by" = true)
    (k_P_paint_by : PySem.W.keepIn K (.ref a_P_paint_by) = true)
    (h_P_painted : PySem.W.nsIn K mainGlobals "painted" = some (some (.ref a_P_painted)))
    (l_P_painted : K.lookup a_P_painted = some ⟨oc_P_painted, od_P_painted, .func (PySem.W.fnOf "painted" "painted" (defArgs st_P_painted) (defBody st_P_painted) (defScope st_P_painted) .none kV_P_painted dc_P_painted pm_P_painted an_P_painted cd_P_painted ct_P_painted), sl_P_painted⟩)
    (c_P_painted : PySem.W.codeIn K cd_P_painted "painted" = true)
    (k_P_painted : PySem.W.keepIn K (.ref a_P_painted) = true)
    (h_P_paint : PySem.W.nsIn K mainGlobals "paint" = some (some (.ref a_P_paint)))
    (l_P_paint : K.lookup a_P_paint = some ⟨oc_P_paint, od_P_paint, .func (PySem.W.fnOf "paint" "paint" (defArgs st_P_paint) (defBody st_P_paint) (defScope st_P_paint) .none (.ref D_P_paint) dc_P_paint pm_P_paint an_P_paint cd_P_paint ct_P_paint), sl_P_paint⟩)
    (c_P_paint : PySem.W.codeIn K cd_P_paint "paint" = true)
    (k_P_paint : PySem.W.keepIn K (.ref a_P_paint) = true)
    (d_P_paint_bits : PySem.W.nsIn K D_P_paint "bits" = some (some (.int 64 t_P_paint_bits)))
    (h_P_posts_in : PySem.W.nsIn K mainGlobals "posts_in" = some (some (.ref a_P_posts_in)))
    (l_P_posts_in : K.lookup a_P_posts_in = some ⟨oc_P_posts_in, od_P_posts_in, .func (PySem.W.fnOf "posts_in" "posts_in" (defArgs st_P_posts_in) (defBody st_P_posts_in) (defScope st_P_posts_in) .none kV_P_posts_in dc_P_posts_in pm_P_posts_in an_P_posts_in cd_P_posts_in ct_P_posts_in), sl_P_posts_in⟩)
    (c_P_posts_in : PySem.W.codeIn K cd_P_posts_in "posts_in" = true)
    (k_P_posts_in : PySem.W.keepIn K (.ref a_P_posts_in) = true)
    (h_P_posts : PySem.W.nsIn K mainGlobals "posts" = some (some (.ref a_P_posts)))
    (l_P_posts : K.lookup a_P_posts = some ⟨oc_P_posts, od_P_posts, .func (PySem.W.fnOf "posts" "posts" (defArgs st_P_posts) (defBody st_P_posts) (defScope st_P_posts) .none (.ref D_P_posts) dc_P_posts pm_P_posts an_P_posts cd_P_posts ct_P_posts), sl_P_posts⟩)
    (c_P_posts : PySem.W.codeIn K cd_P_posts "posts" = true)
    (k_P_posts : PySem.W.keepIn K (.ref a_P_posts) = true)
    (d_P_posts_bits : PySem.W.nsIn K D_P_posts "bits" = some (some (.int 64 t_P_posts_bits)))
    (h_P_thinned_in : PySem.W.nsIn K mainGlobals "thinned_in" = some (some (.ref a_P_thinned_in)))
    (l_P_thinned_in : K.lookup a_P_thinned_in = some ⟨oc_P_thinned_in, od_P_thinned_in, .func (PySem.W.fnOf "thinned_in" "thinned_in" (defArgs st_P_thinned_in) (defBody st_P_thinned_in) (defScope st_P_thinned_in) .none kV_P_thinned_in dc_P_thinned_in pm_P_thinned_in an_P_thinned_in cd_P_thinned_in ct_P_thinned_in), sl_P_thinned_in⟩)
    (c_P_thinned_in : PySem.W.codeIn K cd_P_thinned_in "thinned_in" = true)
    (k_P_thinned_in : PySem.W.keepIn K (.ref a_P_thinned_in) = true)
    (h_P_thinned : PySem.W.nsIn K mainGlobals "thinned" = some (some (.ref a_P_thinned)))
    (l_P_thinned : K.lookup a_P_thinned = some ⟨oc_P_thinned, od_P_thinned, .func (PySem.W.fnOf "thinned" "thinned" (defArgs st_P_thinned) (defBody st_P_thinned) (defScope st_P_thinned) .none (.ref D_P_thinned) dc_P_thinned pm_P_thinned an_P_thinned cd_P_thinned ct_P_thinned), sl_P_thinned⟩)
    (c_P_thinned : PySem.W.codeIn K cd_P_thinned "thinned" = true)
    (k_P_thinned : PySem.W.keepIn K (.ref a_P_thinned) = true)
    (d_P_thinned_bits : PySem.W.nsIn K D_P_thinned "bits" = some (some (.int 64 t_P_thinned_bits)))
    (h_L_law : PySem.W.nsIn K mainGlobals "law" = some (some (.ref a_L_law)))
    (l_L_law : K.lookup a_L_law = some ⟨oc_L_law, od_L_law, .func (PySem.W.fnOf "law" "law" (defArgs st_L_law) (defBody st_L_law) (defScope st_L_law) .none kV_L_law dc_L_law pm_L_law an_L_law cd_L_law ct_L_law), sl_L_law⟩)
    (c_L_law : PySem.W.codeIn K cd_L_law "law" = true)
    (k_L_law : PySem.W.keepIn K (.ref a_L_law) = true)
    (g_MOST_BITS : PySem.W.nsIn K mainGlobals "MOST_BITS" = some (some (.int 64 t_MOST_BITS)))
    (g_MOST_LEVEL : PySem.W.nsIn K mainGlobals "MOST_LEVEL" = some (some (.int 6 t_MOST_LEVEL)))
    (g_FEW : PySem.W.nsIn K mainGlobals "FEW" = some (some (.int 6 t_FEW)))
    (g_LAST_PAINTS : PySem.W.nsIn K mainGlobals "LAST_PAINTS" = some (some (.ref b_LAST_PAINTS)))
    (l_LAST_PAINTS : K.lookup b_LAST_PAINTS = some ⟨.type "tuple", od_LAST_PAINTS, .seq #[.int 5 t_LAST_PAINTS_0, .int 4 t_LAST_PAINTS_1, .int 3 t_LAST_PAINTS_2] n_LAST_PAINTS, sl_LAST_PAINTS⟩)
    (z_len : PySem.W.nsIn K mainGlobals "len" = some none)
    (z_range : PySem.W.nsIn K mainGlobals "range" = some none)
    (z_isinstance : PySem.W.nsIn K mainGlobals "isinstance" = some none)
    (z_int : PySem.W.nsIn K mainGlobals "int" = some none)
    (z_bool : PySem.W.nsIn K mainGlobals "bool" = some none)
    (z_list : PySem.W.nsIn K mainGlobals "list" = some none)
    (z_tuple : PySem.W.nsIn K mainGlobals "tuple" = some none)
    (z_str : PySem.W.nsIn K mainGlobals "str" = some none)
    (z_dict : PySem.W.nsIn K mainGlobals "dict" = some none)
    (z_set : PySem.W.nsIn K mainGlobals "set" = some none)
    (z_sorted : PySem.W.nsIn K mainGlobals "sorted" = some none)
    (z_repr : PySem.W.nsIn K mainGlobals "repr" = some none)
    (z_min : PySem.W.nsIn K mainGlobals "min" = some none)
    (z_max : PySem.W.nsIn K mainGlobals "max" = some none)
    (z_sum : PySem.W.nsIn K mainGlobals "sum" = some none)
    (z_all : PySem.W.nsIn K mainGlobals "all" = some none)
    (z_any : PySem.W.nsIn K mainGlobals "any" = some none)
    (z_zip : PySem.W.nsIn K mainGlobals "zip" = some none)
    (z_enumerate : PySem.W.nsIn K mainGlobals "enumerate" = some none)
    (z_abs : PySem.W.nsIn K mainGlobals "abs" = some none)
    (hcd_L_law : cd_L_law = .ref c_law)
    (tabs : PySem.W.CodeHd h c_law Pt ∧ h.get? Pt = some (PySem.W.tabObj #[]))
    (nK : K.lookup Pt = none) :
    ∃ (fd : FuncData) (cs : List (Addr × Addr)) (sp : L2.Sp), (∀ p ∈ cs, PySem.W.CodeHd h p.1 p.2 ∧ h.get? p.2 = some (PySem.W.tabObj #[])) ∧ (∀ p ∈ cs, K.lookup p.2 = none) ∧ (∀ (s : Shared) (u : Value), BindsTo s fd ⟨[u], []⟩ [("_law_script", u)]) ∧
      (∀ (H : L2.Hp) (a : Addr) (ns : List Int), ns.length ≤ 63 → (∀ z ∈ ns, Builtin.Int.intBits z ≤ 1048576) → L2.SqL K H a (ns.map V.int) → (∀ p ∈ cs, H p.2 = some (.tbl #[])) → sp [.ref a] H (fun v _ => v = .bl true) fun _ _ _ => False) ∧
      ∀ base : Heap, K.In base → base.Ns mainGlobals mg → (∀ p ∈ cs, LamX.TabB base mg p.1 p.2) → FnG l.prog w K mg base 10 fa fd q_L_law sp := by
  have e := hfa.symm.trans (PySem.W.mg_of X G h_L_law)
  cases e
  subst hcd_L_law
  have FC_L_law : FunC K "law" st_L_law fa c_law _ := ⟨_, _, _, _, _, _, _, _, rfl, l_L_law, c_L_law⟩
  have F_L_digit := fun_mk (st := st_L_digit) l_L_digit c_L_digit k_L_digit
  have F_L_of := fun_mk (st := st_L_of) l_L_of c_L_of k_L_of
  have F_L_great := fun_mk (st := st_L_great) l_L_great c_L_great k_L_great
  have F_L_names := fun_mk (st := st_L_names) l_L_names c_L_names k_L_names
  have F_L_ring_of := fun_mk (st := st_L_ring_of) l_L_ring_of c_L_ring_of k_L_ring_of
  have F_L_cell_at := fun_mk (st := st_L_cell_at) l_L_cell_at c_L_cell_at k_L_cell_at
  have F_L_odd_names := fun_mk (st := st_L_odd_names) l_L_odd_names c_L_odd_names k_L_odd_names
  have F_L_refused := fun_mk (st := st_L_refused) l_L_refused c_L_refused k_L_refused
  have F_L_due := fun_mk (st := st_L_due) l_L_due c_L_due k_L_due
  have F_P_is_from := fun_mk (st := st_P_is_from) l_P_is_from c_P_is_from k_P_is_from
  have F_P_sure_bits := fun_mk (st := st_P_sure_bits) l_P_sure_bits c_P_sure_bits k_P_sure_bits
  have F_P_are_unlike := fun_mk (st := st_P_are_unlike) l_P_are_unlike c_P_are_unlike k_P_are_unlike
  have F_P_sure_names := fun_mk (st := st_P_sure_names) l_P_sure_names c_P_sure_names k_P_sure_names
  have F_P_figures_of := fun_mk (st := st_P_figures_of) l_P_figures_of c_P_figures_of k_P_figures_of
  have F_P_rounds := fun_mk (st := st_P_rounds) l_P_rounds c_P_rounds k_P_rounds
  have F_P_paint_by := fun_mk (st := st_P_paint_by) l_P_paint_by c_P_paint_by k_P_paint_by
  have F_P_painted := fun_mk (st := st_P_painted) l_P_painted c_P_painted k_P_painted
  have F_P_paint := fun_mk (st := st_P_paint) l_P_paint c_P_paint k_P_paint
  have F_P_posts_in := fun_mk (st := st_P_posts_in) l_P_posts_in c_P_posts_in k_P_posts_in
  have F_P_posts := fun_mk (st := st_P_posts) l_P_posts c_P_posts k_P_posts
  have F_P_thinned_in := fun_mk (st := st_P_thinned_in) l_P_thinned_in c_P_thinned_in k_P_thinned_in
  have F_P_thinned := fun_mk (st := st_P_thinned) l_P_thinned c_P_thinned k_P_thinned
  have F_L_law := fun_mk (st := st_L_law) l_L_law c_L_law k_L_law
  have F_XTooFew := fun_mk (st := st_XTooFew) xfl_TooFew xfc_TooFew xfk_TooFew
  have b_XTooFew := F_XTooFew.binds (ps := ["self", "level"]) fun _ _ _ _ _ _ us hl => match us, hl with | [_, _], _ => rfl
  have is_NoBits : XIs K mg "NoBits" := XIs.of (PySem.W.mg_of X G g_NoBits) xg_NoBits xgg_NoBits xs_NoBits xc_NoBits xd_NoBits xm_NoBits
  have is_NoNames : XIs K mg "NoNames" := XIs.of (PySem.W.mg_of X G g_NoNames) xg_NoNames xgg_NoNames xs_NoNames xc_NoNames xd_NoNames xm_NoNames
  have is_TooFew : XIs K mg "TooFew" := XIs.of (PySem.W.mg_of X G g_TooFew) xg_TooFew xgg_TooFew xs_TooFew xc_TooFew xd_TooFew xm_TooFew
  have is_NoLevel : XIs K mg "NoLevel" := XIs.of (PySem.W.mg_of X G g_NoLevel) xg_NoLevel xgg_NoLevel xs_NoLevel xc_NoLevel xd_NoLevel xm_NoLevel
  have b_L_digit := F_L_digit.binds (ps := q_L_digit) fun _ _ _ _ _ _ us hl => match us, hl with | [_, _], _ => rfl
  have b_L_of := F_L_of.binds (ps := q_L_of) fun _ _ _ _ _ _ us hl => match us, hl with | [_, _], _ => rfl
  have b_L_great := F_L_great.binds (ps := q_L_great) fun _ _ _ _ _ _ us hl => match us, hl with | [_], _ => rfl
  have b_L_names := F_L_names.binds (ps := q_L_names) fun _ _ _ _ _ _ us hl => match us, hl with | [_, _, _], _ => rfl
  have b_L_ring_of := F_L_ring_of.binds (ps := q_L_ring_of) fun _ _ _ _ _ _ us hl => match us, hl with | [_, _], _ => rfl
  have b_L_cell_at := F_L_cell_at.binds (ps := q_L_cell_at) fun _ _ _ _ _ _ us hl => match us, hl with | [_, _], _ => rfl
  have b_L_odd_names := F_L_odd_names.binds (ps := q_L_odd_names) fun _ _ _ _ _ _ us hl => match us, hl with | [_, _, _], _ => rfl
  have b_L_refused := F_L_refused.binds (ps := q_L_refused) fun _ _ _ _ _ _ us hl => match us, hl with | [_], _ => rfl
  have b_L_due := F_L_due.binds (ps := q_L_due) fun _ _ _ _ _ _ us hl => match us, hl with | [_, _], _ => rfl
  have b_P_is_from := F_P_is_from.binds (ps := q_P_is_from) fun _ _ _ _ _ _ us hl => match us, hl with | [_, _, _], _ => rfl
  have b_P_sure_bits := F_P_sure_bits.binds (ps := q_P_sure_bits) fun _ _ _ _ _ _ us hl => match us, hl with | [_], _ => rfl
  have b_P_are_unlike := F_P_are_unlike.binds (ps := q_P_are_unlike) fun _ _ _ _ _ _ us hl => match us, hl with | [_, _], _ => rfl
  have b_P_sure_names := F_P_sure_names.binds (ps := q_P_sure_names) fun _ _ _ _ _ _ us hl => match us, hl with | [_, _], _ => rfl
  have b_P_figures_of := F_P_figures_of.binds (ps := q_P_figures_of) fun _ _ _ _ _ _ us hl => match us, hl with | [_], _ => rfl
  have b_P_rounds := F_P_rounds.binds (ps := q_P_rounds) fun _ _ _ _ _ _ us hl => match us, hl with | [_], _ => rfl
  have b_P_paint_by := F_P_paint_by.binds (ps := q_P_paint_by) fun _ _ _ _ _ _ us hl => match us, hl with | [_, _], _ => rfl
  have b_P_painted := F_P_painted.binds (ps := q_P_painted) fun _ _ _ _ _ _ us hl => match us, hl with | [_, _], _ => rfl
  have FD_P_paint : L2.FunD K "paint" "paint" (defArgs st_P_paint) (defBody st_P_paint) (defScope st_P_paint) [] [("bits", .int 64)] a_P_paint _ := ⟨⟨_, _, _, _, _, _, _, _, _, _, rfl, l_P_paint, c_P_paint, .inl ⟨rfl, rfl⟩, .inr ⟨_, rfl, fun q hq => by
    rcases List.mem_cons.mp hq with rfl | hq
    · exact ⟨_, d_P_paint_bits, ⟨_, rfl⟩⟩
    · cases hq⟩⟩, k_P_paint⟩
  have b_P_paint : Dfl K mg (PySem.W.fnOf "paint" "paint" (defArgs st_P_paint) (defBody st_P_paint) (defScope st_P_paint) .none (.ref D_P_paint) dc_P_paint pm_P_paint an_P_paint cd_P_paint ct_P_paint) q_P_paint [.int 64] := by
    obtain ⟨ds, r, b⟩ := FD_P_paint.binds0 (ps := q_P_paint) 1 (by decide) rfl (fun D doc pm an cdv ct us ks h1 h2 => by
      match us, ks, h1, h2 with
      | [_], [_], _, _ => exact ⟨_, _, _, _, _, _, rfl, rfl, rfl⟩)
    exact ⟨_, ds, b, r, (dds_int 64 dds_nil)⟩
  have p_P_paint : Pats K mg (PySem.W.fnOf "paint" "paint" (defArgs st_P_paint) (defBody st_P_paint) (defScope st_P_paint) .none (.ref D_P_paint) dc_P_paint pm_P_paint an_P_paint cd_P_paint ct_P_paint) q_P_paint [(1, ["bits"], [0, 1])] := pats_cons (kwOk_of [0, 1] (fun s us ws h1 h2 => match us, ws, h1, h2 with | [_], [_], _, _ => .of_eq rfl)) (pats_nil)
  have b_P_posts_in := F_P_posts_in.binds (ps := q_P_posts_in) fun _ _ _ _ _ _ us hl => match us, hl with | [_, _], _ => rfl
  have FD_P_posts : L2.FunD K "posts" "posts" (defArgs st_P_posts) (defBody st_P_posts) (defScope st_P_posts) [] [("bits", .int 64)] a_P_posts _ := ⟨⟨_, _, _, _, _, _, _, _, _, _, rfl, l_P_posts, c_P_posts, .inl ⟨rfl, rfl⟩, .inr ⟨_, rfl, fun q hq => by
    rcases List.mem_cons.mp hq with rfl | hq
    · exact ⟨_, d_P_posts_bits, ⟨_, rfl⟩⟩
    · cases hq⟩⟩, k_P_posts⟩
  have b_P_posts : Dfl K mg (PySem.W.fnOf "posts" "posts" (defArgs st_P_posts) (defBody st_P_posts) (defScope st_P_posts) .none (.ref D_P_posts) dc_P_posts pm_P_posts an_P_posts cd_P_posts ct_P_posts) q_P_posts [.int 64] := by
    obtain ⟨ds, r, b⟩ := FD_P_posts.binds0 (ps := q_P_posts) 1 (by decide) rfl (fun D doc pm an cdv ct us ks h1 h2 => by
      match us, ks, h1, h2 with
      | [_], [_], _, _ => exact ⟨_, _, _, _, _, _, rfl, rfl, rfl⟩)
    exact ⟨_, ds, b, r, (dds_int 64 dds_nil)⟩
  have p_P_posts : Pats K mg (PySem.W.fnOf "posts" "posts" (defArgs st_P_posts) (defBody st_P_posts) (defScope st_P_posts) .none (.ref D_P_posts) dc_P_posts pm_P_posts an_P_posts cd_P_posts ct_P_posts) q_P_posts [(1, ["bits"], [0, 1])] := pats_cons (kwOk_of [0, 1] (fun s us ws h1 h2 => match us, ws, h1, h2 with | [_], [_], _, _ => .of_eq rfl)) (pats_nil)
  have b_P_thinned_in := F_P_thinned_in.binds (ps := q_P_thinned_in) fun _ _ _ _ _ _ us hl => match us, hl with | [_, _, _], _ => rfl
  have FD_P_thinned : L2.FunD K "thinned" "thinned" (defArgs st_P_thinned) (defBody st_P_thinned) (defScope st_P_thinned) [] [("bits", .int 64)] a_P_thinned _ := ⟨⟨_, _, _, _, _, _, _, _, _, _, rfl, l_P_thinned, c_P_thinned, .inl ⟨rfl, rfl⟩, .inr ⟨_, rfl, fun q hq => by
    rcases List.mem_cons.mp hq with rfl | hq
    · exact ⟨_, d_P_thinned_bits, ⟨_, rfl⟩⟩
    · cases hq⟩⟩, k_P_thinned⟩
  have b_P_thinned : Dfl K mg (PySem.W.fnOf "thinned" "thinned" (defArgs st_P_thinned) (defBody st_P_thinned) (defScope st_P_thinned) .none (.ref D_P_thinned) dc_P_thinned pm_P_thinned an_P_thinned cd_P_thinned ct_P_thinned) q_P_thinned [.int 64] := by
    obtain ⟨ds, r, b⟩ := FD_P_thinned.binds0 (ps := q_P_thinned) 2 (by decide) rfl (fun D doc pm an cdv ct us ks h1 h2 => by
      match us, ks, h1, h2 with
      | [_, _], [_], _, _ => exact ⟨_, _, _, _, _, _, rfl, rfl, rfl⟩)
    exact ⟨_, ds, b, r, (dds_int 64 dds_nil)⟩
  have p_P_thinned : Pats K mg (PySem.W.fnOf "thinned" "thinned" (defArgs st_P_thinned) (defBody st_P_thinned) (defScope st_P_thinned) .none (.ref D_P_thinned) dc_P_thinned pm_P_thinned an_P_thinned cd_P_thinned ct_P_thinned) q_P_thinned [(2, ["bits"], [0, 1, 2])] := pats_cons (kwOk_of [0, 1, 2] (fun s us ws h1 h2 => match us, ws, h1, h2 with | [_, _], [_], _, _ => .of_eq rfl)) (pats_nil)
  have Z : Wr K mg := ⟨⟨PySem.W.mg_none_of X G z_len, PySem.W.mg_none_of X G z_range, PySem.W.mg_none_of X G z_isinstance, PySem.W.mg_none_of X G z_int, PySem.W.mg_none_of X G z_bool, PySem.W.mg_none_of X G z_list, PySem.W.mg_none_of X G z_tuple, PySem.W.mg_none_of X G z_str, PySem.W.mg_none_of X G z_dict, PySem.W.mg_none_of X G z_set, PySem.W.mg_none_of X G z_sorted, PySem.W.mg_none_of X G z_repr, PySem.W.mg_none_of X G z_min, PySem.W.mg_none_of X G z_max, PySem.W.mg_none_of X G z_sum, PySem.W.mg_none_of X G z_all, PySem.W.mg_none_of X G z_any, PySem.W.mg_none_of X G z_zip, PySem.W.mg_none_of X G z_enumerate, PySem.W.mg_none_of X G z_abs⟩,
    ⟨_, PySem.W.mg_of X G g_MOST_BITS⟩,
    ⟨_, PySem.W.mg_of X G g_MOST_LEVEL⟩,
    ⟨_, PySem.W.mg_of X G g_FEW⟩,
    ⟨_, [.int 5, .int 4, .int 3], PySem.W.mg_of X G g_LAST_PAINTS, .inr ⟨_, _, _, l_LAST_PAINTS, rfl, rfl, (by show (3 : Nat) ≤ sizeLine; decide), .cons ⟨_, rfl⟩ (.cons ⟨_, rfl⟩ (.cons ⟨_, rfl⟩ (.nil)))⟩, fun F => .cons (.int _) (.cons (.int _) (.cons (.int _) (.nil)))⟩,
    ⟨_, PySem.W.mg_of X G g_NoBits, xi_NoBits, xk_NoBits, xs_NoBits, xt_NoBits⟩,
    ⟨_, PySem.W.mg_of X G g_NoNames, xi_NoNames, xk_NoNames, xs_NoNames, xt_NoNames⟩,
    ⟨_, PySem.W.mg_of X G g_NoLevel, xi_NoLevel, xk_NoLevel, xs_NoLevel, xt_NoLevel⟩,
    ⟨_, _, _, PySem.W.mg_of X G g_TooFew, ⟨⟨_, _, _, _, _, _, _, _, _, _, _, _, _, _, _, xl_TooFew, xv_TooFew⟩, xa_TooFew, xs_TooFew, xt_TooFew, xk_TooFew⟩, xn_TooFew, xy_TooFew, F_XTooFew, b_XTooFew, xf_TooFew⟩,
    ⟨_, PySem.W.mg_of X G g_RuleError, rr_RuleError, rg_RuleError, rv_RuleError⟩,
    ⟨_, PySem.W.mg_of X G g_RuleError, (all_cons (at_pair (PySem.W.mg_of X G g_NoBits) em_NoBits_RuleError) (all_cons (at_pair (PySem.W.mg_of X G g_NoNames) em_NoNames_RuleError) (all_cons (at_pair (PySem.W.mg_of X G g_TooFew) em_TooFew_RuleError) (all_cons (at_pair (PySem.W.mg_of X G g_NoLevel) em_NoLevel_RuleError) all_nil))))⟩,
    ⟨_, PySem.W.mg_of X G g_TooFew, (all_cons (⟨is_NoBits, at_pair (PySem.W.mg_of X G g_NoBits) kp_NoBits_TooFew⟩) (all_cons (⟨is_NoNames, at_pair (PySem.W.mg_of X G g_NoNames) kp_NoNames_TooFew⟩) (all_cons (⟨is_TooFew, at_pair (PySem.W.mg_of X G g_TooFew) kp_TooFew_TooFew⟩) (all_cons (⟨is_NoLevel, at_pair (PySem.W.mg_of X G g_NoLevel) kp_NoLevel_TooFew⟩) all_nil))))⟩,
    ⟨_, PySem.W.mg_of X G g_NoLevel, (all_cons (⟨is_NoBits, at_pair (PySem.W.mg_of X G g_NoBits) kp_NoBits_NoLevel⟩) (all_cons (⟨is_NoNames, at_pair (PySem.W.mg_of X G g_NoNames) kp_NoNames_NoLevel⟩) (all_cons (⟨is_TooFew, at_pair (PySem.W.mg_of X G g_TooFew) kp_TooFew_NoLevel⟩) (all_cons (⟨is_NoLevel, at_pair (PySem.W.mg_of X G g_NoLevel) kp_NoLevel_NoLevel⟩) all_nil))))⟩,
    ⟨_, PySem.W.mg_of X G g_NoNames, (all_cons (⟨is_NoBits, at_pair (PySem.W.mg_of X G g_NoBits) kp_NoBits_NoNames⟩) (all_cons (⟨is_NoNames, at_pair (PySem.W.mg_of X G g_NoNames) kp_NoNames_NoNames⟩) (all_cons (⟨is_TooFew, at_pair (PySem.W.mg_of X G g_TooFew) kp_TooFew_NoNames⟩) (all_cons (⟨is_NoLevel, at_pair (PySem.W.mg_of X G g_NoLevel) kp_NoLevel_NoNames⟩) all_nil))))⟩,
    ⟨_, PySem.W.mg_of X G g_NoBits, (all_cons (⟨is_NoBits, at_pair (PySem.W.mg_of X G g_NoBits) kp_NoBits_NoBits⟩) (all_cons (⟨is_NoNames, at_pair (PySem.W.mg_of X G g_NoNames) kp_NoNames_NoBits⟩) (all_cons (⟨is_TooFew, at_pair (PySem.W.mg_of X G g_TooFew) kp_TooFew_NoBits⟩) (all_cons (⟨is_NoLevel, at_pair (PySem.W.mg_of X G g_NoLevel) kp_NoLevel_NoBits⟩) all_nil))))⟩,
    ⟨_, PySem.W.mg_of X G g_NoView, (all_cons (⟨is_NoBits, at_pair (PySem.W.mg_of X G g_NoBits) kp_NoBits_NoView⟩) (all_cons (⟨is_NoNames, at_pair (PySem.W.mg_of X G g_NoNames) kp_NoNames_NoView⟩) (all_cons (⟨is_TooFew, at_pair (PySem.W.mg_of X G g_TooFew) kp_TooFew_NoView⟩) (all_cons (⟨is_NoLevel, at_pair (PySem.W.mg_of X G g_NoLevel) kp_NoLevel_NoView⟩) all_nil))))⟩,
    ⟨_, PySem.W.mg_of X G g_NoKind, (all_cons (⟨is_NoBits, at_pair (PySem.W.mg_of X G g_NoBits) kp_NoBits_NoKind⟩) (all_cons (⟨is_NoNames, at_pair (PySem.W.mg_of X G g_NoNames) kp_NoNames_NoKind⟩) (all_cons (⟨is_TooFew, at_pair (PySem.W.mg_of X G g_TooFew) kp_TooFew_NoKind⟩) (all_cons (⟨is_NoLevel, at_pair (PySem.W.mg_of X G g_NoLevel) kp_NoLevel_NoKind⟩) all_nil))))⟩,
    ⟨PySem.W.mg_none_of X G zb_ValueError, PyProof.Rows.Boot.«ValueError», (all_cons (⟨is_NoBits, at_pair (PySem.W.mg_of X G g_NoBits) kq_NoBits_ValueError⟩) (all_cons (⟨is_NoNames, at_pair (PySem.W.mg_of X G g_NoNames) kq_NoNames_ValueError⟩) (all_cons (⟨is_TooFew, at_pair (PySem.W.mg_of X G g_TooFew) kq_TooFew_ValueError⟩) (all_cons (⟨is_NoLevel, at_pair (PySem.W.mg_of X G g_NoLevel) kq_NoLevel_ValueError⟩) all_nil))))⟩,
    ⟨xo_n, xo_t⟩,
    ⟨⟨_, _, F_L_digit, PySem.W.mg_of X G h_L_digit, b_L_digit⟩⟩,
    ⟨⟨_, _, F_L_of, PySem.W.mg_of X G h_L_of, b_L_of⟩⟩,
    ⟨⟨_, _, F_L_great, PySem.W.mg_of X G h_L_great, b_L_great⟩⟩,
    ⟨⟨_, _, F_L_names, PySem.W.mg_of X G h_L_names, b_L_names⟩⟩,
    ⟨⟨_, _, F_L_ring_of, PySem.W.mg_of X G h_L_ring_of, b_L_ring_of⟩⟩,
    ⟨⟨_, _, F_L_cell_at, PySem.W.mg_of X G h_L_cell_at, b_L_cell_at⟩⟩,
    ⟨⟨_, _, F_L_odd_names, PySem.W.mg_of X G h_L_odd_names, b_L_odd_names⟩⟩,
    ⟨⟨_, _, F_L_refused, PySem.W.mg_of X G h_L_refused, b_L_refused⟩⟩,
    ⟨⟨_, _, F_L_due, PySem.W.mg_of X G h_L_due, b_L_due⟩⟩,
    ⟨⟨_, _, F_P_is_from, PySem.W.mg_of X G h_P_is_from, b_P_is_from⟩⟩,
    ⟨⟨_, _, F_P_sure_bits, PySem.W.mg_of X G h_P_sure_bits, b_P_sure_bits⟩⟩,
    ⟨⟨_, _, F_P_are_unlike, PySem.W.mg_of X G h_P_are_unlike, b_P_are_unlike⟩⟩,
    ⟨⟨_, _, F_P_sure_names, PySem.W.mg_of X G h_P_sure_names, b_P_sure_names⟩⟩,
    ⟨⟨_, _, F_P_figures_of, PySem.W.mg_of X G h_P_figures_of, b_P_figures_of⟩⟩,
    ⟨⟨_, _, F_P_rounds, PySem.W.mg_of X G h_P_rounds, b_P_rounds⟩⟩,
    ⟨⟨_, _, F_P_paint_by, PySem.W.mg_of X G h_P_paint_by, b_P_paint_by⟩⟩,
    ⟨⟨_, _, F_P_painted, PySem.W.mg_of X G h_P_painted, b_P_painted⟩⟩,
    ⟨⟨_, _, F_P_paint, PySem.W.mg_of X G h_P_paint, b_P_paint, p_P_paint⟩⟩,
    ⟨⟨_, _, F_P_posts_in, PySem.W.mg_of X G h_P_posts_in, b_P_posts_in⟩⟩,
    ⟨⟨_, _, F_P_posts, PySem.W.mg_of X G h_P_posts, b_P_posts, p_P_posts⟩⟩,
    ⟨⟨_, _, F_P_thinned_in, PySem.W.mg_of X G h_P_thinned_in, b_P_thinned_in⟩⟩,
    ⟨⟨_, _, F_P_thinned, PySem.W.mg_of X G h_P_thinned, b_P_thinned, p_P_thinned⟩⟩⟩
  have one : ∀ {P : Addr × Addr → Prop}, P (c_law, Pt) → ∀ p ∈ [(c_law, Pt)], P p := fun h p hp => by rw [List.mem_singleton.mp hp]; exact h
  exact ⟨_, [(c_law, Pt)], spBT K mg [(Pt, (PyProof.Rows.envOfC "law" (defScope st_L_law) 0 0 .none).qual ++ "<lambda>")] [false] r_L_law, one tabs, one nK, fun s v => .of_eq rfl, fun H a ns hl hb hS ht => sp_lawT hS (by simp) (fun p hp => by rw [List.mem_singleton.mp hp]; exact ht _ (List.mem_singleton_self _)) (law_true ns hl hb), fun base _ _ TB => ok_L_law Z (TB _ (List.mem_singleton_self _)) FC_L_law⟩
end K53
open PySem PySem.W PyProof.Rows
set_option maxHeartbeats 0 in
theorem PySem.Challenge.cw_ringrules_k53_what_are_no_names_holds : PySem.Challenge.rw_ringrules_k53_what_are_no_names.Holds := by
  w_on; o_law; k_head; (case hw => w_witness2)
  k_fill
  refine B.walk_BT (l := PySem.Challenge.rw_ringrules_k53_what_are_no_names) (n := 63) (k := 10) (x := "_law_script") rfl (by decide) rfl ⟨rfl, by decide, by decide⟩ (fun w h Y => PySem.W.km_in_of Y) ?F
  case F =>
    intro w mg fa h KX G htab hmg
    refine' K53.all_mk KX G hmg ?g_RuleError ?g_NoNames ?g_NoBits ?g_NoLevel ?g_TooFew ?g_NoKind ?g_NoView ?xi_NoNames ?xk_NoNames ?xt_NoNames ?xs_NoNames ?xg_NoNames ?xgg_NoNames ?xd_NoNames ?xc_NoNames ?xm_NoNames ?xi_NoBits ?xk_NoBits ?xt_NoBits ?xs_NoBits ?xg_NoBits ?xgg_NoBits ?xd_NoBits ?xc_NoBits ?xm_NoBits ?xi_NoLevel ?xk_NoLevel ?xt_NoLevel ?xs_NoLevel ?xg_NoLevel ?xgg_NoLevel ?xd_NoLevel ?xc_NoLevel ?xm_NoLevel ?xk_TooFew ?xt_TooFew ?xs_TooFew ?xg_TooFew ?xgg_TooFew ?xd_TooFew ?xc_TooFew ?xm_TooFew ?xl_TooFew ?xv_TooFew ?xa_TooFew ?xn_TooFew ?xy_TooFew ?xfl_TooFew ?xfc_TooFew ?xfk_TooFew ?xf_TooFew ?rr_RuleError ?rg_RuleError ?rv_RuleError ?em_NoBits_RuleError ?em_NoNames_RuleError ?em_TooFew_RuleError ?em_NoLevel_RuleError ?kp_NoBits_TooFew ?kp_NoNames_TooFew ?kp_TooFew_TooFew ?kp_NoLevel_TooFew ?kp_NoBits_NoLevel ?kp_NoNames_NoLevel ?kp_TooFew_NoLevel ?kp_NoLevel_NoLevel ?kp_NoBits_NoNames ?kp_NoNames_NoNames ?kp_TooFew_NoNames ?kp_NoLevel_NoNames ?kp_NoBits_NoBits ?kp_NoNames_NoBits ?kp_TooFew_NoBits ?kp_NoLevel_NoBits ?kp_NoBits_NoView ?kp_NoNames_NoView ?kp_TooFew_NoView ?kp_NoLevel_NoView ?kp_NoBits_NoKind ?kp_NoNames_NoKind ?kp_TooFew_NoKind ?kp_NoLevel_NoKind ?zb_ValueError ?kq_NoBits_ValueError ?kq_NoNames_ValueError ?kq_TooFew_ValueError ?kq_NoLevel_ValueError ?xo_n ?xo_t ?h_L_digit ?l_L_digit ?c_L_digit ?k_L_digit ?h_L_of ?l_L_of ?c_L_of ?k_L_of ?h_L_great ?l_L_great ?c_L_great ?k_L_great ?h_L_names ?l_L_names ?c_L_names ?k_L_names ?h_L_ring_of ?l_L_ring_of ?c_L_ring_of ?k_L_ring_of ?h_L_cell_at ?l_L_cell_at ?c_L_cell_at ?k_L_cell_at ?h_L_odd_names ?l_L_odd_names ?c_L_odd_names ?k_L_odd_names ?h_L_refused ?l_L_refused ?c_L_refused ?k_L_refused ?h_L_due ?l_L_due ?c_L_due ?k_L_due ?h_P_is_from ?l_P_is_from ?c_P_is_from ?k_P_is_from ?h_P_sure_bits ?l_P_sure_bits ?c_P_sure_bits ?k_P_sure_bits ?h_P_are_unlike ?l_P_are_unlike ?c_P_are_unlike ?k_P_are_unlike ?h_P_sure_names ?l_P_sure_names ?c_P_sure_names ?k_P_sure_names ?h_P_figures_of ?l_P_figures_of ?c_P_figures_of ?k_P_figures_of ?h_P_rounds ?l_P_rounds ?c_P_rounds ?k_P_rounds ?h_P_paint_by ?l_P_paint_by ?c_P_paint_by ?k_P_paint_by ?h_P_painted ?l_P_painted ?c_P_painted ?k_P_painted ?h_P_paint ?l_P_paint ?c_P_paint ?k_P_paint ?d_P_paint_bits ?h_P_posts_in ?l_P_posts_in ?c_P_posts_in ?k_P_posts_in ?h_P_posts ?l_P_posts ?c_P_posts ?k_P_posts ?d_P_posts_bits ?h_P_thinned_in ?l_P_thinned_in ?c_P_thinned_in ?k_P_thinned_in ?h_P_thinned ?l_P_thinned ?c_P_thinned ?k_P_thinned ?d_P_thinned_bits ?h_L_law ?l_L_law ?c_L_law ?k_L_law ?g_MOST_BITS ?g_MOST_LEVEL ?g_FEW ?g_LAST_PAINTS ?l_LAST_PAINTS ?z_len ?z_range ?z_isinstance ?z_int ?z_bool ?z_list ?z_tuple ?z_str ?z_dict ?z_set ?z_sorted ?z_repr ?z_min ?z_max ?z_sum ?z_all ?z_any ?z_zip ?z_enumerate ?z_abs ?hcd_L_law ?tabs ?nK
    (case g_RuleError => k_is); (case g_NoNames => k_is); (case g_NoBits => k_is); (case g_NoLevel => k_is); (case g_TooFew => k_is); (case g_NoKind => k_is); (case g_NoView => k_is); (case xi_NoNames => k_exc); (case xk_NoNames => k_is); (case xt_NoNames => k_is); (case xs_NoNames => k_is); (case xg_NoNames => k_is); (case xgg_NoNames => k_is); (case xd_NoNames => k_is); (case xc_NoNames => k_is); (case xm_NoNames => k_is); (case xi_NoBits => k_exc); (case xk_NoBits => k_is); (case xt_NoBits => k_is); (case xs_NoBits => k_is); (case xg_NoBits => k_is); (case xgg_NoBits => k_is); (case xd_NoBits => k_is); (case xc_NoBits => k_is); (case xm_NoBits => k_is); (case xi_NoLevel => k_exc); (case xk_NoLevel => k_is); (case xt_NoLevel => k_is); (case xs_NoLevel => k_is); (case xg_NoLevel => k_is); (case xgg_NoLevel => k_is); (case xd_NoLevel => k_is); (case xc_NoLevel => k_is); (case xm_NoLevel => k_is); (case xk_TooFew => k_is); (case xt_TooFew => k_is); (case xs_TooFew => k_is); (case xg_TooFew => k_is); (case xgg_TooFew => k_is); (case xd_TooFew => k_is); (case xc_TooFew => k_is); (case xm_TooFew => k_is); (case xl_TooFew => k_is); (case xv_TooFew => first | rfl | decide +kernel); (case xa_TooFew => k_is); (case xn_TooFew => k_is); (case xy_TooFew => k_is); (case xfl_TooFew => k_is); (case xfc_TooFew => k_is); (case xfk_TooFew => k_is); (case xf_TooFew => k_is); (case rr_RuleError => k_is); (case rg_RuleError => k_is); (case rv_RuleError => k_is); (case em_NoBits_RuleError => kts_exm); (case em_NoNames_RuleError => kts_exm); (case em_TooFew_RuleError => kts_exm); (case em_NoLevel_RuleError => kts_exm); (case kp_NoBits_TooFew => kit_is); (case kp_NoNames_TooFew => kit_is); (case kp_TooFew_TooFew => kit_is); (case kp_NoLevel_TooFew => kit_is); (case kp_NoBits_NoLevel => kit_is); (case kp_NoNames_NoLevel => kit_is); (case kp_TooFew_NoLevel => kit_is); (case kp_NoLevel_NoLevel => kit_is); (case kp_NoBits_NoNames => kit_is); (case kp_NoNames_NoNames => kit_is); (case kp_TooFew_NoNames => kit_is); (case kp_NoLevel_NoNames => kit_is); (case kp_NoBits_NoBits => kit_is); (case kp_NoNames_NoBits => kit_is); (case kp_TooFew_NoBits => kit_is); (case kp_NoLevel_NoBits => kit_is); (case kp_NoBits_NoView => kit_is); (case kp_NoNames_NoView => kit_is); (case kp_TooFew_NoView => kit_is); (case kp_NoLevel_NoView => kit_is); (case kp_NoBits_NoKind => kit_is); (case kp_NoNames_NoKind => kit_is); (case kp_TooFew_NoKind => kit_is); (case kp_NoLevel_NoKind => kit_is); (case zb_ValueError => k_is); (case kq_NoBits_ValueError => kit_is); (case kq_NoNames_ValueError => kit_is); (case kq_TooFew_ValueError => kit_is); (case kq_NoLevel_ValueError => kit_is); (case xo_n => k_is); (case xo_t => k_is); (case h_L_digit => k_is); (case l_L_digit => k_is); (case c_L_digit => k_is); (case k_L_digit => k_is); (case h_L_of => k_is); (case l_L_of => k_is); (case c_L_of => k_is); (case k_L_of => k_is); (case h_L_great => k_is); (case l_L_great => k_is); (case c_L_great => k_is); (case k_L_great => k_is); (case h_L_names => k_is); (case l_L_names => k_is); (case c_L_names => k_is); (case k_L_names => k_is); (case h_L_ring_of => k_is); (case l_L_ring_of => k_is); (case c_L_ring_of => k_is); (case k_L_ring_of => k_is); (case h_L_cell_at => k_is); (case l_L_cell_at => k_is); (case c_L_cell_at => k_is); (case k_L_cell_at => k_is); (case h_L_odd_names => k_is); (case l_L_odd_names => k_is); (case c_L_odd_names => k_is); (case k_L_odd_names => k_is); (case h_L_refused => k_is); (case l_L_refused => k_is); (case c_L_refused => k_is); (case k_L_refused => k_is); (case h_L_due => k_is); (case l_L_due => k_is); (case c_L_due => k_is); (case k_L_due => k_is); (case h_P_is_from => k_is); (case l_P_is_from => k_is); (case c_P_is_from => k_is); (case k_P_is_from => k_is); (case h_P_sure_bits => k_is); (case l_P_sure_bits => k_is); (case c_P_sure_bits => k_is); (case k_P_sure_bits => k_is); (case h_P_are_unlike => k_is); (case l_P_are_unlike => k_is); (case c_P_are_unlike => k_is); (case k_P_are_unlike => k_is); (case h_P_sure_names => k_is); (case l_P_sure_names => k_is); (case c_P_sure_names => k_is); (case k_P_sure_names => k_is); (case h_P_figures_of => k_is); (case l_P_figures_of => k_is); (case c_P_figures_of => k_is); (case k_P_figures_of => k_is); (case h_P_rounds => k_is); (case l_P_rounds => k_is); (case c_P_rounds => k_is); (case k_P_rounds => k_is); (case h_P_paint_by => k_is); (case l_P_paint_by => k_is); (case c_P_paint_by => k_is); (case k_P_paint_by => k_is); (case h_P_painted => k_is); (case l_P_painted => k_is); (case c_P_painted => k_is); (case k_P_painted => k_is); (case h_P_paint => k_is); (case l_P_paint => k_is); (case c_P_paint => k_is); (case k_P_paint => k_is); (case d_P_paint_bits => k_is); (case h_P_posts_in => k_is); (case l_P_posts_in => k_is); (case c_P_posts_in => k_is); (case k_P_posts_in => k_is); (case h_P_posts => k_is); (case l_P_posts => k_is); (case c_P_posts => k_is); (case k_P_posts => k_is); (case d_P_posts_bits => k_is); (case h_P_thinned_in => k_is); (case l_P_thinned_in => k_is); (case c_P_thinned_in => k_is); (case k_P_thinned_in => k_is); (case h_P_thinned => k_is); (case l_P_thinned => k_is); (case c_P_thinned => k_is); (case k_P_thinned => k_is); (case d_P_thinned_bits => k_is); (case h_L_law => k_is); (case l_L_law => k_is); (case c_L_law => k_is); (case k_L_law => k_is); (case g_MOST_BITS => k_is); (case g_MOST_LEVEL => k_is); (case g_FEW => k_is); (case g_LAST_PAINTS => k_is); (case l_LAST_PAINTS => k_is); (case z_len => k_is); (case z_range => k_is); (case z_isinstance => k_is); (case z_int => k_is); (case z_bool => k_is); (case z_list => k_is); (case z_tuple => k_is); (case z_str => k_is); (case z_dict => k_is); (case z_set => k_is); (case z_sorted => k_is); (case z_repr => k_is); (case z_min => k_is); (case z_max => k_is); (case z_sum => k_is); (case z_all => k_is); (case z_any => k_is); (case z_zip => k_is); (case z_enumerate => k_is); (case z_abs => k_is); (case hcd_L_law => rfl); (case tabs => exact htab _ "law" _ _ (by rfl) (by rfl)); (case nK => rfl)

